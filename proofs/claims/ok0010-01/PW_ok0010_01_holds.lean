import PyProof.Rows.All
import Wide.All
import OpenK.AllK
import Wide.FinOn
import Open.Tops
import PySem.Challenge.RW_ok0010_01
open PySem PySem.W PyProof.Rows PySem.Calls PySem.Spec
set_option Elab.async false
set_option maxRecDepth 100000
set_option maxHeartbeats 8000000
local macro_rules | `(tactic| walk_at $s:str) => `(tactic| k_extra $s)
/-! part HD2 -/
namespace Mine
section
open_shared sh for PySem.Challenge.pw_ok0010_01 leaving 0
abbrev PW : Program := PySem.Challenge.pw_ok0010_01
def kept : List Stmt → List Stmt
  | a0 :: _ :: a2 :: a3 :: a4 :: a5 :: a6 :: a7 :: a8 :: a9 :: a10 :: _ :: a12 :: a13 :: _ :: a15 :: _ :: a17 :: a18 :: a19 :: _ :: r => a0 :: a2 :: a3 :: a4 :: a5 :: a6 :: a7 :: a8 :: a9 :: a10 :: a12 :: a13 :: a15 :: a17 :: a18 :: a19 :: r
  | l => l
noncomputable def vwB : {b : List Stmt // b = kept PW.main.body} := ⟨_, by conv => rhs; whnf⟩
noncomputable def hd.view_39 : Program := { PW with main := { PW.main with body := vwB.1 } }
abbrev posT : Pos := ⟨0, 0, 0, 0⟩
noncomputable abbrev stB (w : World) (os : OsState) : Shared := SharedT.abs ⟨sh.tree_4 w.params, 15, {}, Array.mk [], {}, 187, os⟩
noncomputable abbrev heapZ (P : Params) : Heap := absHeap (sh.tree_245 P) 245 {}
noncomputable abbrev codeT : Code := Code.body (behindTheImports PW) sh.env_1
theorem body_is : behindTheImports PW = sh.sts_4 ++ (sh.sts_92 ++ (sh.sts_124 ++ (sh.sts_218 ++ []))) := by kernel_rfl
theorem run_pre (w : World) (os : OsState) : topGo treeTable PW w 11 (some (.ref 6)) 12 ⟨boot_heap w.params, Array.mk [], boot_drawn, boot_toks, os⟩ (topStub PW) = some (stB w os, ⟨denote treeTable codeT, codeT, posT, [topFrame posT]⟩) := by kernel_rfl
theorem run_blk (w : World) (os : OsState) : segRun treeTable PW w 11 (some (.ref 6)) 1 1 (stB w os) (blockOf (behindTheImports PW) sh.env_1 codeT posT [topFrame posT]) = some (.next, stB w os, codeT, posT) := by kernel_rfl
theorem run_fin (w : World) (os : OsState) : topRun treeTable PW w 11 (some (.ref 6)) 2 (SharedT.abs ⟨sh.tree_245 w.params, 245, {}, Array.mk [], {}, 477, os⟩) (restOf [] sh.env_1 codeT ⟨156, 0, 182, 78⟩ [topFrame posT]) = some ⟨heapZ w.params, Array.mk [], {}, 477, os⟩ := by kernel_rfl
theorem run_all (w : World) (os : OsState) : topRun treeTable PW w 11 (some (.ref 6)) (12 + (1 + Nat.add 375 (Nat.add 129 (Nat.add 553 (Nat.add 137 2))))) ⟨boot_heap w.params, Array.mk [], boot_drawn, boot_toks, os⟩ (topStub PW) = some ⟨heapZ w.params, Array.mk [], {}, 477, os⟩ :=
  go_top (run_pre w os) (piece_block (run_blk w os) ((congrArg (fun l => topRun treeTable PW w 11 (some (.ref 6)) (Nat.add 375 (Nat.add 129 (Nat.add 553 (Nat.add 137 2)))) (stB w os) (restOf l sh.env_1 codeT posT [topFrame posT]) = some ⟨heapZ w.params, Array.mk [], {}, 477, os⟩) body_is).mpr (sh.chain PW (behindTheImports PW) w os [] 2 _ (run_fin w os))))
theorem size_is (w : World) : ((boot_heap w.params).isNs mainGlobals && (Array.mk [] : Array GenState).size == 0, (boot_heap w.params).objs.size, (boot_heap w.params).nsMap mainGlobals "__annotations__") = (true, 11, some (.ref 6)) := by kernel_rfl
local macro_rules | `(tactic| o_head $H) => `(tactic| (
  (refine PySem.W.holds_open (q := hd.view_39) (loose := [Str.ofString "atom_text"]) (Xt := fun s => xlAt hd.view_39 [] s && recOk (RowW.records (OpenRow.toRowW PySem.Challenge.rw_ok0010_01.row)) s) (XP := XL hd.view_39 []) (Yf := Hook.obs $H) (Ya := Hook.val $H) (YP := Hook.says $H) (N := 2506) ?hl (Hook.of $H) (Hook.keeps $H) (fun s e => xl_of s (Bool.and_eq_true_iff.mp e).1) XL.keeps (by rfl) (by rfl) (by rfl) (fun s e => recFacts_of (Bool.and_eq_true_iff.mp e).2) (by rfl) (by first | assumption | decide +kernel) (by decide +kernel) ⟨rfl, rfl, rfl, rfl, rfl, by decide +kernel⟩ ?hw ?hc);
  (case hl =>
    show LeftO PW _ _ _ _ _ _ _
    refine LeftO.of_pieces (H₁ := heapZ) (boot_open (by kernel_rfl) (by decide) (fun _ => by kernel_rfl)) size_is run_all (by decide) ?_
    intro w
    refine funext fun os => looks_pair ?_ (looks_pair ?_ ?_)
    · as_aux_lemma => kernel_rfl
    · unfold openSeen openGood
      refine looks_pair ?_ (looks_pair ?_ (looks_pair ?_ (looks_pair ?_ (looks_pair ?_ (looks_pair ?_ (looks_pair ?_ (looks_pair ?_ ?_)))))))
      all_goals (as_aux_lemma => kernel_rfl)
    · as_aux_lemma => kernel_rfl)))
open_top hd for PySem.Challenge.rw_ok0010_01
end
end Mine
/-! part CT -/
namespace Mine
section
noncomputable abbrev PR : Program := PySem.Challenge.rw_ok0010_01.row.prog
noncomputable abbrev LZ : List Str := looseW hd.view_39 [Str.ofString "atom_text"]
abbrev CtRet (h₀ : Heap) (L : Addr) (m : Str → Option Value) (news : List (Addr × Obj)) (s : Shared) (Q : Value → Shared → Prop) (R : Value → Prop) : Prop :=
  ∀ (v : Value) (h' : Heap) (tk' : Nat), R v → Fr h₀ L h' m → News h₀ L h' news → Q v { s with heap := h', toks := tk' }
/-- a call of the def at f upon vs ends and hands back what R says; frame and ledger stay -/
def Ct (d u : Nat) (w : World) (mean : ExcName → Option Value) (mg mb : Str → Option Value) (f : Addr) (vs : List Value) (G : Heap → Prop) (R : Value → Prop) : Prop :=
  ∀ (dp un : Nat) (gd : Option (List Code)) (cn : Str) (cs : Scope) (a : Addr) (ccd : Value) (cl : List (Str × Addr)) (outer : List Env) (A₀ : Around) (base h₀ : Heap) (L : Addr) (m : Str → Option Value) (news : List (Addr × Obj)) (s : Shared) (Q E : Value → Shared → Prop),
    Below A₀ base outer h₀ → Fr h₀ L s.heap m → (hd.heap_39 w.params).In h₀ → News h₀ L s.heap news → Top hd.view_39 LZ mean mg mb h₀ → cs.kind = .function →
    dp + d < recursionLimit → un + u < cLine → G base →
    CtRet h₀ L m news s Q R →
    wpAny (model PR w) (ktrTop dp un gd cn cs L a ccd cl outer) (call (.ref f) vs) Q E s
theorem ct_use {d u : Nat} {w : World} {mean : ExcName → Option Value} {mg mb : Str → Option Value} {f : Addr} {vs : List Value} {G : Heap → Prop} {R : Value → Prop} (C : Ct d u w mean mg mb f vs G R)
    {dp un : Nat} {gd : Option (List Code)} {cn : Str} {cs : Scope} {a : Addr} {ccd : Value} {cl : List (Str × Addr)} {outer : List Env} {A₀ : Around} {base h₀ : Heap} {L : Addr} {m : Str → Option Value} {news : List (Addr × Obj)} {s : Shared} {Q E : Value → Shared → Prop}
    (B : Below A₀ base outer h₀) (F : Fr h₀ L s.heap m) (X : (hd.heap_39 w.params).In h₀) (N : News h₀ L s.heap news) (T : Top hd.view_39 LZ mean mg mb h₀) (hk : cs.kind = .function)
    (hd : dp + d < recursionLimit) (hu : un + u < cLine) (hG : G base) (ret : CtRet h₀ L m news s Q R) :
    wpAny (model PR w) (ktrTop dp un gd cn cs L a ccd cl outer) (call (.ref f) vs) Q E s :=
  C _ _ _ _ _ _ _ _ _ _ _ _ _ _ _ _ _ _ B F X N T hk hd hu hG ret
theorem ct_end {h₀ h' : Heap} {L : Addr} {m : Str → Option Value} {news news' : List (Addr × Obj)} {s : Shared} {Q : Value → Shared → Prop} {R : Value → Prop} {v : Value} {tk' : Nat}
    (hret : CtRet h₀ L m news s Q R) (F : Fr h₀ L h' m) (N : News h₀ L h' news') (hs : ∀ p ∈ news, p ∈ news') (e : R v) : Q v { s with heap := h', toks := tk' } :=
  hret v h' tk' e F (fun p hp => N p (hs p hp))
end
end Mine
/-! part E3 -/
namespace Mine
section
def hexd (k : Nat) : Nat := [48, 49, 50, 51, 52, 53, 54, 55, 56, 57, 97, 98, 99, 100, 101, 102].getD k 0
def esc (n : Nat) : List Nat :=
  if n = 39 ∨ n = 92 then [92, n] else if 7 ≤ n ∧ n ≤ 13 then [92, [97, 98, 116, 110, 118, 102, 114].getD (n - 7) 0]
  else if n < 32 ∨ n = 127 then [92, 120, hexd (n / 16), hexd (n % 16), 92] else [n]
def escS (n : Nat) : Str := ⟨(esc n).toArray⟩
theorem esc_q {n : Nat} (h : n = 39 ∨ n = 92) : Str.ofString "\\" ++ ⟨#[(n : Int).toNat]⟩ = escS n := by
  rcases h with rfl | rfl <;> decide +kernel
theorem esc_b {n : Nat} (h1 : 7 ≤ n) (h2 : n ≤ 13) : Str.ofString "\\" ++ Txt.item (Str.ofString "abtnvfr") ((n : Int) - 7) = escS n :=
  (show ∀ n : Nat, n < 14 → 7 ≤ n → Str.ofString "\\" ++ Txt.item (Str.ofString "abtnvfr") ((n : Int) - 7) = escS n from by decide +kernel) n (by omega) h1
theorem esc_x {n : Nat} (h1 : n < 32 ∨ n = 127) (h2 : ¬ (7 ≤ n ∧ n ≤ 13)) : Str.ofString "\\x" ++ Txt.item (Str.ofString "0123456789abcdef") ((n : Int).fdiv 16) ++ Txt.item (Str.ofString "0123456789abcdef") ((n : Int).fmod 16) ++ Str.ofString "\\" = escS n :=
  (show ∀ n : Nat, n < 128 → (n < 32 ∨ n = 127) → ¬ (7 ≤ n ∧ n ≤ 13) → Str.ofString "\\x" ++ Txt.item (Str.ofString "0123456789abcdef") ((n : Int).fdiv 16) ++ Txt.item (Str.ofString "0123456789abcdef") ((n : Int).fmod 16) ++ Str.ofString "\\" = escS n from by decide +kernel) n (by omega) h1 h2
theorem esc_p {n : Nat} (h1 : ¬ (n = 39 ∨ n = 92)) (h2 : ¬ (7 ≤ n ∧ n ≤ 13)) (h3 : ¬ (n < 32 ∨ n = 127)) : (⟨#[(n : Int).toNat]⟩ : Str) = escS n := by
  unfold escS esc
  rw [if_neg h1, if_neg h2, if_neg h3]
  rfl
theorem esc_ct {w : World} {mean mg mb} (n : Nat) (t : Tok) (h1 : n ≤ 1114111) : Ct 2 20 w mean mg mb 91 [.int (n : Int) t] (fun _ => True) (fun v => ∃ u, v = .str (escS n) u) := by
  w_top off; k_with_none
  unfold Ct PR; k_fill
  intro dp un gd cn cs a ccd cl outer A₀ base h₀ L m news s Q E B F X N T hk hd hu hG hret
  refine wpAny_call ?_
  k_dflt cell_enter
  k_steps
  all_goals (refine ct_end hret (by k_asm) (by k_asm) (fun p hp => hp) ?_; refine ⟨_, congrArg (fun z => Value.str z _) ?_⟩; first | exact esc_q (by omega) | exact esc_b (by omega) (by omega) | exact esc_x (by omega) (by omega) | exact esc_p (by omega) (by omega) (by omega))
end
end Mine
/-! part E4 -/
namespace Mine
section
section
abbrev codes : List Int := [1, 39, 92, 10, 7, 13, 0, 31, 127, 97, 48, 120, 32, 43, 65, 95, 233, 8364, 34, 98, 9, 59, 8]
def chrS (c : Int) : Str := ⟨#[(codes.getD (c.fmod 23).toNat 0).toNat]⟩
def txtS (ns : List Int) (k : Nat) : Str := ⟨(((ns.drop k).take 9).map fun c => (codes.getD (c.fmod 23).toNat 0).toNat).toArray⟩
theorem code_rng (k : Nat) : 0 ≤ codes.getD k 0 ∧ codes.getD k 0 ≤ 8364 := by
  rw [List.getD_eq_getElem?_getD]
  cases h : codes[k]? with
  | none => exact ⟨by decide, by decide⟩
  | some v =>
    have hm : v ∈ codes := List.mem_of_getElem? h
    have : ∀ v ∈ codes, 0 ≤ v ∧ v ≤ 8364 := by decide
    exact this v hm
theorem code_lo (k : Nat) : 0 ≤ codes.getD k 0 := (code_rng k).1
theorem code_hi (k : Nat) : codes.getD k 0 ≤ 1114111 := by have := (code_rng k).2; omega
theorem snoc_S {pre : List Int} {n : Int} {ls : List Str} (h : ls = pre.map chrS ∧ ls.length = pre.length) : ls ++ [⟨#[(codes.getD (n.fmod 23).toNat 0).toNat]⟩] = (pre ++ [n]).map chrS ∧ (ls ++ [(⟨#[(codes.getD (n.fmod 23).toNat 0).toNat]⟩ : Str)]).length = (pre ++ [n]).length := by
  obtain ⟨h, -⟩ := h
  subst h
  refine ⟨by rw [List.map_append]; rfl, by simp⟩
theorem join_ones (l : List Int) : Txt.join (Str.ofString "") (l.map chrS) = ⟨(l.map fun c => (codes.getD (c.fmod 23).toNat 0).toNat).toArray⟩ := by
  show Builtin.Str.glued (PySem.Str.ofString "") _ = _
  rw [StrLaws.glued_eq_join]
  have e : Str.ofString "" = Str.empty := by decide +kernel
  rw [e]
  refine Str.ext' (Array.toList_inj.mp ?_)
  induction l with
  | nil => rfl
  | cons a r ih =>
    cases r with
    | nil => rfl
    | cons b r =>
      show ((chrS a ++ Str.empty ++ Str.join Str.empty (List.map chrS (b :: r))).cps.toList) = _
      rw [Str.cps_append, Str.cps_append, Array.toList_append, Array.toList_append, ih]
      rfl
theorem chrS_weight (l : List Int) : ((l.map chrS).map (·.length)).sum = l.length := by
  induction l with
  | nil => rfl
  | cons a r ih => rw [List.map_cons, List.map_cons, List.sum_cons, ih, List.length_cons]; show 1 + _ = _; omega
theorem slice_take (ns : List Int) (k : Nat) : List.take (min ((k : Int) + 9).toNat ns.length - k) (ns.drop k) = (ns.drop k).take 9 := by
  have e : ((k : Int) + 9).toNat = k + 9 := by omega
  rw [e]
  by_cases h : k + 9 ≤ ns.length
  · rw [Nat.min_eq_left h, show k + 9 - k = 9 by omega]
  · rw [Nat.min_eq_right (by omega), List.take_of_length_le (by simp), List.take_of_length_le (by simp; omega)]
theorem ltext_ct {w : World} {mean mg mb} (l : Addr) (vs : List Value) (ns : List Int) (t : Tok) (hlen : ns.length ≤ 63) : Ct 3 30 w mean mg mb 232 [.ref l, .int 1 t]
    (fun base => base.IsList l vs.toArray ∧ IntsAre vs ns) (fun v => ∃ u, v = .str (txtS ns 1) u) := by
  w_top off; k_with_none
  k_with "call ref" => (k_here; k_dflt (refine wpAny_call ?_; refine' code_def ?k1 ?k2 ?k3 ?k4 ?k5 ?kA ?kF ?kK ?k6 ?k7 ?k8 ?k9 ?kB ?_ ?c2 ?c3 ?c4 ?c5; (case kA => exact rfl); (case kF => exact rfl); (case kK => first | exact rfl | assumption); (case k1 => k_asm); (case k2 => k_asm); (case k3 => k_asm); (case k4 => k_asm); (case k5 => k_asm); (case k6 => k_is); (case k7 => k_is); (case k8 => ktr_room); (case k9 => first | exact BindsTo.of_eq rfl | exact binds_K (by k_in) rfl (by k_is) rfl rfl rfl); (case c5 => decide); (case kB => exact locs rfl); (case c2 => exact rfl); (case c3 => exact rfl); (case c4 => exact rfl); k_whole; intro g' L' h' FG' F' N' B' X' T'; (try dsimp only); (try k_lift B'); (try k_fold)))
  k_with "call builtin:chr" => (k_here; (with_reducible show wpAny _ _ (call (Value.builtin "chr") [Value.int (List.getD _ _ _) _]) _ _ _); refine chr_of_range (code_lo _) (code_hi _) ?_)
  unfold Ct PR; k_fill
  intro dp un gd cn cs a ccd cl outer A₀ base h₀ L m news s Q E B F X N T hk hd hu hG hret
  obtain ⟨hl, hi⟩ := hG
  refine wpAny_call ?_
  k_dflt cell_enter
  k_with "pyIter ref" => k_state (fun pre letters => letters = pre.map chrS ∧ letters.length = pre.length) "letters$"
  k_with "state" => first | exact snoc_S (by assumption) | exact ⟨rfl, rfl⟩
  k_steps
  (rename StrsAre _ _ => hS)
  (rename _ = List.map chrS _ => hE)
  refine join_listW (News.isList (by k_asm) (by k_mem)) (by simpa using hS) (by decide +kernel) ?_ ?_
  · rw [hE, chrS_weight, List.length_map]
    have := List.length_take_le (min (1 + 9 : Int).toNat ns.length - 1) (List.drop 1 ns)
    simp only [List.length_take, List.length_drop] at this ⊢
    omega
  intro t' k
  rw [hE, join_ones]
  k_steps
  refine ct_end hret (by k_asm) (by k_asm) (fun p hp => .tail _ (.tail _ hp)) ?_
  refine ⟨t', congrArg (fun z => Value.str z t') ?_⟩
  have e := slice_take ns 1
  rw [show ((1 : Nat) : Int) = 1 from rfl] at e
  rw [e]
  rfl
theorem ltext2_ct {w : World} {mean mg mb} (l : Addr) (vs : List Value) (ns : List Int) (t : Tok) (hlen : ns.length ≤ 63) : Ct 3 30 w mean mg mb 232 [.ref l, .int 2 t]
    (fun base => base.IsList l vs.toArray ∧ IntsAre vs ns) (fun v => ∃ u, v = .str (txtS ns 2) u) := by
  w_top off; k_with_none
  k_with "call ref" => (k_here; k_dflt (refine wpAny_call ?_; refine' code_def ?k1 ?k2 ?k3 ?k4 ?k5 ?kA ?kF ?kK ?k6 ?k7 ?k8 ?k9 ?kB ?_ ?c2 ?c3 ?c4 ?c5; (case kA => exact rfl); (case kF => exact rfl); (case kK => first | exact rfl | assumption); (case k1 => k_asm); (case k2 => k_asm); (case k3 => k_asm); (case k4 => k_asm); (case k5 => k_asm); (case k6 => k_is); (case k7 => k_is); (case k8 => ktr_room); (case k9 => first | exact BindsTo.of_eq rfl | exact binds_K (by k_in) rfl (by k_is) rfl rfl rfl); (case c5 => decide); (case kB => exact locs rfl); (case c2 => exact rfl); (case c3 => exact rfl); (case c4 => exact rfl); k_whole; intro g' L' h' FG' F' N' B' X' T'; (try dsimp only); (try k_lift B'); (try k_fold)))
  k_with "call builtin:chr" => (k_here; (with_reducible show wpAny _ _ (call (Value.builtin "chr") [Value.int (List.getD _ _ _) _]) _ _ _); refine chr_of_range (code_lo _) (code_hi _) ?_)
  unfold Ct PR; k_fill
  intro dp un gd cn cs a ccd cl outer A₀ base h₀ L m news s Q E B F X N T hk hd hu hG hret
  obtain ⟨hl, hi⟩ := hG
  refine wpAny_call ?_
  k_dflt cell_enter
  k_with "pyIter ref" => k_state (fun pre letters => letters = pre.map chrS ∧ letters.length = pre.length) "letters$"
  k_with "state" => first | exact snoc_S (by assumption) | exact ⟨rfl, rfl⟩
  k_steps
  (rename StrsAre _ _ => hS)
  (rename _ = List.map chrS _ => hE)
  refine join_listW (News.isList (by k_asm) (by k_mem)) (by simpa using hS) (by decide +kernel) ?_ ?_
  · rw [hE, chrS_weight, List.length_map]
    have := List.length_take_le (min (2 + 9 : Int).toNat ns.length - 2) (List.drop 2 ns)
    simp only [List.length_take, List.length_drop] at this ⊢
    omega
  intro t' k
  rw [hE, join_ones]
  k_steps
  refine ct_end hret (by k_asm) (by k_asm) (fun p hp => .tail _ (.tail _ hp)) ?_
  refine ⟨t', congrArg (fun z => Value.str z t') ?_⟩
  have e := slice_take ns 2
  rw [show ((2 : Nat) : Int) = 2 from rfl] at e
  rw [e]
  rfl
end
end
end Mine
/-! part E5 -/
namespace Mine
section
def quotL (l : List Nat) : List Nat := 39 :: (l.flatMap esc ++ [39])
def quotS (x : Str) : Str := ⟨(quotL x.cps.toList).toArray⟩
abbrev Small (x : Str) : Prop := ∀ c ∈ x.cps.toList, c ≤ 1114111
theorem small_at {x : Str} (h : Small x) {pre post : List Int} {n : Nat} (e : KStt.codes x = pre ++ (n : Int) :: post) : n ≤ 1114111 := by
  have : (n : Int) ∈ KStt.codes x := by rw [e]; simp
  unfold KStt.codes at this
  obtain ⟨c, hc, e⟩ := List.mem_map.mp this
  have := h c hc
  omega
theorem q_nil : [Str.ofString "'"] = Str.ofString "'" :: ([] : List Int).map (fun c => escS c.toNat) ∧ [Str.ofString "'"].length = ([] : List Int).length + 1 := ⟨rfl, rfl⟩
theorem q_snoc {pre : List Int} {parts : List Str} {n : Nat} (h1 : parts = Str.ofString "'" :: pre.map (fun c => escS c.toNat)) (h2 : parts.length = pre.length + 1) :
    parts ++ [escS n] = Str.ofString "'" :: (pre ++ [(n : Int)]).map (fun c => escS c.toNat) ∧ (parts ++ [escS n]).length = (pre ++ [(n : Int)]).length + 1 := by
  subst h1
  refine ⟨by rw [List.map_append]; rfl, by simp⟩
theorem q_snocA {pre : List Int} {parts : List Str} {n : Nat} (h : parts = Str.ofString "'" :: pre.map (fun c => escS c.toNat) ∧ parts.length = pre.length + 1) :
    parts ++ [escS n] = Str.ofString "'" :: (pre ++ [(n : Int)]).map (fun c => escS c.toNat) ∧ (parts ++ [escS n]).length = (pre ++ [(n : Int)]).length + 1 := q_snoc h.1 h.2
theorem esc_len (n : Nat) : (escS n).length ≤ 5 := by
  show (esc n).toArray.size ≤ 5
  rw [List.size_toArray]
  unfold esc
  (repeat' split) <;> simp
theorem join_cps (ls : List Str) : (Txt.join (Str.ofString "") ls).cps.toList = ls.flatMap fun x => x.cps.toList := by
  show (Builtin.Str.glued (PySem.Str.ofString "") _).cps.toList = _
  rw [StrLaws.glued_eq_join]
  have e : Str.ofString "" = Str.empty := by decide +kernel
  rw [e]
  induction ls with
  | nil => rfl
  | cons a r ih =>
    cases r with
    | nil => show a.cps.toList = _; simp
    | cons b r =>
      show ((a ++ Str.empty ++ Str.join Str.empty (b :: r)).cps.toList) = _
      rw [Str.cps_append, Str.cps_append, Array.toList_append, Array.toList_append, ih]
      show a.cps.toList ++ [] ++ _ = _
      rw [List.append_nil]
      rfl
theorem q_end {x : Str} {parts : List Str} (h : parts = Str.ofString "'" :: (KStt.codes x).map (fun c => escS c.toNat)) : Txt.join (Str.ofString "") (parts ++ [Str.ofString "'"]) = quotS x := by
  refine Str.ext' (Array.toList_inj.mp ?_)
  rw [join_cps, h]
  have e : (Str.ofString "'").cps.toList = [39] := by decide +kernel
  rw [List.flatMap_append, List.flatMap_cons, List.flatMap_cons, List.flatMap_nil, e, List.append_nil]
  show _ = quotL x.cps.toList
  unfold quotL
  show (39 :: _) ++ [39] = _
  rw [List.cons_append]
  congr 2
  unfold KStt.codes
  rw [List.map_map, List.flatMap_map]
  rfl
theorem q_weight {x : Str} {parts : List Str} (hl : x.length ≤ 9) (h : parts = Str.ofString "'" :: (KStt.codes x).map (fun c => escS c.toNat)) :
    ((parts ++ [Str.ofString "'"]).map (·.length)).sum + (parts ++ [Str.ofString "'"]).length ≤ 1048576 := by
  have hc : (KStt.codes x).length ≤ 9 := by rw [KStt.codes_length]; exact hl
  subst h
  have e : (Str.ofString "'").length = 1 := by decide +kernel
  have key : ∀ l : List Int, ((l.map (fun c => escS c.toNat)).map (·.length)).sum ≤ 5 * l.length := by
    intro l
    induction l with
    | nil => exact Nat.le_refl _
    | cons c l ih => rw [List.map_cons, List.map_cons, List.sum_cons, List.length_cons]; have := esc_len c.toNat; omega
  have := key (KStt.codes x)
  simp only [List.map_append, List.map_cons, List.map_nil, List.sum_append, List.sum_cons, List.sum_nil, List.length_append, List.length_cons, List.length_nil, List.length_map, e, List.cons_append] at this ⊢
  omega
local macro_rules | `(tactic| kst_facts1) => `(tactic| first | exact PyProof.Rows.StrsAre.append' (by assumption) (.cons _ _ .nil) | exact PyProof.Rows.StrsAre.cons _ _ PyProof.Rows.StrsAre.nil)
theorem quoted_ct {w : World} {mean mg mb} (x : Str) (t : Tok) (hx : Small x) (hl : x.length ≤ 9) : Ct 4 40 w mean mg mb 98 [.str x t] (fun _ => True) (fun v => ∃ u, v = .str (quotS x) u) := by
  w_top off; k_with_none
  k_with "call ref" => (k_here; (with_reducible show wpAny _ _ (call (Value.ref 91) [Value.int _ _]) _ _ _); k_dflt (refine' ct_use (esc_ct _ _ ?kB) ?k1 ?k2 ?k3 ?k4 ?k5 ?kK ?kd ?ku ?kG ?_; (case k1 => k_asm); (case k2 => k_asm); (case k3 => k_asm); (case k4 => k_asm); (case k5 => k_asm); (case kK => first | exact rfl | assumption); (case kd => ktr_room); (case ku => ktr_units); (case kB => exact small_at (by assumption) (by assumption)); (case kG => trivial); (intro v9 h9 tk9 hv9 F9 N9); (obtain ⟨u9, e9⟩ := hv9; subst e9); (try dsimp only); (try k_fold)))
  unfold Ct PR; k_fill
  intro dp un gd cn cs a ccd cl outer A₀ base h₀ L m news s Q E B F X N T hk hd hu hG hret
  refine wpAny_call ?_
  k_dflt cell_enter
  k_with "pyIter str" => k_state (fun pre parts => parts = Str.ofString "'" :: pre.map (fun c => escS c.toNat) ∧ parts.length = pre.length + 1) "parts"
  k_with "state" => first | exact q_nil | exact q_snocA (by assumption) | exact q_snoc (by assumption) (by assumption)
  k_steps
  (rename StrsAre _ _ => hS)
  (rename _ = _ :: List.map _ _ => hE)
  refine join_listW (News.isList (by k_asm) (by k_mem)) (by simpa using hS.append' (.cons _ _ .nil)) (by decide +kernel) (q_weight hl hE) ?_
  intro t' k
  rw [q_end hE]
  k_steps
  refine ct_end hret (by k_asm) (by k_asm) (fun p hp => .tail _ hp) ⟨t', rfl⟩
end
end Mine
/-! part E6 -/
namespace Mine
section
section
abbrev BoolR (v : Value) : Prop := ∃ b, v = .bool b
theorem beq_dec (n : Nat) : ((n : Int) == 95) = decide (n = 95) := by rw [Bool.eq_iff_iff]; simp only [beq_iff_eq, decide_eq_true_eq]; omega
def digitB (n : Nat) : Bool := decide (48 ≤ n ∧ n ≤ 57)
def smallB (n : Nat) : Bool := decide (97 ≤ n ∧ n ≤ 122)
def capitalB (n : Nat) : Bool := decide (65 ≤ n ∧ n ≤ 90)
def alnumB (n : Nat) : Bool := smallB n || capitalB n || digitB n || decide (n = 95)
theorem digit_ct {w : World} {mean mg mb} (n : Nat) (t : Tok) : Ct 1 20 w mean mg mb 28 [.int (n : Int) t] (fun _ => True) (fun v => v = .bool (digitB n)) := by
  w_top off; k_with_none
  k_with "eval Call" => (k_here; (with_reducible show wpAny _ _ (eval (Expr.Call (Expr.Name _ _) _ [] _) _) _ _ _); k_dflt (refine Call_ ?_))
  unfold Ct PR; k_fill
  intro dp un gd cn cs a ccd cl outer A₀ base h₀ L m news s Q E B F X N T hk hd hu hG hret
  refine wpAny_call ?_
  k_dflt cell_enter
  k_steps
  all_goals (refine ct_end hret (by k_asm) (by k_asm) (fun p hp => hp) ?_; refine congrArg Value.bool ?_; (simp only [decide_eq_true_eq, decide_eq_false_iff_not] at *); rw [Bool.eq_iff_iff]; simp only [digitB, smallB, capitalB, decide_eq_true_eq]; omega)
theorem small_ct {w : World} {mean mg mb} (n : Nat) (t : Tok) : Ct 1 20 w mean mg mb 35 [.int (n : Int) t] (fun _ => True) (fun v => v = .bool (smallB n)) := by
  w_top off; k_with_none
  k_with "eval Call" => (k_here; (with_reducible show wpAny _ _ (eval (Expr.Call (Expr.Name _ _) _ [] _) _) _ _ _); k_dflt (refine Call_ ?_))
  unfold Ct PR; k_fill
  intro dp un gd cn cs a ccd cl outer A₀ base h₀ L m news s Q E B F X N T hk hd hu hG hret
  refine wpAny_call ?_
  k_dflt cell_enter
  k_steps
  all_goals (refine ct_end hret (by k_asm) (by k_asm) (fun p hp => hp) ?_; refine congrArg Value.bool ?_; (simp only [decide_eq_true_eq, decide_eq_false_iff_not] at *); rw [Bool.eq_iff_iff]; simp only [digitB, smallB, capitalB, decide_eq_true_eq]; omega)
theorem capital_ct {w : World} {mean mg mb} (n : Nat) (t : Tok) : Ct 1 20 w mean mg mb 42 [.int (n : Int) t] (fun _ => True) (fun v => v = .bool (capitalB n)) := by
  w_top off; k_with_none
  k_with "eval Call" => (k_here; (with_reducible show wpAny _ _ (eval (Expr.Call (Expr.Name _ _) _ [] _) _) _ _ _); k_dflt (refine Call_ ?_))
  unfold Ct PR; k_fill
  intro dp un gd cn cs a ccd cl outer A₀ base h₀ L m news s Q E B F X N T hk hd hu hG hret
  refine wpAny_call ?_
  k_dflt cell_enter
  k_steps
  all_goals (refine ct_end hret (by k_asm) (by k_asm) (fun p hp => hp) ?_; refine congrArg Value.bool ?_; (simp only [decide_eq_true_eq, decide_eq_false_iff_not] at *); rw [Bool.eq_iff_iff]; simp only [digitB, smallB, capitalB, decide_eq_true_eq]; omega)
theorem alnum_ct {w : World} {mean mg mb} (n : Nat) (t : Tok) : Ct 2 40 w mean mg mb 49 [.int (n : Int) t] (fun _ => True) (fun v => v = .bool (alnumB n)) := by
  w_top off; k_with_none
  k_with "eval Call" => (k_here; (with_reducible show wpAny _ _ (eval (Expr.Call (Expr.Name _ _) _ [] _) _) _ _ _); k_dflt (refine Call_ ?_))
  k_with "call ref" => (k_here; (with_reducible show wpAny _ _ (call (Value.ref 28) [Value.int _ _]) _ _ _); k_dflt (refine' ct_use (digit_ct _ _) ?k1 ?k2 ?k3 ?k4 ?k5 ?kK ?kd ?ku ?kG ?_; (case k1 => k_asm); (case k2 => k_asm); (case k3 => k_asm); (case k4 => k_asm); (case k5 => k_asm); (case kK => first | exact rfl | assumption); (case kd => ktr_room); (case ku => ktr_units); (case kG => trivial); (intro v9 h9 tk9 hv9 F9 N9); (subst hv9); (try dsimp only); (try k_fold)))
  k_with "call ref" => (k_here; (with_reducible show wpAny _ _ (call (Value.ref 35) [Value.int _ _]) _ _ _); k_dflt (refine' ct_use (small_ct _ _) ?k1 ?k2 ?k3 ?k4 ?k5 ?kK ?kd ?ku ?kG ?_; (case k1 => k_asm); (case k2 => k_asm); (case k3 => k_asm); (case k4 => k_asm); (case k5 => k_asm); (case kK => first | exact rfl | assumption); (case kd => ktr_room); (case ku => ktr_units); (case kG => trivial); (intro v9 h9 tk9 hv9 F9 N9); (subst hv9); (try dsimp only); (try k_fold)))
  k_with "call ref" => (k_here; (with_reducible show wpAny _ _ (call (Value.ref 42) [Value.int _ _]) _ _ _); k_dflt (refine' ct_use (capital_ct _ _) ?k1 ?k2 ?k3 ?k4 ?k5 ?kK ?kd ?ku ?kG ?_; (case k1 => k_asm); (case k2 => k_asm); (case k3 => k_asm); (case k4 => k_asm); (case k5 => k_asm); (case kK => first | exact rfl | assumption); (case kd => ktr_room); (case ku => ktr_units); (case kG => trivial); (intro v9 h9 tk9 hv9 F9 N9); (subst hv9); (try dsimp only); (try k_fold)))
  unfold Ct PR; k_fill
  intro dp un gd cn cs a ccd cl outer A₀ base h₀ L m news s Q E B F X N T hk hd hu hG hret
  refine wpAny_call ?_
  k_dflt cell_enter
  k_steps
  all_goals (refine ct_end hret (by k_asm) (by k_asm) (fun p hp => hp) ?_)
  all_goals (refine congrArg Value.bool ?_; simp_all [alnumB, beq_dec])
theorem symbol_ct {w : World} {mean mg mb} (n : Nat) (t : Tok) : Ct 2 20 w mean mg mb 56 [.int (n : Int) t] (fun _ => True) BoolR := by
  w_top off; k_with_none
  k_with "eval Call" => (k_here; (with_reducible show wpAny _ _ (eval (Expr.Call (Expr.Name _ _) _ [] _) _) _ _ _); k_dflt (refine Call_ ?_))
  k_with "call ref" => (k_here; (with_reducible show wpAny _ _ (call (Value.ref 28) [Value.int _ _]) _ _ _); k_dflt (refine' ct_use (digit_ct _ _) ?k1 ?k2 ?k3 ?k4 ?k5 ?kK ?kd ?ku ?kG ?_; (case k1 => k_asm); (case k2 => k_asm); (case k3 => k_asm); (case k4 => k_asm); (case k5 => k_asm); (case kK => first | exact rfl | assumption); (case kd => ktr_room); (case ku => ktr_units); (case kG => trivial); (intro v9 h9 tk9 hv9 F9 N9); (subst hv9); (try dsimp only); (try k_fold)))
  k_with "call ref" => (k_here; (with_reducible show wpAny _ _ (call (Value.ref 35) [Value.int _ _]) _ _ _); k_dflt (refine' ct_use (small_ct _ _) ?k1 ?k2 ?k3 ?k4 ?k5 ?kK ?kd ?ku ?kG ?_; (case k1 => k_asm); (case k2 => k_asm); (case k3 => k_asm); (case k4 => k_asm); (case k5 => k_asm); (case kK => first | exact rfl | assumption); (case kd => ktr_room); (case ku => ktr_units); (case kG => trivial); (intro v9 h9 tk9 hv9 F9 N9); (subst hv9); (try dsimp only); (try k_fold)))
  k_with "call ref" => (k_here; (with_reducible show wpAny _ _ (call (Value.ref 42) [Value.int _ _]) _ _ _); k_dflt (refine' ct_use (capital_ct _ _) ?k1 ?k2 ?k3 ?k4 ?k5 ?kK ?kd ?ku ?kG ?_; (case k1 => k_asm); (case k2 => k_asm); (case k3 => k_asm); (case k4 => k_asm); (case k5 => k_asm); (case kK => first | exact rfl | assumption); (case kd => ktr_room); (case ku => ktr_units); (case kG => trivial); (intro v9 h9 tk9 hv9 F9 N9); (subst hv9); (try dsimp only); (try k_fold)))
  k_with "call ref" => (k_here; (with_reducible show wpAny _ _ (call (Value.ref 49) [Value.int _ _]) _ _ _); k_dflt (refine' ct_use (alnum_ct _ _) ?k1 ?k2 ?k3 ?k4 ?k5 ?kK ?kd ?ku ?kG ?_; (case k1 => k_asm); (case k2 => k_asm); (case k3 => k_asm); (case k4 => k_asm); (case k5 => k_asm); (case kK => first | exact rfl | assumption); (case kd => ktr_room); (case ku => ktr_units); (case kG => trivial); (intro v9 h9 tk9 hv9 F9 N9); (subst hv9); (try dsimp only); (try k_fold)))
  unfold Ct PR; k_fill
  intro dp un gd cn cs a ccd cl outer A₀ base h₀ L m news s Q E B F X N T hk hd hu hG hret
  refine wpAny_call ?_
  k_dflt cell_enter
  k_steps
  all_goals (refine ct_end hret (by k_asm) (by k_asm) (by first | exact fun p hp => hp | exact fun p hp => .tail _ hp | exact fun p hp => List.mem_append_left _ hp) ⟨_, rfl⟩)
theorem alnumName_ct {w : World} {mean mg mb} (x : Str) (t : Tok) (hl : x.length ≤ 9) : Ct 3 60 w mean mg mb 70 [.str x t] (fun _ => True) BoolR := by
  w_top off; k_with_none
  k_with "eval Call" => (k_here; (with_reducible show wpAny _ _ (eval (Expr.Call (Expr.Name _ _) _ [] _) _) _ _ _); k_dflt (refine Call_ ?_))
  k_with "call ref" => (k_here; (with_reducible show wpAny _ _ (call (Value.ref 28) [Value.int _ _]) _ _ _); k_dflt (refine' ct_use (digit_ct _ _) ?k1 ?k2 ?k3 ?k4 ?k5 ?kK ?kd ?ku ?kG ?_; (case k1 => k_asm); (case k2 => k_asm); (case k3 => k_asm); (case k4 => k_asm); (case k5 => k_asm); (case kK => first | exact rfl | assumption); (case kd => ktr_room); (case ku => ktr_units); (case kG => trivial); (intro v9 h9 tk9 hv9 F9 N9); (subst hv9); (try dsimp only); (try k_fold)))
  k_with "call ref" => (k_here; (with_reducible show wpAny _ _ (call (Value.ref 35) [Value.int _ _]) _ _ _); k_dflt (refine' ct_use (small_ct _ _) ?k1 ?k2 ?k3 ?k4 ?k5 ?kK ?kd ?ku ?kG ?_; (case k1 => k_asm); (case k2 => k_asm); (case k3 => k_asm); (case k4 => k_asm); (case k5 => k_asm); (case kK => first | exact rfl | assumption); (case kd => ktr_room); (case ku => ktr_units); (case kG => trivial); (intro v9 h9 tk9 hv9 F9 N9); (subst hv9); (try dsimp only); (try k_fold)))
  k_with "call ref" => (k_here; (with_reducible show wpAny _ _ (call (Value.ref 42) [Value.int _ _]) _ _ _); k_dflt (refine' ct_use (capital_ct _ _) ?k1 ?k2 ?k3 ?k4 ?k5 ?kK ?kd ?ku ?kG ?_; (case k1 => k_asm); (case k2 => k_asm); (case k3 => k_asm); (case k4 => k_asm); (case k5 => k_asm); (case kK => first | exact rfl | assumption); (case kd => ktr_room); (case ku => ktr_units); (case kG => trivial); (intro v9 h9 tk9 hv9 F9 N9); (subst hv9); (try dsimp only); (try k_fold)))
  k_with "call ref" => (k_here; (with_reducible show wpAny _ _ (call (Value.ref 49) [Value.int _ _]) _ _ _); k_dflt (refine' ct_use (alnum_ct _ _) ?k1 ?k2 ?k3 ?k4 ?k5 ?kK ?kd ?ku ?kG ?_; (case k1 => k_asm); (case k2 => k_asm); (case k3 => k_asm); (case k4 => k_asm); (case k5 => k_asm); (case kK => first | exact rfl | assumption); (case kd => ktr_room); (case ku => ktr_units); (case kG => trivial); (intro v9 h9 tk9 hv9 F9 N9); (subst hv9); (try dsimp only); (try k_fold)))
  k_with "call ref" => (k_here; (with_reducible show wpAny _ _ (call (Value.ref 56) [Value.int _ _]) _ _ _); k_dflt (refine' ct_use (symbol_ct _ _) ?k1 ?k2 ?k3 ?k4 ?k5 ?kK ?kd ?ku ?kG ?_; (case k1 => k_asm); (case k2 => k_asm); (case k3 => k_asm); (case k4 => k_asm); (case k5 => k_asm); (case kK => first | exact rfl | assumption); (case kd => ktr_room); (case ku => ktr_units); (case kG => trivial); (intro v9 h9 tk9 hv9 F9 N9); (obtain ⟨b9, e9⟩ := hv9; subst e9); (try dsimp only); (try k_fold)))
  unfold Ct PR; k_fill
  intro dp un gd cn cs a ccd cl outer A₀ base h₀ L m news s Q E B F X N T hk hd hu hG hret
  refine wpAny_call ?_
  k_dflt cell_enter
  k_with "pyIter str" => (k_here; (rename Fr _ _ _ _ => lF'); (rename News _ _ _ _ => lN'); (with_unfolding_all refine' KStt.kst_text (σ := Unit) (fun _ => _) (fun _ => []) (fun _ => True) [] (fun _ _ => True) () (by rfl) lF' lN' ?kf ?kk ?kp ?_ ?_); (case kf => trivial); (case kk => exact List.forall_mem_nil _); (case kp => trivial); ((intro kC kPre kPost kN kT kU kH kTk kOwn kEq kOff kFacts kInv kFr kNews; have kMark := kstMark; dsimp only [kstB] at kFr; (try dsimp only at kNews); (try simp only [List.nil_append, List.cons_append, List.append_nil] at kNews); (try simp only [List.map_cons, List.map_nil] at kOff); clear lF' lN')); rotate_left; ((intro kC kU kH kTk kFacts kInv kFr kNews; have kMark := kstMark; dsimp only [kstB] at kFr; (try dsimp only at kNews); (try simp only [List.nil_append, List.cons_append, List.append_nil] at kNews); clear lF' lN')); rotate_right)
  k_steps
  all_goals (refine ct_end hret (by k_asm) (by k_asm) (by first | exact fun p hp => hp | exact fun p hp => .tail _ hp | exact fun p hp => List.mem_append_left _ hp) ⟨_, rfl⟩)
theorem symbolName_ct {w : World} {mean mg mb} (x : Str) (t : Tok) (hl : x.length ≤ 9) : Ct 3 60 w mean mg mb 77 [.str x t] (fun _ => True) BoolR := by
  w_top off; k_with_none
  k_with "eval Call" => (k_here; (with_reducible show wpAny _ _ (eval (Expr.Call (Expr.Name _ _) _ [] _) _) _ _ _); k_dflt (refine Call_ ?_))
  k_with "call ref" => (k_here; (with_reducible show wpAny _ _ (call (Value.ref 28) [Value.int _ _]) _ _ _); k_dflt (refine' ct_use (digit_ct _ _) ?k1 ?k2 ?k3 ?k4 ?k5 ?kK ?kd ?ku ?kG ?_; (case k1 => k_asm); (case k2 => k_asm); (case k3 => k_asm); (case k4 => k_asm); (case k5 => k_asm); (case kK => first | exact rfl | assumption); (case kd => ktr_room); (case ku => ktr_units); (case kG => trivial); (intro v9 h9 tk9 hv9 F9 N9); (subst hv9); (try dsimp only); (try k_fold)))
  k_with "call ref" => (k_here; (with_reducible show wpAny _ _ (call (Value.ref 35) [Value.int _ _]) _ _ _); k_dflt (refine' ct_use (small_ct _ _) ?k1 ?k2 ?k3 ?k4 ?k5 ?kK ?kd ?ku ?kG ?_; (case k1 => k_asm); (case k2 => k_asm); (case k3 => k_asm); (case k4 => k_asm); (case k5 => k_asm); (case kK => first | exact rfl | assumption); (case kd => ktr_room); (case ku => ktr_units); (case kG => trivial); (intro v9 h9 tk9 hv9 F9 N9); (subst hv9); (try dsimp only); (try k_fold)))
  k_with "call ref" => (k_here; (with_reducible show wpAny _ _ (call (Value.ref 42) [Value.int _ _]) _ _ _); k_dflt (refine' ct_use (capital_ct _ _) ?k1 ?k2 ?k3 ?k4 ?k5 ?kK ?kd ?ku ?kG ?_; (case k1 => k_asm); (case k2 => k_asm); (case k3 => k_asm); (case k4 => k_asm); (case k5 => k_asm); (case kK => first | exact rfl | assumption); (case kd => ktr_room); (case ku => ktr_units); (case kG => trivial); (intro v9 h9 tk9 hv9 F9 N9); (subst hv9); (try dsimp only); (try k_fold)))
  k_with "call ref" => (k_here; (with_reducible show wpAny _ _ (call (Value.ref 49) [Value.int _ _]) _ _ _); k_dflt (refine' ct_use (alnum_ct _ _) ?k1 ?k2 ?k3 ?k4 ?k5 ?kK ?kd ?ku ?kG ?_; (case k1 => k_asm); (case k2 => k_asm); (case k3 => k_asm); (case k4 => k_asm); (case k5 => k_asm); (case kK => first | exact rfl | assumption); (case kd => ktr_room); (case ku => ktr_units); (case kG => trivial); (intro v9 h9 tk9 hv9 F9 N9); (subst hv9); (try dsimp only); (try k_fold)))
  k_with "call ref" => (k_here; (with_reducible show wpAny _ _ (call (Value.ref 56) [Value.int _ _]) _ _ _); k_dflt (refine' ct_use (symbol_ct _ _) ?k1 ?k2 ?k3 ?k4 ?k5 ?kK ?kd ?ku ?kG ?_; (case k1 => k_asm); (case k2 => k_asm); (case k3 => k_asm); (case k4 => k_asm); (case k5 => k_asm); (case kK => first | exact rfl | assumption); (case kd => ktr_room); (case ku => ktr_units); (case kG => trivial); (intro v9 h9 tk9 hv9 F9 N9); (obtain ⟨b9, e9⟩ := hv9; subst e9); (try dsimp only); (try k_fold)))
  unfold Ct PR; k_fill
  intro dp un gd cn cs a ccd cl outer A₀ base h₀ L m news s Q E B F X N T hk hd hu hG hret
  refine wpAny_call ?_
  k_dflt cell_enter
  k_with "pyIter str" => (k_here; (rename Fr _ _ _ _ => lF'); (rename News _ _ _ _ => lN'); (with_unfolding_all refine' KStt.kst_text (σ := Unit) (fun _ => _) (fun _ => []) (fun _ => True) [] (fun _ _ => True) () (by rfl) lF' lN' ?kf ?kk ?kp ?_ ?_); (case kf => trivial); (case kk => exact List.forall_mem_nil _); (case kp => trivial); ((intro kC kPre kPost kN kT kU kH kTk kOwn kEq kOff kFacts kInv kFr kNews; have kMark := kstMark; dsimp only [kstB] at kFr; (try dsimp only at kNews); (try simp only [List.nil_append, List.cons_append, List.append_nil] at kNews); (try simp only [List.map_cons, List.map_nil] at kOff); clear lF' lN')); rotate_left; ((intro kC kU kH kTk kFacts kInv kFr kNews; have kMark := kstMark; dsimp only [kstB] at kFr; (try dsimp only at kNews); (try simp only [List.nil_append, List.cons_append, List.append_nil] at kNews); clear lF' lN')); rotate_right)
  k_steps
  all_goals (refine ct_end hret (by k_asm) (by k_asm) (by first | exact fun p hp => hp | exact fun p hp => .tail _ hp | exact fun p hp => List.mem_append_left _ hp) ⟨_, rfl⟩)
theorem plainName_ct {w : World} {mean mg mb} (x : Str) (t : Tok) (hl : x.length ≤ 9) : Ct 4 80 w mean mg mb 84 [.str x t] (fun _ => True) BoolR := by
  w_top off; k_with_none
  k_with "eval Call" => (k_here; (with_reducible show wpAny _ _ (eval (Expr.Call (Expr.Name _ _) _ [] _) _) _ _ _); k_dflt (refine Call_ ?_))
  k_with "call ref" => (k_here; (with_reducible show wpAny _ _ (call (Value.ref 28) [Value.int _ _]) _ _ _); k_dflt (refine' ct_use (digit_ct _ _) ?k1 ?k2 ?k3 ?k4 ?k5 ?kK ?kd ?ku ?kG ?_; (case k1 => k_asm); (case k2 => k_asm); (case k3 => k_asm); (case k4 => k_asm); (case k5 => k_asm); (case kK => first | exact rfl | assumption); (case kd => ktr_room); (case ku => ktr_units); (case kG => trivial); (intro v9 h9 tk9 hv9 F9 N9); (subst hv9); (try dsimp only); (try k_fold)))
  k_with "call ref" => (k_here; (with_reducible show wpAny _ _ (call (Value.ref 35) [Value.int _ _]) _ _ _); k_dflt (refine' ct_use (small_ct _ _) ?k1 ?k2 ?k3 ?k4 ?k5 ?kK ?kd ?ku ?kG ?_; (case k1 => k_asm); (case k2 => k_asm); (case k3 => k_asm); (case k4 => k_asm); (case k5 => k_asm); (case kK => first | exact rfl | assumption); (case kd => ktr_room); (case ku => ktr_units); (case kG => trivial); (intro v9 h9 tk9 hv9 F9 N9); (subst hv9); (try dsimp only); (try k_fold)))
  k_with "call ref" => (k_here; (with_reducible show wpAny _ _ (call (Value.ref 42) [Value.int _ _]) _ _ _); k_dflt (refine' ct_use (capital_ct _ _) ?k1 ?k2 ?k3 ?k4 ?k5 ?kK ?kd ?ku ?kG ?_; (case k1 => k_asm); (case k2 => k_asm); (case k3 => k_asm); (case k4 => k_asm); (case k5 => k_asm); (case kK => first | exact rfl | assumption); (case kd => ktr_room); (case ku => ktr_units); (case kG => trivial); (intro v9 h9 tk9 hv9 F9 N9); (subst hv9); (try dsimp only); (try k_fold)))
  k_with "call ref" => (k_here; (with_reducible show wpAny _ _ (call (Value.ref 49) [Value.int _ _]) _ _ _); k_dflt (refine' ct_use (alnum_ct _ _) ?k1 ?k2 ?k3 ?k4 ?k5 ?kK ?kd ?ku ?kG ?_; (case k1 => k_asm); (case k2 => k_asm); (case k3 => k_asm); (case k4 => k_asm); (case k5 => k_asm); (case kK => first | exact rfl | assumption); (case kd => ktr_room); (case ku => ktr_units); (case kG => trivial); (intro v9 h9 tk9 hv9 F9 N9); (subst hv9); (try dsimp only); (try k_fold)))
  k_with "call ref" => (k_here; (with_reducible show wpAny _ _ (call (Value.ref 56) [Value.int _ _]) _ _ _); k_dflt (refine' ct_use (symbol_ct _ _) ?k1 ?k2 ?k3 ?k4 ?k5 ?kK ?kd ?ku ?kG ?_; (case k1 => k_asm); (case k2 => k_asm); (case k3 => k_asm); (case k4 => k_asm); (case k5 => k_asm); (case kK => first | exact rfl | assumption); (case kd => ktr_room); (case ku => ktr_units); (case kG => trivial); (intro v9 h9 tk9 hv9 F9 N9); (obtain ⟨b9, e9⟩ := hv9; subst e9); (try dsimp only); (try k_fold)))
  k_with "call ref" => (k_here; (with_reducible show wpAny _ _ (call (Value.ref 70) [Value.str _ _]) _ _ _); k_dflt (refine' ct_use (alnumName_ct _ _ ?kB) ?k1 ?k2 ?k3 ?k4 ?k5 ?kK ?kd ?ku ?kG ?_; (case k1 => k_asm); (case k2 => k_asm); (case k3 => k_asm); (case k4 => k_asm); (case k5 => k_asm); (case kK => first | exact rfl | assumption); (case kd => ktr_room); (case ku => ktr_units); (case kB => assumption); (case kG => trivial); (intro v9 h9 tk9 hv9 F9 N9); (obtain ⟨b9, e9⟩ := hv9; subst e9); (try dsimp only); (try k_fold)))
  k_with "call ref" => (k_here; (with_reducible show wpAny _ _ (call (Value.ref 77) [Value.str _ _]) _ _ _); k_dflt (refine' ct_use (symbolName_ct _ _ ?kB) ?k1 ?k2 ?k3 ?k4 ?k5 ?kK ?kd ?ku ?kG ?_; (case k1 => k_asm); (case k2 => k_asm); (case k3 => k_asm); (case k4 => k_asm); (case k5 => k_asm); (case kK => first | exact rfl | assumption); (case kd => ktr_room); (case ku => ktr_units); (case kB => assumption); (case kG => trivial); (intro v9 h9 tk9 hv9 F9 N9); (obtain ⟨b9, e9⟩ := hv9; subst e9); (try dsimp only); (try k_fold)))
  unfold Ct PR; k_fill
  intro dp un gd cn cs a ccd cl outer A₀ base h₀ L m news s Q E B F X N T hk hd hu hG hret
  refine wpAny_call ?_
  k_dflt cell_enter
  k_steps
  all_goals (refine ct_end hret (by k_asm) (by k_asm) (by first | exact fun p hp => hp | exact fun p hp => .tail _ hp | exact fun p hp => List.mem_append_left _ hp) ⟨_, rfl⟩)
end
end
end Mine
/-! part U1 -/
namespace Mine
section
abbrev menu : List Nat := [1, 39, 92, 10, 7, 13, 0, 31, 127, 97, 48, 120, 32, 43, 65, 95, 233, 8364, 34, 98, 9, 59, 8]
abbrev Menu (x : Str) : Prop := ∀ c ∈ x.cps.toList, c ∈ menu
def UP (x : Str) (at_ : Int) (found : Str) : Prop := ∃ (pre post : List Nat) (a : Nat), x.cps.toList = pre ++ post ∧ found = ⟨pre.toArray⟩ ∧ at_ = (a : Int) ∧ a = 1 + (pre.flatMap esc).length
theorem up_nil (x : Str) : UP x 1 (Str.ofString "") := ⟨[], x.cps.toList, 1, rfl, by decide +kernel, rfl, rfl⟩
theorem quot_cps (x : Str) : (quotS x).cps.toList = 39 :: (x.cps.toList.flatMap esc ++ [39]) := rfl
theorem str_len (x : Str) : x.length = x.cps.toList.length := by show x.cps.size = _; simp
theorem esc_le5 (n : Nat) : (esc n).length ≤ 5 := by
  unfold esc
  (repeat' split) <;> simp
theorem quot_len (x : Str) : (quotS x).length ≤ 2 + 5 * x.length := by
  rw [str_len, quot_cps, str_len]
  have key : ∀ l : List Nat, (l.flatMap esc).length ≤ 5 * l.length := by
    intro l
    induction l with
    | nil => exact Nat.le_refl _
    | cons c l ih => rw [List.flatMap_cons, List.length_append, List.length_cons]; have := esc_le5 c; omega
  have := key x.cps.toList
  simp only [List.length_cons, List.length_append, List.length_nil]
  omega
theorem up_open {x : Str} {at_ : Int} {found : Str} (h : UP x at_ found) (hm : Menu x) (hl : x.length ≤ 9) :
    (found = x ∧ ∃ a : Nat, at_ = (a : Int) ∧ (quotS x).length = a + 1 ∧ a ≤ 60) ∨
    ∃ (pre : List Nat) (n : Nat) (r : List Nat) (a : Nat), x.cps.toList = pre ++ n :: r ∧ found = ⟨pre.toArray⟩ ∧ at_ = (a : Int) ∧ a = 1 + (pre.flatMap esc).length ∧
      (quotS x).cps.toList.drop a = esc n ++ (r.flatMap esc ++ [39]) ∧ a + (esc n).length + 1 ≤ (quotS x).length ∧ (quotS x).length ≤ 60 ∧ pre.length ≤ 9 ∧ n ∈ menu := by
  obtain ⟨pre, post, a, e1, e2, e3, e4⟩ := h
  have hq := quot_len x
  have hL : (quotS x).length = 1 + ((pre.flatMap esc).length + (post.flatMap esc).length) + 1 := by
    rw [str_len, quot_cps, e1]
    simp only [List.flatMap_append, List.length_cons, List.length_append, List.length_nil]
    omega
  cases post with
  | nil =>
    refine .inl ⟨?_, a, e3, ?_, ?_⟩
    · rw [e2]
      refine Str.ext' (Array.toList_inj.mp ?_)
      rw [e1, List.append_nil]
    · rw [hL, e4]; simp only [List.flatMap_nil, List.length_nil]; omega
    · simp only [List.flatMap_nil, List.length_nil] at hL; omega
  | cons n r =>
    refine .inr ⟨pre, n, r, a, e1, e2, e3, e4, ?_, ?_, by omega, ?_, hm n (by rw [e1]; simp)⟩
    · rw [quot_cps, e1, e4, List.flatMap_append, List.flatMap_cons, Nat.add_comm, List.drop_succ_cons, List.append_assoc, List.drop_left, List.append_assoc]
    · rw [List.flatMap_cons, List.length_append] at hL; omega
    · have : x.length = pre.length + (r.length + 1) := by rw [str_len, e1, List.length_append, List.length_cons]
      omega
theorem up_next {x : Str} {pre r : List Nat} {n a : Nat} {at_ : Int} {S : Str} (e1 : x.cps.toList = pre ++ n :: r) (e4 : a = 1 + (pre.flatMap esc).length) (h1 : S = ⟨#[n]⟩) (h2 : at_ = (a : Int) + ((esc n).length : Nat)) :
    UP x at_ ((⟨pre.toArray⟩ : Str) ++ S) := by
  subst h1
  refine ⟨pre ++ [n], r, a + (esc n).length, by rw [e1]; simp, ?_, by rw [h2]; push_cast; rfl, ?_⟩
  · refine Str.ext' (Array.toList_inj.mp ?_)
    rw [Str.cps_append, Array.toList_append]
  · rw [e4, List.flatMap_append, List.length_append, List.flatMap_cons, List.flatMap_nil, List.append_nil]; omega
theorem drop_get {l : List Nat} {a k c : Nat} {L : List Nat} (hD : l.drop a = L) (hk : L[k]? = some c) : l[a + k]? = some c := by
  rw [← hD, List.getElem?_drop] at hk
  exact hk
theorem item_lit {x : Str} {a k c : Nat} {L : List Nat} (hD : x.cps.toList.drop a = L) (hk : L[k]? = some c) : Txt.item x ((a : Int) + (k : Int)) = ⟨#[c]⟩ := by
  have h := drop_get hD hk
  have hlt : a + k < x.length := by
    rw [str_len]
    have := (List.getElem?_eq_some_iff.mp h).1
    exact this
  have e : ((a : Int) + (k : Int)) = ((a + k : Nat) : Int) := by push_cast; rfl
  have h' : x.cps[a + k]? = some c := by rw [← Array.getElem?_toList]; exact h
  rw [e]
  unfold Txt.item Txt.charAt seqIndex?
  have e1 : ¬ ((a + k : Nat) : Int) < 0 := by omega
  have e2 : (decide (0 ≤ ((a + k : Nat) : Int)) && decide (((a + k : Nat) : Int) < (x.length : Int))) = true := by
    rw [Bool.and_eq_true, decide_eq_true_eq, decide_eq_true_eq]; omega
  simp only [if_neg e1]
  rw [if_pos e2]
  show (⟨#[((some ((a + k : Nat) : Int).toNat).bind fun j => x.cps[j]?).getD 0]⟩ : Str) = ⟨#[c]⟩
  rw [Option.bind_some, Int.toNat_natCast, h']
  rfl
theorem slice_lit {x : Str} {a k j : Nat} {i1 i2 : Int} {L : List Nat} (hD : x.cps.toList.drop a = L) (h1 : i1 = (a : Int) + (k : Int)) (h2 : i2 = i1 + (j : Int)) (hj : k + j ≤ L.length) (ha : a ≤ x.length) : Txt.slice x (some i1) (some i2) = ⟨((L.drop k).take j).toArray⟩ := by
  have hLl : L.length = x.cps.toList.length - a := by rw [← hD, List.length_drop]
  have hb : i1 ≤ i2 := by omega
  have hx : x.length = x.cps.toList.length := str_len x
  have h := slice_closes (x := x) (i := i1) (j := i2) ⟨by omega, hb, by omega⟩
  have h := eq_of_beq h
  rw [h]
  have e1 : i1.toNat = a + k := by omega
  have e2 : (i2 - i1).toNat = j := by omega
  rw [e1, e2, ← List.drop_drop, hD]
theorem find_lit {x : Str} {a k c : Nat} {i : Int} {L : List Nat} {c1 c2 : Nat} {R : List Nat} (hD : x.cps.toList.drop a = L) (h1 : i = (a : Int) + (k : Int)) (hk : L.drop k = c1 :: c2 :: c :: R) (n1 : c1 ≠ c) (n2 : c2 ≠ c) : Txt.find3 x ⟨#[c]⟩ i = i + 2 := by
  have g0 : x.cps.toList[a + k]? = some c1 := drop_get hD (by have := congrArg (·[0]?) hk; simpa using this)
  have g1 : x.cps.toList[a + (k + 1)]? = some c2 := drop_get hD (by have := congrArg (·[1]?) hk; simpa using this)
  have g2 : x.cps.toList[a + (k + 2)]? = some c := drop_get hD (by have := congrArg (·[2]?) hk; simpa using this)
  have hlt : a + (k + 2) < x.length := by rw [str_len]; exact (List.getElem?_eq_some_iff.mp g2).1
  have q : ∀ (j d : Nat), x.cps.toList[j]? = some d → x.cps.getD j 0 = d := by
    intro j d hj
    rw [Array.getElem?_toList] at hj
    rw [Array.getD_eq_getD_getElem?, hj]
    rfl
  have q0 := q _ _ g0
  have q1 := q _ _ g1
  have q2 := q _ _ g2
  have hf : fromIndex x.length i = a + k := by unfold fromIndex; omega
  rcases StrLaws.find3_spec x c i with ⟨_, hn⟩ | ⟨v, e, hlo, hv, hc, hmin⟩
  · exact absurd q2 (hn _ (by rw [hf]; omega) hlt)
  · rw [hf] at hlo hmin
    rw [e]
    have c0 : v ≠ a + k := fun e => n1 (by rw [← q0, ← e, hc])
    have c1' : v ≠ a + (k + 1) := fun e => n2 (by rw [← q1, ← e, hc])
    have c2' : ¬ a + (k + 2) < v := fun hl => hmin _ (by omega) hl q2
    omega
end
end Mine
/-! part U2 -/
namespace Mine
section
section
variable {prog : Program} {w : World} {A : Around} {E : Value → Shared → Prop} {s : Shared} {h₀ : Heap} {L : Addr} {m : Str → Option Value} {news : List (Addr × Obj)}
theorem elt_index {env : Env} {S : Str} {k : Nat} {p1 p2 p3 p4 : Pos} {x : Str} {c : Nat} {u : Tok} {m₂ : Str → Option Value} {E' : Value → Shared → Prop} (hA : A.handled = none)
    (hk : env.scope.kind = .function) (hx : env.kindOf x = some .local) (hd : (x == ("__debug__" : Str)) = false) (hn : s.heap.Ns env.locals m₂) (hv : m₂ x = some (.str ⟨#[c]⟩ u)) (hf : 0 ≤ Txt.find S ⟨#[c]⟩) {pl : Sem Bool}
    (he : eval (.Call (.Attribute (.Constant (.str S) k p1) (Str.ofString "index") p2) [.Name x p3] [] p4) env = (do
      let ov ← eval (.Constant (.str S) k p1) env
      standAt p2.atName
      let (f, first) ← holding [ov] (getMethod ov (Str.ofString "index") pl)
      callWith p4 f first (backTo p4 (starEach [.Name x p3] env)) [])) :
    wpAny (model prog w) A (eval (.Call (.Attribute (.Constant (.str S) k p1) (Str.ofString "index") p2) [.Name x p3] [] p4) env)
      (fun r s₄ => (∃ t, r = .int (Txt.find S ⟨#[c]⟩) t) ∧ Keeps s s₄) E' s := by
  w_top off; k_with_none
  refine MethodCall_ (he := he) ?_
  walk1
  with_reducible refine GM.index ?_
  walk1
  walk1
  refine wpAny_Name (wpAny_loadName_local hk hx hn hv ?_) hd
  walk1
  refine index_or hA (fun e => absurd e (by omega)) fun _ _ => ⟨⟨_, rfl⟩, s.heap, _, rfl, fun _ _ e => e⟩
def SrcP (y : Str) (Good : Shared → Prop) (xv : Value) (s : Shared) : Prop := ∃ t, xv = .str y t ∧ Good s
def LcGood (h₀ : Heap) (L : Addr) (m : Str → Option Value) (z : Str) (S : Str) (c1 c2 : Nat) (Q : Flow → Shared → Prop) (s₁ : Shared) : Prop :=
  ∃ news, Fr h₀ L s₁.heap m ∧ News h₀ L s₁.heap news ∧
    ∀ D n t1 t2 h' tk, Fr h₀ L h' (fun q => if q = z then some (.ref D) else m q) → News h₀ L h' ((D, listOf #[.int (Txt.find S ⟨#[c1]⟩) t1, .int (Txt.find S ⟨#[c2]⟩) t2] n) :: news) → (∀ p ∈ news, p.1 ≠ D) → Q .next { s₁ with heap := h', toks := tk }
theorem lc_signs {name : Str} {fscope : Scope} {a : Addr} {cd : Value} {S : Str} {k : Nat} {p1 p2 p3 p4 : Pos} {iter : PySem.Expr} {x z : Str} {px pz' : Pos} {scope : Scope} {pos spos : Pos} {Q : Flow → Shared → Prop} {c1 c2 : Nat} {pl : Sem Bool}
    (hsw : swapsWith (.ListComp (.Call (.Attribute (.Constant (.str S) k p1) (Str.ofString "index") p2) [.Name x p3] [] p4) [⟨.Name x px, iter, [], 0⟩] scope pos) (some (.Name z pz')) spos.line (envOf name fscope L a cd) = pure true)
    (hA : A.handled = none) (hfree : ∀ q ∈ scope.names, q.2 ≠ .free) (hcell : ∀ q ∈ scope.names, q.2 ≠ .cell) (hkind : scope.kind = .function)
    (hnames : ∀ q ∈ scope.names, q.2 = .local → scope.names.lookup q.1 = some .local) (hx : scope.names.lookup x = some .local) (hxd : (x == ("__debug__" : Str)) = false)
    (hxk : ∀ C, (compEnv scope C (envOf name fscope L a cd)).kindOf x = some .local)
    (hy : (envOf name fscope L a cd).kindOf z = some .local) (hp : ((envOf name fscope L a cd).scope.kind == .class || ((envOf name fscope L a cd).scope.kind == .module && (envOf name fscope L a cd).locals != (envOf name fscope L a cd).globals)) = false)
    (he : ∀ C, eval (.Call (.Attribute (.Constant (.str S) k p1) (Str.ofString "index") p2) [.Name x p3] [] p4) (compEnv scope C (envOf name fscope L a cd)) = (do
      let ov ← eval (.Constant (.str S) k p1) (compEnv scope C (envOf name fscope L a cd))
      standAt p2.atName
      let (f, first) ← holding [ov] (getMethod ov (Str.ofString "index") pl)
      callWith p4 f first (backTo p4 (starEach [.Name x p3] (compEnv scope C (envOf name fscope L a cd)))) []))
    (h1 : 0 ≤ Txt.find S ⟨#[c1]⟩) (h2 : 0 ≤ Txt.find S ⟨#[c2]⟩)
    (h : wpAny (model prog w) A (eval iter (envOf name fscope L a cd)) (SrcP ⟨#[c1, c2]⟩ (LcGood h₀ L m z S c1 c2 Q)) E s)
    (hs : ∀ x, foldedSetIterable iter (envOf name fscope L a cd) x = pure x) :
    wpAny (model prog w) A (exec (.Assign [.Name z pz'] (.ListComp (.Call (.Attribute (.Constant (.str S) k p1) (Str.ofString "index") p2) [.Name x p3] [] p4) [⟨.Name x px, iter, [], 0⟩] scope pos) spos) (envOf name fscope L a cd)) Q E s := by
  refine wpAny_Assign_ListComp_walk (fun _ => true) (fun v r => ∃ c u t, v = .str ⟨#[c]⟩ u ∧ r = .int (Txt.find S ⟨#[c]⟩) t) hsw hfree hcell hkind hnames hx hy hp (wpAny_mono h (fun xv s₁ hs₁ => ?_) fun _ _ e => e) hs
  obtain ⟨t, rfl, news, F, N, hQ⟩ := hs₁
  have hall : ∀ i v, SignAt (⟨#[c1, c2]⟩ : Str) i v → ∃ c u, v = .str ⟨#[c]⟩ u ∧ 0 ≤ Txt.find S ⟨#[c]⟩ ∧ ((i = 0 ∧ c = c1) ∨ (i = 1 ∧ c = c2)) := by
    rintro i v ⟨c, u, hc, rfl⟩
    have hc' : [c1, c2][i]? = some c := by simpa using hc
    match i, hc' with
    | 0, hc' => cases hc'; exact ⟨_, u, rfl, h1, .inl ⟨rfl, rfl⟩⟩
    | 1, hc' => cases hc'; exact ⟨_, u, rfl, h2, .inr ⟨rfl, rfl⟩⟩
    | i + 2, hc' => simp at hc'
  refine wpAny_pyIter_str fun o St W hst => ?_
  have push_old : ∀ b o', s₁.heap.get? b = some o' → b ≠ s₁.heap.objs.size := fun b o' e q => absurd (Heap.lt_size e) (q ▸ Nat.lt_irrefl _)
  refine ⟨s₁.heap.objs.size, [s₁.heap.objs.size], [s₁.heap.objs.size], 2, SignAt ⟨#[c1, c2]⟩, St, m, rfl, W A hA, by decide, hst, ?_, ?_, (F.push o).ns, ⟨?_, ?_⟩, ?_⟩
  · intro b hb
    show b < (s₁.heap.push o).objs.size
    rw [Heap.size_push, List.mem_singleton.mp hb]
    exact Nat.lt_succ_self _
  · intro hm
    exact absurd F.ns.lt ((List.mem_singleton.mp hm) ▸ Nat.lt_irrefl _)
  · intro C i v s₃ m₃ E' _ _ _ _ _
    exact wpAny_pure ⟨rfl, s₃.heap, s₃.toks, rfl, fun _ _ e => e⟩
  · intro C i v s₃ m₃ E' hP _ hn hm _ _
    obtain ⟨c, u, rfl, hc, _⟩ := hall i v hP
    refine wpAny_mono (elt_index (pl := pl) hA hkind (hxk C) hxd hn hm hc (he C)) (fun r s₄ h₄ => ?_) fun _ _ e => e
    obtain ⟨⟨t', rfl⟩, h₄⟩ := h₄
    exact ⟨⟨c, u, t', rfl, rfl⟩, h₄⟩
  · intro D h' tk ys vs hnew _ hplD hlen hP hF hn' hk
    obtain ⟨n, hD⟩ := hplD
    have hvs : vs.filter (fun _ => true) = vs := List.filter_eq_self.mpr fun _ _ => rfl
    rw [hvs] at hF
    obtain ⟨v1, v2, rfl⟩ : ∃ v1 v2, vs = [v1, v2] := by
      match vs, hlen with
      | [v1, v2], _ => exact ⟨v1, v2, rfl⟩
    obtain ⟨ca, ua, hv1, _, ha⟩ := hall 0 v1 (hP 0 v1 rfl)
    obtain ⟨cb, ub, hv2, _, hb⟩ := hall 1 v2 (hP 1 v2 rfl)
    have ea : ca = c1 := by rcases ha with ⟨_, e⟩ | ⟨e, _⟩; exact e; cases e
    have eb : cb = c2 := by rcases hb with ⟨e, _⟩ | ⟨_, e⟩; cases e; exact e
    subst ea; subst eb; subst hv1; subst hv2
    have hys : ∃ t1 t2, ys.toList = [.int (Txt.find S ⟨#[ca]⟩) t1, .int (Txt.find S ⟨#[cb]⟩) t2] := by
      generalize ys.toList = yl at hF
      cases hF with
      | cons f1 hF =>
        cases hF with
        | cons f2 hF =>
          cases hF
          obtain ⟨c, u, t1, e, rfl⟩ := f1
          obtain ⟨c', u', t2, e', rfl⟩ := f2
          injection e with e _; injection e with e; injection e with e; injection e with e _
          injection e' with e' _; injection e' with e'; injection e' with e'; injection e' with e' _
          subst e; subst e'
          exact ⟨t1, t2, rfl⟩
    obtain ⟨t1, t2, hys⟩ := hys
    have hya : ys = #[.int (Txt.find S ⟨#[ca]⟩) t1, .int (Txt.find S ⟨#[cb]⟩) t2] := Array.toList_inj.mp hys
    subst hya
    have none0 : ∀ b o', s₁.heap.get? b = some o' → b ≠ D := fun b o' e q => by
      subst q
      have := Heap.get?_push_of_some o e
      rw [this] at hnew; cases hnew
    refine hQ D n t1 t2 h' tk ⟨hn', fun b o' e => hk b o' ?_ ?_ (Heap.get?_push_of_some _ (F.keep b o' e)), F.above⟩ ?_ (fun p hp => none0 _ _ (N p hp).1)
    · exact Nat.ne_of_lt (Nat.lt_of_lt_of_le (Heap.lt_size e) F.above)
    · intro hb'
      exact push_old b o' (F.keep b o' e) (List.mem_singleton.mp hb')
    · intro p hp
      rcases List.mem_cons.mp hp with rfl | hp
      · refine ⟨hD, ?_, ?_⟩
        · obtain ⟨oL, _, _, hL, _⟩ := F.ns
          exact fun q => none0 _ _ hL q.symm
        · cases e : h₀.get? D with
          | none => rfl
          | some o' => exact absurd rfl (none0 _ _ (F.keep _ _ e))
      · refine ⟨hk _ _ (N p hp).2.1 (fun hb' => push_old _ _ (N p hp).1 (List.mem_singleton.mp hb')) (Heap.get?_push_of_some _ (N p hp).1), (N p hp).2⟩
theorem lc_pick {name : Str} {fscope : Scope} {a : Addr} {cd : Value} {S : Str} {k : Nat} {p1 p2 p3 p4 : Pos} {iter : PySem.Expr} {x z : Str} {px pz' : Pos} {scope : Scope} {pos spos : Pos} {Q : Flow → Shared → Prop} {pl : Sem Bool} {X Lx R : List Nat} (c1 c2 : Nat) (v1 v2 : Int) (hF0 : Fr h₀ L s.heap m)
    (hD0 : X = Lx) (hc0 : Lx.drop 2 = c1 :: c2 :: R) (hS : S = Str.ofString "0123456789abcdef") (e1 : Txt.find (Str.ofString "0123456789abcdef") ⟨#[c1]⟩ = v1) (e2 : Txt.find (Str.ofString "0123456789abcdef") ⟨#[c2]⟩ = v2) (h1 : 0 ≤ v1) (h2 : 0 ≤ v2)
    (hsw : swapsWith (.ListComp (.Call (.Attribute (.Constant (.str S) k p1) (Str.ofString "index") p2) [.Name x p3] [] p4) [⟨.Name x px, iter, [], 0⟩] scope pos) (some (.Name z pz')) spos.line (envOf name fscope L a cd) = pure true)
    (hA : A.handled = none) (hfree : ∀ q ∈ scope.names, q.2 ≠ .free) (hcell : ∀ q ∈ scope.names, q.2 ≠ .cell) (hkind : scope.kind = .function)
    (hnames : ∀ q ∈ scope.names, q.2 = .local → scope.names.lookup q.1 = some .local) (hx : scope.names.lookup x = some .local) (hxd : (x == ("__debug__" : Str)) = false)
    (hxk : ∀ C, (compEnv scope C (envOf name fscope L a cd)).kindOf x = some .local)
    (hy : (envOf name fscope L a cd).kindOf z = some .local) (hp : ((envOf name fscope L a cd).scope.kind == .class || ((envOf name fscope L a cd).scope.kind == .module && (envOf name fscope L a cd).locals != (envOf name fscope L a cd).globals)) = false)
    (he : ∀ C, eval (.Call (.Attribute (.Constant (.str S) k p1) (Str.ofString "index") p2) [.Name x p3] [] p4) (compEnv scope C (envOf name fscope L a cd)) = (do
      let ov ← eval (.Constant (.str S) k p1) (compEnv scope C (envOf name fscope L a cd))
      standAt p2.atName
      let (f, first) ← holding [ov] (getMethod ov (Str.ofString "index") pl)
      callWith p4 f first (backTo p4 (starEach [.Name x p3] (compEnv scope C (envOf name fscope L a cd)))) []))
    (h : wpAny (model prog w) A (eval iter (envOf name fscope L a cd)) (SrcP ⟨#[c1, c2]⟩ (fun s₁ => ∃ news, Fr h₀ L s₁.heap m ∧ News h₀ L s₁.heap news ∧
      ∀ D n t1 t2 h' tk, Fr h₀ L h' (fun q => if q = z then some (.ref D) else m q) → News h₀ L h' ((D, listOf #[.int v1 t1, .int v2 t2] n) :: news) → (∀ p ∈ news, p.1 ≠ D) → Q .next { s₁ with heap := h', toks := tk })) E s)
    (hs : ∀ x, foldedSetIterable iter (envOf name fscope L a cd) x = pure x) :
    wpAny (model prog w) A (exec (.Assign [.Name z pz'] (.ListComp (.Call (.Attribute (.Constant (.str S) k p1) (Str.ofString "index") p2) [.Name x p3] [] p4) [⟨.Name x px, iter, [], 0⟩] scope pos) spos) (envOf name fscope L a cd)) Q E s := by
  subst hS
  refine lc_signs (h₀ := h₀) (L := L) (m := m) hsw hA hfree hcell hkind hnames hx hxd hxk hy hp he (by rw [e1]; exact h1) (by rw [e2]; exact h2) (wpAny_mono h (fun xv s₁ hs₁ => ?_) fun _ _ e => e) hs
  obtain ⟨t, rfl, news, F, N, hQ⟩ := hs₁
  refine ⟨t, rfl, news, F, N, ?_⟩
  rw [e1, e2]
  exact hQ
theorem w_slice {value slice : PySem.Expr} {x : Str} {t : Tok} {Q : Value → Shared → Prop} {i1 i2 : Int} {ui uj : Tok} {a0 c1 c2 : Nat} {Lx R : List Nat}
    (hD : x.cps.toList.drop a0 = Lx) (hc : Lx.drop 2 = c1 :: c2 :: R) (h1 : i1 = (a0 : Int) + ((2 : Nat) : Int)) (h2 : i2 = i1 + ((2 : Nat) : Int)) (ha : a0 ≤ x.length) (hl : x.length ≤ 60) (hF : Fr h₀ L s.heap m) (hN : News h₀ L s.heap news)
    (h : ∀ h' t' k', Fr h₀ L h' m → News h₀ L h' news → Q (.str ⟨#[c1, c2]⟩ t') { s with heap := h', toks := k' })
    (hs : subscripted slice false (.str x t) (.ref s.heap.objs.size) = operate [.ref s.heap.objs.size, .str x t] (getItem (.str x t) (.ref s.heap.objs.size)) := by with_unfolding_all rfl)
    (ht : ∀ r, letTemporaryGo value (.str x t) r = pure () := by intro _; with_unfolding_all rfl) :
    wpAny (model prog w) A (subscriptTail value slice (.str x t) (.ref s.heap.objs.size)) Q E { s with heap := s.heap.push { cls := .type "slice", data := .fields #[.int i1 ui, .int i2 uj, .none] } } := by
  have hLl : 2 + 2 ≤ Lx.length := by
    have := congrArg List.length hc
    simp only [List.length_drop, List.length_cons] at this
    omega
  have e := slice_lit hD h1 h2 hLl ha
  rw [hc] at e
  exact slice_strN_ss hF hN (fun h' t' k' a b => by rw [e]; exact h h' t' k' a b) hs ht (by rw [sizeLine_eq]; omega)
theorem w_item {value slice : PySem.Expr} {x : Str} {t u : Tok} {i : Int} {a k c : Nat} {L : List Nat} {Q : Value → Shared → Prop}
    (hD : x.cps.toList.drop a = L) (hk : L[k]? = some c) (hl : x.length ≤ 60) (hi : i = (a : Int) + (k : Int)) (h : Q (.str ⟨#[c]⟩ s.toks) { s with toks := s.toks + 1 })
    (hs : subscripted slice false (.str x t) (.int i u) = operate [.str x t, .int i u] (getItem (.str x t) (.int i u)) := by with_unfolding_all rfl)
    (ht : ∀ r, letTemporaryGo value (.str x t) r = pure () := by intro _; with_unfolding_all rfl) :
    wpAny (model prog w) A (subscriptTail value slice (.str x t) (.int i u)) Q E s := by
  have hg := drop_get hD hk
  have hlt : a + k < x.length := by rw [str_len]; exact (List.getElem?_eq_some_iff.mp hg).1
  have e := item_lit hD hk
  rw [← hi] at e
  rw [← e] at h
  exact item_str (fitsSsize_of (N := 9223372036854775808) (by omega) (by omega) (Int.le_refl _)) (by omega) (by omega) (fun _ => h) hs ht
theorem w_index {x y : Str} {t u : Tok} {Q : Value → Shared → Prop} (v : Int) (hA : A.handled = none) (e : Txt.find x y = v) (h0 : 0 ≤ v) (h : Q (.int v s.toks) { s with toks := s.toks + 1 }) :
    wpAny (model prog w) A (call (.builtin "str.index") [.str x t, .str y u]) Q E s :=
  index_or hA (fun q => absurd (e.symm.trans q) (by omega)) (fun _ _ => by rw [e]; exact h)
theorem w_ne {x y : Str} {t u : Tok} {b : Bool} {Q : Value → Shared → Prop} (hb : (x != y) = b) (h : Q (.bool b) s) :
    wpAny (model prog w) A (compareOp .NotEq (.str x t) (.str y u)) Q E s := ne_str (by rw [hb]; exact h)
theorem w_eq {x y : Str} {t u : Tok} {b : Bool} {Q : Value → Shared → Prop} (hb : (x == y) = b) (h : Q (.bool b) s) :
    wpAny (model prog w) A (compareOp .Eq (.str x t) (.str y u)) Q E s := eq_str (by rw [hb]; exact h)
theorem w_neI {x y : Int} {t u : Tok} {Q : Value → Shared → Prop} (hb : x = y) (h : Q (.bool false) s) :
    wpAny (model prog w) A (compareOp .NotEq (.int x t) (.int y u)) Q E s := PyProof.Rows.ne_int (by rw [hb, bne_self_eq_false]; exact h)
theorem w_find {x y : Str} {t u v : Tok} {i : Int} {a c c1 c2 : Nat} {L R : List Nat} {Q : Value → Shared → Prop}
    (hD : x.cps.toList.drop a = L) (h1 : i = (a : Int) + ((2 : Nat) : Int)) (hk : L.drop 2 = c1 :: c2 :: c :: R) (n1 : c1 ≠ c) (n2 : c2 ≠ c) (hy : y = ⟨#[c]⟩)
    (h : Q (.int ((a : Int) + 4) s.toks) { s with toks := s.toks + 1 }) : wpAny (model prog w) A (call (.builtin "str.find") [.str x t, .str y u, .int i v]) Q E s := by
  subst hy
  refine SC.find3 ?_
  rw [find_lit hD h1 hk n1 n2, h1]
  have e : (a : Int) + ((2 : Nat) : Int) + 2 = (a : Int) + 4 := by omega
  rw [e]
  exact h
end
end
end Mine
/-! part E7 -/
namespace Mine
section
section
abbrev MCx (n c1 c2 : Nat) (v1 v2 : Int) : Prop := esc n = [92, 120, c1, c2, 92] ∧ (esc n).length = 5 ∧ c1 ≠ 92 ∧ c2 ≠ 92 ∧ Txt.find (Str.ofString "0123456789abcdef") ⟨#[c1]⟩ = v1 ∧ Txt.find (Str.ofString "0123456789abcdef") ⟨#[c2]⟩ = v2 ∧ 0 ≤ v1 ∧ 0 ≤ v2 ∧ v1 ≤ 7 ∧ v2 ≤ 15 ∧ (⟨#[(v1 * 16 + v2).toNat]⟩ : Str) = ⟨#[n]⟩
abbrev MCy (n c : Nat) (v : Int) : Prop := esc n = [92, c] ∧ (esc n).length = 2 ∧ ((⟨#[c]⟩ : Str) == Str.ofString "x") = false ∧ Txt.find (Str.ofString "abtnvfr'\\") ⟨#[c]⟩ = v ∧ 0 ≤ v ∧ v ≤ 8 ∧ Txt.item (Str.ofString "\x07\x08\t\n\x0b\x0c\r'\\") v = ⟨#[n]⟩
theorem menu_cases {n : Nat} (h : n ∈ menu) : (((⟨#[n]⟩ : Str) != Str.ofString "\\") = true ∧ esc n = [n] ∧ (esc n).length = 1) ∨ (∃ c1 c2 v1 v2, MCx n c1 c2 v1 v2) ∨ ∃ c v, MCy n c v := by
  have key : ∀ n ∈ menu, (((⟨#[n]⟩ : Str) != Str.ofString "\\") = true ∧ esc n = [n] ∧ (esc n).length = 1) ∨ MCx n ((esc n).getD 2 0) ((esc n).getD 3 0) ((n / 16 : Nat) : Int) ((n % 16 : Nat) : Int) ∨ MCy n ((esc n).getD 1 0) (Txt.find (Str.ofString "abtnvfr'\\") ⟨#[(esc n).getD 1 0]⟩) := by decide +kernel
  rcases key n h with k | k | k
  · exact .inl k
  · exact .inr (.inl ⟨_, _, _, _, k⟩)
  · exact .inr (.inr ⟨_, _, k⟩)
theorem w_chr {prog : Program} {w : World} {A : Around} {E : Value → Shared → Prop} {s : Shared} {i j : Int} {S : Str} {t : Tok} {Q : Value → Shared → Prop} (hS : (⟨#[j.toNat]⟩ : Str) = S) (e : i = j) (h0 : 0 ≤ j) (h1 : j ≤ 1114111) (h : Q (.str S s.toks) { s with toks := s.toks + 1 }) :
    wpAny (model prog w) A (call (.builtin "chr") [.int i t]) Q E s := by
  subst e; subst hS
  exact chr_of_range h0 h1 h
theorem unq_ct {w : World} {mean mg mb} (x : Str) (t : Tok) (hm : Menu x) (hl : x.length ≤ 9) : Ct 4 60 w mean mg mb 237 [.str (quotS x) t] (fun _ => True) (fun v => ∃ u, v = .str x u) := by
  w_top off; k_with_none
  k_with "subscriptTail Name Name str int" => (k_here; (with_reducible show wpAny _ _ (subscriptTail _ _ (Value.str _ _) (Value.int _ _)) _ _ _); (rename List.drop _ _ = _ => hD9); k_dflt (first | (refine w_item (k := 0) hD9 (by rfl) (by assumption) (by omega) ?_) | (refine w_item (k := 1) hD9 (by rfl) (by assumption) (by omega) ?_)))
  k_with "subscriptTail Name BinOp str int" => (k_here; (with_reducible show wpAny _ _ (subscriptTail _ _ (Value.str _ _) (Value.int _ _)) _ _ _); (rename List.drop _ _ = _ => hD9); k_dflt (first | (refine w_item (k := 0) hD9 (by rfl) (by assumption) (by omega) ?_) | (refine w_item (k := 1) hD9 (by rfl) (by assumption) (by omega) ?_)))
  k_with "subscriptTail Name Slice str ref" => (k_here; (with_reducible show wpAny _ _ (subscriptTail _ (Expr.Slice (some _) (some _) none _) _ _) _ _ _); (rename List.drop _ _ = _ => hD9); (with_reducible rename Fr _ _ _ _ => F9); (with_reducible rename News _ _ _ _ => N9); k_dflt (refine w_slice hD9 (by rfl) (by omega) (by omega) (by omega) (by assumption) (s := ⟨_, _, _, _, _⟩) F9 N9 ?_); (intro h9 t9 k9 F8 N8); (try clear F9 N9))
  k_with "compareOp NotEq str str" => (k_here; k_dflt (first | (refine w_ne (b := true) (by with_reducible assumption) ?_) | (refine w_ne (b := true) (by decide +kernel) ?_) | (refine w_ne (b := false) (by decide +kernel) ?_)))
  k_with "compareOp Eq str str" => (k_here; k_dflt (first | (refine w_eq (b := false) (by with_reducible assumption) ?_) | (refine w_eq (b := true) (by decide +kernel) ?_)))
  k_with "compareOp NotEq int int" => (k_here; k_dflt (refine w_neI (by omega) ?_))
  k_with "call builtin:str.find" => (k_here; (rename List.drop _ _ = _ => hD9); k_dflt (refine w_find hD9 (by omega) (by rfl) (by assumption) (by assumption) (by decide +kernel) ?_))
  k_with "exec Assign cons ListComp" => (k_here; (rename List.drop _ _ = _ => hD9); k_dflt (refine lc_pick _ _ _ _ (by k_asm) hD9 (by rfl) (by rfl) hf1 hf2 hv1 hv2 (by with_unfolding_all rfl) (by rfl) (by decide) (by decide) (by rfl) (by decide) (by rfl) (by decide) (by intro _; rfl) (by rfl) (by rfl) (by intro _; rfl) ?_ (by intro _; rfl)))
  k_with "call builtin:str.index" => (k_here; k_dflt (refine w_index _ (by rfl) hf hv0 ?_))
  k_with "call builtin:chr" => (k_here; k_dflt (refine w_chr (j := v1 * 16 + v2) hch (by rfl) (by omega) (by omega) ?_))
  k_with "SrcP" => (k_here; k_dflt (refine ⟨_, rfl, _, by k_asm, by k_asm, ?_⟩); (intro D9 n9 t8 t9 h9 k9 F9 N9 hne9); (try dsimp only); (try k_fold))
  unfold Ct PR; k_fill
  intro dp un gd cn cs a ccd cl outer A₀ base h₀ L m news s Q E B F X N T hk hd hu hG hret
  refine wpAny_call ?_
  k_dflt cell_enter
  have hQ : (quotS x).length ≤ 60 := by have := quot_len x; omega
  k_with "exec While Compare cons nil" => (k_while (fun _ at_ found => UP x at_ found) (fun _ at_ _ => 60 - at_.toNat) "at" "found"; (rcases up_open kInv hm hl with ⟨e0, a0, ea, eL, eB⟩ | ⟨pre, n, r, a0, e1, e2, e3, e4, hD, hLe, hLh, hpl, hn⟩); (subst e0; subst ea; rotate_left); (subst e2; subst e3; clear kInv); (have hn := menu_cases hn); (rcases hn with ⟨hn1, hx, hEl⟩ | ⟨c1, c2, v1, v2, hx, hEl, hc1, hc2, hf1, hf2, hv1, hv2, hw1, hw2, hch⟩ | ⟨c, v, hx, hEl, hcx, hf, hv0, hv8, hit⟩); (all_goals (try rw [hx] at hD)))
  k_with "state" => first | exact up_nil _ | exact up_next (by assumption) (by assumption) (by first | with_reducible rfl | assumption) (by omega)
  k_steps
  all_goals (refine ct_end hret (by k_asm) (by k_asm) (by first | exact fun p hp => hp | exact fun p hp => .tail _ hp | exact fun p hp => List.mem_append_left _ hp) ⟨_, rfl⟩)
end
end
end Mine
/-! part U3 -/
namespace Mine
section
open Builtin Builtin.Str Builtin.Int
section
variable {prog : Program} {w : World} {A : Around} {E : Value → Shared → Prop} {s : Shared} {h₀ : Heap} {L : Addr} {m : Str → Option Value} {news : List (Addr × Obj)}
theorem nolen_lr : typeLookup (.type "list_reverseiterator") "__len__" = pure none := by rw [typeLookup_type, builtinLookup_eq_fast]; kernel_rfl
theorem hint_lr : typeLookup (.type "list_reverseiterator") "__length_hint__" = pure (some (.builtin "list_reverseiterator.__length_hint__")) := by rw [typeLookup_type, builtinLookup_eq_fast]; kernel_rfl
theorem collect_rev {Q : List Value → Shared → Prop} {I : Addr} {fp wr : List Addr} {G : Array GenState → Array GenState → Prop} {n : Nat} {P : Nat → Value → Prop} {St : Nat → Shared → Prop}
    (W : WalksS prog w A.in1 I fp wr G n P St) (hT : ∀ i s, St i s → s.TypeIs (.ref I) "list_reverseiterator") (hst : St 0 s) (hfp : ∀ b ∈ fp, b < s.heap.objs.size) (hI : I ∈ fp) (hn : n ≤ sizeLine)
    (hQ : ∀ s' acc, Moved wr G s s' → ItemsOf P acc n → Q acc.toList s') : wpAny (model prog w) A (collect (.ref I)) Q E s := by
  have off : s.heap.objs.size ∉ fp := fun q => Nat.lt_irrefl _ (hfp _ q)
  have offI : s.heap.objs.size ≠ I := fun q => off (q ▸ hI)
  unfold collect
  refine wpAny_bind (wpAny_runValue (codeAny_builtin F.entry_proto_collect ?_))
  rw [Around.under_plainId F.plain_proto_collect _]
  show wpAny _ A.in1 (newList [] >>= fun l => again (.builtin "list.__iadd__" ⟨[l, .ref I], []⟩)) _ _ s
  refine wpAny_bind (wpAny_newObj_type ?_)
  refine wpAny_pure ⟨plainId_quiet F.plain_list_iadd _, codeAny_builtin F.entry_list_iadd ?_⟩
  rw [Around.under_plainId F.plain_list_iadd _]
  have st1 := W.frame 0 s (s.heap.push { cls := .type "list", data := .seq ([] : List Value).toArray }) s.toks hst (Nat.le_refl _) fun b _ o e => Heap.get?_push_of_some _ e
  have new1 : (s.heap.push { cls := .type "list", data := .seq ([] : List Value).toArray }).get? s.heap.objs.size = some { cls := .type "list", data := .seq ([] : List Value).toArray } := Heap.get?_push_size _ rfl
  have ne1 : Builtin.List.listSameRef (.ref s.heap.objs.size) (.ref I) = false := by simp [Builtin.List.listSameRef, offI]
  show wpAny _ A.in1 (Builtin.List.listExtendWith (.ref s.heap.objs.size) (.ref I) (.ref s.heap.objs.size)) _ _ _
  unfold Builtin.List.listExtendWith
  refine wpAny_bind (wpAny_typeOf (hT 0 _ st1) ?_)
  rw [if_neg (by rw [ne1]; decide)]
  refine wpAny_bind (W.self 0 _ _ _ st1 ?_)
  refine wpAny_bind (wpAny_holding ?_)
  unfold Builtin.List.listLengthHint
  refine wpAny_bind (wpAny_specialOf (hT 0 _ st1) nolen_lr ?_)
  show wpAny _ A.in1 (specialOf (Value.ref I) (Str.ofString "__length_hint__") >>= _) _ _ _
  refine wpAny_bind (wpAny_specialOf (hT 0 _ st1) hint_lr ?_)
  (generalize hid : ("list_reverseiterator.__length_hint__" : String) = id0; (fail_if_success (clear hid id0)); wp_delta; rw [show splitId id0 = some ("list_reverseiterator", "__length_hint__") from by subst hid; decide +kernel]; subst hid)
  refine wpAny_bind (wpAny_isInstance (b := true) (hT 0 _ st1) (by rw [isSubtype_type]; kernel_rfl) ?_)
  refine wpAny_pure ?_
  rw [if_neg (by decide)]
  refine wpAny_pure ⟨plainId_quiet F.plain_extend_loop _, codeAny_extend_loopS W hn _ off _ n 0 _ _ _ rfl (Nat.zero_le _) st1 new1 (ItemsOf.nil P) fun s' acc' c' hm hS' hacc => ?_⟩
  show wpAny _ A (load s.heap.objs.size >>= _) _ _ s'
  refine wpAny_bind (wpAny_load hS' ?_)
  exact wpAny_pure (hQ s' acc' (Moved.drop_new (o := { cls := .type "list", data := .seq ([] : List Value).toArray }) (tk := s.toks) hm (Nat.le_refl _)) hacc)
theorem join_rev1 {x y : Str} {t u : Tok} {I l : Addr} {k : Nat} {Q : Value → Shared → Prop} (hh : A.handled = none) (F' : Fr h₀ L s.heap m) (N : News h₀ L s.heap ((I, revObj l 0) :: (l, listOf #[.str y u] k) :: news)) (hne : l ≠ I) (hoff : ∀ p ∈ news, p.1 ≠ I) (hy : y.length ≤ 100) (hx : x.length ≤ 16)
    (hq : ∀ h' k' t', Fr h₀ L h' m → News h₀ L h' ((l, listOf #[.str y u] k) :: news) → Q (.str y t') { s with heap := h', toks := k' }) :
    wpAny (model prog w) A (call (.builtin "str.join") [.str x t, .ref I]) Q E s := by
  have same : ∀ (s' : Shared) (k : Nat), s'.gens = s.gens → s'.drawn = s.drawn → s'.os = s.os → ({ s' with toks := k } : Shared) = { s with heap := s'.heap, toks := k } := by
    intro s' k h1 h2 h3
    obtain ⟨hp, g, d, tk, os⟩ := s'
    obtain ⟨hp0, g0, d0, tk0, os0⟩ := s
    simp only at h1 h2 h3
    subst h1; subst h2; subst h3
    rfl
  have gI := (N _ (.head _)).1
  have gl := (N _ (.tail _ (.head _))).1
  have hit : s.heap.IsRevIter I l (((#[Value.str y u] : Array Value).size : Int) - 1 - ((0 : Nat) : Int)) := ⟨_, gI, rfl, rfl⟩
  have hl : s.heap.IsList l #[.str y u] := ⟨_, gl, rfl, k, rfl⟩
  have W : WalksS prog w A.in1.in1 I [I, l] [I] _ _ _ _ := (Walks.listRev (prog := prog) (w := w) (A := A.in1.in1) hh I l hne #[.str y u]).toS
  have W1 : WalksS prog w A.in1 I [I, l] [I] _ _ _ _ := (Walks.listRev (prog := prog) (w := w) (A := A.in1) hh I l hne #[.str y u]).toS
  have hT : ∀ (i : Nat) (s : Shared), (i ≤ (#[Value.str y u] : Array Value).size ∧ s.heap.IsRevIter I l (((#[Value.str y u] : Array Value).size : Int) - 1 - (i : Int)) ∧ s.heap.IsList l #[.str y u]) → s.TypeIs (.ref I) "list_reverseiterator" := fun i s x => x.2.1.typeIs
  refine wpAny_call (codeAny_call_builtin F.slot_str_join.plain F.entry_str_join (F.slot_str_join.check _ _ _ _ _ _ _ _ (typeIs_str _ _ _) (F.args_str_join_2 _ _) ?_))
  rw [join_tree_other]
  refine wpAny_bind (wpAny_typeOf hit.typeIs ?_)
  show wpAny _ A.in1 ((pyIter (.ref I)).tryCatch _ >>= fun it => collect it >>= fun items => joinTail x items) _ _ s
  refine wpAny_bind (wpAny_tryCatch (W1.self 0 s _ _ ⟨Nat.zero_le _, hit, hl⟩ ?_))
  refine wpAny_bind (collect_rev W hT ⟨Nat.zero_le _, hit, hl⟩ ?_ (by simp) (by simp [sizeLine_eq]) fun s' acc hm hacc => ?_)
  · intro b hb
    rcases List.mem_cons.mp hb with rfl | hb
    · exact Heap.lt_size gI
    · rw [List.mem_singleton.mp hb]; exact Heap.lt_size gl
  obtain ⟨v, hv⟩ : ∃ v, acc.toList = [v] := by
    have hs := hacc.1
    match h : acc.toList with
    | [v] => exact ⟨v, rfl⟩
    | [] => have := congrArg List.length h; simp at this; simp [this] at hs
    | _ :: _ :: _ => have := congrArg List.length h; simp at this; simp [this] at hs
  have hv' : v = .str y u := by
    have h0 : acc[0]? = some v := by rw [← Array.getElem?_toList, hv]; rfl
    have h1 : some (Value.str y u) = some v := hacc.2 0 v h0
    exact (Option.some.inj h1).symm
  subst hv'
  rw [hv]
  have hok : JoinOk x ([(y, u)].map (·.1)) = true := joinOk_of (by simp only [List.map_cons, List.map_nil, List.sum_cons, List.sum_nil, List.length_cons, List.length_nil]; omega)
  unfold JoinOk at hok
  rw [Bool.not_eq_true'] at hok
  have g : Gives (joinTail x (strValues [(y, u)])) (joinMade x [(y, u)]) := gives_joinTail x [(y, u)] hok
  refine g prog w A (wants Q E) s' (post_join [(y, u)] ⟨joinFit_length hok, fun t' k' => ?_⟩)
  rw [same s' k' hm.gens hm.drawn hm.os]
  have keep : ∀ b o, b ≠ I → s.heap.get? b = some o → s'.heap.get? b = some o := fun b o hb e => hm.heap b o (fun q => hb (List.mem_singleton.mp q)) e
  refine hq s'.heap k' t' ⟨F'.ns.at' fun o e => keep _ _ (fun q => (N _ (.head _)).2.1 q.symm) e, fun b o e => keep b o (fun q => ?_) (F'.keep b o e), F'.above⟩ fun p hp => ?_
  · have := (N _ (.head _)).2.2
    rw [← q] at this
    change h₀.get? b = none at this
    rw [e] at this; cases this
  · rcases List.mem_cons.mp hp with rfl | hp
    · exact ⟨keep _ _ hne gl, (N _ (.tail _ (.head _))).2⟩
    · exact ⟨keep _ _ (hoff p hp) (N p (.tail _ (.tail _ hp))).1, (N p (.tail _ (.tail _ hp))).2⟩
end
end
end Mine
/-! part E8 -/
namespace Mine
section
section
theorem allLt_ne {d : Addr} : ∀ {l : List (Addr × Obj)}, AllLt d l → ∀ p ∈ l, p.1 ≠ d
  | [], _, _, hp => nomatch hp
  | q :: r, h, p, hp => by
    rcases List.mem_cons.mp hp with rfl | hp
    · exact Nat.ne_of_lt h.1
    · exact allLt_ne h.2 p hp
theorem abs_pos {prog : Program} {w : World} {A : Around} {E : Value → Shared → Prop} {s : Shared} {a : Int} {t : Tok} {Q : Value → Shared → Prop} (h0 : 0 ≤ a) (h : ∀ u tk, Q (.int a u) { s with toks := tk }) : wpAny (model prog w) A (call (.builtin "abs") [.int a t]) Q E s :=
  call_abs_int fun u tk => by rw [if_neg (by omega)]; exact h u tk
theorem ge18 {n : Int} (h : n ≤ 999) : decide (10 ^ Int.toNat 18 ≤ n) = false := by
  have e : (10 : Int) ^ Int.toNat 18 = 1000000000000000000 := by decide
  rw [e]
  exact decide_eq_false (by omega)
theorem numText_ct {w : World} {mean mg mb} (n : Int) (t : Tok) (h0 : 0 ≤ n) (h1 : n ≤ 999) : Ct 2 30 w mean mg mb 63 [.int n t] (fun _ => True) (fun v => ∃ u, v = .str (Str.ofString (toString n)) u) := by
  w_top off; k_with_none
  k_with "call builtin:abs" => (k_here; k_dflt (refine abs_pos (by assumption) ?_); intro _ _)
  k_with "WhlIf" => (k_here; k_dflt (refine WhlIf.no (ge18 (by assumption)) ?_))
  unfold Ct PR; k_fill
  intro dp un gd cn cs a ccd cl outer A₀ base h₀ L m news s Q E B F X N T hk hd hu hG hret
  refine wpAny_call ?_
  k_dflt cell_enter
  k_steps
  (rename _ ∧ AllLt _ _ => hlt)
  refine join_rev1 (by rfl) (by k_asm) (by k_asm) (Nat.ne_of_lt hlt.1) (allLt_ne hlt.2) ?_ (by decide +kernel) ?_
  rotate_left
  intro h8 k8 t8 F8 N8
  k_steps
  refine ct_end hret (by k_asm) (by k_asm) (fun p hp => .tail _ hp) ⟨_, rfl⟩
def digs (k : Nat) : List Nat := if k < 10 then [48 + k] else if k < 100 then [48 + k / 10, 48 + k % 10] else [48 + k / 100, 48 + k / 10 % 10, 48 + k % 10]
def numL (n : Nat) : List Nat := (65 + n % 26) :: (if n < 26 then [] else digs (n / 26))
def numS (n : Nat) : Str := ⟨(numL n).toArray⟩
theorem digs_text {k : Nat} (h : k < 116) : Str.ofString (toString (k : Int)) = ⟨(digs k).toArray⟩ :=
  (show ∀ k : Nat, k < 116 → Str.ofString (toString (k : Int)) = ⟨(digs k).toArray⟩ from by decide +kernel) k h
theorem num_lo {n : Nat} (h : (n : Int) < 26) : (⟨#[((65 : Int) + (n : Int).fmod 26).toNat]⟩ : Str) = numS n := by
  have e : ((65 : Int) + (n : Int).fmod 26).toNat = 65 + n % 26 := by rw [Int.fmod_eq_emod_of_nonneg _ (by decide)]; omega
  unfold numS numL
  rw [e, if_pos (by omega)]
theorem num_hi {n : Nat} (h : ¬ (n : Int) < 26) (h2 : n < 3000) : (⟨#[((65 : Int) + (n : Int).fmod 26).toNat]⟩ : Str) ++ Str.ofString (toString ((n : Int).fdiv 26)) = numS n := by
  have e : ((65 : Int) + (n : Int).fmod 26).toNat = 65 + n % 26 := by rw [Int.fmod_eq_emod_of_nonneg _ (by decide)]; omega
  have e2 : (n : Int).fdiv 26 = ((n / 26 : Nat) : Int) := by rw [Int.fdiv_eq_ediv_of_nonneg _ (by decide)]; omega
  unfold numS numL
  rw [e, e2, digs_text (by omega), if_neg (by omega)]
  refine Str.ext' (Array.toList_inj.mp ?_)
  rw [Str.cps_append, Array.toList_append]
  rfl
theorem fdiv26 {n : Nat} (h2 : n < 3000) : 0 ≤ (n : Int).fdiv 26 ∧ (n : Int).fdiv 26 ≤ 999 := by
  have e2 : (n : Int).fdiv 26 = ((n / 26 : Nat) : Int) := by rw [Int.fdiv_eq_ediv_of_nonneg _ (by decide)]; omega
  rw [e2]; omega
theorem numbered_ct {w : World} {mean mg mb} (n : Nat) (t : Tok) (hn : n < 3000) : Ct 3 50 w mean mg mb 113 [.int (n : Int) t] (fun _ => True) (fun v => ∃ u, v = .str (numS n) u) := by
  w_top off; k_with_none
  k_with "call builtin:abs" => (k_here; k_dflt (refine abs_pos (by assumption) ?_); intro _ _)
  k_with "WhlIf" => (k_here; k_dflt (refine WhlIf.no (ge18 (by assumption)) ?_))
  k_with "call ref" => (k_here; (with_reducible show wpAny _ _ (call (Value.ref 63) [Value.int _ _]) _ _ _); k_dflt (refine' ct_use (numText_ct _ _ ?kA ?kB) ?k1 ?k2 ?k3 ?k4 ?k5 ?kK ?kd ?ku ?kG ?_; (case k1 => k_asm); (case k2 => k_asm); (case k3 => k_asm); (case k4 => k_asm); (case k5 => k_asm); (case kK => first | exact rfl | assumption); (case kd => ktr_room); (case ku => ktr_units); (case kA => exact (fdiv26 (by assumption)).1); (case kB => exact (fdiv26 (by assumption)).2); (case kG => trivial); (intro v9 h9 tk9 hv9 F9 N9); (obtain ⟨u9, e9⟩ := hv9; subst e9); (try dsimp only); (try k_fold)))
  unfold Ct PR; k_fill
  intro dp un gd cn cs a ccd cl outer A₀ base h₀ L m news s Q E B F X N T hk hd hu hG hret
  refine wpAny_call ?_
  k_dflt cell_enter
  k_steps
  all_goals (refine ct_end hret (by k_asm) (by k_asm) (by first | exact fun p hp => hp | exact fun p hp => .tail _ hp | exact fun p hp => List.mem_append_left _ hp) ⟨_, congrArg (fun z => Value.str z _) ?_⟩; first | exact num_lo (by omega) | exact num_hi (by omega) hn)
end
end
end Mine
/-! part SY -/
namespace Mine
section
/-- a call that may change the ledger -/
def CtS (d u : Nat) (w : World) (mean : ExcName → Option Value) (mg mb : Str → Option Value) (f : Addr) (vs : List Value) (Pre : List (Addr × Obj) → Prop) (Post : Value → List (Addr × Obj) → List (Addr × Obj) → Prop) : Prop :=
  ∀ (dp un : Nat) (gd : Option (List Code)) (cn : Str) (cs : Scope) (a : Addr) (ccd : Value) (cl : List (Str × Addr)) (outer : List Env) (A₀ : Around) (base h₀ : Heap) (L : Addr) (m : Str → Option Value) (news : List (Addr × Obj)) (s : Shared) (Q E : Value → Shared → Prop),
    Below A₀ base outer h₀ → Fr h₀ L s.heap m → (hd.heap_39 w.params).In h₀ → News h₀ L s.heap news → Top hd.view_39 LZ mean mg mb h₀ → cs.kind = .function →
    dp + d < recursionLimit → un + u < cLine → Pre news →
    (∀ (v : Value) (h' : Heap) (tk' : Nat) (news' : List (Addr × Obj)), Post v news news' → Fr h₀ L h' m → News h₀ L h' news' → Q v { s with heap := h', toks := tk' }) →
    wpAny (model PR w) (ktrTop dp un gd cn cs L a ccd cl outer) (call (.ref f) vs) Q E s
theorem cts_use {d u : Nat} {w : World} {mean : ExcName → Option Value} {mg mb : Str → Option Value} {f : Addr} {vs : List Value} {Pre : List (Addr × Obj) → Prop} {Post : Value → List (Addr × Obj) → List (Addr × Obj) → Prop} (C : CtS d u w mean mg mb f vs Pre Post)
    {dp un : Nat} {gd : Option (List Code)} {cn : Str} {cs : Scope} {a : Addr} {ccd : Value} {cl : List (Str × Addr)} {outer : List Env} {A₀ : Around} {base h₀ : Heap} {L : Addr} {m : Str → Option Value} {news : List (Addr × Obj)} {s : Shared} {Q E : Value → Shared → Prop}
    (B : Below A₀ base outer h₀) (F : Fr h₀ L s.heap m) (X : (hd.heap_39 w.params).In h₀) (N : News h₀ L s.heap news) (T : Top hd.view_39 LZ mean mg mb h₀) (hk : cs.kind = .function)
    (hd : dp + d < recursionLimit) (hu : un + u < cLine) (hP : Pre news)
    (ret : ∀ (v : Value) (h' : Heap) (tk' : Nat) (news' : List (Addr × Obj)), Post v news news' → Fr h₀ L h' m → News h₀ L h' news' → Q v { s with heap := h', toks := tk' }) :
    wpAny (model PR w) (ktrTop dp un gd cn cs L a ccd cl outer) (call (.ref f) vs) Q E s :=
  C _ _ _ _ _ _ _ _ _ _ _ _ _ _ _ _ _ _ B F X N T hk hd hu hP ret
theorem cts_end {h₀ h' : Heap} {L : Addr} {m : Str → Option Value} {news news' : List (Addr × Obj)} {s : Shared} {Q : Value → Shared → Prop} {Post : Value → List (Addr × Obj) → List (Addr × Obj) → Prop} {v : Value} {tk' : Nat}
    (hret : ∀ (v : Value) (h' : Heap) (tk' : Nat) (news' : List (Addr × Obj)), Post v news news' → Fr h₀ L h' m → News h₀ L h' news' → Q v { s with heap := h', toks := tk' })
    (F : Fr h₀ L h' m) (N : News h₀ L h' news') (e : Post v news news') : Q v { s with heap := h', toks := tk' } := hret v h' tk' news' e F N
/-- the ledger with the object at a put anew -/
def up (news : List (Addr × Obj)) (a : Addr) (o : Obj) : List (Addr × Obj) := news.map fun p => if p.1 = a then (a, o) else p
theorem up_self {news : List (Addr × Obj)} {a : Addr} {o o' : Obj} (h : (a, o) ∈ news) : (a, o') ∈ up news a o' := List.mem_map.mpr ⟨(a, o), h, by simp⟩
theorem up_other {news : List (Addr × Obj)} {a : Addr} {o' : Obj} {p : Addr × Obj} (h : p ∈ news) (hn : p.1 ≠ a) : p ∈ up news a o' := List.mem_map.mpr ⟨p, h, by simp [hn]⟩
theorem news_fun {h₀ h : Heap} {L : Addr} {news : List (Addr × Obj)} (N : News h₀ L h news) {a : Addr} {o o' : Obj} (h1 : (a, o) ∈ news) (h2 : (a, o') ∈ news) : o = o' := Option.some.inj ((N _ h1).1.symm.trans (N _ h2).1)
theorem news_ne {h₀ h : Heap} {L : Addr} {news : List (Addr × Obj)} (N : News h₀ L h news) {a b : Addr} {o o' : Obj} (h1 : (a, o) ∈ news) (h2 : (b, o') ∈ news) (hc : o.cls ≠ o'.cls) : a ≠ b := by
  rintro rfl
  exact hc (congrArg Obj.cls (news_fun N h1 h2))
section
variable {prog : Program} {w : World} {A : Around} {E : Value → Shared → Prop} {s : Shared} {h₀ : Heap} {L : Addr} {m : Str → Option Value} {news : List (Addr × Obj)}
theorem ap_rule {D : Addr} {its : Array Value} {n : Nat} {x : Value} {Q : Value → Shared → Prop} (F : Fr h₀ L s.heap m) (N : News h₀ L s.heap news) (hm : (D, W.listOf its n) ∈ news) (hsz : its.size ≤ 1000)
    (h : ∀ h', Fr h₀ L h' m → News h₀ L h' (up news D (W.listOf (its.push x) (n + 1))) → Q .none { s with heap := h' }) : wpAny (model prog w) A (call (.builtin "list.append") [.ref D, x]) Q E s :=
  append_at (hsz := by rw [sizeLine_eq]; omega) (N _ hm).1 fun h' hs ho' => h h' (F.change hs (N _ hm).2.1 (N _ hm).2.2) (N.replace hs ho')
theorem sd_rule {d : Addr} {o : Obj} {kvs : List (Str × Value)} {c : List (Str × Int)} {k : Str} {e : Int} {tk te : Tok} {Q : Unit → Shared → Prop} (F : Fr h₀ L s.heap m) (N : News h₀ L s.heap news) (hm : (d, o) ∈ news)
    (hd : o.IsDictOf (strKind prog w) kvs) (hf : PyProof.V.FlatPairs PyData.str kvs (kdpD c)) (hc : c.length ≤ 1000)
    (h : ∀ h' o' kvs', Fr h₀ L h' m → News h₀ L h' (up news d o') → o'.IsDictOf (strKind prog w) kvs' → PyProof.V.FlatPairs PyData.str kvs' (kdpD (kdpPut c k e)) → Q () { s with heap := h', toks := s.toks + 1 }) :
    wpAny (model prog w) A (setItem (.ref d) (.str k tk) (.int e te)) Q E s := by
  refine wpAny_setItem_pairs (knd := strKind prog w) (hsz := by rw [← hf.length, kdpD_length, sizeLine_eq]; omega) (strKind_is _ _ _ _) (Heap.dictOf_iff.mpr ⟨o, (N _ hm).1, hd⟩) fun h' hmm hs => ?_
  obtain ⟨o', ho', hd'⟩ := Heap.dictOf_iff.mp hmm
  refine h h' o' _ (F.change hs (N _ hm).2.1 (N _ hm).2.2) (N.replace hs ho') hd' ?_
  rw [← kdpD_put]
  exact hf.stored PyProof.V.same_str k (PyProof.V.Flat.int e te)
theorem gd_rule {d : Addr} {o : Obj} {kvs : List (Str × Value)} {c : List (Str × Int)} {k : Str} {e : Int} {tk te : Tok} {Q : Value → Shared → Prop} (N : News h₀ L s.heap news) (hm : (d, o) ∈ news) (hsy : (d == sysModules) = false)
    (hd : o.IsDictOf (strKind prog w) kvs) (hf : PyProof.V.FlatPairs PyData.str kvs (kdpD c)) (h : ∀ t, Q (.int (kdpLook c k e) t) { s with toks := s.toks + 1 }) :
    wpAny (model prog w) A (call (.builtin "dict.get") [.ref d, .str k tk, .int e te]) Q E s :=
  kdp_get2 ⟨hsy, kvs, Heap.dictOf_iff.mpr ⟨o, (N _ hm).1, hd⟩, hf⟩ h
end
noncomputable abbrev esS (w : World) (TL AD FL FD : Addr) (k1 k2 k3 k4 : Tok) : List DictEntry :=
  [{ hash := PyData.keyHash w.params (Str.ofString "texts"), key := Value.str (Str.ofString "texts") k1, val := Value.ref TL },
   { hash := PyData.keyHash w.params (Str.ofString "atom_numbers"), key := Value.str (Str.ofString "atom_numbers") k2, val := Value.ref AD },
   { hash := PyData.keyHash w.params (Str.ofString "functors"), key := Value.str (Str.ofString "functors") k3, val := Value.ref FL },
   { hash := PyData.keyHash w.params (Str.ofString "functor_numbers"), key := Value.str (Str.ofString "functor_numbers") k4, val := Value.ref FD }]
structure Sym (w : World) (X DX TL AD FL FD : Addr) (b : Nat) (ls : List Str) (c : List (Str × Int)) (news : List (Addr × Obj)) : Prop where
  x : (X, instObj 214 DX) ∈ news
  dx : ∃ k1 k2 k3 k4, (DX, dictOf (esS w TL AD FL FD k1 k2 k3 k4) 4) ∈ news
  tl : ∃ (vs : List Value) (n : Nat), (TL, W.listOf vs.toArray n) ∈ news ∧ StrsAre vs ls
  ad : ∃ o kvs, (AD, o) ∈ news ∧ o.IsDictOf (strKind PR w) kvs ∧ PyProof.V.FlatPairs PyData.str kvs (kdpD c)
  fl : ∃ (vs : List Value) (n : Nat), (FL, W.listOf vs.toArray n) ∈ news ∧ vs.length ≤ b
  fd : ∃ D, TupTab (intKind PR w) PyData.int news FD D ∧ D.length ≤ b ∧ ∀ p ∈ D, ∃ i, p.2 = PyData.int i
  lb : ls.length ≤ b
  cb : c.length ≤ b
  wf : ∀ p ∈ c, 0 ≤ p.2 ∧ ls[p.2.toNat]? = some p.1
  ne1 : DX ≠ AD
  ne2 : DX ≠ FD
  ne3 : AD ≠ FD
  ne4 : TL ≠ FL
  sy : (AD == sysModules) = false
theorem tupTab_sub {w : World} {d : Addr} {D : List (PyData × PyData)} {news news' : List (Addr × Obj)} (h1 : ∀ p ∈ news, p.1 = d → p ∈ news') (h2 : ∀ p ∈ news, p.2.cls = .type "tuple" → p ∈ news')
    (T : TupTab (intKind PR w) PyData.int news d D) : TupTab (intKind PR w) PyData.int news' d D := by
  obtain ⟨lo, o, es, ep, xs, hm, hc, hd, he, hn, hk, hf⟩ := T
  exact ⟨lo, o, es, ep, xs, h1 _ hm rfl, hc, hd, he, hn, fun x hx => let ⟨ok, hmk, t⟩ := hk x hx; ⟨ok, h2 _ hmk t.1, t⟩, hf⟩
theorem Sym.sub {w : World} {X DX TL AD FL FD : Addr} {b : Nat} {ls : List Str} {c : List (Str × Int)} {news news' : List (Addr × Obj)} (S : Sym w X DX TL AD FL FD b ls c news) (h : ∀ p ∈ news, p.2.cls ≠ .type "tuple_iterator" → p ∈ news') :
    Sym w X DX TL AD FL FD b ls c news' where
  x := h _ S.x (by intro e; cases e)
  dx := let ⟨k1, k2, k3, k4, hm⟩ := S.dx; ⟨k1, k2, k3, k4, h _ hm (show Value.type "dict" ≠ Value.type "tuple_iterator" by decide)⟩
  tl := let ⟨vs, n, hm, r⟩ := S.tl; ⟨vs, n, h _ hm (show Value.type "list" ≠ Value.type "tuple_iterator" by decide), r⟩
  ad := let ⟨o, kvs, hm, hd, r⟩ := S.ad; ⟨o, kvs, h _ hm (by obtain ⟨_, _, hx, _⟩ := hd; rw [hx.1]; decide), hd, r⟩
  fl := let ⟨vs, n, hm, r⟩ := S.fl; ⟨vs, n, h _ hm (show Value.type "list" ≠ Value.type "tuple_iterator" by decide), r⟩
  fd := by
    obtain ⟨D, T, r⟩ := S.fd
    refine ⟨D, ?_, r⟩
    obtain ⟨lo, o, es, ep, xs, hm, hc, hd, he, hn, hk, hf⟩ := T
    exact ⟨lo, o, es, ep, xs, h _ hm (by rw [hc.1]; decide), hc, hd, he, hn, fun x hx => let ⟨ok, hmk, t⟩ := hk x hx; ⟨ok, h _ hmk (by rw [t.1]; decide), t⟩, hf⟩
  lb := S.lb
  cb := S.cb
  wf := S.wf
  ne1 := S.ne1
  ne2 := S.ne2
  ne3 := S.ne3
  ne4 := S.ne4
  sy := S.sy
theorem Sym.mono {w : World} {X DX TL AD FL FD : Addr} {b b' : Nat} {ls : List Str} {c : List (Str × Int)} {news : List (Addr × Obj)} (S : Sym w X DX TL AD FL FD b ls c news) (h : b ≤ b') : Sym w X DX TL AD FL FD b' ls c news :=
  { S with fl := let ⟨vs, n, hm, r⟩ := S.fl; ⟨vs, n, hm, Nat.le_trans r h⟩, fd := let ⟨D, T, r, q⟩ := S.fd; ⟨D, T, Nat.le_trans r h, q⟩, lb := Nat.le_trans S.lb h, cb := Nat.le_trans S.cb h }
/-- what a call keeps of the ledger: all but lists and dicts -/
def Keep (news news' : List (Addr × Obj)) : Prop := ∀ p ∈ news, p.2.cls ≠ .type "list" → p.2.cls ≠ .type "dict" → p ∈ news'
theorem Keep.refl (news : List (Addr × Obj)) : Keep news news := fun _ h _ _ => h
theorem Keep.trans {a b c : List (Addr × Obj)} (h : Keep a b) (k : Keep b c) : Keep a c := fun p hp h1 h2 => k p (h p hp h1 h2) h1 h2
end
end Mine
/-! part S2 -/
namespace Mine
section
section
theorem dl_ne : Value.type "dict" ≠ Value.type "list" := by decide
theorem look_found {c : List (Str × Int)} {x : Str} (h : 0 ≤ kdpLook c x (-1)) : (x, kdpLook c x (-1)) ∈ c := by
  unfold kdpLook at h ⊢
  cases hf : c.find? (fun p => decide (p.1 = x)) with
  | none => rw [hf] at h; exact absurd h (by decide)
  | some p =>
    have hm := List.mem_of_find?_eq_some hf
    have he := List.find?_some hf
    have he' : p.1 = x := of_decide_eq_true he
    show (x, p.2) ∈ c
    rw [← he']
    exact hm
theorem look_none {c : List (Str × Int)} {x : Str} (hw : ∀ p ∈ c, 0 ≤ p.2) (h : ¬ 0 ≤ kdpLook c x (-1)) : ∀ p ∈ c, p.1 ≠ x := by
  intro p hp e
  unfold kdpLook at h
  cases hf : c.find? (fun p => decide (p.1 = x)) with
  | none =>
    have := List.find?_eq_none.mp hf p hp
    simp [e] at this
  | some q =>
    rw [hf] at h
    exact h (hw q (List.mem_of_find?_eq_some hf))
theorem put_new {c : List (Str × Int)} {x : Str} {k : Int} (h : ∀ p ∈ c, p.1 ≠ x) : kdpPut c x k = c ++ [(x, k)] := by
  unfold kdpPut
  rw [if_neg]
  intro q
  obtain ⟨p, hp, e⟩ := List.any_eq_true.mp q
  exact h p hp (of_decide_eq_true e)
theorem wf_put {ls : List Str} {c : List (Str × Int)} {x : Str} (hw : ∀ p ∈ c, 0 ≤ p.2 ∧ ls[p.2.toNat]? = some p.1) (h : ¬ 0 ≤ kdpLook c x (-1)) :
    ∀ p ∈ kdpPut c x (ls.length : Int), 0 ≤ p.2 ∧ (ls ++ [x])[p.2.toNat]? = some p.1 := by
  rw [put_new (look_none (fun p hp => (hw p hp).1) h)]
  intro p hp
  rcases List.mem_append.mp hp with hp | hp
  · obtain ⟨h1, h2⟩ := hw p hp
    refine ⟨h1, ?_⟩
    rw [List.getElem?_append_left (List.getElem?_eq_some_iff.mp h2).1]
    exact h2
  · rw [List.mem_singleton.mp hp]
    refine ⟨Int.natCast_nonneg _, ?_⟩
    show (ls ++ [x])[(ls.length : Int).toNat]? = some x
    rw [Int.toNat_natCast, List.getElem?_append_right (Nat.le_refl _)]
    simp
theorem sym_atom {w : World} {h₀ h : Heap} {L : Addr} {X DX TL AD FL FD : Addr} {b : Nat} {ls : List Str} {c : List (Str × Int)} {news : List (Addr × Obj)} {x : Str} {t : Tok} {vs : List Value} {n : Nat} {o' : Obj} {kvs' : List (Str × Value)}
    (N : News h₀ L h news) (S : Sym w X DX TL AD FL FD b ls c news) (htl : (TL, W.listOf vs.toArray n) ∈ news) (hvs : StrsAre vs ls) (hno : ¬ 0 ≤ kdpLook c x (-1))
    (hd' : o'.IsDictOf (strKind PR w) kvs') (hk' : PyProof.V.FlatPairs PyData.str kvs' (kdpD (kdpPut c x (ls.length : Int)))) :
    Sym w X DX TL AD FL FD (b + 1) (ls ++ [x]) (kdpPut c x (ls.length : Int)) (up (up news TL (W.listOf (vs.toArray.push (.str x t)) (n + 1))) AD o') ∧ Keep news (up (up news TL (W.listOf (vs.toArray.push (.str x t)) (n + 1))) AD o') := by
  have both : ∀ p ∈ news, p.1 ≠ TL → p.1 ≠ AD → p ∈ up (up news TL (W.listOf (vs.toArray.push (.str x t)) (n + 1))) AD o' := fun p hp h1 h2 => up_other (up_other hp h1) h2
  obtain ⟨oA, kvs, had, hoA, _⟩ := S.ad
  have cA : oA.cls = .type "dict" := by obtain ⟨_, _, hx, _⟩ := hoA; exact hx.1
  have neTL : ∀ p ∈ news, p.2.cls ≠ .type "list" → p.1 ≠ TL := fun p hp hc => news_ne N hp htl hc
  have neAD : ∀ p ∈ news, p.2.cls ≠ .type "dict" → p.1 ≠ AD := fun p hp hc => news_ne N hp had (by rw [cA]; exact hc)
  have tlad : TL ≠ AD := neAD _ htl (show Value.type "list" ≠ Value.type "dict" by decide)
  refine ⟨⟨?_, ?_, ?_, ?_, ?_, ?_, ?_, ?_, wf_put S.wf hno, S.ne1, S.ne2, S.ne3, S.ne4, S.sy⟩, fun p hp h1 h2 => both p hp (neTL p hp h1) (neAD p hp h2)⟩
  · exact both _ S.x (neTL _ S.x (by intro e; cases e)) (neAD _ S.x (by intro e; cases e))
  · obtain ⟨k1, k2, k3, k4, hm⟩ := S.dx
    exact ⟨k1, k2, k3, k4, both _ hm (neTL _ hm (show Value.type "dict" ≠ Value.type "list" by decide)) S.ne1⟩
  · refine ⟨vs ++ [.str x t], n + 1, ?_, hvs.append' (.cons _ _ .nil)⟩
    rw [← List.push_toArray]
    exact up_other (up_self htl) tlad
  · exact ⟨o', kvs', up_self (up_other had (neTL _ had (by rw [cA]; decide))), hd', hk'⟩
  · obtain ⟨fs, k, hm, hl⟩ := S.fl
    exact ⟨fs, k, both _ hm S.ne4.symm (neAD _ hm (show Value.type "list" ≠ Value.type "dict" by decide)), by omega⟩
  · obtain ⟨D, T, hl, hi⟩ := S.fd
    refine ⟨D, tupTab_sub (fun p hp e => ?_) (fun p hp e => ?_) T, by omega, hi⟩
    · obtain ⟨_, o, _, _, _, hm, hc, _⟩ := T
      refine both p hp (fun q => ?_) (by rw [e]; exact S.ne3.symm)
      exact neTL _ hm (by rw [hc.1]; decide) (e.symm.trans q)
    · exact both p hp (neTL p hp (by rw [e]; decide)) (neAD p hp (by rw [e]; decide))
  · rw [List.length_append, List.length_singleton]; have := S.lb; omega
  · exact Nat.le_trans (kdpPut_len _ _ _) (by have := S.cb; omega)
theorem atom_ct {w : World} {mean mg mb} (x : Str) (t : Tok) (X DX TL AD FL FD : Addr) (b : Nat) (ls : List Str) (c : List (Str × Int)) (hb : b ≤ 500) :
    CtS 2 30 w mean mg mb 148 [.ref X, .str x t] (Sym w X DX TL AD FL FD b ls c) (fun v news news' => ∃ (i : Int) (u : Tok) (ls' : List Str) (c' : List (Str × Int)), v = .int i u ∧ 0 ≤ i ∧ ls'[i.toNat]? = some x ∧ Sym w X DX TL AD FL FD (b + 1) ls' c' news' ∧ Keep news news') := by
  w_top off; k_with_none
  k_with "call builtin:dict.get" => (k_here; (with_reducible show wpAny _ _ (call (Value.builtin "dict.get") [Value.ref _, Value.str _ _, Value.int _ _]) _ _ _); k_dflt (refine gd_rule (by k_asm) (by assumption) (by assumption) (by assumption) (by assumption) ?_); (intro t9); (try dsimp only); (try k_fold))
  k_with "call builtin:len" => (k_here; (with_reducible show wpAny _ _ (call (Value.builtin "len") [Value.ref _]) _ _ _); k_dflt (refine kst_len (by k_asm) (by assumption) (PyProof.Rows.StrsAre.length (by assumption)) (by omega) ?_))
  k_with "call builtin:list.append" => (fail "by hand")
  unfold CtS PR; k_fill
  intro dp un gd cn cs a ccd cl outer A₀ base h₀ L m news s Q E B F Xk N T hk hd hu S hret
  have S0 := S
  have N0 := N
  obtain ⟨hx, ⟨k1, k2, k3, k4, hdx⟩, ⟨vs, n, htl, hvs⟩, ⟨oA, kvs, had, hoA, hkv⟩, hfl, hfd, hlb, hcb, hwf, ne1, ne2, ne3, ne4, hsy⟩ := S
  refine wpAny_call ?_
  k_dflt cell_enter
  k_steps
  · refine hret _ _ _ _ ?_ (by k_asm) (by k_asm)
    exact ⟨_, _, ls, c, rfl, by assumption, (hwf _ (look_found (by assumption))).2, S0.mono (Nat.le_succ b), Keep.refl _⟩
  have hvl := PyProof.Rows.StrsAre.length hvs
  have cA : oA.cls = .type "dict" := by obtain ⟨_, _, hx, _⟩ := hoA; exact hx.1
  refine ap_rule (by k_asm) (by k_asm) htl (by rw [List.size_toArray]; omega) ?_
  intro h7 F7 N7
  have hx7 := up_other (a := TL) (o' := W.listOf (vs.toArray.push (.str x t)) (n + 1)) hx (news_ne N0 hx htl (show Value.ref 214 ≠ Value.type "list" by intro e; cases e))
  have hdx7 := up_other (a := TL) (o' := W.listOf (vs.toArray.push (.str x t)) (n + 1)) hdx (news_ne N0 hdx htl (show Value.type "dict" ≠ Value.type "list" by decide))
  have had7 := up_other (a := TL) (o' := W.listOf (vs.toArray.push (.str x t)) (n + 1)) had (news_ne N0 had htl (by rw [cA]; exact dl_ne))
  clear hx hdx had
  k_steps
  refine sd_rule (by k_asm) (by k_asm) had7 hoA hkv (by omega) ?_
  intro h8 o8 kvs8 F8 N8 hd8 hf8
  k_steps
  have hsym := sym_atom N0 S0 htl hvs (by assumption) hd8 hf8 (t := t)
  refine hret _ _ _ _ ?_ (by k_asm) (by k_asm)
  exact ⟨(ls.length : Int), _, ls ++ [x], _, rfl, Int.natCast_nonneg _, by rw [Int.toNat_natCast, List.getElem?_append_right (Nat.le_refl _)]; simp, hsym.1, hsym.2⟩
end
end
end Mine
/-! part S3 -/
namespace Mine
section
section
def WrapT (P : Prop) : Prop := P
theorem wrapT {P : Prop} (h : WrapT P) : P := h
theorem tx_rule {prog : Program} {w : World} {A : Around} {E : Value → Shared → Prop} {s : Shared} {h₀ : Heap} {L : Addr} {news : List (Addr × Obj)} {value slice : PySem.Expr} {a : Addr} {vs : List Value} {n : Nat} {ys : List Str} {k : Int} {u : Tok} {y : Str} {Q : Value → Shared → Prop} (N : News h₀ L s.heap news) (hm : (a, W.listOf vs.toArray n) ∈ news) (hi : StrsAre vs ys)
    (h0 : 0 ≤ k) (hy : ys[k.toNat]? = some y) (hl : ys.length ≤ 1000) (h : ∀ t', Q (.str y t') s)
    (hs : subscripted slice false (.ref a) (.int k u) = operate [.ref a, .int k u] (getItem (.ref a) (.int k u)) := by with_unfolding_all rfl) (hg : ∀ r, letTemporaryGo value (.ref a) r = pure () := by intro _; with_unfolding_all rfl) :
    wpAny (model prog w) A (subscriptTail value slice (.ref a) (.int k u)) Q E s := by
  have hlt := (List.getElem?_eq_some_iff.mp hy).1
  refine item_strsA (N.isList hm) hi h0 (by omega) (by omega) (fun t' => ?_) hs hg
  have e : ys.getD k.toNat Str.empty = y := by rw [List.getD_eq_getElem?_getD, hy]; rfl
  rw [e]
  exact h t'
theorem text_ct {w : World} {mean mg mb} (i : Int) (t : Tok) (x : Str) (X DX TL AD FL FD : Addr) (b : Nat) (ls : List Str) (c : List (Str × Int)) (hb : b ≤ 500) (h0 : 0 ≤ i) (hx : ls[i.toNat]? = some x) :
    CtS 1 20 w mean mg mb 155 [.ref X, .int i t] (Sym w X DX TL AD FL FD b ls c) (fun v news news' => ∃ u, v = .str x u ∧ Sym w X DX TL AD FL FD b ls c news') := by
  w_top off; k_with_none
  k_with "subscriptTail Attribute Name Name ref int" => (k_here; k_dflt (refine tx_rule (by k_asm) (by assumption) (by assumption) (by assumption) (by assumption) (by omega) ?_); (intro t9))
  k_with "subscriptTail" => (k_here; (with_reducible show wpAny _ _ (subscriptTail _ _ (Value.ref _) (Value.int _ _)) _ _ _); k_dflt (refine tx_rule (by k_asm) (by assumption) (by assumption) (by assumption) (by assumption) (by omega) ?_); (intro t9))
  unfold CtS PR; k_fill
  intro dp un gd cn cs a ccd cl outer A₀ base h₀ L m news s Q E B F Xk N T hk hd hu S hret
  have S0 := S
  obtain ⟨hx1, ⟨k1, k2, k3, k4, hdx⟩, ⟨vs, n, htl, hvs⟩, -, -, -, hlb, -, -, -, -, -, -, -⟩ := S
  refine wpAny_call ?_
  k_dflt cell_enter
  k_steps
  refine hret _ _ _ _ ?_ (by k_asm) (by k_asm)
  exact ⟨_, rfl, S0⟩
theorem lookup_int {k d : PyData} : ∀ {D : List (PyData × PyData)}, (∀ p ∈ D, ∃ i, p.2 = PyData.int i) → PySem.Spec.lookup k D = some d → ∃ i, d = PyData.int i
  | [], _, h => by cases h
  | (a, v) :: D, hD, h => by
    have h' : (if PySem.Spec.same a k = true then some v else PySem.Spec.lookup k D) = some d := h
    by_cases hs : PySem.Spec.same a k = true
    · rw [if_pos hs] at h'
      obtain ⟨i, hi⟩ := hD (a, v) (.head _)
      have hi' : v = PyData.int i := hi
      exact ⟨i, by rw [← Option.some.inj h', hi']⟩
    · rw [if_neg hs] at h'
      exact lookup_int (fun p hp => hD p (.tail _ hp)) h'
theorem getD_int {k : PyData} {D : List (PyData × PyData)} {e : Int} (hD : ∀ p ∈ D, ∃ i, p.2 = PyData.int i) : ∃ i, (PySem.Spec.lookup k D).getD (PyData.int e) = PyData.int i := by
  cases h : PySem.Spec.lookup k D with
  | none => exact ⟨e, rfl⟩
  | some d => obtain ⟨i, rfl⟩ := lookup_int hD h; exact ⟨i, rfl⟩
theorem put_int {k : PyData} {e : Int} {D : List (PyData × PyData)} (hD : ∀ p ∈ D, ∃ i, p.2 = PyData.int i) : ∀ p ∈ PyProof.V.putD k (PyData.int e) D, ∃ i, p.2 = PyData.int i := by
  intro p hp
  unfold PyProof.V.putD at hp
  split at hp
  · obtain ⟨q, hq, rfl⟩ := List.mem_map.mp hp
    split
    · exact ⟨e, rfl⟩
    · exact hD q hq
  · rcases List.mem_append.mp hp with hp | hp
    · exact hD p hp
    · rw [List.mem_singleton.mp hp]; exact ⟨e, rfl⟩
theorem gt_rule {w : World} {A : Around} {E : Value → Shared → Prop} {s : Shared} {h₀ : Heap} {L : Addr} {news : List (Addr × Obj)} {d a : Addr} {D : List (PyData × PyData)} {ks : List Int} {ok : Obj} {e : Int} {te : Tok} {Q : Value → Shared → Prop} (hu : A.units + 1 < cLine) (N : News h₀ L s.heap news)
    (T : TupTab (intKind PR w) PyData.int news d D) (hka : (a, ok) ∈ news) (tk : TupKeyObj (intKind PR w) ks ok) (hD : ∀ p ∈ D, ∃ i, p.2 = PyData.int i) (h : ∀ i t k, Q (.int i t) { s with toks := k }) :
    wpAny (model PR w) A (call (.builtin "dict.get") [.ref d, .ref a, .int e te]) Q E s :=
  call_get2_tupTab PyProof.V.same_int hu N T hka tk (PyProof.V.Flat.int e te) fun v hv => by
    obtain ⟨i, hi⟩ := getD_int (k := encTuple PyData.int ks) (e := e) hD
    rw [hi] at hv
    obtain ⟨t, rfl⟩ := PyProof.V.Flat.int_inv hv
    exact h i t _
theorem tup_dict {w : World} {h₀ h : Heap} {L : Addr} {news : List (Addr × Obj)} {d a : Addr} {D : List (PyData × PyData)} {o : Obj} (N : News h₀ L h news) (T : TupTab (intKind PR w) PyData.int news d D) (hm : (a, o) ∈ news) (hc : o.cls ≠ .type "dict") : a ≠ d := by
  obtain ⟨_, o', _, _, _, hm', hc', _⟩ := T
  exact news_ne N hm hm' (by rw [hc'.1]; exact hc)
theorem sym_functor {w : World} {h₀ h : Heap} {L : Addr} {X DX TL AD FL FD : Addr} {b : Nat} {ls : List Str} {c : List (Str × Int)} {news news' : List (Addr × Obj)} {fs : List Value} {nF : Nat} {v : Value} {D D' : List (PyData × PyData)}
    (N : News h₀ L h news) (S : Sym w X DX TL AD FL FD b ls c news) (hfl : (FL, W.listOf fs.toArray nF) ∈ news) (hfb : fs.length ≤ b) (hT : TupTab (intKind PR w) PyData.int news FD D)
    (hkeep : ∀ p ∈ news, p.1 ≠ FL → p.1 ≠ FD → p ∈ news') (hfl' : (FL, W.listOf (fs.toArray.push v) (nF + 1)) ∈ news') (T' : TupTab (intKind PR w) PyData.int news' FD D') (hl' : D'.length ≤ b + 1) (hi' : ∀ p ∈ D', ∃ i, p.2 = PyData.int i) :
    Sym w X DX TL AD FL FD (b + 1) ls c news' ∧ Keep news news' := by
  have neFL : ∀ p ∈ news, p.2.cls ≠ .type "list" → p.1 ≠ FL := fun p hp hc => news_ne N hp hfl hc
  have neFD : ∀ p ∈ news, p.2.cls ≠ .type "dict" → p.1 ≠ FD := fun p hp hc => tup_dict N hT hp hc
  refine ⟨⟨?_, ?_, ?_, ?_, ?_, ⟨D', T', hl', hi'⟩, by have := S.lb; omega, by have := S.cb; omega, S.wf, S.ne1, S.ne2, S.ne3, S.ne4, S.sy⟩, fun p hp h1 h2 => hkeep p hp (neFL p hp h1) (neFD p hp h2)⟩
  · exact hkeep _ S.x (neFL _ S.x (by intro e; cases e)) (neFD _ S.x (by intro e; cases e))
  · obtain ⟨k1, k2, k3, k4, hm⟩ := S.dx
    exact ⟨k1, k2, k3, k4, hkeep _ hm (neFL _ hm dl_ne) S.ne2⟩
  · obtain ⟨vs, n, hm, hv⟩ := S.tl
    exact ⟨vs, n, hkeep _ hm S.ne4 (neFD _ hm dl_ne.symm), hv⟩
  · obtain ⟨o, kvs, hm, hd, hk⟩ := S.ad
    have cA : o.cls = .type "dict" := by obtain ⟨_, _, hx, _⟩ := hd; exact hx.1
    exact ⟨o, kvs, hkeep _ hm (neFL _ hm (by rw [cA]; exact dl_ne)) S.ne3, hd, hk⟩
  · exact ⟨fs ++ [v], nF + 1, by rw [← List.push_toArray]; exact hfl', by rw [List.length_append, List.length_singleton]; omega⟩
theorem functor_ct {w : World} {mean mg mb} (i j : Int) (t u : Tok) (X DX TL AD FL FD : Addr) (b : Nat) (ls : List Str) (c : List (Str × Int)) (hb : b ≤ 500) :
    CtS 2 30 w mean mg mb 162 [.ref X, .int i t, .int j u] (Sym w X DX TL AD FL FD b ls c) (fun v news news' => ∃ (i : Int) (u : Tok), v = .int i u ∧ Sym w X DX TL AD FL FD (b + 1) ls c news' ∧ Keep news news') := by
  w_top off; k_with_none
  k_with "subscriptTail Attribute Name Name ref int" => (k_here; k_dflt (refine tx_rule (by k_asm) (by assumption) (by assumption) (by assumption) (by assumption) (by omega) ?_); (intro t9))
  k_with "subscriptTail" => (k_here; (with_reducible show wpAny _ _ (subscriptTail _ _ (Value.ref _) (Value.int _ _)) _ _ _); k_dflt (refine tx_rule (by k_asm) (by assumption) (by assumption) (by assumption) (by assumption) (by omega) ?_); (intro t9))
  k_with "call builtin:dict.get" => (k_here; (with_reducible show wpAny _ _ (call (Value.builtin "dict.get") [Value.ref _, Value.ref _, Value.int _ _]) _ _ _); k_dflt (refine gt_rule (by ktr_units) (by k_asm) (by assumption) (List.Mem.head _) (by assumption) (by assumption) ?_); (intro i9 t9 k9); (try dsimp only); (try k_fold))
  k_with "call builtin:len" => (k_here; (with_reducible show wpAny _ _ (call (Value.builtin "len") [Value.ref _]) _ _ _); k_dflt (refine kst_len (by k_asm) (by assumption) rfl (by omega) ?_))
  k_with "call builtin:list.append" => (refine wrapT ?_)
  k_with "setItem ref ref" => (refine wrapT ?_)
  k_with "newTuple" => (refine wrapT ?_)
  unfold CtS PR; k_fill
  intro dp un gd cn cs a ccd cl outer A₀ base h₀ L m news s Q E B F Xk N T hk hd hu S hret
  have S0 := S
  have N0 := N
  obtain ⟨hx1, ⟨k1, k2, k3, k4, hdx⟩, ⟨vs, n, htl, hvs⟩, had, ⟨fs, nF, hfl, hfb⟩, ⟨D, hT, hDb, hDi⟩, hlb, hcb, hwf, ne1, ne2, ne3, ne4, hsy⟩ := S
  refine wpAny_call ?_
  k_dflt cell_enter
  k_steps
  unfold WrapT
  refine kup_newTuple (by k_asm) (by k_asm) ?_ (by show 2 ≤ _; rw [sizeLine_eq]; decide)
  intro K1 h7 F7 N7 l7
  have hx7 := List.mem_cons_of_mem (K1, ({ cls := .type "tuple", data := .seq [Value.int i t, Value.int j u].toArray } : Obj)) hx1
  have hdx7 := List.mem_cons_of_mem (K1, ({ cls := .type "tuple", data := .seq [Value.int i t, Value.int j u].toArray } : Obj)) hdx
  have hfl7 := List.mem_cons_of_mem (K1, ({ cls := .type "tuple", data := .seq [Value.int i t, Value.int j u].toArray } : Obj)) hfl
  have hT7 := hT.cons (K1, ({ cls := .type "tuple", data := .seq [Value.int i t, Value.int j u].toArray } : Obj))
  have hne1 : K1 ≠ FL := news_ne N7 (List.mem_cons_self ..) hfl7 (show Value.type "tuple" ≠ Value.type "list" by decide)
  have hne2 : FL ≠ FD := tup_dict N0 hT hfl dl_ne.symm
  have hx0 := hx1
  have hdx0 := hdx
  have hfl0 := hfl
  have hk7 : TupKeyObj (intKind PR w) [i, j] { cls := .type "tuple", data := .seq [Value.int i t, Value.int j u].toArray } := TupKeyObj.made (.cons (intKind_is _ _ _ _) (.cons (intKind_is _ _ _ _) .nil))
  clear hx1 hdx hfl
  k_steps
  · refine hret _ _ _ _ ?_ (by k_asm) (by k_asm)
    exact ⟨_, _, rfl, (S0.mono (Nat.le_succ b)).sub fun p hp _ => List.mem_cons_of_mem _ hp, fun p hp _ _ => List.mem_cons_of_mem _ hp⟩
  unfold WrapT
  refine ap_rule (by k_asm) (by k_asm) hfl7 (by rw [List.size_toArray]; omega) ?_
  intro h8 F8 N8
  have neFL : ∀ p ∈ news, p.2.cls ≠ .type "list" → p.1 ≠ FL := fun p hp hc => news_ne N0 hp hfl0 hc
  have hx8 := up_other (a := FL) (o' := W.listOf (fs.toArray.push (Value.ref K1)) (nF + 1)) hx7 (neFL _ hx0 (show Value.ref 214 ≠ Value.type "list" by intro e; cases e))
  have hdx8 := up_other (a := FL) (o' := W.listOf (fs.toArray.push (Value.ref K1)) (nF + 1)) hdx7 (neFL _ hdx0 dl_ne)
  have hk8 := up_other (a := FL) (o' := W.listOf (fs.toArray.push (Value.ref K1)) (nF + 1)) (List.mem_cons_self (a := (K1, ({ cls := .type "tuple", data := .seq [Value.int i t, Value.int j u].toArray } : Obj))) (l := news)) hne1
  have hT8 : TupTab (intKind PR w) PyData.int (up ((K1, ({ cls := .type "tuple", data := .seq [Value.int i t, Value.int j u].toArray } : Obj)) :: news) FL (W.listOf (fs.toArray.push (Value.ref K1)) (nF + 1))) FD D := by
    refine tupTab_sub (fun p hp e => up_other hp (fun q => ?_)) (fun p hp e => up_other hp ?_) (hT.cons _)
    · exact hne2 (q.symm.trans e)
    · rcases List.mem_cons.mp hp with rfl | hp
      · exact hne1
      · exact neFL p hp (by rw [e]; exact (show Value.type "tuple" ≠ Value.type "list" by decide))
  clear hx7 hdx7
  k_steps
  unfold WrapT
  refine setItem_tupTab PyProof.V.same_int (by ktr_units) (PyProof.V.Flat.int _ _) (by k_asm) (by k_asm) hT8 hk8 hk7 ?_ (by rw [sizeLine_eq]; omega)
  intro h9 news9 F9 N9 T9 hk9 hkeep9
  k_steps
  have hD9 := PyProof.V.putD_length_le (encTuple PyData.int [i, j]) (PyData.int (fs.length : Int)) D
  have hfin := sym_functor N0 S0 hfl0 hfb hT (fun p hp h1 h2 => hkeep9 p (up_other (List.mem_cons_of_mem _ hp) h1) h2) (hkeep9 _ (up_self hfl7) hne2) T9 (by omega) (put_int hDi)
  refine hret _ _ _ _ ?_ (by k_asm) (by k_asm)
  exact ⟨_, _, rfl, hfin.1, hfin.2⟩
end
end
end Mine
/-! part S4 -/
namespace Mine
section
section
theorem func_ct {w : World} {mean mg mb} (x : Str) (j : Int) (t u : Tok) (X DX TL AD FL FD : Addr) (b : Nat) (ls : List Str) (c : List (Str × Int)) (hb : b ≤ 400) :
    CtS 3 50 w mean mg mb 169 [.ref X, .str x t, .int j u] (Sym w X DX TL AD FL FD b ls c) (fun v news news' => ∃ (i : Int) (u : Tok) (ls' : List Str) (c' : List (Str × Int)), v = .int i u ∧ Sym w X DX TL AD FL FD (b + 2) ls' c' news' ∧ Keep news news') := by
  w_top off; k_with_none
  k_with "call ref" => (k_here; (with_reducible show wpAny _ _ (call (Value.ref 148) [Value.ref _, Value.str _ _]) _ _ _); k_dflt (refine' cts_use (atom_ct _ _ _ _ _ _ _ _ _ _ _ ?hb) ?k1 ?k2 ?k3 ?k4 ?k5 ?kK ?kd ?ku ?kP ?_; (case kP => first | assumption | trivial); (case k1 => k_asm); (case k2 => k_asm); (case k3 => k_asm); (case k4 => k_asm); (case k5 => k_asm); (case kK => first | exact rfl | assumption); (case kd => ktr_room); (case ku => ktr_units); (case hb => omega); (intro v9 h9 tk9 news9 hp9 F9 N9); (obtain ⟨i9, u9, ls9, c9, e9, h09, hx9, S9, K9⟩ := hp9; subst e9); (try dsimp only); (try k_fold)))
  k_with "call ref" => (k_here; (with_reducible show wpAny _ _ (call (Value.ref 162) [Value.ref _, Value.int _ _, Value.int _ _]) _ _ _); k_dflt (refine' cts_use (functor_ct _ _ _ _ _ _ _ _ _ _ _ _ _ ?hb) ?k1 ?k2 ?k3 ?k4 ?k5 ?kK ?kd ?ku ?kP ?_; (case kP => first | assumption | trivial); (case k1 => k_asm); (case k2 => k_asm); (case k3 => k_asm); (case k4 => k_asm); (case k5 => k_asm); (case kK => first | exact rfl | assumption); (case kd => ktr_room); (case ku => ktr_units); (case hb => omega); (intro v9 h9 tk9 news9 hp9 F9 N9); (obtain ⟨i9, u9, e9, S9, K9⟩ := hp9; subst e9); (try dsimp only); (try k_fold)))
  unfold CtS PR; k_fill
  intro dp un gd cn cs a ccd cl outer A₀ base h₀ L m news s Q E B F Xk N T hk hd hu S hret
  have hx1 := S.x
  obtain ⟨k1, k2, k3, k4, hdx⟩ := S.dx
  refine wpAny_call ?_
  k_dflt cell_enter
  k_steps
  refine hret _ _ _ _ ?_ (by k_asm) (by k_asm)
  exact ⟨_, _, _, _, rfl, by assumption, Keep.trans (by assumption) (by assumption)⟩
end
end
end Mine
/-! part S5 -/
namespace Mine
section
section
theorem items_induct {prog : Program} {w : World} {A : Around} {E : Value → Shared → Prop} {h₀ : Heap} {env : Env} {target : PySem.Expr} {body : List Stmt} {Q : Flow → Shared → Prop} {s : Shared} {ws : List (Addr × String)} {keep : List (Addr × Obj)}
    (P : List Itm → (Str → Option Value) → List (Addr × Obj) → Prop) (base : ∀ m news, SubL keep news → P [] m news → ItemsRest prog w A E h₀ env target body Q s ws keep [] m news)
    (step : ∀ it r m news, SubL keep news → P (it :: r) m news → (∀ m' news', SubL keep news' → P r m' news' → ItemsRest prog w A E h₀ env target body Q s ws keep r m' news') → ItemsRest prog w A E h₀ env target body Q s ws keep (it :: r) m news) :
    ∀ xs m news, SubL keep news → P xs m news → ItemsRest prog w A E h₀ env target body Q s ws keep xs m news
  | [], m, news, hk, h => base m news hk h
  | it :: r, m, news, hk, h => step it r m news hk h fun m' news' hk' h' => items_induct P base step r m' news' hk' h'
theorem sym_init {w : World} {X DX TL AD FL FD D : Addr} {k1 k2 k3 k4 : Tok} {o1 o2 t : Obj} {news : List (Addr × Obj)} (h1 : o1.IsDictOf (strKind PR w) []) (h2 : o2.IsDictOf (strKind PR w) []) (l1 : (AD == sysModules) = false) (l2 : (FD == sysModules) = false)
    (n1 : DX ≠ AD) (n2 : DX ≠ FD) (n3 : AD ≠ FD) (n4 : TL ≠ FL) :
    Sym w X DX TL AD FL FD 0 [] [] ((D, t) :: (FD, o2) :: (FL, W.listOf #[] 0) :: (AD, o1) :: (TL, W.listOf #[] 0) :: (X, instObj 214 DX) :: (DX, dictOf (esS w TL AD FL FD k1 k2 k3 k4) 4) :: news) where
  x := .tail _ (.tail _ (.tail _ (.tail _ (.tail _ (.head _)))))
  dx := ⟨k1, k2, k3, k4, .tail _ (.tail _ (.tail _ (.tail _ (.tail _ (.tail _ (.head _))))))⟩
  tl := ⟨[], 0, .tail _ (.tail _ (.tail _ (.tail _ (.head _)))), .nil⟩
  ad := ⟨o1, [], .tail _ (.tail _ (.tail _ (.head _))), h1, .nil⟩
  fl := ⟨[], 0, .tail _ (.tail _ (.head _)), Nat.le_refl _⟩
  fd := ⟨[], TupTab.ofEmpty (.tail _ (.head _)) l2 h2, Nat.le_refl _, fun _ hp => nomatch hp⟩
  lb := Nat.le_refl _
  cb := Nat.le_refl _
  wf := fun _ hp => nomatch hp
  ne1 := n1
  ne2 := n2
  ne3 := n3
  ne4 := n4
  sy := l1
theorem ti_list : Value.type "tuple_iterator" ≠ Value.type "list" := by decide
theorem ti_dict : Value.type "tuple_iterator" ≠ Value.type "dict" := by decide
theorem tu_list : Value.type "tuple" ≠ Value.type "list" := by decide
theorem tu_dict : Value.type "tuple" ≠ Value.type "dict" := by decide
theorem tu_ti : Value.type "tuple" ≠ Value.type "tuple_iterator" := by decide
/-- the ledger without the iterator, at a turn's end -/
def offI (I : Addr) (news : List (Addr × Obj)) : List (Addr × Obj) := news.filter fun p => decide (p.1 ≠ I)
theorem offI_mem {h₀ h : Heap} {L I : Addr} {o : Obj} {news : List (Addr × Obj)} (N : News h₀ L h news) (hI : (I, o) ∈ news) (ho : o.cls = .type "tuple_iterator") {p : Addr × Obj} (hp : p ∈ news) (hc : p.2.cls ≠ .type "tuple_iterator") : p ∈ offI I news :=
  List.mem_filter.mpr ⟨hp, decide_eq_true (news_ne N hp hI (by rw [ho]; exact hc))⟩
theorem turn_end {h₀ h' : Heap} {L I D : Addr} {o t : Obj} {w : World} {X DX TL AD FL FD : Addr} {b : Nat} {ls : List Str} {c : List (Str × Int)} {news news' : List (Addr × Obj)} {m' : Str → Option Value} {s₁ : Shared} {tk : Nat} {R : (Str → Option Value) → List (Addr × Obj) → Prop}
    (F : Fr h₀ L h' m') (N : News h₀ L h' news') (S : Sym w X DX TL AD FL FD b ls c news') (K : Keep ((I, o) :: news) news') (ho : o.cls = .type "tuple_iterator") (hD : (D, t) ∈ news) (ht : t.cls = .type "tuple")
    (hR : ∀ n', Sym w X DX TL AD FL FD b ls c n' → (∀ p ∈ news, p.2.cls = .type "tuple" → p ∈ n') → R m' n') :
    UnrEndW h₀ L s₁ [(I, o)] (fun m' n' => SubL [(D, t)] n' ∧ R m' n') { s₁ with heap := h', toks := tk } := by
  have hI : (I, o) ∈ news' := K _ (.head _) (by show o.cls ≠ _; rw [ho]; exact ti_list) (by show o.cls ≠ _; rw [ho]; exact ti_dict)
  have tup : ∀ p ∈ news, p.2.cls = .type "tuple" → p ∈ offI I news' := fun p hp hc => offI_mem N hI ho (K p (.tail _ hp) (by rw [hc]; exact tu_list) (by rw [hc]; exact tu_dict)) (by rw [hc]; exact tu_ti)
  refine ⟨h', tk, m', offI I news', rfl, F, fun p hp => ?_, fun p hp q hq => ?_, ⟨tup _ hD ht, trivial⟩, hR _ (S.sub fun p hp hc => offI_mem N hI ho hp hc) tup⟩
  · rcases List.mem_cons.mp hp with rfl | hp
    · exact N _ hI
    · exact N p (List.mem_filter.mp hp).1
  · rw [List.mem_singleton.mp hq]
    exact of_decide_eq_true (List.mem_filter.mp hp).2
theorem con_str {M : Model} {A : Around} {E : Value → Shared → Prop} {s : Shared} {env : Env} {x : Str} {k pos} {Q : Value → Shared → Prop} (h : ∀ u t, Q (.str x u) { s with toks := t }) : wpAny M A (eval (.Constant (.str x) k pos) env) Q E s := wpAny_Constant_str (h _ _)
theorem con_int {M : Model} {A : Around} {E : Value → Shared → Prop} {s : Shared} {env : Env} {i k pos} {Q : Value → Shared → Prop} (h : ∀ u t, Q (.int i u) { s with toks := t }) : wpAny M A (eval (.Constant (.int i) k pos) env) Q E s := wpAny_Constant_int (h _ _)
local macro_rules | `(tactic| k_room) => `(tactic| ktr_room)
local macro_rules | `(tactic| ktr_units) => `(tactic| (have hcL9 := cLine_is; (rw [units_under_make]); (try dsimp only [ktrTop]); omega))
theorem symbols_ct {w : World} {mean mg mb} : CtS 7 150 w mean mg mb 214 [] (fun _ => True) (fun v news news' => ∃ X DX TL AD FL FD ls c, v = .ref X ∧ Sym w X DX TL AD FL FD 200 ls c news') := by
  w_top off; k_with_none
  k_with "eval Constant str" => (refine con_str ?_; intro u9 t9; dsimp only)
  k_with "eval Constant int" => (refine con_int ?_; intro u9 t9; dsimp only)
  k_with "call ref" => (k_here; (with_reducible show wpAny _ _ (call (Value.ref 148) [Value.ref _, Value.str _ _]) _ _ _); k_dflt (refine' cts_use (atom_ct _ _ _ _ _ _ _ _ _ _ _ ?hb) ?k1 ?k2 ?k3 ?k4 ?k5 ?kK ?kd ?ku ?kP ?_; (case kP => first | assumption | trivial); (case k1 => k_asm); (case k2 => k_asm); (case k3 => k_asm); (case k4 => k_asm); (case k5 => k_asm); (case kK => first | exact rfl | assumption); (case kd => ktr_room); (case ku => ktr_units); (case hb => omega); (intro v9 h9 tk9 news9 hp9 F9 N9); (obtain ⟨i9, u9, ls9, c9, e9, h09, hx9, S9, K9⟩ := hp9; subst e9); (try dsimp only); (try k_fold)))
  k_with "call ref" => (k_here; (with_reducible show wpAny _ _ (call (Value.ref 169) [Value.ref _, Value.str _ _, Value.int _ _]) _ _ _); k_dflt (refine' cts_use (func_ct _ _ _ _ _ _ _ _ _ _ _ _ _ ?hb) ?k1 ?k2 ?k3 ?k4 ?k5 ?kK ?kd ?ku ?kP ?_; (case kP => first | assumption | trivial); (case k1 => k_asm); (case k2 => k_asm); (case k3 => k_asm); (case k4 => k_asm); (case k5 => k_asm); (case kK => first | exact rfl | assumption); (case kd => ktr_room); (case ku => ktr_units); (case hb => omega); (intro v9 h9 tk9 news9 hp9 F9 N9); (obtain ⟨i9, u9, ls9, c9, e9, S9, K9⟩ := hp9; subst e9); (try dsimp only); (try k_fold)))
  k_with "eval Call" => (k_here; (with_reducible show wpAny _ _ (eval (Expr.Call (Expr.Name _ _) _ [] _) _) _ _ _); k_dflt (refine Call_ ?_))
  k_with "exec For Name Call cons nil" => (refine wrapT ?_)
  k_with "pyIter ref" => (refine wrapT ?_)
  k_with "eval Name" => (k_here; k_dflt (refine' ld ?k1 ?k2 ?_; (case k1 => k_asm); (case k2 => exact (if_neg (by decide)).trans (by assumption))))
  unfold CtS PR; k_fill
  intro dp un gd cn cs a ccd cl outer A₀ base h₀ L m news s Q E B F Xk N T hk hd hu S hret
  refine' call_cls ?k1 ?k2 ?k3 ?k4 ?k5 ?k6 ?_; (case k1 => k_asm); (case k2 => k_asm); (case k3 => k_asm); (case k4 => k_dflt k_is); (case k5 => k_dflt k_is); (case k6 => k_dflt k_is); intro x' d' h' F' N' l1 l2; (try k_lt l1); (try k_lt2 l2)
  k_dflt cell_enter
  k_steps
  unfold WrapT
  refine For_turns (by k_asm) ?_
  k_steps
  unfold WrapT
  (rename _ < _ ∧ _ < _ ∧ _ < _ ∧ _ < _ ∧ _ < _ ∧ _ < _ ∧ AllLt _ _ => lAll)
  refine iter_tupTurns (by rfl) (by k_asm) (by k_asm) (List.mem_cons_self ..) rfl rfl ?_
  intro I hI
  refine items_induct (fun xs m9 n9 => (∀ it ∈ xs, ∃ y t, it = Itm.val (.str y t)) ∧ m9 (Str.ofString "self") = some (.ref x') ∧ ∃ TL AD FL FD b ls c, Sym w x' d' TL AD FL FD b ls c n9 ∧ b + xs.length ≤ 29) ?base ?step _ _ _ ⟨List.mem_cons_self .., trivial⟩ ?start
  case start =>
    refine ⟨?_, rfl, _, _, _, _, 0, [], [], sym_init (by assumption) (by assumption) (by assumption) (by assumption) (Nat.ne_of_lt (by omega)) (Nat.ne_of_lt (by omega)) (Nat.ne_of_lt (by omega)) (Nat.ne_of_lt (by omega)), Nat.le_refl _⟩
    repeat' (first | exact List.forall_mem_nil _ | refine List.forall_mem_cons.mpr ⟨⟨_, _, rfl⟩, ?_⟩)
  case step =>
    rintro it r m9 n9 hk9 ⟨hall, hself, TL, AD, FL, FD, b, ls, c, S1, hb⟩ IH
    obtain ⟨y, t, rfl⟩ := hall _ (.head _)
    refine ItemsRest.val (fun h1 tk1 F1 => AllObj.cons fun oI hc => AllObj.nil fun N1 => ?_)
    have hx1 := List.mem_cons_of_mem (I, oI) S1.x
    obtain ⟨k1, k2, k3, k4, hdx0⟩ := S1.dx
    have hdx1 := List.mem_cons_of_mem (I, oI) hdx0
    have S2 := S1.sub (news' := (I, oI) :: n9) (fun p hp _ => List.mem_cons_of_mem _ hp)
    have N2 : News _ _ h1 ((I, oI) :: n9) := N1
    rw [List.length_cons] at hb
    clear N1 hdx0
    refine wpAny_assign_Name (stN F1 N2 (fun h2 F2 N3 => ?_))
    k_steps
    refine turn_end (by k_asm) (by k_asm) (by assumption) (by assumption) hc hk9.1 rfl ?_
    intro n' S' htup
    exact IH _ _ ⟨htup _ hk9.1 rfl, trivial⟩ ⟨fun it h => hall it (.tail _ h), (if_neg (by decide)).trans hself, TL, AD, FL, FD, b + 1, _, _, S', by omega⟩
  case base =>
    rintro m9 n9 hk9 ⟨-, hself, TL, AD, FL, FD, b, ls, c, S1, hb⟩
    refine ItemsRest.zero fun h1 tk1 F1 N1 => ?_
    dsimp only
    k_steps
    unfold WrapT
    refine For_turns (by k_asm) ?_
    k_steps
    unfold WrapT
    refine iter_tupTurns (by rfl) (by k_asm) (by k_asm) (List.mem_cons_self ..) rfl rfl ?_
    intro I2 hI2
    refine items_induct (fun xs m9 n9 => (∀ it ∈ xs, ∃ T y t j u k, it = Itm.val (.ref T) ∧ (T, ({ cls := .type "tuple", data := .seq #[.str y t, .int j u] k } : Obj)) ∈ n9) ∧ m9 (Str.ofString "self") = some (.ref x') ∧ ∃ TL AD FL FD b ls c, Sym w x' d' TL AD FL FD b ls c n9 ∧ b + 2 * xs.length ≤ 200) ?base2 ?step2 _ _ _ ⟨List.mem_cons_self .., trivial⟩ ?start2
    case start2 =>
      refine ⟨?_, hself, TL, AD, FL, FD, b, ls, c, S1.sub (fun p hp _ => by (repeat' (first | exact hp | refine List.Mem.tail _ ?_))), ?_⟩
      · repeat' (first | exact List.forall_mem_nil _ | refine List.forall_mem_cons.mpr ⟨⟨_, _, _, _, _, _, rfl, by k_mem⟩, ?_⟩)
      · simp only [List.length_map, List.length_cons, List.length_nil] at hb ⊢
        omega
    case step2 =>
      rintro it r m9 n9 hk9 ⟨hall, hself, TL, AD, FL, FD, b, ls, c, S1, hb⟩ IH
      obtain ⟨T, y, t, j, u, k, rfl, hT⟩ := hall _ (.head _)
      refine ItemsRest.val (fun h1 tk1 F1 => AllObj.cons fun oI hc => AllObj.nil fun N1 => ?_)
      have hx1 := List.mem_cons_of_mem (I2, oI) S1.x
      obtain ⟨k1, k2, k3, k4, hdx0⟩ := S1.dx
      have hdx1 := List.mem_cons_of_mem (I2, oI) hdx0
      have hT1 := List.mem_cons_of_mem (I2, oI) hT
      have S2 := S1.sub (news' := (I2, oI) :: n9) (fun p hp _ => List.mem_cons_of_mem _ hp)
      have N2 : News _ _ h1 ((I2, oI) :: n9) := N1
      rw [List.length_cons] at hb
      clear N1 hdx0
      refine wpAny_assign_Name (stN F1 N2 (fun h2 F2 N3 => ?_))
      k_steps
      refine turn_end (by k_asm) (by k_asm) (by assumption) (by assumption) hc hk9.1 rfl ?_
      intro n' S' htup
      exact IH _ _ ⟨htup _ hk9.1 rfl, trivial⟩ ⟨fun it h => by
        obtain ⟨T', y', t', j', u', k', e', hm'⟩ := hall it (.tail _ h)
        exact ⟨T', y', t', j', u', k', e', htup _ hm' rfl⟩, (if_neg (by decide)).trans hself, TL, AD, FL, FD, b + 2, _, _, S', by omega⟩
    case base2 =>
      rintro m9 n9 hk9 ⟨-, hself, TL, AD, FL, FD, b, ls, c, S1, hb⟩
      refine ItemsRest.zero fun h1 tk1 F1 N1 => ?_
      dsimp only
      k_steps
      refine hret _ _ _ _ ?_ (by k_asm) (by k_asm)
      exact ⟨_, _, _, _, _, _, _, _, rfl, S1.mono (by rw [List.length_nil] at hb; omega)⟩
end
end
end Mine
/-! part S6 -/
namespace Mine
section
section
theorem atomText_ct {w : World} {mean mg mb} (q : Bool) (i : Int) (t : Tok) (x : Str) (X DX TL AD FL FD : Addr) (b : Nat) (ls : List Str) (c : List (Str × Int)) (hb : b ≤ 500) (h0 : 0 ≤ i) (hx : ls[i.toNat]? = some x) (hl : x.length ≤ 9) (hs : Small x) :
    CtS 5 100 w mean mg mb 106 [.ref X, .int i t, .bool q] (Sym w X DX TL AD FL FD b ls c) (fun v news news' => ∃ y u, v = .str y u ∧ (q = false → y = x) ∧ (y = x ∨ y = quotS x) ∧ Sym w X DX TL AD FL FD b ls c news') := by
  w_top off; k_with_none
  k_with "call ref" => (k_here; (with_reducible show wpAny _ _ (call (Value.ref 155) [Value.ref _, Value.int _ _]) _ _ _); k_dflt (refine' cts_use (text_ct _ _ _ _ _ _ _ _ _ _ _ _ ?hb ?h0 ?hx) ?k1 ?k2 ?k3 ?k4 ?k5 ?kK ?kd ?ku ?kP ?_; (case kP => first | assumption | trivial); (case k1 => k_asm); (case k2 => k_asm); (case k3 => k_asm); (case k4 => k_asm); (case k5 => k_asm); (case kK => first | exact rfl | assumption); (case kd => ktr_room); (case ku => ktr_units); (case hb => omega); (case h0 => assumption); (case hx => assumption); (intro v9 h9 tk9 news9 hp9 F9 N9); (obtain ⟨u9, e9, S9⟩ := hp9; subst e9); (try dsimp only); (try k_fold)))
  k_with "call ref" => (k_here; (with_reducible show wpAny _ _ (call (Value.ref 84) [Value.str _ _]) _ _ _); k_dflt (refine' ct_use (plainName_ct _ _ ?kB) ?k1 ?k2 ?k3 ?k4 ?k5 ?kK ?kd ?ku ?kG ?_; (case k1 => k_asm); (case k2 => k_asm); (case k3 => k_asm); (case k4 => k_asm); (case k5 => k_asm); (case kK => first | exact rfl | assumption); (case kd => ktr_room); (case ku => ktr_units); (case kB => assumption); (case kG => trivial); (intro v9 h9 tk9 hv9 F9 N9); (obtain ⟨b9, e9⟩ := hv9; subst e9); (try dsimp only); (try k_fold)))
  k_with "call ref" => (k_here; (with_reducible show wpAny _ _ (call (Value.ref 98) [Value.str _ _]) _ _ _); k_dflt (refine' ct_use (quoted_ct _ _ ?kA ?kB) ?k1 ?k2 ?k3 ?k4 ?k5 ?kK ?kd ?ku ?kG ?_; (case k1 => k_asm); (case k2 => k_asm); (case k3 => k_asm); (case k4 => k_asm); (case k5 => k_asm); (case kK => first | exact rfl | assumption); (case kd => ktr_room); (case ku => ktr_units); (case kA => assumption); (case kB => assumption); (case kG => trivial); (intro v9 h9 tk9 hv9 F9 N9); (obtain ⟨u9, e9⟩ := hv9; subst e9); (try dsimp only); (try k_fold)))
  k_with "eval Call" => (k_here; (with_reducible show wpAny _ _ (eval (Expr.Call (Expr.Name _ _) _ [] _) _) _ _ _); k_dflt (refine Call_ ?_))
  unfold CtS PR; k_fill
  intro dp un gd cn cs a ccd cl outer A₀ base h₀ L m news s Q E B F Xk N T hk hd hu S hret
  have hx1 := S.x
  obtain ⟨k1, k2, k3, k4, hdx⟩ := S.dx
  refine wpAny_call ?_
  (refine' code_def ?k1 ?k2 ?k3 ?k4 ?k5 ?kA ?kF ?kK ?k6 ?k7 ?k8 ?k9 ?kB ?_ ?c2 ?c3 ?c4 ?c5; (case kA => exact rfl); (case kF => exact rfl); (case kK => assumption); (case k1 => k_asm); (case k2 => k_asm); (case k3 => k_asm); (case k4 => k_asm); (case k5 => k_asm); (case k6 => k_dflt k_is); (case k7 => k_dflt k_is); (case k8 => ktr_room); (case k9 => first | exact BindsTo.of_eq rfl | exact binds_K (by k_in) rfl (by k_dflt k_is) rfl rfl rfl); (case c5 => decide); (case kB => exact locs rfl); (case c2 => exact rfl); (case c3 => exact rfl); (case c4 => exact rfl); k_whole; intro g' L' h' FG' F' N' B' X' T'; (try dsimp only); (try k_lift B'); (try k_fold))
  k_steps
  all_goals (refine hret _ _ _ _ ?_ (by k_asm) (by k_asm))
  all_goals first | exact ⟨_, _, rfl, fun _ => rfl, .inl rfl, by assumption⟩ | exact ⟨_, _, rfl, fun e => absurd e (by simp_all), .inr rfl, by assumption⟩
theorem atomText2_ct {w : World} {mean mg mb} (i : Int) (t : Tok) (x : Str) (X DX TL AD FL FD : Addr) (b : Nat) (ls : List Str) (c : List (Str × Int)) (hb : b ≤ 500) (h0 : 0 ≤ i) (hx : ls[i.toNat]? = some x) (hl : x.length ≤ 9) (hs : Small x) :
    CtS 5 100 w mean mg mb 106 [.ref X, .int i t] (Sym w X DX TL AD FL FD b ls c) (fun v news news' => ∃ y u, v = .str y u ∧ (y = x ∨ y = quotS x) ∧ Sym w X DX TL AD FL FD b ls c news') := by
  w_top off; k_with_none
  k_with "call ref" => (k_here; (with_reducible show wpAny _ _ (call (Value.ref 155) [Value.ref _, Value.int _ _]) _ _ _); k_dflt (refine' cts_use (text_ct _ _ _ _ _ _ _ _ _ _ _ _ ?hb ?h0 ?hx) ?k1 ?k2 ?k3 ?k4 ?k5 ?kK ?kd ?ku ?kP ?_; (case kP => first | assumption | trivial); (case k1 => k_asm); (case k2 => k_asm); (case k3 => k_asm); (case k4 => k_asm); (case k5 => k_asm); (case kK => first | exact rfl | assumption); (case kd => ktr_room); (case ku => ktr_units); (case hb => omega); (case h0 => assumption); (case hx => assumption); (intro v9 h9 tk9 news9 hp9 F9 N9); (obtain ⟨u9, e9, S9⟩ := hp9; subst e9); (try dsimp only); (try k_fold)))
  k_with "call ref" => (k_here; (with_reducible show wpAny _ _ (call (Value.ref 84) [Value.str _ _]) _ _ _); k_dflt (refine' ct_use (plainName_ct _ _ ?kB) ?k1 ?k2 ?k3 ?k4 ?k5 ?kK ?kd ?ku ?kG ?_; (case k1 => k_asm); (case k2 => k_asm); (case k3 => k_asm); (case k4 => k_asm); (case k5 => k_asm); (case kK => first | exact rfl | assumption); (case kd => ktr_room); (case ku => ktr_units); (case kB => assumption); (case kG => trivial); (intro v9 h9 tk9 hv9 F9 N9); (obtain ⟨b9, e9⟩ := hv9; subst e9); (try dsimp only); (try k_fold)))
  k_with "call ref" => (k_here; (with_reducible show wpAny _ _ (call (Value.ref 98) [Value.str _ _]) _ _ _); k_dflt (refine' ct_use (quoted_ct _ _ ?kA ?kB) ?k1 ?k2 ?k3 ?k4 ?k5 ?kK ?kd ?ku ?kG ?_; (case k1 => k_asm); (case k2 => k_asm); (case k3 => k_asm); (case k4 => k_asm); (case k5 => k_asm); (case kK => first | exact rfl | assumption); (case kd => ktr_room); (case ku => ktr_units); (case kA => assumption); (case kB => assumption); (case kG => trivial); (intro v9 h9 tk9 hv9 F9 N9); (obtain ⟨u9, e9⟩ := hv9; subst e9); (try dsimp only); (try k_fold)))
  k_with "eval Call" => (k_here; (with_reducible show wpAny _ _ (eval (Expr.Call (Expr.Name _ _) _ [] _) _) _ _ _); k_dflt (refine Call_ ?_))
  unfold CtS PR; k_fill
  intro dp un gd cn cs a ccd cl outer A₀ base h₀ L m news s Q E B F Xk N T hk hd hu S hret
  have hx1 := S.x
  obtain ⟨k1, k2, k3, k4, hdx⟩ := S.dx
  refine wpAny_call ?_
  (refine' code_def ?k1 ?k2 ?k3 ?k4 ?k5 ?kA ?kF ?kK ?k6 ?k7 ?k8 ?k9 ?kB ?_ ?c2 ?c3 ?c4 ?c5; (case kA => exact rfl); (case kF => exact rfl); (case kK => assumption); (case k1 => k_asm); (case k2 => k_asm); (case k3 => k_asm); (case k4 => k_asm); (case k5 => k_asm); (case k6 => k_dflt k_is); (case k7 => k_dflt k_is); (case k8 => ktr_room); (case k9 => first | exact BindsTo.of_eq rfl | exact binds_K (by k_in) rfl (by k_dflt k_is) rfl rfl rfl); (case c5 => decide); (case kB => exact locs rfl); (case c2 => exact rfl); (case c3 => exact rfl); (case c4 => exact rfl); k_whole; intro g' L' h' FG' F' N' B' X' T'; (try dsimp only); (try k_lift B'); (try k_fold))
  k_steps
  all_goals (refine hret _ _ _ _ ?_ (by k_asm) (by k_asm))
  · exact ⟨_, _, rfl, .inl rfl, by assumption⟩
  · exact ⟨_, _, rfl, .inr rfl, by assumption⟩
end
end
end Mine
/-! part P1 -/
namespace Mine
section
theorem code_menu (c : Int) : (codes.getD (c.fmod 23).toNat 0).toNat ∈ menu := by
  have h : (c.fmod 23).toNat < 23 := by
    have h1 := Int.fmod_lt_of_pos c (show (0 : Int) < 23 by decide)
    have h2 := Int.fmod_nonneg_of_pos c (show (0 : Int) < 23 by decide)
    omega
  exact (show ∀ k : Nat, k < 23 → (codes.getD k 0).toNat ∈ menu from by decide) _ h
theorem txt_menu (ns : List Int) (k : Nat) : Menu (txtS ns k) := by
  intro c hc
  have hc' : c ∈ ((ns.drop k).take 9).map fun c => (codes.getD (c.fmod 23).toNat 0).toNat := by
    unfold txtS at hc
    simpa using hc
  obtain ⟨z, _, rfl⟩ := List.mem_map.mp hc'
  exact code_menu z
theorem txt_len (ns : List Int) (k : Nat) : (txtS ns k).length ≤ 9 := by
  unfold txtS
  show (Array.size _) ≤ 9
  simp only [List.size_toArray, List.length_map, List.length_take]
  omega
theorem menu_small {x : Str} (h : Menu x) : Small x := fun c hc => (show ∀ c ∈ menu, c ≤ 1114111 from by decide) c (h c hc)
theorem quot_at0 (x : Str) : (quotS x).cps.toList[0]? = some 39 := rfl
theorem quot_len2 (x : Str) : 2 ≤ (quotS x).length := by
  rw [str_len, quot_cps]; simp
def innL (x : Str) : List Nat := x.cps.toList.flatMap esc
def innS (x : Str) : Str := ⟨(innL x).toArray⟩
theorem inn_len (x : Str) : (quotS x).length = (innS x).length + 2 := by
  rw [str_len, str_len, quot_cps]
  show _ = (innL x).length + 2
  simp [innL]
theorem esc_fine : ∀ n ∈ menu, ∀ c ∈ esc n, 32 ≤ c ∧ c ≠ 127 := by decide +kernel
theorem quot_fine {x : Str} (h : Menu x) : ∀ c ∈ (quotS x).cps.toList, 32 ≤ c ∧ c ≠ 127 := by
  intro c hc
  rw [quot_cps] at hc
  rcases List.mem_cons.mp hc with rfl | hc
  · decide
  · rcases List.mem_append.mp hc with hc | hc
    · obtain ⟨n, hn, hc⟩ := List.mem_flatMap.mp hc
      exact esc_fine n (h n hn) c hc
    · rw [List.mem_singleton.mp hc]; decide
theorem quot_turn {x : Str} (h : Menu x) {pre post : List Int} {n : Nat} (e : KStt.codes (quotS x) = pre ++ (n : Int) :: post) : 32 ≤ n ∧ n ≠ 127 := by
  have hm : (n : Int) ∈ KStt.codes (quotS x) := by rw [e]; simp
  unfold KStt.codes at hm
  obtain ⟨c, hc, e'⟩ := List.mem_map.mp hm
  have e'' : c = n := by omega
  rw [← e'']
  exact quot_fine h c hc
theorem esc_quote : ∀ n ∈ menu, ∀ k, k < 5 → (esc n)[k]? = some 39 → k = 1 ∧ (esc n)[0]? = some 92 := by decide +kernel
theorem inn_quote : ∀ (l : List Nat), (∀ c ∈ l, c ∈ menu) → ∀ k, (l.flatMap esc)[k]? = some 39 → ∃ j, k = j + 1 ∧ (l.flatMap esc)[j]? = some 92
  | [], _, k, h => by simp at h
  | n :: l, hm, k, h => by
    rw [List.flatMap_cons] at h ⊢
    by_cases hk : k < (esc n).length
    · rw [List.getElem?_append_left hk] at h
      have h5 := esc_le5 n
      obtain ⟨rfl, h0⟩ := esc_quote n (hm n (.head _)) k (by omega) h
      exact ⟨0, rfl, by rw [List.getElem?_append_left (by omega)]; exact h0⟩
    · rw [List.getElem?_append_right (by omega)] at h
      obtain ⟨j, e, hj⟩ := inn_quote l (fun c hc => hm c (.tail _ hc)) _ h
      exact ⟨(esc n).length + j, by omega, by rw [List.getElem?_append_right (by omega)]; simpa using hj⟩
theorem esc_pre : ∀ n ∈ menu, ∀ n' ∈ menu, (esc n).isPrefixOf (esc n') = true → n = n' := by decide +kernel
theorem esc_ne : ∀ n ∈ menu, esc n ≠ [] := by decide +kernel
theorem flat_inj : ∀ (l l' : List Nat), (∀ c ∈ l, c ∈ menu) → (∀ c ∈ l', c ∈ menu) → l.flatMap esc = l'.flatMap esc → l = l'
  | [], [], _, _, _ => rfl
  | [], n :: l', _, h', e => by
    rw [List.flatMap_nil, List.flatMap_cons] at e
    exact absurd (List.append_eq_nil_iff.mp e.symm).1 (esc_ne n (h' n (.head _)))
  | n :: l, [], h, _, e => by
    rw [List.flatMap_nil, List.flatMap_cons] at e
    exact absurd (List.append_eq_nil_iff.mp e).1 (esc_ne n (h n (.head _)))
  | n :: l, n' :: l', h, h', e => by
    rw [List.flatMap_cons, List.flatMap_cons] at e
    have hn := h n (.head _)
    have hn' := h' n' (.head _)
    have key : n = n' := by
      rcases List.append_eq_append_iff.mp e with ⟨a, ha, _⟩ | ⟨a, ha, _⟩
      · exact esc_pre n hn n' hn' (List.isPrefixOf_iff_prefix.mpr ⟨a, ha.symm⟩)
      · exact (esc_pre n' hn' n hn (List.isPrefixOf_iff_prefix.mpr ⟨a, ha.symm⟩)).symm
    subst key
    rw [flat_inj l l' (fun c hc => h c (.tail _ hc)) (fun c hc => h' c (.tail _ hc)) (List.append_cancel_left e)]
theorem str_ext {x y : Str} (h : x.cps.toList = y.cps.toList) : x = y := Str.ext' (Array.toList_inj.mp h)
theorem quot_inj {x y : Str} (hx : Menu x) (hy : Menu y) : (quotS y == quotS x) = (y == x) := by
  rw [Bool.eq_iff_iff, beq_iff_eq, beq_iff_eq]
  refine ⟨fun e => ?_, fun e => by rw [e]⟩
  have e' := congrArg (fun z : Str => z.cps.toList) e
  simp only [quot_cps, List.cons.injEq, true_and] at e'
  exact str_ext (flat_inj _ _ hy hx (List.append_cancel_right e'))
theorem slice_neg {z : Str} (h : 1 ≤ z.length) : Txt.slice z (some 1) (some (-1)) = Txt.slice z (some 1) (some ((z.length : Int) - 1)) := by
  have e : Builtin.Str.strSliceIndices (some 1) (some (-1)) 1 z.length = Builtin.Str.strSliceIndices (some 1) (some ((z.length : Int) - 1)) 1 z.length := by
    unfold Builtin.Str.strSliceIndices
    have h1 : (-1 : Int) < 0 := by decide
    have h2 : ¬ ((z.length : Int) - 1 < 0) := by omega
    have h3 : (-1 : Int) + (z.length : Int) = (z.length : Int) - 1 := by omega
    simp only [if_pos h1, if_neg h2, h3]
  unfold Txt.slice
  rw [e]
theorem slice_mid (x : Str) : Txt.slice (quotS x) (some 1) (some (-1)) = innS x := by
  have hl := inn_len x
  have hL : (quotS x).cps.toList.drop 1 = innL x ++ [39] := rfl
  have hi : (innS x).length = (innL x).length := by rw [str_len]; rfl
  rw [slice_neg (by omega), slice_lit (a := 1) (k := 0) (j := (innL x).length) (i1 := 1) (i2 := ((quotS x).length : Int) - 1) hL rfl (by omega) (by simp) (by omega)]
  refine str_ext ?_
  show ((innL x ++ [39]).drop 0).take (innL x).length = innL x
  rw [List.drop_zero, List.take_left]
def digL (n : Nat) : List Nat := if n < 26 then [] else digs (n / 26)
theorem num_cps (n : Nat) : (numS n).cps.toList = (65 + n % 26) :: digL n := rfl
def val (l : List Int) : Int := l.foldl (fun a c => a * 10 + (c - 48)) 0
theorem digs_val : ∀ k : Nat, k < 116 → val ((digs k).map fun (c : Nat) => (c : Int)) = (k : Int) := by decide +kernel
theorem digs_dig : ∀ k : Nat, k < 116 → ∀ c ∈ digs k, 48 ≤ c ∧ c ≤ 57 := by decide +kernel
theorem digs_head : ∀ k : Nat, k < 116 → 0 < k → (digs k)[0]? ≠ some 48 ∧ digs k ≠ [] := by decide +kernel
theorem find_dig : ∀ c : Nat, c < 58 → 48 ≤ c → Txt.find (Str.ofString "0123456789") ⟨#[c]⟩ = (c : Int) - 48 := by decide +kernel
theorem num_len (n : Nat) : (numS n).length = 1 + (digL n).length := by rw [str_len, num_cps, List.length_cons]; omega
theorem digs_len (k : Nat) : 1 ≤ (digs k).length ∧ (digs k).length ≤ 3 := by
  unfold digs
  (repeat' split) <;> simp
theorem digL_len (n : Nat) : (n < 26 → (digL n).length = 0) ∧ (26 ≤ n → 1 ≤ (digL n).length) ∧ (digL n).length ≤ 3 := by
  unfold digL
  have h := digs_len (n / 26)
  refine ⟨fun h' => by rw [if_pos h']; rfl, fun h' => by rw [if_neg (by omega)]; exact h.1, ?_⟩
  split
  · exact Nat.zero_le _
  · exact h.2
def tailS (n : Nat) : Str := ⟨(digL n).toArray⟩
theorem num_tail (n : Nat) : Txt.slice (numS n) (some 1) none = tailS n := by
  have hl := num_len n
  rw [slice_from_eq (b := (numS n).length) (by decide) (by omega) rfl]
  refine str_ext ?_
  show ((numS n).cps.toList.drop (1 : Int).toNat).take (((numS n).length : Int) - 1).toNat = digL n
  rw [num_cps]
  show (digL n).take (((numS n).length : Int) - 1).toNat = digL n
  exact List.take_of_length_le (by omega)
theorem slice12_one (c : Nat) : Txt.slice ⟨#[c]⟩ (some 1) (some 2) = ⟨#[]⟩ := rfl
theorem num_two {n : Nat} (h : n < 3000) : (Txt.slice (numS n) (some 1) (some 2) == Str.ofString "0") = false := by
  have e0 : Str.ofString "0" = ⟨#[48]⟩ := by decide +kernel
  rw [e0, beq_eq_false_iff_ne]
  by_cases hn : n < 26
  · have e : numS n = ⟨#[65 + n % 26]⟩ := by unfold numS numL; rw [if_pos hn]
    rw [e, slice12_one]
    intro q
    injection q with q
    exact absurd (congrArg Array.size q) (by simp)
  · have hd := digs_head (n / 26) (by omega) (by omega)
    have hL : (numS n).cps.toList.drop 0 = (65 + n % 26) :: digs (n / 26) := by rw [List.drop_zero, num_cps]; unfold digL; rw [if_neg hn]
    have hl := digs_len (n / 26)
    rw [slice_lit (a := 0) (k := 1) (j := 1) (i1 := 1) (i2 := 2) hL rfl rfl (by rw [List.length_cons]; omega) (Nat.zero_le _)]
    intro q
    have q' := congrArg (fun z : Str => z.cps.toList[0]?) q
    have q2 : ((digs (n / 26)).take 1)[0]? = some 48 := q'
    rw [List.getElem?_take] at q2
    simp at q2
    exact hd.1 (by simpa using q2)
theorem tail_val {n : Nat} (h : n < 3000) : val (KStt.codes (tailS n)) = ((n / 26 : Nat) : Int) := by
  have e : KStt.codes (tailS n) = (digL n).map fun (c : Nat) => (c : Int) := rfl
  rw [e]
  unfold digL
  split
  · rename_i h'
    have : n / 26 = 0 := by omega
    rw [this]; rfl
  · exact digs_val _ (by omega)
theorem tail_dig {n : Nat} (h : n < 3000) {pre post : List Int} {c : Nat} (e : KStt.codes (tailS n) = pre ++ (c : Int) :: post) : 48 ≤ c ∧ c < 58 := by
  have hm : (c : Int) ∈ KStt.codes (tailS n) := by rw [e]; simp
  have e' : KStt.codes (tailS n) = (digL n).map fun (c : Nat) => (c : Int) := rfl
  rw [e'] at hm
  obtain ⟨d, hd, e2⟩ := List.mem_map.mp hm
  have : d = c := by omega
  subst this
  unfold digL at hd
  split at hd
  · cases hd
  · have := digs_dig _ (by omega) d hd
    omega
theorem val_snoc (l : List Int) (c : Int) : val (l ++ [c]) = val l * 10 + (c - 48) := by unfold val; rw [List.foldl_append]; rfl
end
end Mine
/-! part LW -/
namespace Mine
section
section
section
variable {prog : Program} {w : World} {A : Around} {E : Value → Shared → Prop} {s : Shared} {h₀ : Heap} {L : Addr} {m : Str → Option Value} {news : List (Addr × Obj)} {value slice : PySem.Expr}
theorem sl_mid {x : Str} {t ui uj : Tok} {Q : Value → Shared → Prop} (hl : (quotS x).length ≤ 60) (hF : Fr h₀ L s.heap m) (hN : News h₀ L s.heap news)
    (h : ∀ h' t' k', Fr h₀ L h' m → News h₀ L h' news → Q (.str (innS x) t') { s with heap := h', toks := k' })
    (hs : subscripted slice false (.str (quotS x) t) (.ref s.heap.objs.size) = operate [.ref s.heap.objs.size, .str (quotS x) t] (getItem (.str (quotS x) t) (.ref s.heap.objs.size)) := by with_unfolding_all rfl)
    (ht : ∀ r, letTemporaryGo value (.str (quotS x) t) r = pure () := by intro _; with_unfolding_all rfl) :
    wpAny (model prog w) A (subscriptTail value slice (.str (quotS x) t) (.ref s.heap.objs.size)) Q E { s with heap := s.heap.push { cls := .type "slice", data := .fields #[.int 1 ui, .int (-1) uj, .none] } } :=
  slice_strN_ss hF hN (fun h' t' k' a b => by rw [slice_mid]; exact h h' t' k' a b) hs ht (by rw [sizeLine_eq]; omega)
theorem sl_tail {n : Nat} {t ui : Tok} {Q : Value → Shared → Prop} (hF : Fr h₀ L s.heap m) (hN : News h₀ L s.heap news)
    (h : ∀ h' t' k', Fr h₀ L h' m → News h₀ L h' news → Q (.str (tailS n) t') { s with heap := h', toks := k' })
    (hs : subscripted slice false (.str (numS n) t) (.ref s.heap.objs.size) = operate [.ref s.heap.objs.size, .str (numS n) t] (getItem (.str (numS n) t) (.ref s.heap.objs.size)) := by with_unfolding_all rfl)
    (ht : ∀ r, letTemporaryGo value (.str (numS n) t) r = pure () := by intro _; with_unfolding_all rfl) :
    wpAny (model prog w) A (subscriptTail value slice (.str (numS n) t) (.ref s.heap.objs.size)) Q E { s with heap := s.heap.push { cls := .type "slice", data := .fields #[.int 1 ui, .none, .none] } } :=
  slice_strN_sn hF hN (fun h' t' k' a b => by rw [num_tail]; exact h h' t' k' a b) hs ht (by have := num_len n; have := digL_len n; rw [sizeLine_eq]; omega)
theorem sl_two {n : Nat} {t ui uj : Tok} {Q : Value → Shared → Prop} (hF : Fr h₀ L s.heap m) (hN : News h₀ L s.heap news)
    (h : ∀ h' t' k', Fr h₀ L h' m → News h₀ L h' news → Q (.str (Txt.slice (numS n) (some 1) (some 2)) t') { s with heap := h', toks := k' })
    (hs : subscripted slice false (.str (numS n) t) (.ref s.heap.objs.size) = operate [.ref s.heap.objs.size, .str (numS n) t] (getItem (.str (numS n) t) (.ref s.heap.objs.size)) := by with_unfolding_all rfl)
    (ht : ∀ r, letTemporaryGo value (.str (numS n) t) r = pure () := by intro _; with_unfolding_all rfl) :
    wpAny (model prog w) A (subscriptTail value slice (.str (numS n) t) (.ref s.heap.objs.size)) Q E { s with heap := s.heap.push { cls := .type "slice", data := .fields #[.int 1 ui, .int 2 uj, .none] } } :=
  slice_strN_ss hF hN (fun h' t' k' a b => h h' t' k' a b) hs ht (by have := num_len n; have := digL_len n; rw [sizeLine_eq]; omega)
def ItA (x : Str) (k c : Nat) : Prop := x.cps.toList[k]? = some c
def ItB (x : Str) (k c : Nat) : Prop := x.cps.toList[k]? = some c
theorem it_at {x : Str} {t u : Tok} {i : Int} {k c : Nat} {Q : Value → Shared → Prop} (hk : ItA x k c) (hl : x.length ≤ 60) (hi : i = (k : Int)) (h : Q (.str ⟨#[c]⟩ s.toks) { s with toks := s.toks + 1 })
    (hs : subscripted slice false (.str x t) (.int i u) = operate [.str x t, .int i u] (getItem (.str x t) (.int i u)) := by with_unfolding_all rfl)
    (ht : ∀ r, letTemporaryGo value (.str x t) r = pure () := by intro _; with_unfolding_all rfl) :
    wpAny (model prog w) A (subscriptTail value slice (.str x t) (.int i u)) Q E s :=
  w_item (a := 0) (k := k) (L := x.cps.toList) rfl hk hl (by omega) h hs ht
theorem it_last {x : Str} {t u : Tok} {Q : Value → Shared → Prop} (hl : (quotS x).length ≤ 60) (h : Q (.str ⟨#[39]⟩ s.toks) { s with toks := s.toks + 1 })
    (hs : subscripted slice false (.str (quotS x) t) (.int (-1) u) = operate [.str (quotS x) t, .int (-1) u] (getItem (.str (quotS x) t) (.int (-1) u)) := by with_unfolding_all rfl)
    (ht : ∀ r, letTemporaryGo value (.str (quotS x) t) r = pure () := by intro _; with_unfolding_all rfl) :
    wpAny (model prog w) A (subscriptTail value slice (.str (quotS x) t) (.int (-1) u)) Q E s := by
  have e : Txt.item (quotS x) (-1) = ⟨#[39]⟩ := by
    have h2 := inn_len x
    have hi : (innS x).length = (innL x).length := by rw [str_len]; rfl
    have hg : (quotS x).cps.toList[(innL x).length + 1]? = some 39 := by
      rw [quot_cps, List.getElem?_cons_succ]
      show (innL x ++ [39])[(innL x).length]? = some 39
      rw [List.getElem?_append_right (Nat.le_refl _)]
      simp
    have h' : (quotS x).cps[(innL x).length + 1]? = some 39 := by rw [← Array.getElem?_toList]; exact hg
    unfold Txt.item Txt.charAt seqIndex?
    have e1 : (-1 : Int) < 0 := by decide
    simp only [if_pos e1]
    have e2 : (decide (0 ≤ (-1 : Int) + ((quotS x).length : Int)) && decide ((-1 : Int) + ((quotS x).length : Int) < ((quotS x).length : Int))) = true := by
      rw [Bool.and_eq_true, decide_eq_true_eq, decide_eq_true_eq]; omega
    rw [if_pos e2]
    have e3 : ((-1 : Int) + ((quotS x).length : Int)).toNat = (innL x).length + 1 := by omega
    rw [Option.bind_some, e3, h']
    rfl
  rw [← e] at h
  exact item_str (by decide) (by have := quot_len2 x; omega) (by omega) (fun _ => h) hs ht
theorem w_neB {a b : Bool} {Q : Value → Shared → Prop} (h : a = b) (q : Q (.bool false) s) : wpAny (model prog w) A (compareOp .NotEq (.bool a) (.bool b)) Q E s := ne_bool (by rw [h]; simpa using q)
end
theorem inn_cases {x : Str} (hM : Menu x) {k : Nat} (hk : k < (innS x).length) : (∃ j, ItA (innS x) k 39 ∧ k = j + 1 ∧ ItB (innS x) j 92) ∨ ∃ c, ItA (innS x) k c ∧ ((⟨#[c]⟩ : Str) == Str.ofString "'") = false := by
  have hl : (innS x).length = (innL x).length := by rw [str_len]; rfl
  have hg : (innL x)[k]? = some ((innL x)[k]'(by omega)) := List.getElem?_eq_getElem _
  by_cases h : (innL x)[k]'(by omega) = 39
  · rw [h] at hg
    obtain ⟨j, e, hj⟩ := inn_quote x.cps.toList hM k hg
    exact .inl ⟨j, hg, e, hj⟩
  · refine .inr ⟨_, hg, ?_⟩
    have e : Str.ofString "'" = ⟨#[39]⟩ := by decide +kernel
    rw [e, beq_eq_false_iff_ne]
    intro q
    injection q with q
    injection q with q
    injection q with q _
    exact h q
theorem val_nil : (0 : Int) = val [] := rfl
theorem val_step {pre : List Int} {count : Int} {n : Nat} (h : count = val pre) : count * 10 + ((n : Int) - 48) = val (pre ++ [(n : Int)]) := by rw [val_snoc, h]
theorem notin_fin {prog : Program} {w : World} {A : Around} {E : Value → Shared → Prop} {s : Shared} {t : Addr} {items : Array Value} {a b y : Str} {u : Tok} {Q : Value → Shared → Prop} (ht : IsTup s.heap t items) (hi : StrsAre items.toList [a, b]) (hy : y = a ∨ y = b) (h : Q (.bool false) s) :
    wpAny (model prog w) A (compareOp .NotIn (.str y u) (.ref t)) Q E s := by
  refine notin_tuple_strs ht hi ?_
  have e : ([a, b].any (· == y)) = true := by
    rcases hy with rfl | rfl <;> simp
  rw [e]
  exact h
structure NumR (z : Int) : Prop where
  lt : z.toNat < 3000
  eq : ((z.toNat : Nat) : Int) = z
  lo : 0 ≤ z
  len : (z < 26 ∧ (numS z.toNat).length = 1) ∨ (26 ≤ z ∧ 2 ≤ (numS z.toNat).length)
  le : (numS z.toNat).length ≤ 4
  vl : val (KStt.codes (tailS z.toNat)) = ((z.toNat / 26 : Nat) : Int)
theorem num_r {z : Int} (h0 : 0 ≤ z) (h1 : z < 3000) : NumR z := by
  have hl := num_len z.toNat
  have hd := digL_len z.toNat
  refine ⟨by omega, by omega, h0, ?_, by omega, tail_val (by omega)⟩
  by_cases h : z < 26
  · have := hd.1 (by omega)
    exact .inl ⟨h, by omega⟩
  · have := hd.2.1 (by omega)
    exact .inr ⟨by omega, by omega⟩
theorem numbered2_ct {w : World} {mean mg mb} (z : Int) (t : Tok) (h0 : 0 ≤ z) (h1 : z < 3000) : Ct 3 50 w mean mg mb 113 [.int z t] (fun _ => True) (fun v => ∃ u, v = .str (numS z.toNat) u ∧ NumR z) := by
  have e : ((z.toNat : Nat) : Int) = z := by omega
  have C := numbered_ct (w := w) (mean := mean) (mg := mg) (mb := mb) z.toNat t (by omega)
  rw [e] at C
  intro dp un gd cn cs a ccd cl outer A₀ base h₀ L m news s Q E B F X N T hk hd hu hG hret
  exact C dp un gd cn cs a ccd cl outer A₀ base h₀ L m news s Q E B F X N T hk hd hu hG fun v h' tk' hv F' N' => hret v h' tk' (let ⟨u, e⟩ := hv; ⟨u, e, num_r h0 h1⟩) F' N'
theorem incl1 {α : Type} {x : α} {l o : List α} : ∀ p ∈ x :: l, p ∈ x :: (l ++ o) := fun p hp => (List.mem_cons.mp hp).elim (fun e => e ▸ .head _) fun h => .tail _ (List.mem_append_left _ h)
theorem law_walk : PySem.Challenge.rw_ok0010_01.Holds := by
  w_top off; k_with_none
  k_with "call ref" => (k_here; (with_reducible show wpAny _ _ (call (Value.ref 232) [Value.ref _, Value.int 1 _]) _ _ _); k_dflt (refine' ct_use (ltext_ct _ _ _ _ ?kL) ?k1 ?k2 ?k3 ?k4 ?k5 ?kK ?kd ?ku ?kG ?_; (case k1 => k_asm); (case k2 => k_asm); (case k3 => k_asm); (case k4 => k_asm); (case k5 => k_asm); (case kK => first | exact rfl | assumption); (case kd => ktr_room); (case ku => ktr_units); (case kG => exact ⟨by assumption, by assumption⟩); (case kL => omega); (intro v9 h9 tk9 hv9 F9 N9); (obtain ⟨u9, e9⟩ := hv9; subst e9); (try dsimp only); (try k_fold)))
  k_with "call ref" => (k_here; (with_reducible show wpAny _ _ (call (Value.ref 232) [Value.ref _, Value.int 2 _]) _ _ _); k_dflt (refine' ct_use (ltext2_ct _ _ _ _ ?kL) ?k1 ?k2 ?k3 ?k4 ?k5 ?kK ?kd ?ku ?kG ?_; (case k1 => k_asm); (case k2 => k_asm); (case k3 => k_asm); (case k4 => k_asm); (case k5 => k_asm); (case kK => first | exact rfl | assumption); (case kd => ktr_room); (case ku => ktr_units); (case kG => exact ⟨by assumption, by assumption⟩); (case kL => omega); (intro v9 h9 tk9 hv9 F9 N9); (obtain ⟨u9, e9⟩ := hv9; subst e9); (try dsimp only); (try k_fold)))
  k_with "call ref" => (k_here; (with_reducible show wpAny _ _ (call (Value.ref 98) [Value.str _ _]) _ _ _); k_dflt (refine' ct_use (quoted_ct _ _ ?kA ?kB) ?k1 ?k2 ?k3 ?k4 ?k5 ?kK ?kd ?ku ?kG ?_; (case k1 => k_asm); (case k2 => k_asm); (case k3 => k_asm); (case k4 => k_asm); (case k5 => k_asm); (case kK => first | exact rfl | assumption); (case kd => ktr_room); (case ku => ktr_units); (case kA => assumption); (case kB => assumption); (case kG => trivial); (intro v9 h9 tk9 hv9 F9 N9); (obtain ⟨u9, e9⟩ := hv9; subst e9); (try dsimp only); (try k_fold)))
  k_with "call ref" => (k_here; (with_reducible show wpAny _ _ (call (Value.ref 237) [Value.str _ _]) _ _ _); k_dflt (refine' ct_use (unq_ct _ _ ?kA ?kB) ?k1 ?k2 ?k3 ?k4 ?k5 ?kK ?kd ?ku ?kG ?_; (case k1 => k_asm); (case k2 => k_asm); (case k3 => k_asm); (case k4 => k_asm); (case k5 => k_asm); (case kK => first | exact rfl | assumption); (case kd => ktr_room); (case ku => ktr_units); (case kA => assumption); (case kB => assumption); (case kG => trivial); (intro v9 h9 tk9 hv9 F9 N9); (obtain ⟨u9, e9⟩ := hv9; subst e9); (try dsimp only); (try k_fold)))
  k_with "call ref" => (k_here; (with_reducible show wpAny _ _ (call (Value.ref 148) [Value.ref _, Value.str _ _]) _ _ _); k_dflt (refine' cts_use (atom_ct _ _ _ _ _ _ _ _ _ _ _ ?hb) ?k1 ?k2 ?k3 ?k4 ?k5 ?kK ?kd ?ku ?kP ?_; (case kP => first | assumption | trivial); (case k1 => k_asm); (case k2 => k_asm); (case k3 => k_asm); (case k4 => k_asm); (case k5 => k_asm); (case kK => first | exact rfl | assumption); (case kd => ktr_room); (case ku => ktr_units); (case hb => omega); (intro v9 h9 tk9 news9 hp9 F9 N9); (obtain ⟨i9, u9, ls9, c9, e9, h09, hi9, S9, K9⟩ := hp9; subst e9; have hx9 := S9.x; obtain ⟨k1, k2, k3, k4, hdx9⟩ := S9.dx); (try dsimp only); (try k_fold)))
  k_with "call ref" => (k_here; (with_reducible show wpAny _ _ (call (Value.ref 106) [Value.ref _, Value.int _ _, Value.bool false]) _ _ _); k_dflt (refine' cts_use (atomText_ct false _ _ _ _ _ _ _ _ _ _ _ _ ?hb ?h0 ?hx ?hl ?hs) ?k1 ?k2 ?k3 ?k4 ?k5 ?kK ?kd ?ku ?kP ?_; (case kP => first | assumption | trivial); (case k1 => k_asm); (case k2 => k_asm); (case k3 => k_asm); (case k4 => k_asm); (case k5 => k_asm); (case kK => first | exact rfl | assumption); (case kd => ktr_room); (case ku => ktr_units); (case hb => omega); (case h0 => assumption); (case hx => assumption); (case hl => assumption); (case hs => assumption); (intro v9 h9 tk9 news9 hp9 F9 N9); (obtain ⟨y9, u9, e9, hy9, hz9, S9⟩ := hp9; have hy8 := hy9 rfl; subst e9; subst hy8; have hx9 := S9.x; obtain ⟨k1, k2, k3, k4, hdx9⟩ := S9.dx); (try dsimp only); (try k_fold)))
  k_with "call ref" => (k_here; (with_reducible show wpAny _ _ (call (Value.ref 106) [Value.ref _, Value.int _ _]) _ _ _); k_dflt (refine' cts_use (atomText2_ct _ _ _ _ _ _ _ _ _ _ _ _ ?hb ?h0 ?hx ?hl ?hs) ?k1 ?k2 ?k3 ?k4 ?k5 ?kK ?kd ?ku ?kP ?_; (case kP => first | assumption | trivial); (case k1 => k_asm); (case k2 => k_asm); (case k3 => k_asm); (case k4 => k_asm); (case k5 => k_asm); (case kK => first | exact rfl | assumption); (case kd => ktr_room); (case ku => ktr_units); (case hb => omega); (case h0 => assumption); (case hx => assumption); (case hl => assumption); (case hs => assumption); (intro v9 h9 tk9 news9 hp9 F9 N9); (obtain ⟨y9, u9, e9, hz9, S9⟩ := hp9; subst e9); (try dsimp only); (try k_fold)))
  k_with "call ref" => (k_here; (with_reducible show wpAny _ _ (call (Value.ref 113) [Value.int _ _]) _ _ _); k_dflt (refine' ct_use (numbered2_ct _ _ ?kA ?kB) ?k1 ?k2 ?k3 ?k4 ?k5 ?kK ?kd ?ku ?kG ?_; (case k1 => k_asm); (case k2 => k_asm); (case k3 => k_asm); (case k4 => k_asm); (case k5 => k_asm); (case kK => first | exact rfl | assumption); (case kd => ktr_room); (case ku => ktr_units); (case kA => first | exact Int.fmod_nonneg_of_pos _ (by decide) | omega | decide); (case kB => first | exact Int.fmod_lt_of_pos _ (by decide) | omega | decide); (case kG => trivial); (intro v9 h9 tk9 hv9 F9 N9); (obtain ⟨u9, e9, hN9⟩ := hv9; subst e9; have n1 := hN9.lt; have n2 := hN9.eq; have n3 := hN9.lo; have n4 := hN9.len; have n5 := hN9.le; have n6 := hN9.vl); (try dsimp only); (try k_fold)))
  k_with "call ref" => (k_here; (with_reducible show wpAny _ _ (call (Value.ref 214) _) _ _ _); k_dflt (refine' cts_use (symbols_ct) ?k1 ?k2 ?k3 ?k4 ?k5 ?kK ?kd ?ku ?kP ?_; (case kP => first | assumption | trivial); (case k1 => k_asm); (case k2 => k_asm); (case k3 => k_asm); (case k4 => k_asm); (case k5 => k_asm); (case kK => first | exact rfl | assumption); (case kd => ktr_room); (case ku => ktr_units); (intro v9 h9 tk9 news9 hp9 F9 N9); (obtain ⟨X9, DX9, TL9, AD9, FL9, FD9, ls9, c9, e9, S9⟩ := hp9; subst e9; have hx9 := S9.x; obtain ⟨k1, k2, k3, k4, hdx9⟩ := S9.dx); (try dsimp only); (try k_fold)))
  k_with "eval Call" => (k_here; (with_reducible show wpAny _ _ (eval (Expr.Call (Expr.Name _ _) _ [] _) _) _ _ _); k_dflt (refine Call_ ?_))
  k_with "subscriptTail Name Constant str int" => (k_here; k_dflt (refine w_item (a := 0) (k := 0) rfl (by rfl) (by omega) (by rfl) ?_))
  k_with "subscriptTail Name UnaryOp str int" => (k_here; k_dflt (refine it_last (by omega) ?_))
  k_with "subscriptTail Name Name str int" => (k_here; k_dflt ((rename ItA _ _ _ => hA9); refine it_at hA9 (by omega) (by omega) ?_))
  k_with "subscriptTail Name BinOp str int" => (k_here; k_dflt ((rename ItB _ _ _ => hB9); refine it_at hB9 (by omega) (by omega) ?_))
  k_with "subscriptTail Name Slice str ref" => (k_here; (with_reducible rename Fr _ _ _ _ => F9); (with_reducible rename News _ _ _ _ => N9); first | ((with_reducible show wpAny _ _ (subscriptTail _ _ (Value.str (quotS _) _) _) _ _ _); k_dflt (refine sl_mid (s := ⟨_, _, _, _, _⟩) (by omega) F9 N9 ?_); (intro h9 t9 k9 F8 N8); (try clear F9 N9)) | ((with_reducible show wpAny _ _ (subscriptTail _ (Expr.Slice (some _) none none _) (Value.str (numS _) _) _) _ _ _); k_dflt (refine sl_tail (s := ⟨_, _, _, _, _⟩) F9 N9 ?_); (intro h9 t9 k9 F8 N8); (try clear F9 N9)) | ((with_reducible show wpAny _ _ (subscriptTail _ (Expr.Slice (some _) (some _) none _) (Value.str (numS _) _) _) _ _ _); k_dflt (refine sl_two (s := ⟨_, _, _, _, _⟩) F9 N9 ?_); (intro h9 t9 k9 F8 N8); (try clear F9 N9)))
  k_with "compareOp NotEq str str" => (k_here; first | ((with_reducible show wpAny _ _ (compareOp _ (Value.str (Str.mk _) _) _) _ _ _); k_dflt (refine w_ne (b := false) (by decide +kernel) ?_)) | (k_dflt (refine w_ne (b := false) (by simp) ?_)))
  k_with "compareOp Eq str str" => (k_here; first | ((with_reducible show wpAny _ _ (compareOp _ (Value.str (quotS _) _) (Value.str (quotS _) _)) _ _ _); k_dflt (refine w_eq (quot_inj (by assumption) (by assumption)) ?_)) | ((with_reducible show wpAny _ _ (compareOp _ (Value.str (Txt.slice (numS _) _ _) _) _) _ _ _); k_dflt (refine w_eq (b := false) (num_two (by assumption)) ?_)) | ((with_reducible show wpAny _ _ (compareOp _ (Value.str (Str.mk _) _) _) _ _ _); k_dflt (first | (refine w_eq (b := false) (by with_reducible assumption) ?_) | (refine w_eq (b := true) (by decide +kernel) ?_) | (refine w_eq (b := false) (by decide +kernel) ?_))))
  k_with "compareOp NotIn str ref" => (k_here; k_dflt (refine notin_fin (News.isTup (by k_asm) (List.Mem.head _)) (.cons _ _ (.cons _ _ .nil)) (by assumption) ?_))
  k_with "call builtin:str.index" => (k_here; k_dflt (refine w_index _ (by rfl) (find_dig _ (tail_dig (by assumption) (by assumption)).2 (tail_dig (by assumption) (by assumption)).1) (by have := tail_dig (by assumption) (by assumption); omega) ?_))
  k_with "compareOp NotEq int int" => (k_here; k_dflt (refine w_neI (by omega) ?_))
  k_with "compareOp NotEq bool bool" => (k_here; k_dflt (refine w_neB rfl ?_))
  k_with "execs nil" => (k_here; refine wpAny_execs_nil ?_)
  k_with "InvEndN" => ((rename News _ _ _ _ => nE'); (try simp only [List.push_toArray] at nE'); (refine kst_end ⟨_, _⟩ (by assumption) nE' (by (try dsimp only); exact incl1) (by intro p hp; kst_mem) (by rfl) (by kst_facts) (by kst_all) (by kst_same) (by kst_p)))
  k_with "InvEndN" => ((rename News _ _ _ _ => nE'); (try simp only [List.push_toArray] at nE'); (refine kst_end () (by assumption) nE' (by first | exact List.forall_mem_nil _ | exact fun p hp => hp | exact fun p hp => .tail _ hp) (by intro p hp; kst_mem) (by rfl) True.intro (List.forall_mem_nil _) (by kst_same) (by ksr_p)))
  refine hd ?_
  k_go0
  all_goals (try k_fold)
  rename IntsAre _ _ => hI
  rename List Int => ns
  have hM1 := txt_menu ns 1
  have hl1 := txt_len ns 1
  have hS1 := menu_small hM1
  have hM2 := txt_menu ns 2
  have hl2 := txt_len ns 2
  have hS2 := menu_small hM2
  have hq1 := quot_len2 (txtS ns 1)
  have hq2 := quot_len (txtS ns 1)
  have hq3 := inn_len (txtS ns 1)
  k_with "pyIter ref" => (k_search (fun _ => True); (rcases inn_cases (k := kPre.length) hM1 (by omega) with ⟨j9, hA9, ej9, hB9⟩ | ⟨c9, hA9, hn9⟩))
  k_with "state" => first | exact trivial | exact val_nil | exact val_step (by assumption)
  k_with "pyIter str" => first | ((with_reducible show wpAny _ _ (pyIter (Value.str (tailS _) _)) _ _ _); k_state (fun pre count => count = val pre) "count") | (k_here; (rename Fr _ _ _ _ => lF'); (rename News _ _ _ _ => lN'); (with_unfolding_all refine' KStt.kst_text (xt := quotS (txtS ns 1)) (σ := Unit) (fun _ => _) (fun _ => []) (fun _ => True) [] (fun _ _ => True) () (by rfl) lF' lN' ?kf ?kk ?kp ?_ ?_); (case kf => trivial); (case kk => exact List.forall_mem_nil _); (case kp => trivial); ((intro kC kPre kPost kN kT kU kH kTk kOwn kEq kOff kFacts kInv kFr kNews; have kMark := kstMark; have kFine := quot_turn hM1 kEq; dsimp only [kstB] at kFr; (try dsimp only at kNews); (try simp only [List.nil_append, List.cons_append, List.append_nil] at kNews); (try simp only [List.map_cons, List.map_nil] at kOff); clear lF' lN')); rotate_left; ((intro kC kU kH kTk kFacts kInv kFr kNews; have kMark := kstMark; dsimp only [kstB] at kFr; (try dsimp only at kNews); (try simp only [List.nil_append, List.cons_append, List.append_nil] at kNews); clear lF' lN')); rotate_right)
  k_steps
end
end
end Mine
theorem PySem.Challenge.cw_ok0010_01_holds : PySem.Challenge.rw_ok0010_01.Holds := by
  exact Mine.law_walk
