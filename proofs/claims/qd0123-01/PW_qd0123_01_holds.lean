import PyProof.Rows.All
import Wide.All
import OpenK.AllK
import Wide.FinOn
import PySem.Challenge.RW_qd0123_01
open PySem PySem.W PyProof.Rows
set_option Elab.async false
set_option maxRecDepth 100000
set_option maxHeartbeats 8000000
set_option rowWalk.seconds 0
set_option linter.all false
set_option genInjectivity false
set_option genSizeOf false
namespace Mine
theorem lift_sub {l l' : List (Addr × Obj)} {p : Addr × Obj} (h : ∀ p ∈ l, p ∈ l') (hp : p ∈ l) : p ∈ l' := h p hp
theorem foldG {G : Prop} (k : let g := G; g) : G := k
theorem hideM {h₀ h : Heap} {L : Addr} {m : Str → Option Value} {G : Prop} (F : Fr h₀ L h m) (k : let m' := m; Fr h₀ L h m' → G) : G := k F
open_top hd for PySem.Challenge.rw_qd0123_01
local macro_rules | `(tactic| walk_at $s:str) => `(tactic| k_extra $s)
local macro_rules | `(tactic| k_room) => `(tactic| k_extra "room")
local macro_rules | `(tactic| k_enter) => `(tactic| k_extra "enter")
local macro_rules | `(tactic| ktr_rel) => `(tactic| k_extra "rel")
local macro_rules | `(tactic| k_mem) => `(tactic| k_extra "rel")
local macro_rules | `(tactic| k_all) => `(tactic| k_extra "all")
local macro_rules | `(tactic| k_ne) => `(tactic| k_extra "ne")
theorem fresh01 : True := by
  w_top off
  k_with_none
  k_with "enter K" => (first | assumption | exact rfl)
  k_with "enter binds" => (first | exact BindsTo.of_eq rfl | exact binds_K (by k_in) rfl (by k_is) rfl rfl rfl | fail "k_enter: no rule for these arguments")
  k_with "room" => (first | ((try simp only [depth_under_make, depth_under_kw, depth_in1, depth_deeper, depth_caller]); (try dsimp only [ktrTop]); lia) | ((try simp only [depth_under_make, depth_under_kw, depth_in1, depth_deeper, depth_caller]); decide))
  k_with "enter" => (refine' code_defC (by k_asm) (by k_asm) (by k_asm) (by k_asm) (by k_asm) (by exact rfl) (by exact rfl) (by walk_at "enter K") (by k_is) (by k_is) (by k_room) (by walk_at "enter binds") (by exact rfl) (by decide +kernel) ?_ (by exact rfl) (by exact rfl) (by exact rfl); k_whole; intro _ _ _ _ _ _ _; intro N' Y' B'; (try k_lift B'); revert B'; intro _ _ _; intro l1; (try k_lt l1); revert l1; intro _; k_cells Y'; (try simp only [List.cons_append, List.nil_append] at N'); revert N'; intro _; (try dsimp only); (try k_fold))
  k_with "enter" => (refine' code_def (by k_asm) (by k_asm) (by k_asm) (by k_asm) (by k_asm) (by exact rfl) (by exact rfl) (by walk_at "enter K") (by k_is) (by k_is) (by k_room) (by walk_at "enter binds") (by exact locs rfl) ?_ (by exact rfl) (by exact rfl) (by exact rfl) ?_; rotate_left; decide; k_whole; intro _ _ _ _ _ _; intro B'; (try k_lift B'); revert B'; intro _ _ _; (try dsimp only); (try k_fold))
  k_with "binaryOp Pow int int" => (with_reducible refine pow_int_small ?_ ?_ ?_ ?_; (first | decide | lia); (first | decide | lia); decide)
  k_with "rel" => (first | exact List.Mem.head _ | (refine' List.mem_cons_of_mem _ ?_; ktr_rel) | ktr_member | (refine' List.mem_append_right _ ?_; ktr_rel) | (refine' lift_sub (by assumption) ?_; ktr_rel))
  k_with "ite" => (k_dflt (first | refine ite_pos (by (simp only [beq_iff_eq, bne_iff_ne, decide_eq_true_eq, ne_eq]); lia) ?_ | refine ite_neg (by (simp only [beq_iff_eq, bne_iff_ne, decide_eq_true_eq, ne_eq]); lia) ?_))
  k_with "eval Call" => (k_fold)
  k_with "eval BinOp" => (k_fold)
  k_with "eval Compare" => (k_fold)
  k_with "eval Tuple" => (k_fold)
  k_with "eval List" => (k_fold)
  k_with "eval Subscript" => (k_fold)
  k_with "exec Expr" => (k_fold)
  k_with "exec If" => (k_fold)
  k_with "exec Return" => (k_fold)
  k_with "eval Call Attribute" => (k_fold)
  k_with "exec While BoolOp" => ((k_here; k_dflt (refine whl_start 3 ?_)))
  trivial
/-- a Decimal's fields, x over 10 to the p, are t tenths, in the normal form -/
abbrev NF (x p t : Int) : Prop := (p = 0 ∧ t = 10 * x) ∨ (p = 1 ∧ t = x ∧ x % 10 ≠ 0)
noncomputable def dv (x p : Int) : Int := if p = 0 then 10 * x else x
noncomputable abbrev decD (P : PySem.Params) (k1 k2 : Tok) (x : Int) (tx : Tok) (p : Int) (tp : Tok) : Obj :=
  dictOf [{ hash := PyData.keyHash P (Str.ofString "top"), key := Value.str (Str.ofString "top") k1, val := Value.int x tx }, { hash := PyData.keyHash P (Str.ofString "places"), key := Value.str (Str.ofString "places") k2, val := Value.int p tp }] 2
def DecO (P : PySem.Params) (o : Obj) (t : Int) : Prop := ∃ k1 k2 x tx p tp, o = decD P k1 k2 x tx p tp ∧ NF x p t
def Dec (P : PySem.Params) (news : List (Addr × Obj)) (r : Addr) (t : Int) : Prop := ∃ d o, (r, instObj 155 d) ∈ news ∧ (d, o) ∈ news ∧ DecO P o t
theorem Dec.sub {P : PySem.Params} {news news' : List (Addr × Obj)} {r : Addr} {t : Int} (h : Dec P news r t) (hs : ∀ p ∈ news, p ∈ news') : Dec P news' r t := by
  obtain ⟨d, o, h1, h2, h3⟩ := h
  exact ⟨d, o, hs _ h1, hs _ h2, h3⟩
theorem NF.as {x p t t' : Int} (h : NF x p t) (e : t = t') : NF x p t' := e ▸ h
theorem NF.dec {P : PySem.Params} {k1 k2 tx tp : Tok} {x p t : Int} (h : NF x p t) : DecO P (decD P k1 k2 x tx p tp) t := ⟨_, _, _, _, _, _, rfl, h⟩
theorem NF.whole {x' p' x : Int} (h : NF x' p' (dv x 0)) : x' = x ∧ p' = 0 := by
  have e : dv x 0 = 10 * x := if_pos rfl
  rw [e] at h
  rcases h with ⟨rfl, h⟩ | ⟨rfl, h, h'⟩ <;> lia
theorem decO_whole {P : PySem.Params} {k1 k2 tx tp : Tok} {x : Int} : DecO P (decD P k1 k2 x tx 0 tp) (10 * x) := ⟨k1, k2, x, tx, 0, tp, rfl, .inl ⟨rfl, rfl⟩⟩
theorem fm2 (t : Int) : t.fmod 2 = t % 2 := Int.fmod_eq_emod_of_nonneg t (by decide)
theorem fm10 (t : Int) : t.fmod 10 = t % 10 := Int.fmod_eq_emod_of_nonneg t (by decide)
theorem fd10 (t : Int) : t.fdiv 10 = t / 10 := Int.fdiv_eq_ediv_of_nonneg t (by decide)
abbrev TheTop (mean : ExcName → Option Value) (mg mb : Str → Option Value) (h : Heap) : Prop := Top hd.view_39 (looseW hd.view_39 [Str.ofString "PaperError"]) mean mg mb h

section
variable {w : World} {mean : ExcName → Option Value} {mg mb : Str → Option Value} {dp un : Nat} {gd : Option (List Code)} {cn : Str} {cs : Scope} {a : Addr} {ccd : Value} {cl : List (Str × Addr)} {outer : List Env} {A₀ : Around} {base h₀ : Heap} {L : Addr} {m : Str → Option Value} {news : List (Addr × Obj)} {s : Shared} {Q E : Value → Shared → Prop}
section
theorem mk_ok {x p : Int} {tx tp : Tok} (B : Below A₀ base outer h₀) (F : Fr h₀ L s.heap m) (X : (hd.heap_39 w.params).In h₀) (N : News h₀ L s.heap news) (T : TheTop mean mg mb h₀) (hkf : cs.kind = .function) (hdp : dp + 4 < recursionLimit)
  (hp : p = 0 ∨ p = 1)
  (ret : ∀ r d k1 k2 xz tz pz uz h' tk', Fr h₀ L h' m → News h₀ L h' ((r, instObj 155 d) :: (d, decD w.params k1 k2 xz tz pz uz) :: news) → NF xz pz (dv x p) → (∀ q ∈ news, q.1 < d) → d < r → Q (.ref r) { s with heap := h', toks := tk' }) :
  wpAny (model PySem.Challenge.rw_qd0123_01.row.prog w) (ktrTop dp un gd cn cs L a ccd cl outer) (call (.ref 155) [.int x tx, .int p tp]) Q E s := by
  revert X
  k_fill
  intro X
  rcases hp with rfl | rfl
  · k_steps
    exact ret _ _ _ _ _ _ _ _ _ _ (by assumption) (by assumption) (.inl ⟨rfl, rfl⟩) (by assumption) (by assumption)
  · k_steps
    · rename x.fmod 10 = 0 => hz
      rw [fm10] at hz
      refine ret _ _ _ _ _ _ _ _ _ _ (by assumption) (by assumption) (.inl ⟨rfl, ?_⟩) (by assumption) (by assumption)
      rw [fd10]
      show (if (1 : Int) = 0 then _ else x) = _
      rw [if_neg (by decide)]
      lia
    · rename x.fmod 10 ≠ 0 => hz
      rw [fm10] at hz
      exact ret _ _ _ _ _ _ _ _ _ _ (by assumption) (by assumption) (.inr ⟨rfl, rfl, hz⟩) (by assumption) (by assumption)
end
end
theorem fresh02 : True := by
  w_top off
  k_with_none
  k_with "enter K" => (first | assumption | exact rfl)
  k_with "enter binds" => (first | exact BindsTo.of_eq rfl | exact binds_K (by k_in) rfl (by k_is) rfl rfl rfl | fail "k_enter: no rule for these arguments")
  k_with "room" => (first | ((try simp only [depth_under_make, depth_under_kw, depth_in1, depth_deeper, depth_caller]); (try dsimp only [ktrTop]); lia) | ((try simp only [depth_under_make, depth_under_kw, depth_in1, depth_deeper, depth_caller]); decide))
  k_with "enter" => (refine' code_defC (by k_asm) (by k_asm) (by k_asm) (by k_asm) (by k_asm) (by exact rfl) (by exact rfl) (by walk_at "enter K") (by k_is) (by k_is) (by k_room) (by walk_at "enter binds") (by exact rfl) (by decide +kernel) ?_ (by exact rfl) (by exact rfl) (by exact rfl); k_whole; intro _ _ _ _ _ _ _; intro N' Y' B'; (try k_lift B'); revert B'; intro _ _ _; intro l1; (try k_lt l1); revert l1; intro _; k_cells Y'; (try simp only [List.cons_append, List.nil_append] at N'); revert N'; intro _; (try dsimp only); (try k_fold))
  k_with "enter" => (refine' code_def (by k_asm) (by k_asm) (by k_asm) (by k_asm) (by k_asm) (by exact rfl) (by exact rfl) (by walk_at "enter K") (by k_is) (by k_is) (by k_room) (by walk_at "enter binds") (by exact locs rfl) ?_ (by exact rfl) (by exact rfl) (by exact rfl) ?_; rotate_left; decide; k_whole; intro _ _ _ _ _ _; intro B'; (try k_lift B'); revert B'; intro _ _ _; (try dsimp only); (try k_fold))
  k_with "binaryOp Pow int int" => (with_reducible refine pow_int_small ?_ ?_ ?_ ?_; (first | decide | lia); (first | decide | lia); decide)
  k_with "rel" => (first | exact List.Mem.head _ | (refine' List.mem_cons_of_mem _ ?_; ktr_rel) | ktr_member | (refine' List.mem_append_right _ ?_; ktr_rel) | (refine' lift_sub (by assumption) ?_; ktr_rel))
  k_with "ite" => (k_dflt (first | refine ite_pos (by (simp only [beq_iff_eq, bne_iff_ne, decide_eq_true_eq, ne_eq]); lia) ?_ | refine ite_neg (by (simp only [beq_iff_eq, bne_iff_ne, decide_eq_true_eq, ne_eq]); lia) ?_))
  k_with "exec Assign" => (k_fold)
  k_with "eval BinOp" => (k_fold)
  k_with "isTrue BoolOp" => (k_fold)
  k_with "isTrue Compare" => (k_fold)
  k_with "eval Compare" => (k_fold)
  k_with "eval Tuple" => (k_fold)
  k_with "eval List" => (k_fold)
  k_with "eval Subscript" => (k_fold)
  k_with "exec Expr" => (k_fold)
  k_with "exec Return" => (k_fold)
  k_with "eval Call Attribute" => (k_fold)
  k_with "do K" => (first | assumption | exact rfl)
  k_with "do tails" => (exact fun q hq => by repeat' (first | exact hq | refine List.mem_cons_of_mem _ ?_ | refine List.mem_append_right _ ?_ | refine lift_sub (by assumption) ?_))
  k_with "do dec" => (first | assumption | exact Dec.sub (by assumption) (fun q hq => by repeat' (first | exact hq | refine List.mem_cons_of_mem _ ?_ | refine List.mem_append_right _ ?_ | refine lift_sub (by assumption) ?_)) | exact ⟨_, _, by k_mem, by k_mem, by assumption⟩ | exact ⟨_, _, by k_mem, by k_mem, ⟨_, _, _, _, _, _, rfl, by assumption⟩⟩ | exact ⟨_, _, by k_mem, by k_mem, decO_whole⟩)
  k_with "do newdec" => (intro _ _ _ _ _ _ _ _ _ _ _ _ _ _; intro l2; (try k_lt2 l2); revert l2; intro _; (try k_sweep))
  k_with "do gotdec" => (intro _ _ _ _ _ _ _ _ _ _ _ _ _ _ _ _ _; (try k_sweep))
  k_with "do mod" => (k_dflt (refine mod_int' (by lia) ?_))
  k_with "do newlist" => (k_here; k_dflt (refine' newList_K (by k_asm) (by k_asm) ?_; k_whole; intro _ _ _ _ _; (try k_sweep)))
  k_with "do for" => (k_here; (with_unfolding_all refine' For_invVF ‹Fr _ _ _ _› (by exact rfl) (by exact rfl) ?_; k_whole))
  k_with "call ref cons nil" => (k_here; (with_reducible show wpAny _ _ (call (Value.ref 155) [Value.int _ _, Value.int _ _]) _ _ _); k_dflt (refine' mk_ok (by k_asm) (by k_asm) (by k_asm) (by k_asm) (by k_asm) (by walk_at "do K") (by k_room) (by first | exact Or.inl rfl | exact Or.inr rfl | assumption | lia) ?_; k_whole; walk_at "do newdec"))
  trivial
def Num (P : PySem.Params) (news : List (Addr × Obj)) (v : Value) (t : Int) : Prop := (∃ r : Addr, v = Value.ref r ∧ Dec P news r t) ∨ ∃ (x : Int) (tk : Tok), v = Value.int x tk ∧ t = 10 * x
theorem Num.sub {P : PySem.Params} {news news' : List (Addr × Obj)} {v : Value} {t : Int} (h : Num P news v t) (hs : ∀ p ∈ news, p ∈ news') : Num P news' v t := by
  rcases h with ⟨r, e, hd⟩ | h
  · exact .inl ⟨r, e, hd.sub hs⟩
  · exact .inr h
section
variable {w : World} {mean : ExcName → Option Value} {mg mb : Str → Option Value} {dp un : Nat} {gd : Option (List Code)} {cn : Str} {cs : Scope} {a : Addr} {ccd : Value} {cl : List (Str × Addr)} {outer : List Env} {A₀ : Around} {base h₀ : Heap} {L : Addr} {m : Str → Option Value} {news : List (Addr × Obj)} {s : Shared} {Q E : Value → Shared → Prop}
theorem dof_int {x : Int} {tx : Tok} (B : Below A₀ base outer h₀) (F : Fr h₀ L s.heap m) (X : (hd.heap_39 w.params).In h₀) (N : News h₀ L s.heap news) (T : TheTop mean mg mb h₀) (hkf : cs.kind = .function) (hdp : dp + 6 < recursionLimit)
  (ret : ∀ r d k1 k2 tx' tp' h' tk', Fr h₀ L h' m → News h₀ L h' ((r, instObj 155 d) :: (d, decD w.params k1 k2 x tx' 0 tp') :: news) → (∀ q ∈ news, q.1 < d) → d < r → Q (.ref r) { s with heap := h', toks := tk' }) :
  wpAny (model PySem.Challenge.rw_qd0123_01.row.prog w) (ktrTop dp un gd cn cs L a ccd cl outer) (call (.ref 173) [.int x tx]) Q E s := by
  revert X
  k_fill
  intro X
  refine wpAny_call ?_
  k_dflt k_enter
  k_steps
  rename NF _ _ _ => hN
  obtain ⟨rfl, rfl⟩ := hN.whole
  exact ret _ _ _ _ _ _ _ _ (by assumption) (by assumption) (by assumption) (by assumption)
theorem dof_dec {t : Int} {r : Addr} (B : Below A₀ base outer h₀) (F : Fr h₀ L s.heap m) (X : (hd.heap_39 w.params).In h₀) (N : News h₀ L s.heap news) (T : TheTop mean mg mb h₀) (hkf : cs.kind = .function) (hdp : dp + 6 < recursionLimit) (hv : Dec w.params news r t)
  (ret : ∀ h' tk', Fr h₀ L h' m → News h₀ L h' news → Q (.ref r) { s with heap := h', toks := tk' }) :
  wpAny (model PySem.Challenge.rw_qd0123_01.row.prog w) (ktrTop dp un gd cn cs L a ccd cl outer) (call (.ref 173) [.ref r]) Q E s := by
  revert X
  k_fill
  intro X
  obtain ⟨d, o, hr, hd, hO⟩ := hv
  refine wpAny_call ?_
  k_dflt k_enter
  k_steps
  exact ret _ _ (by assumption) (by assumption)
theorem dof_num {v : Value} {t : Int} {bs : List (Addr × Obj)} (B : Below A₀ base outer h₀) (F : Fr h₀ L s.heap m) (X : (hd.heap_39 w.params).In h₀) (N : News h₀ L s.heap news) (T : TheTop mean mg mb h₀) (hkf : cs.kind = .function) (hdp : dp + 6 < recursionLimit) (hv : Num w.params bs v t) (hb : ∀ p ∈ bs, p ∈ news)
  (ret : ∀ r ext h' tk', Fr h₀ L h' m → News h₀ L h' (ext ++ news) → (∀ q ∈ news, ∀ p ∈ ext, q.1 < p.1) → Dec w.params (ext ++ bs) r t → Dec w.params (ext ++ news) r t → ∀ d, (r, instObj 155 d) ∈ ext ++ news → ∀ k1 k2 x tx p tp, NF x p t → (d, decD w.params k1 k2 x tx p tp) ∈ ext ++ news → Q (.ref r) { s with heap := h', toks := tk' }) :
  wpAny (model PySem.Challenge.rw_qd0123_01.row.prog w) (ktrTop dp un gd cn cs L a ccd cl outer) (call (.ref 173) [v]) Q E s := by
  rcases hv with ⟨r, rfl, hd⟩ | ⟨x, tk, rfl, rfl⟩
  · obtain ⟨d, o, hr1, hd1, k1, k2, x, tx, p, tp, rfl, nf⟩ := id hd
    exact dof_dec B F X N T hkf hdp (hd.sub hb) fun h' tk' F' N' => ret r [] h' tk' F' N' (fun _ _ _ h => nomatch h) hd (hd.sub hb) d (hb _ hr1) k1 k2 x tx p tp nf (hb _ hd1)
  · refine dof_int B F X N T hkf hdp fun r d k1 k2 tx' tp' h' tk' F' N' l1 l2 => ret r [_, _] h' tk' F' N' (fun q hq p hp => ?_) ⟨_, _, .head _, .tail _ (.head _), decO_whole⟩ ⟨_, _, .head _, .tail _ (.head _), decO_whole⟩ d (.head _) _ _ _ _ _ _ (.inl ⟨rfl, rfl⟩) (.tail _ (.head _))
    have h1 : q.1 < d := l1 q hq
    rcases List.mem_cons.mp hp with rfl | hp
    · exact Nat.lt_trans h1 l2
    · rw [List.mem_singleton.mp hp]; exact h1
end
theorem fresh03 : True := by
  w_top off
  k_with_none
  k_with "enter K" => (first | assumption | exact rfl)
  k_with "enter binds" => (first | exact BindsTo.of_eq rfl | exact binds_K (by k_in) rfl (by k_is) rfl rfl rfl | fail "k_enter: no rule for these arguments")
  k_with "room" => (first | ((try simp only [depth_under_make, depth_under_kw, depth_in1, depth_deeper, depth_caller]); (try dsimp only [ktrTop]); lia) | ((try simp only [depth_under_make, depth_under_kw, depth_in1, depth_deeper, depth_caller]); decide))
  k_with "enter" => (refine' code_defC (by k_asm) (by k_asm) (by k_asm) (by k_asm) (by k_asm) (by exact rfl) (by exact rfl) (by walk_at "enter K") (by k_is) (by k_is) (by k_room) (by walk_at "enter binds") (by exact rfl) (by decide +kernel) ?_ (by exact rfl) (by exact rfl) (by exact rfl); k_whole; intro _ _ _ _ _ _ _; intro N' Y' B'; (try k_lift B'); revert B'; intro _ _ _; intro l1; (try k_lt l1); revert l1; intro _; k_cells Y'; (try simp only [List.cons_append, List.nil_append] at N'); revert N'; intro _; (try dsimp only); (try k_fold))
  k_with "enter" => (refine' code_def (by k_asm) (by k_asm) (by k_asm) (by k_asm) (by k_asm) (by exact rfl) (by exact rfl) (by walk_at "enter K") (by k_is) (by k_is) (by k_room) (by walk_at "enter binds") (by exact locs rfl) ?_ (by exact rfl) (by exact rfl) (by exact rfl) ?_; rotate_left; decide; k_whole; intro _ _ _ _ _ _; intro B'; (try k_lift B'); revert B'; intro _ _ _; (try dsimp only); (try k_fold))
  k_with "binaryOp Pow int int" => (with_reducible refine pow_int_small ?_ ?_ ?_ ?_; (first | decide | lia); (first | decide | lia); decide)
  k_with "rel" => (first | exact List.Mem.head _ | (refine' List.mem_cons_of_mem _ ?_; ktr_rel) | ktr_member | (refine' List.mem_append_right _ ?_; ktr_rel) | (refine' lift_sub (by assumption) ?_; ktr_rel))
  k_with "ite" => (k_dflt (first | refine ite_pos (by (simp only [beq_iff_eq, bne_iff_ne, decide_eq_true_eq, ne_eq]); lia) ?_ | refine ite_neg (by (simp only [beq_iff_eq, bne_iff_ne, decide_eq_true_eq, ne_eq]); lia) ?_))
  k_with "eval Call" => (k_fold)
  k_with "exec Assign" => (k_fold)
  k_with "eval BinOp" => (k_fold)
  k_with "isTrue BoolOp" => (k_fold)
  k_with "isTrue Compare" => (k_fold)
  k_with "eval Compare" => (k_fold)
  k_with "eval Tuple" => (k_fold)
  k_with "eval List" => (k_fold)
  k_with "eval Subscript" => (k_fold)
  k_with "exec Expr" => (k_fold)
  k_with "exec If" => (k_fold)
  k_with "exec Return" => (k_fold)
  k_with "eval Call Attribute" => (k_fold)
  k_with "do K" => (first | assumption | exact rfl)
  k_with "do tails" => (exact fun q hq => by repeat' (first | exact hq | refine List.mem_cons_of_mem _ ?_ | refine List.mem_append_right _ ?_ | refine lift_sub (by assumption) ?_))
  k_with "do dec" => (first | assumption | exact Dec.sub (by assumption) (fun q hq => by repeat' (first | exact hq | refine List.mem_cons_of_mem _ ?_ | refine List.mem_append_right _ ?_ | refine lift_sub (by assumption) ?_)) | exact ⟨_, _, by k_mem, by k_mem, by assumption⟩ | exact ⟨_, _, by k_mem, by k_mem, ⟨_, _, _, _, _, _, rfl, by assumption⟩⟩ | exact ⟨_, _, by k_mem, by k_mem, decO_whole⟩)
  k_with "do newdec" => (intro _ _ _ _ _ _ _ _ _ _ _ _ _ _; intro l2; (try k_lt2 l2); revert l2; intro _; (try k_sweep))
  k_with "do gotdec" => (intro _ _ _ _ _ _ _ _ _ _ _ _ _ _ _ _ _; (try k_sweep))
  k_with "do mod" => (k_dflt (refine mod_int' (by lia) ?_))
  k_with "do newlist" => (k_here; k_dflt (refine' newList_K (by k_asm) (by k_asm) ?_; k_whole; intro _ _ _ _ _; (try k_sweep)))
  k_with "do for" => (k_here; (with_unfolding_all refine' For_invVF ‹Fr _ _ _ _› (by exact rfl) (by exact rfl) ?_; k_whole))
  k_with "call ref cons nil" => (k_here; (with_reducible show wpAny _ _ (call (Value.ref 155) [Value.int _ _, Value.int _ _]) _ _ _); k_dflt (refine' mk_ok (by k_asm) (by k_asm) (by k_asm) (by k_asm) (by k_asm) (by walk_at "do K") (by k_room) (by first | exact Or.inl rfl | exact Or.inr rfl | assumption | lia) ?_; k_whole; walk_at "do newdec"))
  k_with "do num" => (first | assumption | exact Num.sub (by assumption) (fun q hq => by repeat' (first | exact hq | refine List.mem_cons_of_mem _ ?_ | refine List.mem_append_right _ ?_ | refine lift_sub (by assumption) ?_)) | exact .inl ⟨_, rfl, by walk_at "do dec"⟩ | exact .inr ⟨_, _, rfl, rfl⟩)
  k_with "after dof_num" => (intro _ _ _ _ _ _ _ _ _ _ _ _ _ _ _ _ _ _ _; (try k_sweep))
  k_with "call ref cons nil" => (k_here; (with_reducible show wpAny _ _ (call (Value.ref 173) [_]) _ _ _); k_dflt (refine' dof_num (by k_asm) (by k_asm) (by k_asm) (by k_asm) (by k_asm) (by walk_at "do K") (by k_room) (by walk_at "do num") (by walk_at "do tails") ?_; k_whole; walk_at "after dof_num"))
  k_with "after dof_int" => (intro _ _ _ _ _ _ _ _ _ _ _; intro l2; (try k_lt2 l2); revert l2; intro _; (try k_sweep))
  k_with "call ref cons nil" => (k_here; (with_reducible show wpAny _ _ (call (Value.ref 173) [Value.int _ _]) _ _ _); k_dflt (refine' dof_int (by k_asm) (by k_asm) (by k_asm) (by k_asm) (by k_asm) (by walk_at "do K") (by k_room)  ?_; k_whole; walk_at "after dof_int"))
  k_with "after dof_dec" => (intro _ _ _ _; (try k_sweep))
  k_with "call ref cons nil" => (k_here; (with_reducible show wpAny _ _ (call (Value.ref 173) [Value.ref _]) _ _ _); k_dflt (refine' dof_dec (by k_asm) (by k_asm) (by k_asm) (by k_asm) (by k_asm) (by walk_at "do K") (by k_room) (by walk_at "do dec") ?_; k_whole; walk_at "after dof_dec"))
  k_with "binaryOp Pow int int" => ((k_dflt (refine pow_01 (by first | exact (scale_rng (by assumption) (by assumption) rfl).1 | exact (scale_rng (by assumption) (by assumption) rfl).2) ?_); intro _ _))
  trivial
theorem pow_01 {prog : Program} {w : World} {A : Around} {E : Value → Shared → Prop} {s : Shared} {n : Int} {t u : Tok} {Q : Value → Shared → Prop} (hn : 0 ≤ n ∧ n ≤ 1) (h : ∀ K : Int, (n = 0 ∧ K = 1 ∨ n = 1 ∧ K = 10) → Q (.int K s.toks) { s with toks := s.toks + 1 }) :
    wpAny (model prog w) A (binaryOp .Pow (.int 10 t) (.int n u)) Q E s := by
  refine pow_int_small hn.1 (by lia) (by decide) (h _ ?_)
  rcases (by lia : n = 0 ∨ n = 1) with rfl | rfl
  · exact .inl ⟨rfl, rfl⟩
  · exact .inr ⟨rfl, rfl⟩
theorem scale_fin {x₁ p₁ t₁ x₂ p₂ t₂ K₁ K₂ P : Int} (h1 : NF x₁ p₁ t₁) (h2 : NF x₂ p₂ t₂) (hP : P = if p₂ > p₁ then p₂ else p₁) (k1 : P - p₁ = 0 ∧ K₁ = 1 ∨ P - p₁ = 1 ∧ K₁ = 10) (k2 : P - p₂ = 0 ∧ K₂ = 1 ∨ P - p₂ = 1 ∧ K₂ = 10) :
    P = 0 ∧ t₁ = 10 * (x₁ * K₁) ∧ t₂ = 10 * (x₂ * K₂) ∨ P = 1 ∧ t₁ = x₁ * K₁ ∧ t₂ = x₂ * K₂ := by
  subst hP
  rcases h1 with ⟨rfl, rfl⟩ | ⟨rfl, rfl, _⟩ <;> rcases h2 with ⟨rfl, rfl⟩ | ⟨rfl, rfl, _⟩ <;> rcases k1 with ⟨e1, rfl⟩ | ⟨e1, rfl⟩ <;> rcases k2 with ⟨e2, rfl⟩ | ⟨e2, rfl⟩ <;> simp at e1 e2 ⊢ <;> lia
theorem scale_rng {x₁ p₁ t₁ x₂ p₂ t₂ P : Int} (h1 : NF x₁ p₁ t₁) (h2 : NF x₂ p₂ t₂) (hP : P = if p₂ > p₁ then p₂ else p₁) : (0 ≤ P - p₁ ∧ P - p₁ ≤ 1) ∧ (0 ≤ P - p₂ ∧ P - p₂ ≤ 1) := by
  subst hP
  split <;> lia
section
variable {w : World} {mean : ExcName → Option Value} {mg mb : Str → Option Value} {dp un : Nat} {gd : Option (List Code)} {cn : Str} {cs : Scope} {a : Addr} {ccd : Value} {cl : List (Str × Addr)} {outer : List Env} {A₀ : Around} {base h₀ : Heap} {L : Addr} {m : Str → Option Value} {news : List (Addr × Obj)} {s : Shared} {Q E : Value → Shared → Prop}
theorem scale_n {v₁ v₂ : Value} {t₁ t₂ : Int} (B : Below A₀ base outer h₀) (F : Fr h₀ L s.heap m) (X : (hd.heap_39 w.params).In h₀) (N : News h₀ L s.heap news) (T : TheTop mean mg mb h₀) (hkf : cs.kind = .function) (hdp : dp + 10 < recursionLimit) (hv₁ : Num w.params news v₁ t₁) (hv₂ : Num w.params news v₂ t₂)
  (ret : ∀ r x y p tx ty tp n h' tk', Fr h₀ L h' m → News h₀ L h' ((r, { cls := .type "tuple", data := .seq #[.int x tx, .int y ty, .int p tp] n }) :: news) → (p = 0 ∧ t₁ = 10 * x ∧ t₂ = 10 * y ∨ p = 1 ∧ t₁ = x ∧ t₂ = y) → Q (.ref r) { s with heap := h', toks := tk' }) :
  wpAny (model PySem.Challenge.rw_qd0123_01.row.prog w) (ktrTop dp un gd cn cs L a ccd cl outer) (call (.ref 180) [v₁, v₂]) Q E s := by
  revert X
  k_fill
  intro X
  refine wpAny_call ?_
  k_dflt k_enter
  k_steps
  exact ret _ _ _ _ _ _ _ _ _ _ (by assumption) (cb_drop (by assumption) (List.forall_mem_cons.mpr ⟨by k_mem, fun q hq => by repeat' (first | exact hq | refine List.mem_cons_of_mem _ ?_ | refine List.mem_append_right _ ?_ | refine lift_sub (by assumption) ?_)⟩)) (scale_fin (by assumption) (by assumption) rfl (by assumption) (by assumption))
end
theorem fresh04 : True := by
  w_top off
  k_with_none
  k_with "enter K" => (first | assumption | exact rfl)
  k_with "enter binds" => (first | exact BindsTo.of_eq rfl | exact binds_K (by k_in) rfl (by k_is) rfl rfl rfl | fail "k_enter: no rule for these arguments")
  k_with "room" => (first | ((try simp only [depth_under_make, depth_under_kw, depth_in1, depth_deeper, depth_caller]); (try dsimp only [ktrTop]); lia) | ((try simp only [depth_under_make, depth_under_kw, depth_in1, depth_deeper, depth_caller]); decide))
  k_with "enter" => (refine' code_defC (by k_asm) (by k_asm) (by k_asm) (by k_asm) (by k_asm) (by exact rfl) (by exact rfl) (by walk_at "enter K") (by k_is) (by k_is) (by k_room) (by walk_at "enter binds") (by exact rfl) (by decide +kernel) ?_ (by exact rfl) (by exact rfl) (by exact rfl); k_whole; intro _ _ _ _ _ _ _; intro N' Y' B'; (try k_lift B'); revert B'; intro _ _ _; intro l1; (try k_lt l1); revert l1; intro _; k_cells Y'; (try simp only [List.cons_append, List.nil_append] at N'); revert N'; intro _; (try dsimp only); (try k_fold))
  k_with "enter" => (refine' code_def (by k_asm) (by k_asm) (by k_asm) (by k_asm) (by k_asm) (by exact rfl) (by exact rfl) (by walk_at "enter K") (by k_is) (by k_is) (by k_room) (by walk_at "enter binds") (by exact locs rfl) ?_ (by exact rfl) (by exact rfl) (by exact rfl) ?_; rotate_left; decide; k_whole; intro _ _ _ _ _ _; intro B'; (try k_lift B'); revert B'; intro _ _ _; (try dsimp only); (try k_fold))
  k_with "binaryOp Pow int int" => (with_reducible refine pow_int_small ?_ ?_ ?_ ?_; (first | decide | lia); (first | decide | lia); decide)
  k_with "rel" => (first | exact List.Mem.head _ | (refine' List.mem_cons_of_mem _ ?_; ktr_rel) | ktr_member | (refine' List.mem_append_right _ ?_; ktr_rel) | (refine' lift_sub (by assumption) ?_; ktr_rel))
  k_with "ite" => (k_dflt (first | refine ite_pos (by (simp only [beq_iff_eq, bne_iff_ne, decide_eq_true_eq, ne_eq]); lia) ?_ | refine ite_neg (by (simp only [beq_iff_eq, bne_iff_ne, decide_eq_true_eq, ne_eq]); lia) ?_))
  k_with "eval Call" => (k_fold)
  k_with "exec Assign" => (k_fold)
  k_with "isTrue BoolOp" => (k_fold)
  k_with "eval Compare" => (k_fold)
  k_with "eval List" => (k_fold)
  k_with "eval Subscript" => (k_fold)
  k_with "exec Expr" => (k_fold)
  k_with "exec Return" => (k_fold)
  k_with "eval Call Attribute" => (k_fold)
  k_with "do K" => (first | assumption | exact rfl)
  k_with "do tails" => (exact fun q hq => by repeat' (first | exact hq | refine List.mem_cons_of_mem _ ?_ | refine List.mem_append_right _ ?_ | refine lift_sub (by assumption) ?_))
  k_with "do dec" => (first | assumption | exact Dec.sub (by assumption) (fun q hq => by repeat' (first | exact hq | refine List.mem_cons_of_mem _ ?_ | refine List.mem_append_right _ ?_ | refine lift_sub (by assumption) ?_)) | exact ⟨_, _, by k_mem, by k_mem, by assumption⟩ | exact ⟨_, _, by k_mem, by k_mem, ⟨_, _, _, _, _, _, rfl, by assumption⟩⟩ | exact ⟨_, _, by k_mem, by k_mem, decO_whole⟩)
  k_with "do newdec" => (intro _ _ _ _ _ _ _ _ _ _ _ _ _ _; intro l2; (try k_lt2 l2); revert l2; intro _; (try k_sweep))
  k_with "do gotdec" => (intro _ _ _ _ _ _ _ _ _ _ _ _ _ _ _ _ _; (try k_sweep))
  k_with "do mod" => (k_dflt (refine mod_int' (by lia) ?_))
  k_with "do newlist" => (k_here; k_dflt (refine' newList_K (by k_asm) (by k_asm) ?_; k_whole; intro _ _ _ _ _; (try k_sweep)))
  k_with "do for" => (k_here; (with_unfolding_all refine' For_invVF ‹Fr _ _ _ _› (by exact rfl) (by exact rfl) ?_; k_whole))
  k_with "call ref cons nil" => (k_here; (with_reducible show wpAny _ _ (call (Value.ref 155) [Value.int _ _, Value.int _ _]) _ _ _); k_dflt (refine' mk_ok (by k_asm) (by k_asm) (by k_asm) (by k_asm) (by k_asm) (by walk_at "do K") (by k_room) (by first | exact Or.inl rfl | exact Or.inr rfl | assumption | lia) ?_; k_whole; walk_at "do newdec"))
  k_with "do num" => (first | assumption | exact Num.sub (by assumption) (fun q hq => by repeat' (first | exact hq | refine List.mem_cons_of_mem _ ?_ | refine List.mem_append_right _ ?_ | refine lift_sub (by assumption) ?_)) | exact .inl ⟨_, rfl, by walk_at "do dec"⟩ | exact .inr ⟨_, _, rfl, rfl⟩)
  k_with "after dof_num" => (intro _ _ _ _ _ _ _ _ _ _ _ _ _ _ _ _ _ _ _; (try k_sweep))
  k_with "call ref cons nil" => (k_here; (with_reducible show wpAny _ _ (call (Value.ref 173) [_]) _ _ _); k_dflt (refine' dof_num (by k_asm) (by k_asm) (by k_asm) (by k_asm) (by k_asm) (by walk_at "do K") (by k_room) (by walk_at "do num") (by walk_at "do tails") ?_; k_whole; walk_at "after dof_num"))
  k_with "after dof_int" => (intro _ _ _ _ _ _ _ _ _ _ _; intro l2; (try k_lt2 l2); revert l2; intro _; (try k_sweep))
  k_with "call ref cons nil" => (k_here; (with_reducible show wpAny _ _ (call (Value.ref 173) [Value.int _ _]) _ _ _); k_dflt (refine' dof_int (by k_asm) (by k_asm) (by k_asm) (by k_asm) (by k_asm) (by walk_at "do K") (by k_room)  ?_; k_whole; walk_at "after dof_int"))
  k_with "after dof_dec" => (intro _ _ _ _; (try k_sweep))
  k_with "call ref cons nil" => (k_here; (with_reducible show wpAny _ _ (call (Value.ref 173) [Value.ref _]) _ _ _); k_dflt (refine' dof_dec (by k_asm) (by k_asm) (by k_asm) (by k_asm) (by k_asm) (by walk_at "do K") (by k_room) (by walk_at "do dec") ?_; k_whole; walk_at "after dof_dec"))
  k_with "after scale_n" => (intro _ _ _ _ _ _ _ _ _ _ _ _ _; (try k_sweep))
  k_with "call ref cons nil" => (k_here; (with_reducible show wpAny _ _ (call (Value.ref 180) [_, _]) _ _ _); k_dflt (refine' scale_n (by k_asm) (by k_asm) (by k_asm) (by k_asm) (by k_asm) (by walk_at "do K") (by k_room) (by walk_at "do num") (by walk_at "do num") ?_; k_whole; walk_at "after scale_n"))
  trivial
theorem lt_sub {l news : List (Addr × Obj)} {d : Addr} (h : ∀ q ∈ l, q.1 < d) (hs : ∀ p ∈ news, p ∈ l) : ∀ q ∈ news, q.1 < d := fun q hq => h q (hs q hq)
theorem fdiv_bound {a y : Int} (h0 : 0 ≤ a) (h1 : a < 2 ^ 62) (hy : 0 < y) : 0 ≤ a.fdiv y ∧ a.fdiv y < 2 ^ 62 := by
  rw [Int.fdiv_eq_ediv_of_nonneg _ (by lia)]
  exact ⟨Int.ediv_nonneg h0 (by lia), Int.lt_of_le_of_lt (Int.ediv_le_self _ h0) h1⟩
theorem dv_sum {x y p t u : Int} (h : p = 0 ∧ t = 10 * x ∧ u = 10 * y ∨ p = 1 ∧ t = x ∧ u = y) : dv (x + y) p = t + u := by
  unfold dv; split <;> lia
theorem dv_sub {x y p t u : Int} (h : p = 0 ∧ t = 10 * x ∧ u = 10 * y ∨ p = 1 ∧ t = x ∧ u = y) : dv (x - y) p = t - u := by
  unfold dv; split <;> lia
theorem times_fin {x p t y u q : Int} (h : NF x p t) (h2 : NF u q (10 * y)) : dv (x * u) (p + q) = t * y := by
  have hu : u = y ∧ q = 0 := by rcases h2 with ⟨rfl, h2⟩ | ⟨rfl, rfl, h2⟩ <;> lia
  obtain ⟨rfl, rfl⟩ := hu
  rcases h with ⟨rfl, rfl⟩ | ⟨rfl, rfl, _⟩
  · show (if (0 : Int) + 0 = 0 then _ else _) = _
    rw [if_pos (by decide), Int.mul_assoc]
  · show (if (1 : Int) + 0 = 0 then _ else _) = _
    rw [if_neg (by decide)]
section
variable {w : World} {mean : ExcName → Option Value} {mg mb : Str → Option Value} {dp un : Nat} {gd : Option (List Code)} {cn : Str} {cs : Scope} {a : Addr} {ccd : Value} {cl : List (Str × Addr)} {outer : List Env} {A₀ : Around} {base h₀ : Heap} {L : Addr} {m : Str → Option Value} {news : List (Addr × Obj)} {s : Shared} {Q E : Value → Shared → Prop}
theorem plus_ok {r₁ r₂ : Addr} {t₁ t₂ : Int} (B : Below A₀ base outer h₀) (F : Fr h₀ L s.heap m) (X : (hd.heap_39 w.params).In h₀) (N : News h₀ L s.heap news) (T : TheTop mean mg mb h₀) (hkf : cs.kind = .function) (hdp : dp + 12 < recursionLimit) (hv₁ : Dec w.params news r₁ t₁) (hv₂ : Dec w.params news r₂ t₂)
  (ret : ∀ r d k1 k2 xz tz pz uz h' tk', Fr h₀ L h' m → News h₀ L h' ((r, instObj 155 d) :: (d, decD w.params k1 k2 xz tz pz uz) :: news) → NF xz pz (t₁ + t₂) → (∀ q ∈ news, q.1 < d) → d < r → Q (.ref r) { s with heap := h', toks := tk' }) :
  wpAny (model PySem.Challenge.rw_qd0123_01.row.prog w) (ktrTop dp un gd cn cs L a ccd cl outer) (call (.ref 82) [.ref r₁, .ref r₂]) Q E s := by
  revert X
  k_fill
  intro X
  refine wpAny_call ?_
  k_dflt k_enter
  k_steps
  exact ret _ _ _ _ _ _ _ _ _ _ (by assumption) (cb_drop (by assumption) (List.forall_mem_cons.mpr ⟨by k_mem, List.forall_mem_cons.mpr ⟨by k_mem, fun q hq => by repeat' (first | exact hq | refine List.mem_cons_of_mem _ ?_ | refine List.mem_append_right _ ?_ | refine lift_sub (by assumption) ?_)⟩⟩)) (NF.as (by assumption) (dv_sum (by assumption))) (lt_sub (by assumption) (fun q hq => by repeat' (first | exact hq | refine List.mem_cons_of_mem _ ?_ | refine List.mem_append_right _ ?_ | refine lift_sub (by assumption) ?_))) (by assumption)
theorem minus_n {r₁ : Addr} {t₁ t₂ : Int} {v : Value} (B : Below A₀ base outer h₀) (F : Fr h₀ L s.heap m) (X : (hd.heap_39 w.params).In h₀) (N : News h₀ L s.heap news) (T : TheTop mean mg mb h₀) (hkf : cs.kind = .function) (hdp : dp + 12 < recursionLimit) (hv₁ : Dec w.params news r₁ t₁) (hv₂ : Num w.params news v t₂)
  (ret : ∀ r d k1 k2 xz tz pz uz h' tk', Fr h₀ L h' m → News h₀ L h' ((r, instObj 155 d) :: (d, decD w.params k1 k2 xz tz pz uz) :: news) → NF xz pz (t₁ - t₂) → (∀ q ∈ news, q.1 < d) → d < r → Q (.ref r) { s with heap := h', toks := tk' }) :
  wpAny (model PySem.Challenge.rw_qd0123_01.row.prog w) (ktrTop dp un gd cn cs L a ccd cl outer) (call (.ref 89) [.ref r₁, v]) Q E s := by
  revert X
  k_fill
  intro X
  refine wpAny_call ?_
  k_dflt k_enter
  k_steps
  exact ret _ _ _ _ _ _ _ _ _ _ (by assumption) (cb_drop (by assumption) (List.forall_mem_cons.mpr ⟨by k_mem, List.forall_mem_cons.mpr ⟨by k_mem, fun q hq => by repeat' (first | exact hq | refine List.mem_cons_of_mem _ ?_ | refine List.mem_append_right _ ?_ | refine lift_sub (by assumption) ?_)⟩⟩)) (NF.as (by assumption) (dv_sub (by assumption))) (lt_sub (by assumption) (fun q hq => by repeat' (first | exact hq | refine List.mem_cons_of_mem _ ?_ | refine List.mem_append_right _ ?_ | refine lift_sub (by assumption) ?_))) (by assumption)
theorem times_di {r₁ : Addr} {t₁ y : Int} {ty : Tok} (B : Below A₀ base outer h₀) (F : Fr h₀ L s.heap m) (X : (hd.heap_39 w.params).In h₀) (N : News h₀ L s.heap news) (T : TheTop mean mg mb h₀) (hkf : cs.kind = .function) (hdp : dp + 12 < recursionLimit) (hv₁ : Dec w.params news r₁ t₁) (hb : 0 ≤ y ∧ y < 2 ^ 62)
  (ret : ∀ r d k1 k2 xz tz pz uz h' tk', Fr h₀ L h' m → News h₀ L h' ((r, instObj 155 d) :: (d, decD w.params k1 k2 xz tz pz uz) :: news) → NF xz pz (t₁ * y) → (∀ q ∈ news, q.1 < d) → d < r → Q (.ref r) { s with heap := h', toks := tk' }) :
  wpAny (model PySem.Challenge.rw_qd0123_01.row.prog w) (ktrTop dp un gd cn cs L a ccd cl outer) (call (.ref 96) [.ref r₁, .int y ty]) Q E s := by
  revert X
  k_fill
  intro X
  obtain ⟨d₁, o₁, hr₁, hd₁, k11, k12, x₁, tx₁, p₁, tp₁, rfl, hn₁⟩ := id hv₁
  refine wpAny_call ?_
  k_dflt k_enter
  k_steps
  exact ret _ _ _ _ _ _ _ _ _ _ (by assumption) (cb_drop (by assumption) (List.forall_mem_cons.mpr ⟨by k_mem, List.forall_mem_cons.mpr ⟨by k_mem, fun q hq => by repeat' (first | exact hq | refine List.mem_cons_of_mem _ ?_ | refine List.mem_append_right _ ?_ | refine lift_sub (by assumption) ?_)⟩⟩)) (NF.as (by assumption) (times_fin hn₁ (.inl ⟨rfl, rfl⟩))) (lt_sub (by assumption) (fun q hq => by repeat' (first | exact hq | refine List.mem_cons_of_mem _ ?_ | refine List.mem_append_right _ ?_ | refine lift_sub (by assumption) ?_))) (by assumption)
theorem cmp_dd {r₁ r₂ : Addr} {t₁ t₂ : Int} (B : Below A₀ base outer h₀) (F : Fr h₀ L s.heap m) (X : (hd.heap_39 w.params).In h₀) (N : News h₀ L s.heap news) (T : TheTop mean mg mb h₀) (hkf : cs.kind = .function) (hdp : dp + 12 < recursionLimit) (hv₁ : Dec w.params news r₁ t₁) (hv₂ : Dec w.params news r₂ t₂)
  (ret : ∀ c tc h' tk', Fr h₀ L h' m → News h₀ L h' news → (c = 0 ∧ t₁ = t₂ ∨ c = 1 ∧ t₂ < t₁ ∨ c = -1 ∧ t₁ < t₂) → Q (.int c tc) { s with heap := h', toks := tk' }) :
  wpAny (model PySem.Challenge.rw_qd0123_01.row.prog w) (ktrTop dp un gd cn cs L a ccd cl outer) (call (.ref 110) [.ref r₁, .ref r₂]) Q E s := by
  revert X
  k_fill
  intro X
  refine wpAny_call ?_
  k_dflt k_enter
  k_steps
  all_goals exact ret _ _ _ _ (by assumption) (cb_drop (by assumption) (fun q hq => by repeat' (first | exact hq | refine List.mem_cons_of_mem _ ?_ | refine List.mem_append_right _ ?_ | refine lift_sub (by assumption) ?_))) (by lia)
theorem told_d {r₁ : Addr} {t₁ : Int} (B : Below A₀ base outer h₀) (F : Fr h₀ L s.heap m) (X : (hd.heap_39 w.params).In h₀) (N : News h₀ L s.heap news) (T : TheTop mean mg mb h₀) (hkf : cs.kind = .function) (hdp : dp + 12 < recursionLimit) (hv₁ : Dec w.params news r₁ t₁)
  (ret : ∀ r x p tx tp n h' tk', Fr h₀ L h' m → News h₀ L h' ((r, { cls := .type "tuple", data := .seq #[.int x tx, .int p tp] n }) :: news) → NF x p t₁ → (∀ q ∈ news, q.1 < r) → Q (.ref r) { s with heap := h', toks := tk' }) :
  wpAny (model PySem.Challenge.rw_qd0123_01.row.prog w) (ktrTop dp un gd cn cs L a ccd cl outer) (call (.ref 138) [.ref r₁]) Q E s := by
  revert X
  k_fill
  intro X
  obtain ⟨d₁, o₁, hr₁, hd₁, k11, k12, x₁, tx₁, p₁, tp₁, rfl, hn₁⟩ := id hv₁
  refine wpAny_call ?_
  k_dflt k_enter
  k_steps
  exact ret _ _ _ _ _ _ _ _ (by assumption) (cb_drop (by assumption) (List.forall_mem_cons.mpr ⟨by k_mem, fun q hq => by repeat' (first | exact hq | refine List.mem_cons_of_mem _ ?_ | refine List.mem_append_right _ ?_ | refine lift_sub (by assumption) ?_)⟩)) hn₁ (lt_sub (by assumption) (fun q hq => by repeat' (first | exact hq | refine List.mem_cons_of_mem _ ?_ | refine List.mem_append_right _ ?_ | refine lift_sub (by assumption) ?_)))
end
theorem fresh05 : True := by
  w_top off
  k_with_none
  k_with "enter K" => (first | assumption | exact rfl)
  k_with "enter binds" => (first | exact BindsTo.of_eq rfl | exact binds_K (by k_in) rfl (by k_is) rfl rfl rfl | fail "k_enter: no rule for these arguments")
  k_with "room" => (first | ((try simp only [depth_under_make, depth_under_kw, depth_in1, depth_deeper, depth_caller]); (try dsimp only [ktrTop]); lia) | ((try simp only [depth_under_make, depth_under_kw, depth_in1, depth_deeper, depth_caller]); decide))
  k_with "enter" => (refine' code_defC (by k_asm) (by k_asm) (by k_asm) (by k_asm) (by k_asm) (by exact rfl) (by exact rfl) (by walk_at "enter K") (by k_is) (by k_is) (by k_room) (by walk_at "enter binds") (by exact rfl) (by decide +kernel) ?_ (by exact rfl) (by exact rfl) (by exact rfl); k_whole; intro _ _ _ _ _ _ _; intro N' Y' B'; (try k_lift B'); revert B'; intro _ _ _; intro l1; (try k_lt l1); revert l1; intro _; k_cells Y'; (try simp only [List.cons_append, List.nil_append] at N'); revert N'; intro _; (try dsimp only); (try k_fold))
  k_with "enter" => (refine' code_def (by k_asm) (by k_asm) (by k_asm) (by k_asm) (by k_asm) (by exact rfl) (by exact rfl) (by walk_at "enter K") (by k_is) (by k_is) (by k_room) (by walk_at "enter binds") (by exact locs rfl) ?_ (by exact rfl) (by exact rfl) (by exact rfl) ?_; rotate_left; decide; k_whole; intro _ _ _ _ _ _; intro B'; (try k_lift B'); revert B'; intro _ _ _; (try dsimp only); (try k_fold))
  k_with "binaryOp Pow int int" => (with_reducible refine pow_int_small ?_ ?_ ?_ ?_; (first | decide | lia); (first | decide | lia); decide)
  k_with "rel" => (first | exact List.Mem.head _ | (refine' List.mem_cons_of_mem _ ?_; ktr_rel) | ktr_member | (refine' List.mem_append_right _ ?_; ktr_rel) | (refine' lift_sub (by assumption) ?_; ktr_rel))
  k_with "ite" => (k_dflt (first | refine ite_pos (by (simp only [beq_iff_eq, bne_iff_ne, decide_eq_true_eq, ne_eq]); lia) ?_ | refine ite_neg (by (simp only [beq_iff_eq, bne_iff_ne, decide_eq_true_eq, ne_eq]); lia) ?_))
  k_with "eval Call" => (k_fold)
  k_with "exec Assign" => (k_fold)
  k_with "eval BinOp" => (k_fold)
  k_with "isTrue BoolOp" => (k_fold)
  k_with "isTrue Compare" => (k_fold)
  k_with "eval Compare" => (k_fold)
  k_with "eval Tuple" => (k_fold)
  k_with "eval List" => (k_fold)
  k_with "eval Subscript" => (k_fold)
  k_with "exec Expr" => (k_fold)
  k_with "exec If" => (k_fold)
  k_with "exec Return" => (k_fold)
  k_with "eval Call Attribute" => (k_fold)
  k_with "do K" => (first | assumption | exact rfl)
  k_with "do tails" => (exact fun q hq => by repeat' (first | exact hq | refine List.mem_cons_of_mem _ ?_ | refine List.mem_append_right _ ?_ | refine lift_sub (by assumption) ?_))
  k_with "do dec" => (first | assumption | exact Dec.sub (by assumption) (fun q hq => by repeat' (first | exact hq | refine List.mem_cons_of_mem _ ?_ | refine List.mem_append_right _ ?_ | refine lift_sub (by assumption) ?_)) | exact ⟨_, _, by k_mem, by k_mem, by assumption⟩ | exact ⟨_, _, by k_mem, by k_mem, ⟨_, _, _, _, _, _, rfl, by assumption⟩⟩ | exact ⟨_, _, by k_mem, by k_mem, decO_whole⟩)
  k_with "do newdec" => (intro _ _ _ _ _ _ _ _ _ _ _ _ _ _; intro l2; (try k_lt2 l2); revert l2; intro _; (try k_sweep))
  k_with "do gotdec" => (intro _ _ _ _ _ _ _ _ _ _ _ _ _ _ _ _ _; (try k_sweep))
  k_with "do mod" => (k_dflt (refine mod_int' (by lia) ?_))
  k_with "do newlist" => (k_here; k_dflt (refine' newList_K (by k_asm) (by k_asm) ?_; k_whole; intro _ _ _ _ _; (try k_sweep)))
  k_with "do for" => (k_here; (with_unfolding_all refine' For_invVF ‹Fr _ _ _ _› (by exact rfl) (by exact rfl) ?_; k_whole))
  k_with "call ref cons nil" => (k_here; (with_reducible show wpAny _ _ (call (Value.ref 155) [Value.int _ _, Value.int _ _]) _ _ _); k_dflt (refine' mk_ok (by k_asm) (by k_asm) (by k_asm) (by k_asm) (by k_asm) (by walk_at "do K") (by k_room) (by first | exact Or.inl rfl | exact Or.inr rfl | assumption | lia) ?_; k_whole; walk_at "do newdec"))
  k_with "do num" => (first | assumption | exact Num.sub (by assumption) (fun q hq => by repeat' (first | exact hq | refine List.mem_cons_of_mem _ ?_ | refine List.mem_append_right _ ?_ | refine lift_sub (by assumption) ?_)) | exact .inl ⟨_, rfl, by walk_at "do dec"⟩ | exact .inr ⟨_, _, rfl, rfl⟩)
  k_with "after dof_num" => (intro _ _ _ _ _ _ _ _ _ _ _ _ _ _ _ _ _ _ _; (try k_sweep))
  k_with "call ref cons nil" => (k_here; (with_reducible show wpAny _ _ (call (Value.ref 173) [_]) _ _ _); k_dflt (refine' dof_num (by k_asm) (by k_asm) (by k_asm) (by k_asm) (by k_asm) (by walk_at "do K") (by k_room) (by walk_at "do num") (by walk_at "do tails") ?_; k_whole; walk_at "after dof_num"))
  k_with "after dof_int" => (intro _ _ _ _ _ _ _ _ _ _ _; intro l2; (try k_lt2 l2); revert l2; intro _; (try k_sweep))
  k_with "call ref cons nil" => (k_here; (with_reducible show wpAny _ _ (call (Value.ref 173) [Value.int _ _]) _ _ _); k_dflt (refine' dof_int (by k_asm) (by k_asm) (by k_asm) (by k_asm) (by k_asm) (by walk_at "do K") (by k_room)  ?_; k_whole; walk_at "after dof_int"))
  k_with "after dof_dec" => (intro _ _ _ _; (try k_sweep))
  k_with "call ref cons nil" => (k_here; (with_reducible show wpAny _ _ (call (Value.ref 173) [Value.ref _]) _ _ _); k_dflt (refine' dof_dec (by k_asm) (by k_asm) (by k_asm) (by k_asm) (by k_asm) (by walk_at "do K") (by k_room) (by walk_at "do dec") ?_; k_whole; walk_at "after dof_dec"))
  k_with "after scale_n" => (intro _ _ _ _ _ _ _ _ _ _ _ _ _; (try k_sweep))
  k_with "call ref cons nil" => (k_here; (with_reducible show wpAny _ _ (call (Value.ref 180) [_, _]) _ _ _); k_dflt (refine' scale_n (by k_asm) (by k_asm) (by k_asm) (by k_asm) (by k_asm) (by walk_at "do K") (by k_room) (by walk_at "do num") (by walk_at "do num") ?_; k_whole; walk_at "after scale_n"))
  k_with "call ref cons nil" => (k_here; (with_reducible show wpAny _ _ (call (Value.ref 82) [Value.ref _, Value.ref _]) _ _ _); k_dflt (refine' plus_ok (by k_asm) (by k_asm) (by k_asm) (by k_asm) (by k_asm) (by walk_at "do K") (by k_room) (by walk_at "do dec") (by walk_at "do dec") ?_; k_whole; walk_at "do newdec"))
  k_with "call ref cons nil" => (k_here; (with_reducible show wpAny _ _ (call (Value.ref 89) [Value.ref _, _]) _ _ _); k_dflt (refine' minus_n (by k_asm) (by k_asm) (by k_asm) (by k_asm) (by k_asm) (by walk_at "do K") (by k_room) (by walk_at "do dec") (by walk_at "do num") ?_; k_whole; walk_at "do newdec"))
  k_with "call ref cons nil" => (k_here; (with_reducible show wpAny _ _ (call (Value.ref 96) [Value.ref _, Value.int _ _]) _ _ _); k_dflt (refine' times_di (by k_asm) (by k_asm) (by k_asm) (by k_asm) (by k_asm) (by walk_at "do K") (by k_room) (by walk_at "do dec") (by first | assumption | lia | (simp only [fm2]; lia) | exact fdiv_bound (by lia) (by lia) (by lia)) ?_; k_whole; walk_at "do newdec"))
  k_with "after cmp_dd" => (intro _ _ _ _ _ _ _; (try k_sweep))
  k_with "call ref cons nil" => (k_here; (with_reducible show wpAny _ _ (call (Value.ref 110) [Value.ref _, Value.ref _]) _ _ _); k_dflt (refine' cmp_dd (by k_asm) (by k_asm) (by k_asm) (by k_asm) (by k_asm) (by walk_at "do K") (by k_room) (by walk_at "do dec") (by walk_at "do dec") ?_; k_whole; walk_at "after cmp_dd"))
  k_with "after told_d" => (intro _ _ _ _ _ _ _ _ _ _ _ _; (try k_sweep))
  k_with "call ref cons nil" => (k_here; (with_reducible show wpAny _ _ (call (Value.ref 138) [Value.ref _]) _ _ _); k_dflt (refine' told_d (by k_asm) (by k_asm) (by k_asm) (by k_asm) (by k_asm) (by walk_at "do K") (by k_room) (by walk_at "do dec") ?_; k_whole; walk_at "after told_d"))
  trivial
section
variable {prog : Program} {w : World} {A : Around} {E : Value → Shared → Prop} {s : Shared} {env : Env} {h₀ : Heap} {x : Str} {body : List Stmt} {Q : Flow → Shared → Prop}
/-- a turn's end: the ledger without the iterator -/
def TurnEnd (h₀ : Heap) (L I : Addr) (oI : Obj) (J : (Str → Option Value) → List (Addr × Obj) → Prop) (s₁ s₂ : Shared) : Prop :=
  ∃ h' tk m' news', s₂ = { s₁ with heap := h', toks := tk } ∧ Fr h₀ L h' m' ∧ News h₀ L h' ((I, oI) :: news') ∧ (∀ p ∈ news', p.1 ≠ I) ∧ J m' news'
def TurnPost (h₀ : Heap) (L I : Addr) (oI : Obj) (J : (Str → Option Value) → List (Addr × Obj) → Prop) (s₁ : Shared) (Q : Flow → Shared → Prop) (f : Flow) (s₂ : Shared) : Prop :=
  match f with
  | .ret v => Q (.ret v) s₂
  | .brk => Q .next s₂
  | _ => TurnEnd h₀ L I oI J s₁ s₂
theorem turn_in {h₀ h : Heap} {L I : Addr} {oI : Obj} {own news : List (Addr × Obj)} (hm : (I, oI) ∈ own) (N : News h₀ L h (own ++ news)) : News h₀ L h ((I, oI) :: news) := fun p hp => by
  rcases List.mem_cons.mp hp with rfl | hp
  · exact N _ (List.mem_append_left _ hm)
  · exact N _ (List.mem_append_right _ hp)
theorem turn_fin {h₀ : Heap} {L I : Addr} {oI : Obj} {own : List (Addr × Obj)} {J : (Str → Option Value) → List (Addr × Obj) → Prop} {s₁ s₂ : Shared} (keep : ∀ p ∈ own, p = (I, oI) ∨ ∀ m nw, J m nw → p ∈ nw) (h : TurnEnd h₀ L I oI J s₁ s₂) : LoopStepU h₀ L [I] own J s₁ .next s₂ := by
  obtain ⟨h', tk, m', news', e, F', N', ho, r⟩ := h
  refine ⟨rfl, h', tk, m', news', e, F', fun p hp => ?_, fun p hp hI => ho p hp (List.mem_singleton.mp hI), r⟩
  rcases List.mem_append.mp hp with hp | hp
  · rcases keep p hp with rfl | k
    · exact N' _ (List.mem_cons_self ..)
    · exact N' _ (List.mem_cons_of_mem _ (k _ _ r))
  · exact N' _ (List.mem_cons_of_mem _ hp)
theorem own_two {h : Heap} {I l : Addr} {oI o : Obj} {own : List (Addr × Obj)} {J : (Str → Option Value) → List (Addr × Obj) → Prop} (hown : ∀ p ∈ own, p.1 ∈ [I, l]) (hget : ∀ p ∈ own, h.get? p.1 = some p.2) (hoI : h.get? I = some oI) (hl : h.get? l = some o) (hJ : ∀ m nw, J m nw → (l, o) ∈ nw) : ∀ p ∈ own, p = (I, oI) ∨ ∀ m nw, J m nw → p ∈ nw := by
  intro p hp
  have h2 := hget p hp
  rcases List.mem_cons.mp (hown p hp) with h1 | h1
  · rw [h1, hoI] at h2
    exact .inl (Prod.ext h1 (Option.some.inj h2).symm)
  · have h1' := List.mem_singleton.mp h1
    rw [h1', hl] at h2
    have h3 : p = (l, o) := Prod.ext h1' (Option.some.inj h2).symm
    exact .inr fun m nw h => h3 ▸ hJ m nw h
theorem iter_led {l : Addr} {items : Array Value} {c : Nat} {m₀ : Str → Option Value} {news : List (Addr × Obj)} (J : Nat → (Str → Option Value) → List (Addr × Obj) → Prop)
    (hh : A.handled = none) (F : Fr h₀ env.locals s.heap m₀) (N : News h₀ env.locals s.heap news)
    (hJl : ∀ i m nw, J i m nw → (l, ({ cls := .type "list", data := .seq items c } : Obj)) ∈ nw) (hj : J 0 m₀ news)
    (turn : ∀ i v m₁ news₁ I oI h tk, items[i]? = some v → J i m₁ news₁ → (∀ p ∈ news₁, p.1 ≠ I) → oI.cls = .type "list_iterator" → Fr h₀ env.locals h (fun y => if y = x then some v else m₁ y) → News h₀ env.locals h ((I, oI) :: news₁) →
      wpAny (model prog w) A (execs body env) (TurnPost h₀ env.locals I oI (J (i + 1)) { s with heap := h, toks := tk } Q) E { s with heap := h, toks := tk })
    (done : ∀ m₁ news₁ h tk, J items.size m₁ news₁ → Fr h₀ env.locals h m₁ → News h₀ env.locals h news₁ → Q .next { s with heap := h, toks := tk }) :
    wpAny (model prog w) A (pyIter (.ref l)) (fun it s₂ => LoopAtV prog w A h₀ env x body Q E it s₂) E s := by
  have hm := hJl _ _ _ hj
  have hls : s.heap.IsList l items := ⟨_, (N _ hm).1, rfl, _, rfl⟩
  have hlt : l < s.heap.objs.size := Heap.lt_size (N _ hm).1
  have hne : l ≠ s.heap.objs.size := Nat.ne_of_lt hlt
  refine wpAny_pyIter_list hls ?_
  have W := Walks.list (prog := prog) (w := w) hh s.heap.objs.size l hne items
  refine ⟨_, _, _, items.size, _, _, m₀, news, J, rfl, W, ?_, ?_, ?_, ⟨⟨_, Heap.get?_push_size _ rfl, rfl, rfl⟩, hls.at fun o e => Heap.get?_push_of_some _ e⟩, F.push _, (fun p hp => ⟨Heap.get?_push_of_some _ (N p hp).1, (N p hp).2⟩), hj, ?_, ?_⟩
  · intro hm'
    rcases List.mem_cons.mp hm' with e | hm'
    · exact absurd F.ns.lt (e ▸ Nat.lt_irrefl _)
    · exact (N _ hm).2.1 (List.mem_singleton.mp hm').symm
  · intro b hb
    rw [List.mem_singleton.mp hb]
    exact next_is_new F
  · intro p hp hI
    exact absurd (Heap.lt_size (N p hp).1) ((List.mem_singleton.mp hI) ▸ Nat.lt_irrefl _)
  · rintro i v m₁ news₁ s₁ own ⟨hh', tk', rfl⟩ hin hP hJ hoff hown hget hall hst F₁ N₁
    have hst' := hst.1
    obtain ⟨oI, hoI, hcI, _⟩ := hst'
    have hnew : h₀.get? s.heap.objs.size = none := next_is_new F
    have hmem := hall s.heap.objs.size (List.mem_cons_self ..) hnew _ hoI
    have keep := own_two hown hget hoI (N₁ _ (List.mem_append_right _ (hJl _ _ _ hJ))).1 (J := J (i + 1)) (fun m nw h => hJl _ m nw h)
    refine wpAny_mono (turn i v m₁ news₁ s.heap.objs.size oI hh' tk' hP hJ (fun p hp e => hoff p hp (by rw [e]; exact List.mem_singleton.mpr rfl)) hcI F₁ (turn_in hmem N₁)) (fun f s₂ p => ?_) fun _ _ e => e
    cases f with
    | ret v => exact .ret p
    | brk => exact .brk p
    | next => exact .next (turn_fin keep p)
    | cont => exact .cont (turn_fin keep p)
  · rintro h' tk m' news' F' N' _ hJ
    exact done m' news' h' tk hJ F' N'
/-- a turn's end, the state told: one name b of the frame, the ledger -/
def EndS {σ : Type} (h₀ : Heap) (L I : Addr) (oI : Obj) (x b : Str) (m₀ : Str → Option Value) (vb : σ → Option Value) (Led : σ → List (Addr × Obj)) (J : σ → Prop) (s₁ s₂ : Shared) : Prop :=
  ∃ h' tk m' st, s₂ = { s₁ with heap := h', toks := tk } ∧ Fr h₀ L h' m' ∧ News h₀ L h' ((I, oI) :: Led st) ∧ (∀ p ∈ Led st, p.1 ≠ I) ∧ m' b = vb st ∧ (∀ y, y ≠ x → y ≠ b → m' y = m₀ y) ∧ J st
def PostS {σ : Type} (h₀ : Heap) (L I : Addr) (oI : Obj) (x b : Str) (m₀ : Str → Option Value) (vb : σ → Option Value) (Led : σ → List (Addr × Obj)) (J : σ → Prop) (s₁ : Shared) (Q : Flow → Shared → Prop) (f : Flow) (s₂ : Shared) : Prop :=
  match f with
  | .ret v => Q (.ret v) s₂
  | .brk => Q .next s₂
  | _ => EndS h₀ L I oI x b m₀ vb Led J s₁ s₂
theorem EndS.intro {σ : Type} {L I : Addr} {oI : Obj} {b : Str} {m₀ : Str → Option Value} {vb : σ → Option Value} {Led : σ → List (Addr × Obj)} {J : σ → Prop} {s₁ : Shared} {h' : Heap} {tk : Nat} {m' : Str → Option Value} (st : σ)
    (F : Fr h₀ L h' m') (N : News h₀ L h' ((I, oI) :: Led st)) (off : ∀ p ∈ Led st, p.1 ≠ I) (hb : m' b = vb st) (hm : ∀ y, y ≠ x → y ≠ b → m' y = m₀ y) (hj : J st) : EndS h₀ L I oI x b m₀ vb Led J s₁ { s₁ with heap := h', toks := tk } :=
  ⟨h', tk, m', st, rfl, F, N, off, hb, hm, hj⟩
theorem iter_st {σ : Type} {l : Addr} {items : Array Value} {c : Nat} {m m₀ : Str → Option Value} (b : Str) (vb : σ → Option Value) (Led : σ → List (Addr × Obj)) (J : Nat → σ → Prop) (st₀ : σ)
    (hh : A.handled = none) (hl : ∀ st, (l, ({ cls := .type "list", data := .seq items c } : Obj)) ∈ Led st) (F : Fr h₀ env.locals s.heap m) (N : News h₀ env.locals s.heap (Led st₀)) (hm : ∀ y, y ≠ x → y ≠ b → m y = m₀ y) (hb : m b = vb st₀) (hbx : b ≠ x) (hj : J 0 st₀)
    (turn : ∀ i v st I oI h tk, items[i]? = some v → J i st → (∀ p ∈ Led st, p.1 ≠ I) → oI.cls = .type "list_iterator" → Fr h₀ env.locals h (fun y => if y = x then some v else if y = b then vb st else m₀ y) → News h₀ env.locals h ((I, oI) :: Led st) →
      wpAny (model prog w) A (execs body env) (PostS h₀ env.locals I oI x b m₀ vb Led (J (i + 1)) { s with heap := h, toks := tk } Q) E { s with heap := h, toks := tk })
    (done : ∀ (u : Str → Option Value) st h tk, J items.size st → Fr h₀ env.locals h (fun y => if y = x then u y else if y = b then vb st else m₀ y) → News h₀ env.locals h (Led st) → Q .next { s with heap := h, toks := tk }) :
    wpAny (model prog w) A (pyIter (.ref l)) (fun it s₂ => LoopAtV prog w A h₀ env x body Q E it s₂) E s := by
  have mapEq : ∀ (u : Str → Option Value) (m₁ : Str → Option Value) (st : σ), m₁ b = vb st → (∀ y, y ≠ x → y ≠ b → m₁ y = m₀ y) → (fun y => if y = x then u y else m₁ y) = fun y => if y = x then u y else if y = b then vb st else m₀ y := by
    intro u m₁ st h1 h2
    funext y
    by_cases e1 : y = x
    · simp only [if_pos e1]
    · simp only [if_neg e1]
      by_cases e2 : y = b
      · simp only [if_pos e2]; rw [e2]; exact h1
      · simp only [if_neg e2]; exact h2 y e1 e2
  refine iter_led (items := items) (c := c) (J := fun i m₁ nw => ∃ st, nw = Led st ∧ J i st ∧ m₁ b = vb st ∧ ∀ y, y ≠ x → y ≠ b → m₁ y = m₀ y) hh F N ?_ ⟨st₀, rfl, hj, hb, hm⟩ ?_ ?_
  · rintro i m₁ nw ⟨st, rfl, _⟩
    exact hl st
  · rintro i v m₁ nw I oI h tk hv ⟨st, rfl, hJ, h1, h2⟩ off hc F₁ N₁
    rw [mapEq (fun _ => some v) m₁ st h1 h2] at F₁
    refine wpAny_mono (turn i v st I oI h tk hv hJ off hc F₁ N₁) (fun f s₂ p => ?_) fun _ _ e => e
    have fin : EndS h₀ env.locals I oI x b m₀ vb Led (J (i + 1)) { s with heap := h, toks := tk } s₂ → TurnEnd h₀ env.locals I oI (fun m₁ nw => ∃ st, nw = Led st ∧ J (i + 1) st ∧ m₁ b = vb st ∧ ∀ y, y ≠ x → y ≠ b → m₁ y = m₀ y) { s with heap := h, toks := tk } s₂ := by
      rintro ⟨h', tk', m', st', e, F', N', off', hb', hm', hj'⟩
      exact ⟨h', tk', m', _, e, F', N', off', st', rfl, hj', hb', hm'⟩
    cases f with
    | ret v => exact p
    | brk => exact p
    | next => exact fin p
    | cont => exact fin p
  · rintro m₁ nw h tk ⟨st, rfl, hJ, h1, h2⟩ F₁ N₁
    refine done m₁ st h tk hJ ?_ N₁
    have e := mapEq m₁ m₁ st h1 h2
    rw [← e]
    have e3 : (fun y => if y = x then m₁ y else m₁ y) = m₁ := by
      funext y
      by_cases e1 : y = x
      · simp only [if_pos e1]
      · simp only [if_neg e1]
    rw [e3]
    exact F₁
theorem comp_inv {L : Addr} {m : Str → Option Value} {elt : Expr} {scope : Scope} {cl : List (Str × Addr)} {S : List (Addr × Obj) → Prop} {P : Nat → Value → Prop} {Fin : List Value → List (Addr × Obj) → Prop} {n : Nat} (J : Nat → List Value → List (Addr × Obj) → Prop)
    (turn : ∀ i v ys news, i < n → P i v → J i ys news → ∀ I oI C oC D m₂ h tk (E' : Value → Shared → Prop), LCg.NsObj oC m₂ → m₂ x = some v → Fr h₀ L h m → News h₀ L h ((I, oI) :: (C, oC) :: (D, LCg.lst ys) :: news) → LCg.Off3 I C D news → ((@Ne Nat I C) ∧ (@Ne Nat I D) ∧ (@Ne Nat C D)) →
      wpAny (model prog w) A (eval elt (compEnvC scope cl C env)) (LCg.CompEnd h₀ L m { s with heap := h, toks := tk } I oI C oC D (LCg.lst ys) S (fun y news' => J (i + 1) (ys ++ [y]) news')) E' { s with heap := h, toks := tk })
    (fin : ∀ ys news, J n ys news → Fin ys news) : ∀ j i ys news, i + j = n → J i ys news → LCg.CompRest prog w A h₀ L m env elt x scope cl s S P Fin j i ys news := by
  intro j
  induction j with
  | zero =>
    intro i ys news hi hJ
    have e : i = n := by lia
    subst e
    exact LCg.CompRest.zero (fin _ _ hJ)
  | succ j ih =>
    intro i ys news hi hJ
    refine LCg.CompRest.succ ?_
    intro v I oI C oC D m₂ h tk E' hv hC hx F N off ne
    refine wpAny_mono (turn i v ys news (by lia) hv hJ I oI C oC D m₂ h tk E' hC hx F N off ne) (fun y s₂ hq => ?_) fun _ _ e => e
    obtain ⟨h', tk', nw, e, F', N', off', hS, r⟩ := hq
    exact ⟨h', tk', nw, e, F', N', off', hS, ih (i + 1) _ _ (by lia) r⟩
end
theorem fresh06 : True := by
  w_top off
  k_with_none
  k_with "enter K" => (first | assumption | exact rfl)
  k_with "enter binds" => (first | exact BindsTo.of_eq rfl | exact binds_K (by k_in) rfl (by k_is) rfl rfl rfl | fail "k_enter: no rule for these arguments")
  k_with "room" => (first | ((try simp only [depth_under_make, depth_under_kw, depth_in1, depth_deeper, depth_caller]); (try dsimp only [ktrTop]); lia) | ((try simp only [depth_under_make, depth_under_kw, depth_in1, depth_deeper, depth_caller]); decide))
  k_with "enter" => (refine' code_defC (by k_asm) (by k_asm) (by k_asm) (by k_asm) (by k_asm) (by exact rfl) (by exact rfl) (by walk_at "enter K") (by k_is) (by k_is) (by k_room) (by walk_at "enter binds") (by exact rfl) (by decide +kernel) ?_ (by exact rfl) (by exact rfl) (by exact rfl); k_whole; intro _ _ _ _ _ _ _; intro N' Y' B'; (try k_lift B'); revert B'; intro _ _ _; intro l1; (try k_lt l1); revert l1; intro _; k_cells Y'; (try simp only [List.cons_append, List.nil_append] at N'); revert N'; intro _; (try dsimp only); (try k_fold))
  k_with "enter" => (refine' code_def (by k_asm) (by k_asm) (by k_asm) (by k_asm) (by k_asm) (by exact rfl) (by exact rfl) (by walk_at "enter K") (by k_is) (by k_is) (by k_room) (by walk_at "enter binds") (by exact locs rfl) ?_ (by exact rfl) (by exact rfl) (by exact rfl) ?_; rotate_left; decide; k_whole; intro _ _ _ _ _ _; intro B'; (try k_lift B'); revert B'; intro _ _ _; (try dsimp only); (try k_fold))
  k_with "binaryOp Pow int int" => (with_reducible refine pow_int_small ?_ ?_ ?_ ?_; (first | decide | lia); (first | decide | lia); decide)
  k_with "rel" => (first | exact List.Mem.head _ | (refine' List.mem_cons_of_mem _ ?_; ktr_rel) | ktr_member | (refine' List.mem_append_right _ ?_; ktr_rel) | (refine' lift_sub (by assumption) ?_; ktr_rel))
  k_with "ite" => (k_dflt (first | refine ite_pos (by (simp only [beq_iff_eq, bne_iff_ne, decide_eq_true_eq, ne_eq]); lia) ?_ | refine ite_neg (by (simp only [beq_iff_eq, bne_iff_ne, decide_eq_true_eq, ne_eq]); lia) ?_))
  k_with "eval Call" => (k_fold)
  k_with "exec Assign" => (k_fold)
  k_with "eval BinOp" => (k_fold)
  k_with "isTrue BoolOp" => (k_fold)
  k_with "isTrue Compare" => (k_fold)
  k_with "eval Compare" => (k_fold)
  k_with "eval Tuple" => (k_fold)
  k_with "eval List" => (k_fold)
  k_with "eval Subscript" => (k_fold)
  k_with "exec Expr" => (k_fold)
  k_with "exec If" => (k_fold)
  k_with "exec Return" => (k_fold)
  k_with "eval Call Attribute" => (k_fold)
  k_with "do K" => (first | assumption | exact rfl)
  k_with "do tails" => (exact fun q hq => by repeat' (first | exact hq | refine List.mem_cons_of_mem _ ?_ | refine List.mem_append_right _ ?_ | refine lift_sub (by assumption) ?_))
  k_with "do dec" => (first | assumption | exact Dec.sub (by assumption) (fun q hq => by repeat' (first | exact hq | refine List.mem_cons_of_mem _ ?_ | refine List.mem_append_right _ ?_ | refine lift_sub (by assumption) ?_)) | exact ⟨_, _, by k_mem, by k_mem, by assumption⟩ | exact ⟨_, _, by k_mem, by k_mem, ⟨_, _, _, _, _, _, rfl, by assumption⟩⟩ | exact ⟨_, _, by k_mem, by k_mem, decO_whole⟩)
  k_with "do newdec" => (intro _ _ _ _ _ _ _ _ _ _ _ _ _ _; intro l2; (try k_lt2 l2); revert l2; intro _; (try k_sweep))
  k_with "do gotdec" => (intro _ _ _ _ _ _ _ _ _ _ _ _ _ _ _ _ _; (try k_sweep))
  k_with "do mod" => (k_dflt (refine mod_int' (by lia) ?_))
  k_with "do newlist" => (k_here; k_dflt (refine' newList_K (by k_asm) (by k_asm) ?_; k_whole; intro _ _ _ _ _; (try k_sweep)))
  k_with "do for" => (k_here; (with_unfolding_all refine' For_invVF ‹Fr _ _ _ _› (by exact rfl) (by exact rfl) ?_; k_whole))
  k_with "call ref cons nil" => (k_here; (with_reducible show wpAny _ _ (call (Value.ref 155) [Value.int _ _, Value.int _ _]) _ _ _); k_dflt (refine' mk_ok (by k_asm) (by k_asm) (by k_asm) (by k_asm) (by k_asm) (by walk_at "do K") (by k_room) (by first | exact Or.inl rfl | exact Or.inr rfl | assumption | lia) ?_; k_whole; walk_at "do newdec"))
  k_with "do num" => (first | assumption | exact Num.sub (by assumption) (fun q hq => by repeat' (first | exact hq | refine List.mem_cons_of_mem _ ?_ | refine List.mem_append_right _ ?_ | refine lift_sub (by assumption) ?_)) | exact .inl ⟨_, rfl, by walk_at "do dec"⟩ | exact .inr ⟨_, _, rfl, rfl⟩)
  k_with "after dof_num" => (intro _ _ _ _ _ _ _ _ _ _ _ _ _ _ _ _ _ _ _; (try k_sweep))
  k_with "call ref cons nil" => (k_here; (with_reducible show wpAny _ _ (call (Value.ref 173) [_]) _ _ _); k_dflt (refine' dof_num (by k_asm) (by k_asm) (by k_asm) (by k_asm) (by k_asm) (by walk_at "do K") (by k_room) (by walk_at "do num") (by walk_at "do tails") ?_; k_whole; walk_at "after dof_num"))
  k_with "after dof_int" => (intro _ _ _ _ _ _ _ _ _ _ _; intro l2; (try k_lt2 l2); revert l2; intro _; (try k_sweep))
  k_with "call ref cons nil" => (k_here; (with_reducible show wpAny _ _ (call (Value.ref 173) [Value.int _ _]) _ _ _); k_dflt (refine' dof_int (by k_asm) (by k_asm) (by k_asm) (by k_asm) (by k_asm) (by walk_at "do K") (by k_room)  ?_; k_whole; walk_at "after dof_int"))
  k_with "after dof_dec" => (intro _ _ _ _; (try k_sweep))
  k_with "call ref cons nil" => (k_here; (with_reducible show wpAny _ _ (call (Value.ref 173) [Value.ref _]) _ _ _); k_dflt (refine' dof_dec (by k_asm) (by k_asm) (by k_asm) (by k_asm) (by k_asm) (by walk_at "do K") (by k_room) (by walk_at "do dec") ?_; k_whole; walk_at "after dof_dec"))
  k_with "after scale_n" => (intro _ _ _ _ _ _ _ _ _ _ _ _ _; (try k_sweep))
  k_with "call ref cons nil" => (k_here; (with_reducible show wpAny _ _ (call (Value.ref 180) [_, _]) _ _ _); k_dflt (refine' scale_n (by k_asm) (by k_asm) (by k_asm) (by k_asm) (by k_asm) (by walk_at "do K") (by k_room) (by walk_at "do num") (by walk_at "do num") ?_; k_whole; walk_at "after scale_n"))
  k_with "call ref cons nil" => (k_here; (with_reducible show wpAny _ _ (call (Value.ref 82) [Value.ref _, Value.ref _]) _ _ _); k_dflt (refine' plus_ok (by k_asm) (by k_asm) (by k_asm) (by k_asm) (by k_asm) (by walk_at "do K") (by k_room) (by walk_at "do dec") (by walk_at "do dec") ?_; k_whole; walk_at "do newdec"))
  k_with "call ref cons nil" => (k_here; (with_reducible show wpAny _ _ (call (Value.ref 89) [Value.ref _, _]) _ _ _); k_dflt (refine' minus_n (by k_asm) (by k_asm) (by k_asm) (by k_asm) (by k_asm) (by walk_at "do K") (by k_room) (by walk_at "do dec") (by walk_at "do num") ?_; k_whole; walk_at "do newdec"))
  k_with "call ref cons nil" => (k_here; (with_reducible show wpAny _ _ (call (Value.ref 96) [Value.ref _, Value.int _ _]) _ _ _); k_dflt (refine' times_di (by k_asm) (by k_asm) (by k_asm) (by k_asm) (by k_asm) (by walk_at "do K") (by k_room) (by walk_at "do dec") (by first | assumption | lia | (simp only [fm2]; lia) | exact fdiv_bound (by lia) (by lia) (by lia)) ?_; k_whole; walk_at "do newdec"))
  k_with "after cmp_dd" => (intro _ _ _ _ _ _ _; (try k_sweep))
  k_with "call ref cons nil" => (k_here; (with_reducible show wpAny _ _ (call (Value.ref 110) [Value.ref _, Value.ref _]) _ _ _); k_dflt (refine' cmp_dd (by k_asm) (by k_asm) (by k_asm) (by k_asm) (by k_asm) (by walk_at "do K") (by k_room) (by walk_at "do dec") (by walk_at "do dec") ?_; k_whole; walk_at "after cmp_dd"))
  k_with "after told_d" => (intro _ _ _ _ _ _ _ _ _ _ _ _; (try k_sweep))
  k_with "call ref cons nil" => (k_here; (with_reducible show wpAny _ _ (call (Value.ref 138) [Value.ref _]) _ _ _); k_dflt (refine' told_d (by k_asm) (by k_asm) (by k_asm) (by k_asm) (by k_asm) (by walk_at "do K") (by k_room) (by walk_at "do dec") ?_; k_whole; walk_at "after told_d"))
  k_with "do item" => (k_here; (with_reducible show wpAny _ _ (subscriptTail _ _ (Value.ref _) (Value.int _ _)) _ _ _); k_dflt (refine' item_led (by k_asm) (by k_mem) (by first | decide | assumption) (by first | decide | assumption) (by assumption) ?_ (by with_unfolding_all rfl); k_whole))
  k_with "do len" => (k_here; (with_reducible show wpAny _ _ (call (Value.builtin "len") [Value.ref _]) _ _ _); k_dflt (refine' len_led (by k_asm) (by k_mem) (by lia) ?_; k_whole))
  k_with "call builtin:len" => (walk_at "do len")
  k_with "subscriptTail Name Constant ref int" => (walk_at "do item")
  k_with "subscriptTail Name Slice ref ref" => ((k_here; (with_reducible show wpAny _ _ (subscriptTail _ (PySem.Expr.Slice _ _ none _) (Value.ref _) (Value.ref _)) _ _ _); k_dflt (refine' kmk_slice_lit (by k_asm) (by k_asm) (by kmk_list) (by kmk_part) (by kmk_part) (by exact pick1 _) ?_ (by with_unfolding_all rfl) (by kmk_pure) (by (rw [List.size_toArray, sizeLine_eq]; lia))); intro _ _ _ _ _; (try k_sweep)))
  k_with "exec For Name" => (walk_at "do for")
  trivial
def Decs (P : PySem.Params) (news : List (Addr × Obj)) (vs : List Value) (ts : List Int) : Prop := vs.length = ts.length ∧ ∀ (i : Nat) (v : Value), vs[i]? = some v → ∃ (r : Addr) (t : Int), v = Value.ref r ∧ ts[i]? = some t ∧ Dec P news r t
theorem decs2 {P : PySem.Params} {news : List (Addr × Obj)} {r₁ r₂ : Addr} {t₁ t₂ : Int} (h₁ : Dec P news r₁ t₁) (h₂ : Dec P news r₂ t₂) : Decs P news [.ref r₁, .ref r₂] [t₁, t₂] := by
  refine ⟨rfl, fun i v hv => ?_⟩
  match i, hv with
  | 0, hv => exact ⟨r₁, t₁, (Option.some.inj hv).symm, rfl, h₁⟩
  | 1, hv => exact ⟨r₂, t₂, (Option.some.inj hv).symm, rfl, h₂⟩
theorem Decs.sub {P : PySem.Params} {news news' : List (Addr × Obj)} {vs : List Value} {ts : List Int} (h : Decs P news vs ts) (hs : ∀ p ∈ news, p ∈ news') : Decs P news' vs ts := by
  refine ⟨h.1, fun i v hv => ?_⟩
  obtain ⟨r, t, e, ht, hd⟩ := h.2 i v hv
  exact ⟨r, t, e, ht, hd.sub hs⟩
section
variable {prog : Program} {w : World} {A : Around} {E : Value → Shared → Prop} {s : Shared} {h₀ : Heap} {L l : Addr} {m : Str → Option Value} {news : List (Addr × Obj)} {vs : List Value} {c : Nat} {value slice : PySem.Expr} {Q : Value → Shared → Prop}
theorem len_led (N : News h₀ L s.heap news) (hm : (l, ({ cls := .type "list", data := .seq vs.toArray c } : Obj)) ∈ news) (hf : vs.length ≤ 1000) (h : Q (.int (vs.length : Nat) (s.toks + 1)) { s with toks := s.toks + 1 + 1 }) : wpAny (model prog w) A (call (.builtin "len") [.ref l]) Q E s := by
  have hl : s.heap.IsList l vs.toArray := ⟨_, (N _ hm).1, rfl, _, rfl⟩
  refine Calls.call_len_list hl (by rw [List.size_toArray]; lia) ?_
  rw [List.size_toArray]
  exact h
theorem item_led {k : Int} {u : Tok} {v : Value} (N : News h₀ L s.heap news) (hm : (l, ({ cls := .type "list", data := .seq vs.toArray c } : Obj)) ∈ news) (h0 : 0 ≤ k) (hhi : k < 2 ^ 63) (hx : vs[k.toNat]? = some v) (h : Q v s)
    (hs : subscripted slice false (.ref l) (.int k u) = operate [.ref l, .int k u] (getItem (.ref l) (.int k u))) :
    wpAny (model prog w) A (subscriptTail value slice (.ref l) (.int k u)) Q E s := by
  have hl : s.heap.IsList l vs.toArray := ⟨_, (N _ hm).1, rfl, _, rfl⟩
  exact tail_any hl.typeIs slot_list_getitem.lookup (wpAny_getItem_list hl h0 hhi (by simpa using hx) h) hs
theorem pick1 (vs : List Value) : (slicePick vs.toArray (some 1) none none).toList = vs.drop 1 := by
  have e : sliceBounds (some 1) none none vs.toArray.size = (((min 1 vs.toArray.size : Nat) : Int), ((vs.toArray.size : Nat) : Int), 1) := by
    simp only [sliceBounds, Option.getD_none, show (1 : Int) > 0 by decide, if_true, if_neg (show ¬ ((1 : Int) < 0) by decide)]
    congr 1
    lia
  rw [kmk_pick_nat _ e]
  show (vs.drop (min 1 vs.toArray.size)).take (vs.toArray.size - min 1 vs.toArray.size) = _
  rw [List.size_toArray, kmk_drop_min, List.take_of_length_le (by rw [List.length_drop]; lia)]
end
section
variable {w : World} {mean : ExcName → Option Value} {mg mb : Str → Option Value} {dp un : Nat} {gd : Option (List Code)} {cn : Str} {cs : Scope} {a : Addr} {ccd : Value} {cl : List (Str × Addr)} {outer : List Env} {A₀ : Around} {base h₀ : Heap} {L : Addr} {m : Str → Option Value} {news : List (Addr × Obj)} {s : Shared} {Q E : Value → Shared → Prop}
theorem least_ok {l : Addr} {vs : List Value} {ts : List Int} {c : Nat} (B : Below A₀ base outer h₀) (F : Fr h₀ L s.heap m) (X : (hd.heap_39 w.params).In h₀) (N : News h₀ L s.heap news) (T : TheTop mean mg mb h₀) (hkf : cs.kind = .function) (hdp : dp + 16 < recursionLimit)
  (hl : (l, ({ cls := .type "list", data := .seq vs.toArray c } : Obj)) ∈ news) (hv : Decs w.params news vs ts) (hn : 0 < vs.length ∧ vs.length ≤ 400)
  (ret : ∀ r t h' tk', Fr h₀ L h' m → News h₀ L h' news → Dec w.params news r t → t ∈ ts → (∀ u ∈ ts, t ≤ u) → Q (.ref r) { s with heap := h', toks := tk' }) :
  wpAny (model PySem.Challenge.rw_qd0123_01.row.prog w) (ktrTop dp un gd cn cs L a ccd cl outer) (call (.ref 199) [.ref l]) Q E s := by
  revert X
  k_fill
  intro X
  obtain ⟨r0, t0, hx0, ht0, hv0⟩ : ∃ r t, vs[0]? = some (.ref r) ∧ ts[0]? = some t ∧ Dec w.params news r t := by
    obtain ⟨r, t, e, ht, hd⟩ := hv.2 0 (vs[0]'hn.1) (List.getElem?_eq_getElem hn.1)
    exact ⟨r, t, by rw [← e]; exact List.getElem?_eq_getElem hn.1, ht, hd⟩
  refine wpAny_call ?_
  k_dflt k_enter
  k_steps
  · rename_i D2 h2 F2 N2 l2
    refine iter_st (Str.ofString "best") (fun st : Addr × Int => some (.ref st.1)) (fun _ => (D2, listOf (vs.drop 1).toArray 0) :: news) (fun i st => Dec w.params news st.1 st.2 ∧ st.2 ∈ ts ∧ ∀ j u, j ≤ i → ts[j]? = some u → st.2 ≤ u) (r0, t0) rfl (fun _ => .head _) F2 N2 (fun _ _ _ => rfl) rfl (by decide) ⟨hv0, List.mem_of_getElem? ht0, fun j u hj hu => ?_⟩ ?_ ?_
    · rw [Nat.le_zero.mp hj] at hu
      rw [ht0] at hu
      exact Int.le_of_eq (Option.some.inj hu)
    · intro i v st3 I oI h3 tk3 hv3 hJ3 off3 hc3 F3 N3
      with_reducible show wpAny _ _ _ _ _ _
      k_fold
      obtain ⟨r, t⟩ := st3
      have hd3 := hJ3.1
      have ht3 := hJ3.2.1
      have hm3 := hJ3.2.2
      obtain ⟨ru, tu, rfl, htu, hdu⟩ := hv.2 (i + 1) v (by simpa [Nat.add_comm] using hv3)
      clear F2 N2
      dsimp only at F3 N3 hd3 ht3 hm3
      obtain ⟨d4, o4, hr4, hd4, k41, k42, x4, tx4, p4, tp4, rfl, hn4⟩ := id hd3
      k_steps
      · refine EndS.intro (ru, tu) (by assumption) (cb_drop (by assumption) (List.forall_mem_cons.mpr ⟨by k_mem, fun q hq => by repeat' (first | exact hq | refine List.mem_cons_of_mem _ ?_ | refine List.mem_append_right _ ?_ | refine lift_sub (by assumption) ?_)⟩)) off3 rfl (fun y h1 h2 => by simp only [if_neg h1, if_neg h2]) ⟨hdu, List.mem_of_getElem? htu, fun j u hj hu => ?_⟩
        show tu ≤ u
        by_cases hji : j ≤ i
        · have := hm3 j u hji hu
          lia
        · have e : j = i + 1 := by lia
          rw [e, htu] at hu
          have := Option.some.inj hu
          lia
      · refine EndS.intro (r, t) (by assumption) (cb_drop (by assumption) (List.forall_mem_cons.mpr ⟨by k_mem, fun q hq => by repeat' (first | exact hq | refine List.mem_cons_of_mem _ ?_ | refine List.mem_append_right _ ?_ | refine lift_sub (by assumption) ?_)⟩)) off3 rfl (fun y h1 h2 => by simp only [if_neg h1, if_neg h2]) ⟨hd3, ht3, fun j u hj hu => ?_⟩
        show t ≤ u
        by_cases hji : j ≤ i
        · exact hm3 j u hji hu
        · have e : j = i + 1 := by lia
          rw [e, htu] at hu
          have := Option.some.inj hu
          lia
    · rintro u ⟨r, t⟩ h3 tk3 ⟨hd3, ht3, hm3⟩ F3 N3
      clear F2 N2
      dsimp only at F3 N3 hd3 ht3 hm3 ⊢
      k_steps
      refine ret _ _ _ _ (by assumption) (cb_drop (by assumption) (fun q hq => by repeat' (first | exact hq | refine List.mem_cons_of_mem _ ?_ | refine List.mem_append_right _ ?_ | refine lift_sub (by assumption) ?_))) hd3 ht3 (fun u hu => ?_)
      obtain ⟨j, hj⟩ := List.getElem?_of_mem hu
      refine hm3 j u ?_ hj
      have h5 : j < ts.length := (List.getElem?_eq_some_iff.mp hj).1
      have h6 := hv.1
      have h7 : (List.drop 1 vs).toArray.size = vs.length - 1 := by simp
      lia
theorem greatest_ok {l : Addr} {vs : List Value} {ts : List Int} {c : Nat} (B : Below A₀ base outer h₀) (F : Fr h₀ L s.heap m) (X : (hd.heap_39 w.params).In h₀) (N : News h₀ L s.heap news) (T : TheTop mean mg mb h₀) (hkf : cs.kind = .function) (hdp : dp + 16 < recursionLimit)
  (hl : (l, ({ cls := .type "list", data := .seq vs.toArray c } : Obj)) ∈ news) (hv : Decs w.params news vs ts) (hn : 0 < vs.length ∧ vs.length ≤ 400)
  (ret : ∀ r t h' tk', Fr h₀ L h' m → News h₀ L h' news → Dec w.params news r t → t ∈ ts → (∀ u ∈ ts, u ≤ t) → Q (.ref r) { s with heap := h', toks := tk' }) :
  wpAny (model PySem.Challenge.rw_qd0123_01.row.prog w) (ktrTop dp un gd cn cs L a ccd cl outer) (call (.ref 206) [.ref l]) Q E s := by
  revert X
  k_fill
  intro X
  obtain ⟨r0, t0, hx0, ht0, hv0⟩ : ∃ r t, vs[0]? = some (.ref r) ∧ ts[0]? = some t ∧ Dec w.params news r t := by
    obtain ⟨r, t, e, ht, hd⟩ := hv.2 0 (vs[0]'hn.1) (List.getElem?_eq_getElem hn.1)
    exact ⟨r, t, by rw [← e]; exact List.getElem?_eq_getElem hn.1, ht, hd⟩
  refine wpAny_call ?_
  k_dflt k_enter
  k_steps
  · rename_i D2 h2 F2 N2 l2
    refine iter_st (Str.ofString "best") (fun st : Addr × Int => some (.ref st.1)) (fun _ => (D2, listOf (vs.drop 1).toArray 0) :: news) (fun i st => Dec w.params news st.1 st.2 ∧ st.2 ∈ ts ∧ ∀ j u, j ≤ i → ts[j]? = some u → u ≤ st.2) (r0, t0) rfl (fun _ => .head _) F2 N2 (fun _ _ _ => rfl) rfl (by decide) ⟨hv0, List.mem_of_getElem? ht0, fun j u hj hu => ?_⟩ ?_ ?_
    · rw [Nat.le_zero.mp hj] at hu
      rw [ht0] at hu
      exact Int.le_of_eq (Option.some.inj hu).symm
    · intro i v st3 I oI h3 tk3 hv3 hJ3 off3 hc3 F3 N3
      with_reducible show wpAny _ _ _ _ _ _
      k_fold
      obtain ⟨r, t⟩ := st3
      have hd3 := hJ3.1
      have ht3 := hJ3.2.1
      have hm3 := hJ3.2.2
      obtain ⟨ru, tu, rfl, htu, hdu⟩ := hv.2 (i + 1) v (by simpa [Nat.add_comm] using hv3)
      clear F2 N2
      dsimp only at F3 N3 hd3 ht3 hm3
      obtain ⟨d4, o4, hr4, hd4, k41, k42, x4, tx4, p4, tp4, rfl, hn4⟩ := id hd3
      k_steps
      · refine EndS.intro (ru, tu) (by assumption) (cb_drop (by assumption) (List.forall_mem_cons.mpr ⟨by k_mem, fun q hq => by repeat' (first | exact hq | refine List.mem_cons_of_mem _ ?_ | refine List.mem_append_right _ ?_ | refine lift_sub (by assumption) ?_)⟩)) off3 rfl (fun y h1 h2 => by simp only [if_neg h1, if_neg h2]) ⟨hdu, List.mem_of_getElem? htu, fun j u hj hu => ?_⟩
        show u ≤ tu
        by_cases hji : j ≤ i
        · have := hm3 j u hji hu
          lia
        · have e : j = i + 1 := by lia
          rw [e, htu] at hu
          have := Option.some.inj hu
          lia
      · refine EndS.intro (r, t) (by assumption) (cb_drop (by assumption) (List.forall_mem_cons.mpr ⟨by k_mem, fun q hq => by repeat' (first | exact hq | refine List.mem_cons_of_mem _ ?_ | refine List.mem_append_right _ ?_ | refine lift_sub (by assumption) ?_)⟩)) off3 rfl (fun y h1 h2 => by simp only [if_neg h1, if_neg h2]) ⟨hd3, ht3, fun j u hj hu => ?_⟩
        show u ≤ t
        by_cases hji : j ≤ i
        · exact hm3 j u hji hu
        · have e : j = i + 1 := by lia
          rw [e, htu] at hu
          have := Option.some.inj hu
          lia
    · rintro u ⟨r, t⟩ h3 tk3 ⟨hd3, ht3, hm3⟩ F3 N3
      clear F2 N2
      dsimp only at F3 N3 hd3 ht3 hm3 ⊢
      k_steps
      refine ret _ _ _ _ (by assumption) (cb_drop (by assumption) (fun q hq => by repeat' (first | exact hq | refine List.mem_cons_of_mem _ ?_ | refine List.mem_append_right _ ?_ | refine lift_sub (by assumption) ?_))) hd3 ht3 (fun u hu => ?_)
      obtain ⟨j, hj⟩ := List.getElem?_of_mem hu
      refine hm3 j u ?_ hj
      have h5 : j < ts.length := (List.getElem?_eq_some_iff.mp hj).1
      have h6 := hv.1
      have h7 : (List.drop 1 vs).toArray.size = vs.length - 1 := by simp
      lia
end
theorem fresh07 : True := by
  w_top off
  k_with_none
  k_with "enter K" => (first | assumption | exact rfl)
  k_with "enter binds" => (first | exact BindsTo.of_eq rfl | exact binds_K (by k_in) rfl (by k_is) rfl rfl rfl | fail "k_enter: no rule for these arguments")
  k_with "room" => (first | ((try simp only [depth_under_make, depth_under_kw, depth_in1, depth_deeper, depth_caller]); (try dsimp only [ktrTop]); lia) | ((try simp only [depth_under_make, depth_under_kw, depth_in1, depth_deeper, depth_caller]); decide))
  k_with "enter" => (refine' code_defC (by k_asm) (by k_asm) (by k_asm) (by k_asm) (by k_asm) (by exact rfl) (by exact rfl) (by walk_at "enter K") (by k_is) (by k_is) (by k_room) (by walk_at "enter binds") (by exact rfl) (by decide +kernel) ?_ (by exact rfl) (by exact rfl) (by exact rfl); k_whole; intro _ _ _ _ _ _ _; intro N' Y' B'; (try k_lift B'); revert B'; intro _ _ _; intro l1; (try k_lt l1); revert l1; intro _; k_cells Y'; (try simp only [List.cons_append, List.nil_append] at N'); revert N'; intro _; (try dsimp only); (try k_fold))
  k_with "enter" => (refine' code_def (by k_asm) (by k_asm) (by k_asm) (by k_asm) (by k_asm) (by exact rfl) (by exact rfl) (by walk_at "enter K") (by k_is) (by k_is) (by k_room) (by walk_at "enter binds") (by exact locs rfl) ?_ (by exact rfl) (by exact rfl) (by exact rfl) ?_; rotate_left; decide; k_whole; intro _ _ _ _ _ _; intro B'; (try k_lift B'); revert B'; intro _ _ _; (try dsimp only); (try k_fold))
  k_with "binaryOp Pow int int" => (with_reducible refine pow_int_small ?_ ?_ ?_ ?_; (first | decide | lia); (first | decide | lia); decide)
  k_with "rel" => (first | exact List.Mem.head _ | (refine' List.mem_cons_of_mem _ ?_; ktr_rel) | ktr_member | (refine' List.mem_append_right _ ?_; ktr_rel) | (refine' lift_sub (by assumption) ?_; ktr_rel))
  k_with "ite" => (k_dflt (first | refine ite_pos (by (simp only [beq_iff_eq, bne_iff_ne, decide_eq_true_eq, ne_eq]); lia) ?_ | refine ite_neg (by (simp only [beq_iff_eq, bne_iff_ne, decide_eq_true_eq, ne_eq]); lia) ?_))
  k_with "eval Call" => (k_fold)
  k_with "exec Assign" => (k_fold)
  k_with "eval BinOp" => (k_fold)
  k_with "isTrue BoolOp" => (k_fold)
  k_with "isTrue Compare" => (k_fold)
  k_with "eval Compare" => (k_fold)
  k_with "eval Tuple" => (k_fold)
  k_with "eval List" => (k_fold)
  k_with "eval Subscript" => (k_fold)
  k_with "exec Expr" => (k_fold)
  k_with "exec If" => (k_fold)
  k_with "exec Return" => (k_fold)
  k_with "eval Call Attribute" => (k_fold)
  k_with "do K" => (first | assumption | exact rfl)
  k_with "do tails" => (exact fun q hq => by repeat' (first | exact hq | refine List.mem_cons_of_mem _ ?_ | refine List.mem_append_right _ ?_ | refine lift_sub (by assumption) ?_))
  k_with "do dec" => (first | assumption | exact Dec.sub (by assumption) (fun q hq => by repeat' (first | exact hq | refine List.mem_cons_of_mem _ ?_ | refine List.mem_append_right _ ?_ | refine lift_sub (by assumption) ?_)) | exact ⟨_, _, by k_mem, by k_mem, by assumption⟩ | exact ⟨_, _, by k_mem, by k_mem, ⟨_, _, _, _, _, _, rfl, by assumption⟩⟩ | exact ⟨_, _, by k_mem, by k_mem, decO_whole⟩)
  k_with "do newdec" => (intro _ _ _ _ _ _ _ _ _ _ _ _ _ _; intro l2; (try k_lt2 l2); revert l2; intro _; (try k_sweep))
  k_with "do gotdec" => (intro _ _ _ _ _ _ _ _ _ _ _ _ _ _ _ _ _; (try k_sweep))
  k_with "do mod" => (k_dflt (refine mod_int' (by lia) ?_))
  k_with "do newlist" => (k_here; k_dflt (refine' newList_K (by k_asm) (by k_asm) ?_; k_whole; intro _ _ _ _ _; (try k_sweep)))
  k_with "do for" => (k_here; (with_unfolding_all refine' For_invVF ‹Fr _ _ _ _› (by exact rfl) (by exact rfl) ?_; k_whole))
  k_with "call ref cons nil" => (k_here; (with_reducible show wpAny _ _ (call (Value.ref 155) [Value.int _ _, Value.int _ _]) _ _ _); k_dflt (refine' mk_ok (by k_asm) (by k_asm) (by k_asm) (by k_asm) (by k_asm) (by walk_at "do K") (by k_room) (by first | exact Or.inl rfl | exact Or.inr rfl | assumption | lia) ?_; k_whole; walk_at "do newdec"))
  k_with "do num" => (first | assumption | exact Num.sub (by assumption) (fun q hq => by repeat' (first | exact hq | refine List.mem_cons_of_mem _ ?_ | refine List.mem_append_right _ ?_ | refine lift_sub (by assumption) ?_)) | exact .inl ⟨_, rfl, by walk_at "do dec"⟩ | exact .inr ⟨_, _, rfl, rfl⟩)
  k_with "after dof_num" => (intro _ _ _ _ _ _ _ _ _ _ _ _ _ _ _ _ _ _ _; (try k_sweep))
  k_with "call ref cons nil" => (k_here; (with_reducible show wpAny _ _ (call (Value.ref 173) [_]) _ _ _); k_dflt (refine' dof_num (by k_asm) (by k_asm) (by k_asm) (by k_asm) (by k_asm) (by walk_at "do K") (by k_room) (by walk_at "do num") (by walk_at "do tails") ?_; k_whole; walk_at "after dof_num"))
  k_with "after dof_int" => (intro _ _ _ _ _ _ _ _ _ _ _; intro l2; (try k_lt2 l2); revert l2; intro _; (try k_sweep))
  k_with "call ref cons nil" => (k_here; (with_reducible show wpAny _ _ (call (Value.ref 173) [Value.int _ _]) _ _ _); k_dflt (refine' dof_int (by k_asm) (by k_asm) (by k_asm) (by k_asm) (by k_asm) (by walk_at "do K") (by k_room)  ?_; k_whole; walk_at "after dof_int"))
  k_with "after dof_dec" => (intro _ _ _ _; (try k_sweep))
  k_with "call ref cons nil" => (k_here; (with_reducible show wpAny _ _ (call (Value.ref 173) [Value.ref _]) _ _ _); k_dflt (refine' dof_dec (by k_asm) (by k_asm) (by k_asm) (by k_asm) (by k_asm) (by walk_at "do K") (by k_room) (by walk_at "do dec") ?_; k_whole; walk_at "after dof_dec"))
  k_with "after scale_n" => (intro _ _ _ _ _ _ _ _ _ _ _ _ _; (try k_sweep))
  k_with "call ref cons nil" => (k_here; (with_reducible show wpAny _ _ (call (Value.ref 180) [_, _]) _ _ _); k_dflt (refine' scale_n (by k_asm) (by k_asm) (by k_asm) (by k_asm) (by k_asm) (by walk_at "do K") (by k_room) (by walk_at "do num") (by walk_at "do num") ?_; k_whole; walk_at "after scale_n"))
  k_with "call ref cons nil" => (k_here; (with_reducible show wpAny _ _ (call (Value.ref 82) [Value.ref _, Value.ref _]) _ _ _); k_dflt (refine' plus_ok (by k_asm) (by k_asm) (by k_asm) (by k_asm) (by k_asm) (by walk_at "do K") (by k_room) (by walk_at "do dec") (by walk_at "do dec") ?_; k_whole; walk_at "do newdec"))
  k_with "call ref cons nil" => (k_here; (with_reducible show wpAny _ _ (call (Value.ref 89) [Value.ref _, _]) _ _ _); k_dflt (refine' minus_n (by k_asm) (by k_asm) (by k_asm) (by k_asm) (by k_asm) (by walk_at "do K") (by k_room) (by walk_at "do dec") (by walk_at "do num") ?_; k_whole; walk_at "do newdec"))
  k_with "call ref cons nil" => (k_here; (with_reducible show wpAny _ _ (call (Value.ref 96) [Value.ref _, Value.int _ _]) _ _ _); k_dflt (refine' times_di (by k_asm) (by k_asm) (by k_asm) (by k_asm) (by k_asm) (by walk_at "do K") (by k_room) (by walk_at "do dec") (by first | assumption | lia | (simp only [fm2]; lia) | exact fdiv_bound (by lia) (by lia) (by lia)) ?_; k_whole; walk_at "do newdec"))
  k_with "after cmp_dd" => (intro _ _ _ _ _ _ _; (try k_sweep))
  k_with "call ref cons nil" => (k_here; (with_reducible show wpAny _ _ (call (Value.ref 110) [Value.ref _, Value.ref _]) _ _ _); k_dflt (refine' cmp_dd (by k_asm) (by k_asm) (by k_asm) (by k_asm) (by k_asm) (by walk_at "do K") (by k_room) (by walk_at "do dec") (by walk_at "do dec") ?_; k_whole; walk_at "after cmp_dd"))
  k_with "after told_d" => (intro _ _ _ _ _ _ _ _ _ _ _ _; (try k_sweep))
  k_with "call ref cons nil" => (k_here; (with_reducible show wpAny _ _ (call (Value.ref 138) [Value.ref _]) _ _ _); k_dflt (refine' told_d (by k_asm) (by k_asm) (by k_asm) (by k_asm) (by k_asm) (by walk_at "do K") (by k_room) (by walk_at "do dec") ?_; k_whole; walk_at "after told_d"))
  k_with "do item" => (k_here; (with_reducible show wpAny _ _ (subscriptTail _ _ (Value.ref _) (Value.int _ _)) _ _ _); k_dflt (refine' item_led (by k_asm) (by k_mem) (by first | decide | assumption) (by first | decide | assumption) (by assumption) ?_ (by with_unfolding_all rfl); k_whole))
  k_with "do len" => (k_here; (with_reducible show wpAny _ _ (call (Value.builtin "len") [Value.ref _]) _ _ _); k_dflt (refine' len_led (by k_asm) (by k_mem) (by lia) ?_; k_whole))
  k_with "do decs" => (first | assumption | exact Decs.sub (by assumption) (fun q hq => by repeat' (first | exact hq | refine List.mem_cons_of_mem _ ?_ | refine List.mem_append_right _ ?_ | refine lift_sub (by assumption) ?_)) | exact decs2 (by first | assumption | exact Dec.sub (by assumption) (fun q hq => by repeat' (first | exact hq | refine List.mem_cons_of_mem _ ?_ | refine List.mem_append_right _ ?_ | refine lift_sub (by assumption) ?_)) | exact ⟨_, _, by k_mem, by k_mem, by assumption⟩ | exact ⟨_, _, by k_mem, by k_mem, ⟨_, _, _, _, _, _, rfl, by assumption⟩⟩ | exact ⟨_, _, by k_mem, by k_mem, decO_whole⟩) (by first | assumption | exact Dec.sub (by assumption) (fun q hq => by repeat' (first | exact hq | refine List.mem_cons_of_mem _ ?_ | refine List.mem_append_right _ ?_ | refine lift_sub (by assumption) ?_)) | exact ⟨_, _, by k_mem, by k_mem, by assumption⟩ | exact ⟨_, _, by k_mem, by k_mem, ⟨_, _, _, _, _, _, rfl, by assumption⟩⟩ | exact ⟨_, _, by k_mem, by k_mem, decO_whole⟩))
  k_with "after least_ok" => (intro _ _ _ _ _ _ _ _ _; (try k_sweep))
  k_with "call ref cons nil" => (k_here; (with_reducible show wpAny _ _ (call (Value.ref 199) [Value.ref _]) _ _ _); k_dflt (refine' least_ok (by k_asm) (by k_asm) (by k_asm) (by k_asm) (by k_asm) (by walk_at "do K") (by k_room) (by k_mem) (by walk_at "do decs") (by first | assumption | exact ⟨Nat.le_of_ble_eq_true rfl, Nat.le_of_ble_eq_true rfl⟩ | exact ⟨by lia, by lia⟩) ?_; k_whole; walk_at "after least_ok"))
  k_with "after greatest_ok" => (intro _ _ _ _ _ _ _ _ _; (try k_sweep))
  k_with "call ref cons nil" => (k_here; (with_reducible show wpAny _ _ (call (Value.ref 206) [Value.ref _]) _ _ _); k_dflt (refine' greatest_ok (by k_asm) (by k_asm) (by k_asm) (by k_asm) (by k_asm) (by walk_at "do K") (by k_room) (by k_mem) (by walk_at "do decs") (by first | assumption | exact ⟨Nat.le_of_ble_eq_true rfl, Nat.le_of_ble_eq_true rfl⟩ | exact ⟨by lia, by lia⟩) ?_; k_whole; walk_at "after greatest_ok"))
  k_with "binaryOp Pow int int" => ((k_dflt (refine pow_01 (by assumption) ?_); intro _ _))
  k_with "all" => (exact neAll1 (by assumption) (by first | exact Nat.le_refl _ | exact Nat.le_succ _ | lia))
  k_with "exec For Name Name cons nil" => (walk_at "do for")
  trivial
theorem neAll1 {news : List (Addr × Obj)} {d e : Addr} (h : ∀ p ∈ news, p.1 < d) (hd : d ≤ e) : ∀ p ∈ news, p.1 ≠ e := fun p hp q => by
  have h1 : p.1 < d := h p hp
  rw [q] at h1
  exact absurd (Nat.lt_of_lt_of_le h1 hd) (Nat.lt_irrefl _)
theorem tops_rng {x p t P : Int} (h : NF x p t) (hP : P = 0 ∨ P = 1) (h0 : P = 0 → t % 10 = 0) : 0 ≤ P - p ∧ P - p ≤ 1 := by
  rcases h with ⟨rfl, rfl⟩ | ⟨rfl, rfl, h⟩ <;> rcases hP with rfl | rfl
  · decide
  · decide
  · exact absurd (h0 rfl) h
  · decide
theorem tops_next {x p t P K : Int} {l xs : List Int} (h : NF x p t) (hx : P = 0 ∧ l = xs.map (10 * ·) ∨ P = 1 ∧ l = xs) (hK : P - p = 0 ∧ K = 1 ∨ P - p = 1 ∧ K = 10) :
    P = 0 ∧ l ++ (some t).toList = (xs ++ [x * K]).map (10 * ·) ∨ P = 1 ∧ l ++ (some t).toList = xs ++ [x * K] := by
  have e : P = 0 ∧ t = 10 * (x * K) ∨ P = 1 ∧ t = x * K := by
    rcases h with ⟨rfl, rfl⟩ | ⟨rfl, rfl, _⟩ <;> rcases hK with ⟨h1, rfl⟩ | ⟨h1, rfl⟩ <;> rcases hx with ⟨rfl, _⟩ | ⟨rfl, _⟩ <;> lia
  rcases hx with ⟨h1, rfl⟩ | ⟨h1, rfl⟩ <;> rcases e with ⟨e1, rfl⟩ | ⟨e1, rfl⟩ <;> first
    | exact absurd (h1.symm.trans e1) (by decide)
    | exact .inl ⟨h1, by simp⟩
    | exact .inr ⟨h1, by simp⟩
section
variable {w : World} {mean : ExcName → Option Value} {mg mb : Str → Option Value} {dp un : Nat} {gd : Option (List Code)} {cn : Str} {cs : Scope} {a : Addr} {ccd : Value} {cl : List (Str × Addr)} {outer : List Env} {A₀ : Around} {base h₀ : Heap} {L : Addr} {m : Str → Option Value} {news : List (Addr × Obj)} {s : Shared} {Q E : Value → Shared → Prop}
theorem tops_ok {l : Addr} {vs : List Value} {ts : List Int} {c : Nat} (B : Below A₀ base outer h₀) (F : Fr h₀ L s.heap m) (X : (hd.heap_39 w.params).In h₀) (N : News h₀ L s.heap news) (T : TheTop mean mg mb h₀) (hkf : cs.kind = .function) (hdp : dp + 16 < recursionLimit)
  (hl : (l, ({ cls := .type "list", data := .seq vs.toArray c } : Obj)) ∈ news) (hv : Decs w.params news vs ts) (hn : 0 < vs.length ∧ vs.length ≤ 400)
  (ret : ∀ r D xs ws p tp n h' tk', Fr h₀ L h' m → News h₀ L h' ((r, { cls := .type "tuple", data := .seq #[.ref D, .int p tp] n }) :: (D, LCg.lst ws) :: news) → IntsAre ws xs → (p = 0 ∧ ts = xs.map (10 * ·) ∨ p = 1 ∧ ts = xs) → Q (.ref r) { s with heap := h', toks := tk' }) :
  wpAny (model PySem.Challenge.rw_qd0123_01.row.prog w) (ktrTop dp un gd cn cs L a ccd cl outer) (call (.ref 185) [.ref l]) Q E s := by
  revert X
  k_fill
  intro X
  refine wpAny_call ?_
  k_dflt k_enter
  k_steps
  rename_i g1 L1 h1 tk1 FG1 B1 X1 T1 l1 o1 d1 h2 o2 F2 N2 d2
  refine iter_st (Str.ofString "") (fun _ => none) (fun st : Obj × Int => (L1 + 1, st.1) :: news) (fun i st => (∃ tk, st.1.data = .cell (some (.int st.2 tk))) ∧ (st.2 = 0 ∨ st.2 = 1) ∧ ∀ j u, j < i → ts[j]? = some u → st.2 = 0 → u % 10 = 0) (o2, 0) rfl (fun _ => .tail _ hl) F2 N2 (fun _ _ _ => rfl) rfl (by decide) ⟨⟨_, d2⟩, .inl rfl, fun j u hj => absurd hj (Nat.not_lt_zero _)⟩ ?_ ?_
  · intro i v st3 I oI h3 tk3 hv3 hJ3 off3 hc3 F3 N3
    with_reducible show wpAny _ _ _ _ _ _
    k_fold
    obtain ⟨o5, p5⟩ := st3
    have hd5 := hJ3.1
    have hp5 := hJ3.2.1
    have hm5 := hJ3.2.2
    obtain ⟨tk5, hd5⟩ := hd5
    obtain ⟨ru, tu, rfl, htu, hdu⟩ := hv.2 i v (by simpa using hv3)
    clear F2 N2
    have hne : @Ne Nat I (L1 + 1) := fun e => off3 _ (.head _) e.symm
    have off3' : ∀ p ∈ news, p.1 ≠ I := fun p hp => off3 p (.tail _ hp)
    dsimp only at F3 N3 hd5 hp5 hm5 off3
    obtain ⟨d4, o4, hr4, hd4, k41, k42, x4, tx4, p4, tp4, rfl, hn4⟩ := id hdu
    k_steps
    refine EndS.intro (_, _) (by assumption) (by assumption) (fun p hp => ?_) rfl (fun y h1 h2 => by simp only [if_neg h1, if_neg h2]) ⟨⟨_, by assumption⟩, ?_, ?_⟩
    · rcases List.mem_cons.mp hp with rfl | hp
      · exact fun e => hne e.symm
      · exact off3' p hp
    · dsimp only
      rcases hn4 with ⟨rfl, _⟩ | ⟨rfl, _⟩ <;> rcases hp5 with rfl | rfl <;> decide
    · dsimp only
      intro j u hj hu h0
      rcases Nat.lt_or_ge j i with h7 | h7
      · refine hm5 j u h7 hu ?_
        rcases hn4 with ⟨rfl, _⟩ | ⟨rfl, _⟩ <;> rcases hp5 with rfl | rfl <;> first | rfl | (revert h0; decide)
      · have e : j = i := by lia
        rw [e, htu] at hu
        have e2 := Option.some.inj hu
        subst e2
        rcases hn4 with ⟨rfl, h8⟩ | ⟨rfl, h8⟩
        · lia
        · exfalso
          rcases hp5 with rfl | rfl <;> (revert h0; decide)
  · intro u st3 h3 tk3 hJ3 F3 N3
    obtain ⟨o5, p5⟩ := st3
    have hd5 := hJ3.1
    have hp5 := hJ3.2.1
    have hm5 := hJ3.2.2
    clear F2 N2
    obtain ⟨tk5, hd5⟩ := hd5
    dsimp only at F3 N3 hd5 hp5 hm5 ⊢
    have hsz : vs.toArray.size = ts.length := by rw [List.size_toArray]; exact hv.1
    k_steps
    refine LCg.CompSrc.ledger rfl (by assumption) N3 (.tail _ hl) (by rw [List.size_toArray, sizeLine_eq]; lia) (fun g' => ?_)
    refine comp_inv (J := fun i ys nw => nw = (L1 + 1, o5) :: news ∧ ∃ xs, IntsAre ys xs ∧ (p5 = 0 ∧ ts.take i = xs.map (10 * ·) ∨ p5 = 1 ∧ ts.take i = xs)) ?_ ?_ _ _ _ _ (Nat.zero_add _) ⟨rfl, [], .nil, hp5.elim (fun h => .inl ⟨h, rfl⟩) (fun h => .inr ⟨h, rfl⟩)⟩
    · intro i v ys nw hi hP hJ4
      refine foldG ?_
      intro g4
      obtain ⟨hnw, xs, hI5, hxs⟩ := hJ4
      obtain ⟨ru, tu, hvu, htu, hdu⟩ := hv.2 i v (by simpa using hP)
      obtain ⟨d4, o4, hr4, hd4, k41, k42, x4, tx4, p4, tp4, rfl, hn4⟩ := id hdu
      have hpr := tops_rng hn4 hp5 (hm5 i tu (by lia) htu)
      subst hnw hvu
      intro I oI C oC D m₂ h4 tk4 E' hC hx F4 N4 off ne
      clear F3 N3
      k_steps
      rename p5 - p4 = 0 ∧ _ ∨ _ => hK
      refine LCg.CompEnd.intro (by assumption) (by assumption) ((L1 + 1, o5) :: news) (List.forall_mem_cons.mpr ⟨by k_mem, List.forall_mem_cons.mpr ⟨by k_mem, List.forall_mem_cons.mpr ⟨by k_mem, List.forall_mem_cons.mpr ⟨by k_mem, fun q hq => by repeat' (first | exact hq | refine List.mem_cons_of_mem _ ?_ | refine List.mem_append_right _ ?_ | refine lift_sub (by assumption) ?_)⟩⟩⟩⟩) off (.inr ⟨_, .tail _ hl, rfl, _, rfl⟩) ⟨rfl, xs ++ [_], IntsAre.append hI5 (.cons _ _ .nil), ?_⟩
      rw [List.take_add_one, htu]
      exact tops_next hn4 hxs hK
    · rintro ys nw ⟨rfl, xs, hI5, hxs⟩
      rw [hsz, List.take_length] at hxs
      k_steps
      exact ret _ _ xs _ _ _ _ _ _ (by assumption) (cb_drop (by assumption) (List.forall_mem_cons.mpr ⟨by k_mem, List.forall_mem_cons.mpr ⟨by k_mem, fun q hq => by repeat' (first | exact hq | refine List.mem_cons_of_mem _ ?_ | refine List.mem_append_right _ ?_ | refine lift_sub (by assumption) ?_)⟩⟩)) hI5 hxs
end
theorem fresh08 : True := by
  w_top off
  k_with_none
  k_with "enter K" => (first | assumption | exact rfl)
  k_with "enter binds" => (first | exact BindsTo.of_eq rfl | exact binds_K (by k_in) rfl (by k_is) rfl rfl rfl | fail "k_enter: no rule for these arguments")
  k_with "room" => (first | ((try simp only [depth_under_make, depth_under_kw, depth_in1, depth_deeper, depth_caller]); (try dsimp only [ktrTop]); lia) | ((try simp only [depth_under_make, depth_under_kw, depth_in1, depth_deeper, depth_caller]); decide))
  k_with "enter" => (refine' code_defC (by k_asm) (by k_asm) (by k_asm) (by k_asm) (by k_asm) (by exact rfl) (by exact rfl) (by walk_at "enter K") (by k_is) (by k_is) (by k_room) (by walk_at "enter binds") (by exact rfl) (by decide +kernel) ?_ (by exact rfl) (by exact rfl) (by exact rfl); k_whole; intro _ _ _ _ _ _ _; intro N' Y' B'; (try k_lift B'); revert B'; intro _ _ _; intro l1; (try k_lt l1); revert l1; intro _; k_cells Y'; (try simp only [List.cons_append, List.nil_append] at N'); revert N'; intro _; (try dsimp only); (try k_fold))
  k_with "enter" => (refine' code_def (by k_asm) (by k_asm) (by k_asm) (by k_asm) (by k_asm) (by exact rfl) (by exact rfl) (by walk_at "enter K") (by k_is) (by k_is) (by k_room) (by walk_at "enter binds") (by exact locs rfl) ?_ (by exact rfl) (by exact rfl) (by exact rfl) ?_; rotate_left; decide; k_whole; intro _ _ _ _ _ _; intro B'; (try k_lift B'); revert B'; intro _ _ _; (try dsimp only); (try k_fold))
  k_with "binaryOp Pow int int" => (with_reducible refine pow_int_small ?_ ?_ ?_ ?_; (first | decide | lia); (first | decide | lia); decide)
  k_with "rel" => (first | exact List.Mem.head _ | (refine' List.mem_cons_of_mem _ ?_; ktr_rel) | ktr_member | (refine' List.mem_append_right _ ?_; ktr_rel) | (refine' lift_sub (by assumption) ?_; ktr_rel))
  k_with "ite" => (k_dflt (first | refine ite_pos (by (simp only [beq_iff_eq, bne_iff_ne, decide_eq_true_eq, ne_eq]); lia) ?_ | refine ite_neg (by (simp only [beq_iff_eq, bne_iff_ne, decide_eq_true_eq, ne_eq]); lia) ?_))
  k_with "eval Call" => (k_fold)
  k_with "exec Assign" => (k_fold)
  k_with "eval BinOp" => (k_fold)
  k_with "isTrue BoolOp" => (k_fold)
  k_with "isTrue Compare" => (k_fold)
  k_with "eval Compare" => (k_fold)
  k_with "eval Tuple" => (k_fold)
  k_with "eval List" => (k_fold)
  k_with "eval Subscript" => (k_fold)
  k_with "exec Expr" => (k_fold)
  k_with "exec If" => (k_fold)
  k_with "exec Return" => (k_fold)
  k_with "eval Call Attribute" => (k_fold)
  k_with "do K" => (first | assumption | exact rfl)
  k_with "do tails" => (exact fun q hq => by repeat' (first | exact hq | refine List.mem_cons_of_mem _ ?_ | refine List.mem_append_right _ ?_ | refine lift_sub (by assumption) ?_))
  k_with "do dec" => (first | assumption | exact Dec.sub (by assumption) (fun q hq => by repeat' (first | exact hq | refine List.mem_cons_of_mem _ ?_ | refine List.mem_append_right _ ?_ | refine lift_sub (by assumption) ?_)) | exact ⟨_, _, by k_mem, by k_mem, by assumption⟩ | exact ⟨_, _, by k_mem, by k_mem, ⟨_, _, _, _, _, _, rfl, by assumption⟩⟩ | exact ⟨_, _, by k_mem, by k_mem, decO_whole⟩)
  k_with "do newdec" => (intro _ _ _ _ _ _ _ _ _ _ _ _ _ _; intro l2; (try k_lt2 l2); revert l2; intro _; (try k_sweep))
  k_with "do gotdec" => (intro _ _ _ _ _ _ _ _ _ _ _ _ _ _ _ _ _; (try k_sweep))
  k_with "do mod" => (k_dflt (refine mod_int' (by lia) ?_))
  k_with "do newlist" => (k_here; k_dflt (refine' newList_K (by k_asm) (by k_asm) ?_; k_whole; intro _ _ _ _ _; (try k_sweep)))
  k_with "do for" => (k_here; (with_unfolding_all refine' For_invVF ‹Fr _ _ _ _› (by exact rfl) (by exact rfl) ?_; k_whole))
  k_with "call ref cons nil" => (k_here; (with_reducible show wpAny _ _ (call (Value.ref 155) [Value.int _ _, Value.int _ _]) _ _ _); k_dflt (refine' mk_ok (by k_asm) (by k_asm) (by k_asm) (by k_asm) (by k_asm) (by walk_at "do K") (by k_room) (by first | exact Or.inl rfl | exact Or.inr rfl | assumption | lia) ?_; k_whole; walk_at "do newdec"))
  k_with "do num" => (first | assumption | exact Num.sub (by assumption) (fun q hq => by repeat' (first | exact hq | refine List.mem_cons_of_mem _ ?_ | refine List.mem_append_right _ ?_ | refine lift_sub (by assumption) ?_)) | exact .inl ⟨_, rfl, by walk_at "do dec"⟩ | exact .inr ⟨_, _, rfl, rfl⟩)
  k_with "after dof_num" => (intro _ _ _ _ _ _ _ _ _ _ _ _ _ _ _ _ _ _ _; (try k_sweep))
  k_with "call ref cons nil" => (k_here; (with_reducible show wpAny _ _ (call (Value.ref 173) [_]) _ _ _); k_dflt (refine' dof_num (by k_asm) (by k_asm) (by k_asm) (by k_asm) (by k_asm) (by walk_at "do K") (by k_room) (by walk_at "do num") (by walk_at "do tails") ?_; k_whole; walk_at "after dof_num"))
  k_with "after dof_int" => (intro _ _ _ _ _ _ _ _ _ _ _; intro l2; (try k_lt2 l2); revert l2; intro _; (try k_sweep))
  k_with "call ref cons nil" => (k_here; (with_reducible show wpAny _ _ (call (Value.ref 173) [Value.int _ _]) _ _ _); k_dflt (refine' dof_int (by k_asm) (by k_asm) (by k_asm) (by k_asm) (by k_asm) (by walk_at "do K") (by k_room)  ?_; k_whole; walk_at "after dof_int"))
  k_with "after dof_dec" => (intro _ _ _ _; (try k_sweep))
  k_with "call ref cons nil" => (k_here; (with_reducible show wpAny _ _ (call (Value.ref 173) [Value.ref _]) _ _ _); k_dflt (refine' dof_dec (by k_asm) (by k_asm) (by k_asm) (by k_asm) (by k_asm) (by walk_at "do K") (by k_room) (by walk_at "do dec") ?_; k_whole; walk_at "after dof_dec"))
  k_with "after scale_n" => (intro _ _ _ _ _ _ _ _ _ _ _ _ _; (try k_sweep))
  k_with "call ref cons nil" => (k_here; (with_reducible show wpAny _ _ (call (Value.ref 180) [_, _]) _ _ _); k_dflt (refine' scale_n (by k_asm) (by k_asm) (by k_asm) (by k_asm) (by k_asm) (by walk_at "do K") (by k_room) (by walk_at "do num") (by walk_at "do num") ?_; k_whole; walk_at "after scale_n"))
  k_with "call ref cons nil" => (k_here; (with_reducible show wpAny _ _ (call (Value.ref 82) [Value.ref _, Value.ref _]) _ _ _); k_dflt (refine' plus_ok (by k_asm) (by k_asm) (by k_asm) (by k_asm) (by k_asm) (by walk_at "do K") (by k_room) (by walk_at "do dec") (by walk_at "do dec") ?_; k_whole; walk_at "do newdec"))
  k_with "call ref cons nil" => (k_here; (with_reducible show wpAny _ _ (call (Value.ref 89) [Value.ref _, _]) _ _ _); k_dflt (refine' minus_n (by k_asm) (by k_asm) (by k_asm) (by k_asm) (by k_asm) (by walk_at "do K") (by k_room) (by walk_at "do dec") (by walk_at "do num") ?_; k_whole; walk_at "do newdec"))
  k_with "call ref cons nil" => (k_here; (with_reducible show wpAny _ _ (call (Value.ref 96) [Value.ref _, Value.int _ _]) _ _ _); k_dflt (refine' times_di (by k_asm) (by k_asm) (by k_asm) (by k_asm) (by k_asm) (by walk_at "do K") (by k_room) (by walk_at "do dec") (by first | assumption | lia | (simp only [fm2]; lia) | exact fdiv_bound (by lia) (by lia) (by lia)) ?_; k_whole; walk_at "do newdec"))
  k_with "after cmp_dd" => (intro _ _ _ _ _ _ _; (try k_sweep))
  k_with "call ref cons nil" => (k_here; (with_reducible show wpAny _ _ (call (Value.ref 110) [Value.ref _, Value.ref _]) _ _ _); k_dflt (refine' cmp_dd (by k_asm) (by k_asm) (by k_asm) (by k_asm) (by k_asm) (by walk_at "do K") (by k_room) (by walk_at "do dec") (by walk_at "do dec") ?_; k_whole; walk_at "after cmp_dd"))
  k_with "after told_d" => (intro _ _ _ _ _ _ _ _ _ _ _ _; (try k_sweep))
  k_with "call ref cons nil" => (k_here; (with_reducible show wpAny _ _ (call (Value.ref 138) [Value.ref _]) _ _ _); k_dflt (refine' told_d (by k_asm) (by k_asm) (by k_asm) (by k_asm) (by k_asm) (by walk_at "do K") (by k_room) (by walk_at "do dec") ?_; k_whole; walk_at "after told_d"))
  k_with "do item" => (k_here; (with_reducible show wpAny _ _ (subscriptTail _ _ (Value.ref _) (Value.int _ _)) _ _ _); k_dflt (refine' item_led (by k_asm) (by k_mem) (by first | decide | assumption) (by first | decide | assumption) (by assumption) ?_ (by with_unfolding_all rfl); k_whole))
  k_with "do len" => (k_here; (with_reducible show wpAny _ _ (call (Value.builtin "len") [Value.ref _]) _ _ _); k_dflt (refine' len_led (by k_asm) (by k_mem) (by lia) ?_; k_whole))
  k_with "do decs" => (first | assumption | exact Decs.sub (by assumption) (fun q hq => by repeat' (first | exact hq | refine List.mem_cons_of_mem _ ?_ | refine List.mem_append_right _ ?_ | refine lift_sub (by assumption) ?_)) | exact decs2 (by first | assumption | exact Dec.sub (by assumption) (fun q hq => by repeat' (first | exact hq | refine List.mem_cons_of_mem _ ?_ | refine List.mem_append_right _ ?_ | refine lift_sub (by assumption) ?_)) | exact ⟨_, _, by k_mem, by k_mem, by assumption⟩ | exact ⟨_, _, by k_mem, by k_mem, ⟨_, _, _, _, _, _, rfl, by assumption⟩⟩ | exact ⟨_, _, by k_mem, by k_mem, decO_whole⟩) (by first | assumption | exact Dec.sub (by assumption) (fun q hq => by repeat' (first | exact hq | refine List.mem_cons_of_mem _ ?_ | refine List.mem_append_right _ ?_ | refine lift_sub (by assumption) ?_)) | exact ⟨_, _, by k_mem, by k_mem, by assumption⟩ | exact ⟨_, _, by k_mem, by k_mem, ⟨_, _, _, _, _, _, rfl, by assumption⟩⟩ | exact ⟨_, _, by k_mem, by k_mem, decO_whole⟩))
  k_with "after least_ok" => (intro _ _ _ _ _ _ _ _ _; (try k_sweep))
  k_with "call ref cons nil" => (k_here; (with_reducible show wpAny _ _ (call (Value.ref 199) [Value.ref _]) _ _ _); k_dflt (refine' least_ok (by k_asm) (by k_asm) (by k_asm) (by k_asm) (by k_asm) (by walk_at "do K") (by k_room) (by k_mem) (by walk_at "do decs") (by first | assumption | exact ⟨Nat.le_of_ble_eq_true rfl, Nat.le_of_ble_eq_true rfl⟩ | exact ⟨by lia, by lia⟩) ?_; k_whole; walk_at "after least_ok"))
  k_with "after greatest_ok" => (intro _ _ _ _ _ _ _ _ _; (try k_sweep))
  k_with "call ref cons nil" => (k_here; (with_reducible show wpAny _ _ (call (Value.ref 206) [Value.ref _]) _ _ _); k_dflt (refine' greatest_ok (by k_asm) (by k_asm) (by k_asm) (by k_asm) (by k_asm) (by walk_at "do K") (by k_room) (by k_mem) (by walk_at "do decs") (by first | assumption | exact ⟨Nat.le_of_ble_eq_true rfl, Nat.le_of_ble_eq_true rfl⟩ | exact ⟨by lia, by lia⟩) ?_; k_whole; walk_at "after greatest_ok"))
  k_with "after tops_ok" => (intro _ _ _ _ _ _ _ _ _ _ _ _ _; (try k_sweep))
  k_with "call ref cons nil" => (k_here; (with_reducible show wpAny _ _ (call (Value.ref 185) [Value.ref _]) _ _ _); k_dflt (refine' tops_ok (by k_asm) (by k_asm) (by k_asm) (by k_asm) (by k_asm) (by walk_at "do K") (by k_room) (by k_mem) (by walk_at "do decs") (by first | assumption | exact ⟨by lia, by lia⟩) ?_; k_whole; walk_at "after tops_ok"))
  trivial
theorem sum_map10 (xs : List Int) : (xs.map (10 * ·)).sum = 10 * xs.sum := by
  induction xs with
  | nil => rfl
  | cons a r ih => simp only [List.map_cons, List.sum_cons, ih]; lia
theorem dv_tops {ts xs : List Int} {p : Int} (h : p = 0 ∧ ts = xs.map (10 * ·) ∨ p = 1 ∧ ts = xs) : dv xs.sum p = ts.sum := by
  rcases h with ⟨rfl, rfl⟩ | ⟨rfl, rfl⟩
  · rw [sum_map10]; rfl
  · rfl
section
variable {w : World} {mean : ExcName → Option Value} {mg mb : Str → Option Value} {dp un : Nat} {gd : Option (List Code)} {cn : Str} {cs : Scope} {a : Addr} {ccd : Value} {cl : List (Str × Addr)} {outer : List Env} {A₀ : Around} {base h₀ : Heap} {L : Addr} {m : Str → Option Value} {news : List (Addr × Obj)} {s : Shared} {Q E : Value → Shared → Prop}
theorem sum_ok {l : Addr} {vs : List Value} {ts : List Int} {c : Nat} (B : Below A₀ base outer h₀) (F : Fr h₀ L s.heap m) (X : (hd.heap_39 w.params).In h₀) (N : News h₀ L s.heap news) (T : TheTop mean mg mb h₀) (hkf : cs.kind = .function) (hdp : dp + 20 < recursionLimit)
  (hl : (l, ({ cls := .type "list", data := .seq vs.toArray c } : Obj)) ∈ news) (hv : Decs w.params news vs ts) (hn : 0 < vs.length ∧ vs.length ≤ 400)
  (ret : ∀ r d k1 k2 xz tz pz uz h' tk', Fr h₀ L h' m → News h₀ L h' ((r, instObj 155 d) :: (d, decD w.params k1 k2 xz tz pz uz) :: news) → NF xz pz (ts.sum) → (∀ q ∈ news, q.1 < d) → d < r → Q (.ref r) { s with heap := h', toks := tk' }) :
  wpAny (model PySem.Challenge.rw_qd0123_01.row.prog w) (ktrTop dp un gd cn cs L a ccd cl outer) (call (.ref 192) [.ref l]) Q E s := by
  revert X
  k_fill
  intro X
  refine wpAny_call ?_
  k_dflt k_enter
  k_steps
  exact ret _ _ _ _ _ _ _ _ _ _ (by assumption) (cb_drop (by assumption) (List.forall_mem_cons.mpr ⟨by k_mem, List.forall_mem_cons.mpr ⟨by k_mem, fun q hq => by repeat' (first | exact hq | refine List.mem_cons_of_mem _ ?_ | refine List.mem_append_right _ ?_ | refine lift_sub (by assumption) ?_)⟩⟩)) (NF.as (by assumption) (dv_tops (by assumption))) (lt_sub (by assumption) (fun q hq => by repeat' (first | exact hq | refine List.mem_cons_of_mem _ ?_ | refine List.mem_append_right _ ?_ | refine lift_sub (by assumption) ?_))) (by assumption)
end
theorem fresh09 : True := by
  w_top off
  k_with_none
  k_with "enter K" => (first | assumption | exact rfl)
  k_with "enter binds" => (first | exact BindsTo.of_eq rfl | exact binds_K (by k_in) rfl (by k_is) rfl rfl rfl | fail "k_enter: no rule for these arguments")
  k_with "room" => (first | ((try simp only [depth_under_make, depth_under_kw, depth_in1, depth_deeper, depth_caller]); (try dsimp only [ktrTop]); lia) | ((try simp only [depth_under_make, depth_under_kw, depth_in1, depth_deeper, depth_caller]); decide))
  k_with "enter" => (refine' code_defC (by k_asm) (by k_asm) (by k_asm) (by k_asm) (by k_asm) (by exact rfl) (by exact rfl) (by walk_at "enter K") (by k_is) (by k_is) (by k_room) (by walk_at "enter binds") (by exact rfl) (by decide +kernel) ?_ (by exact rfl) (by exact rfl) (by exact rfl); k_whole; intro _ _ _ _ _ _ _; intro N' Y' B'; (try k_lift B'); revert B'; intro _ _ _; intro l1; (try k_lt l1); revert l1; intro _; k_cells Y'; (try simp only [List.cons_append, List.nil_append] at N'); revert N'; intro _; (try dsimp only); (try k_fold))
  k_with "enter" => (refine' code_def (by k_asm) (by k_asm) (by k_asm) (by k_asm) (by k_asm) (by exact rfl) (by exact rfl) (by walk_at "enter K") (by k_is) (by k_is) (by k_room) (by walk_at "enter binds") (by exact locs rfl) ?_ (by exact rfl) (by exact rfl) (by exact rfl) ?_; rotate_left; decide; k_whole; intro _ _ _ _ _ _; intro B'; (try k_lift B'); revert B'; intro _ _ _; (try dsimp only); (try k_fold))
  k_with "binaryOp Pow int int" => (with_reducible refine pow_int_small ?_ ?_ ?_ ?_; (first | decide | lia); (first | decide | lia); decide)
  k_with "rel" => (first | exact List.Mem.head _ | (refine' List.mem_cons_of_mem _ ?_; ktr_rel) | ktr_member | (refine' List.mem_append_right _ ?_; ktr_rel) | (refine' lift_sub (by assumption) ?_; ktr_rel))
  k_with "ite" => (k_dflt (first | refine ite_pos (by (simp only [beq_iff_eq, bne_iff_ne, decide_eq_true_eq, ne_eq]); lia) ?_ | refine ite_neg (by (simp only [beq_iff_eq, bne_iff_ne, decide_eq_true_eq, ne_eq]); lia) ?_))
  k_with "exec Assign" => (k_fold)
  k_with "eval BinOp" => (k_fold)
  k_with "isTrue BoolOp" => (k_fold)
  k_with "isTrue Compare" => (k_fold)
  k_with "eval Compare" => (k_fold)
  k_with "eval Tuple" => (k_fold)
  k_with "eval List" => (k_fold)
  k_with "eval Subscript" => (k_fold)
  k_with "exec Expr" => (k_fold)
  k_with "exec If" => (k_fold)
  k_with "exec Return" => (k_fold)
  k_with "eval Call Attribute" => (k_fold)
  k_with "do K" => (first | assumption | exact rfl)
  k_with "do tails" => (exact fun q hq => by repeat' (first | exact hq | refine List.mem_cons_of_mem _ ?_ | refine List.mem_append_right _ ?_ | refine lift_sub (by assumption) ?_))
  k_with "do dec" => (first | assumption | exact Dec.sub (by assumption) (fun q hq => by repeat' (first | exact hq | refine List.mem_cons_of_mem _ ?_ | refine List.mem_append_right _ ?_ | refine lift_sub (by assumption) ?_)) | exact ⟨_, _, by k_mem, by k_mem, by assumption⟩ | exact ⟨_, _, by k_mem, by k_mem, ⟨_, _, _, _, _, _, rfl, by assumption⟩⟩ | exact ⟨_, _, by k_mem, by k_mem, decO_whole⟩)
  k_with "do newdec" => (intro _ _ _ _ _ _ _ _ _ _ _ _ _ _; intro l2; (try k_lt2 l2); revert l2; intro _; (try k_sweep))
  k_with "do gotdec" => (intro _ _ _ _ _ _ _ _ _ _ _ _ _ _ _ _ _; (try k_sweep))
  k_with "do mod" => (k_dflt (refine mod_int' (by lia) ?_))
  k_with "do newlist" => (k_here; k_dflt (refine' newList_K (by k_asm) (by k_asm) ?_; k_whole; intro _ _ _ _ _; (try k_sweep)))
  k_with "do for" => (k_here; (with_unfolding_all refine' For_invVF ‹Fr _ _ _ _› (by exact rfl) (by exact rfl) ?_; k_whole))
  k_with "call ref cons nil" => (k_here; (with_reducible show wpAny _ _ (call (Value.ref 155) [Value.int _ _, Value.int _ _]) _ _ _); k_dflt (refine' mk_ok (by k_asm) (by k_asm) (by k_asm) (by k_asm) (by k_asm) (by walk_at "do K") (by k_room) (by first | exact Or.inl rfl | exact Or.inr rfl | assumption | lia) ?_; k_whole; walk_at "do newdec"))
  k_with "do num" => (first | assumption | exact Num.sub (by assumption) (fun q hq => by repeat' (first | exact hq | refine List.mem_cons_of_mem _ ?_ | refine List.mem_append_right _ ?_ | refine lift_sub (by assumption) ?_)) | exact .inl ⟨_, rfl, by walk_at "do dec"⟩ | exact .inr ⟨_, _, rfl, rfl⟩)
  k_with "after dof_num" => (intro _ _ _ _ _ _ _ _ _ _ _ _ _ _ _ _ _ _ _; (try k_sweep))
  k_with "call ref cons nil" => (k_here; (with_reducible show wpAny _ _ (call (Value.ref 173) [_]) _ _ _); k_dflt (refine' dof_num (by k_asm) (by k_asm) (by k_asm) (by k_asm) (by k_asm) (by walk_at "do K") (by k_room) (by walk_at "do num") (by walk_at "do tails") ?_; k_whole; walk_at "after dof_num"))
  k_with "after dof_int" => (intro _ _ _ _ _ _ _ _ _ _ _; intro l2; (try k_lt2 l2); revert l2; intro _; (try k_sweep))
  k_with "call ref cons nil" => (k_here; (with_reducible show wpAny _ _ (call (Value.ref 173) [Value.int _ _]) _ _ _); k_dflt (refine' dof_int (by k_asm) (by k_asm) (by k_asm) (by k_asm) (by k_asm) (by walk_at "do K") (by k_room)  ?_; k_whole; walk_at "after dof_int"))
  k_with "after dof_dec" => (intro _ _ _ _; (try k_sweep))
  k_with "call ref cons nil" => (k_here; (with_reducible show wpAny _ _ (call (Value.ref 173) [Value.ref _]) _ _ _); k_dflt (refine' dof_dec (by k_asm) (by k_asm) (by k_asm) (by k_asm) (by k_asm) (by walk_at "do K") (by k_room) (by walk_at "do dec") ?_; k_whole; walk_at "after dof_dec"))
  k_with "after scale_n" => (intro _ _ _ _ _ _ _ _ _ _ _ _ _; (try k_sweep))
  k_with "call ref cons nil" => (k_here; (with_reducible show wpAny _ _ (call (Value.ref 180) [_, _]) _ _ _); k_dflt (refine' scale_n (by k_asm) (by k_asm) (by k_asm) (by k_asm) (by k_asm) (by walk_at "do K") (by k_room) (by walk_at "do num") (by walk_at "do num") ?_; k_whole; walk_at "after scale_n"))
  k_with "call ref cons nil" => (k_here; (with_reducible show wpAny _ _ (call (Value.ref 82) [Value.ref _, Value.ref _]) _ _ _); k_dflt (refine' plus_ok (by k_asm) (by k_asm) (by k_asm) (by k_asm) (by k_asm) (by walk_at "do K") (by k_room) (by walk_at "do dec") (by walk_at "do dec") ?_; k_whole; walk_at "do newdec"))
  k_with "call ref cons nil" => (k_here; (with_reducible show wpAny _ _ (call (Value.ref 89) [Value.ref _, _]) _ _ _); k_dflt (refine' minus_n (by k_asm) (by k_asm) (by k_asm) (by k_asm) (by k_asm) (by walk_at "do K") (by k_room) (by walk_at "do dec") (by walk_at "do num") ?_; k_whole; walk_at "do newdec"))
  k_with "call ref cons nil" => (k_here; (with_reducible show wpAny _ _ (call (Value.ref 96) [Value.ref _, Value.int _ _]) _ _ _); k_dflt (refine' times_di (by k_asm) (by k_asm) (by k_asm) (by k_asm) (by k_asm) (by walk_at "do K") (by k_room) (by walk_at "do dec") (by first | assumption | lia | (simp only [fm2]; lia) | exact fdiv_bound (by lia) (by lia) (by lia)) ?_; k_whole; walk_at "do newdec"))
  k_with "after cmp_dd" => (intro _ _ _ _ _ _ _; (try k_sweep))
  k_with "call ref cons nil" => (k_here; (with_reducible show wpAny _ _ (call (Value.ref 110) [Value.ref _, Value.ref _]) _ _ _); k_dflt (refine' cmp_dd (by k_asm) (by k_asm) (by k_asm) (by k_asm) (by k_asm) (by walk_at "do K") (by k_room) (by walk_at "do dec") (by walk_at "do dec") ?_; k_whole; walk_at "after cmp_dd"))
  k_with "after told_d" => (intro _ _ _ _ _ _ _ _ _ _ _ _; (try k_sweep))
  k_with "call ref cons nil" => (k_here; (with_reducible show wpAny _ _ (call (Value.ref 138) [Value.ref _]) _ _ _); k_dflt (refine' told_d (by k_asm) (by k_asm) (by k_asm) (by k_asm) (by k_asm) (by walk_at "do K") (by k_room) (by walk_at "do dec") ?_; k_whole; walk_at "after told_d"))
  k_with "do item" => (k_here; (with_reducible show wpAny _ _ (subscriptTail _ _ (Value.ref _) (Value.int _ _)) _ _ _); k_dflt (refine' item_led (by k_asm) (by k_mem) (by first | decide | assumption) (by first | decide | assumption) (by assumption) ?_ (by with_unfolding_all rfl); k_whole))
  k_with "do len" => (k_here; (with_reducible show wpAny _ _ (call (Value.builtin "len") [Value.ref _]) _ _ _); k_dflt (refine' len_led (by k_asm) (by k_mem) (by lia) ?_; k_whole))
  k_with "do decs" => (first | assumption | exact Decs.sub (by assumption) (fun q hq => by repeat' (first | exact hq | refine List.mem_cons_of_mem _ ?_ | refine List.mem_append_right _ ?_ | refine lift_sub (by assumption) ?_)) | exact decs2 (by first | assumption | exact Dec.sub (by assumption) (fun q hq => by repeat' (first | exact hq | refine List.mem_cons_of_mem _ ?_ | refine List.mem_append_right _ ?_ | refine lift_sub (by assumption) ?_)) | exact ⟨_, _, by k_mem, by k_mem, by assumption⟩ | exact ⟨_, _, by k_mem, by k_mem, ⟨_, _, _, _, _, _, rfl, by assumption⟩⟩ | exact ⟨_, _, by k_mem, by k_mem, decO_whole⟩) (by first | assumption | exact Dec.sub (by assumption) (fun q hq => by repeat' (first | exact hq | refine List.mem_cons_of_mem _ ?_ | refine List.mem_append_right _ ?_ | refine lift_sub (by assumption) ?_)) | exact ⟨_, _, by k_mem, by k_mem, by assumption⟩ | exact ⟨_, _, by k_mem, by k_mem, ⟨_, _, _, _, _, _, rfl, by assumption⟩⟩ | exact ⟨_, _, by k_mem, by k_mem, decO_whole⟩))
  k_with "after least_ok" => (intro _ _ _ _ _ _ _ _ _; (try k_sweep))
  k_with "call ref cons nil" => (k_here; (with_reducible show wpAny _ _ (call (Value.ref 199) [Value.ref _]) _ _ _); k_dflt (refine' least_ok (by k_asm) (by k_asm) (by k_asm) (by k_asm) (by k_asm) (by walk_at "do K") (by k_room) (by k_mem) (by walk_at "do decs") (by first | assumption | exact ⟨Nat.le_of_ble_eq_true rfl, Nat.le_of_ble_eq_true rfl⟩ | exact ⟨by lia, by lia⟩) ?_; k_whole; walk_at "after least_ok"))
  k_with "after greatest_ok" => (intro _ _ _ _ _ _ _ _ _; (try k_sweep))
  k_with "call ref cons nil" => (k_here; (with_reducible show wpAny _ _ (call (Value.ref 206) [Value.ref _]) _ _ _); k_dflt (refine' greatest_ok (by k_asm) (by k_asm) (by k_asm) (by k_asm) (by k_asm) (by walk_at "do K") (by k_room) (by k_mem) (by walk_at "do decs") (by first | assumption | exact ⟨Nat.le_of_ble_eq_true rfl, Nat.le_of_ble_eq_true rfl⟩ | exact ⟨by lia, by lia⟩) ?_; k_whole; walk_at "after greatest_ok"))
  k_with "after tops_ok" => (intro _ _ _ _ _ _ _ _ _ _ _ _ _; (try k_sweep))
  k_with "call ref cons nil" => (k_here; (with_reducible show wpAny _ _ (call (Value.ref 185) [Value.ref _]) _ _ _); k_dflt (refine' tops_ok (by k_asm) (by k_asm) (by k_asm) (by k_asm) (by k_asm) (by walk_at "do K") (by k_room) (by k_mem) (by walk_at "do decs") (by first | assumption | exact ⟨by lia, by lia⟩) ?_; k_whole; walk_at "after tops_ok"))
  k_with "call ref cons nil" => (k_here; (with_reducible show wpAny _ _ (call (Value.ref 192) [Value.ref _]) _ _ _); k_dflt (refine' sum_ok (by k_asm) (by k_asm) (by k_asm) (by k_asm) (by k_asm) (by walk_at "do K") (by k_room) (by k_mem) (by walk_at "do decs") (by first | assumption | exact ⟨by lia, by lia⟩) ?_; k_whole; walk_at "do newdec"))
  k_with "do div" => (k_dflt (refine floordiv_int (by lia) ?_ (Or.inl (PyProof.noPylong_small (by lia)))))
  k_with "binaryOp FloorDiv int int" => (walk_at "do div")
  k_with "call builtin:len" => (walk_at "do len")
  trivial
theorem tens_div (a : Int) {y : Int} (hy : 0 < y) : (10 * a + 9) / (10 * y) = a / y := by
  have h1 := Int.mul_ediv_add_emod a y
  have h2 := Int.emod_nonneg a (by lia : y ≠ 0)
  have h3 := Int.emod_lt_of_pos a hy
  have h4 : 10 * a + 9 = (10 * (a % y) + 9) + (10 * y) * (a / y) := by
    have : 10 * y * (a / y) = 10 * (y * (a / y)) := Int.mul_assoc ..
    lia
  rw [h4, Int.add_mul_ediv_left _ _ (by lia), Int.ediv_eq_zero_of_lt (by lia) (by lia)]
  lia
theorem ahead_eq {x y p f P : Int} (h : p = 0 ∧ f = 10 * x ∧ P = 10 * y ∨ p = 1 ∧ f = x ∧ P = y) (hP : 0 < P) : (x - 1).fdiv y = (f - 1) / P := by
  rcases h with ⟨rfl, rfl, rfl⟩ | ⟨rfl, rfl, rfl⟩
  · have hy : 0 < y := by lia
    rw [Int.fdiv_eq_ediv_of_nonneg _ (by lia)]
    have e : 10 * x - 1 = 10 * (x - 1) + 9 := by lia
    rw [e, tens_div _ hy]
  · rw [Int.fdiv_eq_ediv_of_nonneg _ (by lia)]
theorem pat_bound {S : Int} (n : Nat) (hs : 0 < S ∧ S ≤ 1000) : 0 < S * (1 + (n : Int).fmod 2) ∧ S * (1 + (n : Int).fmod 2) ≤ 2000 := by
  rw [fm2]
  have h2 : (n : Int) % 2 = 0 ∨ (n : Int) % 2 = 1 := by lia
  rcases h2 with h | h <;> rw [h] <;> lia
section
variable {w : World} {mean : ExcName → Option Value} {mg mb : Str → Option Value} {dp un : Nat} {gd : Option (List Code)} {cn : Str} {cs : Scope} {a : Addr} {ccd : Value} {cl : List (Str × Addr)} {outer : List Env} {A₀ : Around} {base h₀ : Heap} {L : Addr} {m : Str → Option Value} {news : List (Addr × Obj)} {s : Shared} {Q E : Value → Shared → Prop}
theorem ahead_n {l : Addr} {vs : List Value} {ts : List Int} {c : Nat} {v : Value} {f : Int} (B : Below A₀ base outer h₀) (F : Fr h₀ L s.heap m) (X : (hd.heap_39 w.params).In h₀) (N : News h₀ L s.heap news) (T : TheTop mean mg mb h₀) (hkf : cs.kind = .function) (hdp : dp + 24 < recursionLimit)
  (hl : (l, ({ cls := .type "list", data := .seq vs.toArray c } : Obj)) ∈ news) (hv : Decs w.params news vs ts) (hn : 0 < vs.length ∧ vs.length ≤ 400) (hs : 0 < ts.sum ∧ ts.sum ≤ 1000) (hf : Num w.params news v f) (hb : 0 < f ∧ f < 2 ^ 50)
  (ret : ∀ r d k1 k2 xz tz pz uz h' tk', Fr h₀ L h' m → News h₀ L h' ((r, instObj 155 d) :: (d, decD w.params k1 k2 xz tz pz uz) :: news) → NF xz pz (ts.sum * (1 + (vs.length : Int) % 2) * ((f - 1) / (ts.sum * (1 + (vs.length : Int) % 2)))) → (∀ q ∈ news, q.1 < d) → d < r → Q (.ref r) { s with heap := h', toks := tk' }) :
  wpAny (model PySem.Challenge.rw_qd0123_01.row.prog w) (ktrTop dp un gd cn cs L a ccd cl outer) (call (.ref 213) [.ref l, v]) Q E s := by
  revert X
  k_fill
  intro X
  have hP := pat_bound vs.length hs
  refine wpAny_call ?_
  k_dflt k_enter
  k_steps
  exact ret _ _ _ _ _ _ _ _ _ _ (by assumption) (cb_drop (by assumption) (List.forall_mem_cons.mpr ⟨by k_mem, List.forall_mem_cons.mpr ⟨by k_mem, fun q hq => by repeat' (first | exact hq | refine List.mem_cons_of_mem _ ?_ | refine List.mem_append_right _ ?_ | refine lift_sub (by assumption) ?_)⟩⟩)) (NF.as (by assumption) (by rw [ahead_eq (by assumption) hP.1, fm2])) (lt_sub (by assumption) (fun q hq => by repeat' (first | exact hq | refine List.mem_cons_of_mem _ ?_ | refine List.mem_append_right _ ?_ | refine lift_sub (by assumption) ?_))) (by assumption)
end
theorem fresh10 : True := by
  w_top off
  k_with_none
  k_with "enter K" => (first | assumption | exact rfl)
  k_with "enter binds" => (first | exact BindsTo.of_eq rfl | exact binds_K (by k_in) rfl (by k_is) rfl rfl rfl | fail "k_enter: no rule for these arguments")
  k_with "room" => (first | ((try simp only [depth_under_make, depth_under_kw, depth_in1, depth_deeper, depth_caller]); (try dsimp only [ktrTop]); lia) | ((try simp only [depth_under_make, depth_under_kw, depth_in1, depth_deeper, depth_caller]); decide))
  k_with "enter" => (refine' code_defC (by k_asm) (by k_asm) (by k_asm) (by k_asm) (by k_asm) (by exact rfl) (by exact rfl) (by walk_at "enter K") (by k_is) (by k_is) (by k_room) (by walk_at "enter binds") (by exact rfl) (by decide +kernel) ?_ (by exact rfl) (by exact rfl) (by exact rfl); k_whole; intro _ _ _ _ _ _ _; intro N' Y' B'; (try k_lift B'); revert B'; intro _ _ _; intro l1; (try k_lt l1); revert l1; intro _; k_cells Y'; (try simp only [List.cons_append, List.nil_append] at N'); revert N'; intro _; (try dsimp only); (try k_fold))
  k_with "enter" => (refine' code_def (by k_asm) (by k_asm) (by k_asm) (by k_asm) (by k_asm) (by exact rfl) (by exact rfl) (by walk_at "enter K") (by k_is) (by k_is) (by k_room) (by walk_at "enter binds") (by exact locs rfl) ?_ (by exact rfl) (by exact rfl) (by exact rfl) ?_; rotate_left; decide; k_whole; intro _ _ _ _ _ _; intro B'; (try k_lift B'); revert B'; intro _ _ _; (try dsimp only); (try k_fold))
  k_with "binaryOp Pow int int" => (with_reducible refine pow_int_small ?_ ?_ ?_ ?_; (first | decide | lia); (first | decide | lia); decide)
  k_with "rel" => (first | exact List.Mem.head _ | (refine' List.mem_cons_of_mem _ ?_; ktr_rel) | ktr_member | (refine' List.mem_append_right _ ?_; ktr_rel) | (refine' lift_sub (by assumption) ?_; ktr_rel))
  k_with "ite" => (k_dflt (first | refine ite_pos (by (simp only [beq_iff_eq, bne_iff_ne, decide_eq_true_eq, ne_eq]); lia) ?_ | refine ite_neg (by (simp only [beq_iff_eq, bne_iff_ne, decide_eq_true_eq, ne_eq]); lia) ?_))
  k_with "eval Call" => (k_fold)
  k_with "exec Assign" => (k_fold)
  k_with "eval BinOp" => (k_fold)
  k_with "isTrue BoolOp" => (k_fold)
  k_with "isTrue Compare" => (k_fold)
  k_with "eval Compare" => (k_fold)
  k_with "eval Tuple" => (k_fold)
  k_with "eval List" => (k_fold)
  k_with "eval Subscript" => (k_fold)
  k_with "exec Expr" => (k_fold)
  k_with "exec If" => (k_fold)
  k_with "exec Return" => (k_fold)
  k_with "eval Call Attribute" => (k_fold)
  k_with "do K" => (first | assumption | exact rfl)
  k_with "do tails" => (exact fun q hq => by repeat' (first | exact hq | refine List.mem_cons_of_mem _ ?_ | refine List.mem_append_right _ ?_ | refine lift_sub (by assumption) ?_))
  k_with "do dec" => (first | assumption | exact Dec.sub (by assumption) (fun q hq => by repeat' (first | exact hq | refine List.mem_cons_of_mem _ ?_ | refine List.mem_append_right _ ?_ | refine lift_sub (by assumption) ?_)) | exact ⟨_, _, by k_mem, by k_mem, by assumption⟩ | exact ⟨_, _, by k_mem, by k_mem, ⟨_, _, _, _, _, _, rfl, by assumption⟩⟩ | exact ⟨_, _, by k_mem, by k_mem, decO_whole⟩)
  k_with "do newdec" => (intro _ _ _ _ _ _ _ _ _ _ _ _ _ _; intro l2; (try k_lt2 l2); revert l2; intro _; (try k_sweep))
  k_with "do gotdec" => (intro _ _ _ _ _ _ _ _ _ _ _ _ _ _ _ _ _; (try k_sweep))
  k_with "do mod" => (k_dflt (refine mod_int' (by lia) ?_))
  k_with "do newlist" => (k_here; k_dflt (refine' newList_K (by k_asm) (by k_asm) ?_; k_whole; intro _ _ _ _ _; (try k_sweep)))
  k_with "do for" => (k_here; (with_unfolding_all refine' For_invVF ‹Fr _ _ _ _› (by exact rfl) (by exact rfl) ?_; k_whole))
  k_with "call ref cons nil" => (k_here; (with_reducible show wpAny _ _ (call (Value.ref 155) [Value.int _ _, Value.int _ _]) _ _ _); k_dflt (refine' mk_ok (by k_asm) (by k_asm) (by k_asm) (by k_asm) (by k_asm) (by walk_at "do K") (by k_room) (by first | exact Or.inl rfl | exact Or.inr rfl | assumption | lia) ?_; k_whole; walk_at "do newdec"))
  k_with "do num" => (first | assumption | exact Num.sub (by assumption) (fun q hq => by repeat' (first | exact hq | refine List.mem_cons_of_mem _ ?_ | refine List.mem_append_right _ ?_ | refine lift_sub (by assumption) ?_)) | exact .inl ⟨_, rfl, by walk_at "do dec"⟩ | exact .inr ⟨_, _, rfl, rfl⟩)
  k_with "after dof_num" => (intro _ _ _ _ _ _ _ _ _ _ _ _ _ _ _ _ _ _ _; (try k_sweep))
  k_with "call ref cons nil" => (k_here; (with_reducible show wpAny _ _ (call (Value.ref 173) [_]) _ _ _); k_dflt (refine' dof_num (by k_asm) (by k_asm) (by k_asm) (by k_asm) (by k_asm) (by walk_at "do K") (by k_room) (by walk_at "do num") (by walk_at "do tails") ?_; k_whole; walk_at "after dof_num"))
  k_with "after dof_int" => (intro _ _ _ _ _ _ _ _ _ _ _; intro l2; (try k_lt2 l2); revert l2; intro _; (try k_sweep))
  k_with "call ref cons nil" => (k_here; (with_reducible show wpAny _ _ (call (Value.ref 173) [Value.int _ _]) _ _ _); k_dflt (refine' dof_int (by k_asm) (by k_asm) (by k_asm) (by k_asm) (by k_asm) (by walk_at "do K") (by k_room)  ?_; k_whole; walk_at "after dof_int"))
  k_with "after dof_dec" => (intro _ _ _ _; (try k_sweep))
  k_with "call ref cons nil" => (k_here; (with_reducible show wpAny _ _ (call (Value.ref 173) [Value.ref _]) _ _ _); k_dflt (refine' dof_dec (by k_asm) (by k_asm) (by k_asm) (by k_asm) (by k_asm) (by walk_at "do K") (by k_room) (by walk_at "do dec") ?_; k_whole; walk_at "after dof_dec"))
  k_with "after scale_n" => (intro _ _ _ _ _ _ _ _ _ _ _ _ _; (try k_sweep))
  k_with "call ref cons nil" => (k_here; (with_reducible show wpAny _ _ (call (Value.ref 180) [_, _]) _ _ _); k_dflt (refine' scale_n (by k_asm) (by k_asm) (by k_asm) (by k_asm) (by k_asm) (by walk_at "do K") (by k_room) (by walk_at "do num") (by walk_at "do num") ?_; k_whole; walk_at "after scale_n"))
  k_with "call ref cons nil" => (k_here; (with_reducible show wpAny _ _ (call (Value.ref 82) [Value.ref _, Value.ref _]) _ _ _); k_dflt (refine' plus_ok (by k_asm) (by k_asm) (by k_asm) (by k_asm) (by k_asm) (by walk_at "do K") (by k_room) (by walk_at "do dec") (by walk_at "do dec") ?_; k_whole; walk_at "do newdec"))
  k_with "call ref cons nil" => (k_here; (with_reducible show wpAny _ _ (call (Value.ref 89) [Value.ref _, _]) _ _ _); k_dflt (refine' minus_n (by k_asm) (by k_asm) (by k_asm) (by k_asm) (by k_asm) (by walk_at "do K") (by k_room) (by walk_at "do dec") (by walk_at "do num") ?_; k_whole; walk_at "do newdec"))
  k_with "call ref cons nil" => (k_here; (with_reducible show wpAny _ _ (call (Value.ref 96) [Value.ref _, Value.int _ _]) _ _ _); k_dflt (refine' times_di (by k_asm) (by k_asm) (by k_asm) (by k_asm) (by k_asm) (by walk_at "do K") (by k_room) (by walk_at "do dec") (by first | assumption | lia | (simp only [fm2]; lia) | exact fdiv_bound (by lia) (by lia) (by lia)) ?_; k_whole; walk_at "do newdec"))
  k_with "after cmp_dd" => (intro _ _ _ _ _ _ _; (try k_sweep))
  k_with "call ref cons nil" => (k_here; (with_reducible show wpAny _ _ (call (Value.ref 110) [Value.ref _, Value.ref _]) _ _ _); k_dflt (refine' cmp_dd (by k_asm) (by k_asm) (by k_asm) (by k_asm) (by k_asm) (by walk_at "do K") (by k_room) (by walk_at "do dec") (by walk_at "do dec") ?_; k_whole; walk_at "after cmp_dd"))
  k_with "after told_d" => (intro _ _ _ _ _ _ _ _ _ _ _ _; (try k_sweep))
  k_with "call ref cons nil" => (k_here; (with_reducible show wpAny _ _ (call (Value.ref 138) [Value.ref _]) _ _ _); k_dflt (refine' told_d (by k_asm) (by k_asm) (by k_asm) (by k_asm) (by k_asm) (by walk_at "do K") (by k_room) (by walk_at "do dec") ?_; k_whole; walk_at "after told_d"))
  k_with "do item" => (k_here; (with_reducible show wpAny _ _ (subscriptTail _ _ (Value.ref _) (Value.int _ _)) _ _ _); k_dflt (refine' item_led (by k_asm) (by k_mem) (by first | decide | assumption) (by first | decide | assumption) (by assumption) ?_ (by with_unfolding_all rfl); k_whole))
  k_with "do len" => (k_here; (with_reducible show wpAny _ _ (call (Value.builtin "len") [Value.ref _]) _ _ _); k_dflt (refine' len_led (by k_asm) (by k_mem) (by lia) ?_; k_whole))
  k_with "do decs" => (first | assumption | exact Decs.sub (by assumption) (fun q hq => by repeat' (first | exact hq | refine List.mem_cons_of_mem _ ?_ | refine List.mem_append_right _ ?_ | refine lift_sub (by assumption) ?_)) | exact decs2 (by first | assumption | exact Dec.sub (by assumption) (fun q hq => by repeat' (first | exact hq | refine List.mem_cons_of_mem _ ?_ | refine List.mem_append_right _ ?_ | refine lift_sub (by assumption) ?_)) | exact ⟨_, _, by k_mem, by k_mem, by assumption⟩ | exact ⟨_, _, by k_mem, by k_mem, ⟨_, _, _, _, _, _, rfl, by assumption⟩⟩ | exact ⟨_, _, by k_mem, by k_mem, decO_whole⟩) (by first | assumption | exact Dec.sub (by assumption) (fun q hq => by repeat' (first | exact hq | refine List.mem_cons_of_mem _ ?_ | refine List.mem_append_right _ ?_ | refine lift_sub (by assumption) ?_)) | exact ⟨_, _, by k_mem, by k_mem, by assumption⟩ | exact ⟨_, _, by k_mem, by k_mem, ⟨_, _, _, _, _, _, rfl, by assumption⟩⟩ | exact ⟨_, _, by k_mem, by k_mem, decO_whole⟩))
  k_with "after least_ok" => (intro _ _ _ _ _ _ _ _ _; (try k_sweep))
  k_with "call ref cons nil" => (k_here; (with_reducible show wpAny _ _ (call (Value.ref 199) [Value.ref _]) _ _ _); k_dflt (refine' least_ok (by k_asm) (by k_asm) (by k_asm) (by k_asm) (by k_asm) (by walk_at "do K") (by k_room) (by k_mem) (by walk_at "do decs") (by first | assumption | exact ⟨Nat.le_of_ble_eq_true rfl, Nat.le_of_ble_eq_true rfl⟩ | exact ⟨by lia, by lia⟩) ?_; k_whole; walk_at "after least_ok"))
  k_with "after greatest_ok" => (intro _ _ _ _ _ _ _ _ _; (try k_sweep))
  k_with "call ref cons nil" => (k_here; (with_reducible show wpAny _ _ (call (Value.ref 206) [Value.ref _]) _ _ _); k_dflt (refine' greatest_ok (by k_asm) (by k_asm) (by k_asm) (by k_asm) (by k_asm) (by walk_at "do K") (by k_room) (by k_mem) (by walk_at "do decs") (by first | assumption | exact ⟨Nat.le_of_ble_eq_true rfl, Nat.le_of_ble_eq_true rfl⟩ | exact ⟨by lia, by lia⟩) ?_; k_whole; walk_at "after greatest_ok"))
  k_with "after tops_ok" => (intro _ _ _ _ _ _ _ _ _ _ _ _ _; (try k_sweep))
  k_with "call ref cons nil" => (k_here; (with_reducible show wpAny _ _ (call (Value.ref 185) [Value.ref _]) _ _ _); k_dflt (refine' tops_ok (by k_asm) (by k_asm) (by k_asm) (by k_asm) (by k_asm) (by walk_at "do K") (by k_room) (by k_mem) (by walk_at "do decs") (by first | assumption | exact ⟨by lia, by lia⟩) ?_; k_whole; walk_at "after tops_ok"))
  k_with "call ref cons nil" => (k_here; (with_reducible show wpAny _ _ (call (Value.ref 192) [Value.ref _]) _ _ _); k_dflt (refine' sum_ok (by k_asm) (by k_asm) (by k_asm) (by k_asm) (by k_asm) (by walk_at "do K") (by k_room) (by k_mem) (by walk_at "do decs") (by first | assumption | exact ⟨by lia, by lia⟩) ?_; k_whole; walk_at "do newdec"))
  k_with "do div" => (k_dflt (refine floordiv_int (by lia) ?_ (Or.inl (PyProof.noPylong_small (by lia)))))
  k_with "call ref cons nil" => (k_here; (with_reducible show wpAny _ _ (call (Value.ref 213) [Value.ref _, _]) _ _ _); k_dflt (refine' ahead_n (by k_asm) (by k_asm) (by k_asm) (by k_asm) (by k_asm) (by walk_at "do K") (by k_room) (by k_mem) (by walk_at "do decs") (by first | assumption | exact ⟨by lia, by lia⟩) (by first | assumption | lia) (by walk_at "do num") (by first | assumption | lia) ?_; k_whole; walk_at "do newdec"))
  trivial
/-- where the k-th step begins, in tenths -/
noncomputable def posAt (ts : List Int) (near : Int) : Nat → Int
  | 0 => -near
  | k + 1 => posAt ts near k + ts.getD (k % ts.length) 0
noncomputable def spanAt (ts : List Int) (near T : Int) (k : Nat) : List (Int × Int) :=
  if k % 2 = 0 ∧ (0 < posAt ts near (k + 1) ∨ 0 ≤ posAt ts near k) then [(max (posAt ts near k) 0, min (posAt ts near (k + 1)) T)] else []
noncomputable def spansTo (ts : List Int) (near T : Int) : Nat → List (Int × Int)
  | 0 => []
  | k + 1 => spansTo ts near T k ++ spanAt ts near T k
theorem getD_nonneg {ts : List Int} (h : ∀ u ∈ ts, 0 ≤ u) (i : Nat) : 0 ≤ ts.getD i 0 := by
  rw [List.getD_eq_getElem?_getD]
  cases e : ts[i]? with
  | none => exact Int.le_refl _
  | some u => exact h u (List.mem_of_getElem? e)
theorem posAt_step {ts : List Int} (h : ∀ u ∈ ts, 0 ≤ u) (near : Int) (k : Nat) : posAt ts near k ≤ posAt ts near (k + 1) := by
  have := getD_nonneg h (k % ts.length)
  show posAt ts near k ≤ posAt ts near k + _
  lia
theorem posAt_mono {ts : List Int} (h : ∀ u ∈ ts, 0 ≤ u) (near : Int) {j k : Nat} (hjk : j ≤ k) : posAt ts near j ≤ posAt ts near k := by
  induction hjk with
  | refl => exact Int.le_refl _
  | step _ ih => exact Int.le_trans ih (posAt_step h near _)
theorem take_succ_sum (ts : List Int) (i : Nat) : (ts.take (i + 1)).sum = (ts.take i).sum + ts.getD i 0 := by
  rw [List.take_add_one, List.sum_append, List.getD_eq_getElem?_getD]
  cases e : ts[i]? <;> simp
/-- within the q-th round -/
theorem posAt_round {ts : List Int} (hn : 0 < ts.length) (near : Int) (q : Nat) : ∀ i, i ≤ ts.length → posAt ts near (ts.length * q + i) = posAt ts near (ts.length * q) + (ts.take i).sum
  | 0, _ => by simp
  | i + 1, h => by
    have ih := posAt_round hn near q i (by lia)
    show posAt ts near (ts.length * q + i) + ts.getD ((ts.length * q + i) % ts.length) 0 = _
    rw [ih, take_succ_sum, Nat.mul_add_mod, Nat.mod_eq_of_lt (by lia)]
    lia
theorem posAt_mul {ts : List Int} (hn : 0 < ts.length) (near : Int) : ∀ q : Nat, posAt ts near (ts.length * q) = -near + q * ts.sum
  | 0 => by simp [posAt]
  | q + 1 => by
    have e : ts.length * (q + 1) = ts.length * q + ts.length := Nat.mul_succ _ _
    rw [e, posAt_round hn near q _ (Nat.le_refl _), posAt_mul hn near q, List.take_length]
    have : ((q + 1 : Nat) : Int) * ts.sum = q * ts.sum + ts.sum := by rw [Int.natCast_succ, Int.add_mul]; lia
    lia
theorem posAt_far {ts : List Int} {near T : Int} (hn : 1 ≤ ts.length ∧ ts.length ≤ 4) (h0 : ∀ u ∈ ts, 0 ≤ u) (hs : 1 ≤ ts.sum) (hnear : near ≤ ts.sum * (1 + (ts.length : Int) % 2)) (hT : T ≤ 40) {k : Nat} (hk : posAt ts near k < T) : k < 168 := by
  rcases Nat.lt_or_ge k 168 with h | h
  · exact h
  exfalso
  have h1 := posAt_mono h0 near h
  have h2 : T ≤ posAt ts near 168 := by
    have hl : ts.length = 1 ∨ ts.length = 2 ∨ ts.length = 3 ∨ ts.length = 4 := by lia
    rcases hl with e | e | e | e
    · have h3 := posAt_mul (by lia : 0 < ts.length) near 168
      rw [e] at h3 hnear
      simp only [Nat.one_mul] at h3
      lia
    · have h3 := posAt_mul (by lia : 0 < ts.length) near 84
      rw [e] at h3 hnear
      simp only [Nat.reduceMul] at h3
      lia
    · have h3 := posAt_mul (by lia : 0 < ts.length) near 56
      rw [e] at h3 hnear
      simp only [Nat.reduceMul] at h3
      lia
    · have h3 := posAt_mul (by lia : 0 < ts.length) near 42
      rw [e] at h3 hnear
      simp only [Nat.reduceMul] at h3
      lia
  lia
theorem spans_len (ts : List Int) (near T : Int) : ∀ k, (spansTo ts near T k).length ≤ k
  | 0 => Nat.le_refl _
  | k + 1 => by
    have ih := spans_len ts near T k
    have h2 : (spanAt ts near T k).length ≤ 1 := by unfold spanAt; split <;> simp
    show (spansTo ts near T k ++ spanAt ts near T k).length ≤ k + 1
    rw [List.length_append]; lia
theorem fresh11 : True := by
  w_top off
  k_with_none
  k_with "enter K" => (first | assumption | exact rfl)
  k_with "enter binds" => (first | exact BindsTo.of_eq rfl | exact binds_K (by k_in) rfl (by k_is) rfl rfl rfl | fail "k_enter: no rule for these arguments")
  k_with "room" => (first | ((try simp only [depth_under_make, depth_under_kw, depth_in1, depth_deeper, depth_caller]); (try dsimp only [ktrTop]); lia) | ((try simp only [depth_under_make, depth_under_kw, depth_in1, depth_deeper, depth_caller]); decide))
  k_with "enter" => (refine' code_defC (by k_asm) (by k_asm) (by k_asm) (by k_asm) (by k_asm) (by exact rfl) (by exact rfl) (by walk_at "enter K") (by k_is) (by k_is) (by k_room) (by walk_at "enter binds") (by exact rfl) (by decide +kernel) ?_ (by exact rfl) (by exact rfl) (by exact rfl); k_whole; intro _ _ _ _ _ _ _; intro N' Y' B'; (try k_lift B'); revert B'; intro _ _ _; intro l1; (try k_lt l1); revert l1; intro _; k_cells Y'; (try simp only [List.cons_append, List.nil_append] at N'); revert N'; intro _; (try dsimp only); (try k_fold))
  k_with "enter" => (refine' code_def (by k_asm) (by k_asm) (by k_asm) (by k_asm) (by k_asm) (by exact rfl) (by exact rfl) (by walk_at "enter K") (by k_is) (by k_is) (by k_room) (by walk_at "enter binds") (by exact locs rfl) ?_ (by exact rfl) (by exact rfl) (by exact rfl) ?_; rotate_left; decide; k_whole; intro _ _ _ _ _ _; intro B'; (try k_lift B'); revert B'; intro _ _ _; (try dsimp only); (try k_fold))
  k_with "binaryOp Pow int int" => (with_reducible refine pow_int_small ?_ ?_ ?_ ?_; (first | decide | lia); (first | decide | lia); decide)
  k_with "rel" => (first | exact List.Mem.head _ | (refine' List.mem_cons_of_mem _ ?_; ktr_rel) | ktr_member | (refine' List.mem_append_right _ ?_; ktr_rel) | (refine' lift_sub (by assumption) ?_; ktr_rel))
  k_with "ite" => (k_dflt (first | refine ite_pos (by (simp only [beq_iff_eq, bne_iff_ne, decide_eq_true_eq, ne_eq]); lia) ?_ | refine ite_neg (by (simp only [beq_iff_eq, bne_iff_ne, decide_eq_true_eq, ne_eq]); lia) ?_))
  k_with "eval Call" => (k_fold)
  k_with "exec Assign" => (k_fold)
  k_with "eval BinOp" => (k_fold)
  k_with "isTrue BoolOp" => (k_fold)
  k_with "isTrue Compare" => (k_fold)
  k_with "eval Compare" => (k_fold)
  k_with "eval Tuple" => (k_fold)
  k_with "eval List" => (k_fold)
  k_with "eval Subscript" => (k_fold)
  k_with "exec Expr" => (k_fold)
  k_with "exec If" => (k_fold)
  k_with "exec Return" => (k_fold)
  k_with "eval Call Attribute" => (k_fold)
  k_with "do K" => (first | assumption | exact rfl)
  k_with "do tails" => (exact fun q hq => by repeat' (first | exact hq | refine List.mem_cons_of_mem _ ?_ | refine List.mem_append_right _ ?_ | refine lift_sub (by assumption) ?_))
  k_with "do dec" => (first | assumption | exact Dec.sub (by assumption) (fun q hq => by repeat' (first | exact hq | refine List.mem_cons_of_mem _ ?_ | refine List.mem_append_right _ ?_ | refine lift_sub (by assumption) ?_)) | exact ⟨_, _, by k_mem, by k_mem, by assumption⟩ | exact ⟨_, _, by k_mem, by k_mem, ⟨_, _, _, _, _, _, rfl, by assumption⟩⟩ | exact ⟨_, _, by k_mem, by k_mem, decO_whole⟩)
  k_with "do newdec" => (intro _ _ _ _ _ _ _ _ _ _ _ _ _ _; intro l2; (try k_lt2 l2); revert l2; intro _; (try k_sweep))
  k_with "do gotdec" => (intro _ _ _ _ _ _ _ _ _ _ _ _ _ _ _ _ _; (try k_sweep))
  k_with "do mod" => (k_dflt (refine mod_int' (by lia) ?_))
  k_with "do newlist" => (k_here; k_dflt (refine' newList_K (by k_asm) (by k_asm) ?_; k_whole; intro _ _ _ _ _; (try k_sweep)))
  k_with "do for" => (k_here; (with_unfolding_all refine' For_invVF ‹Fr _ _ _ _› (by exact rfl) (by exact rfl) ?_; k_whole))
  k_with "call ref cons nil" => (k_here; (with_reducible show wpAny _ _ (call (Value.ref 155) [Value.int _ _, Value.int _ _]) _ _ _); k_dflt (refine' mk_ok (by k_asm) (by k_asm) (by k_asm) (by k_asm) (by k_asm) (by walk_at "do K") (by k_room) (by first | exact Or.inl rfl | exact Or.inr rfl | assumption | lia) ?_; k_whole; walk_at "do newdec"))
  k_with "do num" => (first | assumption | exact Num.sub (by assumption) (fun q hq => by repeat' (first | exact hq | refine List.mem_cons_of_mem _ ?_ | refine List.mem_append_right _ ?_ | refine lift_sub (by assumption) ?_)) | exact .inl ⟨_, rfl, by walk_at "do dec"⟩ | exact .inr ⟨_, _, rfl, rfl⟩)
  k_with "after dof_num" => (intro _ _ _ _ _ _ _ _ _ _ _ _ _ _ _ _ _ _ _; (try k_sweep))
  k_with "call ref cons nil" => (k_here; (with_reducible show wpAny _ _ (call (Value.ref 173) [_]) _ _ _); k_dflt (refine' dof_num (by k_asm) (by k_asm) (by k_asm) (by k_asm) (by k_asm) (by walk_at "do K") (by k_room) (by walk_at "do num") (by walk_at "do tails") ?_; k_whole; walk_at "after dof_num"))
  k_with "after dof_int" => (intro _ _ _ _ _ _ _ _ _ _ _; intro l2; (try k_lt2 l2); revert l2; intro _; (try k_sweep))
  k_with "call ref cons nil" => (k_here; (with_reducible show wpAny _ _ (call (Value.ref 173) [Value.int _ _]) _ _ _); k_dflt (refine' dof_int (by k_asm) (by k_asm) (by k_asm) (by k_asm) (by k_asm) (by walk_at "do K") (by k_room)  ?_; k_whole; walk_at "after dof_int"))
  k_with "after dof_dec" => (intro _ _ _ _; (try k_sweep))
  k_with "call ref cons nil" => (k_here; (with_reducible show wpAny _ _ (call (Value.ref 173) [Value.ref _]) _ _ _); k_dflt (refine' dof_dec (by k_asm) (by k_asm) (by k_asm) (by k_asm) (by k_asm) (by walk_at "do K") (by k_room) (by walk_at "do dec") ?_; k_whole; walk_at "after dof_dec"))
  k_with "after scale_n" => (intro _ _ _ _ _ _ _ _ _ _ _ _ _; (try k_sweep))
  k_with "call ref cons nil" => (k_here; (with_reducible show wpAny _ _ (call (Value.ref 180) [_, _]) _ _ _); k_dflt (refine' scale_n (by k_asm) (by k_asm) (by k_asm) (by k_asm) (by k_asm) (by walk_at "do K") (by k_room) (by walk_at "do num") (by walk_at "do num") ?_; k_whole; walk_at "after scale_n"))
  k_with "call ref cons nil" => (k_here; (with_reducible show wpAny _ _ (call (Value.ref 82) [Value.ref _, Value.ref _]) _ _ _); k_dflt (refine' plus_ok (by k_asm) (by k_asm) (by k_asm) (by k_asm) (by k_asm) (by walk_at "do K") (by k_room) (by walk_at "do dec") (by walk_at "do dec") ?_; k_whole; walk_at "do newdec"))
  k_with "call ref cons nil" => (k_here; (with_reducible show wpAny _ _ (call (Value.ref 89) [Value.ref _, _]) _ _ _); k_dflt (refine' minus_n (by k_asm) (by k_asm) (by k_asm) (by k_asm) (by k_asm) (by walk_at "do K") (by k_room) (by walk_at "do dec") (by walk_at "do num") ?_; k_whole; walk_at "do newdec"))
  k_with "call ref cons nil" => (k_here; (with_reducible show wpAny _ _ (call (Value.ref 96) [Value.ref _, Value.int _ _]) _ _ _); k_dflt (refine' times_di (by k_asm) (by k_asm) (by k_asm) (by k_asm) (by k_asm) (by walk_at "do K") (by k_room) (by walk_at "do dec") (by first | assumption | lia | (simp only [fm2]; lia) | exact fdiv_bound (by lia) (by lia) (by lia)) ?_; k_whole; walk_at "do newdec"))
  k_with "after cmp_dd" => (intro _ _ _ _ _ _ _; (try k_sweep))
  k_with "call ref cons nil" => (k_here; (with_reducible show wpAny _ _ (call (Value.ref 110) [Value.ref _, Value.ref _]) _ _ _); k_dflt (refine' cmp_dd (by k_asm) (by k_asm) (by k_asm) (by k_asm) (by k_asm) (by walk_at "do K") (by k_room) (by walk_at "do dec") (by walk_at "do dec") ?_; k_whole; walk_at "after cmp_dd"))
  k_with "after told_d" => (intro _ _ _ _ _ _ _ _ _ _ _ _; (try k_sweep))
  k_with "call ref cons nil" => (k_here; (with_reducible show wpAny _ _ (call (Value.ref 138) [Value.ref _]) _ _ _); k_dflt (refine' told_d (by k_asm) (by k_asm) (by k_asm) (by k_asm) (by k_asm) (by walk_at "do K") (by k_room) (by walk_at "do dec") ?_; k_whole; walk_at "after told_d"))
  k_with "do item" => (k_here; (with_reducible show wpAny _ _ (subscriptTail _ _ (Value.ref _) (Value.int _ _)) _ _ _); k_dflt (refine' item_led (by k_asm) (by k_mem) (by first | decide | assumption) (by first | decide | assumption) (by assumption) ?_ (by with_unfolding_all rfl); k_whole))
  k_with "do len" => (k_here; (with_reducible show wpAny _ _ (call (Value.builtin "len") [Value.ref _]) _ _ _); k_dflt (refine' len_led (by k_asm) (by k_mem) (by lia) ?_; k_whole))
  k_with "do decs" => (first | assumption | exact Decs.sub (by assumption) (fun q hq => by repeat' (first | exact hq | refine List.mem_cons_of_mem _ ?_ | refine List.mem_append_right _ ?_ | refine lift_sub (by assumption) ?_)) | exact decs2 (by first | assumption | exact Dec.sub (by assumption) (fun q hq => by repeat' (first | exact hq | refine List.mem_cons_of_mem _ ?_ | refine List.mem_append_right _ ?_ | refine lift_sub (by assumption) ?_)) | exact ⟨_, _, by k_mem, by k_mem, by assumption⟩ | exact ⟨_, _, by k_mem, by k_mem, ⟨_, _, _, _, _, _, rfl, by assumption⟩⟩ | exact ⟨_, _, by k_mem, by k_mem, decO_whole⟩) (by first | assumption | exact Dec.sub (by assumption) (fun q hq => by repeat' (first | exact hq | refine List.mem_cons_of_mem _ ?_ | refine List.mem_append_right _ ?_ | refine lift_sub (by assumption) ?_)) | exact ⟨_, _, by k_mem, by k_mem, by assumption⟩ | exact ⟨_, _, by k_mem, by k_mem, ⟨_, _, _, _, _, _, rfl, by assumption⟩⟩ | exact ⟨_, _, by k_mem, by k_mem, decO_whole⟩))
  k_with "after least_ok" => (intro _ _ _ _ _ _ _ _ _; (try k_sweep))
  k_with "call ref cons nil" => (k_here; (with_reducible show wpAny _ _ (call (Value.ref 199) [Value.ref _]) _ _ _); k_dflt (refine' least_ok (by k_asm) (by k_asm) (by k_asm) (by k_asm) (by k_asm) (by walk_at "do K") (by k_room) (by k_mem) (by walk_at "do decs") (by first | assumption | exact ⟨Nat.le_of_ble_eq_true rfl, Nat.le_of_ble_eq_true rfl⟩ | exact ⟨by lia, by lia⟩) ?_; k_whole; walk_at "after least_ok"))
  k_with "after greatest_ok" => (intro _ _ _ _ _ _ _ _ _; (try k_sweep))
  k_with "call ref cons nil" => (k_here; (with_reducible show wpAny _ _ (call (Value.ref 206) [Value.ref _]) _ _ _); k_dflt (refine' greatest_ok (by k_asm) (by k_asm) (by k_asm) (by k_asm) (by k_asm) (by walk_at "do K") (by k_room) (by k_mem) (by walk_at "do decs") (by first | assumption | exact ⟨Nat.le_of_ble_eq_true rfl, Nat.le_of_ble_eq_true rfl⟩ | exact ⟨by lia, by lia⟩) ?_; k_whole; walk_at "after greatest_ok"))
  k_with "after tops_ok" => (intro _ _ _ _ _ _ _ _ _ _ _ _ _; (try k_sweep))
  k_with "call ref cons nil" => (k_here; (with_reducible show wpAny _ _ (call (Value.ref 185) [Value.ref _]) _ _ _); k_dflt (refine' tops_ok (by k_asm) (by k_asm) (by k_asm) (by k_asm) (by k_asm) (by walk_at "do K") (by k_room) (by k_mem) (by walk_at "do decs") (by first | assumption | exact ⟨by lia, by lia⟩) ?_; k_whole; walk_at "after tops_ok"))
  k_with "call ref cons nil" => (k_here; (with_reducible show wpAny _ _ (call (Value.ref 192) [Value.ref _]) _ _ _); k_dflt (refine' sum_ok (by k_asm) (by k_asm) (by k_asm) (by k_asm) (by k_asm) (by walk_at "do K") (by k_room) (by k_mem) (by walk_at "do decs") (by first | assumption | exact ⟨by lia, by lia⟩) ?_; k_whole; walk_at "do newdec"))
  k_with "do div" => (k_dflt (refine floordiv_int (by lia) ?_ (Or.inl (PyProof.noPylong_small (by lia)))))
  k_with "call ref cons nil" => (k_here; (with_reducible show wpAny _ _ (call (Value.ref 213) [Value.ref _, _]) _ _ _); k_dflt (refine' ahead_n (by k_asm) (by k_asm) (by k_asm) (by k_asm) (by k_asm) (by walk_at "do K") (by k_room) (by k_mem) (by walk_at "do decs") (by first | assumption | exact ⟨by lia, by lia⟩) (by first | assumption | lia) (by walk_at "do num") (by first | assumption | lia) ?_; k_whole; walk_at "do newdec"))
  trivial
def HoldAt (P : Prop) : Prop := P
theorem holdAt {P : Prop} (h : HoldAt P) : P := h
def Nums (P : PySem.Params) (news : List (Addr × Obj)) (vs : List Value) (ts : List Int) : Prop := vs.length = ts.length ∧ ∀ (i : Nat) (v : Value), vs[i]? = some v → ∃ t : Int, ts[i]? = some t ∧ Num P news v t
section
variable {w : World} {mean : ExcName → Option Value} {mg mb : Str → Option Value} {dp un : Nat} {gd : Option (List Code)} {cn : Str} {cs : Scope} {a : Addr} {ccd : Value} {cl : List (Str × Addr)} {outer : List Env} {A₀ : Around} {base h₀ : Heap} {L : Addr} {m : Str → Option Value} {news : List (Addr × Obj)} {s : Shared} {Q E : Value → Shared → Prop}
theorem least_pos {l : Addr} {vs : List Value} {ts : List Int} {c : Nat} (B : Below A₀ base outer h₀) (F : Fr h₀ L s.heap m) (X : (hd.heap_39 w.params).In h₀) (N : News h₀ L s.heap news) (T : TheTop mean mg mb h₀) (hkf : cs.kind = .function) (hdp : dp + 16 < recursionLimit)
  (hl : (l, ({ cls := .type "list", data := .seq vs.toArray c } : Obj)) ∈ news) (hv : Decs w.params news vs ts) (hn : 0 < vs.length ∧ vs.length ≤ 400) (h0 : ∀ u ∈ ts, 0 ≤ u)
  (ret : ∀ r t h' tk', Fr h₀ L h' m → News h₀ L h' news → ∀ d k1 k2 x tx p tp, (r, instObj 155 d) ∈ news → (d, decD w.params k1 k2 x tx p tp) ∈ news → NF x p t → 0 ≤ t → Q (.ref r) { s with heap := h', toks := tk' }) :
  wpAny (model PySem.Challenge.rw_qd0123_01.row.prog w) (ktrTop dp un gd cn cs L a ccd cl outer) (call (.ref 199) [.ref l]) Q E s :=
  least_ok B F X N T hkf hdp hl hv hn fun r t h' tk' F' N' hd ht _ => by
    obtain ⟨d, o, hr1, hd1, k1, k2, x, tx, p, tp, rfl, nf⟩ := hd
    exact ret r t h' tk' F' N' d k1 k2 x tx p tp hr1 hd1 nf (h0 t ht)
theorem sum_zero : ∀ {ts : List Int}, (∀ u ∈ ts, u ≤ 0) → ts.sum ≤ 0
  | [], _ => Int.le_refl _
  | a :: r, h => by
    have h1 := h a (.head _)
    have h2 := sum_zero (ts := r) fun u hu => h u (.tail _ hu)
    rw [List.sum_cons]; lia
theorem greatest_pos {l : Addr} {vs : List Value} {ts : List Int} {c : Nat} (B : Below A₀ base outer h₀) (F : Fr h₀ L s.heap m) (X : (hd.heap_39 w.params).In h₀) (N : News h₀ L s.heap news) (T : TheTop mean mg mb h₀) (hkf : cs.kind = .function) (hdp : dp + 16 < recursionLimit)
  (hl : (l, ({ cls := .type "list", data := .seq vs.toArray c } : Obj)) ∈ news) (hv : Decs w.params news vs ts) (hn : 0 < vs.length ∧ vs.length ≤ 400) (h0 : 0 < ts.sum ∧ ts.sum ≤ 1000)
  (ret : ∀ r t h' tk', Fr h₀ L h' m → News h₀ L h' news → ∀ d k1 k2 x tx p tp, (r, instObj 155 d) ∈ news → (d, decD w.params k1 k2 x tx p tp) ∈ news → NF x p t → 0 < t → Q (.ref r) { s with heap := h', toks := tk' }) :
  wpAny (model PySem.Challenge.rw_qd0123_01.row.prog w) (ktrTop dp un gd cn cs L a ccd cl outer) (call (.ref 206) [.ref l]) Q E s :=
  greatest_ok B F X N T hkf hdp hl hv hn fun r t h' tk' F' N' hd _ ht => by
    obtain ⟨d, o, hr1, hd1, k1, k2, x, tx, p, tp, rfl, nf⟩ := hd
    refine ret r t h' tk' F' N' d k1 k2 x tx p tp hr1 hd1 nf ?_
    rcases Int.lt_or_le 0 t with h | h
    · exact h
    · exact absurd (sum_zero (ts := ts) fun u hu => Int.le_trans (ht u hu) h) (Int.not_le.mpr h0.1)
end
section
variable {prog : Program} {w : World} {A : Around} {E : Value → Shared → Prop} {s : Shared} {env : Env} {h₀ : Heap} {L : Addr} {body : List Stmt} {Q : Flow → Shared → Prop} {test : Expr}
def EndW {σ : Type} (h₀ : Heap) (L : Addr) (b₁ b₂ x : Str) (m₀ : Str → Option Value) (v₁ v₂ : σ → Value) (Led : σ → List (Addr × Obj)) (J : σ → Prop) (μ : σ → Nat) (n : Nat) (s₁ s₂ : Shared) : Prop :=
  ∃ h' tk m' st, s₂ = { s₁ with heap := h', toks := tk } ∧ Fr h₀ L h' m' ∧ News h₀ L h' (Led st) ∧ m' b₁ = some (v₁ st) ∧ m' b₂ = some (v₂ st) ∧ (∀ y, y ≠ b₁ → y ≠ b₂ → y ≠ x → m' y = m₀ y) ∧ μ st < n ∧ J st
def PostW {σ : Type} (h₀ : Heap) (L : Addr) (b₁ b₂ x : Str) (m₀ : Str → Option Value) (v₁ v₂ : σ → Value) (Led : σ → List (Addr × Obj)) (J : σ → Prop) (μ : σ → Nat) (n : Nat) (s₁ : Shared) (Q : Flow → Shared → Prop) (f : Flow) (s₂ : Shared) : Prop :=
  match f with
  | .ret v => Q (.ret v) s₂
  | .brk => Q .next s₂
  | _ => EndW h₀ L b₁ b₂ x m₀ v₁ v₂ Led J μ n s₁ s₂
theorem EndW.intro {σ : Type} {b₁ b₂ x : Str} {m₀ : Str → Option Value} {v₁ v₂ : σ → Value} {Led : σ → List (Addr × Obj)} {J : σ → Prop} {μ : σ → Nat} {n : Nat} {s₁ : Shared} {h' : Heap} {tk : Nat} {m' : Str → Option Value} (st : σ)
    (F : Fr h₀ L h' m') (N : News h₀ L h' (Led st)) (h1 : m' b₁ = some (v₁ st)) (h2 : m' b₂ = some (v₂ st)) (hm : ∀ y, y ≠ b₁ → y ≠ b₂ → y ≠ x → m' y = m₀ y) (hμ : μ st < n) (hj : J st) : EndW h₀ L b₁ b₂ x m₀ v₁ v₂ Led J μ n s₁ { s₁ with heap := h', toks := tk } :=
  ⟨h', tk, m', st, rfl, F, N, h1, h2, hm, hμ, hj⟩
theorem while_st {σ : Type} {pos : Pos} {m m₀ : Str → Option Value} (b₁ b₂ x : Str) (v₁ v₂ : σ → Value) (Led : σ → List (Addr × Obj)) (J : σ → Prop) (μ : σ → Nat) (st₀ : σ)
    (F : Fr h₀ L s.heap m) (N : News h₀ L s.heap (Led st₀)) (hm : ∀ y, y ≠ b₁ → y ≠ b₂ → y ≠ x → m y = m₀ y) (h1 : m b₁ = some (v₁ st₀)) (h2 : m b₂ = some (v₂ st₀)) (hj : J st₀)
    (turn : ∀ st u h tk, J st → Fr h₀ L h (fun y => if y = b₁ then some (v₁ st) else if y = b₂ then some (v₂ st) else if y = x then u else m₀ y) → News h₀ L h (Led st) →
      wpAny (model prog w) A (isTrue test env (eval test env)) (fun b s₂ => WhlIf b (wpAny (model prog w) A (execs body env) (PostW h₀ L b₁ b₂ x m₀ v₁ v₂ Led J μ (μ st) s Q) E s₂) (Q .next s₂)) E { s with heap := h, toks := tk })
    (hE : PassesOwn (model prog w) A env E) :
    wpAny (model prog w) A (exec (.While test body [] pos) env) Q E s := by
  have mapEq : ∀ (m₁ : Str → Option Value) (st : σ), m₁ b₁ = some (v₁ st) → m₁ b₂ = some (v₂ st) → (∀ y, y ≠ b₁ → y ≠ b₂ → y ≠ x → m₁ y = m₀ y) → m₁ = fun y => if y = b₁ then some (v₁ st) else if y = b₂ then some (v₂ st) else if y = x then m₁ x else m₀ y := by
    intro m₁ st h1 h2 h3
    funext y
    by_cases e1 : y = b₁
    · simp only [if_pos e1]; rw [e1]; exact h1
    · simp only [if_neg e1]
      by_cases e2 : y = b₂
      · simp only [if_pos e2]; rw [e2]; exact h2
      · simp only [if_neg e2]
        by_cases e3 : y = x
        · simp only [if_pos e3]; rw [e3]
        · simp only [if_neg e3]; exact h3 y e1 e2 e3
  refine While_inv2 (fun n m₁ nw => ∃ st, n = μ st ∧ nw = Led st ∧ J st ∧ m₁ b₁ = some (v₁ st) ∧ m₁ b₂ = some (v₂ st) ∧ ∀ y, y ≠ b₁ → y ≠ b₂ → y ≠ x → m₁ y = m₀ y) F N ⟨st₀, rfl, rfl, hj, h1, h2, hm⟩ ?_ hE
  rintro n m₁ nw h₁ tk₁ F₁ N₁ ⟨st, rfl, rfl, hJ, e1, e2, e3⟩
  rw [mapEq m₁ st e1 e2 e3] at F₁
  refine wpAny_mono (turn st (m₁ x) h₁ tk₁ hJ F₁ N₁) (fun b s₂ p => ?_) fun _ _ e => e
  cases b with
  | false =>
    have p' : Q .next s₂ := by
      unfold WhlIf at p
      rw [if_neg Bool.false_ne_true] at p
      exact p
    simp only [Bool.false_eq_true, if_false]
    exact p'
  | true =>
    simp only [if_true]
    have p' : wpAny (model prog w) A (execs body env) (PostW h₀ L b₁ b₂ x m₀ v₁ v₂ Led J μ (μ st) s Q) E s₂ := by
      unfold WhlIf at p
      rw [if_pos rfl] at p
      exact p
    refine wpAny_mono p' (fun f s₃ q => ?_) fun _ _ e => e
    have fin : EndW h₀ L b₁ b₂ x m₀ v₁ v₂ Led J μ (μ st) s s₃ → ∃ h' tk m₂ news₂ n', s₃ = { s with heap := h', toks := tk } ∧ Fr h₀ L h' m₂ ∧ News h₀ L h' news₂ ∧ n' < μ st ∧ ∃ st, n' = μ st ∧ news₂ = Led st ∧ J st ∧ m₂ b₁ = some (v₁ st) ∧ m₂ b₂ = some (v₂ st) ∧ ∀ y, y ≠ b₁ → y ≠ b₂ → y ≠ x → m₂ y = m₀ y := by
      rintro ⟨h', tk, m', st', e, F', N', c1, c2, c3, c4, c5⟩
      exact ⟨h', tk, m', _, _, e, F', N', c4, st', rfl, rfl, c5, c1, c2, c3⟩
    cases f with
    | ret v => exact q
    | brk => exact q
    | next => exact fin q
    | cont => exact fin q
end
theorem fresh12 : True := by
  w_top off
  k_with_none
  k_with "enter K" => (first | assumption | exact rfl)
  k_with "enter binds" => (first | exact BindsTo.of_eq rfl | exact binds_K (by k_in) rfl (by k_is) rfl rfl rfl | fail "k_enter: no rule for these arguments")
  k_with "room" => (first | ((try simp only [depth_under_make, depth_under_kw, depth_in1, depth_deeper, depth_caller]); (try dsimp only [ktrTop]); lia) | ((try simp only [depth_under_make, depth_under_kw, depth_in1, depth_deeper, depth_caller]); decide))
  k_with "enter" => (refine' code_defC (by k_asm) (by k_asm) (by k_asm) (by k_asm) (by k_asm) (by exact rfl) (by exact rfl) (by walk_at "enter K") (by k_is) (by k_is) (by k_room) (by walk_at "enter binds") (by exact rfl) (by decide +kernel) ?_ (by exact rfl) (by exact rfl) (by exact rfl); k_whole; intro _ _ _ _ _ _ _; intro N' Y' B'; (try k_lift B'); revert B'; intro _ _ _; intro l1; (try k_lt l1); revert l1; intro _; k_cells Y'; (try simp only [List.cons_append, List.nil_append] at N'); revert N'; intro _; (try dsimp only); (try k_fold))
  k_with "enter" => (refine' code_def (by k_asm) (by k_asm) (by k_asm) (by k_asm) (by k_asm) (by exact rfl) (by exact rfl) (by walk_at "enter K") (by k_is) (by k_is) (by k_room) (by walk_at "enter binds") (by exact locs rfl) ?_ (by exact rfl) (by exact rfl) (by exact rfl) ?_; rotate_left; decide; k_whole; intro _ _ _ _ _ _; intro B'; (try k_lift B'); revert B'; intro _ _ _; (try dsimp only); (try k_fold))
  k_with "binaryOp Pow int int" => (with_reducible refine pow_int_small ?_ ?_ ?_ ?_; (first | decide | lia); (first | decide | lia); decide)
  k_with "rel" => (first | exact List.Mem.head _ | (refine' List.mem_cons_of_mem _ ?_; ktr_rel) | ktr_member | (refine' List.mem_append_right _ ?_; ktr_rel) | (refine' lift_sub (by assumption) ?_; ktr_rel))
  k_with "ite" => (k_dflt (first | refine ite_pos (by (simp only [beq_iff_eq, bne_iff_ne, decide_eq_true_eq, ne_eq]); lia) ?_ | refine ite_neg (by (simp only [beq_iff_eq, bne_iff_ne, decide_eq_true_eq, ne_eq]); lia) ?_))
  k_with "eval Call" => (k_fold)
  k_with "exec Assign" => (k_fold)
  k_with "eval BinOp" => (k_fold)
  k_with "isTrue BoolOp" => (k_fold)
  k_with "isTrue Compare" => (k_fold)
  k_with "eval Compare" => (k_fold)
  k_with "eval Tuple" => (k_fold)
  k_with "eval List" => (k_fold)
  k_with "eval Subscript" => (k_fold)
  k_with "exec Expr" => (k_fold)
  k_with "exec If" => (k_fold)
  k_with "exec Return" => (k_fold)
  k_with "eval Call Attribute" => (k_fold)
  k_with "do K" => (first | assumption | exact rfl)
  k_with "do tails" => (exact fun q hq => by repeat' (first | exact hq | refine List.mem_cons_of_mem _ ?_ | refine List.mem_append_right _ ?_ | refine lift_sub (by assumption) ?_))
  k_with "do dec" => (first | assumption | exact Dec.sub (by assumption) (fun q hq => by repeat' (first | exact hq | refine List.mem_cons_of_mem _ ?_ | refine List.mem_append_right _ ?_ | refine lift_sub (by assumption) ?_)) | exact ⟨_, _, by k_mem, by k_mem, by assumption⟩ | exact ⟨_, _, by k_mem, by k_mem, ⟨_, _, _, _, _, _, rfl, by assumption⟩⟩ | exact ⟨_, _, by k_mem, by k_mem, decO_whole⟩)
  k_with "do newdec" => (intro _ _ _ _ _ _ _ _ _ _ _ _ _ _; intro l2; (try k_lt2 l2); revert l2; intro _; (try k_sweep))
  k_with "do gotdec" => (intro _ _ _ _ _ _ _ _ _ _ _ _ _ _ _ _ _; (try k_sweep))
  k_with "do mod" => (k_dflt (refine mod_int' (by lia) ?_))
  k_with "do newlist" => (k_here; k_dflt (refine' newList_K (by k_asm) (by k_asm) ?_; k_whole; intro _ _ _ _ _; (try k_sweep)))
  k_with "do for" => (k_here; (with_unfolding_all refine' For_invVF ‹Fr _ _ _ _› (by exact rfl) (by exact rfl) ?_; k_whole))
  k_with "call ref cons nil" => (k_here; (with_reducible show wpAny _ _ (call (Value.ref 155) [Value.int _ _, Value.int _ _]) _ _ _); k_dflt (refine' mk_ok (by k_asm) (by k_asm) (by k_asm) (by k_asm) (by k_asm) (by walk_at "do K") (by k_room) (by first | exact Or.inl rfl | exact Or.inr rfl | assumption | lia) ?_; k_whole; walk_at "do newdec"))
  k_with "do num" => (first | assumption | exact Num.sub (by assumption) (fun q hq => by repeat' (first | exact hq | refine List.mem_cons_of_mem _ ?_ | refine List.mem_append_right _ ?_ | refine lift_sub (by assumption) ?_)) | exact .inl ⟨_, rfl, by walk_at "do dec"⟩ | exact .inr ⟨_, _, rfl, rfl⟩)
  k_with "after dof_num" => (intro _ _ _ _ _ _ _ _ _ _ _ _ _ _ _ _ _ _ _; (try k_sweep))
  k_with "call ref cons nil" => (k_here; (with_reducible show wpAny _ _ (call (Value.ref 173) [_]) _ _ _); k_dflt (refine' dof_num (by k_asm) (by k_asm) (by k_asm) (by k_asm) (by k_asm) (by walk_at "do K") (by k_room) (by walk_at "do num") (by walk_at "do tails") ?_; k_whole; walk_at "after dof_num"))
  k_with "after dof_int" => (intro _ _ _ _ _ _ _ _ _ _ _; intro l2; (try k_lt2 l2); revert l2; intro _; (try k_sweep))
  k_with "call ref cons nil" => (k_here; (with_reducible show wpAny _ _ (call (Value.ref 173) [Value.int _ _]) _ _ _); k_dflt (refine' dof_int (by k_asm) (by k_asm) (by k_asm) (by k_asm) (by k_asm) (by walk_at "do K") (by k_room)  ?_; k_whole; walk_at "after dof_int"))
  k_with "after dof_dec" => (intro _ _ _ _; (try k_sweep))
  k_with "call ref cons nil" => (k_here; (with_reducible show wpAny _ _ (call (Value.ref 173) [Value.ref _]) _ _ _); k_dflt (refine' dof_dec (by k_asm) (by k_asm) (by k_asm) (by k_asm) (by k_asm) (by walk_at "do K") (by k_room) (by walk_at "do dec") ?_; k_whole; walk_at "after dof_dec"))
  k_with "after scale_n" => (intro _ _ _ _ _ _ _ _ _ _ _ _ _; (try k_sweep))
  k_with "call ref cons nil" => (k_here; (with_reducible show wpAny _ _ (call (Value.ref 180) [_, _]) _ _ _); k_dflt (refine' scale_n (by k_asm) (by k_asm) (by k_asm) (by k_asm) (by k_asm) (by walk_at "do K") (by k_room) (by walk_at "do num") (by walk_at "do num") ?_; k_whole; walk_at "after scale_n"))
  k_with "call ref cons nil" => (k_here; (with_reducible show wpAny _ _ (call (Value.ref 82) [Value.ref _, Value.ref _]) _ _ _); k_dflt (refine' plus_ok (by k_asm) (by k_asm) (by k_asm) (by k_asm) (by k_asm) (by walk_at "do K") (by k_room) (by walk_at "do dec") (by walk_at "do dec") ?_; k_whole; walk_at "do newdec"))
  k_with "call ref cons nil" => (k_here; (with_reducible show wpAny _ _ (call (Value.ref 89) [Value.ref _, _]) _ _ _); k_dflt (refine' minus_n (by k_asm) (by k_asm) (by k_asm) (by k_asm) (by k_asm) (by walk_at "do K") (by k_room) (by walk_at "do dec") (by walk_at "do num") ?_; k_whole; walk_at "do newdec"))
  k_with "call ref cons nil" => (k_here; (with_reducible show wpAny _ _ (call (Value.ref 96) [Value.ref _, Value.int _ _]) _ _ _); k_dflt (refine' times_di (by k_asm) (by k_asm) (by k_asm) (by k_asm) (by k_asm) (by walk_at "do K") (by k_room) (by walk_at "do dec") (by first | assumption | lia | (simp only [fm2]; lia) | exact fdiv_bound (by lia) (by lia) (by lia)) ?_; k_whole; walk_at "do newdec"))
  k_with "after cmp_dd" => (intro _ _ _ _ _ _ _; (try k_sweep))
  k_with "call ref cons nil" => (k_here; (with_reducible show wpAny _ _ (call (Value.ref 110) [Value.ref _, Value.ref _]) _ _ _); k_dflt (refine' cmp_dd (by k_asm) (by k_asm) (by k_asm) (by k_asm) (by k_asm) (by walk_at "do K") (by k_room) (by walk_at "do dec") (by walk_at "do dec") ?_; k_whole; walk_at "after cmp_dd"))
  k_with "after told_d" => (intro _ _ _ _ _ _ _ _ _ _ _ _; (try k_sweep))
  k_with "call ref cons nil" => (k_here; (with_reducible show wpAny _ _ (call (Value.ref 138) [Value.ref _]) _ _ _); k_dflt (refine' told_d (by k_asm) (by k_asm) (by k_asm) (by k_asm) (by k_asm) (by walk_at "do K") (by k_room) (by walk_at "do dec") ?_; k_whole; walk_at "after told_d"))
  k_with "do item" => (k_here; (with_reducible show wpAny _ _ (subscriptTail _ _ (Value.ref _) (Value.int _ _)) _ _ _); k_dflt (refine' item_led (by k_asm) (by k_mem) (by first | decide | assumption) (by first | decide | assumption) (by assumption) ?_ (by with_unfolding_all rfl); k_whole))
  k_with "do len" => (k_here; (with_reducible show wpAny _ _ (call (Value.builtin "len") [Value.ref _]) _ _ _); k_dflt (refine' len_led (by k_asm) (by k_mem) (by lia) ?_; k_whole))
  k_with "do decs" => (first | assumption | exact Decs.sub (by assumption) (fun q hq => by repeat' (first | exact hq | refine List.mem_cons_of_mem _ ?_ | refine List.mem_append_right _ ?_ | refine lift_sub (by assumption) ?_)) | exact decs2 (by first | assumption | exact Dec.sub (by assumption) (fun q hq => by repeat' (first | exact hq | refine List.mem_cons_of_mem _ ?_ | refine List.mem_append_right _ ?_ | refine lift_sub (by assumption) ?_)) | exact ⟨_, _, by k_mem, by k_mem, by assumption⟩ | exact ⟨_, _, by k_mem, by k_mem, ⟨_, _, _, _, _, _, rfl, by assumption⟩⟩ | exact ⟨_, _, by k_mem, by k_mem, decO_whole⟩) (by first | assumption | exact Dec.sub (by assumption) (fun q hq => by repeat' (first | exact hq | refine List.mem_cons_of_mem _ ?_ | refine List.mem_append_right _ ?_ | refine lift_sub (by assumption) ?_)) | exact ⟨_, _, by k_mem, by k_mem, by assumption⟩ | exact ⟨_, _, by k_mem, by k_mem, ⟨_, _, _, _, _, _, rfl, by assumption⟩⟩ | exact ⟨_, _, by k_mem, by k_mem, decO_whole⟩))
  k_with "after least_ok" => (intro _ _ _ _ _ _ _ _ _; (try k_sweep))
  k_with "call ref cons nil" => (k_here; (with_reducible show wpAny _ _ (call (Value.ref 199) [Value.ref _]) _ _ _); k_dflt (refine' least_ok (by k_asm) (by k_asm) (by k_asm) (by k_asm) (by k_asm) (by walk_at "do K") (by k_room) (by k_mem) (by walk_at "do decs") (by first | assumption | exact ⟨Nat.le_of_ble_eq_true rfl, Nat.le_of_ble_eq_true rfl⟩ | exact ⟨by lia, by lia⟩) ?_; k_whole; walk_at "after least_ok"))
  k_with "after greatest_ok" => (intro _ _ _ _ _ _ _ _ _; (try k_sweep))
  k_with "call ref cons nil" => (k_here; (with_reducible show wpAny _ _ (call (Value.ref 206) [Value.ref _]) _ _ _); k_dflt (refine' greatest_ok (by k_asm) (by k_asm) (by k_asm) (by k_asm) (by k_asm) (by walk_at "do K") (by k_room) (by k_mem) (by walk_at "do decs") (by first | assumption | exact ⟨Nat.le_of_ble_eq_true rfl, Nat.le_of_ble_eq_true rfl⟩ | exact ⟨by lia, by lia⟩) ?_; k_whole; walk_at "after greatest_ok"))
  k_with "after tops_ok" => (intro _ _ _ _ _ _ _ _ _ _ _ _ _; (try k_sweep))
  k_with "call ref cons nil" => (k_here; (with_reducible show wpAny _ _ (call (Value.ref 185) [Value.ref _]) _ _ _); k_dflt (refine' tops_ok (by k_asm) (by k_asm) (by k_asm) (by k_asm) (by k_asm) (by walk_at "do K") (by k_room) (by k_mem) (by walk_at "do decs") (by first | assumption | exact ⟨by lia, by lia⟩) ?_; k_whole; walk_at "after tops_ok"))
  k_with "call ref cons nil" => (k_here; (with_reducible show wpAny _ _ (call (Value.ref 192) [Value.ref _]) _ _ _); k_dflt (refine' sum_ok (by k_asm) (by k_asm) (by k_asm) (by k_asm) (by k_asm) (by walk_at "do K") (by k_room) (by k_mem) (by walk_at "do decs") (by first | assumption | exact ⟨by lia, by lia⟩) ?_; k_whole; walk_at "do newdec"))
  k_with "do div" => (k_dflt (refine floordiv_int (by lia) ?_ (Or.inl (PyProof.noPylong_small (by lia)))))
  k_with "call ref cons nil" => (k_here; (with_reducible show wpAny _ _ (call (Value.ref 213) [Value.ref _, _]) _ _ _); k_dflt (refine' ahead_n (by k_asm) (by k_asm) (by k_asm) (by k_asm) (by k_asm) (by walk_at "do K") (by k_room) (by k_mem) (by walk_at "do decs") (by first | assumption | exact ⟨by lia, by lia⟩) (by first | assumption | lia) (by walk_at "do num") (by first | assumption | lia) ?_; k_whole; walk_at "do newdec"))
  k_with "call ref cons nil" => (k_here; (with_reducible show wpAny _ _ (call (Value.ref 199) [Value.ref _]) _ _ _); k_dflt (refine' least_pos (by k_asm) (by k_asm) (by k_asm) (by k_asm) (by k_asm) (by walk_at "do K") (by k_room) (by k_mem) (by walk_at "do decs") (by first | assumption | exact ⟨by lia, by lia⟩) (by assumption) ?_; k_whole; walk_at "do gotdec"))
  k_with "call ref cons nil" => (k_here; (with_reducible show wpAny _ _ (call (Value.ref 206) [Value.ref _]) _ _ _); k_dflt (refine' greatest_pos (by k_asm) (by k_asm) (by k_asm) (by k_asm) (by k_asm) (by walk_at "do K") (by k_room) (by k_mem) (by walk_at "do decs") (by first | assumption | exact ⟨by lia, by lia⟩) (by assumption) ?_; k_whole; walk_at "do gotdec"))
  k_with "do compA" => (k_here; k_dflt (refine LCg.Assign_ListComp_U (F₀ := by k_asm) (by rfl) (by with_unfolding_all rfl) (by with_unfolding_all rfl) (by decide) (by rfl) (by decide) (by rfl) (by rfl) (by rfl) ?_))
  k_with "do eq" => (k_here; (with_reducible show wpAny _ _ (compareOp CmpOp.Eq (Value.ref _) (Value.ref _)) _ _ _); k_dflt (refine' eq_nil_led (by k_asm) (by k_mem) (by k_mem) (by lia) (by rfl) (by ((try simp only [units_in1, units_deeper, Around.mark_units]); (try dsimp only [ktrTop]); lia)) ?_; k_whole))
  k_with "do ne" => (k_here; (with_reducible show wpAny _ _ (compareOp CmpOp.NotEq (Value.ref _) (Value.ref _)) _ _ _); k_dflt (refine' ne_nil_led (by k_asm) (by k_mem) (by k_mem) (by lia) (by rfl) (by ((try simp only [units_in1, units_deeper, Around.mark_units]); (try dsimp only [ktrTop]); lia)) ?_; k_whole))
  k_with "do append" => ((k_here; (with_reducible show wpAny _ _ (call (Value.builtin _) [Value.ref _, _]) _ _ _); k_dflt (refine' append_led (by k_asm) (by k_asm) (by k_mem) (by lia) ?_; k_whole; intro _ _ _ _ _ _ _; (try k_sweep))))
  k_with "call builtin:list.append" => (walk_at "do append")
  k_with "WhlIf" => (((k_dflt (refine whlIf_dec ?_ ?_ <;> intro _)); all_goals (try k_fold)))
  k_with "binaryOp Mod int int" => (walk_at "do mod")
  k_with "call builtin:len" => (walk_at "do len")
  k_with "subscriptTail Name BinOp ref int" => (walk_at "do item")
  k_with "newList" => (walk_at "do newlist")
  k_with "exec If" => ((k_here; refine holdAt ?_))
  k_with "exec Assign" => ((k_here; k_fold))
  k_with "exec While Compare" => ((k_here; refine holdAt ?_))
  k_with "compareOp NotEq ref ref" => (walk_at "do ne")
  k_with "compareOp Eq ref ref" => (walk_at "do eq")
  k_with "exec Assign cons ListComp" => (walk_at "do compA")
  trivial
def SpanIs (P : PySem.Params) (news : List (Addr × Obj)) (v : Value) (be : Int × Int) : Prop := ∃ (T r₁ r₂ : Addr) (n : Nat), v = Value.ref T ∧ (T, ({ cls := .type "tuple", data := .seq #[.ref r₁, .ref r₂] n } : Obj)) ∈ news ∧ Dec P news r₁ be.1 ∧ Dec P news r₂ be.2
def SpansAre (P : PySem.Params) (news : List (Addr × Obj)) (vs : List Value) (bes : List (Int × Int)) : Prop := vs.length = bes.length ∧ ∀ (i : Nat) (v : Value), vs[i]? = some v → ∃ be, bes[i]? = some be ∧ SpanIs P news v be
theorem mid3 {a b c : Addr × Obj} {e l : List (Addr × Obj)} : ∀ p ∈ a :: b :: c :: (e ++ l), p ∈ e ++ (a :: b :: c :: l) := by
  intro p hp
  rcases List.mem_cons.mp hp with rfl | hp
  · exact List.mem_append_right _ (.head _)
  rcases List.mem_cons.mp hp with rfl | hp
  · exact List.mem_append_right _ (.tail _ (.head _))
  rcases List.mem_cons.mp hp with rfl | hp
  · exact List.mem_append_right _ (.tail _ (.tail _ (.head _)))
  rcases List.mem_append.mp hp with hp | hp
  · exact List.mem_append_left _ hp
  · exact List.mem_append_right _ (.tail _ (.tail _ (.tail _ hp)))
theorem off3_ext {a b c : Addr × Obj} {e l : List (Addr × Obj)} (h : ∀ q ∈ a :: b :: c :: l, ∀ p ∈ e, q.1 < p.1) (off : LCg.Off3 a.1 b.1 c.1 l) : LCg.Off3 a.1 b.1 c.1 (e ++ l) :=
  LCg.Off3.of fun p hp => by
    rcases List.mem_append.mp hp with hp | hp
    · exact ⟨Ne.symm (Nat.ne_of_lt (h a (.head _) p hp)), Ne.symm (Nat.ne_of_lt (h b (.tail _ (.head _)) p hp)), Ne.symm (Nat.ne_of_lt (h c (.tail _ (.tail _ (.head _))) p hp))⟩
    · exact off.mem p hp
theorem snocG {α : Type} {P : Value → α → Prop} {vs : List Value} {bes : List α} {v : Value} {be : α} (h : vs.length = bes.length ∧ ∀ (i : Nat) (v : Value), vs[i]? = some v → ∃ be, bes[i]? = some be ∧ P v be) (hd : P v be) : (vs ++ [v]).length = (bes ++ [be]).length ∧ ∀ (i : Nat) (u : Value), (vs ++ [v])[i]? = some u → ∃ x, (bes ++ [be])[i]? = some x ∧ P u x := by
  refine ⟨by rw [List.length_append, List.length_append, h.1]; rfl, fun i v hv => ?_⟩
  rcases Nat.lt_trichotomy i vs.length with hi | hi | hi
  · rw [List.getElem?_append_left hi] at hv
    obtain ⟨be', hb, hd'⟩ := h.2 i v hv
    exact ⟨be', by rw [List.getElem?_append_left (by rw [← h.1]; exact hi)]; exact hb, hd'⟩
  · subst hi
    rw [List.getElem?_append_right (Nat.le_refl _), Nat.sub_self] at hv
    refine ⟨be, ?_, (Option.some.inj hv) ▸ hd⟩
    rw [h.1, List.getElem?_append_right (Nat.le_refl _), Nat.sub_self]; rfl
  · rw [List.getElem?_eq_none (by rw [List.length_append, List.length_singleton]; lia)] at hv
    cases hv
theorem allG {α : Type} {P P' : Value → α → Prop} {vs : List Value} {bes : List α} (h : vs.length = bes.length ∧ ∀ (i : Nat) (v : Value), vs[i]? = some v → ∃ be, bes[i]? = some be ∧ P v be) (k : ∀ v be, P v be → P' v be) : vs.length = bes.length ∧ ∀ (i : Nat) (v : Value), vs[i]? = some v → ∃ be, bes[i]? = some be ∧ P' v be :=
  ⟨h.1, fun i v hv => (h.2 i v hv).elim fun be hb => ⟨be, hb.1, k v be hb.2⟩⟩
theorem Decs.snoc {P : PySem.Params} {news : List (Addr × Obj)} {vs : List Value} {ts : List Int} {r : Addr} {t : Int} (h : Decs P news vs ts) (hd : Dec P news r t) : Decs P news (vs ++ [.ref r]) (ts ++ [t]) := by
  refine ⟨by rw [List.length_append, List.length_append, h.1]; rfl, fun i v hv => ?_⟩
  rcases Nat.lt_trichotomy i vs.length with hi | hi | hi
  · rw [List.getElem?_append_left hi] at hv
    obtain ⟨r', t', e, ht, hd'⟩ := h.2 i v hv
    exact ⟨r', t', e, by rw [List.getElem?_append_left (by rw [← h.1]; exact hi)]; exact ht, hd'⟩
  · subst hi
    rw [List.getElem?_append_right (Nat.le_refl _), Nat.sub_self] at hv
    refine ⟨r, t, (Option.some.inj hv).symm, ?_, hd⟩
    rw [h.1, List.getElem?_append_right (Nat.le_refl _), Nat.sub_self]; rfl
  · rw [List.getElem?_eq_none (by rw [List.length_append, List.length_singleton]; lia)] at hv
    cases hv
theorem whlIf_dec {p : Prop} [Decidable p] {T F : Prop} (h1 : p → T) (h2 : ¬ p → F) : WhlIf (decide p) T F := by
  by_cases h : p
  · exact WhlIf.yes (decide_eq_true h) (h1 h)
  · exact WhlIf.no (decide_eq_false h) (h2 h)
theorem fmod_nat (k n : Nat) : (k : Int).fmod (n : Int) = ((k % n : Nat) : Int) := by
  rw [Int.fmod_eq_emod_of_nonneg _ (Int.natCast_nonneg n)]
  exact (Int.natCast_emod k n).symm
theorem append_led {prog : Program} {w : World} {A : Around} {E : Value → Shared → Prop} {s : Shared} {h₀ : Heap} {L l : Addr} {m : Str → Option Value} {all : List (Addr × Obj)} {vs : List Value} {c : Nat} {v : Value} {Q : Value → Shared → Prop}
    (F : Fr h₀ L s.heap m) (N : News h₀ L s.heap all) (hm : (l, ({ cls := .type "list", data := .seq vs.toArray c } : Obj)) ∈ all) (hz : vs.length ≤ 1000)
    (h : ∀ h' nw, Fr h₀ L h' m → News h₀ L h' ((l, { cls := .type "list", data := .seq (vs ++ [v]).toArray (c + 1) }) :: nw) → (∀ p ∈ nw, p.1 ≠ l) → (∀ p ∈ all, p.1 ≠ l → p ∈ nw) → (∀ a o, (a, o) ∈ all → o.cls ≠ .type "list" → (a, o) ∈ nw) → Q .none { s with heap := h' }) :
    wpAny (model prog w) A (call (.builtin "list.append") [.ref l, v]) Q E s := by
  have z := N _ hm
  refine append_at (hsz := by rw [List.size_toArray, sizeLine_eq]; lia) z.1 fun h' hs ho' => h h' (all.filter (fun p => decide (p.1 ≠ l))) (F.change hs z.2.1 z.2.2) (fun p hp => ?_)
    (fun p hp => of_decide_eq_true (List.mem_filter.mp hp).2) (fun p hp hn => List.mem_filter.mpr ⟨hp, decide_eq_true hn⟩) (fun a o ha hc => List.mem_filter.mpr ⟨ha, decide_eq_true fun e => hc ?_⟩)
  · rcases List.mem_cons.mp hp with rfl | hp
    · refine ⟨?_, z.2⟩
      rw [ho', List.push_toArray]
    · obtain ⟨hp, hne⟩ := List.mem_filter.mp hp
      exact ⟨(hs.2 p.1 (of_decide_eq_true hne)).trans (N p hp).1, (N p hp).2⟩
  · have h1 := (N _ ha).1
    have h2 := z.1
    rw [e] at h1
    rw [h1] at h2
    exact congrArg Obj.cls (Option.some.inj h2)
theorem Dec.filt {P : PySem.Params} {all nw : List (Addr × Obj)} {r : Addr} {t : Int} (h : Dec P all r t) (hf : ∀ a o, (a, o) ∈ all → o.cls ≠ .type "list" → (a, o) ∈ nw) : Dec P nw r t := by
  obtain ⟨d, o, h1, h2, h3⟩ := h
  refine ⟨d, o, hf _ _ h1 (fun e => by cases e), hf _ _ h2 ?_, h3⟩
  obtain ⟨k1, k2, x, tx, p, tp, rfl, _⟩ := h3
  intro e
  exact absurd (Value.type.inj e) (by decide)
theorem SpanIs.filt {P : PySem.Params} {all nw : List (Addr × Obj)} {v : Value} {be : Int × Int} (h : SpanIs P all v be) (hf : ∀ a o, (a, o) ∈ all → o.cls ≠ .type "list" → (a, o) ∈ nw) : SpanIs P nw v be := by
  obtain ⟨T, r1, r2, n, e, hm, h1, h2⟩ := h
  exact ⟨T, r1, r2, n, e, hf _ _ hm (fun e => absurd (Value.type.inj e) (by decide)), h1.filt hf, h2.filt hf⟩
theorem SpanIs.sub {P : PySem.Params} {news nw : List (Addr × Obj)} {v : Value} {be : Int × Int} (h : SpanIs P news v be) (hs : ∀ p ∈ news, p ∈ nw) : SpanIs P nw v be := by
  obtain ⟨T, r1, r2, n, e, hm, h1, h2⟩ := h
  exact ⟨T, r1, r2, n, e, hs _ hm, h1.sub hs, h2.sub hs⟩
theorem SpansAre.sub {P : PySem.Params} {news nw : List (Addr × Obj)} {vs : List Value} {bes : List (Int × Int)} (h : SpansAre P news vs bes) (hs : ∀ p ∈ news, p ∈ nw) : SpansAre P nw vs bes := allG (P := SpanIs P news) (P' := SpanIs P nw) h fun _ _ hi => hi.sub hs
theorem SpansAre.filt {P : PySem.Params} {all nw : List (Addr × Obj)} {vs : List Value} {bes : List (Int × Int)} (h : SpansAre P all vs bes) (hf : ∀ a o, (a, o) ∈ all → o.cls ≠ .type "list" → (a, o) ∈ nw) : SpansAre P nw vs bes := allG (P := SpanIs P all) (P' := SpanIs P nw) h fun _ _ hi => hi.filt hf
theorem SpansAre.snoc {P : PySem.Params} {news : List (Addr × Obj)} {vs : List Value} {bes : List (Int × Int)} {v : Value} {be : Int × Int} (h : SpansAre P news vs bes) (hd : SpanIs P news v be) : SpansAre P news (vs ++ [v]) (bes ++ [be]) := snocG (P := SpanIs P news) h hd
structure WSt where
  nw : List (Addr × Obj)
  fs : List Value
  c : Nat
  k : Nat
  tk : Tok
  r : Addr
section
variable {prog : Program} {w : World} {A : Around} {E : Value → Shared → Prop} {s : Shared} {h₀ : Heap} {L a b : Addr} {news : List (Addr × Obj)} {vs : List Value} {c c' : Nat} {its : Array Value} {Q : Value → Shared → Prop}
theorem ne_nil_led (N : News h₀ L s.heap news) (h1 : (a, ({ cls := .type "list", data := .seq vs.toArray c } : Obj)) ∈ news) (h2 : (b, ({ cls := .type "list", data := .seq its c' } : Obj)) ∈ news) (hn : 1 ≤ vs.length) (hi : its.size = 0) (hu : A.units < cLine) (h : Q (.bool true) s) :
    wpAny (model prog w) A (compareOp .NotEq (.ref a) (.ref b)) Q E s :=
  PySem.SeqAt.RcNeAt.lists_lengths (items := vs.toArray) (items2 := its) ⟨_, (N _ h1).1, rfl, _, rfl⟩ ⟨_, (N _ h2).1, rfl, _, rfl⟩ (by rw [List.size_toArray, hi]; simp; intro e; rw [e] at hn; exact absurd hn (by decide)) hu prog w E Q h
theorem eq_nil_led (N : News h₀ L s.heap news) (h1 : (a, ({ cls := .type "list", data := .seq vs.toArray c } : Obj)) ∈ news) (h2 : (b, ({ cls := .type "list", data := .seq its c' } : Obj)) ∈ news) (hn : 1 ≤ vs.length) (hi : its.size = 0) (hu : A.units < cLine) (h : Q (.bool false) s) :
    wpAny (model prog w) A (compareOp .Eq (.ref a) (.ref b)) Q E s :=
  PySem.SeqAt.eq_list_lengthsAt (items := vs.toArray) (items2 := its) ⟨_, (N _ h1).1, rfl, _, rfl⟩ ⟨_, (N _ h2).1, rfl, _, rfl⟩ (by rw [List.size_toArray, hi]; simp; intro e; rw [e] at hn; exact absurd hn (by decide)) hu h
end
theorem cmp_lt {c a b : Int} (h : c = 0 ∧ a = b ∨ c = 1 ∧ b < a ∨ c = -1 ∧ a < b) (hc : c < 0) : a < b := by lia
theorem cmp_ge {c a b : Int} (h : c = 0 ∧ a = b ∨ c = 1 ∧ b < a ∨ c = -1 ∧ a < b) (hc : ¬ c < 0) : b ≤ a := by lia
theorem sum_pos {a : Int} (h : 0 < a ∧ a ≤ 1000) : 1 ≤ a := by lia
theorem sub_less {k : Nat} (h : k < 168) : 168 - (k + 1) < 168 - k := by lia
theorem nf_pos {x p t : Int} (h : NF x p t) : (0 < x ↔ 0 < t) ∧ (0 ≤ x ↔ 0 ≤ t) := by
  rcases h with ⟨rfl, rfl⟩ | ⟨rfl, rfl, _⟩ <;> constructor <;> lia
theorem even_n {k : Nat} (h : (k : Int).fmod 2 = 0) : k % 2 = 0 := by rw [fm2] at h; lia
theorem n_even {k : Nat} (h : k % 2 = 0) : (k : Int).fmod 2 = 0 := by rw [fm2]; lia
theorem max_of {a t : Int} (h : t = a ∨ t = 10 * 0) (h1 : a ≤ t) (h2 : 10 * 0 ≤ t) : t = max a 0 := by lia
theorem min_of {a b t : Int} (h : t = a ∨ t = b) (h1 : t ≤ a) (h2 : t ≤ b) : t = min a b := by lia
/-- a test's ways joined -/
def JoinB (h₀ : Heap) (L : Addr) (m : Str → Option Value) (nw : List (Addr × Obj)) (c : Prop) (s : Shared) (b : Bool) (s₂ : Shared) : Prop :=
  (b = true ↔ c) ∧ ∃ h' tk', s₂ = { s with heap := h', toks := tk' } ∧ Fr h₀ L h' m ∧ News h₀ L h' nw
theorem JoinB.yes {h₀ : Heap} {L : Addr} {m : Str → Option Value} {nw : List (Addr × Obj)} {c : Prop} {s : Shared} {h' : Heap} {tk' : Nat} (F : Fr h₀ L h' m) (N : News h₀ L h' nw) (hc : c) : JoinB h₀ L m nw c s true { s with heap := h', toks := tk' } := ⟨⟨fun _ => hc, fun _ => rfl⟩, h', tk', rfl, F, N⟩
theorem JoinB.no {h₀ : Heap} {L : Addr} {m : Str → Option Value} {nw : List (Addr × Obj)} {c : Prop} {s : Shared} {h' : Heap} {tk' : Nat} (F : Fr h₀ L h' m) (N : News h₀ L h' nw) (hc : ¬ c) : JoinB h₀ L m nw c s false { s with heap := h', toks := tk' } := ⟨⟨fun e => (nomatch e), fun e => absurd e hc⟩, h', tk', rfl, F, N⟩
theorem join_b {prog : Program} {w : World} {A : Around} {E : Value → Shared → Prop} {s : Shared} {h₀ : Heap} {L : Addr} {m : Str → Option Value} {nw : List (Addr × Obj)} {code : Sem Bool} {Q : Bool → Shared → Prop} (c : Prop)
    (F : Fr h₀ L s.heap m) (N : News h₀ L s.heap nw) (walk : wpAny (model prog w) A code (JoinB h₀ L m nw c s) E s)
    (yes : ∀ h' tk', c → Fr h₀ L h' m → News h₀ L h' nw → Q true { s with heap := h', toks := tk' })
    (no : ∀ h' tk', ¬ c → Fr h₀ L h' m → News h₀ L h' nw → Q false { s with heap := h', toks := tk' }) : wpAny (model prog w) A code Q E s :=
  wpAny_mono walk (fun b s₂ q => by
    obtain ⟨hb, h', tk', rfl, F', N'⟩ := q
    cases b with
    | true => exact yes h' tk' (hb.mp rfl) F' N'
    | false => exact no h' tk' (fun c => nomatch hb.mpr c) F' N') fun _ _ e => e
section
variable {w : World} {mean : ExcName → Option Value} {mg mb : Str → Option Value} {dp un : Nat} {gd : Option (List Code)} {cn : Str} {cs : Scope} {a : Addr} {ccd : Value} {cl : List (Str × Addr)} {outer : List Env} {A₀ : Around} {base h₀ : Heap} {L : Addr} {m : Str → Option Value} {news : List (Addr × Obj)} {s : Shared} {Q E : Value → Shared → Prop}
theorem dash_ok {vl vp : Value} {l : Addr} {vs : List Value} {ts : List Int} {c : Nat} {tot near far : Int} (B : Below A₀ base outer h₀) (F : Fr h₀ L s.heap m) (X : (hd.heap_39 w.params).In h₀) (N : News h₀ L s.heap news) (T : TheTop mean mg mb h₀) (hkf : cs.kind = .function) (hdp : dp + 40 < recursionLimit) (hun : un + 20 < cLine)
  (hl : (l, ({ cls := .type "list", data := .seq vs.toArray c } : Obj)) ∈ news) (hv : Nums w.params news vs ts) (hn : 1 ≤ vs.length ∧ vs.length ≤ 4) (h0 : ∀ u ∈ ts, 0 ≤ u) (hs : 0 < ts.sum ∧ ts.sum ≤ 1000)
  (hvl : Num w.params news vl tot) (hvp : Num w.params news vp far) (hT : 0 < tot ∧ tot ≤ 40) (hfar : 0 < far ∧ far < 2 ^ 50)
  (hnear : ts.sum * (1 + (vs.length : Int) % 2) * ((far - 1) / (ts.sum * (1 + (vs.length : Int) % 2))) - far = -near) (hle : near ≤ ts.sum * (1 + (vs.length : Int) % 2))
  (ret : ∀ fl fs c nw K h' tk', Fr h₀ L h' m → News h₀ L h' ((fl, { cls := .type "list", data := .seq (List.toArray fs) c }) :: nw) → (∀ p ∈ news, p ∈ nw) → SpansAre w.params nw fs (spansTo ts near tot K) → tot ≤ posAt ts near K → (∀ j, j < K → posAt ts near j < tot) → Q (.ref fl) { s with heap := h', toks := tk' }) :
  wpAny (model PySem.Challenge.rw_qd0123_01.row.prog w) (ktrTop dp un gd cn cs L a ccd cl outer) (call (.ref 218) [vl, .ref l, vp]) Q E s := by
  revert X
  k_fill
  intro X
  refine wpAny_call ?_
  k_dflt k_enter
  k_steps
  rename_i g1 L1 h1 FG1 B1 X1 T1 _ _ tk1 _ _ rT ext1 h2 tk2 lx1 DTb DT dT hrT kT1 kT2 xT txT pT tpT nfT hdT h3 F3 N3
  have hsub1 : ∀ p ∈ news, p ∈ ext1 ++ news := fun p hp => List.mem_append_right _ hp
  generalize ext1 ++ news = nb at hsub1 N3 hrT hdT DT DTb
  clear lx1 ext1
  refine hideM F3 ?_; clear F3; intro mF3 F3
  refine LCg.CompSrc.ledger rfl F3 N3 (hsub1 _ hl) (by rw [List.size_toArray, sizeLine_eq]; lia) (fun g' => ?_)
  have hsz : vs.toArray.size = ts.length := by rw [List.size_toArray]; exact hv.1
  refine comp_inv (J := fun i ys nw => (∀ p ∈ nb, p ∈ nw) ∧ Decs w.params nw ys (ts.take i)) ?_ ?_ _ _ _ _ (Nat.zero_add _) ⟨fun _ h => h, rfl, fun i v h => nomatch h⟩
  · intro i v ys nw hi hP hJ4
    refine foldG ?_
    intro g4
    have hsub2 := hJ4.1
    have hD2 := hJ4.2
    obtain ⟨tv, htv, hnum⟩ := hv.2 i v (by simpa using hP)
    have hnum2 : Num w.params nw v tv := (hnum.sub hsub1).sub hsub2
    intro I oI C oC D m₂ h4 tk4 E' hC hx F4 N4 off ne
    clear F3 N3
    k_steps
    rename_i r5 ext5 h5 tk5 F5 N5 lx5 D5 D6 d5 hr5 k51 k52 x5 tx5 p5 tp5 nf5 hd5
    refine LCg.CompEnd.intro F5 N5 (ext5 ++ nw) mid3 (off3_ext lx5 off) (.inr ⟨_, List.mem_append_right _ (hsub2 _ (hsub1 _ hl)), rfl, _, rfl⟩) ⟨fun p hp => List.mem_append_right _ (hsub2 p hp), ?_⟩
    rw [List.take_add_one, htv]
    exact (hD2.sub fun p hp => List.mem_append_right _ hp).snoc D5
  · intro ys nw hJ4
    have hsub2 := hJ4.1
    have hD2 := hJ4.2
    rw [hsz, List.take_length] at hD2
    have hn2 : 1 ≤ ys.length ∧ ys.length ≤ 4 := by have := hD2.1; have := hv.1; lia
    clear F3 N3
    have hlen : ys.length = vs.length := by have := hD2.1; have := hv.1; lia
    rw [← hlen] at hnear hle
    unfold LCg.FinA
    intro D6 h6 tk6 F6 N6 o6
    try rw [List.nil_append] at N6
    have hsub3 : ∀ p ∈ nb, p ∈ (D6, LCg.lst ys) :: nw := fun p hp => .tail _ (hsub2 p hp)
    have hD3 : Decs w.params ((D6, LCg.lst ys) :: nw) ys ts := hD2.sub fun p hp => .tail _ hp
    have hm6 : (D6, LCg.lst ys) ∈ (D6, LCg.lst ys) :: nw := .head _
    generalize (D6, LCg.lst ys) :: nw = nb2 at hsub3 hD3 hm6 N6
    clear hD2 hsub2 o6
    dsimp only
    refine hideM F6 ?_; clear F6; intro mF6 F6
    k_steps
    iterate 3 (unfold HoldAt; refine wpAny_If ?_; k_steps)
    rename_i r7 d7 k71 k72 x7 tx7 p7 tp7 h7 tk7 nf7 l7 l7' h8 tk8 _ _ h9 z9 _ _ fl h10 l10 h11 F7 N7
    unfold HoldAt
    refine hideM F7 ?_; clear F7; intro mF7 F7
    have O7' : DecO w.params (decD w.params k71 k72 x7 tx7 p7 tp7) (-near) := NF.dec (nf7.as hnear)
    refine while_st (Str.ofString "at") (Str.ofString "turn") (Str.ofString "end") (fun st : WSt => .ref st.r) (fun st => .int st.k st.tk) (fun st => (fl, { cls := .type "list", data := .seq st.fs.toArray st.c }) :: st.nw)
      (fun st => (∀ p ∈ nb2, p ∈ st.nw) ∧ Dec w.params st.nw st.r (posAt ts near st.k) ∧ SpansAre w.params st.nw st.fs (spansTo ts near tot st.k) ∧ (∀ p ∈ st.nw, p.1 ≠ fl) ∧ st.k ≤ 168 ∧ ∀ j, j < st.k → posAt ts near j < tot)
      (fun st => 168 - st.k) ⟨(r7, instObj 155 d7) :: (d7, decD w.params k71 k72 x7 tx7 p7 tp7) :: nb2, [], 0, 0, _, r7⟩ F7 (cb_drop N7 (List.forall_mem_cons.mpr ⟨by k_mem, List.forall_mem_cons.mpr ⟨by k_mem, List.forall_mem_cons.mpr ⟨by k_mem, fun q hq => by repeat' (first | exact hq | refine List.mem_cons_of_mem _ ?_ | refine List.mem_append_right _ ?_ | refine lift_sub (by assumption) ?_)⟩⟩⟩)) (fun _ _ _ _ => rfl) rfl rfl ⟨fun q hq => by repeat' (first | exact hq | refine List.mem_cons_of_mem _ ?_ | refine List.mem_append_right _ ?_ | refine lift_sub (by assumption) ?_), ⟨_, _, .head _, .tail _ (.head _), O7'⟩, ⟨rfl, fun i v h => nomatch h⟩, fun p hp => Nat.ne_of_lt (lt_sub l10 (List.forall_mem_cons.mpr ⟨by k_mem, List.forall_mem_cons.mpr ⟨by k_mem, fun q hq => by repeat' (first | exact hq | refine List.mem_cons_of_mem _ ?_ | refine List.mem_append_right _ ?_ | refine lift_sub (by assumption) ?_)⟩⟩) p hp), Nat.zero_le _, fun j hj => absurd hj (Nat.not_lt_zero _)⟩ ?_ (by passes_own)
    intro st8 u8 h12 tk12 hJ8 F8 N8
    clear F7 N7
    with_reducible show wpAny _ _ _ _ _ _
    k_fold
    obtain ⟨nw8, fs8, c8, k8, tk8', r8⟩ := st8
    have hs8 := hJ8.1
    have hd8 := hJ8.2.1
    have hsp8 := hJ8.2.2.1
    have off8 := hJ8.2.2.2.1
    have hk8 := hJ8.2.2.2.2.1
    have hj8 := hJ8.2.2.2.2.2
    dsimp only at hs8 hd8 hsp8 off8 hk8 hj8 F8 N8
    refine hideM F8 ?_; clear F8; intro mF8 F8
    obtain ⟨d9, o9, hr9, hd9, k91, k92, x9, tx9, p9, tp9, rfl, hn9⟩ := id hd8
    have hlt : k8 % ys.length < ys.length := Nat.mod_lt _ (by lia)
    obtain ⟨rs, us, exs, hus, hds⟩ := hD3.2 (k8 % ys.length) (ys[k8 % ys.length]'hlt) (List.getElem?_eq_getElem hlt)
    have hxs : ys[((k8 : Int).fmod (ys.length : Int)).toNat]? = some (.ref rs) := by rw [fmod_nat, Int.toNat_natCast, List.getElem?_eq_getElem hlt, exs]
    have hz0 : 0 ≤ (k8 : Int).fmod (ys.length : Int) := by rw [fmod_nat]; exact Int.natCast_nonneg _
    have hz1 : (k8 : Int).fmod (ys.length : Int) < 2 ^ 63 := by rw [fmod_nat]; lia
    have hpos : posAt ts near (k8 + 1) = posAt ts near k8 + us := by
      show posAt ts near k8 + ts.getD (k8 % ts.length) 0 = _
      rw [← hD3.1, List.getD_eq_getElem?_getD, hus]; rfl
    have hfs : fs8.length ≤ 400 := by have := hsp8.1; have := spans_len ts near tot k8; lia
    k_steps
    · unfold HoldAt
      refine wpAny_If ?_
      k_steps
      unfold HoldAt
      refine wpAny_If ?_
      rename_i c9 tc9 h13 tk13 C9 hw9 _ _ tk14 _ _ _ _ _ _ _ _ _ _ rE dE kE1 kE2 xE txE pE tpE h14 tk15 nfE lE lE2 h15 FE NE
      have OE : DecO w.params (decD w.params kE1 kE2 xE txE pE tpE) (posAt ts near k8 + us) := NF.dec nfE
      have hlt8 : posAt ts near k8 < tot := cmp_lt C9 hw9
      have hk9 := posAt_far ⟨by rw [← hD3.1]; exact hn2.1, by rw [← hD3.1]; exact hn2.2⟩ h0 (sum_pos hs) (by rw [← hD3.1]; exact hle) hT.2 hlt8
      have hks : 168 - (k8 + 1) < 168 - k8 := sub_less hk9
      refine join_b (k8 % 2 = 0 ∧ (0 < posAt ts near k8 + us ∨ 0 ≤ posAt ts near k8)) FE NE ?_ ?_ ?_
      · k_steps
        · rename (k8 : Int).fmod 2 = 0 => a1
          rename 0 < xE => a2
          exact JoinB.yes (by assumption) (by assumption) ⟨even_n a1, .inl ((nf_pos nfE).1.mp a2)⟩
        · rename (k8 : Int).fmod 2 = 0 => a1
          rename 0 ≤ x9 => a3
          exact JoinB.yes (by assumption) (by assumption) ⟨even_n a1, .inr ((nf_pos hn9).2.mp a3)⟩
        · rename ¬ 0 < xE => a2
          rename ¬ 0 ≤ x9 => a3
          exact JoinB.no (by assumption) (by assumption) fun h => h.2.elim (fun e => a2 ((nf_pos nfE).1.mpr e)) (fun e => a3 ((nf_pos hn9).2.mpr e))
        · rename (k8 : Int).fmod 2 ≠ 0 => a1
          exact JoinB.no (by assumption) (by assumption) fun h => a1 (n_even h.1)
      · clear FE NE
        intro h16 tk16 hc F16 N16
        dsimp only
        k_steps
        rename_i rZ dZ kZ1 kZ2 txZ tpZ hZ tkZ lZ lZ2 lA hA lA1 r11 t11 hG tkG D11 I11 M11 _ _ _ _ lB hB lB1 r12 t12 hL tkL D12 I12 M12 D13 hDD lDD hAp nw13 off13 in13 X13 _ _ z2 hT1 _ _ hT2 F13 N13
        have e11 : t11 = max (posAt ts near k8) 0 := max_of (by simpa using I11) (M11 _ (.head _)) (M11 _ (.tail _ (.head _)))
        have e12 : t12 = min (posAt ts near k8 + us) tot := min_of (by simpa using I12) (M12 _ (.head _)) (M12 _ (.tail _ (.head _)))
        have hspan : spansTo ts near tot (k8 + 1) = spansTo ts near tot k8 ++ [(t11, t12)] := by
          show _ ++ spanAt ts near tot k8 = _
          unfold spanAt
          rw [hpos, if_pos hc, e11, e12]
        refine EndW.intro ⟨nw13, fs8 ++ [.ref D13], c8 + 1, k8 + 1, _, _⟩ F13 N13 rfl rfl (fun y h1 h2 h3 => by simp only [mF8, if_neg h1, if_neg h2, if_neg h3]) hks
          ⟨fun p hp => in13 p (by have hq := hs8 p hp; repeat' (first | exact hq | refine List.mem_cons_of_mem _ ?_)) (off8 p (hs8 p hp)), ?_, ?_, off13, hk9, fun j hj => ?_⟩
        · show Dec w.params _ _ (posAt ts near (k8 + 1))
          rw [hpos]
          exact Dec.filt ⟨_, _, by k_mem, by k_mem, OE⟩ X13
        · show SpansAre w.params _ _ (spansTo ts near tot (k8 + 1))
          rw [hspan]
          exact ((hsp8.sub (fun q hq => by repeat' (first | exact hq | refine List.mem_cons_of_mem _ ?_ | refine List.mem_append_right _ ?_ | refine lift_sub (by assumption) ?_))).filt X13).snoc ⟨D13, r11, r12, _, rfl, X13 _ _ (by k_mem) (fun e => absurd (Value.type.inj e) (by decide)), (D11.sub (fun q hq => by repeat' (first | exact hq | refine List.mem_cons_of_mem _ ?_ | refine List.mem_append_right _ ?_ | refine lift_sub (by assumption) ?_))).filt X13, (D12.sub (fun q hq => by repeat' (first | exact hq | refine List.mem_cons_of_mem _ ?_ | refine List.mem_append_right _ ?_ | refine lift_sub (by assumption) ?_))).filt X13⟩
        · exact (Nat.lt_succ_iff_lt_or_eq.mp hj).elim (hj8 j) (fun e => e ▸ hlt8)
      · clear FE NE
        intro h16 tk16 hc F16 N16
        dsimp only
        k_steps
        rename_i hT1 _ _ hT2 F13 N13
        have hspan : spansTo ts near tot (k8 + 1) = spansTo ts near tot k8 := by
          show _ ++ spanAt ts near tot k8 = _
          unfold spanAt
          rw [hpos, if_neg hc, List.append_nil]
        refine EndW.intro ⟨(rE, instObj 155 dE) :: (dE, decD w.params kE1 kE2 xE txE pE tpE) :: nw8, fs8, c8, k8 + 1, _, rE⟩ F13 (cb_drop N13 (List.forall_mem_cons.mpr ⟨by k_mem, List.forall_mem_cons.mpr ⟨by k_mem, List.forall_mem_cons.mpr ⟨by k_mem, fun q hq => by repeat' (first | exact hq | refine List.mem_cons_of_mem _ ?_ | refine List.mem_append_right _ ?_ | refine lift_sub (by assumption) ?_)⟩⟩⟩)) rfl rfl (fun y h1 h2 h3 => by simp only [mF8, if_neg h1, if_neg h2, if_neg h3]) hks
          ⟨fun p hp => .tail _ (.tail _ (hs8 p hp)), ?_, ?_, ?_, hk9, fun j hj => ?_⟩
        · show Dec w.params _ _ (posAt ts near (k8 + 1))
          rw [hpos]
          exact ⟨_, _, .head _, .tail _ (.head _), OE⟩
        · show SpansAre w.params _ _ (spansTo ts near tot (k8 + 1))
          rw [hspan]
          exact hsp8.sub fun p hp => .tail _ (.tail _ hp)
        · have h9 : fl < dE := lE _ (.head _)
          intro p hp
          rcases List.mem_cons.mp hp with rfl | hp
          · exact Ne.symm (Nat.ne_of_lt (Nat.lt_trans h9 lE2))
          rcases List.mem_cons.mp hp with rfl | hp
          · exact Ne.symm (Nat.ne_of_lt h9)
          · exact off8 p hp
        · exact (Nat.lt_succ_iff_lt_or_eq.mp hj).elim (hj8 j) (fun e => e ▸ hlt8)
    · rename_i c9 tc9 h13 tk13 F13 N13 C9 hw9 kF9 kN9 Tc9 kX9
      exact ret fl fs8 c8 nw8 k8 _ _ kF9 kN9 (fun p hp => hs8 p (hsub3 p (hsub1 p hp))) hsp8 (cmp_ge C9 hw9) hj8
end
theorem fresh13 : True := by
  w_top off
  k_with_none
  k_with "enter K" => (first | assumption | exact rfl)
  k_with "enter binds" => (first | exact BindsTo.of_eq rfl | exact binds_K (by k_in) rfl (by k_is) rfl rfl rfl | fail "k_enter: no rule for these arguments")
  k_with "room" => (first | ((try simp only [depth_under_make, depth_under_kw, depth_in1, depth_deeper, depth_caller]); (try dsimp only [ktrTop]); lia) | ((try simp only [depth_under_make, depth_under_kw, depth_in1, depth_deeper, depth_caller]); decide))
  k_with "enter" => (refine' code_defC (by k_asm) (by k_asm) (by k_asm) (by k_asm) (by k_asm) (by exact rfl) (by exact rfl) (by walk_at "enter K") (by k_is) (by k_is) (by k_room) (by walk_at "enter binds") (by exact rfl) (by decide +kernel) ?_ (by exact rfl) (by exact rfl) (by exact rfl); k_whole; intro _ _ _ _ _ _ _; intro N' Y' B'; (try k_lift B'); revert B'; intro _ _ _; intro l1; (try k_lt l1); revert l1; intro _; k_cells Y'; (try simp only [List.cons_append, List.nil_append] at N'); revert N'; intro _; (try dsimp only); (try k_fold))
  k_with "enter" => (refine' code_def (by k_asm) (by k_asm) (by k_asm) (by k_asm) (by k_asm) (by exact rfl) (by exact rfl) (by walk_at "enter K") (by k_is) (by k_is) (by k_room) (by walk_at "enter binds") (by exact locs rfl) ?_ (by exact rfl) (by exact rfl) (by exact rfl) ?_; rotate_left; decide; k_whole; intro _ _ _ _ _ _; intro B'; (try k_lift B'); revert B'; intro _ _ _; (try dsimp only); (try k_fold))
  k_with "binaryOp Pow int int" => (with_reducible refine pow_int_small ?_ ?_ ?_ ?_; (first | decide | lia); (first | decide | lia); decide)
  k_with "rel" => (first | exact List.Mem.head _ | (refine' List.mem_cons_of_mem _ ?_; ktr_rel) | ktr_member | (refine' List.mem_append_right _ ?_; ktr_rel) | (refine' lift_sub (by assumption) ?_; ktr_rel))
  k_with "ite" => (k_dflt (first | refine ite_pos (by (simp only [beq_iff_eq, bne_iff_ne, decide_eq_true_eq, ne_eq]); lia) ?_ | refine ite_neg (by (simp only [beq_iff_eq, bne_iff_ne, decide_eq_true_eq, ne_eq]); lia) ?_))
  k_with "exec Assign" => (k_fold)
  k_with "isTrue BoolOp" => (k_fold)
  k_with "isTrue Compare" => (k_fold)
  k_with "eval Compare" => (k_fold)
  k_with "eval Tuple" => (k_fold)
  k_with "eval List" => (k_fold)
  k_with "exec Expr" => (k_fold)
  k_with "exec If" => (k_fold)
  k_with "exec Return" => (k_fold)
  k_with "eval Call Attribute" => (k_fold)
  k_with "do K" => (first | assumption | exact rfl)
  k_with "do tails" => (exact fun q hq => by repeat' (first | exact hq | refine List.mem_cons_of_mem _ ?_ | refine List.mem_append_right _ ?_ | refine lift_sub (by assumption) ?_))
  k_with "do dec" => (first | assumption | exact Dec.sub (by assumption) (fun q hq => by repeat' (first | exact hq | refine List.mem_cons_of_mem _ ?_ | refine List.mem_append_right _ ?_ | refine lift_sub (by assumption) ?_)) | exact ⟨_, _, by k_mem, by k_mem, by assumption⟩ | exact ⟨_, _, by k_mem, by k_mem, ⟨_, _, _, _, _, _, rfl, by assumption⟩⟩ | exact ⟨_, _, by k_mem, by k_mem, decO_whole⟩)
  k_with "do newdec" => (intro _ _ _ _ _ _ _ _ _ _ _ _ _ _; intro l2; (try k_lt2 l2); revert l2; intro _; (try k_sweep))
  k_with "do gotdec" => (intro _ _ _ _ _ _ _ _ _ _ _ _ _ _ _ _ _; (try k_sweep))
  k_with "do mod" => (k_dflt (refine mod_int' (by lia) ?_))
  k_with "do newlist" => (k_here; k_dflt (refine' newList_K (by k_asm) (by k_asm) ?_; k_whole; intro _ _ _ _ _; (try k_sweep)))
  k_with "do for" => (k_here; (with_unfolding_all refine' For_invVF ‹Fr _ _ _ _› (by exact rfl) (by exact rfl) ?_; k_whole))
  k_with "call ref cons nil" => (k_here; (with_reducible show wpAny _ _ (call (Value.ref 155) [Value.int _ _, Value.int _ _]) _ _ _); k_dflt (refine' mk_ok (by k_asm) (by k_asm) (by k_asm) (by k_asm) (by k_asm) (by walk_at "do K") (by k_room) (by first | exact Or.inl rfl | exact Or.inr rfl | assumption | lia) ?_; k_whole; walk_at "do newdec"))
  k_with "do num" => (first | assumption | exact Num.sub (by assumption) (fun q hq => by repeat' (first | exact hq | refine List.mem_cons_of_mem _ ?_ | refine List.mem_append_right _ ?_ | refine lift_sub (by assumption) ?_)) | exact .inl ⟨_, rfl, by walk_at "do dec"⟩ | exact .inr ⟨_, _, rfl, rfl⟩)
  k_with "after dof_num" => (intro _ _ _ _ _ _ _ _ _ _ _ _ _ _ _ _ _ _ _; (try k_sweep))
  k_with "call ref cons nil" => (k_here; (with_reducible show wpAny _ _ (call (Value.ref 173) [_]) _ _ _); k_dflt (refine' dof_num (by k_asm) (by k_asm) (by k_asm) (by k_asm) (by k_asm) (by walk_at "do K") (by k_room) (by walk_at "do num") (by walk_at "do tails") ?_; k_whole; walk_at "after dof_num"))
  k_with "after dof_int" => (intro _ _ _ _ _ _ _ _ _ _ _; intro l2; (try k_lt2 l2); revert l2; intro _; (try k_sweep))
  k_with "call ref cons nil" => (k_here; (with_reducible show wpAny _ _ (call (Value.ref 173) [Value.int _ _]) _ _ _); k_dflt (refine' dof_int (by k_asm) (by k_asm) (by k_asm) (by k_asm) (by k_asm) (by walk_at "do K") (by k_room)  ?_; k_whole; walk_at "after dof_int"))
  k_with "after dof_dec" => (intro _ _ _ _; (try k_sweep))
  k_with "call ref cons nil" => (k_here; (with_reducible show wpAny _ _ (call (Value.ref 173) [Value.ref _]) _ _ _); k_dflt (refine' dof_dec (by k_asm) (by k_asm) (by k_asm) (by k_asm) (by k_asm) (by walk_at "do K") (by k_room) (by walk_at "do dec") ?_; k_whole; walk_at "after dof_dec"))
  k_with "after scale_n" => (intro _ _ _ _ _ _ _ _ _ _ _ _ _; (try k_sweep))
  k_with "call ref cons nil" => (k_here; (with_reducible show wpAny _ _ (call (Value.ref 180) [_, _]) _ _ _); k_dflt (refine' scale_n (by k_asm) (by k_asm) (by k_asm) (by k_asm) (by k_asm) (by walk_at "do K") (by k_room) (by walk_at "do num") (by walk_at "do num") ?_; k_whole; walk_at "after scale_n"))
  k_with "call ref cons nil" => (k_here; (with_reducible show wpAny _ _ (call (Value.ref 82) [Value.ref _, Value.ref _]) _ _ _); k_dflt (refine' plus_ok (by k_asm) (by k_asm) (by k_asm) (by k_asm) (by k_asm) (by walk_at "do K") (by k_room) (by walk_at "do dec") (by walk_at "do dec") ?_; k_whole; walk_at "do newdec"))
  k_with "call ref cons nil" => (k_here; (with_reducible show wpAny _ _ (call (Value.ref 89) [Value.ref _, _]) _ _ _); k_dflt (refine' minus_n (by k_asm) (by k_asm) (by k_asm) (by k_asm) (by k_asm) (by walk_at "do K") (by k_room) (by walk_at "do dec") (by walk_at "do num") ?_; k_whole; walk_at "do newdec"))
  k_with "call ref cons nil" => (k_here; (with_reducible show wpAny _ _ (call (Value.ref 96) [Value.ref _, Value.int _ _]) _ _ _); k_dflt (refine' times_di (by k_asm) (by k_asm) (by k_asm) (by k_asm) (by k_asm) (by walk_at "do K") (by k_room) (by walk_at "do dec") (by first | assumption | lia | (simp only [fm2]; lia) | exact fdiv_bound (by lia) (by lia) (by lia)) ?_; k_whole; walk_at "do newdec"))
  k_with "after cmp_dd" => (intro _ _ _ _ _ _ _; (try k_sweep))
  k_with "call ref cons nil" => (k_here; (with_reducible show wpAny _ _ (call (Value.ref 110) [Value.ref _, Value.ref _]) _ _ _); k_dflt (refine' cmp_dd (by k_asm) (by k_asm) (by k_asm) (by k_asm) (by k_asm) (by walk_at "do K") (by k_room) (by walk_at "do dec") (by walk_at "do dec") ?_; k_whole; walk_at "after cmp_dd"))
  k_with "after told_d" => (intro _ _ _ _ _ _ _ _ _ _ _ _; (try k_sweep))
  k_with "call ref cons nil" => (k_here; (with_reducible show wpAny _ _ (call (Value.ref 138) [Value.ref _]) _ _ _); k_dflt (refine' told_d (by k_asm) (by k_asm) (by k_asm) (by k_asm) (by k_asm) (by walk_at "do K") (by k_room) (by walk_at "do dec") ?_; k_whole; walk_at "after told_d"))
  k_with "do item" => (k_here; (with_reducible show wpAny _ _ (subscriptTail _ _ (Value.ref _) (Value.int _ _)) _ _ _); k_dflt (refine' item_led (by k_asm) (by k_mem) (by first | decide | assumption) (by first | decide | assumption) (by assumption) ?_ (by with_unfolding_all rfl); k_whole))
  k_with "do len" => (k_here; (with_reducible show wpAny _ _ (call (Value.builtin "len") [Value.ref _]) _ _ _); k_dflt (refine' len_led (by k_asm) (by k_mem) (by lia) ?_; k_whole))
  k_with "do decs" => (first | assumption | exact Decs.sub (by assumption) (fun q hq => by repeat' (first | exact hq | refine List.mem_cons_of_mem _ ?_ | refine List.mem_append_right _ ?_ | refine lift_sub (by assumption) ?_)) | exact decs2 (by first | assumption | exact Dec.sub (by assumption) (fun q hq => by repeat' (first | exact hq | refine List.mem_cons_of_mem _ ?_ | refine List.mem_append_right _ ?_ | refine lift_sub (by assumption) ?_)) | exact ⟨_, _, by k_mem, by k_mem, by assumption⟩ | exact ⟨_, _, by k_mem, by k_mem, ⟨_, _, _, _, _, _, rfl, by assumption⟩⟩ | exact ⟨_, _, by k_mem, by k_mem, decO_whole⟩) (by first | assumption | exact Dec.sub (by assumption) (fun q hq => by repeat' (first | exact hq | refine List.mem_cons_of_mem _ ?_ | refine List.mem_append_right _ ?_ | refine lift_sub (by assumption) ?_)) | exact ⟨_, _, by k_mem, by k_mem, by assumption⟩ | exact ⟨_, _, by k_mem, by k_mem, ⟨_, _, _, _, _, _, rfl, by assumption⟩⟩ | exact ⟨_, _, by k_mem, by k_mem, decO_whole⟩))
  k_with "after least_ok" => (intro _ _ _ _ _ _ _ _ _; (try k_sweep))
  k_with "call ref cons nil" => (k_here; (with_reducible show wpAny _ _ (call (Value.ref 199) [Value.ref _]) _ _ _); k_dflt (refine' least_ok (by k_asm) (by k_asm) (by k_asm) (by k_asm) (by k_asm) (by walk_at "do K") (by k_room) (by k_mem) (by walk_at "do decs") (by first | assumption | exact ⟨Nat.le_of_ble_eq_true rfl, Nat.le_of_ble_eq_true rfl⟩ | exact ⟨by lia, by lia⟩) ?_; k_whole; walk_at "after least_ok"))
  k_with "after greatest_ok" => (intro _ _ _ _ _ _ _ _ _; (try k_sweep))
  k_with "call ref cons nil" => (k_here; (with_reducible show wpAny _ _ (call (Value.ref 206) [Value.ref _]) _ _ _); k_dflt (refine' greatest_ok (by k_asm) (by k_asm) (by k_asm) (by k_asm) (by k_asm) (by walk_at "do K") (by k_room) (by k_mem) (by walk_at "do decs") (by first | assumption | exact ⟨Nat.le_of_ble_eq_true rfl, Nat.le_of_ble_eq_true rfl⟩ | exact ⟨by lia, by lia⟩) ?_; k_whole; walk_at "after greatest_ok"))
  k_with "after tops_ok" => (intro _ _ _ _ _ _ _ _ _ _ _ _ _; (try k_sweep))
  k_with "call ref cons nil" => (k_here; (with_reducible show wpAny _ _ (call (Value.ref 185) [Value.ref _]) _ _ _); k_dflt (refine' tops_ok (by k_asm) (by k_asm) (by k_asm) (by k_asm) (by k_asm) (by walk_at "do K") (by k_room) (by k_mem) (by walk_at "do decs") (by first | assumption | exact ⟨by lia, by lia⟩) ?_; k_whole; walk_at "after tops_ok"))
  k_with "call ref cons nil" => (k_here; (with_reducible show wpAny _ _ (call (Value.ref 192) [Value.ref _]) _ _ _); k_dflt (refine' sum_ok (by k_asm) (by k_asm) (by k_asm) (by k_asm) (by k_asm) (by walk_at "do K") (by k_room) (by k_mem) (by walk_at "do decs") (by first | assumption | exact ⟨by lia, by lia⟩) ?_; k_whole; walk_at "do newdec"))
  k_with "do div" => (k_dflt (refine floordiv_int (by lia) ?_ (Or.inl (PyProof.noPylong_small (by lia)))))
  k_with "call ref cons nil" => (k_here; (with_reducible show wpAny _ _ (call (Value.ref 213) [Value.ref _, _]) _ _ _); k_dflt (refine' ahead_n (by k_asm) (by k_asm) (by k_asm) (by k_asm) (by k_asm) (by walk_at "do K") (by k_room) (by k_mem) (by walk_at "do decs") (by first | assumption | exact ⟨by lia, by lia⟩) (by first | assumption | lia) (by walk_at "do num") (by first | assumption | lia) ?_; k_whole; walk_at "do newdec"))
  k_with "call ref cons nil" => (k_here; (with_reducible show wpAny _ _ (call (Value.ref 199) [Value.ref _]) _ _ _); k_dflt (refine' least_pos (by k_asm) (by k_asm) (by k_asm) (by k_asm) (by k_asm) (by walk_at "do K") (by k_room) (by k_mem) (by walk_at "do decs") (by first | assumption | exact ⟨by lia, by lia⟩) (by assumption) ?_; k_whole; walk_at "do gotdec"))
  k_with "call ref cons nil" => (k_here; (with_reducible show wpAny _ _ (call (Value.ref 206) [Value.ref _]) _ _ _); k_dflt (refine' greatest_pos (by k_asm) (by k_asm) (by k_asm) (by k_asm) (by k_asm) (by walk_at "do K") (by k_room) (by k_mem) (by walk_at "do decs") (by first | assumption | exact ⟨by lia, by lia⟩) (by assumption) ?_; k_whole; walk_at "do gotdec"))
  k_with "do compA" => (k_here; k_dflt (refine LCg.Assign_ListComp_U (F₀ := by k_asm) (by rfl) (by with_unfolding_all rfl) (by with_unfolding_all rfl) (by decide) (by rfl) (by decide) (by rfl) (by rfl) (by rfl) ?_))
  k_with "do eq" => (k_here; (with_reducible show wpAny _ _ (compareOp CmpOp.Eq (Value.ref _) (Value.ref _)) _ _ _); k_dflt (refine' eq_nil_led (by k_asm) (by k_mem) (by k_mem) (by lia) (by rfl) (by ((try simp only [units_in1, units_deeper, Around.mark_units]); (try dsimp only [ktrTop]); lia)) ?_; k_whole))
  k_with "do ne" => (k_here; (with_reducible show wpAny _ _ (compareOp CmpOp.NotEq (Value.ref _) (Value.ref _)) _ _ _); k_dflt (refine' ne_nil_led (by k_asm) (by k_mem) (by k_mem) (by lia) (by rfl) (by ((try simp only [units_in1, units_deeper, Around.mark_units]); (try dsimp only [ktrTop]); lia)) ?_; k_whole))
  k_with "do append" => ((k_here; (with_reducible show wpAny _ _ (call (Value.builtin _) [Value.ref _, _]) _ _ _); k_dflt (refine' append_led (by k_asm) (by k_asm) (by k_mem) (by lia) ?_; k_whole; intro _ _ _ _ _ _ _; (try k_sweep))))
  k_with "do div2" => (k_dflt (first | refine floordiv_int (by lia) ?_ (Or.inl (PyProof.noPylong_small (by lia))) | refine floordiv_int (by lia) ?_ (Or.inl (noPy (by lia)))))
  k_with "all" => assumption
  k_with "binaryOp Mod int int" => (walk_at "do mod")
  k_with "binaryOp FloorDiv int int" => (walk_at "do div2")
  k_with "call builtin:len" => (walk_at "do len")
  trivial
noncomputable abbrev srcO (C : Addr) (rest : Int) (tr : Tok) (pl : Int) (tp : Tok) (c : Nat) : Obj := { cls := .type "list", data := .seq #[.ref C, .int rest tr, .int pl tp] c }
theorem noPy {x y : Int} (h : 0 ≤ y ∧ y < 2 ^ 62) : Builtin.divisionGoesByPylong x y = false := by
  refine PyProof.noPylong_of_log2 ?_
  by_cases h0 : y.natAbs = 0
  · rw [h0]; decide +kernel
  · have h30 : y.natAbs.log2 < 62 := (Nat.log2_lt h0).mpr (by lia)
    lia
section
variable {w : World} {mean : ExcName → Option Value} {mg mb : Str → Option Value} {dp un : Nat} {gd : Option (List Code)} {cn : Str} {cs : Scope} {a : Addr} {ccd : Value} {cl : List (Str × Addr)} {outer : List Env} {A₀ : Around} {base h₀ : Heap} {L : Addr} {m : Str → Option Value} {news : List (Addr × Obj)} {s : Shared} {Q E : Value → Shared → Prop}
theorem take_one {S C : Addr} {rest pl lim : Int} {tr tp tl : Tok} {c c2 : Nat} {ws : List Value} {cs' : List Int} (B : Below A₀ base outer h₀) (F : Fr h₀ L s.heap m) (X : (hd.heap_39 w.params).In h₀) (N : News h₀ L s.heap news) (T : TheTop mean mg mb h₀) (hkf : cs.kind = .function) (hdp : dp + 4 < recursionLimit)
  (hS : ∀ p ∈ news, p.1 ≠ S) (N2 : News h₀ L s.heap ((S, srcO C rest tr pl tp c) :: news)) (hC : (C, ({ cls := .type "list", data := .seq ws.toArray c2 } : Obj)) ∈ news) (hi : IntsAre ws cs') (hl : 1 ≤ cs'.length ∧ cs'.length ≤ 60) (hp : 0 ≤ pl ∧ pl ≤ 1000) (hlim : 0 < lim ∧ lim < 2 ^ 62)
  (ret : ∀ r tk rest' tr' tp' c' h' tk', Fr h₀ L h' m → News h₀ L h' ((S, srcO C rest' tr' (pl + 1) tp' c') :: news) → 0 ≤ r → r < lim → Q (.int r tk) { s with heap := h', toks := tk' }) :
  wpAny (model PySem.Challenge.rw_qd0123_01.row.prog w) (ktrTop dp un gd cn cs L a ccd cl outer) (call (.ref 230) [.ref S, .int lim tl]) Q E s := by
  revert X
  k_fill
  intro X
  clear N
  have hwl : ws.length = cs'.length := hi.length
  refine wpAny_call ?_
  k_dflt k_enter
  k_steps
  all_goals exact ret _ _ _ _ _ _ _ _ (by assumption) (by assumption) (fmod_lo _ hlim.1) (fmod_hi _ hlim.1)
theorem take_ok {S C : Addr} {rest pl lim : Int} {tr tp tl : Tok} {c c2 : Nat} {ws : List Value} {cs' : List Int} {g : Obj → List (Addr × Obj)} (B : Below A₀ base outer h₀) (F : Fr h₀ L s.heap m) (X : (hd.heap_39 w.params).In h₀) (N : News h₀ L s.heap news) (T : TheTop mean mg mb h₀) (hkf : cs.kind = .function) (hdp : dp + 4 < recursionLimit)
  (U : UpdF S (srcO C rest tr pl tp c) news g) (hC : (C, ({ cls := .type "list", data := .seq ws.toArray c2 } : Obj)) ∈ news) (hCS : C ≠ S) (hi : IntsAre ws cs') (hl : 1 ≤ cs'.length ∧ cs'.length ≤ 60) (hp : 0 ≤ pl ∧ pl ≤ 1000) (hlim : 0 < lim ∧ lim < 2 ^ 62)
  (ret : ∀ r tk rest' tr' tp' c' h' tk', Fr h₀ L h' m → News h₀ L h' (g (srcO C rest' tr' (pl + 1) tp' c')) → 0 ≤ r → r < lim → Q (.int r tk) { s with heap := h', toks := tk' }) :
  wpAny (model PySem.Challenge.rw_qd0123_01.row.prog w) (ktrTop dp un gd cn cs L a ccd cl outer) (call (.ref 230) [.ref S, .int lim tl]) Q E s := by
  obtain ⟨pre, post, e, hg, h1, h2⟩ := U.split
  subst e
  have hS : ∀ p ∈ pre ++ post, p.1 ≠ S := fun p hp => (List.mem_append.mp hp).elim (h1 p) (h2 p)
  have hC2 : (C, ({ cls := .type "list", data := .seq ws.toArray c2 } : Obj)) ∈ pre ++ post := by
    rcases List.mem_append.mp hC with h | h
    · exact List.mem_append_left _ h
    rcases List.mem_cons.mp h with h | h
    · exact absurd (congrArg Prod.fst h) hCS
    · exact List.mem_append_right _ h
  refine take_one (rest := rest) (tr := tr) (tp := tp) (c := c) B F X (cb_drop N fun p hp => ?_) T hkf hdp hS (cb_drop N fun p hp => ?_) hC2 hi hl hp hlim fun r tk rest' tr' tp' c' h' tk' F' N' r0 r1 => ret r tk rest' tr' tp' c' h' tk' F' ?_ r0 r1
  · exact (List.mem_append.mp hp).elim (List.mem_append_left _) fun h => List.mem_append_right _ (.tail _ h)
  · rcases List.mem_cons.mp hp with rfl | hp
    · exact List.mem_append_right _ (.head _)
    · exact (List.mem_append.mp hp).elim (List.mem_append_left _) fun h => List.mem_append_right _ (.tail _ h)
  · rw [hg]
    refine cb_drop N' fun p hp => ?_
    rcases List.mem_append.mp hp with h | h
    · exact .tail _ (List.mem_append_left _ h)
    rcases List.mem_cons.mp h with rfl | h
    · exact .head _
    · exact .tail _ (List.mem_append_right _ h)
end
theorem fresh14 : True := by
  w_top off
  k_with_none
  k_with "enter K" => (first | assumption | exact rfl)
  k_with "enter binds" => (first | exact BindsTo.of_eq rfl | exact binds_K (by k_in) rfl (by k_is) rfl rfl rfl | fail "k_enter: no rule for these arguments")
  k_with "room" => (first | ((try simp only [depth_under_make, depth_under_kw, depth_in1, depth_deeper, depth_caller]); (try dsimp only [ktrTop]); lia) | ((try simp only [depth_under_make, depth_under_kw, depth_in1, depth_deeper, depth_caller]); decide))
  k_with "enter" => (refine' code_defC (by k_asm) (by k_asm) (by k_asm) (by k_asm) (by k_asm) (by exact rfl) (by exact rfl) (by walk_at "enter K") (by k_is) (by k_is) (by k_room) (by walk_at "enter binds") (by exact rfl) (by decide +kernel) ?_ (by exact rfl) (by exact rfl) (by exact rfl); k_whole; intro _ _ _ _ _ _ _; intro N' Y' B'; (try k_lift B'); revert B'; intro _ _ _; intro l1; (try k_lt l1); revert l1; intro _; k_cells Y'; (try simp only [List.cons_append, List.nil_append] at N'); revert N'; intro _; (try dsimp only); (try k_fold))
  k_with "enter" => (refine' code_def (by k_asm) (by k_asm) (by k_asm) (by k_asm) (by k_asm) (by exact rfl) (by exact rfl) (by walk_at "enter K") (by k_is) (by k_is) (by k_room) (by walk_at "enter binds") (by exact locs rfl) ?_ (by exact rfl) (by exact rfl) (by exact rfl) ?_; rotate_left; decide; k_whole; intro _ _ _ _ _ _; intro B'; (try k_lift B'); revert B'; intro _ _ _; (try dsimp only); (try k_fold))
  k_with "binaryOp Pow int int" => (with_reducible refine pow_int_small ?_ ?_ ?_ ?_; (first | decide | lia); (first | decide | lia); decide)
  k_with "rel" => (first | exact List.Mem.head _ | (refine' List.mem_cons_of_mem _ ?_; ktr_rel) | ktr_member | (refine' List.mem_append_right _ ?_; ktr_rel) | (refine' lift_sub (by assumption) ?_; ktr_rel))
  k_with "ite" => (k_dflt (first | refine ite_pos (by (simp only [beq_iff_eq, bne_iff_ne, decide_eq_true_eq, ne_eq]); lia) ?_ | refine ite_neg (by (simp only [beq_iff_eq, bne_iff_ne, decide_eq_true_eq, ne_eq]); lia) ?_))
  k_with "eval Call" => (k_fold)
  k_with "exec Assign" => (k_fold)
  k_with "eval BinOp" => (k_fold)
  k_with "isTrue BoolOp" => (k_fold)
  k_with "eval Compare" => (k_fold)
  k_with "eval Tuple" => (k_fold)
  k_with "eval List" => (k_fold)
  k_with "eval Subscript" => (k_fold)
  k_with "exec Expr" => (k_fold)
  k_with "exec If" => (k_fold)
  k_with "exec Return" => (k_fold)
  k_with "eval Call Attribute" => (k_fold)
  k_with "do K" => (first | assumption | exact rfl)
  k_with "do tails" => (exact fun q hq => by repeat' (first | exact hq | refine List.mem_cons_of_mem _ ?_ | refine List.mem_append_right _ ?_ | refine lift_sub (by assumption) ?_))
  k_with "do dec" => (first | assumption | exact Dec.sub (by assumption) (fun q hq => by repeat' (first | exact hq | refine List.mem_cons_of_mem _ ?_ | refine List.mem_append_right _ ?_ | refine lift_sub (by assumption) ?_)) | exact ⟨_, _, by k_mem, by k_mem, by assumption⟩ | exact ⟨_, _, by k_mem, by k_mem, ⟨_, _, _, _, _, _, rfl, by assumption⟩⟩ | exact ⟨_, _, by k_mem, by k_mem, decO_whole⟩)
  k_with "do newdec" => (intro _ _ _ _ _ _ _ _ _ _ _ _ _ _; intro l2; (try k_lt2 l2); revert l2; intro _; (try k_sweep))
  k_with "do gotdec" => (intro _ _ _ _ _ _ _ _ _ _ _ _ _ _ _ _ _; (try k_sweep))
  k_with "do mod" => (k_dflt (refine mod_int' (by lia) ?_))
  k_with "do newlist" => (k_here; k_dflt (refine' newList_K (by k_asm) (by k_asm) ?_; k_whole; intro _ _ _ _ _; (try k_sweep)))
  k_with "do for" => (k_here; (with_unfolding_all refine' For_invVF ‹Fr _ _ _ _› (by exact rfl) (by exact rfl) ?_; k_whole))
  k_with "call ref cons nil" => (k_here; (with_reducible show wpAny _ _ (call (Value.ref 155) [Value.int _ _, Value.int _ _]) _ _ _); k_dflt (refine' mk_ok (by k_asm) (by k_asm) (by k_asm) (by k_asm) (by k_asm) (by walk_at "do K") (by k_room) (by first | exact Or.inl rfl | exact Or.inr rfl | assumption | lia) ?_; k_whole; walk_at "do newdec"))
  k_with "do num" => (first | assumption | exact Num.sub (by assumption) (fun q hq => by repeat' (first | exact hq | refine List.mem_cons_of_mem _ ?_ | refine List.mem_append_right _ ?_ | refine lift_sub (by assumption) ?_)) | exact .inl ⟨_, rfl, by walk_at "do dec"⟩ | exact .inr ⟨_, _, rfl, rfl⟩)
  k_with "after dof_num" => (intro _ _ _ _ _ _ _ _ _ _ _ _ _ _ _ _ _ _ _; (try k_sweep))
  k_with "call ref cons nil" => (k_here; (with_reducible show wpAny _ _ (call (Value.ref 173) [_]) _ _ _); k_dflt (refine' dof_num (by k_asm) (by k_asm) (by k_asm) (by k_asm) (by k_asm) (by walk_at "do K") (by k_room) (by walk_at "do num") (by walk_at "do tails") ?_; k_whole; walk_at "after dof_num"))
  k_with "after dof_int" => (intro _ _ _ _ _ _ _ _ _ _ _; intro l2; (try k_lt2 l2); revert l2; intro _; (try k_sweep))
  k_with "call ref cons nil" => (k_here; (with_reducible show wpAny _ _ (call (Value.ref 173) [Value.int _ _]) _ _ _); k_dflt (refine' dof_int (by k_asm) (by k_asm) (by k_asm) (by k_asm) (by k_asm) (by walk_at "do K") (by k_room)  ?_; k_whole; walk_at "after dof_int"))
  k_with "after dof_dec" => (intro _ _ _ _; (try k_sweep))
  k_with "call ref cons nil" => (k_here; (with_reducible show wpAny _ _ (call (Value.ref 173) [Value.ref _]) _ _ _); k_dflt (refine' dof_dec (by k_asm) (by k_asm) (by k_asm) (by k_asm) (by k_asm) (by walk_at "do K") (by k_room) (by walk_at "do dec") ?_; k_whole; walk_at "after dof_dec"))
  k_with "after scale_n" => (intro _ _ _ _ _ _ _ _ _ _ _ _ _; (try k_sweep))
  k_with "call ref cons nil" => (k_here; (with_reducible show wpAny _ _ (call (Value.ref 180) [_, _]) _ _ _); k_dflt (refine' scale_n (by k_asm) (by k_asm) (by k_asm) (by k_asm) (by k_asm) (by walk_at "do K") (by k_room) (by walk_at "do num") (by walk_at "do num") ?_; k_whole; walk_at "after scale_n"))
  k_with "call ref cons nil" => (k_here; (with_reducible show wpAny _ _ (call (Value.ref 82) [Value.ref _, Value.ref _]) _ _ _); k_dflt (refine' plus_ok (by k_asm) (by k_asm) (by k_asm) (by k_asm) (by k_asm) (by walk_at "do K") (by k_room) (by walk_at "do dec") (by walk_at "do dec") ?_; k_whole; walk_at "do newdec"))
  k_with "call ref cons nil" => (k_here; (with_reducible show wpAny _ _ (call (Value.ref 89) [Value.ref _, _]) _ _ _); k_dflt (refine' minus_n (by k_asm) (by k_asm) (by k_asm) (by k_asm) (by k_asm) (by walk_at "do K") (by k_room) (by walk_at "do dec") (by walk_at "do num") ?_; k_whole; walk_at "do newdec"))
  k_with "call ref cons nil" => (k_here; (with_reducible show wpAny _ _ (call (Value.ref 96) [Value.ref _, Value.int _ _]) _ _ _); k_dflt (refine' times_di (by k_asm) (by k_asm) (by k_asm) (by k_asm) (by k_asm) (by walk_at "do K") (by k_room) (by walk_at "do dec") (by first | assumption | lia | (simp only [fm2]; lia) | exact fdiv_bound (by lia) (by lia) (by lia)) ?_; k_whole; walk_at "do newdec"))
  k_with "after cmp_dd" => (intro _ _ _ _ _ _ _; (try k_sweep))
  k_with "call ref cons nil" => (k_here; (with_reducible show wpAny _ _ (call (Value.ref 110) [Value.ref _, Value.ref _]) _ _ _); k_dflt (refine' cmp_dd (by k_asm) (by k_asm) (by k_asm) (by k_asm) (by k_asm) (by walk_at "do K") (by k_room) (by walk_at "do dec") (by walk_at "do dec") ?_; k_whole; walk_at "after cmp_dd"))
  k_with "after told_d" => (intro _ _ _ _ _ _ _ _ _ _ _ _; (try k_sweep))
  k_with "call ref cons nil" => (k_here; (with_reducible show wpAny _ _ (call (Value.ref 138) [Value.ref _]) _ _ _); k_dflt (refine' told_d (by k_asm) (by k_asm) (by k_asm) (by k_asm) (by k_asm) (by walk_at "do K") (by k_room) (by walk_at "do dec") ?_; k_whole; walk_at "after told_d"))
  k_with "do item" => (k_here; (with_reducible show wpAny _ _ (subscriptTail _ _ (Value.ref _) (Value.int _ _)) _ _ _); k_dflt (refine' item_led (by k_asm) (by k_mem) (by first | decide | assumption) (by first | decide | assumption) (by assumption) ?_ (by with_unfolding_all rfl); k_whole))
  k_with "do len" => (k_here; (with_reducible show wpAny _ _ (call (Value.builtin "len") [Value.ref _]) _ _ _); k_dflt (refine' len_led (by k_asm) (by k_mem) (by lia) ?_; k_whole))
  k_with "do decs" => (first | assumption | exact Decs.sub (by assumption) (fun q hq => by repeat' (first | exact hq | refine List.mem_cons_of_mem _ ?_ | refine List.mem_append_right _ ?_ | refine lift_sub (by assumption) ?_)) | exact decs2 (by first | assumption | exact Dec.sub (by assumption) (fun q hq => by repeat' (first | exact hq | refine List.mem_cons_of_mem _ ?_ | refine List.mem_append_right _ ?_ | refine lift_sub (by assumption) ?_)) | exact ⟨_, _, by k_mem, by k_mem, by assumption⟩ | exact ⟨_, _, by k_mem, by k_mem, ⟨_, _, _, _, _, _, rfl, by assumption⟩⟩ | exact ⟨_, _, by k_mem, by k_mem, decO_whole⟩) (by first | assumption | exact Dec.sub (by assumption) (fun q hq => by repeat' (first | exact hq | refine List.mem_cons_of_mem _ ?_ | refine List.mem_append_right _ ?_ | refine lift_sub (by assumption) ?_)) | exact ⟨_, _, by k_mem, by k_mem, by assumption⟩ | exact ⟨_, _, by k_mem, by k_mem, ⟨_, _, _, _, _, _, rfl, by assumption⟩⟩ | exact ⟨_, _, by k_mem, by k_mem, decO_whole⟩))
  k_with "after least_ok" => (intro _ _ _ _ _ _ _ _ _; (try k_sweep))
  k_with "call ref cons nil" => (k_here; (with_reducible show wpAny _ _ (call (Value.ref 199) [Value.ref _]) _ _ _); k_dflt (refine' least_ok (by k_asm) (by k_asm) (by k_asm) (by k_asm) (by k_asm) (by walk_at "do K") (by k_room) (by k_mem) (by walk_at "do decs") (by first | assumption | exact ⟨Nat.le_of_ble_eq_true rfl, Nat.le_of_ble_eq_true rfl⟩ | exact ⟨by lia, by lia⟩) ?_; k_whole; walk_at "after least_ok"))
  k_with "after greatest_ok" => (intro _ _ _ _ _ _ _ _ _; (try k_sweep))
  k_with "call ref cons nil" => (k_here; (with_reducible show wpAny _ _ (call (Value.ref 206) [Value.ref _]) _ _ _); k_dflt (refine' greatest_ok (by k_asm) (by k_asm) (by k_asm) (by k_asm) (by k_asm) (by walk_at "do K") (by k_room) (by k_mem) (by walk_at "do decs") (by first | assumption | exact ⟨Nat.le_of_ble_eq_true rfl, Nat.le_of_ble_eq_true rfl⟩ | exact ⟨by lia, by lia⟩) ?_; k_whole; walk_at "after greatest_ok"))
  k_with "after tops_ok" => (intro _ _ _ _ _ _ _ _ _ _ _ _ _; (try k_sweep))
  k_with "call ref cons nil" => (k_here; (with_reducible show wpAny _ _ (call (Value.ref 185) [Value.ref _]) _ _ _); k_dflt (refine' tops_ok (by k_asm) (by k_asm) (by k_asm) (by k_asm) (by k_asm) (by walk_at "do K") (by k_room) (by k_mem) (by walk_at "do decs") (by first | assumption | exact ⟨by lia, by lia⟩) ?_; k_whole; walk_at "after tops_ok"))
  k_with "call ref cons nil" => (k_here; (with_reducible show wpAny _ _ (call (Value.ref 192) [Value.ref _]) _ _ _); k_dflt (refine' sum_ok (by k_asm) (by k_asm) (by k_asm) (by k_asm) (by k_asm) (by walk_at "do K") (by k_room) (by k_mem) (by walk_at "do decs") (by first | assumption | exact ⟨by lia, by lia⟩) ?_; k_whole; walk_at "do newdec"))
  k_with "do div" => (k_dflt (refine floordiv_int (by lia) ?_ (Or.inl (PyProof.noPylong_small (by lia)))))
  k_with "call ref cons nil" => (k_here; (with_reducible show wpAny _ _ (call (Value.ref 213) [Value.ref _, _]) _ _ _); k_dflt (refine' ahead_n (by k_asm) (by k_asm) (by k_asm) (by k_asm) (by k_asm) (by walk_at "do K") (by k_room) (by k_mem) (by walk_at "do decs") (by first | assumption | exact ⟨by lia, by lia⟩) (by first | assumption | lia) (by walk_at "do num") (by first | assumption | lia) ?_; k_whole; walk_at "do newdec"))
  k_with "call ref cons nil" => (k_here; (with_reducible show wpAny _ _ (call (Value.ref 199) [Value.ref _]) _ _ _); k_dflt (refine' least_pos (by k_asm) (by k_asm) (by k_asm) (by k_asm) (by k_asm) (by walk_at "do K") (by k_room) (by k_mem) (by walk_at "do decs") (by first | assumption | exact ⟨by lia, by lia⟩) (by assumption) ?_; k_whole; walk_at "do gotdec"))
  k_with "call ref cons nil" => (k_here; (with_reducible show wpAny _ _ (call (Value.ref 206) [Value.ref _]) _ _ _); k_dflt (refine' greatest_pos (by k_asm) (by k_asm) (by k_asm) (by k_asm) (by k_asm) (by walk_at "do K") (by k_room) (by k_mem) (by walk_at "do decs") (by first | assumption | exact ⟨by lia, by lia⟩) (by assumption) ?_; k_whole; walk_at "do gotdec"))
  k_with "do compA" => (k_here; k_dflt (refine LCg.Assign_ListComp_U (F₀ := by k_asm) (by rfl) (by with_unfolding_all rfl) (by with_unfolding_all rfl) (by decide) (by rfl) (by decide) (by rfl) (by rfl) (by rfl) ?_))
  k_with "do eq" => (k_here; (with_reducible show wpAny _ _ (compareOp CmpOp.Eq (Value.ref _) (Value.ref _)) _ _ _); k_dflt (refine' eq_nil_led (by k_asm) (by k_mem) (by k_mem) (by lia) (by rfl) (by ((try simp only [units_in1, units_deeper, Around.mark_units]); (try dsimp only [ktrTop]); lia)) ?_; k_whole))
  k_with "do ne" => (k_here; (with_reducible show wpAny _ _ (compareOp CmpOp.NotEq (Value.ref _) (Value.ref _)) _ _ _); k_dflt (refine' ne_nil_led (by k_asm) (by k_mem) (by k_mem) (by lia) (by rfl) (by ((try simp only [units_in1, units_deeper, Around.mark_units]); (try dsimp only [ktrTop]); lia)) ?_; k_whole))
  k_with "do append" => ((k_here; (with_reducible show wpAny _ _ (call (Value.builtin _) [Value.ref _, _]) _ _ _); k_dflt (refine' append_led (by k_asm) (by k_asm) (by k_mem) (by lia) ?_; k_whole; intro _ _ _ _ _ _ _; (try k_sweep))))
  k_with "do div2" => (k_dflt (first | refine floordiv_int (by lia) ?_ (Or.inl (PyProof.noPylong_small (by lia))) | refine floordiv_int (by lia) ?_ (Or.inl (noPy (by lia)))))
  k_with "after take_ok" => (intro _ _ _ _ _ _ _ _ _; intro N'; (try dsimp only at N'); revert N'; intro _ _ _; (try k_sweep))
  k_with "call ref cons nil" => (k_here; (with_reducible show wpAny _ _ (call (Value.ref 230) [Value.ref _, Value.int _ _]) _ _ _); k_dflt (refine' take_ok (by k_asm) (by k_asm) (by k_asm) (by k_asm) (by k_asm) (by walk_at "do K") (by k_room) (by k_updF) (by k_mem) (by first | assumption | k_ne) (by assumption) (by assumption) (by first | assumption | lia) (by first | exact ⟨by decide, by decide⟩ | assumption | lia) ?_; k_whole; walk_at "after take_ok"))
  k_with "all" => assumption
  trivial
theorem ext2_lt {S d r : Addr} {o o' x y : Obj} {news : List (Addr × Obj)} (l1 : ∀ q ∈ (S, o') :: news, q.1 < d) (l2 : d < r) : ∀ q ∈ (S, o) :: news, ∀ p ∈ [(r, x), (d, y)], q.1 < p.1 := by
  intro q hq p hp
  have h1 : q.1 < d := by
    rcases List.mem_cons.mp hq with rfl | hq
    · exact l1 (S, o') (.head _)
    · exact l1 q (.tail _ hq)
  rcases List.mem_cons.mp hp with rfl | hp
  · exact Nat.lt_trans h1 l2
  · rw [List.mem_singleton.mp hp]; exact h1
section
variable {w : World} {mean : ExcName → Option Value} {mg mb : Str → Option Value} {dp un : Nat} {gd : Option (List Code)} {cn : Str} {cs : Scope} {a : Addr} {ccd : Value} {cl : List (Str × Addr)} {outer : List Env} {A₀ : Around} {base h₀ : Heap} {L : Addr} {m : Str → Option Value} {news : List (Addr × Obj)} {s : Shared} {Q E : Value → Shared → Prop}
theorem number_one {S C : Addr} {rest pl t : Int} {tr tp tt : Tok} {c c2 : Nat} {ws : List Value} {cs' : List Int} (B : Below A₀ base outer h₀) (F : Fr h₀ L s.heap m) (X : (hd.heap_39 w.params).In h₀) (N : News h₀ L s.heap news) (T : TheTop mean mg mb h₀) (hkf : cs.kind = .function) (hdp : dp + 8 < recursionLimit)
  (hS : ∀ p ∈ news, p.1 ≠ S) (N2 : News h₀ L s.heap ((S, srcO C rest tr pl tp c) :: news)) (hC : (C, ({ cls := .type "list", data := .seq ws.toArray c2 } : Obj)) ∈ news) (hCS : C ≠ S) (hi : IntsAre ws cs') (hl : 1 ≤ cs'.length ∧ cs'.length ≤ 60) (hp : 0 ≤ pl ∧ pl ≤ 900)
  (ret : ∀ v rest' tr' pl' tp' c' ext h' tk', Fr h₀ L h' m → News h₀ L h' (ext ++ ((S, srcO C rest' tr' pl' tp' c') :: news)) → pl ≤ pl' ∧ pl' ≤ pl + 1 → (∀ q ∈ (S, srcO C rest tr pl tp c) :: news, ∀ p ∈ ext, q.1 < p.1) → Num w.params ext v t → Q v { s with heap := h', toks := tk' }) :
  wpAny (model PySem.Challenge.rw_qd0123_01.row.prog w) (ktrTop dp un gd cn cs L a ccd cl outer) (call (.ref 237) [.ref S, .int t tt]) Q E s := by
  revert X
  k_fill
  intro X
  clear N
  have hp2 : 0 ≤ pl ∧ pl ≤ 1000 := by lia
  refine wpAny_call ?_
  k_dflt k_enter
  k_steps
  · rename t.fmod 10 = 0 => hz
    rw [fm10] at hz
    exact ret _ _ _ _ _ _ [] _ _ (by assumption) (by assumption) ⟨by lia, by lia⟩ (fun _ _ _ h => nomatch h) (.inr ⟨_, _, rfl, by rw [fd10]; lia⟩)
  · exact ret _ _ _ _ _ _ [_, _] _ _ (by assumption) (by assumption) ⟨by lia, by lia⟩ (ext2_lt (by assumption) (by assumption)) (.inl ⟨_, rfl, ⟨_, _, .head _, .tail _ (.head _), NF.dec (NF.as (by assumption) (if_neg (by decide)))⟩⟩)
  · exact ret _ _ _ _ _ _ [_, _] _ _ (by assumption) (by assumption) ⟨by lia, by lia⟩ (ext2_lt (by assumption) (by assumption)) (.inl ⟨_, rfl, ⟨_, _, .head _, .tail _ (.head _), NF.dec (NF.as (by assumption) (if_neg (by decide)))⟩⟩)
theorem number_ok {S C : Addr} {rest pl t : Int} {tr tp tt : Tok} {c c2 : Nat} {ws : List Value} {cs' : List Int} {g : Obj → List (Addr × Obj)} (B : Below A₀ base outer h₀) (F : Fr h₀ L s.heap m) (X : (hd.heap_39 w.params).In h₀) (N : News h₀ L s.heap news) (T : TheTop mean mg mb h₀) (hkf : cs.kind = .function) (hdp : dp + 8 < recursionLimit)
  (U : UpdF S (srcO C rest tr pl tp c) news g) (hC : (C, ({ cls := .type "list", data := .seq ws.toArray c2 } : Obj)) ∈ news) (hCS : C ≠ S) (hi : IntsAre ws cs') (hl : 1 ≤ cs'.length ∧ cs'.length ≤ 60) (hp : 0 ≤ pl ∧ pl ≤ 900)
  (ret : ∀ v rest' tr' pl' tp' c' ext h' tk', Fr h₀ L h' m → News h₀ L h' (ext ++ g (srcO C rest' tr' pl' tp' c')) → pl ≤ pl' ∧ pl' ≤ pl + 1 → (∀ q ∈ news, ∀ p ∈ ext, q.1 < p.1) → Num w.params ext v t → Q v { s with heap := h', toks := tk' }) :
  wpAny (model PySem.Challenge.rw_qd0123_01.row.prog w) (ktrTop dp un gd cn cs L a ccd cl outer) (call (.ref 237) [.ref S, .int t tt]) Q E s := by
  obtain ⟨pre, post, e, hg, h1, h2⟩ := U.split
  subst e
  have hS : ∀ p ∈ pre ++ post, p.1 ≠ S := fun p hp => (List.mem_append.mp hp).elim (h1 p) (h2 p)
  have hC2 : (C, ({ cls := .type "list", data := .seq ws.toArray c2 } : Obj)) ∈ pre ++ post := by
    rcases List.mem_append.mp hC with h | h
    · exact List.mem_append_left _ h
    rcases List.mem_cons.mp h with h | h
    · exact absurd (congrArg Prod.fst h) hCS
    · exact List.mem_append_right _ h
  have hperm : ∀ p ∈ pre ++ (S, srcO C rest tr pl tp c) :: post, p ∈ (S, srcO C rest tr pl tp c) :: (pre ++ post) := by
    intro p hp
    rcases List.mem_append.mp hp with h | h
    · exact .tail _ (List.mem_append_left _ h)
    rcases List.mem_cons.mp h with rfl | h
    · exact .head _
    · exact .tail _ (List.mem_append_right _ h)
  refine number_one (rest := rest) (tr := tr) (tp := tp) (c := c) B F X (cb_drop N fun p hp => ?_) T hkf hdp hS (cb_drop N fun p hp => ?_) hC2 hCS hi hl hp fun v rest' tr' pl' tp' c' ext h' tk' F' N' r0 lx nu => ret v rest' tr' pl' tp' c' ext h' tk' F' ?_ r0 (fun q hq => lx q (hperm q hq)) nu
  · exact (List.mem_append.mp hp).elim (List.mem_append_left _) fun h => List.mem_append_right _ (.tail _ h)
  · rcases List.mem_cons.mp hp with rfl | hp
    · exact List.mem_append_right _ (.head _)
    · exact (List.mem_append.mp hp).elim (List.mem_append_left _) fun h => List.mem_append_right _ (.tail _ h)
  · rw [hg]
    refine cb_drop N' fun p hp => ?_
    rcases List.mem_append.mp hp with h | h
    · exact List.mem_append_left _ h
    refine List.mem_append_right _ ?_
    rcases List.mem_append.mp h with h | h
    · exact .tail _ (List.mem_append_left _ h)
    rcases List.mem_cons.mp h with rfl | h
    · exact .head _
    · exact .tail _ (List.mem_append_right _ h)
end
theorem fresh15 : True := by
  w_top off
  k_with_none
  k_with "enter K" => (first | assumption | exact rfl)
  k_with "enter binds" => (first | exact BindsTo.of_eq rfl | exact binds_K (by k_in) rfl (by k_is) rfl rfl rfl | fail "k_enter: no rule for these arguments")
  k_with "room" => (first | ((try simp only [depth_under_make, depth_under_kw, depth_in1, depth_deeper, depth_caller]); (try dsimp only [ktrTop]); lia) | ((try simp only [depth_under_make, depth_under_kw, depth_in1, depth_deeper, depth_caller]); decide))
  k_with "enter" => (refine' code_defC (by k_asm) (by k_asm) (by k_asm) (by k_asm) (by k_asm) (by exact rfl) (by exact rfl) (by walk_at "enter K") (by k_is) (by k_is) (by k_room) (by walk_at "enter binds") (by exact rfl) (by decide +kernel) ?_ (by exact rfl) (by exact rfl) (by exact rfl); k_whole; intro _ _ _ _ _ _ _; intro N' Y' B'; (try k_lift B'); revert B'; intro _ _ _; intro l1; (try k_lt l1); revert l1; intro _; k_cells Y'; (try simp only [List.cons_append, List.nil_append] at N'); revert N'; intro _; (try dsimp only); (try k_fold))
  k_with "enter" => (refine' code_def (by k_asm) (by k_asm) (by k_asm) (by k_asm) (by k_asm) (by exact rfl) (by exact rfl) (by walk_at "enter K") (by k_is) (by k_is) (by k_room) (by walk_at "enter binds") (by exact locs rfl) ?_ (by exact rfl) (by exact rfl) (by exact rfl) ?_; rotate_left; decide; k_whole; intro _ _ _ _ _ _; intro B'; (try k_lift B'); revert B'; intro _ _ _; (try dsimp only); (try k_fold))
  k_with "binaryOp Pow int int" => (with_reducible refine pow_int_small ?_ ?_ ?_ ?_; (first | decide | lia); (first | decide | lia); decide)
  k_with "rel" => (first | exact List.Mem.head _ | (refine' List.mem_cons_of_mem _ ?_; ktr_rel) | ktr_member | (refine' List.mem_append_right _ ?_; ktr_rel) | (refine' lift_sub (by assumption) ?_; ktr_rel))
  k_with "ite" => (k_dflt (first | refine ite_pos (by (simp only [beq_iff_eq, bne_iff_ne, decide_eq_true_eq, ne_eq]); lia) ?_ | refine ite_neg (by (simp only [beq_iff_eq, bne_iff_ne, decide_eq_true_eq, ne_eq]); lia) ?_))
  k_with "eval Call" => (k_fold)
  k_with "exec Assign" => (k_fold)
  k_with "eval BinOp" => (k_fold)
  k_with "isTrue BoolOp" => (k_fold)
  k_with "isTrue Compare" => (k_fold)
  k_with "eval Compare" => (k_fold)
  k_with "eval Tuple" => (k_fold)
  k_with "eval List" => (k_fold)
  k_with "eval Subscript" => (k_fold)
  k_with "exec Expr" => (k_fold)
  k_with "exec If" => (k_fold)
  k_with "exec Return" => (k_fold)
  k_with "eval Call Attribute" => (k_fold)
  k_with "do K" => (first | assumption | exact rfl)
  k_with "do tails" => (exact fun q hq => by repeat' (first | exact hq | refine List.mem_cons_of_mem _ ?_ | refine List.mem_append_right _ ?_ | refine lift_sub (by assumption) ?_))
  k_with "do dec" => (first | assumption | exact Dec.sub (by assumption) (fun q hq => by repeat' (first | exact hq | refine List.mem_cons_of_mem _ ?_ | refine List.mem_append_right _ ?_ | refine lift_sub (by assumption) ?_)) | exact ⟨_, _, by k_mem, by k_mem, by assumption⟩ | exact ⟨_, _, by k_mem, by k_mem, ⟨_, _, _, _, _, _, rfl, by assumption⟩⟩ | exact ⟨_, _, by k_mem, by k_mem, decO_whole⟩)
  k_with "do newdec" => (intro _ _ _ _ _ _ _ _ _ _ _ _ _ _; intro l2; (try k_lt2 l2); revert l2; intro _; (try k_sweep))
  k_with "do gotdec" => (intro _ _ _ _ _ _ _ _ _ _ _ _ _ _ _ _ _; (try k_sweep))
  k_with "do mod" => (k_dflt (refine mod_int' (by lia) ?_))
  k_with "do newlist" => (k_here; k_dflt (refine' newList_K (by k_asm) (by k_asm) ?_; k_whole; intro _ _ _ _ _; (try k_sweep)))
  k_with "do for" => (k_here; (with_unfolding_all refine' For_invVF ‹Fr _ _ _ _› (by exact rfl) (by exact rfl) ?_; k_whole))
  k_with "call ref cons nil" => (k_here; (with_reducible show wpAny _ _ (call (Value.ref 155) [Value.int _ _, Value.int _ _]) _ _ _); k_dflt (refine' mk_ok (by k_asm) (by k_asm) (by k_asm) (by k_asm) (by k_asm) (by walk_at "do K") (by k_room) (by first | exact Or.inl rfl | exact Or.inr rfl | assumption | lia) ?_; k_whole; walk_at "do newdec"))
  k_with "do num" => (first | assumption | exact Num.sub (by assumption) (fun q hq => by repeat' (first | exact hq | refine List.mem_cons_of_mem _ ?_ | refine List.mem_append_right _ ?_ | refine lift_sub (by assumption) ?_)) | exact .inl ⟨_, rfl, by walk_at "do dec"⟩ | exact .inr ⟨_, _, rfl, rfl⟩)
  k_with "after dof_num" => (intro _ _ _ _ _ _ _ _ _ _ _ _ _ _ _ _ _ _ _; (try k_sweep))
  k_with "call ref cons nil" => (k_here; (with_reducible show wpAny _ _ (call (Value.ref 173) [_]) _ _ _); k_dflt (refine' dof_num (by k_asm) (by k_asm) (by k_asm) (by k_asm) (by k_asm) (by walk_at "do K") (by k_room) (by walk_at "do num") (by walk_at "do tails") ?_; k_whole; walk_at "after dof_num"))
  k_with "after dof_int" => (intro _ _ _ _ _ _ _ _ _ _ _; intro l2; (try k_lt2 l2); revert l2; intro _; (try k_sweep))
  k_with "call ref cons nil" => (k_here; (with_reducible show wpAny _ _ (call (Value.ref 173) [Value.int _ _]) _ _ _); k_dflt (refine' dof_int (by k_asm) (by k_asm) (by k_asm) (by k_asm) (by k_asm) (by walk_at "do K") (by k_room)  ?_; k_whole; walk_at "after dof_int"))
  k_with "after dof_dec" => (intro _ _ _ _; (try k_sweep))
  k_with "call ref cons nil" => (k_here; (with_reducible show wpAny _ _ (call (Value.ref 173) [Value.ref _]) _ _ _); k_dflt (refine' dof_dec (by k_asm) (by k_asm) (by k_asm) (by k_asm) (by k_asm) (by walk_at "do K") (by k_room) (by walk_at "do dec") ?_; k_whole; walk_at "after dof_dec"))
  k_with "after scale_n" => (intro _ _ _ _ _ _ _ _ _ _ _ _ _; (try k_sweep))
  k_with "call ref cons nil" => (k_here; (with_reducible show wpAny _ _ (call (Value.ref 180) [_, _]) _ _ _); k_dflt (refine' scale_n (by k_asm) (by k_asm) (by k_asm) (by k_asm) (by k_asm) (by walk_at "do K") (by k_room) (by walk_at "do num") (by walk_at "do num") ?_; k_whole; walk_at "after scale_n"))
  k_with "call ref cons nil" => (k_here; (with_reducible show wpAny _ _ (call (Value.ref 82) [Value.ref _, Value.ref _]) _ _ _); k_dflt (refine' plus_ok (by k_asm) (by k_asm) (by k_asm) (by k_asm) (by k_asm) (by walk_at "do K") (by k_room) (by walk_at "do dec") (by walk_at "do dec") ?_; k_whole; walk_at "do newdec"))
  k_with "call ref cons nil" => (k_here; (with_reducible show wpAny _ _ (call (Value.ref 89) [Value.ref _, _]) _ _ _); k_dflt (refine' minus_n (by k_asm) (by k_asm) (by k_asm) (by k_asm) (by k_asm) (by walk_at "do K") (by k_room) (by walk_at "do dec") (by walk_at "do num") ?_; k_whole; walk_at "do newdec"))
  k_with "call ref cons nil" => (k_here; (with_reducible show wpAny _ _ (call (Value.ref 96) [Value.ref _, Value.int _ _]) _ _ _); k_dflt (refine' times_di (by k_asm) (by k_asm) (by k_asm) (by k_asm) (by k_asm) (by walk_at "do K") (by k_room) (by walk_at "do dec") (by first | assumption | lia | (simp only [fm2]; lia) | exact fdiv_bound (by lia) (by lia) (by lia)) ?_; k_whole; walk_at "do newdec"))
  k_with "after cmp_dd" => (intro _ _ _ _ _ _ _; (try k_sweep))
  k_with "call ref cons nil" => (k_here; (with_reducible show wpAny _ _ (call (Value.ref 110) [Value.ref _, Value.ref _]) _ _ _); k_dflt (refine' cmp_dd (by k_asm) (by k_asm) (by k_asm) (by k_asm) (by k_asm) (by walk_at "do K") (by k_room) (by walk_at "do dec") (by walk_at "do dec") ?_; k_whole; walk_at "after cmp_dd"))
  k_with "after told_d" => (intro _ _ _ _ _ _ _ _ _ _ _ _; (try k_sweep))
  k_with "call ref cons nil" => (k_here; (with_reducible show wpAny _ _ (call (Value.ref 138) [Value.ref _]) _ _ _); k_dflt (refine' told_d (by k_asm) (by k_asm) (by k_asm) (by k_asm) (by k_asm) (by walk_at "do K") (by k_room) (by walk_at "do dec") ?_; k_whole; walk_at "after told_d"))
  k_with "do item" => (k_here; (with_reducible show wpAny _ _ (subscriptTail _ _ (Value.ref _) (Value.int _ _)) _ _ _); k_dflt (refine' item_led (by k_asm) (by k_mem) (by first | decide | assumption) (by first | decide | assumption) (by assumption) ?_ (by with_unfolding_all rfl); k_whole))
  k_with "do len" => (k_here; (with_reducible show wpAny _ _ (call (Value.builtin "len") [Value.ref _]) _ _ _); k_dflt (refine' len_led (by k_asm) (by k_mem) (by lia) ?_; k_whole))
  k_with "do decs" => (first | assumption | exact Decs.sub (by assumption) (fun q hq => by repeat' (first | exact hq | refine List.mem_cons_of_mem _ ?_ | refine List.mem_append_right _ ?_ | refine lift_sub (by assumption) ?_)) | exact decs2 (by first | assumption | exact Dec.sub (by assumption) (fun q hq => by repeat' (first | exact hq | refine List.mem_cons_of_mem _ ?_ | refine List.mem_append_right _ ?_ | refine lift_sub (by assumption) ?_)) | exact ⟨_, _, by k_mem, by k_mem, by assumption⟩ | exact ⟨_, _, by k_mem, by k_mem, ⟨_, _, _, _, _, _, rfl, by assumption⟩⟩ | exact ⟨_, _, by k_mem, by k_mem, decO_whole⟩) (by first | assumption | exact Dec.sub (by assumption) (fun q hq => by repeat' (first | exact hq | refine List.mem_cons_of_mem _ ?_ | refine List.mem_append_right _ ?_ | refine lift_sub (by assumption) ?_)) | exact ⟨_, _, by k_mem, by k_mem, by assumption⟩ | exact ⟨_, _, by k_mem, by k_mem, ⟨_, _, _, _, _, _, rfl, by assumption⟩⟩ | exact ⟨_, _, by k_mem, by k_mem, decO_whole⟩))
  k_with "after least_ok" => (intro _ _ _ _ _ _ _ _ _; (try k_sweep))
  k_with "call ref cons nil" => (k_here; (with_reducible show wpAny _ _ (call (Value.ref 199) [Value.ref _]) _ _ _); k_dflt (refine' least_ok (by k_asm) (by k_asm) (by k_asm) (by k_asm) (by k_asm) (by walk_at "do K") (by k_room) (by k_mem) (by walk_at "do decs") (by first | assumption | exact ⟨Nat.le_of_ble_eq_true rfl, Nat.le_of_ble_eq_true rfl⟩ | exact ⟨by lia, by lia⟩) ?_; k_whole; walk_at "after least_ok"))
  k_with "after greatest_ok" => (intro _ _ _ _ _ _ _ _ _; (try k_sweep))
  k_with "call ref cons nil" => (k_here; (with_reducible show wpAny _ _ (call (Value.ref 206) [Value.ref _]) _ _ _); k_dflt (refine' greatest_ok (by k_asm) (by k_asm) (by k_asm) (by k_asm) (by k_asm) (by walk_at "do K") (by k_room) (by k_mem) (by walk_at "do decs") (by first | assumption | exact ⟨Nat.le_of_ble_eq_true rfl, Nat.le_of_ble_eq_true rfl⟩ | exact ⟨by lia, by lia⟩) ?_; k_whole; walk_at "after greatest_ok"))
  k_with "after tops_ok" => (intro _ _ _ _ _ _ _ _ _ _ _ _ _; (try k_sweep))
  k_with "call ref cons nil" => (k_here; (with_reducible show wpAny _ _ (call (Value.ref 185) [Value.ref _]) _ _ _); k_dflt (refine' tops_ok (by k_asm) (by k_asm) (by k_asm) (by k_asm) (by k_asm) (by walk_at "do K") (by k_room) (by k_mem) (by walk_at "do decs") (by first | assumption | exact ⟨by lia, by lia⟩) ?_; k_whole; walk_at "after tops_ok"))
  k_with "call ref cons nil" => (k_here; (with_reducible show wpAny _ _ (call (Value.ref 192) [Value.ref _]) _ _ _); k_dflt (refine' sum_ok (by k_asm) (by k_asm) (by k_asm) (by k_asm) (by k_asm) (by walk_at "do K") (by k_room) (by k_mem) (by walk_at "do decs") (by first | assumption | exact ⟨by lia, by lia⟩) ?_; k_whole; walk_at "do newdec"))
  k_with "do div" => (k_dflt (refine floordiv_int (by lia) ?_ (Or.inl (PyProof.noPylong_small (by lia)))))
  k_with "call ref cons nil" => (k_here; (with_reducible show wpAny _ _ (call (Value.ref 213) [Value.ref _, _]) _ _ _); k_dflt (refine' ahead_n (by k_asm) (by k_asm) (by k_asm) (by k_asm) (by k_asm) (by walk_at "do K") (by k_room) (by k_mem) (by walk_at "do decs") (by first | assumption | exact ⟨by lia, by lia⟩) (by first | assumption | lia) (by walk_at "do num") (by first | assumption | lia) ?_; k_whole; walk_at "do newdec"))
  k_with "call ref cons nil" => (k_here; (with_reducible show wpAny _ _ (call (Value.ref 199) [Value.ref _]) _ _ _); k_dflt (refine' least_pos (by k_asm) (by k_asm) (by k_asm) (by k_asm) (by k_asm) (by walk_at "do K") (by k_room) (by k_mem) (by walk_at "do decs") (by first | assumption | exact ⟨by lia, by lia⟩) (by assumption) ?_; k_whole; walk_at "do gotdec"))
  k_with "call ref cons nil" => (k_here; (with_reducible show wpAny _ _ (call (Value.ref 206) [Value.ref _]) _ _ _); k_dflt (refine' greatest_pos (by k_asm) (by k_asm) (by k_asm) (by k_asm) (by k_asm) (by walk_at "do K") (by k_room) (by k_mem) (by walk_at "do decs") (by first | assumption | exact ⟨by lia, by lia⟩) (by assumption) ?_; k_whole; walk_at "do gotdec"))
  k_with "do compA" => (k_here; k_dflt (refine LCg.Assign_ListComp_U (F₀ := by k_asm) (by rfl) (by with_unfolding_all rfl) (by with_unfolding_all rfl) (by decide) (by rfl) (by decide) (by rfl) (by rfl) (by rfl) ?_))
  k_with "do eq" => (k_here; (with_reducible show wpAny _ _ (compareOp CmpOp.Eq (Value.ref _) (Value.ref _)) _ _ _); k_dflt (refine' eq_nil_led (by k_asm) (by k_mem) (by k_mem) (by lia) (by rfl) (by ((try simp only [units_in1, units_deeper, Around.mark_units]); (try dsimp only [ktrTop]); lia)) ?_; k_whole))
  k_with "do ne" => (k_here; (with_reducible show wpAny _ _ (compareOp CmpOp.NotEq (Value.ref _) (Value.ref _)) _ _ _); k_dflt (refine' ne_nil_led (by k_asm) (by k_mem) (by k_mem) (by lia) (by rfl) (by ((try simp only [units_in1, units_deeper, Around.mark_units]); (try dsimp only [ktrTop]); lia)) ?_; k_whole))
  k_with "do append" => ((k_here; (with_reducible show wpAny _ _ (call (Value.builtin _) [Value.ref _, _]) _ _ _); k_dflt (refine' append_led (by k_asm) (by k_asm) (by k_mem) (by lia) ?_; k_whole; intro _ _ _ _ _ _ _; (try k_sweep))))
  k_with "do div2" => (k_dflt (first | refine floordiv_int (by lia) ?_ (Or.inl (PyProof.noPylong_small (by lia))) | refine floordiv_int (by lia) ?_ (Or.inl (noPy (by lia)))))
  k_with "after take_ok" => (intro _ _ _ _ _ _ _ _ _; intro N'; (try dsimp only at N'); revert N'; intro _ _ _; (try k_sweep))
  k_with "call ref cons nil" => (k_here; (with_reducible show wpAny _ _ (call (Value.ref 230) [Value.ref _, Value.int _ _]) _ _ _); k_dflt (refine' take_ok (by k_asm) (by k_asm) (by k_asm) (by k_asm) (by k_asm) (by walk_at "do K") (by k_room) (by k_updF) (by k_mem) (by first | assumption | k_ne) (by assumption) (by assumption) (by first | assumption | lia) (by first | exact ⟨by decide, by decide⟩ | assumption | lia) ?_; k_whole; walk_at "after take_ok"))
  k_with "after number_ok" => (intro _ _ _ _ _ _ _ _ _ _; intro N'; (try dsimp only at N'); revert N'; intro _ _ _ _; (try k_sweep))
  k_with "call ref cons nil" => (k_here; (with_reducible show wpAny _ _ (call (Value.ref 237) [Value.ref _, Value.int _ _]) _ _ _); k_dflt (refine' number_ok (by k_asm) (by k_asm) (by k_asm) (by k_asm) (by k_asm) (by walk_at "do K") (by k_room) (by k_updF) (by k_mem) (by first | assumption | k_ne) (by assumption) (by assumption) (by first | assumption | lia) ?_; k_whole; walk_at "after number_ok"))
  k_with "do comp" => (k_here; k_dflt (refine LCg.ListComp_U (F₀ := by k_asm) (by with_unfolding_all rfl) (by decide) (by rfl) (by decide) (by rfl) ?_))
  k_with "newList" => (walk_at "do newlist")
  k_with "execs nil" => (refine wpAny_execs_nil ?_)
  k_with "binaryOp Pow int int" => (((with_reducible refine pow_any ?_ ?_ ?_ ?_); decide; decide; decide; intro _ _))
  k_with "binaryOp Mod int int" => (walk_at "do mod")
  k_with "eval ListComp" => (walk_at "do comp")
  k_with "CompSrc" => ((k_here; refine holdAt ?_))
  trivial
theorem off1_mem {D : Addr} : ∀ {l : List (Addr × Obj)}, LCg.Off1 D l → ∀ p ∈ l, p.1 ≠ D
  | [], _, _, h => nomatch h
  | _ :: _, x, p, h => by
    rcases List.mem_cons.mp h with rfl | h
    · exact x.1
    · exact off1_mem x.2 p h
theorem pow_any {prog : Program} {w : World} {A : Around} {E : Value → Shared → Prop} {s : Shared} {a n : Int} {t u : Tok} {Q : Value → Shared → Prop} (hn : 0 ≤ n) (hn2 : n ≤ 1000000) (ha : 0 < a ∧ a.natAbs < 2 ^ 64) (h : ∀ K : Int, 0 < K → Q (.int K s.toks) { s with toks := s.toks + 1 }) :
    wpAny (model prog w) A (binaryOp .Pow (.int a t) (.int n u)) Q E s := pow_int_small hn hn2 ha.2 (h _ (Int.pow_pos ha.1))
section
variable {w : World} {mean : ExcName → Option Value} {mg mb : Str → Option Value} {dp un : Nat} {gd : Option (List Code)} {cn : Str} {cs : Scope} {a : Addr} {ccd : Value} {cl : List (Str × Addr)} {outer : List Env} {A₀ : Around} {base h₀ : Heap} {L : Addr} {m : Str → Option Value} {news : List (Addr × Obj)} {s : Shared} {Q E : Value → Shared → Prop}
set_option maxHeartbeats 1000000 in
theorem source_ok {sc : Addr} {vs : List Value} {ns : List Int} (B : Below A₀ base outer h₀) (F : Fr h₀ L s.heap m) (X : (hd.heap_39 w.params).In h₀) (N : News h₀ L s.heap news) (T : TheTop mean mg mb h₀) (hkf : cs.kind = .function) (hdp : dp + 8 < recursionLimit)
  (hsc : base.IsList sc vs.toArray) (hi : IntsAre vs ns) (hn : ns.length ≤ 63)
  (ret : ∀ S C ws cs' rest tr tp c c2 h' tk', Fr h₀ L h' m → News h₀ L h' ((S, srcO C rest tr 0 tp c) :: (C, { cls := .type "list", data := .seq (List.toArray ws) c2 }) :: news) → IntsAre ws cs' → 1 ≤ cs'.length ∧ cs'.length ≤ 60 → (∀ p ∈ news, p.1 ≠ C) → (∀ p ∈ news, p.1 ≠ S) → C ≠ S → Q (.ref S) { s with heap := h', toks := tk' }) :
  wpAny (model PySem.Challenge.rw_qd0123_01.row.prog w) (ktrTop dp un gd cn cs L a ccd cl outer) (call (.ref 223) [.ref sc]) Q E s := by
  revert X
  k_fill
  intro X
  refine wpAny_call ?_
  k_dflt k_enter
  k_steps
  rename_i g1 L1 h1 FG1 B1 X1 T1 _ _ _ _ D2 ws2 h2 F2 N2 l2 hI2 hC2 hL2
  unfold HoldAt
  have hwl : ws2.length = (ns.take 60).length := hI2.length
  refine LCg.CompSrc.ledger rfl F2 N2 (.head _) (by rw [List.size_toArray, sizeLine_eq]; lia) (fun g' => ?_)
  refine comp_inv (J := fun i ys nw => nw = (D2, listOf ws2.toArray 0) :: news ∧ IntsAre ys ((ns.take 60).take i)) ?_ ?_ _ _ _ _ (Nat.zero_add _) ⟨rfl, .nil⟩
  · intro i v ys nw hi4 hP hJ4
    refine foldG ?_
    intro g4
    have hI5 := hJ4.2
    obtain ⟨k, t, hvk, hk⟩ := IntsAre.at hI2 i v (by simpa using hP)
    have hnw := hJ4.1
    clear hJ4
    subst hnw hvk
    intro I oI C oC D m₂ h4 tk4 E' hC hx F4 N4 off ne
    clear F2 N2
    k_steps
    refine LCg.CompEnd.intro (by assumption) (by assumption) ((D2, listOf ws2.toArray 0) :: news) (List.forall_mem_cons.mpr ⟨by k_mem, List.forall_mem_cons.mpr ⟨by k_mem, List.forall_mem_cons.mpr ⟨by k_mem, List.forall_mem_cons.mpr ⟨by k_mem, fun q hq => by repeat' (first | exact hq | refine List.mem_cons_of_mem _ ?_ | refine List.mem_append_right _ ?_ | refine lift_sub (by assumption) ?_)⟩⟩⟩⟩) off (.inr ⟨_, .head _, rfl, _, rfl⟩) ⟨rfl, ?_⟩
    rw [List.take_add_one, hk]
    exact IntsAre.append hI5 (.cons _ _ .nil)
  · rintro ys nw ⟨rfl, hI5⟩
    have hsz : ws2.toArray.size = (ns.take 60).length := by rw [List.size_toArray]; exact hwl
    rw [hsz, List.take_length] at hI5
    clear F2 N2
    k_steps
    · rename _ ∧ LCg.Off1 _ news => o1
      rename ∀ p ∈ (_, LCg.lst ys) :: _, p.1 < _ => l9
      exact ret _ _ _ _ _ _ _ _ _ _ _ (by assumption) (cb_drop (by assumption) (List.forall_mem_cons.mpr ⟨by k_mem, List.forall_mem_cons.mpr ⟨by k_mem, fun q hq => by repeat' (first | exact hq | refine List.mem_cons_of_mem _ ?_ | refine List.mem_append_right _ ?_ | refine lift_sub (by assumption) ?_)⟩⟩)) hI5 ⟨by lia, by lia⟩ (fun p hp => off1_mem o1.2 p hp) (fun p hp => Nat.ne_of_lt (l9 p (.tail _ (.tail _ hp)))) (Nat.ne_of_lt (l9 _ (.head _)))
    · rename _ ∧ LCg.Off1 _ news => o1
      rename ∀ p ∈ (_, LCg.lst ys) :: _, p.1 < _ => l9
      exact ret _ _ _ _ _ _ _ _ _ _ _ (by assumption) (cb_drop (by assumption) (List.forall_mem_cons.mpr ⟨by k_mem, List.forall_mem_cons.mpr ⟨by k_mem, fun q hq => by repeat' (first | exact hq | refine List.mem_cons_of_mem _ ?_ | refine List.mem_append_right _ ?_ | refine lift_sub (by assumption) ?_)⟩⟩)) hI5 ⟨by lia, by lia⟩ (fun p hp => off1_mem o1.2 p hp) (fun p hp => Nat.ne_of_lt (l9 p (.tail _ (.tail _ hp)))) (Nat.ne_of_lt (l9 _ (.head _)))
    · rename ∀ p ∈ (_, LCg.lst ys) :: _, p.1 < _ => l8
      rename ∀ p ∈ (_, listOf #[Value.int 6 _] 0) :: _, p.1 < _ => l9
      exact ret _ _ _ _ _ _ _ _ _ _ _ (by assumption) (cb_drop (by assumption) (List.forall_mem_cons.mpr ⟨by k_mem, List.forall_mem_cons.mpr ⟨by k_mem, fun q hq => by repeat' (first | exact hq | refine List.mem_cons_of_mem _ ?_ | refine List.mem_append_right _ ?_ | refine lift_sub (by assumption) ?_)⟩⟩)) (.cons _ _ .nil) ⟨by decide, by decide⟩ (fun p hp => Nat.ne_of_lt (l8 p (.tail _ (.tail _ hp)))) (fun p hp => Nat.ne_of_lt (l9 p (.tail _ (.tail _ (.tail _ hp))))) (Nat.ne_of_lt (l9 _ (.head _)))
    · rename ∀ p ∈ (_, LCg.lst ys) :: _, p.1 < _ => l8
      rename ∀ p ∈ (_, listOf #[Value.int 6 _] 0) :: _, p.1 < _ => l9
      exact ret _ _ _ _ _ _ _ _ _ _ _ (by assumption) (cb_drop (by assumption) (List.forall_mem_cons.mpr ⟨by k_mem, List.forall_mem_cons.mpr ⟨by k_mem, fun q hq => by repeat' (first | exact hq | refine List.mem_cons_of_mem _ ?_ | refine List.mem_append_right _ ?_ | refine lift_sub (by assumption) ?_)⟩⟩)) (.cons _ _ .nil) ⟨by decide, by decide⟩ (fun p hp => Nat.ne_of_lt (l8 p (.tail _ (.tail _ hp)))) (fun p hp => Nat.ne_of_lt (l9 p (.tail _ (.tail _ (.tail _ hp))))) (Nat.ne_of_lt (l9 _ (.head _)))
end
theorem fresh16 : True := by
  w_top off
  k_with_none
  k_with "enter K" => (first | assumption | exact rfl)
  k_with "enter binds" => (first | exact BindsTo.of_eq rfl | exact binds_K (by k_in) rfl (by k_is) rfl rfl rfl | fail "k_enter: no rule for these arguments")
  k_with "room" => (first | ((try simp only [depth_under_make, depth_under_kw, depth_in1, depth_deeper, depth_caller]); (try dsimp only [ktrTop]); lia) | ((try simp only [depth_under_make, depth_under_kw, depth_in1, depth_deeper, depth_caller]); decide))
  k_with "enter" => (refine' code_defC (by k_asm) (by k_asm) (by k_asm) (by k_asm) (by k_asm) (by exact rfl) (by exact rfl) (by walk_at "enter K") (by k_is) (by k_is) (by k_room) (by walk_at "enter binds") (by exact rfl) (by decide +kernel) ?_ (by exact rfl) (by exact rfl) (by exact rfl); k_whole; intro _ _ _ _ _ _ _; intro N' Y' B'; (try k_lift B'); revert B'; intro _ _ _; intro l1; (try k_lt l1); revert l1; intro _; k_cells Y'; (try simp only [List.cons_append, List.nil_append] at N'); revert N'; intro _; (try dsimp only); (try k_fold))
  k_with "enter" => (refine' code_def (by k_asm) (by k_asm) (by k_asm) (by k_asm) (by k_asm) (by exact rfl) (by exact rfl) (by walk_at "enter K") (by k_is) (by k_is) (by k_room) (by walk_at "enter binds") (by exact locs rfl) ?_ (by exact rfl) (by exact rfl) (by exact rfl) ?_; rotate_left; decide; k_whole; intro _ _ _ _ _ _; intro B'; (try k_lift B'); revert B'; intro _ _ _; (try dsimp only); (try k_fold))
  k_with "binaryOp Pow int int" => (with_reducible refine pow_int_small ?_ ?_ ?_ ?_; (first | decide | lia); (first | decide | lia); decide)
  k_with "rel" => (first | exact List.Mem.head _ | (refine' List.mem_cons_of_mem _ ?_; ktr_rel) | ktr_member | (refine' List.mem_append_right _ ?_; ktr_rel) | (refine' lift_sub (by assumption) ?_; ktr_rel))
  k_with "ite" => (k_dflt (first | refine ite_pos (by (simp only [beq_iff_eq, bne_iff_ne, decide_eq_true_eq, ne_eq]); lia) ?_ | refine ite_neg (by (simp only [beq_iff_eq, bne_iff_ne, decide_eq_true_eq, ne_eq]); lia) ?_))
  k_with "eval Call" => (k_fold)
  k_with "exec Assign" => (k_fold)
  k_with "eval BinOp" => (k_fold)
  k_with "isTrue BoolOp" => (k_fold)
  k_with "isTrue Compare" => (k_fold)
  k_with "eval Compare" => (k_fold)
  k_with "eval Tuple" => (k_fold)
  k_with "eval List" => (k_fold)
  k_with "eval Subscript" => (k_fold)
  k_with "exec Expr" => (k_fold)
  k_with "exec If" => (k_fold)
  k_with "exec Return" => (k_fold)
  k_with "eval Call Attribute" => (k_fold)
  k_with "do K" => (first | assumption | exact rfl)
  k_with "do tails" => (exact fun q hq => by repeat' (first | exact hq | refine List.mem_cons_of_mem _ ?_ | refine List.mem_append_right _ ?_ | refine lift_sub (by assumption) ?_))
  k_with "do dec" => (first | assumption | exact Dec.sub (by assumption) (fun q hq => by repeat' (first | exact hq | refine List.mem_cons_of_mem _ ?_ | refine List.mem_append_right _ ?_ | refine lift_sub (by assumption) ?_)) | exact ⟨_, _, by k_mem, by k_mem, by assumption⟩ | exact ⟨_, _, by k_mem, by k_mem, ⟨_, _, _, _, _, _, rfl, by assumption⟩⟩ | exact ⟨_, _, by k_mem, by k_mem, decO_whole⟩)
  k_with "do newdec" => (intro _ _ _ _ _ _ _ _ _ _ _ _ _ _; intro l2; (try k_lt2 l2); revert l2; intro _; (try k_sweep))
  k_with "do gotdec" => (intro _ _ _ _ _ _ _ _ _ _ _ _ _ _ _ _ _; (try k_sweep))
  k_with "do mod" => (k_dflt (refine mod_int' (by lia) ?_))
  k_with "do newlist" => (k_here; k_dflt (refine' newList_K (by k_asm) (by k_asm) ?_; k_whole; intro _ _ _ _ _; (try k_sweep)))
  k_with "do for" => (k_here; (with_unfolding_all refine' For_invVF ‹Fr _ _ _ _› (by exact rfl) (by exact rfl) ?_; k_whole))
  k_with "call ref cons nil" => (k_here; (with_reducible show wpAny _ _ (call (Value.ref 155) [Value.int _ _, Value.int _ _]) _ _ _); k_dflt (refine' mk_ok (by k_asm) (by k_asm) (by k_asm) (by k_asm) (by k_asm) (by walk_at "do K") (by k_room) (by first | exact Or.inl rfl | exact Or.inr rfl | assumption | lia) ?_; k_whole; walk_at "do newdec"))
  k_with "do num" => (first | assumption | exact Num.sub (by assumption) (fun q hq => by repeat' (first | exact hq | refine List.mem_cons_of_mem _ ?_ | refine List.mem_append_right _ ?_ | refine lift_sub (by assumption) ?_)) | exact .inl ⟨_, rfl, by walk_at "do dec"⟩ | exact .inr ⟨_, _, rfl, rfl⟩)
  k_with "after dof_num" => (intro _ _ _ _ _ _ _ _ _ _ _ _ _ _ _ _ _ _ _; (try k_sweep))
  k_with "call ref cons nil" => (k_here; (with_reducible show wpAny _ _ (call (Value.ref 173) [_]) _ _ _); k_dflt (refine' dof_num (by k_asm) (by k_asm) (by k_asm) (by k_asm) (by k_asm) (by walk_at "do K") (by k_room) (by walk_at "do num") (by walk_at "do tails") ?_; k_whole; walk_at "after dof_num"))
  k_with "after dof_int" => (intro _ _ _ _ _ _ _ _ _ _ _; intro l2; (try k_lt2 l2); revert l2; intro _; (try k_sweep))
  k_with "call ref cons nil" => (k_here; (with_reducible show wpAny _ _ (call (Value.ref 173) [Value.int _ _]) _ _ _); k_dflt (refine' dof_int (by k_asm) (by k_asm) (by k_asm) (by k_asm) (by k_asm) (by walk_at "do K") (by k_room)  ?_; k_whole; walk_at "after dof_int"))
  k_with "after dof_dec" => (intro _ _ _ _; (try k_sweep))
  k_with "call ref cons nil" => (k_here; (with_reducible show wpAny _ _ (call (Value.ref 173) [Value.ref _]) _ _ _); k_dflt (refine' dof_dec (by k_asm) (by k_asm) (by k_asm) (by k_asm) (by k_asm) (by walk_at "do K") (by k_room) (by walk_at "do dec") ?_; k_whole; walk_at "after dof_dec"))
  k_with "after scale_n" => (intro _ _ _ _ _ _ _ _ _ _ _ _ _; (try k_sweep))
  k_with "call ref cons nil" => (k_here; (with_reducible show wpAny _ _ (call (Value.ref 180) [_, _]) _ _ _); k_dflt (refine' scale_n (by k_asm) (by k_asm) (by k_asm) (by k_asm) (by k_asm) (by walk_at "do K") (by k_room) (by walk_at "do num") (by walk_at "do num") ?_; k_whole; walk_at "after scale_n"))
  k_with "call ref cons nil" => (k_here; (with_reducible show wpAny _ _ (call (Value.ref 82) [Value.ref _, Value.ref _]) _ _ _); k_dflt (refine' plus_ok (by k_asm) (by k_asm) (by k_asm) (by k_asm) (by k_asm) (by walk_at "do K") (by k_room) (by walk_at "do dec") (by walk_at "do dec") ?_; k_whole; walk_at "do newdec"))
  k_with "call ref cons nil" => (k_here; (with_reducible show wpAny _ _ (call (Value.ref 89) [Value.ref _, _]) _ _ _); k_dflt (refine' minus_n (by k_asm) (by k_asm) (by k_asm) (by k_asm) (by k_asm) (by walk_at "do K") (by k_room) (by walk_at "do dec") (by walk_at "do num") ?_; k_whole; walk_at "do newdec"))
  k_with "call ref cons nil" => (k_here; (with_reducible show wpAny _ _ (call (Value.ref 96) [Value.ref _, Value.int _ _]) _ _ _); k_dflt (refine' times_di (by k_asm) (by k_asm) (by k_asm) (by k_asm) (by k_asm) (by walk_at "do K") (by k_room) (by walk_at "do dec") (by first | assumption | lia | (simp only [fm2]; lia) | exact fdiv_bound (by lia) (by lia) (by lia)) ?_; k_whole; walk_at "do newdec"))
  k_with "after cmp_dd" => (intro _ _ _ _ _ _ _; (try k_sweep))
  k_with "call ref cons nil" => (k_here; (with_reducible show wpAny _ _ (call (Value.ref 110) [Value.ref _, Value.ref _]) _ _ _); k_dflt (refine' cmp_dd (by k_asm) (by k_asm) (by k_asm) (by k_asm) (by k_asm) (by walk_at "do K") (by k_room) (by walk_at "do dec") (by walk_at "do dec") ?_; k_whole; walk_at "after cmp_dd"))
  k_with "after told_d" => (intro _ _ _ _ _ _ _ _ _ _ _ _; (try k_sweep))
  k_with "call ref cons nil" => (k_here; (with_reducible show wpAny _ _ (call (Value.ref 138) [Value.ref _]) _ _ _); k_dflt (refine' told_d (by k_asm) (by k_asm) (by k_asm) (by k_asm) (by k_asm) (by walk_at "do K") (by k_room) (by walk_at "do dec") ?_; k_whole; walk_at "after told_d"))
  k_with "do item" => (k_here; (with_reducible show wpAny _ _ (subscriptTail _ _ (Value.ref _) (Value.int _ _)) _ _ _); k_dflt (refine' item_led (by k_asm) (by k_mem) (by first | decide | assumption) (by first | decide | assumption) (by assumption) ?_ (by with_unfolding_all rfl); k_whole))
  k_with "do len" => (k_here; (with_reducible show wpAny _ _ (call (Value.builtin "len") [Value.ref _]) _ _ _); k_dflt (refine' len_led (by k_asm) (by k_mem) (by lia) ?_; k_whole))
  k_with "do decs" => (first | assumption | exact Decs.sub (by assumption) (fun q hq => by repeat' (first | exact hq | refine List.mem_cons_of_mem _ ?_ | refine List.mem_append_right _ ?_ | refine lift_sub (by assumption) ?_)) | exact decs2 (by first | assumption | exact Dec.sub (by assumption) (fun q hq => by repeat' (first | exact hq | refine List.mem_cons_of_mem _ ?_ | refine List.mem_append_right _ ?_ | refine lift_sub (by assumption) ?_)) | exact ⟨_, _, by k_mem, by k_mem, by assumption⟩ | exact ⟨_, _, by k_mem, by k_mem, ⟨_, _, _, _, _, _, rfl, by assumption⟩⟩ | exact ⟨_, _, by k_mem, by k_mem, decO_whole⟩) (by first | assumption | exact Dec.sub (by assumption) (fun q hq => by repeat' (first | exact hq | refine List.mem_cons_of_mem _ ?_ | refine List.mem_append_right _ ?_ | refine lift_sub (by assumption) ?_)) | exact ⟨_, _, by k_mem, by k_mem, by assumption⟩ | exact ⟨_, _, by k_mem, by k_mem, ⟨_, _, _, _, _, _, rfl, by assumption⟩⟩ | exact ⟨_, _, by k_mem, by k_mem, decO_whole⟩))
  k_with "after least_ok" => (intro _ _ _ _ _ _ _ _ _; (try k_sweep))
  k_with "call ref cons nil" => (k_here; (with_reducible show wpAny _ _ (call (Value.ref 199) [Value.ref _]) _ _ _); k_dflt (refine' least_ok (by k_asm) (by k_asm) (by k_asm) (by k_asm) (by k_asm) (by walk_at "do K") (by k_room) (by k_mem) (by walk_at "do decs") (by first | assumption | exact ⟨Nat.le_of_ble_eq_true rfl, Nat.le_of_ble_eq_true rfl⟩ | exact ⟨by lia, by lia⟩) ?_; k_whole; walk_at "after least_ok"))
  k_with "after greatest_ok" => (intro _ _ _ _ _ _ _ _ _; (try k_sweep))
  k_with "call ref cons nil" => (k_here; (with_reducible show wpAny _ _ (call (Value.ref 206) [Value.ref _]) _ _ _); k_dflt (refine' greatest_ok (by k_asm) (by k_asm) (by k_asm) (by k_asm) (by k_asm) (by walk_at "do K") (by k_room) (by k_mem) (by walk_at "do decs") (by first | assumption | exact ⟨Nat.le_of_ble_eq_true rfl, Nat.le_of_ble_eq_true rfl⟩ | exact ⟨by lia, by lia⟩) ?_; k_whole; walk_at "after greatest_ok"))
  k_with "after tops_ok" => (intro _ _ _ _ _ _ _ _ _ _ _ _ _; (try k_sweep))
  k_with "call ref cons nil" => (k_here; (with_reducible show wpAny _ _ (call (Value.ref 185) [Value.ref _]) _ _ _); k_dflt (refine' tops_ok (by k_asm) (by k_asm) (by k_asm) (by k_asm) (by k_asm) (by walk_at "do K") (by k_room) (by k_mem) (by walk_at "do decs") (by first | assumption | exact ⟨by lia, by lia⟩) ?_; k_whole; walk_at "after tops_ok"))
  k_with "call ref cons nil" => (k_here; (with_reducible show wpAny _ _ (call (Value.ref 192) [Value.ref _]) _ _ _); k_dflt (refine' sum_ok (by k_asm) (by k_asm) (by k_asm) (by k_asm) (by k_asm) (by walk_at "do K") (by k_room) (by k_mem) (by walk_at "do decs") (by first | assumption | exact ⟨by lia, by lia⟩) ?_; k_whole; walk_at "do newdec"))
  k_with "do div" => (k_dflt (refine floordiv_int (by lia) ?_ (Or.inl (PyProof.noPylong_small (by lia)))))
  k_with "call ref cons nil" => (k_here; (with_reducible show wpAny _ _ (call (Value.ref 213) [Value.ref _, _]) _ _ _); k_dflt (refine' ahead_n (by k_asm) (by k_asm) (by k_asm) (by k_asm) (by k_asm) (by walk_at "do K") (by k_room) (by k_mem) (by walk_at "do decs") (by first | assumption | exact ⟨by lia, by lia⟩) (by first | assumption | lia) (by walk_at "do num") (by first | assumption | lia) ?_; k_whole; walk_at "do newdec"))
  k_with "call ref cons nil" => (k_here; (with_reducible show wpAny _ _ (call (Value.ref 199) [Value.ref _]) _ _ _); k_dflt (refine' least_pos (by k_asm) (by k_asm) (by k_asm) (by k_asm) (by k_asm) (by walk_at "do K") (by k_room) (by k_mem) (by walk_at "do decs") (by first | assumption | exact ⟨by lia, by lia⟩) (by assumption) ?_; k_whole; walk_at "do gotdec"))
  k_with "call ref cons nil" => (k_here; (with_reducible show wpAny _ _ (call (Value.ref 206) [Value.ref _]) _ _ _); k_dflt (refine' greatest_pos (by k_asm) (by k_asm) (by k_asm) (by k_asm) (by k_asm) (by walk_at "do K") (by k_room) (by k_mem) (by walk_at "do decs") (by first | assumption | exact ⟨by lia, by lia⟩) (by assumption) ?_; k_whole; walk_at "do gotdec"))
  k_with "do compA" => (k_here; k_dflt (refine LCg.Assign_ListComp_U (F₀ := by k_asm) (by rfl) (by with_unfolding_all rfl) (by with_unfolding_all rfl) (by decide) (by rfl) (by decide) (by rfl) (by rfl) (by rfl) ?_))
  k_with "do eq" => (k_here; (with_reducible show wpAny _ _ (compareOp CmpOp.Eq (Value.ref _) (Value.ref _)) _ _ _); k_dflt (refine' eq_nil_led (by k_asm) (by k_mem) (by k_mem) (by lia) (by rfl) (by ((try simp only [units_in1, units_deeper, Around.mark_units]); (try dsimp only [ktrTop]); lia)) ?_; k_whole))
  k_with "do ne" => (k_here; (with_reducible show wpAny _ _ (compareOp CmpOp.NotEq (Value.ref _) (Value.ref _)) _ _ _); k_dflt (refine' ne_nil_led (by k_asm) (by k_mem) (by k_mem) (by lia) (by rfl) (by ((try simp only [units_in1, units_deeper, Around.mark_units]); (try dsimp only [ktrTop]); lia)) ?_; k_whole))
  k_with "do append" => ((k_here; (with_reducible show wpAny _ _ (call (Value.builtin _) [Value.ref _, _]) _ _ _); k_dflt (refine' append_led (by k_asm) (by k_asm) (by k_mem) (by lia) ?_; k_whole; intro _ _ _ _ _ _ _; (try k_sweep))))
  k_with "do div2" => (k_dflt (first | refine floordiv_int (by lia) ?_ (Or.inl (PyProof.noPylong_small (by lia))) | refine floordiv_int (by lia) ?_ (Or.inl (noPy (by lia)))))
  k_with "after take_ok" => (intro _ _ _ _ _ _ _ _ _; intro N'; (try dsimp only at N'); revert N'; intro _ _ _; (try k_sweep))
  k_with "call ref cons nil" => (k_here; (with_reducible show wpAny _ _ (call (Value.ref 230) [Value.ref _, Value.int _ _]) _ _ _); k_dflt (refine' take_ok (by k_asm) (by k_asm) (by k_asm) (by k_asm) (by k_asm) (by walk_at "do K") (by k_room) (by k_updF) (by k_mem) (by first | assumption | k_ne) (by assumption) (by assumption) (by first | assumption | lia) (by first | exact ⟨by decide, by decide⟩ | assumption | lia) ?_; k_whole; walk_at "after take_ok"))
  k_with "after number_ok" => (intro _ _ _ _ _ _ _ _ _ _; intro N'; (try dsimp only at N'); revert N'; intro _ _ _ _; (try k_sweep))
  k_with "call ref cons nil" => (k_here; (with_reducible show wpAny _ _ (call (Value.ref 237) [Value.ref _, Value.int _ _]) _ _ _); k_dflt (refine' number_ok (by k_asm) (by k_asm) (by k_asm) (by k_asm) (by k_asm) (by walk_at "do K") (by k_room) (by k_updF) (by k_mem) (by first | assumption | k_ne) (by assumption) (by assumption) (by first | assumption | lia) ?_; k_whole; walk_at "after number_ok"))
  k_with "do comp" => (k_here; k_dflt (refine LCg.ListComp_U (F₀ := by k_asm) (by with_unfolding_all rfl) (by decide) (by rfl) (by decide) (by rfl) ?_))
  k_with "after source_ok" => (intro _ _ _ _ _ _ _ _ _ _ _ _ _ _ _ _ _ _; (try k_sweep))
  k_with "call ref cons nil" => (k_here; (with_reducible show wpAny _ _ (call (Value.ref 223) [Value.ref _]) _ _ _); k_dflt (refine' source_ok (by k_asm) (by k_asm) (by k_asm) (by k_asm) (by k_asm) (by walk_at "do K") (by k_room) (by assumption) (by assumption) (by assumption) ?_; k_whole; walk_at "after source_ok"))
  trivial
section
variable {prog : Program} {w : World} {A : Around} {E : Value → Shared → Prop} {s : Shared} {env : Env} {h₀ : Heap} {x : Str} {body : List Stmt} {Q : Flow → Shared → Prop} {target : Expr}
theorem iter_ledT {l : Addr} {items : Array Value} {c : Nat} {m₀ : Str → Option Value} {news : List (Addr × Obj)} (J : Nat → (Str → Option Value) → List (Addr × Obj) → Prop)
    (hh : A.handled = none) (F : Fr h₀ env.locals s.heap m₀) (N : News h₀ env.locals s.heap news)
    (hJl : ∀ i m nw, J i m nw → (l, ({ cls := .type "list", data := .seq items c } : Obj)) ∈ nw) (hj : J 0 m₀ news)
    (turn : ∀ i v m₁ news₁ I oI h tk, items[i]? = some v → J i m₁ news₁ → (∀ p ∈ news₁, p.1 ≠ I) → oI.cls = .type "list_iterator" → Fr h₀ env.locals h m₁ → News h₀ env.locals h ((I, oI) :: news₁) →
      wpAny (model prog w) A (assign target env v) (fun _ s₃ => wpAny (model prog w) A (execs body env) (TurnPost h₀ env.locals I oI (J (i + 1)) { s with heap := h, toks := tk } Q) E s₃) E { s with heap := h, toks := tk })
    (done : ∀ m₁ news₁ h tk, J items.size m₁ news₁ → Fr h₀ env.locals h m₁ → News h₀ env.locals h news₁ → Q .next { s with heap := h, toks := tk }) :
    wpAny (model prog w) A (pyIter (.ref l)) (fun it s₂ => TurnsAt prog w A h₀ env target body Q E it s₂) E s := by
  have hm := hJl _ _ _ hj
  have hls : s.heap.IsList l items := ⟨_, (N _ hm).1, rfl, _, rfl⟩
  have hlt : l < s.heap.objs.size := Heap.lt_size (N _ hm).1
  have hne : l ≠ s.heap.objs.size := Nat.ne_of_lt hlt
  refine wpAny_pyIter_list hls ?_
  have W := KTurns.ofWalks (target := target) (Walks.list (prog := prog) (w := w) hh s.heap.objs.size l hne items) fun i v s Q E st q => letGo_listiter st.1 q
  refine ⟨_, _, _, items.size, _, _, _, m₀, news, J, rfl, W, ?_, ?_, ?_, ⟨⟨_, Heap.get?_push_size _ rfl, rfl, rfl⟩, hls.at fun o e => Heap.get?_push_of_some _ e⟩, F.push _, (fun p hp => ⟨Heap.get?_push_of_some _ (N p hp).1, (N p hp).2⟩), hj, ?_, ?_⟩
  · intro hm'
    rcases List.mem_cons.mp hm' with e | hm'
    · exact absurd F.ns.lt (e ▸ Nat.lt_irrefl _)
    · exact (N _ hm).2.1 (List.mem_singleton.mp hm').symm
  · intro b hb
    rw [List.mem_singleton.mp hb]
    exact next_is_new F
  · intro p hp hI
    exact absurd (Heap.lt_size (N p hp).1) ((List.mem_singleton.mp hI) ▸ Nat.lt_irrefl _)
  · intro i v m₁ news₁ hh' tk' own hin hP hJ hoff hown hget hall hst F₁ N₁
    have hst' := hst.1
    obtain ⟨oI, hoI, hcI, _⟩ := hst'
    have hnew : h₀.get? s.heap.objs.size = none := next_is_new F
    have hmem := hall s.heap.objs.size (List.mem_cons_self ..) hnew _ hoI
    have keep := own_two hown hget hoI (N₁ _ (List.mem_append_right _ (hJl _ _ _ hJ))).1 (J := J (i + 1)) (fun m nw h => hJl _ m nw h)
    refine wpAny_mono (turn i v m₁ news₁ s.heap.objs.size oI hh' tk' hP hJ (fun p hp e => hoff p hp (by rw [e]; exact List.mem_singleton.mpr rfl)) hcI F₁ (turn_in hmem N₁)) (fun _ s₂ h₂ => wpAny_mono h₂ (fun f s₃ p => ?_) fun _ _ e => e) fun _ _ e => e
    cases f with
    | ret v => exact .ret p
    | brk => exact .brk p
    | next => exact .next (turn_fin keep p)
    | cont => exact .cont (turn_fin keep p)
  · intro h' tk m' news' F' N' _ hJ
    exact done m' news' h' tk hJ F' N'
theorem iter_rng {r : Addr} {a₀ b₀ c₀ : Int} {t₀ u₀ v₀ : Tok} {n : Nat} {m₀ : Str → Option Value} {news : List (Addr × Obj)} (J : Nat → (Str → Option Value) → List (Addr × Obj) → Prop)
    (hh : A.handled = none) (hr : IsRange s.heap r a₀ b₀ c₀ t₀ u₀ v₀) (hsmall : Builtin.Range.small a₀ b₀ c₀ = true) (hn : Builtin.Range.rangeSize a₀ b₀ c₀ = (n : Int)) (F : Fr h₀ env.locals s.heap m₀) (N : News h₀ env.locals s.heap news) (hj : J 0 m₀ news)
    (turn : ∀ i t m₁ news₁ I oI h tk, i < n → J i m₁ news₁ → (∀ p ∈ news₁, p.1 ≠ I) → oI.cls = .type "range_iterator" → Fr h₀ env.locals h (fun y => if y = x then some (.int (a₀ + (i : Int) * c₀) t) else m₁ y) → News h₀ env.locals h ((I, oI) :: news₁) →
      wpAny (model prog w) A (execs body env) (TurnPost h₀ env.locals I oI (J (i + 1)) { s with heap := h, toks := tk } Q) E { s with heap := h, toks := tk })
    (done : ∀ m₁ news₁ h tk, J n m₁ news₁ → Fr h₀ env.locals h m₁ → News h₀ env.locals h news₁ → Q .next { s with heap := h, toks := tk }) :
    wpAny (model prog w) A (pyIter (.ref r)) (fun it s₂ => LoopAtV prog w A h₀ env x body Q E it s₂) E s := by
  refine wpAny_pyIter_range hr hsmall ?_
  have W := Walks.range (prog := prog) (w := w) hh s.heap.objs.size a₀ c₀ n
  have hnew := next_is_new F
  refine ⟨_, _, _, n, _, _, m₀, news, J, rfl, W, ?_, ?_, ?_, (by show IsRangeIter _ _ _ _ _; rw [hn]; simpa using Heap.get?_push_size _ rfl), F.push _, (fun p hp => ⟨Heap.get?_push_of_some _ (N p hp).1, (N p hp).2⟩), hj, ?_, ?_⟩
  · intro hm
    exact absurd F.ns.lt ((List.mem_singleton.mp hm) ▸ Nat.lt_irrefl _)
  · intro b hb
    rw [List.mem_singleton.mp hb]
    exact hnew
  · intro p hp hI
    exact absurd (Heap.lt_size (N p hp).1) ((List.mem_singleton.mp hI) ▸ Nat.lt_irrefl _)
  · rintro i v m₁ news₁ s₁ own ⟨hh', tk', rfl⟩ hin ⟨t, rfl⟩ hJ hoff hown hget hall hst F₁ N₁
    have hst' : hh'.get? s.heap.objs.size = some _ := hst
    have hmem := hall s.heap.objs.size (List.mem_singleton.mpr rfl) hnew _ hst'
    have keep : ∀ p ∈ own, p = (s.heap.objs.size, _) ∨ ∀ m nw, J (i + 1) m nw → p ∈ nw := fun p hp => by
      have h1 : p.1 = s.heap.objs.size := List.mem_singleton.mp (hown p hp)
      have h2 := hget p hp
      rw [h1, hst'] at h2
      exact .inl (Prod.ext h1 (Option.some.inj h2).symm)
    refine wpAny_mono (turn i t m₁ news₁ s.heap.objs.size _ hh' tk' hin hJ (fun p hp e => hoff p hp (by rw [e]; exact List.mem_singleton.mpr rfl)) rfl F₁ (turn_in hmem N₁)) (fun f s₂ p => ?_) fun _ _ e => e
    cases f with
    | ret v => exact .ret p
    | brk => exact .brk p
    | next => exact .next (turn_fin keep p)
    | cont => exact .cont (turn_fin keep p)
  · rintro h' tk m' news' F' N' _ hJ
    exact done m' news' h' tk hJ F' N'
def EndR {σ : Type} (h₀ : Heap) (L I : Addr) (oI : Obj) (xs : List Str) (m₀ : Str → Option Value) (Led : σ → List (Addr × Obj)) (J : σ → Prop) (s₁ s₂ : Shared) : Prop :=
  ∃ h' tk m' st, s₂ = { s₁ with heap := h', toks := tk } ∧ Fr h₀ L h' m' ∧ News h₀ L h' ((I, oI) :: Led st) ∧ (∀ p ∈ Led st, p.1 ≠ I) ∧ (∀ y, y ∉ xs → m' y = m₀ y) ∧ J st
def PostR {σ : Type} (h₀ : Heap) (L I : Addr) (oI : Obj) (xs : List Str) (m₀ : Str → Option Value) (Led : σ → List (Addr × Obj)) (J : σ → Prop) (s₁ : Shared) (Q : Flow → Shared → Prop) (f : Flow) (s₂ : Shared) : Prop :=
  match f with
  | .ret v => Q (.ret v) s₂
  | .brk => Q .next s₂
  | _ => EndR h₀ L I oI xs m₀ Led J s₁ s₂
theorem EndR.intro {σ : Type} {L I : Addr} {oI : Obj} {xs : List Str} {m₀ : Str → Option Value} {Led : σ → List (Addr × Obj)} {J : σ → Prop} {s₁ : Shared} {h' : Heap} {tk : Nat} {m' : Str → Option Value} (st : σ)
    (F : Fr h₀ L h' m') (N : News h₀ L h' ((I, oI) :: Led st)) (off : ∀ p ∈ Led st, p.1 ≠ I) (hm : ∀ y, y ∉ xs → m' y = m₀ y) (hj : J st) : EndR h₀ L I oI xs m₀ Led J s₁ { s₁ with heap := h', toks := tk } :=
  ⟨h', tk, m', st, rfl, F, N, off, hm, hj⟩
theorem ovr {xs : List Str} {m₁ m₀ : Str → Option Value} (h : ∀ y, y ∉ xs → m₁ y = m₀ y) : m₁ = fun y => if y ∈ xs then m₁ y else m₀ y := by
  funext y
  by_cases e : y ∈ xs
  · simp only [if_pos e]
  · simp only [if_neg e]; exact h y e
theorem endR_turn {σ : Type} {L I : Addr} {oI : Obj} {xs : List Str} {m₀ : Str → Option Value} {Led : σ → List (Addr × Obj)} {J : σ → Prop} {s₁ s₂ : Shared} {f : Flow}
    (p : PostR h₀ L I oI xs m₀ Led J s₁ Q f s₂) : TurnPost h₀ L I oI (fun m₁ nw => ∃ st, nw = Led st ∧ J st ∧ ∀ y, y ∉ xs → m₁ y = m₀ y) s₁ Q f s₂ := by
  have fin : EndR h₀ L I oI xs m₀ Led J s₁ s₂ → TurnEnd h₀ L I oI (fun m₁ nw => ∃ st, nw = Led st ∧ J st ∧ ∀ y, y ∉ xs → m₁ y = m₀ y) s₁ s₂ := by
    rintro ⟨h', tk', m', st', e, F', N', off', hm', hj'⟩
    exact ⟨h', tk', m', _, e, F', N', off', st', rfl, hj', hm'⟩
  cases f with
  | ret v => exact p
  | brk => exact p
  | next => exact fin p
  | cont => exact fin p
theorem iter_rst {σ : Type} {r : Addr} {a₀ b₀ c₀ : Int} {t₀ u₀ v₀ : Tok} {n : Nat} {m m₀ : Str → Option Value} (xs : List Str) (Led : σ → List (Addr × Obj)) (J : Nat → σ → Prop) (st₀ : σ)
    (hh : A.handled = none) (hr : IsRange s.heap r a₀ b₀ c₀ t₀ u₀ v₀) (hsmall : Builtin.Range.small a₀ b₀ c₀ = true) (hn : Builtin.Range.rangeSize a₀ b₀ c₀ = (n : Int)) (F : Fr h₀ env.locals s.heap m) (N : News h₀ env.locals s.heap (Led st₀)) (hm : ∀ y, y ∉ xs → m y = m₀ y) (hx : x ∈ xs) (hj : J 0 st₀)
    (turn : ∀ i t (u : Str → Option Value) st I oI h tk, i < n → J i st → (∀ p ∈ Led st, p.1 ≠ I) → oI.cls = .type "range_iterator" → Fr h₀ env.locals h (fun y => if y = x then some (.int (a₀ + (i : Int) * c₀) t) else if y ∈ xs then u y else m₀ y) → News h₀ env.locals h ((I, oI) :: Led st) →
      wpAny (model prog w) A (execs body env) (PostR h₀ env.locals I oI xs m₀ Led (J (i + 1)) { s with heap := h, toks := tk } Q) E { s with heap := h, toks := tk })
    (done : ∀ (u : Str → Option Value) st h tk, J n st → Fr h₀ env.locals h (fun y => if y ∈ xs then u y else m₀ y) → News h₀ env.locals h (Led st) → Q .next { s with heap := h, toks := tk }) :
    wpAny (model prog w) A (pyIter (.ref r)) (fun it s₂ => LoopAtV prog w A h₀ env x body Q E it s₂) E s := by
  refine iter_rng (J := fun i m₁ nw => ∃ st, nw = Led st ∧ J i st ∧ ∀ y, y ∉ xs → m₁ y = m₀ y) hh hr hsmall hn F N ⟨st₀, rfl, hj, hm⟩ ?_ ?_
  · rintro i t m₁ nw I oI h tk hi ⟨st, rfl, hJ, h2⟩ off hc F₁ N₁
    rw [ovr h2] at F₁
    exact wpAny_mono (turn i t m₁ st I oI h tk hi hJ off hc F₁ N₁) (fun f s₂ p => endR_turn p) fun _ _ e => e
  · rintro m₁ nw h tk ⟨st, rfl, hJ, h2⟩ F₁ N₁
    rw [ovr h2] at F₁
    exact done m₁ st h tk hJ F₁ N₁
theorem iter_lst {σ : Type} {l : Addr} {items : Array Value} {c : Nat} {m m₀ : Str → Option Value} (xs : List Str) (Led : σ → List (Addr × Obj)) (J : Nat → σ → Prop) (st₀ : σ)
    (hh : A.handled = none) (hl : ∀ i st, J i st → (l, ({ cls := .type "list", data := .seq items c } : Obj)) ∈ Led st) (F : Fr h₀ env.locals s.heap m) (N : News h₀ env.locals s.heap (Led st₀)) (hm : ∀ y, y ∉ xs → m y = m₀ y) (hj : J 0 st₀)
    (turn : ∀ i v (u : Str → Option Value) st I oI h tk, items[i]? = some v → J i st → (∀ p ∈ Led st, p.1 ≠ I) → oI.cls = .type "list_iterator" → Fr h₀ env.locals h (fun y => if y ∈ xs then u y else m₀ y) → News h₀ env.locals h ((I, oI) :: Led st) →
      wpAny (model prog w) A (assign target env v) (fun _ s₃ => wpAny (model prog w) A (execs body env) (PostR h₀ env.locals I oI xs m₀ Led (J (i + 1)) { s with heap := h, toks := tk } Q) E s₃) E { s with heap := h, toks := tk })
    (done : ∀ (u : Str → Option Value) st h tk, J items.size st → Fr h₀ env.locals h (fun y => if y ∈ xs then u y else m₀ y) → News h₀ env.locals h (Led st) → Q .next { s with heap := h, toks := tk }) :
    wpAny (model prog w) A (pyIter (.ref l)) (fun it s₂ => TurnsAt prog w A h₀ env target body Q E it s₂) E s := by
  refine iter_ledT (items := items) (c := c) (J := fun i m₁ nw => ∃ st, nw = Led st ∧ J i st ∧ ∀ y, y ∉ xs → m₁ y = m₀ y) hh F N ?_ ⟨st₀, rfl, hj, hm⟩ ?_ ?_
  · rintro i m₁ nw ⟨st, rfl, hJ, _⟩
    exact hl i st hJ
  · rintro i v m₁ nw I oI h tk hv ⟨st, rfl, hJ, h2⟩ off hc F₁ N₁
    rw [ovr h2] at F₁
    exact wpAny_mono (turn i v m₁ st I oI h tk hv hJ off hc F₁ N₁) (fun _ s₃ q => wpAny_mono q (fun f s₂ p => endR_turn p) fun _ _ e => e) fun _ _ e => e
  · rintro m₁ nw h tk ⟨st, rfl, hJ, h2⟩ F₁ N₁
    rw [ovr h2] at F₁
    exact done m₁ st h tk hJ F₁ N₁
end
def PairIs (news : List (Addr × Obj)) (v : Value) (be : Int × Int) : Prop := ∃ (T : Addr) (t₁ t₂ : Tok) (n : Nat), v = Value.ref T ∧ (T, ({ cls := .type "tuple", data := .seq #[.int be.1 t₁, .int be.2 t₂] n } : Obj)) ∈ news
def PairsAre (news : List (Addr × Obj)) (vs : List Value) (bes : List (Int × Int)) : Prop := vs.length = bes.length ∧ ∀ (i : Nat) (v : Value), vs[i]? = some v → ∃ be, bes[i]? = some be ∧ PairIs news v be
theorem PairIs.filt {all nw : List (Addr × Obj)} {v : Value} {be : Int × Int} (h : PairIs all v be) (hf : ∀ a o, (a, o) ∈ all → o.cls ≠ .type "list" → (a, o) ∈ nw) : PairIs nw v be := by
  obtain ⟨T, r1, r2, n, e, hm⟩ := h
  exact ⟨T, r1, r2, n, e, hf _ _ hm (fun e => absurd (Value.type.inj e) (by decide))⟩
theorem PairIs.sub {news nw : List (Addr × Obj)} {v : Value} {be : Int × Int} (h : PairIs news v be) (hs : ∀ p ∈ news, p ∈ nw) : PairIs nw v be := by
  obtain ⟨T, r1, r2, n, e, hm⟩ := h
  exact ⟨T, r1, r2, n, e, hs _ hm⟩
theorem PairsAre.sub {news nw : List (Addr × Obj)} {vs : List Value} {bes : List (Int × Int)} (h : PairsAre news vs bes) (hs : ∀ p ∈ news, p ∈ nw) : PairsAre nw vs bes := allG (P := PairIs news) (P' := PairIs nw) h fun _ _ hi => hi.sub hs
theorem PairsAre.filt {all nw : List (Addr × Obj)} {vs : List Value} {bes : List (Int × Int)} (h : PairsAre all vs bes) (hf : ∀ a o, (a, o) ∈ all → o.cls ≠ .type "list" → (a, o) ∈ nw) : PairsAre nw vs bes := allG (P := PairIs all) (P' := PairIs nw) h fun _ _ hi => hi.filt hf
theorem PairsAre.snoc {news : List (Addr × Obj)} {vs : List Value} {bes : List (Int × Int)} {v : Value} {be : Int × Int} (h : PairsAre news vs bes) (hd : PairIs news v be) : PairsAre news (vs ++ [v]) (bes ++ [be]) := snocG (P := PairIs news) h hd
/-- what _law_due reckons -/
noncomputable def beginAt (pat : List Int) (near : Int) (i : Nat) : Int × Int := ((pat.take (2 * i)).sum - near, pat.getD (2 * i) 0)
noncomputable def beginsTo (pat : List Int) (near : Int) : Nat → List (Int × Int)
  | 0 => []
  | i + 1 => beginsTo pat near i ++ [beginAt pat near i]
noncomputable def dueOne (T here size : Int) : List (Int × Int) := if here < T ∧ (0 ≤ here ∨ 0 < here + size) then [(max here 0, min (here + size) T)] else []
noncomputable def dueRow (pat : List Int) (near T : Int) (q : Nat) : Nat → List (Int × Int)
  | 0 => []
  | i + 1 => dueRow pat near T q i ++ dueOne T ((beginAt pat near i).1 + q * pat.sum) (beginAt pat near i).2
noncomputable def dueTo (pat : List Int) (near T : Int) (M : Nat) : Nat → List (Int × Int)
  | 0 => []
  | q + 1 => dueTo pat near T M q ++ dueRow pat near T q M
theorem beginsTo_get (pat : List Int) (near : Int) : ∀ (n i : Nat), i < n → (beginsTo pat near n)[i]? = some (beginAt pat near i)
  | n + 1, i, h => by
    have hl : ∀ n, (beginsTo pat near n).length = n := by
      intro n
      induction n with
      | zero => rfl
      | succ n ih => show (beginsTo pat near n ++ _).length = n + 1; rw [List.length_append, ih]; rfl
    show (beginsTo pat near n ++ [beginAt pat near n])[i]? = _
    rcases Nat.lt_succ_iff_lt_or_eq.mp h with h | rfl
    · rw [List.getElem?_append_left (by rw [hl]; exact h)]; exact beginsTo_get pat near n i h
    · rw [List.getElem?_append_right (by rw [hl]; exact Nat.le_refl _), hl, Nat.sub_self]; rfl
theorem beginsTo_len (pat : List Int) (near : Int) : ∀ n, (beginsTo pat near n).length = n
  | 0 => rfl
  | n + 1 => by show (beginsTo pat near n ++ _).length = n + 1; rw [List.length_append, beginsTo_len pat near n]; rfl
structure DSt where
  nw : List (Addr × Obj)
  fs : List Value
  c : Nat
theorem range2_size {M : Nat} {b : Int} (hb : b = 2 * (M : Int)) (hM : 1 ≤ M) : Builtin.Range.rangeSize 0 b 2 = (M : Int) := by
  subst hb
  unfold Builtin.Range.rangeSize
  rw [if_pos (by decide), if_pos (by lia)]
  lia
theorem range2_small {M : Nat} {b : Int} (hb : b = 2 * (M : Int)) (hM : 1 ≤ M ∧ M ≤ 1000) : Builtin.Range.small 0 b 2 = true := by
  unfold Builtin.Range.small
  rw [range2_size hb hM.1]
  simp only [Builtin.Range.rangeFitsLong, Bool.and_eq_true, Bool.or_eq_true, decide_eq_true_eq, beq_iff_eq, show (2 : Int) > 0 by decide, if_true]
  lia
theorem dueRow_len (pat : List Int) (near T : Int) (q : Nat) : ∀ i, (dueRow pat near T q i).length ≤ i
  | 0 => Nat.le_refl _
  | i + 1 => by
    have ih := dueRow_len pat near T q i
    have h2 : (dueOne T ((beginAt pat near i).1 + q * pat.sum) (beginAt pat near i).2).length ≤ 1 := by unfold dueOne; split <;> simp
    show (dueRow pat near T q i ++ _).length ≤ i + 1
    rw [List.length_append]; lia
theorem dueTo_len (pat : List Int) (near T : Int) (M : Nat) : ∀ q, (dueTo pat near T M q).length ≤ M * q
  | 0 => Nat.le_refl _
  | q + 1 => by
    have ih := dueTo_len pat near T M q
    have h2 := dueRow_len pat near T q M
    show (dueTo pat near T M q ++ _).length ≤ M * (q + 1)
    rw [List.length_append, Nat.mul_succ]; lia
theorem due_turns {near tot S : Int} (hS : 0 < S) (hn : 1 ≤ near ∧ near ≤ S) (hT : 1 ≤ tot ∧ tot ≤ 40) : (near + tot).fdiv S ≤ 41 := by
  rw [Int.fdiv_eq_ediv_of_nonneg _ (by lia)]
  have h : (near + tot) / S < 42 := (Int.ediv_lt_iff_lt_mul hS).mpr (by lia)
  lia
theorem dueOne_yes {T H Sz : Int} (h1 : H < T) (h2 : 0 ≤ H ∨ 0 < H + Sz) : dueOne T H Sz = [(if 0 > H then 0 else H, if T < H + Sz then T else H + Sz)] := by
  have e1 : max H 0 = if 0 > H then 0 else H := by split <;> lia
  have e2 : min (H + Sz) T = if T < H + Sz then T else H + Sz := by split <;> lia
  unfold dueOne
  rw [if_pos ⟨h1, h2⟩, e1, e2]
theorem dueOne_no {T H Sz : Int} (h : ¬ (H < T ∧ (0 ≤ H ∨ 0 < H + Sz))) : dueOne T H Sz = [] := if_neg h
theorem fresh17 : True := by
  w_top off
  k_with_none
  k_with "enter K" => (first | assumption | exact rfl)
  k_with "enter binds" => (first | exact BindsTo.of_eq rfl | exact binds_K (by k_in) rfl (by k_is) rfl rfl rfl | fail "k_enter: no rule for these arguments")
  k_with "room" => (first | ((try simp only [depth_under_make, depth_under_kw, depth_in1, depth_deeper, depth_caller]); (try dsimp only [ktrTop]); lia) | ((try simp only [depth_under_make, depth_under_kw, depth_in1, depth_deeper, depth_caller]); decide))
  k_with "enter" => (refine' code_defC (by k_asm) (by k_asm) (by k_asm) (by k_asm) (by k_asm) (by exact rfl) (by exact rfl) (by walk_at "enter K") (by k_is) (by k_is) (by k_room) (by walk_at "enter binds") (by exact rfl) (by decide +kernel) ?_ (by exact rfl) (by exact rfl) (by exact rfl); k_whole; intro _ _ _ _ _ _ _; intro N' Y' B'; (try k_lift B'); revert B'; intro _ _ _; intro l1; (try k_lt l1); revert l1; intro _; k_cells Y'; (try simp only [List.cons_append, List.nil_append] at N'); revert N'; intro _; (try dsimp only); (try k_fold))
  k_with "enter" => (refine' code_def (by k_asm) (by k_asm) (by k_asm) (by k_asm) (by k_asm) (by exact rfl) (by exact rfl) (by walk_at "enter K") (by k_is) (by k_is) (by k_room) (by walk_at "enter binds") (by exact locs rfl) ?_ (by exact rfl) (by exact rfl) (by exact rfl) ?_; rotate_left; decide; k_whole; intro _ _ _ _ _ _; intro B'; (try k_lift B'); revert B'; intro _ _ _; (try dsimp only); (try k_fold))
  k_with "binaryOp Pow int int" => (with_reducible refine pow_int_small ?_ ?_ ?_ ?_; (first | decide | lia); (first | decide | lia); decide)
  k_with "rel" => (first | exact List.Mem.head _ | (refine' List.mem_cons_of_mem _ ?_; ktr_rel) | ktr_member | (refine' List.mem_append_right _ ?_; ktr_rel) | (refine' lift_sub (by assumption) ?_; ktr_rel))
  k_with "ite" => (k_dflt (first | refine ite_pos (by (simp only [beq_iff_eq, bne_iff_ne, decide_eq_true_eq, ne_eq]); lia) ?_ | refine ite_neg (by (simp only [beq_iff_eq, bne_iff_ne, decide_eq_true_eq, ne_eq]); lia) ?_))
  k_with "eval Call" => (k_fold)
  k_with "exec Assign" => (k_fold)
  k_with "eval BinOp" => (k_fold)
  k_with "isTrue BoolOp" => (k_fold)
  k_with "isTrue Compare" => (k_fold)
  k_with "eval Compare" => (k_fold)
  k_with "eval Tuple" => (k_fold)
  k_with "eval List" => (k_fold)
  k_with "eval Subscript" => (k_fold)
  k_with "exec Expr" => (k_fold)
  k_with "exec If" => (k_fold)
  k_with "exec Return" => (k_fold)
  k_with "eval Call Attribute" => (k_fold)
  k_with "do K" => (first | assumption | exact rfl)
  k_with "do tails" => (exact fun q hq => by repeat' (first | exact hq | refine List.mem_cons_of_mem _ ?_ | refine List.mem_append_right _ ?_ | refine lift_sub (by assumption) ?_))
  k_with "do dec" => (first | assumption | exact Dec.sub (by assumption) (fun q hq => by repeat' (first | exact hq | refine List.mem_cons_of_mem _ ?_ | refine List.mem_append_right _ ?_ | refine lift_sub (by assumption) ?_)) | exact ⟨_, _, by k_mem, by k_mem, by assumption⟩ | exact ⟨_, _, by k_mem, by k_mem, ⟨_, _, _, _, _, _, rfl, by assumption⟩⟩ | exact ⟨_, _, by k_mem, by k_mem, decO_whole⟩)
  k_with "do newdec" => (intro _ _ _ _ _ _ _ _ _ _ _ _ _ _; intro l2; (try k_lt2 l2); revert l2; intro _; (try k_sweep))
  k_with "do gotdec" => (intro _ _ _ _ _ _ _ _ _ _ _ _ _ _ _ _ _; (try k_sweep))
  k_with "do mod" => (k_dflt (refine mod_int' (by lia) ?_))
  k_with "do newlist" => (k_here; k_dflt (refine' newList_K (by k_asm) (by k_asm) ?_; k_whole; intro _ _ _ _ _; (try k_sweep)))
  k_with "do for" => (k_here; (with_unfolding_all refine' For_invVF ‹Fr _ _ _ _› (by exact rfl) (by exact rfl) ?_; k_whole))
  k_with "call ref cons nil" => (k_here; (with_reducible show wpAny _ _ (call (Value.ref 155) [Value.int _ _, Value.int _ _]) _ _ _); k_dflt (refine' mk_ok (by k_asm) (by k_asm) (by k_asm) (by k_asm) (by k_asm) (by walk_at "do K") (by k_room) (by first | exact Or.inl rfl | exact Or.inr rfl | assumption | lia) ?_; k_whole; walk_at "do newdec"))
  k_with "do num" => (first | assumption | exact Num.sub (by assumption) (fun q hq => by repeat' (first | exact hq | refine List.mem_cons_of_mem _ ?_ | refine List.mem_append_right _ ?_ | refine lift_sub (by assumption) ?_)) | exact .inl ⟨_, rfl, by walk_at "do dec"⟩ | exact .inr ⟨_, _, rfl, rfl⟩)
  k_with "after dof_num" => (intro _ _ _ _ _ _ _ _ _ _ _ _ _ _ _ _ _ _ _; (try k_sweep))
  k_with "call ref cons nil" => (k_here; (with_reducible show wpAny _ _ (call (Value.ref 173) [_]) _ _ _); k_dflt (refine' dof_num (by k_asm) (by k_asm) (by k_asm) (by k_asm) (by k_asm) (by walk_at "do K") (by k_room) (by walk_at "do num") (by walk_at "do tails") ?_; k_whole; walk_at "after dof_num"))
  k_with "after dof_int" => (intro _ _ _ _ _ _ _ _ _ _ _; intro l2; (try k_lt2 l2); revert l2; intro _; (try k_sweep))
  k_with "call ref cons nil" => (k_here; (with_reducible show wpAny _ _ (call (Value.ref 173) [Value.int _ _]) _ _ _); k_dflt (refine' dof_int (by k_asm) (by k_asm) (by k_asm) (by k_asm) (by k_asm) (by walk_at "do K") (by k_room)  ?_; k_whole; walk_at "after dof_int"))
  k_with "after dof_dec" => (intro _ _ _ _; (try k_sweep))
  k_with "call ref cons nil" => (k_here; (with_reducible show wpAny _ _ (call (Value.ref 173) [Value.ref _]) _ _ _); k_dflt (refine' dof_dec (by k_asm) (by k_asm) (by k_asm) (by k_asm) (by k_asm) (by walk_at "do K") (by k_room) (by walk_at "do dec") ?_; k_whole; walk_at "after dof_dec"))
  k_with "after scale_n" => (intro _ _ _ _ _ _ _ _ _ _ _ _ _; (try k_sweep))
  k_with "call ref cons nil" => (k_here; (with_reducible show wpAny _ _ (call (Value.ref 180) [_, _]) _ _ _); k_dflt (refine' scale_n (by k_asm) (by k_asm) (by k_asm) (by k_asm) (by k_asm) (by walk_at "do K") (by k_room) (by walk_at "do num") (by walk_at "do num") ?_; k_whole; walk_at "after scale_n"))
  k_with "call ref cons nil" => (k_here; (with_reducible show wpAny _ _ (call (Value.ref 82) [Value.ref _, Value.ref _]) _ _ _); k_dflt (refine' plus_ok (by k_asm) (by k_asm) (by k_asm) (by k_asm) (by k_asm) (by walk_at "do K") (by k_room) (by walk_at "do dec") (by walk_at "do dec") ?_; k_whole; walk_at "do newdec"))
  k_with "call ref cons nil" => (k_here; (with_reducible show wpAny _ _ (call (Value.ref 89) [Value.ref _, _]) _ _ _); k_dflt (refine' minus_n (by k_asm) (by k_asm) (by k_asm) (by k_asm) (by k_asm) (by walk_at "do K") (by k_room) (by walk_at "do dec") (by walk_at "do num") ?_; k_whole; walk_at "do newdec"))
  k_with "call ref cons nil" => (k_here; (with_reducible show wpAny _ _ (call (Value.ref 96) [Value.ref _, Value.int _ _]) _ _ _); k_dflt (refine' times_di (by k_asm) (by k_asm) (by k_asm) (by k_asm) (by k_asm) (by walk_at "do K") (by k_room) (by walk_at "do dec") (by first | assumption | lia | (simp only [fm2]; lia) | exact fdiv_bound (by lia) (by lia) (by lia)) ?_; k_whole; walk_at "do newdec"))
  k_with "after cmp_dd" => (intro _ _ _ _ _ _ _; (try k_sweep))
  k_with "call ref cons nil" => (k_here; (with_reducible show wpAny _ _ (call (Value.ref 110) [Value.ref _, Value.ref _]) _ _ _); k_dflt (refine' cmp_dd (by k_asm) (by k_asm) (by k_asm) (by k_asm) (by k_asm) (by walk_at "do K") (by k_room) (by walk_at "do dec") (by walk_at "do dec") ?_; k_whole; walk_at "after cmp_dd"))
  k_with "after told_d" => (intro _ _ _ _ _ _ _ _ _ _ _ _; (try k_sweep))
  k_with "call ref cons nil" => (k_here; (with_reducible show wpAny _ _ (call (Value.ref 138) [Value.ref _]) _ _ _); k_dflt (refine' told_d (by k_asm) (by k_asm) (by k_asm) (by k_asm) (by k_asm) (by walk_at "do K") (by k_room) (by walk_at "do dec") ?_; k_whole; walk_at "after told_d"))
  k_with "do item" => (k_here; (with_reducible show wpAny _ _ (subscriptTail _ _ (Value.ref _) (Value.int _ _)) _ _ _); k_dflt (refine' item_led (by k_asm) (by k_mem) (by first | decide | assumption) (by first | decide | assumption) (by assumption) ?_ (by with_unfolding_all rfl); k_whole))
  k_with "do len" => (k_here; (with_reducible show wpAny _ _ (call (Value.builtin "len") [Value.ref _]) _ _ _); k_dflt (refine' len_led (by k_asm) (by k_mem) (by lia) ?_; k_whole))
  k_with "do decs" => (first | assumption | exact Decs.sub (by assumption) (fun q hq => by repeat' (first | exact hq | refine List.mem_cons_of_mem _ ?_ | refine List.mem_append_right _ ?_ | refine lift_sub (by assumption) ?_)) | exact decs2 (by first | assumption | exact Dec.sub (by assumption) (fun q hq => by repeat' (first | exact hq | refine List.mem_cons_of_mem _ ?_ | refine List.mem_append_right _ ?_ | refine lift_sub (by assumption) ?_)) | exact ⟨_, _, by k_mem, by k_mem, by assumption⟩ | exact ⟨_, _, by k_mem, by k_mem, ⟨_, _, _, _, _, _, rfl, by assumption⟩⟩ | exact ⟨_, _, by k_mem, by k_mem, decO_whole⟩) (by first | assumption | exact Dec.sub (by assumption) (fun q hq => by repeat' (first | exact hq | refine List.mem_cons_of_mem _ ?_ | refine List.mem_append_right _ ?_ | refine lift_sub (by assumption) ?_)) | exact ⟨_, _, by k_mem, by k_mem, by assumption⟩ | exact ⟨_, _, by k_mem, by k_mem, ⟨_, _, _, _, _, _, rfl, by assumption⟩⟩ | exact ⟨_, _, by k_mem, by k_mem, decO_whole⟩))
  k_with "after least_ok" => (intro _ _ _ _ _ _ _ _ _; (try k_sweep))
  k_with "call ref cons nil" => (k_here; (with_reducible show wpAny _ _ (call (Value.ref 199) [Value.ref _]) _ _ _); k_dflt (refine' least_ok (by k_asm) (by k_asm) (by k_asm) (by k_asm) (by k_asm) (by walk_at "do K") (by k_room) (by k_mem) (by walk_at "do decs") (by first | assumption | exact ⟨Nat.le_of_ble_eq_true rfl, Nat.le_of_ble_eq_true rfl⟩ | exact ⟨by lia, by lia⟩) ?_; k_whole; walk_at "after least_ok"))
  k_with "after greatest_ok" => (intro _ _ _ _ _ _ _ _ _; (try k_sweep))
  k_with "call ref cons nil" => (k_here; (with_reducible show wpAny _ _ (call (Value.ref 206) [Value.ref _]) _ _ _); k_dflt (refine' greatest_ok (by k_asm) (by k_asm) (by k_asm) (by k_asm) (by k_asm) (by walk_at "do K") (by k_room) (by k_mem) (by walk_at "do decs") (by first | assumption | exact ⟨Nat.le_of_ble_eq_true rfl, Nat.le_of_ble_eq_true rfl⟩ | exact ⟨by lia, by lia⟩) ?_; k_whole; walk_at "after greatest_ok"))
  k_with "after tops_ok" => (intro _ _ _ _ _ _ _ _ _ _ _ _ _; (try k_sweep))
  k_with "call ref cons nil" => (k_here; (with_reducible show wpAny _ _ (call (Value.ref 185) [Value.ref _]) _ _ _); k_dflt (refine' tops_ok (by k_asm) (by k_asm) (by k_asm) (by k_asm) (by k_asm) (by walk_at "do K") (by k_room) (by k_mem) (by walk_at "do decs") (by first | assumption | exact ⟨by lia, by lia⟩) ?_; k_whole; walk_at "after tops_ok"))
  k_with "call ref cons nil" => (k_here; (with_reducible show wpAny _ _ (call (Value.ref 192) [Value.ref _]) _ _ _); k_dflt (refine' sum_ok (by k_asm) (by k_asm) (by k_asm) (by k_asm) (by k_asm) (by walk_at "do K") (by k_room) (by k_mem) (by walk_at "do decs") (by first | assumption | exact ⟨by lia, by lia⟩) ?_; k_whole; walk_at "do newdec"))
  k_with "do div" => (k_dflt (refine floordiv_int (by lia) ?_ (Or.inl (PyProof.noPylong_small (by lia)))))
  k_with "call ref cons nil" => (k_here; (with_reducible show wpAny _ _ (call (Value.ref 213) [Value.ref _, _]) _ _ _); k_dflt (refine' ahead_n (by k_asm) (by k_asm) (by k_asm) (by k_asm) (by k_asm) (by walk_at "do K") (by k_room) (by k_mem) (by walk_at "do decs") (by first | assumption | exact ⟨by lia, by lia⟩) (by first | assumption | lia) (by walk_at "do num") (by first | assumption | lia) ?_; k_whole; walk_at "do newdec"))
  k_with "call ref cons nil" => (k_here; (with_reducible show wpAny _ _ (call (Value.ref 199) [Value.ref _]) _ _ _); k_dflt (refine' least_pos (by k_asm) (by k_asm) (by k_asm) (by k_asm) (by k_asm) (by walk_at "do K") (by k_room) (by k_mem) (by walk_at "do decs") (by first | assumption | exact ⟨by lia, by lia⟩) (by assumption) ?_; k_whole; walk_at "do gotdec"))
  k_with "call ref cons nil" => (k_here; (with_reducible show wpAny _ _ (call (Value.ref 206) [Value.ref _]) _ _ _); k_dflt (refine' greatest_pos (by k_asm) (by k_asm) (by k_asm) (by k_asm) (by k_asm) (by walk_at "do K") (by k_room) (by k_mem) (by walk_at "do decs") (by first | assumption | exact ⟨by lia, by lia⟩) (by assumption) ?_; k_whole; walk_at "do gotdec"))
  k_with "do compA" => (k_here; k_dflt (refine LCg.Assign_ListComp_U (F₀ := by k_asm) (by rfl) (by with_unfolding_all rfl) (by with_unfolding_all rfl) (by decide) (by rfl) (by decide) (by rfl) (by rfl) (by rfl) ?_))
  k_with "do eq" => (k_here; (with_reducible show wpAny _ _ (compareOp CmpOp.Eq (Value.ref _) (Value.ref _)) _ _ _); k_dflt (refine' eq_nil_led (by k_asm) (by k_mem) (by k_mem) (by lia) (by rfl) (by ((try simp only [units_in1, units_deeper, Around.mark_units]); (try dsimp only [ktrTop]); lia)) ?_; k_whole))
  k_with "do ne" => (k_here; (with_reducible show wpAny _ _ (compareOp CmpOp.NotEq (Value.ref _) (Value.ref _)) _ _ _); k_dflt (refine' ne_nil_led (by k_asm) (by k_mem) (by k_mem) (by lia) (by rfl) (by ((try simp only [units_in1, units_deeper, Around.mark_units]); (try dsimp only [ktrTop]); lia)) ?_; k_whole))
  k_with "do append" => ((k_here; (with_reducible show wpAny _ _ (call (Value.builtin _) [Value.ref _, _]) _ _ _); k_dflt (refine' append_led (by k_asm) (by k_asm) (by k_mem) (by lia) ?_; k_whole; intro _ _ _ _ _ _ _; (try k_sweep))))
  k_with "do div2" => (k_dflt (first | refine floordiv_int (by lia) ?_ (Or.inl (PyProof.noPylong_small (by lia))) | refine floordiv_int (by lia) ?_ (Or.inl (noPy (by lia)))))
  k_with "after take_ok" => (intro _ _ _ _ _ _ _ _ _; intro N'; (try dsimp only at N'); revert N'; intro _ _ _; (try k_sweep))
  k_with "call ref cons nil" => (k_here; (with_reducible show wpAny _ _ (call (Value.ref 230) [Value.ref _, Value.int _ _]) _ _ _); k_dflt (refine' take_ok (by k_asm) (by k_asm) (by k_asm) (by k_asm) (by k_asm) (by walk_at "do K") (by k_room) (by k_updF) (by k_mem) (by first | assumption | k_ne) (by assumption) (by assumption) (by first | assumption | lia) (by first | exact ⟨by decide, by decide⟩ | assumption | lia) ?_; k_whole; walk_at "after take_ok"))
  k_with "after number_ok" => (intro _ _ _ _ _ _ _ _ _ _; intro N'; (try dsimp only at N'); revert N'; intro _ _ _ _; (try k_sweep))
  k_with "call ref cons nil" => (k_here; (with_reducible show wpAny _ _ (call (Value.ref 237) [Value.ref _, Value.int _ _]) _ _ _); k_dflt (refine' number_ok (by k_asm) (by k_asm) (by k_asm) (by k_asm) (by k_asm) (by walk_at "do K") (by k_room) (by k_updF) (by k_mem) (by first | assumption | k_ne) (by assumption) (by assumption) (by first | assumption | lia) ?_; k_whole; walk_at "after number_ok"))
  k_with "do comp" => (k_here; k_dflt (refine LCg.ListComp_U (F₀ := by k_asm) (by with_unfolding_all rfl) (by decide) (by rfl) (by decide) (by rfl) ?_))
  k_with "after source_ok" => (intro _ _ _ _ _ _ _ _ _ _ _ _ _ _ _ _ _ _; (try k_sweep))
  k_with "call ref cons nil" => (k_here; (with_reducible show wpAny _ _ (call (Value.ref 223) [Value.ref _]) _ _ _); k_dflt (refine' source_ok (by k_asm) (by k_asm) (by k_asm) (by k_asm) (by k_asm) (by walk_at "do K") (by k_room) (by assumption) (by assumption) (by assumption) ?_; k_whole; walk_at "after source_ok"))
  k_with "do sum" => ((k_here; (with_reducible show wpAny _ _ (call (Value.builtin "sum") [Value.ref _]) _ _ _); k_dflt (refine' sum_led (by k_asm) (by k_asm) (by with_unfolding_all rfl) (by k_mem) (by assumption) ?_; k_whole; intro _ _ _ _ _; (try k_sweep))))
  k_with "call builtin:sum" => (walk_at "do sum")
  k_with "call type:range" => ((k_here; k_dflt (first | (refine' range3_rows (by k_asm) (by k_asm) (by decide) ?_ (by exact Or.inl (PyProof.noPylong_small (by decide))); k_whole; intro _ _ _ _ _ _ _ _ _; (try k_sweep)) | (refine' range1_rows (by k_asm) (by k_asm) ?_; k_whole; intro _ _ _ _ _ _ _ _ _; (try k_sweep)))))
  k_with "newList" => (walk_at "do newlist")
  k_with "exec For Name" => (walk_at "do for")
  k_with "exec For Name Call cons nil" => (walk_at "do for")
  k_with "exec For Tuple Name cons nil" => ((k_here; (with_unfolding_all refine' For_turns ‹Fr _ _ _ _› ?_; k_whole)))
  k_with "pyIter ref" => ((k_here; refine holdAt ?_))
  k_with "call builtin:len" => (walk_at "do len")
  k_with "call builtin:list.append" => (walk_at "do append")
  trivial
section
variable {prog : Program} {w : World} {A : Around} {E : Value → Shared → Prop} {s : Shared} {h₀ : Heap} {L l : Addr} {m : Str → Option Value} {news : List (Addr × Obj)} {vs : List Value} {c : Nat} {Q : Value → Shared → Prop}
theorem sum_led {ns : List Int} (F : Fr h₀ L s.heap m) (N : News h₀ L s.heap news) (hh : A.handled = none) (hm : (l, ({ cls := .type "list", data := .seq vs.toArray c } : Obj)) ∈ news) (hi : IntsAre vs ns)
    (h : ∀ h' tk t', Fr h₀ L h' m → News h₀ L h' news → Q (.int ns.sum t') { s with heap := h', toks := tk }) : wpAny (model prog w) A (call (.builtin "sum") [.ref l]) Q E s :=
  LSm.sum_ints F N hh ⟨_, (N _ hm).1, rfl, _, rfl⟩ hi h
end
theorem split_off {h₀ h : Heap} {L l : Addr} {lo : Obj} {all : List (Addr × Obj)} (N : News h₀ L h all) (hm : (l, lo) ∈ all) (hc : lo.cls = .type "list") :
    ∃ nw, News h₀ L h ((l, lo) :: nw) ∧ (∀ p ∈ nw, p.1 ≠ l) ∧ (∀ p ∈ all, p.1 ≠ l → p ∈ nw) ∧ (∀ a o, (a, o) ∈ all → o.cls ≠ .type "list" → (a, o) ∈ nw) := by
  refine ⟨all.filter (fun p => decide (p.1 ≠ l)), fun p hp => ?_, fun p hp => of_decide_eq_true (List.mem_filter.mp hp).2, fun p hp hn => List.mem_filter.mpr ⟨hp, decide_eq_true hn⟩, fun a o ha hn => List.mem_filter.mpr ⟨ha, decide_eq_true fun e => hn ?_⟩⟩
  · rcases List.mem_cons.mp hp with rfl | hp
    · exact N _ hm
    · exact N _ (List.mem_filter.mp hp).1
  · have h1 := (N _ ha).1
    have h2 := (N _ hm).1
    rw [e, h2] at h1
    have h3 : lo = o := Option.some.inj h1
    exact h3 ▸ hc
theorem range1_size {b : Int} (hb : 0 ≤ b) : Builtin.Range.rangeSize 0 b 1 = (b.toNat : Int) := by
  rw [rangeSize_one]; split <;> lia
section
variable {w : World} {mean : ExcName → Option Value} {mg mb : Str → Option Value} {dp un : Nat} {gd : Option (List Code)} {cn : Str} {cs : Scope} {a : Addr} {ccd : Value} {cl : List (Str × Addr)} {outer : List Env} {A₀ : Around} {base h₀ : Heap} {L : Addr} {m : Str → Option Value} {news : List (Addr × Obj)} {s : Shared} {Q E : Value → Shared → Prop}
set_option maxHeartbeats 2000000 in
theorem due_ok {pa : Addr} {ws : List Value} {pat : List Int} {c M : Nat} {near tot : Int} {tn tt : Tok} (B : Below A₀ base outer h₀) (F : Fr h₀ L s.heap m) (X : (hd.heap_39 w.params).In h₀) (N : News h₀ L s.heap news) (T : TheTop mean mg mb h₀) (hkf : cs.kind = .function) (hdp : dp + 4 < recursionLimit)
  (hl : (pa, ({ cls := .type "list", data := .seq ws.toArray c } : Obj)) ∈ news) (hi : IntsAre ws pat) (hM : pat.length = 2 * M ∧ 1 ≤ M ∧ M ≤ 3) (h0 : ∀ u ∈ pat, 0 ≤ u) (hs : 0 < pat.sum ∧ pat.sum ≤ 1000) (hnear : 1 ≤ near ∧ near ≤ pat.sum) (hT : 1 ≤ tot ∧ tot ≤ 40)
  (ret : ∀ fl fs c nw h' tk', Fr h₀ L h' m → News h₀ L h' ((fl, { cls := .type "list", data := .seq (List.toArray fs) c }) :: nw) → (∀ p ∈ news, p ∈ nw) → PairsAre nw fs (dueTo pat near tot M ((near + tot) / pat.sum + 1).toNat) → Q (.ref fl) { s with heap := h', toks := tk' }) :
  wpAny (model PySem.Challenge.rw_qd0123_01.row.prog w) (ktrTop dp un gd cn cs L a ccd cl outer) (call (.ref 244) [.ref pa, .int near tn, .int tot tt]) Q E s := by
  revert X
  k_fill
  intro X
  have hwl : ws.length = pat.length := hi.length
  refine wpAny_call ?_
  k_dflt k_enter
  k_steps
  rename_i g1 L1 h1 FG1 B1 X1 T1 _ _ tk1 _ _ _ _ _ _ fl h2 l2 _ _ bg h3 l3 D4 h4 l4 h5 h6 h7 _ _ h8 tk8 t8 u8 v8 R8 F8 N8 k8
  unfold HoldAt
  have hfb : fl < bg := l3 _ (.head _)
  refine hideM F8 ?_; clear F8; intro mF8 F8
  refine iter_rst [Str.ofString "at"] (fun st : DSt => (bg, { cls := .type "list", data := .seq st.fs.toArray st.c }) :: st.nw)
    (fun i st => (∀ p ∈ (fl, listOf #[] 0) :: news, p ∈ st.nw) ∧ (∀ p ∈ st.nw, p.1 ≠ bg) ∧ PairsAre st.nw st.fs (beginsTo pat near i)) ⟨(fl, listOf #[] 0) :: news, [], 0⟩
    rfl R8 (range2_small (by lia) ⟨hM.2.1, by lia⟩) (range2_size (by lia) hM.2.1) F8 (cb_drop N8 (List.forall_mem_cons.mpr ⟨by k_mem, List.forall_mem_cons.mpr ⟨by k_mem, fun q hq => by repeat' (first | exact hq | refine List.mem_cons_of_mem _ ?_ | refine List.mem_append_right _ ?_ | refine lift_sub (by assumption) ?_)⟩⟩)) (fun _ _ => rfl) (by decide)
    ⟨fun _ h => h, fun p hp => Nat.ne_of_lt (l3 p hp), rfl, fun i v h => nomatch h⟩ ?_ ?_
  · intro i t u st9 I oI h9 tk9 hi9 hJ9 off9 hc9 F9 N9
    clear F8 N8 R8 k8
    with_reducible show wpAny _ _ _ _ _ _
    k_fold
    obtain ⟨nw9, fs9, c9⟩ := st9
    have hs9 := hJ9.1
    have hb9 := hJ9.2.1
    have hp9 := hJ9.2.2
    dsimp only at hs9 hb9 hp9 off9 F9 N9
    refine hideM F9 ?_; clear F9; intro mF9 F9
    have hfs : fs9.length ≤ 400 := by have := hp9.1; have := beginsTo_len pat near i; lia
    k_steps
    rename_i D10 ws10 h10 hI10 hC10 hL10 l10 h11 tk11 t11 t12 D5 h12 l5 h5' nw5 F5 N5 off5 in5 X5
    have hIb : I ≠ bg := fun e => off9 _ (.head _) e.symm
    have e2 : (0 + (i : Int) * 2).toNat = 2 * i := by lia
    have eb : beginAt pat near i = ((pat.take (0 + (i : Int) * 2).toNat).sum - near, pat.getD (0 + (i : Int) * 2).toNat 0) := by unfold beginAt; rw [e2]
    refine EndR.intro ⟨(D5, _) :: nw9, fs9 ++ [.ref D5], c9 + 1⟩ F5 (cb_drop N5 (List.forall_mem_cons.mpr ⟨.tail _ (in5 _ (by k_mem) hIb), List.forall_mem_cons.mpr ⟨.head _, List.forall_mem_cons.mpr ⟨.tail _ (X5 _ _ (.head _) (fun e => absurd (Value.type.inj e) (by decide))), fun p hp => .tail _ (in5 p (by repeat' (first | exact hp | refine List.mem_cons_of_mem _ ?_)) (hb9 p hp))⟩⟩⟩)) ?_
      (fun y hy => by have h1 : y ≠ Str.ofString "at" := fun e => hy (by rw [e]; exact .head _)
                      simp only [mF9, if_neg h1, if_neg hy]) ⟨fun p hp => .tail _ (hs9 p hp), ?_, ?_⟩
    · have hID : I < D5 := l5.2.1
      intro p hp
      rcases List.mem_cons.mp hp with rfl | hp
      · exact fun e => hIb e.symm
      rcases List.mem_cons.mp hp with rfl | hp
      · exact Ne.symm (Nat.ne_of_lt hID)
      · exact off9 p (.tail _ hp)
    · have hbD : bg < D5 := l5.2.2.1
      intro p hp
      rcases List.mem_cons.mp hp with rfl | hp
      · exact Ne.symm (Nat.ne_of_lt hbD)
      · exact hb9 p hp
    · show PairsAre _ _ (beginsTo pat near i ++ [beginAt pat near i])
      rw [eb]
      exact (hp9.sub fun p hp => .tail _ hp).snoc ⟨D5, _, _, _, rfl, .head _⟩
  · rintro u ⟨nw9, fs9, c9⟩ h9 tk9 ⟨hs9, hb9, hp9⟩ F9 N9
    clear F8 N8 R8 k8
    dsimp only at hs9 hb9 hp9 F9 N9 ⊢
    k_steps
    rename_i h10 tk10 t10 h11 tk11 t11 u11 v11 R11 F11 N11 k11
    unfold HoldAt
    have hfm : (fl, listOf #[] 0) ∈ nw9 := hs9 _ (.head _)
    refine hideM F11 ?_; clear F11; intro mF11 F11
    obtain ⟨b2, N2, off2, in2, X2⟩ := split_off N11 (.tail _ hfm) rfl
    have hbg2 : (bg, ({ cls := .type "list", data := .seq fs9.toArray c9 } : Obj)) ∈ b2 := in2 _ (.head _) (Ne.symm (Nat.ne_of_lt hfb))
    have hnews2 : ∀ p ∈ news, p ∈ b2 := fun p hp => in2 p (.tail _ (hs9 p (.tail _ hp))) (Nat.ne_of_lt (l2 p hp))
    have hp2 : PairsAre b2 fs9 (beginsTo pat near M) := (hp9.sub fun p hp => .tail _ hp).filt X2
    clear N11 in2 X2 hfm hs9 hb9 hp9
    have hQ : 0 ≤ (near + tot).fdiv pat.sum := by rw [Int.fdiv_eq_ediv_of_nonneg _ (by lia)]; exact Int.ediv_nonneg (by lia) (by lia)
    have hQ2 := due_turns hs.1 hnear hT
    refine iter_rst [Str.ofString "turn", Str.ofString "begin", Str.ofString "size", Str.ofString "here"] (fun st : DSt => (fl, { cls := .type "list", data := .seq st.fs.toArray st.c }) :: st.nw)
      (fun q st => (∀ p ∈ b2, p ∈ st.nw) ∧ (∀ p ∈ st.nw, p.1 ≠ fl) ∧ PairsAre st.nw st.fs (dueTo pat near tot M q)) ⟨b2, [], 0⟩
      rfl R11 (small_one (by lia) (by lia) (by lia) (by lia)) (range1_size (by lia)) F11 N2 (fun _ _ => rfl) (by decide) ⟨fun _ h => h, off2, rfl, fun i v h => nomatch h⟩ ?_ ?_
    · intro q t12 u12 st13 I oI h13 tk13 hq hJ13 off13 hc13 F13 N13
      clear F11 N2 R11 k11
      with_reducible show wpAny _ _ _ _ _ _
      k_fold
      obtain ⟨nw13, fs13, c13⟩ := st13
      have hs13 := hJ13.1
      have hb13 := hJ13.2.1
      have hp13 := hJ13.2.2
      dsimp only at hs13 hb13 hp13 off13 F13 N13
      k_steps
      unfold HoldAt
      rename Fr _ _ _ _ => F13
      refine hideM F13 ?_; clear F13; intro mF13 F13
      have hfI : fl ≠ I := off13 _ (.head _)
      have hqm : M * q ≤ 126 := by
        have h1 : q ≤ 41 := by lia
        have h2 : M * q ≤ 3 * 41 := Nat.mul_le_mul hM.2.2 h1
        lia
      refine iter_lst [Str.ofString "begin", Str.ofString "size", Str.ofString "here"] (fun st : DSt => (I, oI) :: (fl, { cls := .type "list", data := .seq st.fs.toArray st.c }) :: st.nw)
        (fun i st => (∀ p ∈ b2, p ∈ st.nw) ∧ (∀ p ∈ st.nw, p.1 ≠ fl) ∧ (∀ p ∈ st.nw, p.1 ≠ I) ∧ PairsAre st.nw st.fs (dueTo pat near tot M q ++ dueRow pat near tot q i)) ⟨nw13, fs13, c13⟩
        rfl (fun i st h => .tail _ (.tail _ (h.1 _ hbg2))) F13 N13 (fun _ _ => rfl) ⟨hs13, hb13, fun p hp => off13 p (.tail _ hp), by rw [dueRow, List.append_nil]; exact hp13⟩ ?_ ?_
      · intro i v u15 st15 I2 oI2 h15 tk15 hv15 hJ15 off15 hc15 F15 N15
        clear F13 N13
        with_reducible show wpAny _ _ _ _ _ _
        k_fold
        obtain ⟨nw15, fs15, c15⟩ := st15
        have hs15 := hJ15.1
        have hb15 := hJ15.2.1
        have hi15 := hJ15.2.2.1
        have hp15 := hJ15.2.2.2
        dsimp only at hs15 hb15 hi15 hp15 off15 F15 N15
        refine hideM F15 ?_; clear F15; intro mF15 F15
        have hv16 : fs9[i]? = some v := by simpa using hv15
        have hiM : i < M := by
          have h1 := (List.getElem?_eq_some_iff.mp hv16).1
          have h2 := hp2.1
          rw [beginsTo_len] at h2
          lia
        obtain ⟨be, hbe, Tb, tb1, tb2, nb, rfl, hmb⟩ := hp2.2 i v hv16
        have hbe2 : be = beginAt pat near i := by rw [beginsTo_get pat near M i hiM] at hbe; exact (Option.some.inj hbe).symm
        have hmb' := hs15 _ hmb
        have hfs : fs15.length ≤ 400 := by
          have h1 := hp15.1
          have h2 := dueTo_len pat near tot M q
          have h3 := dueRow_len pat near tot q i
          rw [List.length_append] at h1
          lia
        k_steps
        · rename_i D17 h17 l17 h18 nw17 F17 N17 off17 in17 X17
          rename be.1 + (0 + (q : Int) * 1) * pat.sum < tot => ha1
          rename 0 ≤ be.1 + (0 + (q : Int) * 1) * pat.sum => ha2
          have eH : (beginAt pat near i).1 + (q : Int) * pat.sum = be.1 + (0 + (q : Int) * 1) * pat.sum := by rw [← hbe2, Int.mul_one, Int.zero_add]
          have hone : dueOne tot ((beginAt pat near i).1 + (q : Int) * pat.sum) (beginAt pat near i).2 = [(if 0 > be.1 + (0 + (q : Int) * 1) * pat.sum then 0 else be.1 + (0 + (q : Int) * 1) * pat.sum, if tot < be.1 + (0 + (q : Int) * 1) * pat.sum + be.2 then tot else be.1 + (0 + (q : Int) * 1) * pat.sum + be.2)] := by
            rw [eH, ← hbe2]
            exact dueOne_yes (Sz := be.2) ha1 (.inl ha2)
          have hI2 : I2 ≠ fl := fun e => off15 _ (.tail _ (.head _)) e.symm
          have hI1 : I ≠ fl := fun e => off13 _ (.head _) e.symm
          refine EndR.intro ⟨(D17, _) :: nw15, fs15 ++ [.ref D17], c15 + 1⟩ F17 (cb_drop N17 (List.forall_mem_cons.mpr ⟨.tail _ (in17 _ (by k_mem) hI2), List.forall_mem_cons.mpr ⟨.tail _ (in17 _ (by k_mem) hI1), List.forall_mem_cons.mpr ⟨.head _, List.forall_mem_cons.mpr ⟨.tail _ (X17 _ _ (.head _) (fun e => absurd (Value.type.inj e) (by decide))), fun p hp => .tail _ (in17 p (by repeat' (first | exact hp | refine List.mem_cons_of_mem _ ?_)) (hb15 p hp))⟩⟩⟩⟩)) ?_
            (fun y hy => by
            have h1 : y ≠ Str.ofString "begin" := fun e => hy (by rw [e]; exact .head _)
            have h2 : y ≠ Str.ofString "size" := fun e => hy (by rw [e]; exact .tail _ (.head _))
            have h3 : y ≠ Str.ofString "here" := fun e => hy (by rw [e]; exact .tail _ (.tail _ (.head _)))
            simp only [mF15, if_neg h1, if_neg h2, if_neg h3, if_neg hy]) ⟨fun p hp => .tail _ (hs15 p hp), ?_, ?_, ?_⟩
          · have hID : I2 < D17 := l17.1
            intro p hp
            rcases List.mem_cons.mp hp with rfl | hp
            · exact off15 _ (.head _)
            rcases List.mem_cons.mp hp with rfl | hp
            · exact fun e => hI2 e.symm
            rcases List.mem_cons.mp hp with rfl | hp
            · exact Ne.symm (Nat.ne_of_lt hID)
            · exact off15 p (.tail _ (.tail _ hp))
          · have hbD : fl < D17 := l17.2.2.1
            intro p hp
            rcases List.mem_cons.mp hp with rfl | hp
            · exact Ne.symm (Nat.ne_of_lt hbD)
            · exact hb15 p hp
          · have hbD : I < D17 := l17.2.1
            intro p hp
            rcases List.mem_cons.mp hp with rfl | hp
            · exact Ne.symm (Nat.ne_of_lt hbD)
            · exact hi15 p hp
          · show PairsAre _ _ (dueTo pat near tot M q ++ (dueRow pat near tot q i ++ dueOne tot ((beginAt pat near i).1 + (q : Int) * pat.sum) (beginAt pat near i).2))
            rw [hone, ← List.append_assoc]
            exact (hp15.sub fun p hp => .tail _ hp).snoc ⟨D17, _, _, _, rfl, .head _⟩
        · rename_i D17 h17 l17 h18 nw17 F17 N17 off17 in17 X17
          rename be.1 + (0 + (q : Int) * 1) * pat.sum < tot => ha1
          rename 0 < be.1 + (0 + (q : Int) * 1) * pat.sum + be.2 => ha2
          have eH : (beginAt pat near i).1 + (q : Int) * pat.sum = be.1 + (0 + (q : Int) * 1) * pat.sum := by rw [← hbe2, Int.mul_one, Int.zero_add]
          have hone : dueOne tot ((beginAt pat near i).1 + (q : Int) * pat.sum) (beginAt pat near i).2 = [(if 0 > be.1 + (0 + (q : Int) * 1) * pat.sum then 0 else be.1 + (0 + (q : Int) * 1) * pat.sum, if tot < be.1 + (0 + (q : Int) * 1) * pat.sum + be.2 then tot else be.1 + (0 + (q : Int) * 1) * pat.sum + be.2)] := by
            rw [eH, ← hbe2]
            exact dueOne_yes (Sz := be.2) ha1 (.inr ha2)
          have hI2 : I2 ≠ fl := fun e => off15 _ (.tail _ (.head _)) e.symm
          have hI1 : I ≠ fl := fun e => off13 _ (.head _) e.symm
          refine EndR.intro ⟨(D17, _) :: nw15, fs15 ++ [.ref D17], c15 + 1⟩ F17 (cb_drop N17 (List.forall_mem_cons.mpr ⟨.tail _ (in17 _ (by k_mem) hI2), List.forall_mem_cons.mpr ⟨.tail _ (in17 _ (by k_mem) hI1), List.forall_mem_cons.mpr ⟨.head _, List.forall_mem_cons.mpr ⟨.tail _ (X17 _ _ (.head _) (fun e => absurd (Value.type.inj e) (by decide))), fun p hp => .tail _ (in17 p (by repeat' (first | exact hp | refine List.mem_cons_of_mem _ ?_)) (hb15 p hp))⟩⟩⟩⟩)) ?_
            (fun y hy => by
            have h1 : y ≠ Str.ofString "begin" := fun e => hy (by rw [e]; exact .head _)
            have h2 : y ≠ Str.ofString "size" := fun e => hy (by rw [e]; exact .tail _ (.head _))
            have h3 : y ≠ Str.ofString "here" := fun e => hy (by rw [e]; exact .tail _ (.tail _ (.head _)))
            simp only [mF15, if_neg h1, if_neg h2, if_neg h3, if_neg hy]) ⟨fun p hp => .tail _ (hs15 p hp), ?_, ?_, ?_⟩
          · have hID : I2 < D17 := l17.1
            intro p hp
            rcases List.mem_cons.mp hp with rfl | hp
            · exact off15 _ (.head _)
            rcases List.mem_cons.mp hp with rfl | hp
            · exact fun e => hI2 e.symm
            rcases List.mem_cons.mp hp with rfl | hp
            · exact Ne.symm (Nat.ne_of_lt hID)
            · exact off15 p (.tail _ (.tail _ hp))
          · have hbD : fl < D17 := l17.2.2.1
            intro p hp
            rcases List.mem_cons.mp hp with rfl | hp
            · exact Ne.symm (Nat.ne_of_lt hbD)
            · exact hb15 p hp
          · have hbD : I < D17 := l17.2.1
            intro p hp
            rcases List.mem_cons.mp hp with rfl | hp
            · exact Ne.symm (Nat.ne_of_lt hbD)
            · exact hi15 p hp
          · show PairsAre _ _ (dueTo pat near tot M q ++ (dueRow pat near tot q i ++ dueOne tot ((beginAt pat near i).1 + (q : Int) * pat.sum) (beginAt pat near i).2))
            rw [hone, ← List.append_assoc]
            exact (hp15.sub fun p hp => .tail _ hp).snoc ⟨D17, _, _, _, rfl, .head _⟩
        · rename ¬ 0 ≤ be.1 + (0 + (q : Int) * 1) * pat.sum => ha2
          rename ¬ 0 < be.1 + (0 + (q : Int) * 1) * pat.sum + be.2 => ha3
          have eH : (beginAt pat near i).1 + (q : Int) * pat.sum = be.1 + (0 + (q : Int) * 1) * pat.sum := by rw [← hbe2, Int.mul_one, Int.zero_add]
          have hone : dueOne tot ((beginAt pat near i).1 + (q : Int) * pat.sum) (beginAt pat near i).2 = [] := by
            rw [eH, ← hbe2]
            exact dueOne_no (fun h => h.2.elim ha2 ha3)
          refine EndR.intro ⟨nw15, fs15, c15⟩ (by assumption) (by assumption) off15
            (fun y hy => by
            have h1 : y ≠ Str.ofString "begin" := fun e => hy (by rw [e]; exact .head _)
            have h2 : y ≠ Str.ofString "size" := fun e => hy (by rw [e]; exact .tail _ (.head _))
            have h3 : y ≠ Str.ofString "here" := fun e => hy (by rw [e]; exact .tail _ (.tail _ (.head _)))
            simp only [mF15, if_neg h1, if_neg h2, if_neg h3, if_neg hy]) ⟨hs15, hb15, hi15, ?_⟩
          show PairsAre _ _ (dueTo pat near tot M q ++ (dueRow pat near tot q i ++ dueOne tot ((beginAt pat near i).1 + (q : Int) * pat.sum) (beginAt pat near i).2))
          rw [hone, List.append_nil]
          exact hp15
        · rename ¬ be.1 + (0 + (q : Int) * 1) * pat.sum < tot => ha1
          have eH : (beginAt pat near i).1 + (q : Int) * pat.sum = be.1 + (0 + (q : Int) * 1) * pat.sum := by rw [← hbe2, Int.mul_one, Int.zero_add]
          have hone : dueOne tot ((beginAt pat near i).1 + (q : Int) * pat.sum) (beginAt pat near i).2 = [] := by
            rw [eH, ← hbe2]
            exact dueOne_no (fun h => ha1 h.1)
          refine EndR.intro ⟨nw15, fs15, c15⟩ (by assumption) (by assumption) off15
            (fun y hy => by
            have h1 : y ≠ Str.ofString "begin" := fun e => hy (by rw [e]; exact .head _)
            have h2 : y ≠ Str.ofString "size" := fun e => hy (by rw [e]; exact .tail _ (.head _))
            have h3 : y ≠ Str.ofString "here" := fun e => hy (by rw [e]; exact .tail _ (.tail _ (.head _)))
            simp only [mF15, if_neg h1, if_neg h2, if_neg h3, if_neg hy]) ⟨hs15, hb15, hi15, ?_⟩
          show PairsAre _ _ (dueTo pat near tot M q ++ (dueRow pat near tot q i ++ dueOne tot ((beginAt pat near i).1 + (q : Int) * pat.sum) (beginAt pat near i).2))
          rw [hone, List.append_nil]
          exact hp15
      · rintro u15 ⟨nw15, fs15, c15⟩ h15 tk15 ⟨hs15, hb15, hi15, hp15⟩ F15 N15
        clear F13 N13
        dsimp only at hs15 hb15 hi15 hp15 F15 N15 ⊢
        have hszM : fs9.toArray.size = M := by rw [List.size_toArray, hp2.1, beginsTo_len]
        rw [hszM] at hp15
        k_steps
        refine EndR.intro ⟨nw15, fs15, c15⟩ (by assumption) (by assumption) ?_ ?_ ⟨hs15, hb15, hp15⟩
        · intro p hp
          rcases List.mem_cons.mp hp with rfl | hp
          · exact hfI
          · exact hi15 p hp
        · intro y hy
          have h0' : y ≠ Str.ofString "turn" := fun e => hy (by rw [e]; exact .head _)
          have h1 : y ∉ [Str.ofString "begin", Str.ofString "size", Str.ofString "here"] := fun e => hy (.tail _ e)
          simp only [mF13, if_neg h0', if_neg h1, if_neg hy]
    · rintro u12 ⟨nw13, fs13, c13⟩ h13 tk13 ⟨hs13, hb13, hp13⟩ F13 N13
      clear F11 N2 R11 k11
      dsimp only at hs13 hb13 hp13 F13 N13 ⊢
      k_steps
      rw [Int.fdiv_eq_ediv_of_nonneg _ (by lia)] at hp13
      exact ret fl fs13 c13 nw13 _ _ (by assumption) (by assumption) (fun p hp => hs13 p (hnews2 p hp)) hp13
end
theorem fresh18 : True := by
  w_top off
  k_with_none
  k_with "enter K" => (first | assumption | exact rfl)
  k_with "enter binds" => (first | exact BindsTo.of_eq rfl | exact binds_K (by k_in) rfl (by k_is) rfl rfl rfl | fail "k_enter: no rule for these arguments")
  k_with "room" => (first | ((try simp only [depth_under_make, depth_under_kw, depth_in1, depth_deeper, depth_caller]); (try dsimp only [ktrTop]); lia) | ((try simp only [depth_under_make, depth_under_kw, depth_in1, depth_deeper, depth_caller]); decide))
  k_with "enter" => (refine' code_defC (by k_asm) (by k_asm) (by k_asm) (by k_asm) (by k_asm) (by exact rfl) (by exact rfl) (by walk_at "enter K") (by k_is) (by k_is) (by k_room) (by walk_at "enter binds") (by exact rfl) (by decide +kernel) ?_ (by exact rfl) (by exact rfl) (by exact rfl); k_whole; intro _ _ _ _ _ _ _; intro N' Y' B'; (try k_lift B'); revert B'; intro _ _ _; intro l1; (try k_lt l1); revert l1; intro _; k_cells Y'; (try simp only [List.cons_append, List.nil_append] at N'); revert N'; intro _; (try dsimp only); (try k_fold))
  k_with "enter" => (refine' code_def (by k_asm) (by k_asm) (by k_asm) (by k_asm) (by k_asm) (by exact rfl) (by exact rfl) (by walk_at "enter K") (by k_is) (by k_is) (by k_room) (by walk_at "enter binds") (by exact locs rfl) ?_ (by exact rfl) (by exact rfl) (by exact rfl) ?_; rotate_left; decide; k_whole; intro _ _ _ _ _ _; intro B'; (try k_lift B'); revert B'; intro _ _ _; (try dsimp only); (try k_fold))
  k_with "binaryOp Pow int int" => (with_reducible refine pow_int_small ?_ ?_ ?_ ?_; (first | decide | lia); (first | decide | lia); decide)
  k_with "rel" => (first | exact List.Mem.head _ | (refine' List.mem_cons_of_mem _ ?_; ktr_rel) | ktr_member | (refine' List.mem_append_right _ ?_; ktr_rel) | (refine' lift_sub (by assumption) ?_; ktr_rel))
  k_with "ite" => (k_dflt (first | refine ite_pos (by (simp only [beq_iff_eq, bne_iff_ne, decide_eq_true_eq, ne_eq]); lia) ?_ | refine ite_neg (by (simp only [beq_iff_eq, bne_iff_ne, decide_eq_true_eq, ne_eq]); lia) ?_))
  k_with "eval Call" => (k_fold)
  k_with "exec Assign" => (k_fold)
  k_with "eval BinOp" => (k_fold)
  k_with "isTrue BoolOp" => (k_fold)
  k_with "isTrue Compare" => (k_fold)
  k_with "eval Compare" => (k_fold)
  k_with "eval Tuple" => (k_fold)
  k_with "eval List" => (k_fold)
  k_with "eval Subscript" => (k_fold)
  k_with "exec Expr" => (k_fold)
  k_with "exec If" => (k_fold)
  k_with "exec Return" => (k_fold)
  k_with "eval Call Attribute" => (k_fold)
  k_with "do K" => (first | assumption | exact rfl)
  k_with "do tails" => (exact fun q hq => by repeat' (first | exact hq | refine List.mem_cons_of_mem _ ?_ | refine List.mem_append_right _ ?_ | refine lift_sub (by assumption) ?_))
  k_with "do dec" => (first | assumption | exact Dec.sub (by assumption) (fun q hq => by repeat' (first | exact hq | refine List.mem_cons_of_mem _ ?_ | refine List.mem_append_right _ ?_ | refine lift_sub (by assumption) ?_)) | exact ⟨_, _, by k_mem, by k_mem, by assumption⟩ | exact ⟨_, _, by k_mem, by k_mem, ⟨_, _, _, _, _, _, rfl, by assumption⟩⟩ | exact ⟨_, _, by k_mem, by k_mem, decO_whole⟩)
  k_with "do newdec" => (intro _ _ _ _ _ _ _ _ _ _ _ _ _ _; intro l2; (try k_lt2 l2); revert l2; intro _; (try k_sweep))
  k_with "do gotdec" => (intro _ _ _ _ _ _ _ _ _ _ _ _ _ _ _ _ _; (try k_sweep))
  k_with "do mod" => (k_dflt (refine mod_int' (by lia) ?_))
  k_with "do newlist" => (k_here; k_dflt (refine' newList_K (by k_asm) (by k_asm) ?_; k_whole; intro _ _ _ _ _; (try k_sweep)))
  k_with "do for" => (k_here; (with_unfolding_all refine' For_invVF ‹Fr _ _ _ _› (by exact rfl) (by exact rfl) ?_; k_whole))
  k_with "call ref cons nil" => (k_here; (with_reducible show wpAny _ _ (call (Value.ref 155) [Value.int _ _, Value.int _ _]) _ _ _); k_dflt (refine' mk_ok (by k_asm) (by k_asm) (by k_asm) (by k_asm) (by k_asm) (by walk_at "do K") (by k_room) (by first | exact Or.inl rfl | exact Or.inr rfl | assumption | lia) ?_; k_whole; walk_at "do newdec"))
  k_with "do num" => (first | assumption | exact Num.sub (by assumption) (fun q hq => by repeat' (first | exact hq | refine List.mem_cons_of_mem _ ?_ | refine List.mem_append_right _ ?_ | refine lift_sub (by assumption) ?_)) | exact .inl ⟨_, rfl, by walk_at "do dec"⟩ | exact .inr ⟨_, _, rfl, rfl⟩)
  k_with "after dof_num" => (intro _ _ _ _ _ _ _ _ _ _ _ _ _ _ _ _ _ _ _; (try k_sweep))
  k_with "call ref cons nil" => (k_here; (with_reducible show wpAny _ _ (call (Value.ref 173) [_]) _ _ _); k_dflt (refine' dof_num (by k_asm) (by k_asm) (by k_asm) (by k_asm) (by k_asm) (by walk_at "do K") (by k_room) (by walk_at "do num") (by walk_at "do tails") ?_; k_whole; walk_at "after dof_num"))
  k_with "after dof_int" => (intro _ _ _ _ _ _ _ _ _ _ _; intro l2; (try k_lt2 l2); revert l2; intro _; (try k_sweep))
  k_with "call ref cons nil" => (k_here; (with_reducible show wpAny _ _ (call (Value.ref 173) [Value.int _ _]) _ _ _); k_dflt (refine' dof_int (by k_asm) (by k_asm) (by k_asm) (by k_asm) (by k_asm) (by walk_at "do K") (by k_room)  ?_; k_whole; walk_at "after dof_int"))
  k_with "after dof_dec" => (intro _ _ _ _; (try k_sweep))
  k_with "call ref cons nil" => (k_here; (with_reducible show wpAny _ _ (call (Value.ref 173) [Value.ref _]) _ _ _); k_dflt (refine' dof_dec (by k_asm) (by k_asm) (by k_asm) (by k_asm) (by k_asm) (by walk_at "do K") (by k_room) (by walk_at "do dec") ?_; k_whole; walk_at "after dof_dec"))
  k_with "after scale_n" => (intro _ _ _ _ _ _ _ _ _ _ _ _ _; (try k_sweep))
  k_with "call ref cons nil" => (k_here; (with_reducible show wpAny _ _ (call (Value.ref 180) [_, _]) _ _ _); k_dflt (refine' scale_n (by k_asm) (by k_asm) (by k_asm) (by k_asm) (by k_asm) (by walk_at "do K") (by k_room) (by walk_at "do num") (by walk_at "do num") ?_; k_whole; walk_at "after scale_n"))
  k_with "call ref cons nil" => (k_here; (with_reducible show wpAny _ _ (call (Value.ref 82) [Value.ref _, Value.ref _]) _ _ _); k_dflt (refine' plus_ok (by k_asm) (by k_asm) (by k_asm) (by k_asm) (by k_asm) (by walk_at "do K") (by k_room) (by walk_at "do dec") (by walk_at "do dec") ?_; k_whole; walk_at "do newdec"))
  k_with "call ref cons nil" => (k_here; (with_reducible show wpAny _ _ (call (Value.ref 89) [Value.ref _, _]) _ _ _); k_dflt (refine' minus_n (by k_asm) (by k_asm) (by k_asm) (by k_asm) (by k_asm) (by walk_at "do K") (by k_room) (by walk_at "do dec") (by walk_at "do num") ?_; k_whole; walk_at "do newdec"))
  k_with "call ref cons nil" => (k_here; (with_reducible show wpAny _ _ (call (Value.ref 96) [Value.ref _, Value.int _ _]) _ _ _); k_dflt (refine' times_di (by k_asm) (by k_asm) (by k_asm) (by k_asm) (by k_asm) (by walk_at "do K") (by k_room) (by walk_at "do dec") (by first | assumption | lia | (simp only [fm2]; lia) | exact fdiv_bound (by lia) (by lia) (by lia)) ?_; k_whole; walk_at "do newdec"))
  k_with "after cmp_dd" => (intro _ _ _ _ _ _ _; (try k_sweep))
  k_with "call ref cons nil" => (k_here; (with_reducible show wpAny _ _ (call (Value.ref 110) [Value.ref _, Value.ref _]) _ _ _); k_dflt (refine' cmp_dd (by k_asm) (by k_asm) (by k_asm) (by k_asm) (by k_asm) (by walk_at "do K") (by k_room) (by walk_at "do dec") (by walk_at "do dec") ?_; k_whole; walk_at "after cmp_dd"))
  k_with "after told_d" => (intro _ _ _ _ _ _ _ _ _ _ _ _; (try k_sweep))
  k_with "call ref cons nil" => (k_here; (with_reducible show wpAny _ _ (call (Value.ref 138) [Value.ref _]) _ _ _); k_dflt (refine' told_d (by k_asm) (by k_asm) (by k_asm) (by k_asm) (by k_asm) (by walk_at "do K") (by k_room) (by walk_at "do dec") ?_; k_whole; walk_at "after told_d"))
  k_with "do item" => (k_here; (with_reducible show wpAny _ _ (subscriptTail _ _ (Value.ref _) (Value.int _ _)) _ _ _); k_dflt (refine' item_led (by k_asm) (by k_mem) (by first | decide | assumption) (by first | decide | assumption) (by assumption) ?_ (by with_unfolding_all rfl); k_whole))
  k_with "do len" => (k_here; (with_reducible show wpAny _ _ (call (Value.builtin "len") [Value.ref _]) _ _ _); k_dflt (refine' len_led (by k_asm) (by k_mem) (by lia) ?_; k_whole))
  k_with "do decs" => (first | assumption | exact Decs.sub (by assumption) (fun q hq => by repeat' (first | exact hq | refine List.mem_cons_of_mem _ ?_ | refine List.mem_append_right _ ?_ | refine lift_sub (by assumption) ?_)) | exact decs2 (by first | assumption | exact Dec.sub (by assumption) (fun q hq => by repeat' (first | exact hq | refine List.mem_cons_of_mem _ ?_ | refine List.mem_append_right _ ?_ | refine lift_sub (by assumption) ?_)) | exact ⟨_, _, by k_mem, by k_mem, by assumption⟩ | exact ⟨_, _, by k_mem, by k_mem, ⟨_, _, _, _, _, _, rfl, by assumption⟩⟩ | exact ⟨_, _, by k_mem, by k_mem, decO_whole⟩) (by first | assumption | exact Dec.sub (by assumption) (fun q hq => by repeat' (first | exact hq | refine List.mem_cons_of_mem _ ?_ | refine List.mem_append_right _ ?_ | refine lift_sub (by assumption) ?_)) | exact ⟨_, _, by k_mem, by k_mem, by assumption⟩ | exact ⟨_, _, by k_mem, by k_mem, ⟨_, _, _, _, _, _, rfl, by assumption⟩⟩ | exact ⟨_, _, by k_mem, by k_mem, decO_whole⟩))
  k_with "after least_ok" => (intro _ _ _ _ _ _ _ _ _; (try k_sweep))
  k_with "call ref cons nil" => (k_here; (with_reducible show wpAny _ _ (call (Value.ref 199) [Value.ref _]) _ _ _); k_dflt (refine' least_ok (by k_asm) (by k_asm) (by k_asm) (by k_asm) (by k_asm) (by walk_at "do K") (by k_room) (by k_mem) (by walk_at "do decs") (by first | assumption | exact ⟨Nat.le_of_ble_eq_true rfl, Nat.le_of_ble_eq_true rfl⟩ | exact ⟨by lia, by lia⟩) ?_; k_whole; walk_at "after least_ok"))
  k_with "after greatest_ok" => (intro _ _ _ _ _ _ _ _ _; (try k_sweep))
  k_with "call ref cons nil" => (k_here; (with_reducible show wpAny _ _ (call (Value.ref 206) [Value.ref _]) _ _ _); k_dflt (refine' greatest_ok (by k_asm) (by k_asm) (by k_asm) (by k_asm) (by k_asm) (by walk_at "do K") (by k_room) (by k_mem) (by walk_at "do decs") (by first | assumption | exact ⟨Nat.le_of_ble_eq_true rfl, Nat.le_of_ble_eq_true rfl⟩ | exact ⟨by lia, by lia⟩) ?_; k_whole; walk_at "after greatest_ok"))
  k_with "after tops_ok" => (intro _ _ _ _ _ _ _ _ _ _ _ _ _; (try k_sweep))
  k_with "call ref cons nil" => (k_here; (with_reducible show wpAny _ _ (call (Value.ref 185) [Value.ref _]) _ _ _); k_dflt (refine' tops_ok (by k_asm) (by k_asm) (by k_asm) (by k_asm) (by k_asm) (by walk_at "do K") (by k_room) (by k_mem) (by walk_at "do decs") (by first | assumption | exact ⟨by lia, by lia⟩) ?_; k_whole; walk_at "after tops_ok"))
  k_with "call ref cons nil" => (k_here; (with_reducible show wpAny _ _ (call (Value.ref 192) [Value.ref _]) _ _ _); k_dflt (refine' sum_ok (by k_asm) (by k_asm) (by k_asm) (by k_asm) (by k_asm) (by walk_at "do K") (by k_room) (by k_mem) (by walk_at "do decs") (by first | assumption | exact ⟨by lia, by lia⟩) ?_; k_whole; walk_at "do newdec"))
  k_with "do div" => (k_dflt (refine floordiv_int (by lia) ?_ (Or.inl (PyProof.noPylong_small (by lia)))))
  k_with "call ref cons nil" => (k_here; (with_reducible show wpAny _ _ (call (Value.ref 213) [Value.ref _, _]) _ _ _); k_dflt (refine' ahead_n (by k_asm) (by k_asm) (by k_asm) (by k_asm) (by k_asm) (by walk_at "do K") (by k_room) (by k_mem) (by walk_at "do decs") (by first | assumption | exact ⟨by lia, by lia⟩) (by first | assumption | lia) (by walk_at "do num") (by first | assumption | lia) ?_; k_whole; walk_at "do newdec"))
  k_with "call ref cons nil" => (k_here; (with_reducible show wpAny _ _ (call (Value.ref 199) [Value.ref _]) _ _ _); k_dflt (refine' least_pos (by k_asm) (by k_asm) (by k_asm) (by k_asm) (by k_asm) (by walk_at "do K") (by k_room) (by k_mem) (by walk_at "do decs") (by first | assumption | exact ⟨by lia, by lia⟩) (by assumption) ?_; k_whole; walk_at "do gotdec"))
  k_with "call ref cons nil" => (k_here; (with_reducible show wpAny _ _ (call (Value.ref 206) [Value.ref _]) _ _ _); k_dflt (refine' greatest_pos (by k_asm) (by k_asm) (by k_asm) (by k_asm) (by k_asm) (by walk_at "do K") (by k_room) (by k_mem) (by walk_at "do decs") (by first | assumption | exact ⟨by lia, by lia⟩) (by assumption) ?_; k_whole; walk_at "do gotdec"))
  k_with "do compA" => (k_here; k_dflt (refine LCg.Assign_ListComp_U (F₀ := by k_asm) (by rfl) (by with_unfolding_all rfl) (by with_unfolding_all rfl) (by decide) (by rfl) (by decide) (by rfl) (by rfl) (by rfl) ?_))
  k_with "do eq" => (k_here; (with_reducible show wpAny _ _ (compareOp CmpOp.Eq (Value.ref _) (Value.ref _)) _ _ _); k_dflt (refine' eq_nil_led (by k_asm) (by k_mem) (by k_mem) (by lia) (by rfl) (by ((try simp only [units_in1, units_deeper, Around.mark_units]); (try dsimp only [ktrTop]); lia)) ?_; k_whole))
  k_with "do ne" => (k_here; (with_reducible show wpAny _ _ (compareOp CmpOp.NotEq (Value.ref _) (Value.ref _)) _ _ _); k_dflt (refine' ne_nil_led (by k_asm) (by k_mem) (by k_mem) (by lia) (by rfl) (by ((try simp only [units_in1, units_deeper, Around.mark_units]); (try dsimp only [ktrTop]); lia)) ?_; k_whole))
  k_with "do append" => ((k_here; (with_reducible show wpAny _ _ (call (Value.builtin _) [Value.ref _, _]) _ _ _); k_dflt (refine' append_led (by k_asm) (by k_asm) (by k_mem) (by lia) ?_; k_whole; intro _ _ _ _ _ _ _; (try k_sweep))))
  k_with "do div2" => (k_dflt (first | refine floordiv_int (by lia) ?_ (Or.inl (PyProof.noPylong_small (by lia))) | refine floordiv_int (by lia) ?_ (Or.inl (noPy (by lia)))))
  k_with "after take_ok" => (intro _ _ _ _ _ _ _ _ _; intro N'; (try dsimp only at N'); revert N'; intro _ _ _; (try k_sweep))
  k_with "call ref cons nil" => (k_here; (with_reducible show wpAny _ _ (call (Value.ref 230) [Value.ref _, Value.int _ _]) _ _ _); k_dflt (refine' take_ok (by k_asm) (by k_asm) (by k_asm) (by k_asm) (by k_asm) (by walk_at "do K") (by k_room) (by k_updF) (by k_mem) (by first | assumption | k_ne) (by assumption) (by assumption) (by first | assumption | lia) (by first | exact ⟨by decide, by decide⟩ | assumption | lia) ?_; k_whole; walk_at "after take_ok"))
  k_with "after number_ok" => (intro _ _ _ _ _ _ _ _ _ _; intro N'; (try dsimp only at N'); revert N'; intro _ _ _ _; (try k_sweep))
  k_with "call ref cons nil" => (k_here; (with_reducible show wpAny _ _ (call (Value.ref 237) [Value.ref _, Value.int _ _]) _ _ _); k_dflt (refine' number_ok (by k_asm) (by k_asm) (by k_asm) (by k_asm) (by k_asm) (by walk_at "do K") (by k_room) (by k_updF) (by k_mem) (by first | assumption | k_ne) (by assumption) (by assumption) (by first | assumption | lia) ?_; k_whole; walk_at "after number_ok"))
  k_with "do comp" => (k_here; k_dflt (refine LCg.ListComp_U (F₀ := by k_asm) (by with_unfolding_all rfl) (by decide) (by rfl) (by decide) (by rfl) ?_))
  k_with "after source_ok" => (intro _ _ _ _ _ _ _ _ _ _ _ _ _ _ _ _ _ _; (try k_sweep))
  k_with "call ref cons nil" => (k_here; (with_reducible show wpAny _ _ (call (Value.ref 223) [Value.ref _]) _ _ _); k_dflt (refine' source_ok (by k_asm) (by k_asm) (by k_asm) (by k_asm) (by k_asm) (by walk_at "do K") (by k_room) (by assumption) (by assumption) (by assumption) ?_; k_whole; walk_at "after source_ok"))
  k_with "do sum" => ((k_here; (with_reducible show wpAny _ _ (call (Value.builtin "sum") [Value.ref _]) _ _ _); k_dflt (refine' sum_led (by k_asm) (by k_asm) (by with_unfolding_all rfl) (by k_mem) (by assumption) ?_; k_whole; intro _ _ _ _ _; (try k_sweep))))
  k_with "after due_ok" => (intro _ _ _ _ _ _ _ _ _ _)
  k_with "call ref cons nil" => (k_here; (with_reducible show wpAny _ _ (call (Value.ref 244) [Value.ref _, Value.int _ _, Value.int _ _]) _ _ _); k_dflt (refine' due_ok (by k_asm) (by k_asm) (by k_asm) (by k_asm) (by k_asm) (by walk_at "do K") (by k_room) (by k_mem) (by assumption) (by assumption) (by assumption) (by assumption) (by assumption) (by assumption) ?_; k_whole; walk_at "after due_ok"))
  trivial
noncomputable def patOf (ts : List Int) : List Int := if ts.length % 2 = 0 then ts else ts ++ ts
theorem posAt_pat (ts : List Int) (near : Int) (hn : 0 < ts.length) : ∀ k, posAt (patOf ts) near k = posAt ts near k
  | 0 => rfl
  | k + 1 => by
    have ih := posAt_pat ts near hn k
    show posAt (patOf ts) near k + (patOf ts).getD (k % (patOf ts).length) 0 = posAt ts near k + ts.getD (k % ts.length) 0
    rw [ih]
    congr 1
    unfold patOf
    split
    · rfl
    · rw [List.length_append, List.getD_eq_getElem?_getD, List.getD_eq_getElem?_getD]
      have e2 : k % (ts.length + ts.length) % ts.length = k % ts.length := by
        rw [← Nat.two_mul, Nat.mul_comm, Nat.mod_mul_right_mod]
      rcases Nat.lt_or_ge (k % (ts.length + ts.length)) ts.length with h | h
      · rw [List.getElem?_append_left h, ← e2, Nat.mod_eq_of_lt h]
      · have h3 : k % (ts.length + ts.length) < ts.length + ts.length := Nat.mod_lt _ (by lia)
        rw [List.getElem?_append_right h]
        have e3 : k % (ts.length + ts.length) - ts.length = k % ts.length := by
          rw [← e2]
          generalize k % (ts.length + ts.length) = r at h h3
          rw [Nat.mod_eq_sub_mod h, Nat.mod_eq_of_lt (by lia)]
        rw [e3]
theorem spansTo_pat (ts : List Int) (near T : Int) (hn : 0 < ts.length) : ∀ k, spansTo (patOf ts) near T k = spansTo ts near T k
  | 0 => rfl
  | k + 1 => by
    show spansTo (patOf ts) near T k ++ spanAt (patOf ts) near T k = _ ++ spanAt ts near T k
    rw [spansTo_pat ts near T hn k]
    unfold spanAt
    rw [posAt_pat ts near hn k, posAt_pat ts near hn (k + 1)]
/-- the spans with the law's own test -/
noncomputable def spanAt' (ts : List Int) (near T : Int) (k : Nat) : List (Int × Int) := if posAt ts near k < T then spanAt ts near T k else []
noncomputable def spansAll (ts : List Int) (near T : Int) : Nat → List (Int × Int)
  | 0 => []
  | k + 1 => spansAll ts near T k ++ spanAt' ts near T k
theorem spansAll_lo (ts : List Int) (near T : Int) : ∀ K, (∀ j, j < K → posAt ts near j < T) → spansAll ts near T K = spansTo ts near T K
  | 0, _ => rfl
  | K + 1, h => by
    show spansAll ts near T K ++ spanAt' ts near T K = _ ++ _
    rw [spansAll_lo ts near T K fun j hj => h j (Nat.lt_succ_of_lt hj)]
    unfold spanAt'
    rw [if_pos (h K (Nat.lt_succ_self K))]
theorem spansAll_hi {ts : List Int} (h0 : ∀ u ∈ ts, 0 ≤ u) (near T : Int) {K : Nat} (hK : T ≤ posAt ts near K) : ∀ d, spansAll ts near T (K + d) = spansAll ts near T K
  | 0 => rfl
  | d + 1 => by
    show spansAll ts near T (K + d) ++ spanAt' ts near T (K + d) = _
    have h1 := posAt_mono h0 near (Nat.le_add_right K d)
    unfold spanAt'
    rw [if_neg (by lia), List.append_nil]
    exact spansAll_hi h0 near T hK d
theorem row_eq {pat : List Int} {M : Nat} (hM : pat.length = 2 * M) (hM1 : 1 ≤ M) (near T : Int) (q : Nat) : ∀ i, i ≤ M → spansAll pat near T (2 * M * q) ++ dueRow pat near T q i = spansAll pat near T (2 * M * q + 2 * i)
  | 0, _ => by rw [dueRow, List.append_nil]; rfl
  | i + 1, h => by
    have ih := row_eq hM hM1 near T q i (by lia)
    have hp0 := posAt_mul (ts := pat) (by lia) near q
    have hpi := posAt_round (ts := pat) (by lia) near q (2 * i) (by lia)
    have hpj := posAt_round (ts := pat) (by lia) near q (2 * i + 1) (by lia)
    rw [hM] at hp0 hpi hpj
    have e1 : (beginAt pat near i).1 + (q : Int) * pat.sum = posAt pat near (2 * M * q + 2 * i) := by
      show (pat.take (2 * i)).sum - near + _ = _
      lia
    have e2 : (beginAt pat near i).1 + (q : Int) * pat.sum + (beginAt pat near i).2 = posAt pat near (2 * M * q + 2 * i + 1) := by
      have h3 := take_succ_sum pat (2 * i)
      show (pat.take (2 * i)).sum - near + (q : Int) * pat.sum + pat.getD (2 * i) 0 = posAt pat near (2 * M * q + (2 * i + 1))
      lia
    show spansAll pat near T (2 * M * q) ++ (dueRow pat near T q i ++ dueOne T ((beginAt pat near i).1 + q * pat.sum) (beginAt pat near i).2) = spansAll pat near T (2 * M * q + 2 * i) ++ spanAt' pat near T (2 * M * q + 2 * i) ++ spanAt' pat near T (2 * M * q + 2 * i + 1)
    rw [← List.append_assoc, ih]
    have o1 : spanAt' pat near T (2 * M * q + 2 * i + 1) = [] := by
      unfold spanAt' spanAt
      have ho : (2 * M * q + 2 * i + 1) % 2 ≠ 0 := by
        rw [Nat.mul_assoc]; lia
      split
      · rw [if_neg (fun h => ho h.1)]
      · rfl
    have o2 : dueOne T ((beginAt pat near i).1 + q * pat.sum) (beginAt pat near i).2 = spanAt' pat near T (2 * M * q + 2 * i) := by
      unfold dueOne spanAt' spanAt
      rw [e2, e1]
      have he : (2 * M * q + 2 * i) % 2 = 0 := by
        rw [Nat.mul_assoc]; lia
      by_cases ha : posAt pat near (2 * M * q + 2 * i) < T
      · rw [if_pos ha]
        by_cases hb : 0 ≤ posAt pat near (2 * M * q + 2 * i) ∨ 0 < posAt pat near (2 * M * q + 2 * i + 1)
        · rw [if_pos ⟨ha, hb⟩, if_pos ⟨he, hb.symm⟩]
        · rw [if_neg (fun h => hb h.2), if_neg (fun h => hb h.2.symm)]
      · rw [if_neg (fun h => ha h.1), if_neg ha]
    rw [o1, o2, List.append_nil]
theorem due_all {pat : List Int} {M : Nat} (hM : pat.length = 2 * M) (hM1 : 1 ≤ M) (near T : Int) : ∀ q, dueTo pat near T M q = spansAll pat near T (2 * M * q)
  | 0 => rfl
  | q + 1 => by
    show dueTo pat near T M q ++ dueRow pat near T q M = _
    rw [due_all hM hM1 near T q, row_eq hM hM1 near T q M (Nat.le_refl _), Nat.mul_succ]
/-- the plain law: what _law_due reckons is what dash_spans finds -/
theorem due_spans {ts : List Int} {M : Nat} (hn : 0 < ts.length) (hM : (patOf ts).length = 2 * M) (hM1 : 1 ≤ M) (h0 : ∀ u ∈ ts, 0 ≤ u) {near T : Int} (hs : 0 < (patOf ts).sum) (hnear : 1 ≤ near) (hT : 1 ≤ T) {K : Nat} (hK : T ≤ posAt ts near K) (hk : ∀ j, j < K → posAt ts near j < T) :
    dueTo (patOf ts) near T M ((near + T) / (patOf ts).sum + 1).toNat = spansTo ts near T K := by
  have h0' : ∀ u ∈ patOf ts, 0 ≤ u := by
    unfold patOf
    split
    · exact h0
    · intro u hu
      exact (List.mem_append.mp hu).elim (h0 u) (h0 u)
  have hK' : T ≤ posAt (patOf ts) near K := by rw [posAt_pat ts near hn]; exact hK
  have hk' : ∀ j, j < K → posAt (patOf ts) near j < T := fun j hj => by rw [posAt_pat ts near hn]; exact hk j hj
  rw [due_all hM hM1, ← spansTo_pat ts near T hn]
  generalize hQ : ((near + T) / (patOf ts).sum + 1).toNat = Q
  have hQ0 : 0 ≤ (near + T) / (patOf ts).sum := Int.ediv_nonneg (by lia) (by lia)
  have hQ1 : (Q : Int) = (near + T) / (patOf ts).sum + 1 := by lia
  have hfar : T ≤ posAt (patOf ts) near (2 * M * Q) := by
    have h1 := posAt_mul (ts := patOf ts) (by lia) near Q
    rw [hM] at h1
    have h2 : near + T < (Q : Int) * (patOf ts).sum := by
      rw [hQ1]
      exact Int.lt_ediv_add_one_mul_self _ hs
    lia
  have hle : K ≤ 2 * M * Q := by
    rcases Nat.lt_or_ge (2 * M * Q) K with h | h
    · have := hk' _ h
      lia
    · exact h
  obtain ⟨d, hd⟩ := Nat.exists_eq_add_of_le hle
  rw [hd, spansAll_hi h0' near T hK', spansAll_lo _ near T K hk']
theorem fresh19 : True := by
  w_top off
  k_with_none
  k_with "enter K" => (first | assumption | exact rfl)
  k_with "enter binds" => (first | exact BindsTo.of_eq rfl | exact binds_K (by k_in) rfl (by k_is) rfl rfl rfl | fail "k_enter: no rule for these arguments")
  k_with "room" => (first | ((try simp only [depth_under_make, depth_under_kw, depth_in1, depth_deeper, depth_caller]); (try dsimp only [ktrTop]); lia) | ((try simp only [depth_under_make, depth_under_kw, depth_in1, depth_deeper, depth_caller]); decide))
  k_with "enter" => (refine' code_defC (by k_asm) (by k_asm) (by k_asm) (by k_asm) (by k_asm) (by exact rfl) (by exact rfl) (by walk_at "enter K") (by k_is) (by k_is) (by k_room) (by walk_at "enter binds") (by exact rfl) (by decide +kernel) ?_ (by exact rfl) (by exact rfl) (by exact rfl); k_whole; intro _ _ _ _ _ _ _; intro N' Y' B'; (try k_lift B'); revert B'; intro _ _ _; intro l1; (try k_lt l1); revert l1; intro _; k_cells Y'; (try simp only [List.cons_append, List.nil_append] at N'); revert N'; intro _; (try dsimp only); (try k_fold))
  k_with "enter" => (refine' code_def (by k_asm) (by k_asm) (by k_asm) (by k_asm) (by k_asm) (by exact rfl) (by exact rfl) (by walk_at "enter K") (by k_is) (by k_is) (by k_room) (by walk_at "enter binds") (by exact locs rfl) ?_ (by exact rfl) (by exact rfl) (by exact rfl) ?_; rotate_left; decide; k_whole; intro _ _ _ _ _ _; intro B'; (try k_lift B'); revert B'; intro _ _ _; (try dsimp only); (try k_fold))
  k_with "binaryOp Pow int int" => (with_reducible refine pow_int_small ?_ ?_ ?_ ?_; (first | decide | lia); (first | decide | lia); decide)
  k_with "rel" => (first | exact List.Mem.head _ | (refine' List.mem_cons_of_mem _ ?_; ktr_rel) | ktr_member | (refine' List.mem_append_right _ ?_; ktr_rel) | (refine' lift_sub (by assumption) ?_; ktr_rel))
  k_with "ite" => (k_dflt (first | refine ite_pos (by (simp only [beq_iff_eq, bne_iff_ne, decide_eq_true_eq, ne_eq]); lia) ?_ | refine ite_neg (by (simp only [beq_iff_eq, bne_iff_ne, decide_eq_true_eq, ne_eq]); lia) ?_))
  k_with "eval Call" => (k_fold)
  k_with "exec Assign" => (k_fold)
  k_with "eval BinOp" => (k_fold)
  k_with "isTrue BoolOp" => (k_fold)
  k_with "isTrue Compare" => (k_fold)
  k_with "eval Compare" => (k_fold)
  k_with "eval Tuple" => (k_fold)
  k_with "eval List" => (k_fold)
  k_with "eval Subscript" => (k_fold)
  k_with "exec Expr" => (k_fold)
  k_with "exec If" => (k_fold)
  k_with "exec Return" => (k_fold)
  k_with "eval Call Attribute" => (k_fold)
  k_with "do K" => (first | assumption | exact rfl)
  k_with "do tails" => (exact fun q hq => by repeat' (first | exact hq | refine List.mem_cons_of_mem _ ?_ | refine List.mem_append_right _ ?_ | refine lift_sub (by assumption) ?_))
  k_with "do dec" => (first | assumption | exact Dec.sub (by assumption) (fun q hq => by repeat' (first | exact hq | refine List.mem_cons_of_mem _ ?_ | refine List.mem_append_right _ ?_ | refine lift_sub (by assumption) ?_)) | exact ⟨_, _, by k_mem, by k_mem, by assumption⟩ | exact ⟨_, _, by k_mem, by k_mem, ⟨_, _, _, _, _, _, rfl, by assumption⟩⟩ | exact ⟨_, _, by k_mem, by k_mem, decO_whole⟩)
  k_with "do newdec" => (intro _ _ _ _ _ _ _ _ _ _ _ _ _ _; intro l2; (try k_lt2 l2); revert l2; intro _; (try k_sweep))
  k_with "do gotdec" => (intro _ _ _ _ _ _ _ _ _ _ _ _ _ _ _ _ _; (try k_sweep))
  k_with "do mod" => (k_dflt (refine mod_int' (by lia) ?_))
  k_with "do newlist" => (k_here; k_dflt (refine' newList_K (by k_asm) (by k_asm) ?_; k_whole; intro _ _ _ _ _; (try k_sweep)))
  k_with "do for" => (k_here; (with_unfolding_all refine' For_invVF ‹Fr _ _ _ _› (by exact rfl) (by exact rfl) ?_; k_whole))
  k_with "call ref cons nil" => (k_here; (with_reducible show wpAny _ _ (call (Value.ref 155) [Value.int _ _, Value.int _ _]) _ _ _); k_dflt (refine' mk_ok (by k_asm) (by k_asm) (by k_asm) (by k_asm) (by k_asm) (by walk_at "do K") (by k_room) (by first | exact Or.inl rfl | exact Or.inr rfl | assumption | lia) ?_; k_whole; walk_at "do newdec"))
  k_with "do num" => (first | assumption | exact Num.sub (by assumption) (fun q hq => by repeat' (first | exact hq | refine List.mem_cons_of_mem _ ?_ | refine List.mem_append_right _ ?_ | refine lift_sub (by assumption) ?_)) | exact .inl ⟨_, rfl, by walk_at "do dec"⟩ | exact .inr ⟨_, _, rfl, rfl⟩)
  k_with "after dof_num" => (intro _ _ _ _ _ _ _ _ _ _ _ _ _ _ _ _ _ _ _; (try k_sweep))
  k_with "call ref cons nil" => (k_here; (with_reducible show wpAny _ _ (call (Value.ref 173) [_]) _ _ _); k_dflt (refine' dof_num (by k_asm) (by k_asm) (by k_asm) (by k_asm) (by k_asm) (by walk_at "do K") (by k_room) (by walk_at "do num") (by walk_at "do tails") ?_; k_whole; walk_at "after dof_num"))
  k_with "after dof_int" => (intro _ _ _ _ _ _ _ _ _ _ _; intro l2; (try k_lt2 l2); revert l2; intro _; (try k_sweep))
  k_with "call ref cons nil" => (k_here; (with_reducible show wpAny _ _ (call (Value.ref 173) [Value.int _ _]) _ _ _); k_dflt (refine' dof_int (by k_asm) (by k_asm) (by k_asm) (by k_asm) (by k_asm) (by walk_at "do K") (by k_room)  ?_; k_whole; walk_at "after dof_int"))
  k_with "after dof_dec" => (intro _ _ _ _; (try k_sweep))
  k_with "call ref cons nil" => (k_here; (with_reducible show wpAny _ _ (call (Value.ref 173) [Value.ref _]) _ _ _); k_dflt (refine' dof_dec (by k_asm) (by k_asm) (by k_asm) (by k_asm) (by k_asm) (by walk_at "do K") (by k_room) (by walk_at "do dec") ?_; k_whole; walk_at "after dof_dec"))
  k_with "after scale_n" => (intro _ _ _ _ _ _ _ _ _ _ _ _ _; (try k_sweep))
  k_with "call ref cons nil" => (k_here; (with_reducible show wpAny _ _ (call (Value.ref 180) [_, _]) _ _ _); k_dflt (refine' scale_n (by k_asm) (by k_asm) (by k_asm) (by k_asm) (by k_asm) (by walk_at "do K") (by k_room) (by walk_at "do num") (by walk_at "do num") ?_; k_whole; walk_at "after scale_n"))
  k_with "call ref cons nil" => (k_here; (with_reducible show wpAny _ _ (call (Value.ref 82) [Value.ref _, Value.ref _]) _ _ _); k_dflt (refine' plus_ok (by k_asm) (by k_asm) (by k_asm) (by k_asm) (by k_asm) (by walk_at "do K") (by k_room) (by walk_at "do dec") (by walk_at "do dec") ?_; k_whole; walk_at "do newdec"))
  k_with "call ref cons nil" => (k_here; (with_reducible show wpAny _ _ (call (Value.ref 89) [Value.ref _, _]) _ _ _); k_dflt (refine' minus_n (by k_asm) (by k_asm) (by k_asm) (by k_asm) (by k_asm) (by walk_at "do K") (by k_room) (by walk_at "do dec") (by walk_at "do num") ?_; k_whole; walk_at "do newdec"))
  k_with "call ref cons nil" => (k_here; (with_reducible show wpAny _ _ (call (Value.ref 96) [Value.ref _, Value.int _ _]) _ _ _); k_dflt (refine' times_di (by k_asm) (by k_asm) (by k_asm) (by k_asm) (by k_asm) (by walk_at "do K") (by k_room) (by walk_at "do dec") (by first | assumption | lia | (simp only [fm2]; lia) | exact fdiv_bound (by lia) (by lia) (by lia)) ?_; k_whole; walk_at "do newdec"))
  k_with "after cmp_dd" => (intro _ _ _ _ _ _ _; (try k_sweep))
  k_with "call ref cons nil" => (k_here; (with_reducible show wpAny _ _ (call (Value.ref 110) [Value.ref _, Value.ref _]) _ _ _); k_dflt (refine' cmp_dd (by k_asm) (by k_asm) (by k_asm) (by k_asm) (by k_asm) (by walk_at "do K") (by k_room) (by walk_at "do dec") (by walk_at "do dec") ?_; k_whole; walk_at "after cmp_dd"))
  k_with "after told_d" => (intro _ _ _ _ _ _ _ _ _ _ _ _; (try k_sweep))
  k_with "call ref cons nil" => (k_here; (with_reducible show wpAny _ _ (call (Value.ref 138) [Value.ref _]) _ _ _); k_dflt (refine' told_d (by k_asm) (by k_asm) (by k_asm) (by k_asm) (by k_asm) (by walk_at "do K") (by k_room) (by walk_at "do dec") ?_; k_whole; walk_at "after told_d"))
  k_with "do item" => (k_here; (with_reducible show wpAny _ _ (subscriptTail _ _ (Value.ref _) (Value.int _ _)) _ _ _); k_dflt (refine' item_led (by k_asm) (by k_mem) (by first | decide | assumption) (by first | decide | assumption) (by assumption) ?_ (by with_unfolding_all rfl); k_whole))
  k_with "do len" => (k_here; (with_reducible show wpAny _ _ (call (Value.builtin "len") [Value.ref _]) _ _ _); k_dflt (refine' len_led (by k_asm) (by k_mem) (by lia) ?_; k_whole))
  k_with "do decs" => (first | assumption | exact Decs.sub (by assumption) (fun q hq => by repeat' (first | exact hq | refine List.mem_cons_of_mem _ ?_ | refine List.mem_append_right _ ?_ | refine lift_sub (by assumption) ?_)) | exact decs2 (by first | assumption | exact Dec.sub (by assumption) (fun q hq => by repeat' (first | exact hq | refine List.mem_cons_of_mem _ ?_ | refine List.mem_append_right _ ?_ | refine lift_sub (by assumption) ?_)) | exact ⟨_, _, by k_mem, by k_mem, by assumption⟩ | exact ⟨_, _, by k_mem, by k_mem, ⟨_, _, _, _, _, _, rfl, by assumption⟩⟩ | exact ⟨_, _, by k_mem, by k_mem, decO_whole⟩) (by first | assumption | exact Dec.sub (by assumption) (fun q hq => by repeat' (first | exact hq | refine List.mem_cons_of_mem _ ?_ | refine List.mem_append_right _ ?_ | refine lift_sub (by assumption) ?_)) | exact ⟨_, _, by k_mem, by k_mem, by assumption⟩ | exact ⟨_, _, by k_mem, by k_mem, ⟨_, _, _, _, _, _, rfl, by assumption⟩⟩ | exact ⟨_, _, by k_mem, by k_mem, decO_whole⟩))
  k_with "after least_ok" => (intro _ _ _ _ _ _ _ _ _; (try k_sweep))
  k_with "call ref cons nil" => (k_here; (with_reducible show wpAny _ _ (call (Value.ref 199) [Value.ref _]) _ _ _); k_dflt (refine' least_ok (by k_asm) (by k_asm) (by k_asm) (by k_asm) (by k_asm) (by walk_at "do K") (by k_room) (by k_mem) (by walk_at "do decs") (by first | assumption | exact ⟨Nat.le_of_ble_eq_true rfl, Nat.le_of_ble_eq_true rfl⟩ | exact ⟨by lia, by lia⟩) ?_; k_whole; walk_at "after least_ok"))
  k_with "after greatest_ok" => (intro _ _ _ _ _ _ _ _ _; (try k_sweep))
  k_with "call ref cons nil" => (k_here; (with_reducible show wpAny _ _ (call (Value.ref 206) [Value.ref _]) _ _ _); k_dflt (refine' greatest_ok (by k_asm) (by k_asm) (by k_asm) (by k_asm) (by k_asm) (by walk_at "do K") (by k_room) (by k_mem) (by walk_at "do decs") (by first | assumption | exact ⟨Nat.le_of_ble_eq_true rfl, Nat.le_of_ble_eq_true rfl⟩ | exact ⟨by lia, by lia⟩) ?_; k_whole; walk_at "after greatest_ok"))
  k_with "after tops_ok" => (intro _ _ _ _ _ _ _ _ _ _ _ _ _; (try k_sweep))
  k_with "call ref cons nil" => (k_here; (with_reducible show wpAny _ _ (call (Value.ref 185) [Value.ref _]) _ _ _); k_dflt (refine' tops_ok (by k_asm) (by k_asm) (by k_asm) (by k_asm) (by k_asm) (by walk_at "do K") (by k_room) (by k_mem) (by walk_at "do decs") (by first | assumption | exact ⟨by lia, by lia⟩) ?_; k_whole; walk_at "after tops_ok"))
  k_with "call ref cons nil" => (k_here; (with_reducible show wpAny _ _ (call (Value.ref 192) [Value.ref _]) _ _ _); k_dflt (refine' sum_ok (by k_asm) (by k_asm) (by k_asm) (by k_asm) (by k_asm) (by walk_at "do K") (by k_room) (by k_mem) (by walk_at "do decs") (by first | assumption | exact ⟨by lia, by lia⟩) ?_; k_whole; walk_at "do newdec"))
  k_with "do div" => (k_dflt (refine floordiv_int (by lia) ?_ (Or.inl (PyProof.noPylong_small (by lia)))))
  k_with "call ref cons nil" => (k_here; (with_reducible show wpAny _ _ (call (Value.ref 213) [Value.ref _, _]) _ _ _); k_dflt (refine' ahead_n (by k_asm) (by k_asm) (by k_asm) (by k_asm) (by k_asm) (by walk_at "do K") (by k_room) (by k_mem) (by walk_at "do decs") (by first | assumption | exact ⟨by lia, by lia⟩) (by first | assumption | lia) (by walk_at "do num") (by first | assumption | lia) ?_; k_whole; walk_at "do newdec"))
  k_with "call ref cons nil" => (k_here; (with_reducible show wpAny _ _ (call (Value.ref 199) [Value.ref _]) _ _ _); k_dflt (refine' least_pos (by k_asm) (by k_asm) (by k_asm) (by k_asm) (by k_asm) (by walk_at "do K") (by k_room) (by k_mem) (by walk_at "do decs") (by first | assumption | exact ⟨by lia, by lia⟩) (by assumption) ?_; k_whole; walk_at "do gotdec"))
  k_with "call ref cons nil" => (k_here; (with_reducible show wpAny _ _ (call (Value.ref 206) [Value.ref _]) _ _ _); k_dflt (refine' greatest_pos (by k_asm) (by k_asm) (by k_asm) (by k_asm) (by k_asm) (by walk_at "do K") (by k_room) (by k_mem) (by walk_at "do decs") (by first | assumption | exact ⟨by lia, by lia⟩) (by assumption) ?_; k_whole; walk_at "do gotdec"))
  k_with "do compA" => (k_here; k_dflt (refine LCg.Assign_ListComp_U (F₀ := by k_asm) (by rfl) (by with_unfolding_all rfl) (by with_unfolding_all rfl) (by decide) (by rfl) (by decide) (by rfl) (by rfl) (by rfl) ?_))
  k_with "do eq" => (k_here; (with_reducible show wpAny _ _ (compareOp CmpOp.Eq (Value.ref _) (Value.ref _)) _ _ _); k_dflt (refine' eq_nil_led (by k_asm) (by k_mem) (by k_mem) (by lia) (by rfl) (by ((try simp only [units_in1, units_deeper, Around.mark_units]); (try dsimp only [ktrTop]); lia)) ?_; k_whole))
  k_with "do ne" => (k_here; (with_reducible show wpAny _ _ (compareOp CmpOp.NotEq (Value.ref _) (Value.ref _)) _ _ _); k_dflt (refine' ne_nil_led (by k_asm) (by k_mem) (by k_mem) (by lia) (by rfl) (by ((try simp only [units_in1, units_deeper, Around.mark_units]); (try dsimp only [ktrTop]); lia)) ?_; k_whole))
  k_with "do append" => ((k_here; (with_reducible show wpAny _ _ (call (Value.builtin _) [Value.ref _, _]) _ _ _); k_dflt (refine' append_led (by k_asm) (by k_asm) (by k_mem) (by lia) ?_; k_whole; intro _ _ _ _ _ _ _; (try k_sweep))))
  k_with "do div2" => (k_dflt (first | refine floordiv_int (by lia) ?_ (Or.inl (PyProof.noPylong_small (by lia))) | refine floordiv_int (by lia) ?_ (Or.inl (noPy (by lia)))))
  k_with "after take_ok" => (intro _ _ _ _ _ _ _ _ _; intro N'; (try dsimp only at N'); revert N'; intro _ _ _; (try k_sweep))
  k_with "call ref cons nil" => (k_here; (with_reducible show wpAny _ _ (call (Value.ref 230) [Value.ref _, Value.int _ _]) _ _ _); k_dflt (refine' take_ok (by k_asm) (by k_asm) (by k_asm) (by k_asm) (by k_asm) (by walk_at "do K") (by k_room) (by k_updF) (by k_mem) (by first | assumption | k_ne) (by assumption) (by assumption) (by first | assumption | lia) (by first | exact ⟨by decide, by decide⟩ | assumption | lia) ?_; k_whole; walk_at "after take_ok"))
  k_with "after number_ok" => (intro _ _ _ _ _ _ _ _ _ _; intro N'; (try dsimp only at N'); revert N'; intro _ _ _ _; (try k_sweep))
  k_with "call ref cons nil" => (k_here; (with_reducible show wpAny _ _ (call (Value.ref 237) [Value.ref _, Value.int _ _]) _ _ _); k_dflt (refine' number_ok (by k_asm) (by k_asm) (by k_asm) (by k_asm) (by k_asm) (by walk_at "do K") (by k_room) (by k_updF) (by k_mem) (by first | assumption | k_ne) (by assumption) (by assumption) (by first | assumption | lia) ?_; k_whole; walk_at "after number_ok"))
  k_with "do comp" => (k_here; k_dflt (refine LCg.ListComp_U (F₀ := by k_asm) (by with_unfolding_all rfl) (by decide) (by rfl) (by decide) (by rfl) ?_))
  k_with "after source_ok" => (intro _ _ _ _ _ _ _ _ _ _ _ _ _ _ _ _ _ _; (try k_sweep))
  k_with "call ref cons nil" => (k_here; (with_reducible show wpAny _ _ (call (Value.ref 223) [Value.ref _]) _ _ _); k_dflt (refine' source_ok (by k_asm) (by k_asm) (by k_asm) (by k_asm) (by k_asm) (by walk_at "do K") (by k_room) (by assumption) (by assumption) (by assumption) ?_; k_whole; walk_at "after source_ok"))
  k_with "do sum" => ((k_here; (with_reducible show wpAny _ _ (call (Value.builtin "sum") [Value.ref _]) _ _ _); k_dflt (refine' sum_led (by k_asm) (by k_asm) (by with_unfolding_all rfl) (by k_mem) (by assumption) ?_; k_whole; intro _ _ _ _ _; (try k_sweep))))
  k_with "after due_ok" => (intro _ _ _ _ _ _ _ _ _ _)
  k_with "call ref cons nil" => (k_here; (with_reducible show wpAny _ _ (call (Value.ref 244) [Value.ref _, Value.int _ _, Value.int _ _]) _ _ _); k_dflt (refine' due_ok (by k_asm) (by k_asm) (by k_asm) (by k_asm) (by k_asm) (by walk_at "do K") (by k_room) (by k_mem) (by assumption) (by assumption) (by assumption) (by assumption) (by assumption) (by assumption) ?_; k_whole; walk_at "after due_ok"))
  trivial
def ToldIs (news : List (Addr × Obj)) (v : Value) (be : Int × Int) : Prop := ∃ (T r₁ r₂ : Addr) (n n₁ n₂ : Nat) (x₁ p₁ x₂ p₂ : Int) (a₁ b₁ a₂ b₂ : Tok), v = Value.ref T ∧ (T, ({ cls := .type "tuple", data := .seq #[.ref r₁, .ref r₂] n } : Obj)) ∈ news ∧ (r₁, ({ cls := .type "tuple", data := .seq #[.int x₁ a₁, .int p₁ b₁] n₁ } : Obj)) ∈ news ∧ NF x₁ p₁ be.1 ∧ (r₂, ({ cls := .type "tuple", data := .seq #[.int x₂ a₂, .int p₂ b₂] n₂ } : Obj)) ∈ news ∧ NF x₂ p₂ be.2
def ToldsAre (news : List (Addr × Obj)) (vs : List Value) (bes : List (Int × Int)) : Prop := vs.length = bes.length ∧ ∀ (i : Nat) (v : Value), vs[i]? = some v → ∃ be, bes[i]? = some be ∧ ToldIs news v be
theorem ToldIs.of {news : List (Addr × Obj)} {be : Int × Int} {T r₁ r₂ : Addr} {n n₁ n₂ : Nat} {x₁ p₁ x₂ p₂ : Int} {a₁ b₁ a₂ b₂ : Tok} (h1 : (T, ({ cls := .type "tuple", data := .seq #[.ref r₁, .ref r₂] n } : Obj)) ∈ news) (h2 : (r₁, ({ cls := .type "tuple", data := .seq #[.int x₁ a₁, .int p₁ b₁] n₁ } : Obj)) ∈ news) (h3 : NF x₁ p₁ be.1) (h4 : (r₂, ({ cls := .type "tuple", data := .seq #[.int x₂ a₂, .int p₂ b₂] n₂ } : Obj)) ∈ news) (h5 : NF x₂ p₂ be.2) : ToldIs news (.ref T) be :=
  ⟨T, r₁, r₂, n, n₁, n₂, x₁, p₁, x₂, p₂, a₁, b₁, a₂, b₂, rfl, h1, h2, h3, h4, h5⟩
theorem ToldIs.sub {news nw : List (Addr × Obj)} {v : Value} {be : Int × Int} (h : ToldIs news v be) (hs : ∀ p ∈ news, p ∈ nw) : ToldIs nw v be := by
  obtain ⟨T, r₁, r₂, n, n₁, n₂, x₁, p₁, x₂, p₂, a₁, b₁, a₂, b₂, e, h1, h2, h3, h4, h5⟩ := h
  exact e ▸ ToldIs.of (hs _ h1) (hs _ h2) h3 (hs _ h4) h5
theorem ToldIs.filt {all nw : List (Addr × Obj)} {v : Value} {be : Int × Int} (h : ToldIs all v be) (hf : ∀ a o, (a, o) ∈ all → o.cls ≠ .type "list" → (a, o) ∈ nw) : ToldIs nw v be := by
  obtain ⟨T, r₁, r₂, n, n₁, n₂, x₁, p₁, x₂, p₂, a₁, b₁, a₂, b₂, e, h1, h2, h3, h4, h5⟩ := h
  exact e ▸ ToldIs.of (hf _ _ h1 (fun e => absurd (Value.type.inj e) (by decide))) (hf _ _ h2 (fun e => absurd (Value.type.inj e) (by decide))) h3 (hf _ _ h4 (fun e => absurd (Value.type.inj e) (by decide))) h5
theorem ToldsAre.sub {news nw : List (Addr × Obj)} {vs : List Value} {bes : List (Int × Int)} (h : ToldsAre news vs bes) (hs : ∀ p ∈ news, p ∈ nw) : ToldsAre nw vs bes := allG (P := ToldIs news) (P' := ToldIs nw) h fun _ _ hi => hi.sub hs
theorem ToldsAre.snoc {news : List (Addr × Obj)} {vs : List Value} {bes : List (Int × Int)} {v : Value} {be : Int × Int} (h : ToldsAre news vs bes) (hd : ToldIs news v be) : ToldsAre news (vs ++ [v]) (bes ++ [be]) := snocG (P := ToldIs news) h hd
/-- the told pair as data -/
noncomputable def nfd (t : Int) : PyData := if t % 10 = 0 then .tuple [.int (t / 10), .int 0] else .tuple [.int t, .int 1]
noncomputable def toldD (be : Int × Int) : PyData := .tuple [nfd be.1, nfd be.2]
theorem nfd_of {x p t : Int} (h : NF x p t) : nfd t = .tuple [.int x, .int p] := by
  unfold nfd
  rcases h with ⟨rfl, rfl⟩ | ⟨rfl, rfl, h⟩
  · rw [if_pos (by lia), Int.mul_ediv_cancel_left _ (by decide)]
  · rw [if_neg h]
theorem reads_two {h : Heap} {r : Addr} {x p t : Int} {a b : Tok} {n : Nat} (hr : h.get? r = some { cls := .type "tuple", data := .seq #[.int x a, .int p b] n }) (hn : NF x p t) : Reads h (.ref r) (nfd t) [] := by
  rw [nfd_of hn]
  exact Reads.tuple hr rfl rfl (.cons (as := []) (bs := []) (.int _ _) (.cons (as := []) (bs := []) (.int _ _) .nil))
theorem reads_told {h h₀ : Heap} {L : Addr} {news : List (Addr × Obj)} (N : News h₀ L h news) {v : Value} {be : Int × Int} (hv : ToldIs news v be) : Reads h v (toldD be) [] := by
  obtain ⟨T, r₁, r₂, n, n₁, n₂, x₁, p₁, x₂, p₂, a₁, b₁, a₂, b₂, rfl, h1, h2, h3, h4, h5⟩ := hv
  exact Reads.tuple (N _ h1).1 rfl rfl (.cons (as := []) (bs := []) (reads_two (N _ h2).1 h3) (.cons (as := []) (bs := []) (reads_two (N _ h4).1 h5) .nil))
theorem reads_tolds {h h₀ : Heap} {L : Addr} {news : List (Addr × Obj)} (N : News h₀ L h news) : ∀ {vs : List Value} {bes : List (Int × Int)}, ToldsAre news vs bes → ReadsAll h vs (bes.map toldD) []
  | [], [], _ => .nil
  | [], _ :: _, h => nomatch h.1
  | _ :: _, [], h => nomatch h.1
  | v :: vs, be :: bes, h => by
    have h0 : ToldIs news v be := by
      obtain ⟨b', e, hb⟩ := h.2 0 v rfl
      have e' : be = b' := Option.some.inj e
      exact e' ▸ hb
    have hr : ToldsAre news vs bes := ⟨Nat.succ.inj h.1, fun i v hv => h.2 (i + 1) v hv⟩
    exact .cons (as := []) (bs := []) (reads_told N h0) (reads_tolds N hr)
theorem nfd_shape (t : Int) : ∃ x p, nfd t = .tuple [.int x, .int p] := by
  unfold nfd; split
  · exact ⟨_, _, rfl⟩
  · exact ⟨_, _, rfl⟩
theorem told_can (be : Int × Int) : PyData.canLay0 (toldD be) = true := by
  obtain ⟨x, p, e⟩ := nfd_shape be.1
  obtain ⟨y, q, e'⟩ := nfd_shape be.2
  simp [toldD, e, e', PyData.canLay0, PyData.canLayAll0]
theorem told_depth (be : Int × Int) : PyData.depth (toldD be) ≤ 4 := by
  obtain ⟨x, p, e⟩ := nfd_shape be.1
  obtain ⟨y, q, e'⟩ := nfd_shape be.2
  simp [toldD, e, e', PyData.depth, PyData.depthAll]
theorem tolds_can : ∀ bes : List (Int × Int), PyData.canLayAll0 (bes.map toldD) = true
  | [] => by simp [PyData.canLayAll0]
  | be :: r => by simp [PyData.canLayAll0, told_can be, tolds_can r]
theorem tolds_depth : ∀ bes : List (Int × Int), PyData.depthAll (bes.map toldD) ≤ 4
  | [] => by simp [PyData.depthAll]
  | be :: r => by
    have h1 := told_depth be
    have h2 := tolds_depth r
    simp only [List.map_cons, PyData.depthAll]
    lia
theorem tolds_shaped (bes : List (Int × Int)) : SeqAt.shaped (.list (bes.map toldD)) = true := by
  have h1 := tolds_depth bes
  have h2 : PyData.depth (.list (bes.map toldD)) ≤ 64 := by simp only [PyData.depth]; lia
  show (PyData.canLay0 (.list (bes.map toldD)) && decide (PyData.depth (.list (bes.map toldD)) ≤ 64)) = true
  rw [Bool.and_eq_true]
  exact ⟨by simp only [PyData.canLay0]; exact tolds_can bes, decide_eq_true h2⟩
section
variable {prog : Program} {w : World} {A : Around} {E : Value → Shared → Prop} {s : Shared} {env : Env} {h₀ : Heap} {x x₂ : Str} {body : List Stmt}
theorem iter_tup {Q : Flow → Shared → Prop} {l : Addr} {items : Array Value} {c : Nat} {m₀ : Str → Option Value} {news : List (Addr × Obj)} (J : Nat → (Str → Option Value) → List (Addr × Obj) → Prop)
    (hh : A.handled = none) (F : Fr h₀ env.locals s.heap m₀) (N : News h₀ env.locals s.heap news)
    (hJl : ∀ i m nw, J i m nw → (l, ({ cls := .type "tuple", data := .seq items c } : Obj)) ∈ nw) (hj : J 0 m₀ news)
    (turn : ∀ i v m₁ news₁ I oI h tk, items[i]? = some v → J i m₁ news₁ → (∀ p ∈ news₁, p.1 ≠ I) → oI.cls = .type "tuple_iterator" → Fr h₀ env.locals h (fun y => if y = x then some v else m₁ y) → News h₀ env.locals h ((I, oI) :: news₁) →
      wpAny (model prog w) A (execs body env) (TurnPost h₀ env.locals I oI (J (i + 1)) { s with heap := h, toks := tk } Q) E { s with heap := h, toks := tk })
    (done : ∀ m₁ news₁ h tk, J items.size m₁ news₁ → Fr h₀ env.locals h m₁ → News h₀ env.locals h news₁ → Q .next { s with heap := h, toks := tk }) :
    wpAny (model prog w) A (pyIter (.ref l)) (fun it s₂ => LoopAtV prog w A h₀ env x body Q E it s₂) E s := by
  have hm := hJl _ _ _ hj
  have hls : s.heap.IsTuple l items := ⟨_, (N _ hm).1, rfl, _, rfl⟩
  have hlt : l < s.heap.objs.size := Heap.lt_size (N _ hm).1
  have hne : l ≠ s.heap.objs.size := Nat.ne_of_lt hlt
  refine wpAny_pyIter_tuple hls ?_
  have W := Walks.tuple (prog := prog) (w := w) hh s.heap.objs.size l hne items
  refine ⟨_, _, _, items.size, _, _, m₀, news, J, rfl, W, ?_, ?_, ?_, ⟨⟨_, Heap.get?_push_size _ rfl, rfl, rfl⟩, hls.at fun o e => Heap.get?_push_of_some _ e⟩, F.push _, (fun p hp => ⟨Heap.get?_push_of_some _ (N p hp).1, (N p hp).2⟩), hj, ?_, ?_⟩
  · intro hm'
    rcases List.mem_cons.mp hm' with e | hm'
    · exact absurd F.ns.lt (e ▸ Nat.lt_irrefl _)
    · exact (N _ hm).2.1 (List.mem_singleton.mp hm').symm
  · intro b hb
    rw [List.mem_singleton.mp hb]
    exact next_is_new F
  · intro p hp hI
    exact absurd (Heap.lt_size (N p hp).1) ((List.mem_singleton.mp hI) ▸ Nat.lt_irrefl _)
  · rintro i v m₁ news₁ s₁ own ⟨hh', tk', rfl⟩ hin hP hJ hoff hown hget hall hst F₁ N₁
    have hst' := hst.1
    obtain ⟨oI, hoI, hcI, _⟩ := hst'
    have hnew : h₀.get? s.heap.objs.size = none := next_is_new F
    have hmem := hall s.heap.objs.size (List.mem_cons_self ..) hnew _ hoI
    have keep := own_two hown hget hoI (N₁ _ (List.mem_append_right _ (hJl _ _ _ hJ))).1 (J := J (i + 1)) (fun m nw h => hJl _ m nw h)
    refine wpAny_mono (turn i v m₁ news₁ s.heap.objs.size oI hh' tk' hP hJ (fun p hp e => hoff p hp (by rw [e]; exact List.mem_singleton.mpr rfl)) hcI F₁ (turn_in hmem N₁)) (fun f s₂ p => ?_) fun _ _ e => e
    cases f with
    | ret v => exact .ret p
    | brk => exact .brk p
    | next => exact .next (turn_fin keep p)
    | cont => exact .cont (turn_fin keep p)
  · rintro h' tk m' news' F' N' _ hJ
    exact done m' news' h' tk hJ F' N'
theorem ne_tolds {L a b : Addr} {news : List (Addr × Obj)} {vs us : List Value} {c k : Nat} {bes : List (Int × Int)} {Q : Value → Shared → Prop} (N : News h₀ L s.heap news)
    (ha : (a, ({ cls := .type "list", data := .seq vs.toArray c } : Obj)) ∈ news) (hb : (b, ({ cls := .type "list", data := .seq us.toArray k } : Obj)) ∈ news) (hv : ToldsAre news vs bes) (hu : ToldsAre news us bes) (hun : A.units + 64 < cLine)
    (h : Q (.bool false) s) : wpAny (model prog w) A (compareOp .NotEq (.ref a) (.ref b)) Q E s := by
  refine ne_dataH (Reads.list (N _ ha).1 rfl rfl (reads_tolds N hv)) (Reads.list (N _ hb).1 rfl rfl (reads_tolds N hu)) (tolds_shaped bes) (tolds_shaped bes) hun ?_
  rw [SeqAt.eqv_refl _ (Bool.and_eq_true_iff.mp (tolds_shaped bes)).1]
  exact h
def TurnP (prog : Program) (w : World) (A : Around) (s : Shared) (env : Env) (h₀ : Heap) (x x₂ : Str) (L : Addr) (m : Str → Option Value) (elt : Expr) (scope : Scope) (cl : List (Str × Addr)) (S : List (Addr × Obj) → Prop) (J : Nat → List Value → List (Addr × Obj) → Prop) (i : Nat) (ys : List Value) (news : List (Addr × Obj)) (v : Value) : Prop := ∃ (t : Addr) (ot : Obj) (v₁ v₂ : Value) (nt : Nat), v = .ref t ∧ (t, ot) ∈ news ∧ ot.cls = .type "tuple" ∧ ot.data = .seq #[v₁, v₂] nt ∧
      ∀ I oI C oC D m₂ h tk (E' : Value → Shared → Prop), LCg.NsObj oC m₂ → m₂ x = some v₁ → m₂ x₂ = some v₂ → Fr h₀ L h m → News h₀ L h ((I, oI) :: (C, oC) :: (D, LCg.lst ys) :: news) → LCg.Off3 I C D news → ((@Ne Nat I C) ∧ (@Ne Nat I D) ∧ (@Ne Nat C D)) →
      wpAny (model prog w) A (eval elt (compEnvC scope cl C env)) (LCg.CompEnd h₀ L m { s with heap := h, toks := tk } I oI C oC D (LCg.lst ys) S (fun y news' => J (i + 1) (ys ++ [y]) news')) E' { s with heap := h, toks := tk }
theorem TurnP.intro {t : Addr} {ot : Obj} {v₁ v₂ : Value} {nt : Nat} {prog : Program} {w : World} {A : Around} {s : Shared} {env : Env} {h₀ : Heap} {x x₂ : Str} {L : Addr} {m : Str → Option Value} {elt : Expr} {scope : Scope} {cl : List (Str × Addr)} {S : List (Addr × Obj) → Prop} {J : Nat → List Value → List (Addr × Obj) → Prop} {i : Nat} {ys : List Value} {news : List (Addr × Obj)} {v : Value} (e : v = .ref t) (hm : (t, ot) ∈ news) (hc : ot.cls = .type "tuple") (hd : ot.data = .seq #[v₁, v₂] nt)
    (k : ∀ I oI C oC D m₂ h tk (E' : Value → Shared → Prop), LCg.NsObj oC m₂ → m₂ x = some v₁ → m₂ x₂ = some v₂ → Fr h₀ L h m → News h₀ L h ((I, oI) :: (C, oC) :: (D, LCg.lst ys) :: news) → LCg.Off3 I C D news → ((@Ne Nat I C) ∧ (@Ne Nat I D) ∧ (@Ne Nat C D)) →
      wpAny (model prog w) A (eval elt (compEnvC scope cl C env)) (LCg.CompEnd h₀ L m { s with heap := h, toks := tk } I oI C oC D (LCg.lst ys) S (fun y news' => J (i + 1) (ys ++ [y]) news')) E' { s with heap := h, toks := tk }) : TurnP prog w A s env h₀ x x₂ L m elt scope cl S J i ys news v := ⟨t, ot, v₁, v₂, nt, e, hm, hc, hd, k⟩
theorem comp_invP {L : Addr} {m : Str → Option Value} {elt : Expr} {scope : Scope} {cl : List (Str × Addr)} {S : List (Addr × Obj) → Prop} {P : Nat → Value → Prop} {Fin : List Value → List (Addr × Obj) → Prop} {n : Nat} (J : Nat → List Value → List (Addr × Obj) → Prop)
    (turn : ∀ i v ys news, i < n → P i v → J i ys news → TurnP prog w A s env h₀ x x₂ L m elt scope cl S J i ys news v)
    (fin : ∀ ys news, J n ys news → Fin ys news) : ∀ j i ys news, i + j = n → J i ys news → LCp.CompRestP prog w A h₀ L m env elt x x₂ scope cl s S P Fin j i ys news := by
  intro j
  induction j with
  | zero =>
    intro i ys news hi hJ
    have e : i = n := by lia
    subst e
    exact LCp.CompRestP.zero (fin _ _ hJ)
  | succ j ih =>
    intro i ys news hi hJ
    refine LCp.CompRestP.succ ?_
    intro v hv
    obtain ⟨t, ot, v₁, v₂, nt, e, hm, hc, hd, tn⟩ := turn i v ys news (by lia) hv hJ
    refine ⟨t, ot, v₁, v₂, nt, e, hm, hc, hd, ?_⟩
    intro I oI C oC D m₂ h tk E' hC hx hx2 F N off ne
    refine wpAny_mono (tn I oI C oC D m₂ h tk E' hC hx hx2 F N off ne) (fun y s₂ hq => ?_) fun _ _ e => e
    obtain ⟨h', tk', nw, e, F', N', off', hS, r⟩ := hq
    exact ⟨h', tk', nw, e, F', N', off', hS, ih (i + 1) _ _ (by lia) r⟩
end
theorem phase_near {S near : Int} (h : 1 ≤ near ∧ near ≤ S) : S * ((near - 1) / S) - near = -near := by
  rw [Int.ediv_eq_zero_of_lt (by lia) (by lia)]; lia
theorem phase_far {S near k : Int} (h : 1 ≤ near ∧ near ≤ S) : S * ((near + S * k - 1) / S) - (near + S * k) = -near := by
  have e : near + S * k - 1 = near - 1 + S * k := by lia
  rw [e, Int.add_mul_ediv_left _ _ (by lia), Int.ediv_eq_zero_of_lt (by lia) (by lia), Int.zero_add]; lia
theorem far_bound {S near k : Int} (h : 1 ≤ near ∧ near ≤ S) (hS : S ≤ 1000) (hk : 0 ≤ k ∧ k < 1000000000000) : 0 < near + S * k ∧ near + S * k < 2 ^ 50 := by
  have h1 : 0 ≤ S * k := Int.mul_nonneg (by lia) hk.1
  have h2 : S * k ≤ 1000 * k := Int.mul_le_mul_of_nonneg_right hS hk.1
  lia
theorem iter_rtup {prog : Program} {w : World} {A : Around} {E : Value → Shared → Prop} {s : Shared} {env : Env} {h₀ : Heap} {x : Str} {body : List Stmt} {Q : Flow → Shared → Prop} {σ : Type} {l : Addr} {items : Array Value} {c : Nat} {m₀ : Str → Option Value} (xs : List Str) (Led : σ → List (Addr × Obj)) (J : Nat → σ → Prop) (st₀ : σ)
    (hh : A.handled = none) (F : Fr h₀ env.locals s.heap m₀) (hl : ∀ st, (l, ({ cls := .type "tuple", data := .seq items c } : Obj)) ∈ Led st) (N : News h₀ env.locals s.heap (Led st₀)) (hx : x ∈ xs) (hj : J 0 st₀)
    (turn : ∀ i v (u : Str → Option Value) st I oI h tk, items[i]? = some v → J i st → (∀ p ∈ Led st, p.1 ≠ I) → oI.cls = .type "tuple_iterator" → Fr h₀ env.locals h (fun y => if y = x then some v else if y ∈ xs then u y else m₀ y) → News h₀ env.locals h ((I, oI) :: Led st) →
      wpAny (model prog w) A (execs body env) (PostR h₀ env.locals I oI xs m₀ Led (J (i + 1)) { s with heap := h, toks := tk } Q) E { s with heap := h, toks := tk })
    (done : ∀ (u : Str → Option Value) st h tk, J items.size st → Fr h₀ env.locals h (fun y => if y ∈ xs then u y else m₀ y) → News h₀ env.locals h (Led st) → Q .next { s with heap := h, toks := tk }) :
    wpAny (model prog w) A (pyIter (.ref l)) (fun it s₂ => LoopAtV prog w A h₀ env x body Q E it s₂) E s := by
  refine iter_tup (items := items) (c := c) (J := fun i m₁ nw => ∃ st, nw = Led st ∧ J i st ∧ ∀ y, y ∉ xs → m₁ y = m₀ y) hh F N ?_ ⟨st₀, rfl, hj, fun _ _ => rfl⟩ ?_ ?_
  · rintro i m₁ nw ⟨st, rfl, _⟩
    exact hl st
  · rintro i v m₁ nw I oI h tk hi ⟨st, rfl, hJ, h2⟩ off hc F₁ N₁
    rw [ovr h2] at F₁
    exact wpAny_mono (turn i v m₁ st I oI h tk hi hJ off hc F₁ N₁) (fun f s₂ p => endR_turn p) fun _ _ e => e
  · rintro m₁ nw h tk ⟨st, rfl, hJ, h2⟩ F₁ N₁
    rw [ovr h2] at F₁
    exact done m₁ st h tk hJ F₁ N₁
structure SSt where
  rest : Int
  tr : Tok
  pl : Int
  tp : Tok
  c : Nat
theorem fresh20 : True := by
  w_top off
  k_with_none
  k_with "enter K" => (first | assumption | exact rfl)
  k_with "enter binds" => (first | exact BindsTo.of_eq rfl | exact binds_K (by k_in) rfl (by k_is) rfl rfl rfl | fail "k_enter: no rule for these arguments")
  k_with "room" => (first | ((try simp only [depth_under_make, depth_under_kw, depth_in1, depth_deeper, depth_caller]); (try dsimp only [ktrTop]); lia) | ((try simp only [depth_under_make, depth_under_kw, depth_in1, depth_deeper, depth_caller]); decide))
  k_with "enter" => (refine' code_defC (by k_asm) (by k_asm) (by k_asm) (by k_asm) (by k_asm) (by exact rfl) (by exact rfl) (by walk_at "enter K") (by k_is) (by k_is) (by k_room) (by walk_at "enter binds") (by exact rfl) (by decide +kernel) ?_ (by exact rfl) (by exact rfl) (by exact rfl); k_whole; intro _ _ _ _ _ _ _; intro N' Y' B'; (try k_lift B'); revert B'; intro _ _ _; intro l1; (try k_lt l1); revert l1; intro _; k_cells Y'; (try simp only [List.cons_append, List.nil_append] at N'); revert N'; intro _; (try dsimp only); (try k_fold))
  k_with "enter" => (refine' code_def (by k_asm) (by k_asm) (by k_asm) (by k_asm) (by k_asm) (by exact rfl) (by exact rfl) (by walk_at "enter K") (by k_is) (by k_is) (by k_room) (by walk_at "enter binds") (by exact locs rfl) ?_ (by exact rfl) (by exact rfl) (by exact rfl) ?_; rotate_left; decide; k_whole; intro _ _ _ _ _ _; intro B'; (try k_lift B'); revert B'; intro _ _ _; (try dsimp only); (try k_fold))
  k_with "binaryOp Pow int int" => (with_reducible refine pow_int_small ?_ ?_ ?_ ?_; (first | decide | lia); (first | decide | lia); decide)
  k_with "rel" => (first | exact List.Mem.head _ | (refine' List.mem_cons_of_mem _ ?_; ktr_rel) | ktr_member | (refine' List.mem_append_right _ ?_; ktr_rel) | (refine' lift_sub (by assumption) ?_; ktr_rel))
  k_with "ite" => (k_dflt (first | refine ite_pos (by (simp only [beq_iff_eq, bne_iff_ne, decide_eq_true_eq, ne_eq]); lia) ?_ | refine ite_neg (by (simp only [beq_iff_eq, bne_iff_ne, decide_eq_true_eq, ne_eq]); lia) ?_))
  k_with "eval Call" => (k_fold)
  k_with "exec Assign" => (k_fold)
  k_with "eval BinOp" => (k_fold)
  k_with "isTrue BoolOp" => (k_fold)
  k_with "isTrue Compare" => (k_fold)
  k_with "eval Compare" => (k_fold)
  k_with "eval Tuple" => (k_fold)
  k_with "eval List" => (k_fold)
  k_with "eval Subscript" => (k_fold)
  k_with "exec Expr" => (k_fold)
  k_with "exec If" => (k_fold)
  k_with "exec Return" => (k_fold)
  k_with "eval Call Attribute" => (k_fold)
  k_with "do K" => (first | assumption | exact rfl)
  k_with "do tails" => (exact fun q hq => by repeat' (first | exact hq | refine List.mem_cons_of_mem _ ?_ | refine List.mem_append_right _ ?_ | refine lift_sub (by assumption) ?_))
  k_with "do dec" => (first | assumption | exact Dec.sub (by assumption) (fun q hq => by repeat' (first | exact hq | refine List.mem_cons_of_mem _ ?_ | refine List.mem_append_right _ ?_ | refine lift_sub (by assumption) ?_)) | exact ⟨_, _, by k_mem, by k_mem, by assumption⟩ | exact ⟨_, _, by k_mem, by k_mem, ⟨_, _, _, _, _, _, rfl, by assumption⟩⟩ | exact ⟨_, _, by k_mem, by k_mem, decO_whole⟩)
  k_with "do newdec" => (intro _ _ _ _ _ _ _ _ _ _ _ _ _ _; intro l2; (try k_lt2 l2); revert l2; intro _; (try k_sweep))
  k_with "do gotdec" => (intro _ _ _ _ _ _ _ _ _ _ _ _ _ _ _ _ _; (try k_sweep))
  k_with "do mod" => (k_dflt (refine mod_int' (by lia) ?_))
  k_with "do newlist" => (k_here; k_dflt (refine' newList_K (by k_asm) (by k_asm) ?_; k_whole; intro _ _ _ _ _; (try k_sweep)))
  k_with "do for" => (k_here; (with_unfolding_all refine' For_invVF ‹Fr _ _ _ _› (by exact rfl) (by exact rfl) ?_; k_whole))
  k_with "call ref cons nil" => (k_here; (with_reducible show wpAny _ _ (call (Value.ref 155) [Value.int _ _, Value.int _ _]) _ _ _); k_dflt (refine' mk_ok (by k_asm) (by k_asm) (by k_asm) (by k_asm) (by k_asm) (by walk_at "do K") (by k_room) (by first | exact Or.inl rfl | exact Or.inr rfl | assumption | lia) ?_; k_whole; walk_at "do newdec"))
  k_with "do num" => (first | assumption | exact Num.sub (by assumption) (fun q hq => by repeat' (first | exact hq | refine List.mem_cons_of_mem _ ?_ | refine List.mem_append_right _ ?_ | refine lift_sub (by assumption) ?_)) | exact .inl ⟨_, rfl, by walk_at "do dec"⟩ | exact .inr ⟨_, _, rfl, rfl⟩)
  k_with "after dof_num" => (intro _ _ _ _ _ _ _ _ _ _ _ _ _ _ _ _ _ _ _; (try k_sweep))
  k_with "call ref cons nil" => (k_here; (with_reducible show wpAny _ _ (call (Value.ref 173) [_]) _ _ _); k_dflt (refine' dof_num (by k_asm) (by k_asm) (by k_asm) (by k_asm) (by k_asm) (by walk_at "do K") (by k_room) (by walk_at "do num") (by walk_at "do tails") ?_; k_whole; walk_at "after dof_num"))
  k_with "after dof_int" => (intro _ _ _ _ _ _ _ _ _ _ _; intro l2; (try k_lt2 l2); revert l2; intro _; (try k_sweep))
  k_with "call ref cons nil" => (k_here; (with_reducible show wpAny _ _ (call (Value.ref 173) [Value.int _ _]) _ _ _); k_dflt (refine' dof_int (by k_asm) (by k_asm) (by k_asm) (by k_asm) (by k_asm) (by walk_at "do K") (by k_room)  ?_; k_whole; walk_at "after dof_int"))
  k_with "after dof_dec" => (intro _ _ _ _; (try k_sweep))
  k_with "call ref cons nil" => (k_here; (with_reducible show wpAny _ _ (call (Value.ref 173) [Value.ref _]) _ _ _); k_dflt (refine' dof_dec (by k_asm) (by k_asm) (by k_asm) (by k_asm) (by k_asm) (by walk_at "do K") (by k_room) (by walk_at "do dec") ?_; k_whole; walk_at "after dof_dec"))
  k_with "after scale_n" => (intro _ _ _ _ _ _ _ _ _ _ _ _ _; (try k_sweep))
  k_with "call ref cons nil" => (k_here; (with_reducible show wpAny _ _ (call (Value.ref 180) [_, _]) _ _ _); k_dflt (refine' scale_n (by k_asm) (by k_asm) (by k_asm) (by k_asm) (by k_asm) (by walk_at "do K") (by k_room) (by walk_at "do num") (by walk_at "do num") ?_; k_whole; walk_at "after scale_n"))
  k_with "call ref cons nil" => (k_here; (with_reducible show wpAny _ _ (call (Value.ref 82) [Value.ref _, Value.ref _]) _ _ _); k_dflt (refine' plus_ok (by k_asm) (by k_asm) (by k_asm) (by k_asm) (by k_asm) (by walk_at "do K") (by k_room) (by walk_at "do dec") (by walk_at "do dec") ?_; k_whole; walk_at "do newdec"))
  k_with "call ref cons nil" => (k_here; (with_reducible show wpAny _ _ (call (Value.ref 89) [Value.ref _, _]) _ _ _); k_dflt (refine' minus_n (by k_asm) (by k_asm) (by k_asm) (by k_asm) (by k_asm) (by walk_at "do K") (by k_room) (by walk_at "do dec") (by walk_at "do num") ?_; k_whole; walk_at "do newdec"))
  k_with "call ref cons nil" => (k_here; (with_reducible show wpAny _ _ (call (Value.ref 96) [Value.ref _, Value.int _ _]) _ _ _); k_dflt (refine' times_di (by k_asm) (by k_asm) (by k_asm) (by k_asm) (by k_asm) (by walk_at "do K") (by k_room) (by walk_at "do dec") (by first | assumption | lia | (simp only [fm2]; lia) | exact fdiv_bound (by lia) (by lia) (by lia)) ?_; k_whole; walk_at "do newdec"))
  k_with "after cmp_dd" => (intro _ _ _ _ _ _ _; (try k_sweep))
  k_with "call ref cons nil" => (k_here; (with_reducible show wpAny _ _ (call (Value.ref 110) [Value.ref _, Value.ref _]) _ _ _); k_dflt (refine' cmp_dd (by k_asm) (by k_asm) (by k_asm) (by k_asm) (by k_asm) (by walk_at "do K") (by k_room) (by walk_at "do dec") (by walk_at "do dec") ?_; k_whole; walk_at "after cmp_dd"))
  k_with "after told_d" => (intro _ _ _ _ _ _ _ _ _ _ _ _; (try k_sweep))
  k_with "call ref cons nil" => (k_here; (with_reducible show wpAny _ _ (call (Value.ref 138) [Value.ref _]) _ _ _); k_dflt (refine' told_d (by k_asm) (by k_asm) (by k_asm) (by k_asm) (by k_asm) (by walk_at "do K") (by k_room) (by walk_at "do dec") ?_; k_whole; walk_at "after told_d"))
  k_with "do item" => (k_here; (with_reducible show wpAny _ _ (subscriptTail _ _ (Value.ref _) (Value.int _ _)) _ _ _); k_dflt (refine' item_led (by k_asm) (by k_mem) (by first | decide | assumption) (by first | decide | assumption) (by assumption) ?_ (by with_unfolding_all rfl); k_whole))
  k_with "do len" => (k_here; (with_reducible show wpAny _ _ (call (Value.builtin "len") [Value.ref _]) _ _ _); k_dflt (refine' len_led (by k_asm) (by k_mem) (by lia) ?_; k_whole))
  k_with "do decs" => (first | assumption | exact Decs.sub (by assumption) (fun q hq => by repeat' (first | exact hq | refine List.mem_cons_of_mem _ ?_ | refine List.mem_append_right _ ?_ | refine lift_sub (by assumption) ?_)) | exact decs2 (by first | assumption | exact Dec.sub (by assumption) (fun q hq => by repeat' (first | exact hq | refine List.mem_cons_of_mem _ ?_ | refine List.mem_append_right _ ?_ | refine lift_sub (by assumption) ?_)) | exact ⟨_, _, by k_mem, by k_mem, by assumption⟩ | exact ⟨_, _, by k_mem, by k_mem, ⟨_, _, _, _, _, _, rfl, by assumption⟩⟩ | exact ⟨_, _, by k_mem, by k_mem, decO_whole⟩) (by first | assumption | exact Dec.sub (by assumption) (fun q hq => by repeat' (first | exact hq | refine List.mem_cons_of_mem _ ?_ | refine List.mem_append_right _ ?_ | refine lift_sub (by assumption) ?_)) | exact ⟨_, _, by k_mem, by k_mem, by assumption⟩ | exact ⟨_, _, by k_mem, by k_mem, ⟨_, _, _, _, _, _, rfl, by assumption⟩⟩ | exact ⟨_, _, by k_mem, by k_mem, decO_whole⟩))
  k_with "after least_ok" => (intro _ _ _ _ _ _ _ _ _; (try k_sweep))
  k_with "call ref cons nil" => (k_here; (with_reducible show wpAny _ _ (call (Value.ref 199) [Value.ref _]) _ _ _); k_dflt (refine' least_ok (by k_asm) (by k_asm) (by k_asm) (by k_asm) (by k_asm) (by walk_at "do K") (by k_room) (by k_mem) (by walk_at "do decs") (by first | assumption | exact ⟨Nat.le_of_ble_eq_true rfl, Nat.le_of_ble_eq_true rfl⟩ | exact ⟨by lia, by lia⟩) ?_; k_whole; walk_at "after least_ok"))
  k_with "after greatest_ok" => (intro _ _ _ _ _ _ _ _ _; (try k_sweep))
  k_with "call ref cons nil" => (k_here; (with_reducible show wpAny _ _ (call (Value.ref 206) [Value.ref _]) _ _ _); k_dflt (refine' greatest_ok (by k_asm) (by k_asm) (by k_asm) (by k_asm) (by k_asm) (by walk_at "do K") (by k_room) (by k_mem) (by walk_at "do decs") (by first | assumption | exact ⟨Nat.le_of_ble_eq_true rfl, Nat.le_of_ble_eq_true rfl⟩ | exact ⟨by lia, by lia⟩) ?_; k_whole; walk_at "after greatest_ok"))
  k_with "after tops_ok" => (intro _ _ _ _ _ _ _ _ _ _ _ _ _; (try k_sweep))
  k_with "call ref cons nil" => (k_here; (with_reducible show wpAny _ _ (call (Value.ref 185) [Value.ref _]) _ _ _); k_dflt (refine' tops_ok (by k_asm) (by k_asm) (by k_asm) (by k_asm) (by k_asm) (by walk_at "do K") (by k_room) (by k_mem) (by walk_at "do decs") (by first | assumption | exact ⟨by lia, by lia⟩) ?_; k_whole; walk_at "after tops_ok"))
  k_with "call ref cons nil" => (k_here; (with_reducible show wpAny _ _ (call (Value.ref 192) [Value.ref _]) _ _ _); k_dflt (refine' sum_ok (by k_asm) (by k_asm) (by k_asm) (by k_asm) (by k_asm) (by walk_at "do K") (by k_room) (by k_mem) (by walk_at "do decs") (by first | assumption | exact ⟨by lia, by lia⟩) ?_; k_whole; walk_at "do newdec"))
  k_with "do div" => (k_dflt (refine floordiv_int (by lia) ?_ (Or.inl (PyProof.noPylong_small (by lia)))))
  k_with "call ref cons nil" => (k_here; (with_reducible show wpAny _ _ (call (Value.ref 213) [Value.ref _, _]) _ _ _); k_dflt (refine' ahead_n (by k_asm) (by k_asm) (by k_asm) (by k_asm) (by k_asm) (by walk_at "do K") (by k_room) (by k_mem) (by walk_at "do decs") (by first | assumption | exact ⟨by lia, by lia⟩) (by first | assumption | lia) (by walk_at "do num") (by first | assumption | lia) ?_; k_whole; walk_at "do newdec"))
  k_with "call ref cons nil" => (k_here; (with_reducible show wpAny _ _ (call (Value.ref 199) [Value.ref _]) _ _ _); k_dflt (refine' least_pos (by k_asm) (by k_asm) (by k_asm) (by k_asm) (by k_asm) (by walk_at "do K") (by k_room) (by k_mem) (by walk_at "do decs") (by first | assumption | exact ⟨by lia, by lia⟩) (by assumption) ?_; k_whole; walk_at "do gotdec"))
  k_with "call ref cons nil" => (k_here; (with_reducible show wpAny _ _ (call (Value.ref 206) [Value.ref _]) _ _ _); k_dflt (refine' greatest_pos (by k_asm) (by k_asm) (by k_asm) (by k_asm) (by k_asm) (by walk_at "do K") (by k_room) (by k_mem) (by walk_at "do decs") (by first | assumption | exact ⟨by lia, by lia⟩) (by assumption) ?_; k_whole; walk_at "do gotdec"))
  k_with "do compA" => (k_here; k_dflt (refine LCg.Assign_ListComp_U (F₀ := by k_asm) (by rfl) (by with_unfolding_all rfl) (by with_unfolding_all rfl) (by decide) (by rfl) (by decide) (by rfl) (by rfl) (by rfl) ?_))
  k_with "do eq" => (k_here; (with_reducible show wpAny _ _ (compareOp CmpOp.Eq (Value.ref _) (Value.ref _)) _ _ _); k_dflt (refine' eq_nil_led (by k_asm) (by k_mem) (by k_mem) (by lia) (by rfl) (by ((try simp only [units_in1, units_deeper, Around.mark_units]); (try dsimp only [ktrTop]); lia)) ?_; k_whole))
  k_with "do ne" => (k_here; (with_reducible show wpAny _ _ (compareOp CmpOp.NotEq (Value.ref _) (Value.ref _)) _ _ _); k_dflt (refine' ne_nil_led (by k_asm) (by k_mem) (by k_mem) (by lia) (by rfl) (by ((try simp only [units_in1, units_deeper, Around.mark_units]); (try dsimp only [ktrTop]); lia)) ?_; k_whole))
  k_with "do append" => ((k_here; (with_reducible show wpAny _ _ (call (Value.builtin _) [Value.ref _, _]) _ _ _); k_dflt (refine' append_led (by k_asm) (by k_asm) (by k_mem) (by lia) ?_; k_whole; intro _ _ _ _ _ _ _; (try k_sweep))))
  k_with "do div2" => (k_dflt (first | refine floordiv_int (by lia) ?_ (Or.inl (PyProof.noPylong_small (by lia))) | refine floordiv_int (by lia) ?_ (Or.inl (noPy (by lia)))))
  k_with "after take_ok" => (intro _ _ _ _ _ _ _ _ _; intro N'; (try dsimp only at N'); revert N'; intro _ _ _; (try k_sweep))
  k_with "call ref cons nil" => (k_here; (with_reducible show wpAny _ _ (call (Value.ref 230) [Value.ref _, Value.int _ _]) _ _ _); k_dflt (refine' take_ok (by k_asm) (by k_asm) (by k_asm) (by k_asm) (by k_asm) (by walk_at "do K") (by k_room) (by k_updF) (by k_mem) (by first | assumption | k_ne) (by assumption) (by assumption) (by first | assumption | lia) (by first | exact ⟨by decide, by decide⟩ | assumption | lia) ?_; k_whole; walk_at "after take_ok"))
  k_with "after number_ok" => (intro _ _ _ _ _ _ _ _ _ _; intro N'; (try dsimp only at N'); revert N'; intro _ _ _ _; (try k_sweep))
  k_with "call ref cons nil" => (k_here; (with_reducible show wpAny _ _ (call (Value.ref 237) [Value.ref _, Value.int _ _]) _ _ _); k_dflt (refine' number_ok (by k_asm) (by k_asm) (by k_asm) (by k_asm) (by k_asm) (by walk_at "do K") (by k_room) (by k_updF) (by k_mem) (by first | assumption | k_ne) (by assumption) (by assumption) (by first | assumption | lia) ?_; k_whole; walk_at "after number_ok"))
  k_with "do comp" => (k_here; k_dflt (refine LCg.ListComp_U (F₀ := by k_asm) (by with_unfolding_all rfl) (by decide) (by rfl) (by decide) (by rfl) ?_))
  k_with "after source_ok" => (intro _ _ _ _ _ _ _ _ _ _ _ _ _ _ _ _ _ _; (try k_sweep))
  k_with "call ref cons nil" => (k_here; (with_reducible show wpAny _ _ (call (Value.ref 223) [Value.ref _]) _ _ _); k_dflt (refine' source_ok (by k_asm) (by k_asm) (by k_asm) (by k_asm) (by k_asm) (by walk_at "do K") (by k_room) (by assumption) (by assumption) (by assumption) ?_; k_whole; walk_at "after source_ok"))
  k_with "do sum" => ((k_here; (with_reducible show wpAny _ _ (call (Value.builtin "sum") [Value.ref _]) _ _ _); k_dflt (refine' sum_led (by k_asm) (by k_asm) (by with_unfolding_all rfl) (by k_mem) (by assumption) ?_; k_whole; intro _ _ _ _ _; (try k_sweep))))
  k_with "after due_ok" => (intro _ _ _ _ _ _ _ _ _ _)
  k_with "call ref cons nil" => (k_here; (with_reducible show wpAny _ _ (call (Value.ref 244) [Value.ref _, Value.int _ _, Value.int _ _]) _ _ _); k_dflt (refine' due_ok (by k_asm) (by k_asm) (by k_asm) (by k_asm) (by k_asm) (by walk_at "do K") (by k_room) (by k_mem) (by assumption) (by assumption) (by assumption) (by assumption) (by assumption) (by assumption) ?_; k_whole; walk_at "after due_ok"))
  k_with "do told" => (k_here; k_dflt ((show wpAny _ _ (call (Value.ref 138) [Value.ref _]) _ _ _); refine' told_d (by k_asm) (by k_asm) (by k_asm) (by k_asm) (by k_asm) (by walk_at "do K") (by k_room) (by walk_at "do dec") ?_; k_whole; walk_at "after told_d"))
  k_with "exec For Name Tuple cons nil" => (walk_at "do for")
  k_with "exec For Name" => (walk_at "do for")
  k_with "eval ListComp" => ((k_here; first | ((with_reducible show wpAny _ _ (eval (Expr.ListComp _ [⟨Expr.Tuple _ _ _, _, _, _⟩] _ _) _) _ _ _); k_dflt (refine LCp.ListComp_P (F₀ := by k_asm) (by with_unfolding_all rfl) (by decide) (by rfl) (by decide) (by rfl) (by rfl) (by decide) ?_)) | ((with_reducible show wpAny _ _ (eval (Expr.ListComp _ [⟨Expr.Name _ _, _, _, _⟩] _ _) _) _ _ _); k_dflt (refine LCg.ListComp_U (F₀ := by k_asm) (by with_unfolding_all rfl) (by decide) (by rfl) (by decide) (by rfl) ?_))))
  k_with "pyIter ref" => ((k_here; refine holdAt ?_))
  k_with "SrcLP" => ((k_here; refine holdAt ?_))
  k_with "exec Assign cons IfExp" => ((k_here; refine holdAt ?_))
  k_with "exec Try" => ((k_here; refine wpAny_Try_except ?_))
  k_with "call ref cons nil" => ((k_here; (with_reducible show wpAny _ _ (call (Value.ref 218) [_, Value.ref _, _]) _ _ _); refine holdAt ?_))
  k_with "compareOp NotEq ref ref" => ((k_here; refine holdAt ?_))
  k_with "call ref" => (walk_at "do told")
  k_with "ne" => (first | assumption | (refine Ne.symm ?_; assumption) | exact And.left (by assumption) | exact Ne.symm (And.left (by assumption)))
  k_with "exec If" => ((k_here; refine holdAt ?_))
  k_with "call builtin:sum" => (walk_at "do sum")
  k_with "all" => assumption
  k_with "call type:range" => ((k_here; k_dflt ((refine' range1_rows (by k_asm) (by k_asm) ?_; k_whole; intro _ _ _ _ _ _ _ _ _; (try k_sweep)))))
  k_with "exec Assign cons ListComp" => ((k_here; refine holdAt ?_))
  k_with "CompSrc" => ((k_here; refine holdAt ?_))
  trivial
theorem sum_le {b : Int} : ∀ {us : List Int}, (∀ u ∈ us, 0 ≤ u ∧ u ≤ b) → 0 ≤ us.sum ∧ us.sum ≤ b * us.length
  | [], _ => by simp
  | u :: us, h => by
    have h1 := h u (.head _)
    have h2 := sum_le fun v hv => h v (.tail _ hv)
    rw [List.sum_cons, List.length_cons, Int.natCast_succ, Int.mul_add]
    lia
/-- one list of the ledger, changed or not -/
def Join (h₀ : Heap) (L : Addr) (m : Str → Option Value) (D : Addr) (nw : List (Addr × Obj)) (J : List Value → Prop) (s : Shared) (f : Flow) (s₂ : Shared) : Prop :=
  f = .next ∧ ∃ ys c h' tk', s₂ = { s with heap := h', toks := tk' } ∧ Fr h₀ L h' m ∧ News h₀ L h' ((D, { cls := .type "list", data := .seq (List.toArray ys) c }) :: nw) ∧ J ys
theorem Join.intro {h₀ : Heap} {L D : Addr} {m : Str → Option Value} {nw : List (Addr × Obj)} {J : List Value → Prop} {s : Shared} {h' : Heap} {tk' c : Nat} (ys : List Value) (F : Fr h₀ L h' m) (N : News h₀ L h' ((D, { cls := .type "list", data := .seq ys.toArray c }) :: nw)) (j : J ys) : Join h₀ L m D nw J s .next { s with heap := h', toks := tk' } :=
  ⟨rfl, ys, c, h', tk', rfl, F, N, j⟩
theorem join_at {prog : Program} {w : World} {A : Around} {E : Value → Shared → Prop} {s : Shared} {h₀ : Heap} {L D : Addr} {m : Str → Option Value} {nw : List (Addr × Obj)} {o : Obj} {code : Sem Flow} {Q : Flow → Shared → Prop} (J : List Value → Prop)
    (F : Fr h₀ L s.heap m) (N : News h₀ L s.heap ((D, o) :: nw)) (walk : wpAny (model prog w) A code (Join h₀ L m D nw J s) E s)
    (rest : ∀ ys c h' tk', J ys → Fr h₀ L h' m → News h₀ L h' ((D, { cls := .type "list", data := .seq (List.toArray ys) c }) :: nw) → Q .next { s with heap := h', toks := tk' }) : wpAny (model prog w) A code Q E s :=
  wpAny_mono walk (fun f s₂ q => by obtain ⟨rfl, ys, c, h', tk', rfl, F', N', j⟩ := q; exact rest ys c h' tk' j F' N') fun _ _ e => e
/-- a list of the ledger named by the frame: an old one or a new one -/
def JoinP (h₀ : Heap) (L S : Addr) (m : Str → Option Value) (x : Str) (nw : List (Addr × Obj)) (pat : List Int) (s : Shared) (f : Flow) (s₂ : Shared) : Prop :=
  f = .next ∧ ∃ P ps c h' tk', s₂ = { s with heap := h', toks := tk' } ∧ Fr h₀ L h' (fun y => if y = x then some (.ref P) else m y) ∧ News h₀ L h' ((P, { cls := .type "list", data := .seq (List.toArray ps) c }) :: nw) ∧ IntsAre ps pat ∧ @Ne Nat S P
theorem JoinP.intro {h₀ : Heap} {L S P : Addr} {m : Str → Option Value} {x : Str} {nw : List (Addr × Obj)} {pat : List Int} {s : Shared} {h' : Heap} {tk' c : Nat} (ps : List Value) (F : Fr h₀ L h' (fun y => if y = x then some (.ref P) else m y)) (N : News h₀ L h' ((P, { cls := .type "list", data := .seq ps.toArray c }) :: nw)) (i : IntsAre ps pat) (ne : @Ne Nat S P) : JoinP h₀ L S m x nw pat s .next { s with heap := h', toks := tk' } :=
  ⟨rfl, P, ps, c, h', tk', rfl, F, N, i, ne⟩
theorem join_pat {prog : Program} {w : World} {A : Around} {E : Value → Shared → Prop} {s : Shared} {h₀ : Heap} {L : Addr} {m : Str → Option Value} {nw : List (Addr × Obj)} {code : Sem Flow} {Q : Flow → Shared → Prop} (x : Str) (pat : List Int) (S : Addr)
    (F : Fr h₀ L s.heap m) (N : News h₀ L s.heap nw) (walk : wpAny (model prog w) A code (JoinP h₀ L S m x nw pat s) E s)
    (rest : ∀ P ps c h' tk', Fr h₀ L h' (fun y => if y = x then some (.ref P) else m y) → News h₀ L h' ((P, { cls := .type "list", data := .seq (List.toArray ps) c }) :: nw) → IntsAre ps pat → @Ne Nat S P → Q .next { s with heap := h', toks := tk' }) : wpAny (model prog w) A code Q E s :=
  wpAny_mono walk (fun f s₂ q => by obtain ⟨rfl, P, ps, c, h', tk', rfl, F', N', j, ne⟩ := q; exact rest P ps c h' tk' F' N' j ne) fun _ _ e => e
theorem Nums.sub {P : PySem.Params} {news news' : List (Addr × Obj)} {vs : List Value} {ts : List Int} (h : Nums P news vs ts) (hs : ∀ p ∈ news, p ∈ news') : Nums P news' vs ts := allG (P := Num P news) (P' := Num P news') h fun _ _ hi => hi.sub hs
theorem Nums.snoc {P : PySem.Params} {news : List (Addr × Obj)} {vs : List Value} {ts : List Int} {v : Value} {t : Int} (h : Nums P news vs ts) (hd : Num P news v t) : Nums P news (vs ++ [v]) (ts ++ [t]) := snocG (P := Num P news) h hd
/-- the source ahead of the rest -/
theorem front {h₀ h : Heap} {L I S : Addr} {oI so so0 : Obj} {ext nw : List (Addr × Obj)} (N : News h₀ L h (ext ++ (I, oI) :: (S, so) :: nw)) (lx : ∀ q ∈ (I, oI) :: (S, so0) :: nw, ∀ p ∈ ext, q.1 < p.1) (hIS : @Ne Nat I S) (off : ∀ p ∈ nw, p.1 ≠ S) :
    ∃ E0, News h₀ L h ((S, so) :: E0) ∧ (∀ p ∈ E0, p.1 ≠ S) ∧ (I, oI) ∈ E0 ∧ (∀ p ∈ nw, p ∈ E0) ∧ (∀ p ∈ ext, p ∈ E0) := by
  refine ⟨ext ++ (I, oI) :: nw, cb_drop N fun p hp => ?_, fun p hp => ?_, List.mem_append_right _ (.head _), fun p hp => List.mem_append_right _ (.tail _ hp), fun p hp => List.mem_append_left _ hp⟩
  · rcases List.mem_cons.mp hp with rfl | hp
    · exact List.mem_append_right _ (.tail _ (.head _))
    rcases List.mem_append.mp hp with hp | hp
    · exact List.mem_append_left _ hp
    rcases List.mem_cons.mp hp with rfl | hp
    · exact List.mem_append_right _ (.head _)
    · exact List.mem_append_right _ (.tail _ (.tail _ hp))
  · rcases List.mem_append.mp hp with hp | hp
    · exact Ne.symm (Nat.ne_of_lt (lx (S, so0) (.tail _ (.head _)) p hp))
    rcases List.mem_cons.mp hp with rfl | hp
    · exact hIS
    · exact off p hp
theorem mid4 {a b c d : Addr × Obj} {e l : List (Addr × Obj)} : ∀ p ∈ a :: b :: c :: d :: (e ++ l), p ∈ e ++ (a :: b :: c :: d :: l) := by
  intro p hp
  rcases List.mem_cons.mp hp with rfl | hp
  · exact List.mem_append_right _ (.head _)
  rcases List.mem_cons.mp hp with rfl | hp
  · exact List.mem_append_right _ (.tail _ (.head _))
  rcases List.mem_cons.mp hp with rfl | hp
  · exact List.mem_append_right _ (.tail _ (.tail _ (.head _)))
  rcases List.mem_cons.mp hp with rfl | hp
  · exact List.mem_append_right _ (.tail _ (.tail _ (.tail _ (.head _))))
  rcases List.mem_append.mp hp with hp | hp
  · exact List.mem_append_left _ hp
  · exact List.mem_append_right _ (.tail _ (.tail _ (.tail _ (.tail _ hp))))
theorem off4_ext {I C D S : Addr} {o1 o2 o3 so so0 : Obj} {e l : List (Addr × Obj)} (h : ∀ q ∈ (I, o1) :: (C, o2) :: (D, o3) :: (S, so0) :: l, ∀ p ∈ e, q.1 < p.1) (off : LCg.Off3 I C D ((S, so0) :: l)) : LCg.Off3 I C D ((S, so) :: (e ++ l)) :=
  LCg.Off3.of fun p hp => by
    rcases List.mem_cons.mp hp with rfl | hp
    · exact off.mem (S, so0) (.head _)
    rcases List.mem_append.mp hp with hp | hp
    · exact ⟨Ne.symm (Nat.ne_of_lt (h _ (.head _) p hp)), Ne.symm (Nat.ne_of_lt (h _ (.tail _ (.head _)) p hp)), Ne.symm (Nat.ne_of_lt (h _ (.tail _ (.tail _ (.head _))) p hp))⟩
    · exact off.mem p (.tail _ hp)
theorem offS_ext {I C D S : Addr} {o1 o2 o3 so0 : Obj} {e l : List (Addr × Obj)} (h : ∀ q ∈ (I, o1) :: (C, o2) :: (D, o3) :: (S, so0) :: l, ∀ p ∈ e, q.1 < p.1) (off : ∀ p ∈ l, p.1 ≠ S) : ∀ p ∈ e ++ l, p.1 ≠ S := by
  intro p hp
  rcases List.mem_append.mp hp with hp | hp
  · exact Ne.symm (Nat.ne_of_lt (h (S, so0) (.tail _ (.tail _ (.tail _ (.head _)))) p hp))
  · exact off p hp
theorem near_rng {a b : Int} (h : 1 ≤ a ∧ a ≤ b) (hb : b ≤ 1000) : 0 < a ∧ a < 2 ^ 50 := by lia
theorem len_few {a b : Nat} (h : a = b) (hb : 1 ≤ b ∧ b ≤ 4) : a ≤ 200 := by lia
theorem one_bd {r : Int} (h : 0 ≤ r) (h2 : r < 12) : 0 ≤ 1 + r ∧ 1 + r ≤ 12 := by lia
theorem len_snoc {us : List Int} {v : Int} {i : Nat} (h : us.length = i) : (us ++ [v]).length = i + 1 := by rw [List.length_append, h]; rfl
theorem snoc_bd {us : List Int} {v : Int} (h : ∀ u ∈ us, 0 ≤ u ∧ u ≤ 12) (hv : 0 ≤ v ∧ v ≤ 12) : ∀ u ∈ us ++ [v], 0 ≤ u ∧ u ≤ 12 := fun u hu => (List.mem_append.mp hu).elim (h u) fun hu => by rw [List.mem_singleton.mp hu]; exact hv
theorem off3_three {I C D a b c : Addr} {oa ob oc : Obj} {l : List (Addr × Obj)} (ha : I < a ∧ C < a ∧ D < a) (hb : I < b ∧ C < b ∧ D < b) (hc : I < c ∧ C < c ∧ D < c) (off : LCg.Off3 I C D l) : LCg.Off3 I C D ((a, oa) :: (b, ob) :: (c, oc) :: l) :=
  ⟨⟨Ne.symm (Nat.ne_of_lt ha.1), Ne.symm (Nat.ne_of_lt ha.2.1), Ne.symm (Nat.ne_of_lt ha.2.2)⟩, ⟨Ne.symm (Nat.ne_of_lt hb.1), Ne.symm (Nat.ne_of_lt hb.2.1), Ne.symm (Nat.ne_of_lt hb.2.2)⟩, ⟨Ne.symm (Nat.ne_of_lt hc.1), Ne.symm (Nat.ne_of_lt hc.2.1), Ne.symm (Nat.ne_of_lt hc.2.2)⟩, off⟩
theorem steps_set {y : Int} {ur : List Int} {r : Int} (hul : (y :: ur).length = (1 + r).toNat) (hr : r < 4) (hub : ∀ u ∈ y :: ur, 0 ≤ u ∧ u ≤ 12) : (1 ≤ ((7 : Int) :: ur).length ∧ ((7 : Int) :: ur).length ≤ 4) ∧ (∀ u ∈ (7 : Int) :: ur, 0 ≤ u ∧ u ≤ 12) ∧ 0 < ((7 : Int) :: ur).sum := by
  have h1 := (sum_le fun v hv => hub v (.tail _ hv)).1
  rw [List.length_cons] at hul
  refine ⟨by rw [List.length_cons]; lia, fun u hu => ?_, by rw [List.sum_cons]; lia⟩
  rcases List.mem_cons.mp hu with rfl | hu
  · exact ⟨by decide, by decide⟩
  · exact hub u (.tail _ hu)
theorem steps_keep {y : Int} {ur : List Int} {r : Int} (hul : (y :: ur).length = (1 + r).toNat) (hr : r < 4) (hub : ∀ u ∈ y :: ur, 0 ≤ u ∧ u ≤ 12) (hne : (y :: ur).sum ≠ 0) : (1 ≤ (y :: ur).length ∧ (y :: ur).length ≤ 4) ∧ (∀ u ∈ y :: ur, 0 ≤ u ∧ u ≤ 12) ∧ 0 < (y :: ur).sum := by
  have h1 := (sum_le hub).1
  rw [List.length_cons] at hul ⊢
  exact ⟨by lia, hub, by lia⟩
theorem one_lo {r : Int} (h : 0 ≤ r) : 1 ≤ 1 + r := by lia
theorem one_hi {r b : Int} (h : r < b) : 1 + r ≤ b := by lia
theorem pl_turn {pl r : Int} {i : Nat} (h : 1 ≤ pl ∧ pl ≤ 1 + 2 * i) (hi : i < (1 + r).toNat) (hr : r < 4) : (0 ≤ pl ∧ pl ≤ 1000) ∧ (0 ≤ pl + 1 ∧ pl + 1 ≤ 1000) := by lia
theorem pl_next {pl : Int} {i : Nat} (h : 1 ≤ pl ∧ pl ≤ 1 + 2 * i) : (1 ≤ pl + 1 ∧ pl + 1 ≤ 1 + 2 * ((i + 1 : Nat) : Int)) ∧ (1 ≤ pl + 1 + 1 ∧ pl + 1 + 1 ≤ 1 + 2 * ((i + 1 : Nat) : Int)) := by lia
theorem pl_end {pl r : Int} (h : 1 ≤ pl ∧ pl ≤ 1 + 2 * ((1 + r).toNat : Int)) (hr : 0 ≤ r ∧ r < 4) : (0 ≤ pl ∧ pl ≤ 1000) ∧ (0 ≤ pl + 1 ∧ pl + 1 ≤ 1000) ∧ (0 ≤ pl + 1 + 1 ∧ pl + 1 + 1 ≤ 1000) ∧ (0 ≤ pl + 1 + 1 + 1 ∧ pl + 1 + 1 + 1 ≤ 20 + 10 * ((0 : Nat) : Int)) := by lia
theorem pl_law {p q r : Int} {i j n : Nat} (h1 : 0 ≤ p ∧ p ≤ 20 + 10 * (i : Int)) (h2 : p ≤ q ∧ q ≤ p + 1 + j) (hj : j ≤ n) (hn : 1 ≤ n ∧ n ≤ 4) (h3 : q ≤ r ∧ r ≤ q + 1) : 0 ≤ r ∧ r ≤ 20 + 10 * ((i + 1 : Nat) : Int) := by lia
theorem pl_num {p q : Int} {i j n : Nat} (h1 : 0 ≤ p ∧ p ≤ 20 + 10 * (i : Int)) (hi : i < 2) (h2 : p ≤ q ∧ q ≤ p + 1 + j) (hj : j ≤ n) (hn : 1 ≤ n ∧ n ≤ 4) : 0 ≤ q ∧ q ≤ 900 := by lia
theorem pl_first {p q : Int} (h : p ≤ q ∧ q ≤ p + 1) : p ≤ q ∧ q ≤ p + 1 + ((0 : Nat) : Int) := by lia
theorem pl_step {p q r : Int} {j : Nat} (h2 : p ≤ q ∧ q ≤ p + 1 + (j : Int)) (h3 : q ≤ r ∧ r ≤ q + 1) : p ≤ r ∧ r ≤ p + 1 + ((j + 1 : Nat) : Int) := by lia
theorem pl_in {p : Int} {i : Nat} (h1 : 0 ≤ p ∧ p ≤ 20 + 10 * (i : Int)) (hi : i < 2) : 0 ≤ p ∧ p ≤ 900 := by lia
/-- all that the law asks of its pattern -/
theorem pat_all {us : List Int} (hl : 1 ≤ us.length ∧ us.length ≤ 4) (hb : ∀ u ∈ us, 0 ≤ u ∧ u ≤ 12) (hs : 0 < us.sum) :
    ((patOf us).length = 2 * ((patOf us).length / 2) ∧ 1 ≤ (patOf us).length / 2 ∧ (patOf us).length / 2 ≤ 3) ∧ (∀ u ∈ patOf us, 0 ≤ u) ∧ us.sum * (1 + (us.length : Int) % 2) = (patOf us).sum ∧ (0 < (patOf us).sum ∧ (patOf us).sum ≤ 1000) ∧ (0 < (patOf us).sum ∧ (patOf us).sum < 2 ^ 62) ∧ us.sum ≤ 1000 := by
  have hb' := sum_le hb
  have h0 : ∀ u ∈ us, 0 ≤ u := fun u hu => (hb u hu).1
  rcases Nat.mod_two_eq_zero_or_one us.length with h | h
  · rw [show patOf us = us from if_pos h, show (us.length : Int) % 2 = 0 by lia]
    exact ⟨by lia, h0, by lia, by lia, by lia, by lia⟩
  · rw [show patOf us = us ++ us from if_neg (by lia), show (us.length : Int) % 2 = 1 by lia, List.length_append, List.sum_append]
    exact ⟨by lia, fun u hu => (List.mem_append.mp hu).elim (h0 u) (h0 u), by lia, by lia, by lia, by lia⟩
theorem due_few {pat : List Int} {near T : Int} {M n : Nat} (hn : n = (dueTo pat near T M ((near + T) / pat.sum + 1).toNat).length) (hs : 0 < pat.sum) (h1 : 1 ≤ near ∧ near ≤ pat.sum) (h2 : 1 ≤ T ∧ T ≤ 40) (hM : M ≤ 3) : n ≤ 200 := by
  have e2 := dueTo_len pat near T M ((near + T) / pat.sum + 1).toNat
  have e3 := due_turns hs h1 h2
  rw [Int.fdiv_eq_ediv_of_nonneg _ (by lia)] at e3
  have e4 : M * ((near + T) / pat.sum + 1).toNat ≤ 3 * 42 := Nat.mul_le_mul hM (by lia)
  lia
theorem sz_small {vs : List Value} (h : vs.length ≤ 200) : vs.toArray.size ≤ sizeLine := by rw [List.size_toArray, sizeLine_eq]; lia
theorem ex1 {A : Type} {P : A → Prop} {G : Prop} (h : ∃ a, P a) (k : ∀ a, P a → G) : G := h.elim k
theorem ex65 {A B C D E F : Type} {p1 p2 p3 p4 p5 : A → B → C → D → E → F → Prop} {G : Prop} (h : ∃ a b c d e f, p1 a b c d e f ∧ p2 a b c d e f ∧ p3 a b c d e f ∧ p4 a b c d e f ∧ p5 a b c d e f) (k : ∀ a b c d e f, p1 a b c d e f → p2 a b c d e f → p3 a b c d e f → p4 a b c d e f → p5 a b c d e f → G) : G := by
  obtain ⟨a, b, c, d, e, f, h1, h2, h3, h4, h5⟩ := h
  exact k a b c d e f h1 h2 h3 h4 h5
section
set_option maxHeartbeats 3000000 in
theorem all_ok : PySem.Challenge.rw_qd0123_01.Holds := hd (by
  w_strict k_go0
  k_fold
  rename World => w0
  rename IntsAre _ _ => hI
  rename ¬ _ < (List.length _ : Int) => hcd
  rename List Int => ns
  have hn : ns.length ≤ 63 := by lia
  clear hcd
  k_steps
  unfold HoldAt
  rename_i S C ws cs re tr tp c c2 h1 tk1 F1 N1 hI1 hL1 z1 z2 z3 h2 oc F2 N2 hoc
  simp only [List.cons_append, List.nil_append] at N2
  have zS := z2 _ (.head _)
  have zC := z1 _ (.head _)
  dsimp only at zS zC
  clear F1 N1
  refine hideM F2 ?_; clear F2; intro mF2 F2
  k_dflt (refine LCg.Assign_ListComp_U (F₀ := by k_asm) (by rfl) (by with_unfolding_all rfl) (by with_unfolding_all rfl) (by decide) (by rfl) (by decide) (by rfl) (by rfl) (by rfl) ?_)
  k_steps
  rename_i r3 t3 re3 tr3 tp3 c3 h3 tk3 r30 r31 h4 tk4 t4 u4 v4 R4 F4 N4 k4
  unfold HoldAt
  refine LCg.CompSrc.range (n := (1 + r3).toNat) rfl F4 N4 R4 (small_one (by lia) (by lia) (by lia) (by lia)) (range1_size (by lia)) (by rw [sizeLine_eq]; lia) (fun g' => ?_)
  refine comp_inv (J := fun i ys nw => ∃ rest tr' pl tp' c' us, nw = [(S, srcO C rest tr' pl tp' c'), (C, { cls := .type "list", data := .seq ws.toArray c2 }), (_, oc)] ∧ (1 ≤ pl ∧ pl ≤ 1 + 2 * i) ∧ IntsAre ys us ∧ us.length = i ∧ ∀ u ∈ us, 0 ≤ u ∧ u ≤ 12) ?_ ?_ _ _ _ _ (Nat.zero_add _) ⟨_, _, _, _, _, [], rfl, ⟨by lia, by lia⟩, .nil, rfl, fun u hu => nomatch hu⟩
  · intro i v ys nw hi5 hP hJ
    refine foldG ?_
    intro g5
    refine ex65 hJ fun rest tr5 pl tp5 c5 us hnw hpl hus hul hub => ?_
    subst hnw
    intro I oI C5 oC D m₂ h5 tk5 E' hC hx F5 N5 off ne
    have hq1 := (pl_turn hpl hi5 r31).1
    have hq2 := (pl_turn hpl hi5 r31).2
    clear F4 N4 R4 k4
    have a1 : @Ne Nat S I := off.1.1
    have a2 : @Ne Nat S C5 := off.1.2.1
    have a3 : @Ne Nat S D := off.1.2.2
    k_steps
    · rename News _ _ _ _ => NN
      rename Fr _ _ _ _ => FF
      rename _ < (12 : Int) => z2
      rename 0 ≤ (_ : Int) => z1
      exact LCg.CompEnd.intro FF NN _ (fun _ h => h) off (by lcg_src) ⟨_, _, _, _, _, us ++ [_], rfl, (pl_next hpl).2, IntsAre.append hus (.cons _ _ .nil), len_snoc hul, snoc_bd hub (one_bd z1 z2)⟩
    · rename News _ _ _ _ => NN
      rename Fr _ _ _ _ => FF
      exact LCg.CompEnd.intro FF NN _ (fun _ h => h) off (by lcg_src) ⟨_, _, _, _, _, us ++ [0], rfl, (pl_next hpl).1, IntsAre.append hus (.cons _ _ .nil), len_snoc hul, snoc_bd hub ⟨by decide, by decide⟩⟩
  · intro ys nw hJ
    refine ex65 hJ fun rest tr5 pl tp5 c5 us hnw hpl0 hus hul hub => ?_
    subst hnw
    clear F4 N4 R4 k4
    have us1 := sum_le hub
    have hyl : ys.length = us.length := hus.length
    k_steps
    rename_i D h5 tk5 F5 N5 o5
    unfold HoldAt
    have hSD : @Ne Nat S D := o5.1
    have hCD0 : @Ne Nat C D := o5.2.1
    have hwD := o5.2.2
    refine hideM F5 ?_; clear F5; intro mF5 F5
    refine join_at (fun ys => ∃ us, IntsAre ys us ∧ (1 ≤ us.length ∧ us.length ≤ 4) ∧ (∀ u ∈ us, 0 ≤ u ∧ u ≤ 12) ∧ 0 < us.sum) F5 N5 ?_ ?_
    · refine wpAny_If ?_
      obtain ⟨y0, z0, u0, yr, ur, rfl, rfl, hur⟩ : ∃ y0 z0 u0 yr ur, ys = (Value.int y0 z0) :: yr ∧ us = y0 :: ur ∧ IntsAre yr ur ∧ u0 = y0 := by
        cases hus with
        | nil => exact absurd hul (by simp; lia)
        | cons k t r => exact ⟨k, t, k, _, _, rfl, rfl, r, rfl⟩
      k_steps
      · rename_i F6 N6 hi6 hl6 hs6
        exact Join.intro _ F6 N6 ⟨7 :: ur, hi6, steps_set hul r31 hub⟩
      · rename_i F6 N6 hne
        exact Join.intro _ F6 N6 ⟨_, hus, steps_keep hul r31 hub hne⟩
    · clear F5 N5
      intro ys5 c6 h6 tk6 hJ5 F6 N6
      dsimp only
      refine ex1 hJ5 fun us5 hJ5 => ?_
      have hus5 := hJ5.1
      have hul5 := hJ5.2.1
      have hub5 := hJ5.2.2.1
      have hs5 := hJ5.2.2.2
      have us5b := sum_le hub5
      have hyl5 : ys5.length = us5.length := hus5.length
      have hpl : (us5.length % 2 = 0 → patOf us5 = us5) ∧ (us5.length % 2 ≠ 0 → patOf us5 = us5 ++ us5) := ⟨fun h => if_pos h, fun h => if_neg h⟩
      k_steps
      unfold HoldAt
      refine join_pat (Str.ofString "pattern") (patOf us5) S F6 N6 ?_ ?_
      · refine wpAny_Assign_Name ?_
        k_steps
        · rename (us5.length : Int).fmod 2 = 0 => hpar
          exact JoinP.intro (c := c6) ys5 (by assumption) (cb_drop (by assumption) (List.forall_mem_cons.mpr ⟨by k_mem, fun q hq => by repeat' (first | exact hq | refine List.mem_cons_of_mem _ ?_ | refine List.mem_append_right _ ?_ | refine lift_sub (by assumption) ?_)⟩)) ((hpl.1 (even_n hpar)).symm ▸ hus5) hSD
        · rename (us5.length : Int).fmod 2 ≠ 0 => hpar
          rename D < _ ∧ _ => lP
          rename IntsAre _ (us5 ++ us5) => iP
          exact JoinP.intro (c := 0) _ (by assumption) (cb_drop (by assumption) (List.forall_mem_cons.mpr ⟨.head _, fun q hq => by repeat' (first | exact hq | refine List.mem_cons_of_mem _ ?_ | refine List.mem_append_right _ ?_ | refine lift_sub (by assumption) ?_)⟩)) ((hpl.2 fun h => hpar (n_even h)).symm ▸ iP) (Nat.ne_of_lt lP.2.1)
      clear F6 N6
      rintro P ps cP hP tkP FP NP iP neP
      dsimp only
      refine hideM FP ?_; clear FP; intro mFP FP
      obtain ⟨pat, hpatd⟩ : ∃ pat, pat = patOf us5 := ⟨_, rfl⟩
      have hall := pat_all hul5 hub5 hs5
      rw [← hpatd] at iP hall
      have hM := hall.1
      have h0u : ∀ u ∈ us5, 0 ≤ u := fun u hu => (hub5 u hu).1
      have h0 := hall.2.1
      have hSe := hall.2.2.1
      have hs := hall.2.2.2.1
      have hp1 := hall.2.2.2.2.1
      have hus1 := hall.2.2.2.2.2
      have hq := pl_end hpl0 ⟨r30, r31⟩
      have hq1 := hq.1
      have hq2 := hq.2.1
      have hq3 := hq.2.2.1
      generalize hMd : pat.length / 2 = M at hM
      k_steps
      unfold HoldAt
      rename_i r1 t1 re1 tr1 tp1 c1 h1 tk1 r10 r11 h2 tk2 _ _ _ _ _ _ _ _ h3 tk3 t3 _ _ _ _ r4 t4 re4 tr4 tp4 c4 h4 tk4 r40 r41 h5 tk5 _ _ _ _ r6 t6 re6 tr6 tp6 c6 h6 tk6 r60 r61 h7 F7 N7
      have hnear : 1 ≤ 1 + r1 ∧ 1 + r1 ≤ pat.sum := ⟨one_lo r10, one_hi r11⟩
      have hT : 1 ≤ 1 + r6 ∧ 1 + r6 ≤ 40 := ⟨one_lo r60, one_hi r61⟩
      refine hideM F7 ?_; clear F7; intro mF7 F7
      k_dflt (refine LCp.Assign_ListComp_P (F₀ := by k_asm) (by rfl) (by with_unfolding_all rfl) (by with_unfolding_all rfl) (by decide) (by rfl) (by decide) (by rfl) (by rfl) (by decide) (by rfl) (by rfl) ?_)
      k_steps
      rename_i fl fs c8 nw h8 tk8 F8 N8 in8 pr8
      unfold HoldAt
      have hfs : fs.length ≤ 200 := due_few pr8.1 hs.1 hnear hT hM.2.2
      generalize hbes : dueTo pat (1 + r1) (1 + r6) M ((1 + r1 + (1 + r6)) / pat.sum + 1).toNat = bes at pr8
      clear F7 N7
      refine LCp.SrcLP.ledger rfl F8 N8 (.head _) (sz_small hfs) (fun g' => ?_)
      refine comp_invP (J := fun i ys nw' => (∀ p ∈ (fl, ({ cls := .type "list", data := .seq fs.toArray c8 } : Obj)) :: nw, p ∈ nw') ∧ ToldsAre nw' ys (bes.take i)) ?_ ?_ _ _ _ _ (Nat.zero_add _) ⟨fun _ h => h, rfl, fun i v h => nomatch h⟩
      · intro i v ys9 nw9 hi9 hP hJ9
        refine foldG ?_
        intro g9
        have hs9 := hJ9.1
        have ht9 := hJ9.2
        obtain ⟨be9, hbe, T9, t91, t92, n9, hv9, hm9⟩ := pr8.2 i v (by simpa using hP)
        refine TurnP.intro hv9 (hs9 _ (.tail _ hm9)) rfl rfl ?_
        intro I oI C5 oC D5 m₂ h9 tk9 E' hC hx hx2 F9 N9 off ne
        clear F8 N8
        k_steps
        rename_i T1 xA pA txA tpA nA hA tkA nfA lA _ _ cE rB dB kB1 kB2 xB txB pB tpB hB tkB nfB lB lB2 T2 xC pC txC tpC nC hC' tkC nfC lC TT hTT FT NT lT
        refine LCg.CompEnd.intro FT NT ((TT, _) :: (T2, _) :: (T1, _) :: nw9) (List.forall_mem_cons.mpr ⟨by k_mem, List.forall_mem_cons.mpr ⟨by k_mem, List.forall_mem_cons.mpr ⟨by k_mem, List.forall_mem_cons.mpr ⟨by k_mem, List.forall_mem_cons.mpr ⟨by k_mem, List.forall_mem_cons.mpr ⟨by k_mem, fun q hq => by repeat' (first | exact hq | refine List.mem_cons_of_mem _ ?_ | refine List.mem_append_right _ ?_ | refine lift_sub (by assumption) ?_)⟩⟩⟩⟩⟩⟩) (off3_three ⟨lT.2.2.2.2.2.2.1, lT.2.2.2.2.2.2.2.1, lT.2.2.2.2.2.2.2.2.1⟩ ⟨lC (I, oI) (by k_mem), lC (C5, _) (by k_mem), lC (D5, _) (by k_mem)⟩ ⟨lA (I, oI) (by k_mem), lA (C5, _) (by k_mem), lA (D5, _) (by k_mem)⟩ off) (.inr ⟨_, .tail _ (.tail _ (.tail _ (hs9 _ (.head _)))), rfl, _, rfl⟩) ⟨fun p hp => .tail _ (.tail _ (.tail _ (hs9 p hp))), ?_⟩
        rw [List.take_add_one, hbe]
        exact (ht9.sub fun p hp => .tail _ (.tail _ (.tail _ hp))).snoc (ToldIs.of (.head _) (.tail _ (.tail _ (.head _))) (NF.as nfA (if_neg (by decide))) (.tail _ (.head _)) (NF.as nfC (if_neg (by decide))))
      · intro ys9 nw9 hJ9
        have hs9 := hJ9.1
        have ht9 := hJ9.2
        have hsz9 : fs.toArray.size = bes.length := by rw [List.size_toArray]; exact pr8.1
        rw [hsz9, List.take_length] at ht9
        clear F8 N8
        k_steps
        unfold HoldAt
        rename_i Du h10 tk10 off10 TP h11 F11 N11 l11
        have hCD : C ≠ D := o5.2.1
        have hS9 := hs9 _ (.tail _ (in8 _ (show (S, srcO C re6 tr6 (pl + 1 + 1 + 1) tp6 c6) ∈ _ by k_mem)))
        have hD9 := hs9 _ (.tail _ (in8 _ (show (D, ({ cls := .type "list", data := .seq ys5.toArray _ } : Obj)) ∈ _ by k_mem)))
        have hC9 := hs9 _ (.tail _ (in8 _ (show (C, ({ cls := .type "list", data := .seq ws.toArray c2 } : Obj)) ∈ _ by k_mem)))
        have hc9 := hs9 _ (.tail _ (in8 _ (show (_, oc) ∈ _ by k_mem)))
        have hDuS : Du ≠ S := fun e => off1_mem off10 _ hS9 e.symm
        have hTPS : TP ≠ S := Ne.symm (Nat.ne_of_lt (tb_ltOf l11.2 _ hS9))
        obtain ⟨nwS, NS, offS, inS, XS⟩ := split_off N11 (.tail _ (.tail _ hS9)) rfl
        have hTPm := inS _ (.head _) hTPS
        have hDum := inS _ (.tail _ (.head _)) hDuS
        have hDm := inS _ (.tail _ (.tail _ hD9)) (Ne.symm hSD)
        have hCm := inS _ (.tail _ (.tail _ hC9)) z3
        have hcm := inS _ (.tail _ (.tail _ hc9)) zS
        have htS : ToldsAre nwS ys9 bes := ⟨ht9.1, fun i v hv => by
          obtain ⟨be, hb, hi⟩ := ht9.2 i v hv
          exact ⟨be, hb, (hi.sub fun p hp => .tail _ (.tail _ hp)).filt XS⟩⟩
        have hlim : r4 < 1000000000000 := r41
        refine hideM F11 ?_; clear F11; intro mF11 F11
        refine iter_rtup [Str.ofString "phase", Str.ofString "spans"] (fun st : SSt => (S, srcO C st.rest st.tr st.pl st.tp st.c) :: nwS) (fun i st => 0 ≤ st.pl ∧ st.pl ≤ 20 + 10 * i) ⟨re6, tr6, _, tp6, c6⟩ rfl F11 (fun _ => .tail _ hTPm) NS (by decide) hq.2.2.2 ?_ ?_
        · intro i v u12 st12 I oI h12 tk12 hv12 hpl12 off12 hc12 F12 N12
          clear F11 NS
          with_reducible show wpAny _ _ _ _ _ _
          k_fold
          obtain ⟨rest12, tr12, pl12, tp12, c12⟩ := st12
          dsimp only at hpl12 off12 F12 N12
          obtain ⟨ph, tph, rfl, hph, hnr⟩ : ∃ ph t, v = .int ph t ∧ (0 < ph ∧ ph < 2 ^ 50) ∧ us5.sum * (1 + (us5.length : Int) % 2) * ((ph - 1) / (us5.sum * (1 + (us5.length : Int) % 2))) - ph = -(1 + r1) := by
            rw [hSe]
            rcases i with _ | _ | i
            · exact ⟨_, _, (Option.some.inj hv12).symm, near_rng hnear hs.2, phase_near hnear⟩
            · exact ⟨_, _, (Option.some.inj hv12).symm, far_bound hnear hs.2 ⟨r40, hlim⟩, phase_far hnear⟩
            · exact nomatch hv12
          have hi2 : i < 2 := (Array.getElem?_eq_some_iff.mp hv12).1
          have hpl13 := pl_in hpl12 hi2
          have hIS : @Ne Nat I S := fun e => off12 _ (.head _) e.symm
          refine hideM F12 ?_; clear F12; intro mF12 F12
          k_steps
          rename_i v13 re13 tr13 pl13 tp13 c13 ext13 h13 tk13 F13 N13 z13 lx13 nu13
          unfold HoldAt
          obtain ⟨E0, N0, hS0, hI0, hn0, hx0⟩ := front N13 lx13 hIS offS
          clear F12 N12 N13
          have hys5 : ys5.length ≤ 200 := len_few hyl5 hul5
          have hsz5 : ys5.toArray.size = us5.length := by rw [List.size_toArray]; exact hyl5
          refine hideM F13 ?_; clear F13; intro mF13 F13
          refine LCg.CompSrc.ledger rfl F13 N0 (.tail _ (hn0 _ hDm)) (sz_small hys5) (fun g' => ?_)
          refine comp_inv (J := fun i ys nw => ∃ rest tr pl tp c E, nw = (S, srcO C rest tr pl tp c) :: E ∧ (∀ p ∈ E0, p ∈ E) ∧ (∀ p ∈ E, p.1 ≠ S) ∧ (pl12 ≤ pl ∧ pl ≤ pl12 + 1 + i) ∧ Nums w0.params E ys (us5.take i)) ?_ ?_ _ _ _ _ (Nat.zero_add _) ⟨_, _, _, _, _, E0, rfl, fun _ h => h, hS0, pl_first z13, rfl, fun i v h => nomatch h⟩
          · intro j v ys nw hj hP hJ
            refine foldG ?_
            intro g14
            refine ex65 hJ fun rest14 tr14 pl14 tp14 c14 E14 hnw hsE hSE hplE hnE => ?_
            obtain ⟨u14, tu14, hv14, hu14⟩ := IntsAre.at hus5 j v (by simpa using hP)
            subst hnw hv14
            intro I2 oI2 C5 oC5 D5 m₂ h14 tk14 E' hC hx F14 N14 off ne
            clear F13 N0
            have s1 : @Ne Nat S I2 := off.1.1
            have s2 : @Ne Nat S C5 := off.1.2.1
            have s3 : @Ne Nat S D5 := off.1.2.2
            have hC14 := hsE _ (hn0 _ hCm)
            have hplN := pl_num hpl12 hi2 hplE (Nat.le_of_lt (hsz5 ▸ hj)) hul5
            have hc14 := hsE _ (hn0 _ hcm)
            k_steps
            rename_i v15 re15 tr15 pl15 tp15 c15 ext15 h15 tk15 F15 N15 z15 lx15 nu15
            refine LCg.CompEnd.intro F15 N15 ((S, srcO C re15 tr15 pl15 tp15 c15) :: (ext15 ++ E14)) mid4 (off4_ext lx15 off) (.inr ⟨_, .tail _ (List.mem_append_right _ (hsE _ (hn0 _ hDm))), rfl, _, rfl⟩) ⟨_, _, _, _, _, ext15 ++ E14, rfl, fun p hp => List.mem_append_right _ (hsE p hp), offS_ext lx15 hSE, pl_step hplE z15, ?_⟩
            rw [List.take_add_one, hu14]
            exact (hnE.sub fun p hp => List.mem_append_right _ hp).snoc (nu15.sub fun p hp => List.mem_append_left _ hp)
          · intro ys nw hJ
            refine ex65 hJ fun rest14 tr14 pl14 tp14 c14 E14 hnw hsE hSE hplE hnE => ?_
            subst hnw
            have hplN := pl_num hpl12 hi2 hplE (Nat.le_of_eq hsz5) hul5
            rw [hsz5, List.take_length] at hnE
            clear F13 N0
            have hC14 := hsE _ (hn0 _ hCm)
            have hc14 := hsE _ (hn0 _ hcm)
            k_steps
            rename_i D6 h6' tk6' o6' v16 re16 tr16 pl16 tp16 c16 ext16 h16 tk16 F16 N16 z16 lx16 nu16
            unfold HoldAt
            have hyl9 : ys.length = us5.length := hnE.1
            have hsub16 : ∀ p ∈ E14, p ∈ ext16 ++ (D6, LCg.lst ys) :: (S, srcO C re16 tr16 pl16 tp16 c16) :: E14 := fun p hp => List.mem_append_right _ (.tail _ (.tail _ hp))
            k_dflt (refine' dash_ok (near := 1 + r1) ?B ?F ?X ?N ?T ?K ?d ?u (List.mem_append_right _ (.head _)) (hnE.sub hsub16) (hyl9 ▸ hul5) h0u ⟨hs5, hus1⟩ (nu13.sub fun p hp => hsub16 p (hsE p (hx0 p hp))) (nu16.sub fun p hp => List.mem_append_left _ hp) hT hph (by rw [hyl9]; exact hnr) (by rw [hyl9, hSe]; exact hnear.2) ?_; (case B => k_asm); (case F => k_asm); (case X => k_asm); (case N => k_asm); (case T => k_asm); (case K => first | assumption | exact rfl); (case d => k_room); (case u => ((try simp only [units_in1, units_deeper, Around.mark_units]); (try dsimp only [ktrTop]); first | lia | decide)); k_whole)
            intro fl17 fs17 c17 nw17 K17 h17 tk17 F17 N17 in17 sp17 hK17 hk17
            have hsp17 : spansTo us5 (1 + r1) (1 + r6) K17 = bes := by
              rw [← hbes, hpatd]
              exact (due_spans hul5.1 (by rw [← hpatd]; exact hM.1) hM.2.1 h0u (by rw [← hpatd]; exact hs.1) hnear.1 hT.1 hK17 hk17).symm
            rw [hsp17] at sp17
            have hfl17 : fs17.length ≤ 200 := by rw [sp17.1, ← pr8.1]; exact hfs
            have hsz17 : fs17.toArray.size = bes.length := by rw [List.size_toArray]; exact sp17.1
            clear F16 N16
            refine hideM F17 ?_; clear F17; intro mF17 F17
            k_steps
            rename_i h18 F18 N18
            unfold HoldAt
            have hEn17 : ∀ p ∈ E14, p ∈ nw17 := fun p hp => in17 p (hsub16 p hp)
            refine wpAny_If ?_
            k_steps
            unfold HoldAt
            refine LCp.SrcLP.ledger rfl F18 N18 (.head _) (sz_small hfl17) (fun g' => ?_)
            refine comp_invP (J := fun i ys nw' => (∀ p ∈ (fl17, ({ cls := .type "list", data := .seq fs17.toArray c17 } : Obj)) :: nw17, p ∈ nw') ∧ ToldsAre nw' ys (bes.take i)) ?_ ?_ _ _ _ _ (Nat.zero_add _) ⟨fun _ h => h, rfl, fun i v h => nomatch h⟩
            · intro j v ys19 nw19 hj19 hP hJ19
              refine foldG ?_
              intro g19
              have hs19 := hJ19.1
              have ht19 := hJ19.2
              obtain ⟨be19, hbe, T19, q1, q2, n19, hv19, hm19, D1, D2⟩ := sp17.2 j v (by simpa using hP)
              have D1' : Dec w0.params nw19 q1 be19.1 := D1.sub fun p hp => hs19 p (.tail _ hp)
              have D2' : Dec w0.params nw19 q2 be19.2 := D2.sub fun p hp => hs19 p (.tail _ hp)
              obtain ⟨d1, o1, hr1, hd1, k11, k12, x1, tx1, p1, tp1, rfl, nf1⟩ := id D1'
              obtain ⟨d2, o2, hr2, hd2, k21, k22, x2, tx2, p2, tp2, rfl, nf2⟩ := id D2'
              refine TurnP.intro hv19 (hs19 _ (.tail _ hm19)) rfl rfl ?_
              intro I oI C5 oC5 D5 m₂ h19 tk19 E' hC hx hx2 F19 N19 off ne
              clear F18 N18
              k_steps
              rename_i T1 xA pA txA tpA nA hA tkA nfA lA cE T2 xC pC txC tpC nC hC' tkC nfC lC TT hTT FT NT lT
              refine LCg.CompEnd.intro FT NT ((TT, _) :: (T2, _) :: (T1, _) :: nw19) (List.forall_mem_cons.mpr ⟨by k_mem, List.forall_mem_cons.mpr ⟨by k_mem, List.forall_mem_cons.mpr ⟨by k_mem, List.forall_mem_cons.mpr ⟨.head _, List.forall_mem_cons.mpr ⟨.tail _ (.head _), List.forall_mem_cons.mpr ⟨.tail _ (.tail _ (.head _)), fun q hq => by repeat' (first | exact hq | refine List.mem_cons_of_mem _ ?_ | refine List.mem_append_right _ ?_ | refine lift_sub (by assumption) ?_)⟩⟩⟩⟩⟩⟩) (off3_three ⟨lT.2.2.1, lT.2.2.2.1, lT.2.2.2.2.1⟩ ⟨lC (I, oI) (by k_mem), lC (C5, _) (by k_mem), lC (D5, _) (by k_mem)⟩ ⟨lA (I, oI) (by k_mem), lA (C5, _) (by k_mem), lA (D5, _) (by k_mem)⟩ off) (.inr ⟨_, .tail _ (.tail _ (.tail _ (hs19 _ (.head _)))), rfl, _, rfl⟩) ⟨fun p hp => .tail _ (.tail _ (.tail _ (hs19 p hp))), ?_⟩
              rw [List.take_add_one, hbe]
              exact (ht19.sub fun p hp => .tail _ (.tail _ (.tail _ hp))).snoc (ToldIs.of (.head _) (.tail _ (.tail _ (.head _))) nfA (.tail _ (.head _)) nfC)
            · intro ys19 nw19 hJ19
              have hs19 := hJ19.1
              have ht19 := hJ19.2
              rw [hsz17, List.take_length] at ht19
              clear F18 N18
              k_steps
              rename_i D20 h20 tk20 F20 N20 o20
              unfold HoldAt
              have hup : ∀ p ∈ nwS, p ∈ (D20, LCg.lst ys19) :: nw19 := fun p hp => .tail _ (hs19 p (.tail _ (hEn17 p (hsE p (hn0 p hp)))))
              have hup2 : ∀ p ∈ nw17, p ∈ (D20, LCg.lst ys19) :: nw19 := fun p hp => .tail _ (hs19 p (.tail _ hp))
              k_dflt (refine ne_tolds N20 (.head _) (hup _ hDum) (ht19.sub fun p hp => .tail _ hp) (htS.sub hup) (by (try simp only [units_in1, units_deeper, Around.mark_units]); (try dsimp only [ktrTop]); first | lia | decide) ?_)
              k_steps
              refine EndR.intro ⟨re16, tr16, pl16, tp16, c16⟩ F20 (cb_drop N20 (List.forall_mem_cons.mpr ⟨hup2 _ (hEn17 _ (hsE _ hI0)), List.forall_mem_cons.mpr ⟨hup2 _ (in17 _ (List.mem_append_right _ (.tail _ (.head _)))), hup⟩⟩)) ?_ ?_ (pl_law hpl12 hplE (Nat.le_of_eq hsz5) hul5 z16)
              · intro p hp
                rcases List.mem_cons.mp hp with rfl | hp
                · exact Ne.symm hIS
                · exact off12 p (.tail _ hp)
              · intro y hy
                have h1 : y ≠ Str.ofString "phase" := fun e => hy (by rw [e]; exact .head _)
                have h2 : y ≠ Str.ofString "spans" := fun e => hy (by rw [e]; exact .tail _ (.head _))
                simp only [mF17, mF13, mF12, if_neg h1, if_neg h2, if_neg hy]
        · rintro u21 ⟨rest21, tr21, pl21, tp21, c21⟩ h21 tk21 hpl21 F21 N21
          clear F11 NS
          dsimp only at hpl21 F21 N21 ⊢
          k_steps)
end
end Mine
theorem PySem.Challenge.cw_qd0123_01_holds : PySem.Challenge.rw_qd0123_01.Holds :=
  Mine.all_ok
