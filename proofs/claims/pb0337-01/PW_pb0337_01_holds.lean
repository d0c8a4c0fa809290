import PyProof.Rows.All
import Wide.All
import OpenK.AllK
import Wide.FinOn
import PySem.Challenge.RW_pb0337_01
open PySem PySem.W PyProof.Rows
set_option Elab.async false
set_option compiler.extract_closed false
namespace Mine
def isDef : Stmt → Bool
  | .FunctionDef .. => true
  | .ClassDef .. => true
  | _ => false
def onlyDefs (p : Program) : Program := { p with main := { p.main with body := p.main.body.filter isDef } }
def viewP : Program := onlyDefs PySem.Challenge.pw_pb0337_01
theorem hl_of {p : Program} {N : Nat} {α : Type} {F : Shared → α} {G : World → α} (e : opening p = plainProg p.main.scope.names) (hN : Nat.ble 600 N = true) (f : ∀ s, fenceModules? p s = some s)
    (h : ∀ (w : World) (os : OsState), (topFrom treeTable p w N { heap := boot_heap w.params, gens := Array.mk [], drawn := boot_drawn, toks := boot_toks, os := os }).map F = some (G w)) :
    ∀ w, (openEnds treeTable p w N).map F = some (G w) := by
  intro w
  obtain ⟨s, hs, hv⟩ := Option.map_eq_some_iff.mp (boot_open e hN f w)
  unfold openEnds
  rw [hs]
  have e1 : s = { heap := boot_heap w.params, gens := Array.mk [], drawn := boot_drawn, toks := boot_toks, os := s.os } := by
    cases s
    simp only [Prod.mk.injEq] at hv
    obtain ⟨h1, h2, h3, h4⟩ := hv
    subst h1 h2 h3 h4
    rfl
  rw [e1]
  exact h w s.os
section
local macro_rules | `(tactic| o_law) => `(tactic| refine holds_law (by rw [Fast.te9446332074065402090]; decide +kernel) fun said => ?_)
local macro_rules | `(tactic| o_head $H) => `(tactic| (refine holds_open (q := viewP) (loose := []) (Xt := fun s => xlAt viewP [] s && recOk [] s) (XP := XL viewP []) (Yf := Hook.obs $H) (Ya := Hook.val $H) (YP := Hook.says $H) (N := 3514) ?hl (Hook.of $H) (Hook.keeps $H) (fun s e => xl_of s (Bool.and_eq_true_iff.mp e).1) XL.keeps (by rfl) (by rfl) (by rfl) (fun s e => recFacts_of (Bool.and_eq_true_iff.mp e).2) (by rfl) (by first | assumption | decide +kernel) (by decide +kernel) ⟨rfl, rfl, rfl, rfl, rfl, by decide +kernel⟩ ?hw ?hc; (case hl => (refine hl_of (by kernel_rfl) rfl (fun s => rfl) ?_; intro w os; unfold topFrom; rw [Fast.te14082659384304107361, Fast.te14364793385576792824]; kernel_rfl))))
set_option maxRecDepth 100000 in
set_option maxHeartbeats 8000000 in
open_top hd for PySem.Challenge.rw_pb0337_01
end
set_option maxRecDepth 100000

section
open PySem PySem.W PySem.Spec PySem.Calls PyProof.Rows
local macro_rules | `(tactic| k_room) => `(tactic| ktr_room)
local macro_rules | `(tactic| k_enter) => `(tactic| (refine code_def (by k_asm) (by k_asm) (by k_asm) (by k_asm) (by k_asm) rfl rfl (by first | exact rfl | assumption) (by k_is) (by k_is) (by ktr_room) (by first | exact BindsTo.of_eq rfl | exact binds_K (by k_in) rfl (by k_is) rfl rfl rfl | fail "k_enter: no rule for these arguments") (locs rfl) ?_ rfl rfl rfl (by decide); k_whole; intro g' L' h' FG' F' N' B' X' T'; (try dsimp only); (try k_lift B'); (try k_fold)))

section
open PySem PySem.W PySem.Spec PySem.Calls PyProof.Rows

abbrev prg : Program := PySem.Challenge.rw_pb0337_01.row.prog
theorem getL_head {name : Str} {hh : Int} {t : Tok} {v : Value} {tl : List DictEntry} : getL name (⟨hh, .str name t, v⟩ :: tl) = some (some v) := by
  simp [getL, Value.isStr]
theorem getL_headS {name : Str} {hh : Int} {t : Tok} {v : Value} {tl : List DictEntry} : (getL name (⟨hh, .str name t, v⟩ :: tl)).isSome = true := by
  rw [getL_head]; rfl
theorem putL_head {name : Str} {hh hsh : Int} {key : Value} {t : Tok} {v v' : Value} {n : Nat} {tl : List DictEntry} : (putL name hsh key v' (⟨hh, .str name t, v⟩ :: tl), putN name (⟨hh, .str name t, v⟩ :: tl) n) = (⟨hh, .str name t, v'⟩ :: tl, n) := by
  simp [putL, putN, Value.isStr]
local macro_rules | `(tactic| k_get) => `(tactic| first | exact getL_head | exact getL_headS)
local macro_rules | `(tactic| k_put) => `(tactic| exact putL_head)

local macro_rules | `(tactic| walk_at "setAttr ref") => `(tactic| (k_here; k_dflt (refine set_dict (by k_asm) (by k_asm) (by k_asm) (by k_inst) rfl (by k_is) (by k_is) (by k_is) (by k_is) (by k_get) (by k_put) (by k_upd) (by (rw [List.length_cons]; omega)) ?_; k_whole; intro h' F' N'; (try k_sweep))))
theorem news_pick {h₀ h : Heap} {L : Addr} {l rest : List (Addr × Obj)} {p q : Addr × Obj} (N : News h₀ L h l) (h1 : p ∈ l) (h2 : q ∈ l) (h3 : ∀ r ∈ rest, r ∈ l) : News h₀ L h (p :: q :: rest) := by
  intro r hr
  rcases List.mem_cons.mp hr with rfl | hr
  · exact N _ h1
  rcases List.mem_cons.mp hr with rfl | hr
  · exact N _ h2
  · exact N _ (h3 _ hr)
theorem off_lt {l : List (Addr × Obj)} {d x : Addr} (h : ∀ p ∈ l, p.1 < d) (h2 : @LT.lt Nat _ d x) : OwnOff l [x, d] := by
  intro p hp b hb
  have h3 := h p hp
  rcases List.mem_cons.mp hb with rfl | hb
  · exact Nat.ne_of_lt (Nat.lt_trans h3 h2)
  · rw [List.mem_singleton.mp hb]; exact Nat.ne_of_lt h3
section
variable {w : World} {p : Program} {loose : List Str} {mean : ExcName → Option Value} {mg mb : Str → Option Value}
set_option maxHeartbeats 8000000 in
theorem new_in {dp un : Nat} {gd : Option (List Code)} {cn : Str} {cs : Scope} {a : Addr} {ccd : Value} {cl : List (Str × Addr)} {outer : List Env} {A₀ : Around} {base h₀ : Heap} {L : Addr} {m : Str → Option Value} {s : Shared}
    {Q E : Value → Shared → Prop} {xa da : Addr} {hh c : Int} {form : Str} {size : Int} {tc t tf ts : Tok} {n : Nat} {tl : List DictEntry} {rest : List (Addr × Obj)} 
    (B : Below A₀ base outer h₀) (F : Fr h₀ L s.heap m) (X : (hd.heap_1 w.params).In h₀) (hoff : OwnOff rest [xa, da]) (N : News h₀ L s.heap ((xa, instObj 207 da) :: (da, dictOf (⟨hh, .str (Str.ofString "counter") tc, .int c t⟩ :: tl) n) :: rest)) (T : Top p loose mean mg mb h₀) (hk : cs.kind = .function)
    (hpc : @Ne Nat xa da) (htl : tl.length ≤ 20)
    (hd : dp + 3 < recursionLimit)
    (hret : ∀ r h' t' tk', Fr h₀ L h' m → News h₀ L h' ((xa, instObj 207 da) :: (da, dictOf (⟨hh, .str (Str.ofString "counter") tc, .int (c + 1) t'⟩ :: tl) n) :: rest) → Q (.ref r) { s with heap := h', toks := tk' }) :
    wpAny (model prg w) (ktrTop dp un gd cn cs L a ccd cl outer) (call (.ref 197) [.ref xa, .str form tf, .int size ts]) Q E s := by
  w_top off
  revert X; unfold prg; k_fill; intro X
  have hMk := kstMark
  refine wpAny_call ?_
  k_enter
  k_steps
  all_goals (rename News _ _ _ _ => nE; exact hret _ _ _ _ (by k_asm) (news_pick nE (by k_memK) (by k_memK) (by intro p hp; k_ownIn)))
end

end

section
open PySem PySem.W PySem.Spec PySem.Calls PyProof.Rows


local macro_rules | `(tactic| walk_at "call ref") => `(tactic| (k_here; (with_reducible show wpAny _ _ (call (Value.ref 197) _) _ _ _); (with_reducible rename News _ _ _ _ => nN); k_dflt (refine new_in (by k_asm) (by k_asm) (by k_asm) (off_lt (by assumption) (by assumption)) (by exact news_pick nN (by k_memK) (by k_memK) (by intro p hp; k_ownIn)) (by k_asm) rfl (by k_ne) (Nat.le_of_ble_eq_true rfl) (by ktr_room) ?_; k_whole; intro r' h' t' tk' F' N'; (try clear nN); (try k_sweep); (try dsimp only); (try k_fold))))
abbrev ent (n : String) (h : Int) (t : Tok) (v : Value) : DictEntry := ⟨h, .str (Str.ofString n) t, v⟩
section
variable {w : World} {p : Program} {loose : List Str} {mean : ExcName → Option Value} {mg mb : Str → Option Value}
local macro_rules | `(tactic| walk_at "zz0") => `(tactic| skip)
set_option maxHeartbeats 8000000 in
theorem types_in {dp un : Nat} {gd : Option (List Code)} {cn : Str} {cs : Scope} {a : Addr} {ccd : Value} {cl : List (Str × Addr)} {outer : List Env} {A₀ : Around} {base h₀ : Heap} {L : Addr} {m : Str → Option Value} {s : Shared}
    {Q E : Value → Shared → Prop} {rest : List (Addr × Obj)}
    (B : Below A₀ base outer h₀) (F : Fr h₀ L s.heap m) (X : (hd.heap_1 w.params).In h₀) (N : News h₀ L s.heap rest) (T : Top p loose mean mg mb h₀) (hk : cs.kind = .function)
    (hd : dp + 8 < recursionLimit) 
    (hret : ∀ x d k1 k2 k3 k4 k5 k6 k7 k8 k9 t1 t2 t3 t4 t5 t6 t7 t8 t9 v1 v2 r3 r4 r5 r6 r7 r8 r9 h' tk', Fr h₀ L h' m → News h₀ L h' ((x, instObj 207 d) :: (d, dictOf [ent "counter" k1 t1 v1, ent "known" k2 t2 v2, ent "boolean" k3 t3 (.ref r3), ent "char" k4 t4 (.ref r4), ent "byte" k5 t5 (.ref r5), ent "integer" k6 t6 (.ref r6), ent "mask" k7 t7 (.ref r7), ent "nil" k8 t8 (.ref r8), ent "none" k9 t9 (.ref r9)] 9) :: rest) → (∀ p ∈ rest, p.1 < d) → @LT.lt Nat _ d x → Q (.ref x) { s with heap := h', toks := tk' }) :
    wpAny (model prg w) (ktrTop dp un gd cn cs L a ccd cl outer) (call (.ref 207) []) Q E s := by
  w_top off
  revert X; unfold prg; k_fill; intro X
  have hMk := kstMark
  k_steps
  all_goals (rename News _ _ _ _ => nE; exact hret _ _ _ _ _ _ _ _ _ _ _ _ _ _ _ _ _ _ _ _ _ _ _ _ _ _ _ _ _ _ _ (by k_asm) nE (by assumption) (by assumption))
end

end
end

section
open PySem PySem.W PySem.Spec PySem.Calls PyProof.Rows

section
open PySem PySem.W PySem.Spec PySem.Calls PyProof.Rows


section
variable {w : World} {p : Program} {loose : List Str} {mean : ExcName → Option Value} {mg mb : Str → Option Value}

theorem fd_lt {v b m : Int} (h0 : 0 ≤ v) (h1 : v < b) (hm : 1 ≤ m) : 0 ≤ v.fdiv m ∧ v.fdiv m < b := by
  have e : v.fdiv m = v / m := Int.fdiv_eq_ediv_of_nonneg _ (by omega)
  rw [e]
  refine ⟨Int.ediv_nonneg h0 (by omega), Int.lt_of_le_of_lt ?_ h1⟩
  exact Int.ediv_le_self _ h0
theorem fm_lt {v m : Int} (hm : 1 ≤ m) : 0 ≤ v.fmod m ∧ v.fmod m < m := ⟨Int.fmod_nonneg_of_pos _ (by omega), Int.fmod_lt_of_pos _ (by omega)⟩
theorem big_lt {x : Int} (h : x < 2305843009213693951) : x < 10 ^ 60 := Int.lt_trans h (by decide)
abbrev poolO (p0 p1 : Int) (t0 t1 : Tok) (ca : Addr) (n : Nat) : Obj := listOf #[.int p0 t0, .int p1 t1, .ref ca] n

set_option maxHeartbeats 8000000 in
theorem draw_in {dp un : Nat} {gd : Option (List Code)} {cn : Str} {cs : Scope} {a : Addr} {ccd : Value} {cl : List (Str × Addr)} {outer : List Env} {A₀ : Around} {base h₀ : Heap} {L : Addr} {m : Str → Option Value} {s : Shared}
    {Q E : Value → Shared → Prop} {pa ca : Addr} {rest : List (Addr × Obj)} {p0 p1 most : Int} {t0 t1 tm : Tok} {n nc : Nat} {vs : List Value} {ns : List Int}
    (B : Below A₀ base outer h₀) (F : Fr h₀ L s.heap m) (X : (hd.heap_1 w.params).In h₀) (N : News h₀ L s.heap ((pa, poolO p0 p1 t0 t1 ca n) :: (ca, listOf vs.toArray nc) :: rest)) (T : Top p loose mean mg mb h₀) (hk : cs.kind = .function)
    (hoff : OwnOff rest [pa]) (hpc : @Ne Nat pa ca)
    (hi : IntsAre vs ns) (hne : 1 ≤ ns.length) (hlen : ns.length ≤ 64) (h0 : 0 ≤ p0) (h1 : p0 < 10 ^ 60) (h2 : 0 ≤ p1) (h3 : p1 < 2000) (hm : 1 ≤ most) (hm2 : most ≤ 20)
    (hd : dp + 1 < recursionLimit)
    (hret : ∀ d td p0' p1' t0' t1' h' tk', 0 ≤ d → d < most → 0 ≤ p0' → p0' < 10 ^ 60 → p1 ≤ p1' → p1' ≤ p1 + 1 → Fr h₀ L h' m → News h₀ L h' ((pa, poolO p0' p1' t0' t1' ca n) :: (ca, listOf vs.toArray nc) :: rest) → Q (.int d td) { s with heap := h', toks := tk' }) :
    wpAny (model prg w) (ktrTop dp un gd cn cs L a ccd cl outer) (call (.ref 218) [.ref pa, .int most tm]) Q E s := by
  w_top off
  revert X; unfold prg; k_fill; intro X
  refine wpAny_call ?_
  k_dflt ktr_enter
  k_steps
  · refine hret _ _ _ _ _ _ _ _ ?_ ?_ ?_ ?_ ?_ ?_ (by k_asm) (by k_asm) <;> first | assumption | omega
  · have e : (10 : Int) ^ Int.toNat 60 = 10 ^ 60 := rfl
    have a := @fm_lt ((ns.getD (p1.fmod ↑ns.length).toNat 0)) (10 ^ 60) (by decide)
    refine hret _ _ _ _ _ _ _ _ (fm_lt hm).1 (fm_lt hm).2 (fd_lt a.1 a.2 hm).1 (fd_lt a.1 a.2 hm).2 ?_ ?_ (by k_asm) (by k_asm) <;> omega
  · have a := @fm_lt (((ns.getD (p1.fmod ↑ns.length).toNat 0).fmod 2305843009213693951 + 104729 * p1 + 17) * (6364136223846793005 + 2 * p1)) 2305843009213693951 (by decide)
    refine hret _ _ _ _ _ _ _ _ (fm_lt hm).1 (fm_lt hm).2 (fd_lt a.1 (big_lt a.2) hm).1 (fd_lt a.1 (big_lt a.2) hm).2 ?_ ?_ (by k_asm) (by k_asm) <;> omega
  · have a := @fm_lt (((ns.getD (p1.fmod ↑ns.length).toNat 0).fmod 2305843009213693951 + 104729 * p1 + 17) * (6364136223846793005 + 2 * p1)) 2305843009213693951 (by decide)
    refine hret _ _ _ _ _ _ _ _ (fm_lt hm).1 (fm_lt hm).2 (fd_lt a.1 (big_lt a.2) hm).1 (fd_lt a.1 (big_lt a.2) hm).2 ?_ ?_ (by k_asm) (by k_asm) <;> omega
  · refine hret _ _ _ _ _ _ _ _ (fm_lt hm).1 (fm_lt hm).2 (fd_lt h0 h1 hm).1 (fd_lt h0 h1 hm).2 ?_ ?_ (by k_asm) (by k_asm) <;> omega

def PoolOk (p0 p1 k : Int) : Prop := 0 ≤ p0 ∧ p0 < 10 ^ 60 ∧ 0 ≤ p1 ∧ p1 ≤ k
theorem draw_U {dp un : Nat} {gd : Option (List Code)} {cn : Str} {cs : Scope} {a : Addr} {ccd : Value} {cl : List (Str × Addr)} {outer : List Env} {A₀ : Around} {base h₀ : Heap} {L : Addr} {m : Str → Option Value} {s : Shared}
    {Q E : Value → Shared → Prop} {pa ca : Addr} {news : List (Addr × Obj)} {g : Obj → List (Addr × Obj)} {p0 p1 most k : Int} {t0 t1 tm : Tok} {n nc : Nat} {vs : List Value} {ns : List Int}
    (B : Below A₀ base outer h₀) (F : Fr h₀ L s.heap m) (X : (hd.heap_1 w.params).In h₀) (N : News h₀ L s.heap news) (T : Top p loose mean mg mb h₀) (hk : cs.kind = .function)
    (U : UpdF pa (poolO p0 p1 t0 t1 ca n) news g) (hc : (ca, listOf vs.toArray nc) ∈ news) (hpc : @Ne Nat pa ca)
    (hi : IntsAre vs ns) (hne : 1 ≤ ns.length) (hlen : ns.length ≤ 64) (hp : PoolOk p0 p1 k) (hk2 : k < 2000) (hm : 1 ≤ most) (hm2 : most ≤ 20)
    (hd : dp + 1 < recursionLimit)
    (hret : ∀ d td p0' p1' t0' t1' h' tk', 0 ≤ d → d < most → PoolOk p0' p1' (k + 1) → Fr h₀ L h' m → News h₀ L h' (g (poolO p0' p1' t0' t1' ca n)) → Q (.int d td) { s with heap := h', toks := tk' }) :
    wpAny (model prg w) (ktrTop dp un gd cn cs L a ccd cl outer) (call (.ref 218) [.ref pa, .int most tm]) Q E s := by
  obtain ⟨pre, post, rfl, hg, ha, hb⟩ := U.split
  obtain ⟨q1, q2, q3, q4⟩ := hp
  have hc' : (ca, listOf vs.toArray nc) ∈ pre ++ post := by
    rcases List.mem_append.mp hc with h | h
    · exact List.mem_append.mpr (.inl h)
    · rcases List.mem_cons.mp h with h | h
      · exact absurd (congrArg Prod.fst h).symm hpc
      · exact List.mem_append.mpr (.inr h)
  refine draw_in (rest := pre ++ post) (t0 := t0) (t1 := t1) (n := n) (nc := nc) B F X (N := fun r hr => N r ?_) T hk ?_ hpc hi hne hlen q1 q2 q3 (by omega) hm hm2 hd (fun d td p0' p1' t0' t1' h' tk' d1 d2 e1 e2 e3 e4 F' N' => hret d td p0' p1' t0' t1' h' tk' d1 d2 ⟨e1, e2, by omega, by omega⟩ F' ?_)
  · rcases List.mem_cons.mp hr with rfl | hr
    · exact List.mem_append.mpr (.inr (.head _))
    · rcases List.mem_cons.mp hr with rfl | hr
      · exact hc
      · rcases List.mem_append.mp hr with h | h
        · exact List.mem_append.mpr (.inl h)
        · exact List.mem_append.mpr (.inr (.tail _ h))
  · intro q hq b hb'
    rw [List.mem_singleton.mp hb']
    rcases List.mem_append.mp hq with h | h
    · exact ha q h
    · exact hb q h
  · rw [hg]
    intro r hr
    rcases List.mem_append.mp hr with h | h
    · exact N' r (.tail _ (.tail _ (List.mem_append.mpr (.inl h))))
    · rcases List.mem_cons.mp h with rfl | h
      · exact N' _ (.head _)
      · exact N' r (.tail _ (.tail _ (List.mem_append.mpr (.inr h))))
end

end

section
open PySem PySem.W PySem.Spec PySem.Calls PyProof.Rows
section
variable {P : Params} {oc : Value} {od : Option Addr} {name qual : Str} {params : Arguments} {body : List Stmt} {scope : Scope} {dV kV doc pm cdv ct : Value} {an : Option Addr} {osl : Array (Option Value)}
noncomputable def fbody (_ : List.lookup 230 (hd.heap_1 P) = some ⟨oc, od, .func (fnOf name qual params body scope dV kV doc pm an cdv ct), osl⟩) : List Stmt := body
noncomputable def fscope (_ : List.lookup 230 (hd.heap_1 P) = some ⟨oc, od, .func (fnOf name qual params body scope dV kV doc pm an cdv ct), osl⟩) : Scope := scope
end
theorem is_some {o : Option Obj} {x : Obj} (h : o = some x) : o = some x := h
set_option maxHeartbeats 4000000
noncomputable def lawBody (P : Params) : List Stmt := fbody (P := P) (by with_unfolding_all exact rfl)
noncomputable def lawScope (P : Params) : Scope := fscope (P := P) (by with_unfolding_all exact rfl)
section
variable {b : List Stmt} {s0 s1 s2 s3 s4 s5 s6 s7 s8 s9 s10 s11 : Stmt} {tg tg2 it it2 : Expr} {bd bd2 oe oe2 : List Stmt} {ps ps2 : Pos}
noncomputable def forGOf (_ : b = [s0, s1, s2, s3, s4, s5, s6, s7, s8, s9, s10, s11]) : Stmt := s4
noncomputable def forMOf (_ : b = [s0, s1, s2, s3, s4, s5, s6, s7, s8, s9, s10, s11]) : Stmt := s10
noncomputable def retOf (_ : b = [s0, s1, s2, s3, s4, s5, s6, s7, s8, s9, s10, s11]) : Stmt := s11
noncomputable def bodyOfFor {s : Stmt} (_ : s = .For tg it bd oe ps) : List Stmt := bd
end
noncomputable def forG (P : Params) : Stmt := forGOf (b := lawBody P) (by unfold lawBody fbody; exact rfl)
noncomputable def forM (P : Params) : Stmt := forMOf (b := lawBody P) (by unfold lawBody fbody; exact rfl)
noncomputable def retS (P : Params) : Stmt := retOf (b := lawBody P) (by unfold lawBody fbody; exact rfl)
noncomputable def mainB (P : Params) : List Stmt := bodyOfFor (s := forM P) (by unfold forM forMOf; exact rfl)
section
variable {b : List Stmt} {s0 : Stmt} {t0 t1 t2 t3 : Expr} {b0 b1 b2 b3 b4 : List Stmt} {p0 p1 p2 p3 : Pos}
noncomputable def k0Of (_ : b = [s0, .If t0 b0 [.If t1 b1 [.If t2 b2 [.If t3 b3 b4 p3] p2] p1] p0]) : List Stmt := b0
noncomputable def k1Of (_ : b = [s0, .If t0 b0 [.If t1 b1 [.If t2 b2 [.If t3 b3 b4 p3] p2] p1] p0]) : List Stmt := b1
noncomputable def k2Of (_ : b = [s0, .If t0 b0 [.If t1 b1 [.If t2 b2 [.If t3 b3 b4 p3] p2] p1] p0]) : List Stmt := b2
noncomputable def k3Of (_ : b = [s0, .If t0 b0 [.If t1 b1 [.If t2 b2 [.If t3 b3 b4 p3] p2] p1] p0]) : List Stmt := b3
noncomputable def k4Of (_ : b = [s0, .If t0 b0 [.If t1 b1 [.If t2 b2 [.If t3 b3 b4 p3] p2] p1] p0]) : List Stmt := b4
end
noncomputable def kB0 (P : Params) : List Stmt := k0Of (b := mainB P) (by unfold mainB bodyOfFor; exact rfl)
noncomputable def kB1 (P : Params) : List Stmt := k1Of (b := mainB P) (by unfold mainB bodyOfFor; exact rfl)
noncomputable def kB2 (P : Params) : List Stmt := k2Of (b := mainB P) (by unfold mainB bodyOfFor; exact rfl)
noncomputable def kB3 (P : Params) : List Stmt := k3Of (b := mainB P) (by unfold mainB bodyOfFor; exact rfl)
noncomputable def kB4 (P : Params) : List Stmt := k4Of (b := mainB P) (by unfold mainB bodyOfFor; exact rfl)
noncomputable abbrev lawEnv (P : Params) (L fa : Addr) (cd : Value) : Env := envOfC (Str.ofString "law") (lawScope P) L fa cd

end

section
open PySem PySem.W PySem.Spec PySem.Calls PyProof.Rows
/-- the runner's dict, by its names -/
abbrev runD (h : Nat → Int) (t : Nat → Tok) (v : Nat → Value) (roA rgA : Addr) : List DictEntry :=
  [ent "limit" (h 0) (t 0) (v 0), ent "steps" (h 1) (t 1) (v 1), ent "depth" (h 2) (t 2) (v 2), ent "most_depth" (h 3) (t 3) (v 3), ent "count" (h 4) (t 4) (v 4), ent "globals" (h 5) (t 5) (v 5), ent "procs" (h 6) (t 6) (v 6), ent "out" (h 7) (t 7) (.ref roA), ent "given" (h 8) (t 8) (.ref rgA), ent "tracer" (h 9) (t 9) (v 9), ent "value_of" (h 10) (t 10) (v 10), ent "call" (h 11) (t 11) (v 11), ent "execute" (h 12) (t 12) (v 12), ent "host" (h 13) (t 13) (v 13)]
abbrev typD (h : Nat → Int) (t : Nat → Tok) (v : Nat → Value) (r : Nat → Addr) : List DictEntry :=
  [ent "counter" (h 0) (t 0) (v 0), ent "known" (h 1) (t 1) (v 1), ent "boolean" (h 2) (t 2) (.ref (r 2)), ent "char" (h 3) (t 3) (.ref (r 3)), ent "byte" (h 4) (t 4) (.ref (r 4)), ent "integer" (h 5) (t 5) (.ref (r 5)), ent "mask" (h 6) (t 6) (.ref (r 6)), ent "nil" (h 7) (t 7) (.ref (r 7)), ent "none" (h 8) (t 8) (.ref (r 8))]
abbrev heldD (h : Nat → Int) (t : Nat → Tok) (v : Nat → Value) (hc : Addr) : List DictEntry :=
  [ent "length" (h 0) (t 0) (v 0), ent "element" (h 1) (t 1) (v 1), ent "cells" (h 2) (t 2) (.ref hc)]
/-- what the law's loop has made, in the order of the making -/
abbrev led (L ca pa td ta rd ra roA gA rgA hdd ha hc va oA : Addr) (oP oH : Obj) (n nc : Nat) (vs : List Value) (rh : Nat → Int) (rt : Nat → Tok) (rv : Nat → Value) (th : Nat → Int) (tt : Nat → Tok) (tv : Nat → Value) (tr : Nat → Addr) (eh : Nat → Int) (et : Nat → Tok) (ev : Nat → Value)
    (p0 p1 : Int) (t0 t1 : Tok) (ro : List Value) (nro : Nat) (rg : List Value) (nrg : Nat) (g : List Value) (ng : Nat) (oC : Obj) (vals : List Value) (nv : Nat) (o : List Value) (no : Nat) : List (Addr × Obj) :=
  [(pa, poolO p0 p1 t0 t1 ca n), (ca, listOf vs.toArray nc), (roA, listOf ro.toArray nro), (oA, listOf o.toArray no), (ra, instObj 101 rd), (rd, dictOf (runD rh rt rv roA rgA) 14), (rgA, listOf rg.toArray nrg), (gA, listOf g.toArray ng), (ta, instObj 207 td), (td, dictOf (typD th tt tv tr) 9), (ha, instObj 38 hdd), (hdd, dictOf (heldD eh et ev hc) 3), (hc, oC), (va, listOf vals.toArray nv), (L + 1, oP), (L + 1 + 1, oH)]
def Asc : List Nat → Prop
  | a :: b :: r => a < b ∧ Asc (b :: r)
  | _ => True
abbrev lawPS (ra ta gA va oA : Addr) : List (Str × Value) := [(Str.ofString "runner", .ref ra), (Str.ofString "types", .ref ta), (Str.ofString "given", .ref gA), (Str.ofString "values", .ref va), (Str.ofString "out", .ref oA)]
theorem fr_kst {h₀ h : Heap} {L : Addr} {m : Str → Option Value} {ps : List (Str × Value)} (F : Fr h₀ L h m) (hm : ∀ p ∈ ps, m p.1 = some p.2) : Fr h₀ L h (kstB m ps) := by
  have e : kstB m ps = m := by
    funext z
    exact kstB_eq hm fun _ => rfl
  rw [e]; exact F
structure Stop (P : Prop) : Prop where
  out : P

end

section
open PySem PySem.W PySem.Spec PySem.Calls PyProof.Rows PyProof.V
def LoopJ {σ : Type} (Led : σ → List (Addr × Obj)) (ps : List (Str × Value)) (P : Nat → σ → Prop) (i : Nat) (m : Str → Option Value) (nx : List (Addr × Obj)) : Prop :=
  ∃ c : σ, nx = Led c ∧ (∀ p ∈ ps, m p.1 = some p.2) ∧ P i c
section
variable {prog : Program} {w : World} {A : Around} {E : Value → Shared → Prop} {s : Shared} {env : Env} {h₀ : Heap} {x : Str} {body : List Stmt} {Q : Flow → Shared → Prop}
theorem my_range {σ : Type} {r : Addr} {b₀ : Int} {t₀ u₀ v₀ : Tok} {n : Nat} {m₀ : Str → Option Value} (Led : σ → List (Addr × Obj)) (ps : List (Str × Value)) (P : Nat → σ → Prop) (c₀ : σ)
    (hh : A.handled = none) (hr : IsRange s.heap r 0 b₀ 1 t₀ u₀ v₀) (hsmall : Builtin.Range.small 0 b₀ 1 = true) (hn : Builtin.Range.rangeSize 0 b₀ 1 = (n : Int)) (F : Fr h₀ env.locals s.heap m₀) (N : News h₀ env.locals s.heap (Led c₀)) (hx : ∀ p ∈ ps, p.1 ≠ x) (hk : ∀ p ∈ ps, m₀ p.1 = some p.2) (hp : P 0 c₀)
    (turn : ∀ (c : σ) (i : Nat) t (u : Str → Option Value) h tk own, i < n → OwnOff own ((Led c₀).map (·.1)) → P i c →
      Fr h₀ env.locals h (kstB u ((x, .int (i : Int) t) :: ps)) → News h₀ env.locals h (Led c ++ own) →
      wpAny (model prog w) A (execs body env) (InvPostN h₀ env.locals (LoopJ Led ps P (i + 1)) own ((Led c₀).map (·.1)) { s with heap := h, toks := tk } Q) E { s with heap := h, toks := tk })
    (done : ∀ (c : σ) (u : Str → Option Value) h tk, P n c → Fr h₀ env.locals h (kstB u ps) → News h₀ env.locals h (Led c) → Q .next { s with heap := h, toks := tk }) :
    wpAny (model prog w) A (pyIter (.ref r)) (fun it s₂ => LoopAtV prog w A h₀ env x body Q E it s₂) E s := by
  refine wpAny_pyIter_range hr hsmall ?_
  have W : Walks prog w A s.heap.objs.size [s.heap.objs.size] [s.heap.objs.size] n (fun i v => i < n ∧ ∃ t, v = .int (0 + i * 1) t)
      (fun i h => IsRangeIter h s.heap.objs.size (0 + (i : Nat) * 1) ((n : Int) - (i : Nat)) 1) := (Walks.range hh _ 0 1 n).bound
  refine loop_invN (LoopJ Led ps P) W ?_ ?_ ?_ ?_ (by show IsRangeIter _ _ _ _ _; rw [hn]; simpa using Heap.get?_push_size _ rfl) (F.push _) (fun p hp => ⟨Heap.get?_push_of_some _ (N p hp).1, (N p hp).2⟩) ⟨c₀, rfl, hk, hp⟩ ?_ ?_
  · intro hm
    exact absurd F.ns.lt ((List.mem_singleton.mp hm) ▸ Nat.lt_irrefl _)
  · intro b hb
    rw [List.mem_singleton.mp hb]
    exact next_is_new F
  · intro p hp hI
    exact absurd (Heap.lt_size (N p hp).1) ((List.mem_singleton.mp hI) ▸ Nat.lt_irrefl _)
  · intro p hp hI
    exact absurd (Heap.lt_size (N p hp).1) ((List.mem_singleton.mp hI) ▸ Nat.lt_irrefl _)
  · rintro i v m₁ nx h tk own hi ⟨_, t, rfl⟩ _ hoff ⟨c, rfl, h1, hp'⟩ F₁ N₁
    have e1 : (0 : Int) + (i : Int) * 1 = (i : Int) := by omega
    rw [e1] at F₁
    refine turn c i t _ h tk own hi hoff hp' (fr_kst F₁ ?_) N₁
    intro p hp
    rcases List.mem_cons.mp hp with rfl | hp
    · simp
    · show (if p.1 = x then _ else m₁ p.1) = _
      rw [if_neg (hx p hp)]
      exact h1 p hp
  · rintro m₁ nx h tk ⟨c, rfl, h1, hp'⟩ F₁ N₁
    exact done c _ h tk hp' (fr_kst F₁ h1) N₁
theorem loop_end {σ : Type} {Led : σ → List (Addr × Obj)} {ps : List (Str × Value)} {P : Nat → σ → Prop} {i : Nat} (c : σ) {L : Addr} {m' : Str → Option Value} {own news' : List (Addr × Obj)} {adr : List Addr} {s₁ : Shared} {h' : Heap} {tk : Nat}
    (F : Fr h₀ L h' m') (N : News h₀ L h' news') (hn : ∀ p ∈ Led c, p ∈ news') (ho : ∀ p ∈ own, p ∈ news') (ha : (Led c).map (·.1) = adr) (hk : ∀ p ∈ ps, m' p.1 = some p.2) (hp : P i c) :
    InvPostN h₀ L (LoopJ Led ps P i) own adr s₁ Q .next { s₁ with heap := h', toks := tk } :=
  InvEndN.intro F N ⟨c, rfl, hk, hp⟩ ha hn ho
theorem loop_endN {σ : Type} {Led : σ → List (Addr × Obj)} {ps : List (Str × Value)} {P : Nat → σ → Prop} {i : Nat} (c : σ) {L : Addr} {m' : Str → Option Value} {own news' : List (Addr × Obj)} {adr : List Addr} {s₁ : Shared} {h' : Heap} {tk : Nat}
    (F : Fr h₀ L h' m') (N : News h₀ L h' news') (hn : ∀ p ∈ Led c, p ∈ news') (ho : ∀ p ∈ own, p ∈ news') (ha : (Led c).map (·.1) = adr) (hk : ∀ p ∈ ps, m' p.1 = some p.2) (hp : P i c) :
    InvEndN h₀ L (LoopJ Led ps P i) own adr s₁ { s₁ with heap := h', toks := tk } :=
  InvEndN.intro F N ⟨c, rfl, hk, hp⟩ ha hn ho
theorem comp_ind {L : Addr} {m : Str → Option Value} {elt : Expr} {scope : Scope} {cl : List (Str × Addr)} {S : List (Addr × Obj) → Prop} {P : Nat → Value → Prop} {Fin : List Value → List (Addr × Obj) → Prop} {n : Nat}
    (Inv : Nat → List Value → List (Addr × Obj) → Prop)
    (turn : ∀ i ys news v I oI C oC D m₂ h tk (E' : Value → Shared → Prop), i < n → Inv i ys news → P i v → LCg.NsObj oC m₂ → m₂ x = some v → Fr h₀ L h m → News h₀ L h ((I, oI) :: (C, oC) :: (D, LCg.lst ys) :: news) → LCg.Off3 I C D news → ((@Ne Nat I C) ∧ (@Ne Nat I D) ∧ (@Ne Nat C D)) →
      wpAny (model prog w) A (eval elt (compEnvC scope cl C env)) (LCg.CompEnd h₀ L m { s with heap := h, toks := tk } I oI C oC D (LCg.lst ys) S (fun y news' => Inv (i + 1) (ys ++ [y]) news')) E' { s with heap := h, toks := tk })
    (fin : ∀ ys news, Inv n ys news → Fin ys news) :
    ∀ k i ys news, i + k = n → Inv i ys news → LCg.CompRest prog w A h₀ L m env elt x scope cl s S P Fin k i ys news := by
  intro k
  induction k with
  | zero =>
    intro i ys news hi hI
    refine LCg.CompRest.zero (fin ys news ?_)
    have : i = n := by omega
    rwa [this] at hI
  | succ k ih =>
    intro i ys news hi hI
    refine LCg.CompRest.succ ?_
    intro v I oI C oC D m₂ h tk E' hv hC hx F N off ne
    refine wpAny_mono (turn i ys news v I oI C oC D m₂ h tk E' (by omega) hI hv hC hx F N off ne) (fun y s₂ hE => ?_) fun _ _ e => e
    obtain ⟨h', tk', news', e1, F', N', off', hS', hI'⟩ := hE
    exact ⟨h', tk', news', e1, F', N', off', hS', ih (i + 1) _ _ (by omega) hI'⟩
theorem range_head {r cA : Addr} {o0 : Obj} {rest : List (Addr × Obj)} {b₀ : Int} {t₀ u₀ v₀ : Tok} {n : Nat} {m₀ : Str → Option Value} (ps : List (Str × Value)) (P : Nat → Obj → Prop)
    (hh : A.handled = none) (hr : IsRange s.heap r 0 b₀ 1 t₀ u₀ v₀) (hsmall : Builtin.Range.small 0 b₀ 1 = true) (hn : Builtin.Range.rangeSize 0 b₀ 1 = (n : Int)) (F : Fr h₀ env.locals s.heap m₀) (N : News h₀ env.locals s.heap ((cA, o0) :: rest)) (hx : ∀ p ∈ ps, p.1 ≠ x) (hk : ∀ p ∈ ps, m₀ p.1 = some p.2) (hp : P 0 o0)
    (turn : ∀ (o : Obj) (i : Nat) t (u : Str → Option Value) h tk own, i < n → OwnOff own (((cA, o0) :: rest).map (·.1)) → P i o →
      Fr h₀ env.locals h (kstB u ((x, .int (i : Int) t) :: ps)) → News h₀ env.locals h (((cA, o) :: rest) ++ own) →
      wpAny (model prog w) A (execs body env) (InvPostN h₀ env.locals (LoopJ (fun o : Obj => (cA, o) :: rest) ps P (i + 1)) own (((cA, o0) :: rest).map (·.1)) { s with heap := h, toks := tk } Q) E { s with heap := h, toks := tk })
    (done : ∀ (o : Obj) (u : Str → Option Value) h tk, P n o → Fr h₀ env.locals h (kstB u ps) → News h₀ env.locals h ((cA, o) :: rest) → Q .next { s with heap := h, toks := tk }) :
    wpAny (model prog w) A (pyIter (.ref r)) (fun it s₂ => LoopAtV prog w A h₀ env x body Q E it s₂) E s :=
  my_range (fun o : Obj => (cA, o) :: rest) ps P o0 hh hr hsmall hn F N hx hk hp turn done
def FixEnd (h₀ : Heap) (L : Addr) (m : Str → Option Value) (s₁ : Shared) (all : List (Addr × Obj)) (Inv : Value → Prop) (y : Value) (s₂ : Shared) : Prop :=
  ∃ h' tk, s₂ = { s₁ with heap := h', toks := tk } ∧ Fr h₀ L h' m ∧ News h₀ L h' all ∧ Inv y
theorem comp_fix {L : Addr} {m : Str → Option Value} {elt : Expr} {scope : Scope} {cl : List (Str × Addr)} {S : List (Addr × Obj) → Prop} {P : Nat → Value → Prop} {Fin : List Value → List (Addr × Obj) → Prop} {n : Nat} {news : List (Addr × Obj)}
    (Inv : Nat → List Value → Prop) (hS : S news) (h0 : Inv 0 [])
    (turn : ∀ i ys v I oI C oC D m₂ h tk (E' : Value → Shared → Prop), i < n → Inv i ys → P i v → LCg.NsObj oC m₂ → m₂ x = some v → Fr h₀ L h m → News h₀ L h ((I, oI) :: (C, oC) :: (D, LCg.lst ys) :: news) →
      wpAny (model prog w) A (eval elt (compEnvC scope cl C env)) (FixEnd h₀ L m { s with heap := h, toks := tk } ((I, oI) :: (C, oC) :: (D, LCg.lst ys) :: news) (fun y => Inv (i + 1) (ys ++ [y]))) E' { s with heap := h, toks := tk })
    (fin : ∀ ys, Inv n ys → Fin ys news) :
    LCg.CompRest prog w A h₀ L m env elt x scope cl s S P Fin n 0 [] news := by
  refine comp_ind (Inv := fun i ys nw => nw = news ∧ Inv i ys) ?_ ?_ n 0 [] news (Nat.zero_add _) ⟨rfl, h0⟩
  · rintro i ys nw v I oI C oC D m₂ h tk E' hi ⟨rfl, hI⟩ hv hC hx F N off ne
    refine wpAny_mono (turn i ys v I oI C oC D m₂ h tk E' hi hI hv hC hx F N) (fun y s₂ hE => ?_) fun _ _ e => e
    obtain ⟨h', tk', e1, F', N', hI'⟩ := hE
    exact ⟨h', tk', _, e1, F', N', off, hS, rfl, hI'⟩
  · rintro ys nw ⟨rfl, hI⟩
    exact fin ys hI
end

end

section
open PySem PySem.W PySem.Spec PySem.Calls PyProof.Rows PyProof.V
theorem st0 (a b c d v : Value) : stored [((0 : Int), a), (1, b), (2, c), (3, d)] 0 v = [(0, v), (1, b), (2, c), (3, d)] := by rfl
theorem pd0 (a b c d v : PyData) : putD (.int 0) v [(PyData.int 0, a), (.int 1, b), (.int 2, c), (.int 3, d)] = [(.int 0, v), (.int 1, b), (.int 2, c), (.int 3, d)] := by rfl
theorem st1 (a b c d v : Value) : stored [((0 : Int), a), (1, b), (2, c), (3, d)] 1 v = [(0, a), (1, v), (2, c), (3, d)] := by rfl
theorem pd1 (a b c d v : PyData) : putD (.int 1) v [(PyData.int 0, a), (.int 1, b), (.int 2, c), (.int 3, d)] = [(.int 0, a), (.int 1, v), (.int 2, c), (.int 3, d)] := by rfl
theorem st2 (a b c d v : Value) : stored [((0 : Int), a), (1, b), (2, c), (3, d)] 2 v = [(0, a), (1, b), (2, v), (3, d)] := by rfl
theorem pd2 (a b c d v : PyData) : putD (.int 2) v [(PyData.int 0, a), (.int 1, b), (.int 2, c), (.int 3, d)] = [(.int 0, a), (.int 1, b), (.int 2, v), (.int 3, d)] := by rfl
theorem st3 (a b c d v : Value) : stored [((0 : Int), a), (1, b), (2, c), (3, d)] 3 v = [(0, a), (1, b), (2, c), (3, v)] := by rfl
theorem pd3 (a b c d v : PyData) : putD (.int 3) v [(PyData.int 0, a), (.int 1, b), (.int 2, c), (.int 3, d)] = [(.int 0, a), (.int 1, b), (.int 2, c), (.int 3, v)] := by rfl
theorem pow31 {prog : Program} {w : World} {A : Around} {E : Value → Shared → Prop} {s : Shared} {t u : Tok} {Q : Value → Shared → Prop} (h : Q (.int 2147483648 s.toks) { s with toks := s.toks + 1 }) :
    wpAny (model prog w) A (binaryOp .Pow (.int 2 t) (.int 31 u)) Q E s := pow_int_small (by decide) (by decide) (by decide) h
theorem pop0 {prog : Program} {w : World} {A : Around} {E : Value → Shared → Prop} {s : Shared} {h₀ : Heap} {L D : Addr} {m : Str → Option Value} {news news' : List (Addr × Obj)} {x : Value} {r : List Value} {n : Nat} {u : Tok} {Q : Value → Shared → Prop}
    (F : Fr h₀ L s.heap m) (N : News h₀ L s.heap news) (U : Upd D (listOf (x :: r).toArray n) (listOf r.toArray (n + 1)) news news') (hz : r.length ≤ 1000)
    (h : ∀ h', Fr h₀ L h' m → News h₀ L h' news' → Q x { s with heap := h' }) : wpAny (model prog w) A (call (.builtin "list.pop") [.ref D, .int 0 u]) Q E s := by
  refine kl_popAt (k := 0) (p := []) (y := x) (q := r) F N rfl ?_ rfl U ?_ h
  · show seqIndex? 0 (x :: r).toArray.size = some 0
    rw [List.size_toArray, List.length_cons]
    unfold seqIndex?
    simp
  · show (x :: r).length ≤ sizeLine
    rw [List.length_cons, sizeLine_eq]; omega
theorem dec_cons {x : Int} {r : List Int} : decide (x :: r = []) = false := by simp
theorem ints4 {a b c d : Int} {t0 t1 t2 t3 : Tok} : IntsAre [.int a t0, .int b t1, .int c t2, .int d t3] [a, b, c, d] := .cons _ _ (.cons _ _ (.cons _ _ (.cons _ _ .nil)))
theorem three_of {d : Int} (h0 : 0 ≤ d) (h1 : d < 3) : d = 0 ∨ d = 1 ∨ d = 2 := by omega
theorem se0 {a b c d x : Value} : [a, b, c, d].set (Int.toNat 0) x = [x, b, c, d] := rfl
theorem se1 {a b c d x : Value} : [a, b, c, d].set (Int.toNat 1) x = [a, x, c, d] := rfl
theorem se2 {a b c d x : Value} : [a, b, c, d].set (Int.toNat 2) x = [a, b, x, d] := rfl
theorem se3 {a b c d x : Value} : [a, b, c, d].set (Int.toNat 3) x = [a, b, c, x] := rfl

end

section
open PySem PySem.W PySem.Spec PySem.Calls PyProof.Rows
structure Apt (as : List Addr) (own : List (Addr × Obj)) : Prop where
  nd : as.Nodup
  off : OwnOff own as
theorem off_of {own : List (Addr × Obj)} {as : List Addr} {d : Addr} (h : OwnOff own as) (hd : d ∈ as) : ∀ p ∈ own, p.1 ≠ d := fun p hp => h p hp d hd
theorem updF_at {d : Addr} {o : Obj} {own : List (Addr × Obj)} : ∀ {l : List (Addr × Obj)} (i : Nat), (l.map Prod.fst).Nodup → OwnOff own (l.map Prod.fst) → l[i]? = some (d, o) →
    UpdF d o (l ++ own) (fun o' => l.set i (d, o') ++ own)
  | [], _, _, _, e => nomatch e
  | p :: r, 0, hn, ho, e => by
    simp only [List.getElem?_cons_zero, Option.some.injEq] at e
    subst e
    refine UpdF.head fun q hq => ?_
    have hn' := List.nodup_cons.mp hn
    rcases List.mem_append.mp hq with hq | hq
    · intro e
      have h3 := List.mem_map_of_mem (f := Prod.fst) hq
      rw [e] at h3
      exact hn'.1 h3
    · exact ho q hq d (List.mem_cons_self ..)
  | p :: r, i + 1, hn, ho, e => by
    have hn' := List.nodup_cons.mp hn
    simp only [List.getElem?_cons_succ] at e
    refine UpdF.tail ?_ (updF_at i hn'.2 (fun q hq b hb => ho q hq b (List.mem_cons_of_mem _ hb)) e)
    intro e'
    have h3 := List.mem_map_of_mem (f := Prod.fst) (List.mem_of_getElem? e)
    rw [e'] at hn'
    exact hn'.1 h3
theorem upd_at {d : Addr} {o o' : Obj} {l : List (Addr × Obj)} {g : Obj → List (Addr × Obj)} : UpdF d o l g → Upd d o o' l (g o')
  | .head h => .head h
  | .tail h r => .tail h (upd_at r)
section
variable {pa roA oA rgA gA hc va : Addr} {o0 o1 o2 o3 o4 o5 o6 : Obj} {rest : List (Addr × Obj)}
theorem uF0 (h : Apt [pa, roA, oA, rgA, gA, hc, va] rest) : UpdF pa o0 ((pa, o0) :: (roA, o1) :: (oA, o2) :: (rgA, o3) :: (gA, o4) :: (hc, o5) :: (va, o6) :: rest) (fun o' => (pa, o') :: (roA, o1) :: (oA, o2) :: (rgA, o3) :: (gA, o4) :: (hc, o5) :: (va, o6) :: rest) := updF_at (l := [(pa, o0), (roA, o1), (oA, o2), (rgA, o3), (gA, o4), (hc, o5), (va, o6)]) 0 h.nd h.off rfl
theorem uF1 (h : Apt [pa, roA, oA, rgA, gA, hc, va] rest) : UpdF roA o1 ((pa, o0) :: (roA, o1) :: (oA, o2) :: (rgA, o3) :: (gA, o4) :: (hc, o5) :: (va, o6) :: rest) (fun o' => (pa, o0) :: (roA, o') :: (oA, o2) :: (rgA, o3) :: (gA, o4) :: (hc, o5) :: (va, o6) :: rest) := updF_at (l := [(pa, o0), (roA, o1), (oA, o2), (rgA, o3), (gA, o4), (hc, o5), (va, o6)]) 1 h.nd h.off rfl
theorem uF2 (h : Apt [pa, roA, oA, rgA, gA, hc, va] rest) : UpdF oA o2 ((pa, o0) :: (roA, o1) :: (oA, o2) :: (rgA, o3) :: (gA, o4) :: (hc, o5) :: (va, o6) :: rest) (fun o' => (pa, o0) :: (roA, o1) :: (oA, o') :: (rgA, o3) :: (gA, o4) :: (hc, o5) :: (va, o6) :: rest) := updF_at (l := [(pa, o0), (roA, o1), (oA, o2), (rgA, o3), (gA, o4), (hc, o5), (va, o6)]) 2 h.nd h.off rfl
theorem uF3 (h : Apt [pa, roA, oA, rgA, gA, hc, va] rest) : UpdF rgA o3 ((pa, o0) :: (roA, o1) :: (oA, o2) :: (rgA, o3) :: (gA, o4) :: (hc, o5) :: (va, o6) :: rest) (fun o' => (pa, o0) :: (roA, o1) :: (oA, o2) :: (rgA, o') :: (gA, o4) :: (hc, o5) :: (va, o6) :: rest) := updF_at (l := [(pa, o0), (roA, o1), (oA, o2), (rgA, o3), (gA, o4), (hc, o5), (va, o6)]) 3 h.nd h.off rfl
theorem uF4 (h : Apt [pa, roA, oA, rgA, gA, hc, va] rest) : UpdF gA o4 ((pa, o0) :: (roA, o1) :: (oA, o2) :: (rgA, o3) :: (gA, o4) :: (hc, o5) :: (va, o6) :: rest) (fun o' => (pa, o0) :: (roA, o1) :: (oA, o2) :: (rgA, o3) :: (gA, o') :: (hc, o5) :: (va, o6) :: rest) := updF_at (l := [(pa, o0), (roA, o1), (oA, o2), (rgA, o3), (gA, o4), (hc, o5), (va, o6)]) 4 h.nd h.off rfl
theorem uF5 (h : Apt [pa, roA, oA, rgA, gA, hc, va] rest) : UpdF hc o5 ((pa, o0) :: (roA, o1) :: (oA, o2) :: (rgA, o3) :: (gA, o4) :: (hc, o5) :: (va, o6) :: rest) (fun o' => (pa, o0) :: (roA, o1) :: (oA, o2) :: (rgA, o3) :: (gA, o4) :: (hc, o') :: (va, o6) :: rest) := updF_at (l := [(pa, o0), (roA, o1), (oA, o2), (rgA, o3), (gA, o4), (hc, o5), (va, o6)]) 5 h.nd h.off rfl
theorem uF6 (h : Apt [pa, roA, oA, rgA, gA, hc, va] rest) : UpdF va o6 ((pa, o0) :: (roA, o1) :: (oA, o2) :: (rgA, o3) :: (gA, o4) :: (hc, o5) :: (va, o6) :: rest) (fun o' => (pa, o0) :: (roA, o1) :: (oA, o2) :: (rgA, o3) :: (gA, o4) :: (hc, o5) :: (va, o') :: rest) := updF_at (l := [(pa, o0), (roA, o1), (oA, o2), (rgA, o3), (gA, o4), (hc, o5), (va, o6)]) 6 h.nd h.off rfl
end
noncomputable abbrev led7 (pa roA gA rgA hc va oA ca : Addr) (n : Nat) (p0 p1 : Int) (t0 t1 : Tok) (ro : List Value) (nro : Nat) (rg : List Value) (nrg : Nat) (g : List Value) (ng : Nat) (oC : Obj) (vals : List Value) (nv : Nat) (o : List Value) (no : Nat) (rest : List (Addr × Obj)) : List (Addr × Obj) :=
  (pa, poolO p0 p1 t0 t1 ca n) :: (roA, listOf ro.toArray nro) :: (oA, listOf o.toArray no) :: (rgA, listOf rg.toArray nrg) :: (gA, listOf g.toArray ng) :: (hc, oC) :: (va, listOf vals.toArray nv) :: rest
theorem asc_hd : ∀ {a b : Nat} {s : List Nat}, Asc (a :: s) → b ∈ s → a < b
  | _, _, [], _, h => nomatch h
  | a, b, c :: r, h, hb => by
    have h1 : a < c ∧ Asc (c :: r) := h
    rcases List.mem_cons.mp hb with rfl | hb
    · exact h1.1
    · exact Nat.lt_trans h1.1 (asc_hd h1.2 hb)
theorem asc_tl : ∀ {a : Nat} {s : List Nat}, Asc (a :: s) → Asc s
  | _, [], _ => trivial
  | _, _ :: _, h => h.2
theorem asc_inj : ∀ {s : List Nat} {i j : Nat}, Asc s → i < s.length → j < s.length → i ≠ j → s.getD i 0 ≠ s.getD j 0
  | [], _, _, _, h, _, _ => nomatch h
  | a :: s, 0, 0, _, _, _, h => absurd rfl h
  | a :: s, 0, j + 1, h, _, hj, _ => by
    have hj' : j < s.length := Nat.lt_of_succ_lt_succ hj
    have e : (a :: s).getD (j + 1) 0 = s[j] := by simp [List.getD, hj']
    have e0 : (a :: s).getD 0 0 = a := rfl
    rw [e, e0]
    exact Nat.ne_of_lt (asc_hd h (List.getElem_mem hj'))
  | a :: s, i + 1, 0, h, hi, _, _ => by
    have hi' : i < s.length := Nat.lt_of_succ_lt_succ hi
    have e : (a :: s).getD (i + 1) 0 = s[i] := by simp [List.getD, hi']
    have e0 : (a :: s).getD 0 0 = a := rfl
    rw [e, e0]
    exact (Nat.ne_of_lt (asc_hd h (List.getElem_mem hi'))).symm
  | a :: s, i + 1, j + 1, h, hi, hj, hn => by
    have e : ∀ k, (a :: s).getD (k + 1) 0 = s.getD k 0 := fun k => by simp [List.getD]
    rw [e, e]
    exact asc_inj (asc_tl h) (Nat.lt_of_succ_lt_succ hi) (Nat.lt_of_succ_lt_succ hj) fun x => hn (by rw [x])
theorem asc_pick {s : List Nat} (h : Asc s) {l : List Nat} (hn : l.Nodup) (hr : ∀ i ∈ l, i < s.length) : (l.map fun i => s.getD i 0).Nodup :=
  List.pairwise_map.mpr (hn.imp_of_mem fun ha hb hne => asc_inj h (hr _ ha) (hr _ hb) hne)
theorem off_app {l : List (Addr × Obj)} {own : List (Addr × Obj)} {as : List Addr} (h : (as ++ l.map (·.1)).Nodup) (ho : OwnOff own as) : OwnOff (l ++ own) as := by
  intro p hp b hb
  rcases List.mem_append.mp hp with h1 | h1
  · exact (((List.nodup_append.mp h).2.2) b hb p.1 (List.mem_map_of_mem h1)).symm
  · exact ho p h1 b hb
section
variable {h₀ h : Heap} {ca pa td ta rd ra roA gA rgA hdd ha hc va oA : Addr} {L : Addr} {oP oH : Obj} {n nc : Nat} {vs : List Value} {rh : Nat → Int} {rt : Nat → Tok} {rv : Nat → Value} {th : Nat → Int} {tt : Nat → Tok} {tv : Nat → Value} {tr : Nat → Addr} {eh : Nat → Int} {et : Nat → Tok} {ev : Nat → Value}
  {p0 p1 : Int} {t0 t1 : Tok} {ro : List Value} {nro : Nat} {rg : List Value} {nrg : Nat} {g : List Value} {ng : Nat} {oC : Obj} {vals : List Value} {nv : Nat} {o : List Value} {no : Nat} {own : List (Addr × Obj)}
theorem off_ne {r : List (Addr × Obj)} {D a : Addr} {o : Obj} (hO : OwnOff r [D]) (h : (a, o) ∈ r) : a ≠ D := hO _ h _ (.head _)
theorem thin_ex2 (N : News h₀ L h (led L ca pa td ta rd ra roA gA rgA hdd ha hc va oA oP oH n nc vs rh rt rv th tt tv tr eh et ev p0 p1 t0 t1 ro nro rg nrg g ng oC vals nv o no ++ own)) (hoff : OwnOff own [pa, ca, roA, oA, ra, rd, rgA, gA, ta, td, ha, hdd, hc, va, L + 1, L + 1 + 1]) (hch : Asc [L + 1, L + 1 + 1, ca, pa, td, ta, rd, ra, roA, gA, rgA, hdd, ha, hc, va, oA]) :
    ∃ rest, News h₀ L h (led7 pa roA gA rgA hc va oA ca n p0 p1 t0 t1 ro nro rg nrg g ng oC vals nv o no rest) ∧ Apt [pa, roA, oA, rgA, gA, hc, va] rest ∧ ((ca, listOf vs.toArray nc) ∈ rest ∧ (ra, (⟨.ref 101, some rd, .plain, #[]⟩ : Obj)) ∈ rest ∧ (rd, dictOf (runD rh rt rv roA rgA) 14) ∈ rest ∧ (ta, (⟨.ref 207, some td, .plain, #[]⟩ : Obj)) ∈ rest ∧ (td, dictOf (typD th tt tv tr) 9) ∈ rest ∧ (ha, (⟨.ref 38, some hdd, .plain, #[]⟩ : Obj)) ∈ rest ∧ (hdd, dictOf (heldD eh et ev hc) 3) ∈ rest ∧ (L + 1, oP) ∈ rest ∧ (L + 1 + 1, oH) ∈ rest) ∧
      (∀ {h' p0 p1 t0 t1 ro nro rg nrg g ng oC vals nv o no}, News h₀ L h' (led7 pa roA gA rgA hc va oA ca n p0 p1 t0 t1 ro nro rg nrg g ng oC vals nv o no rest) → News h₀ L h' (led L ca pa td ta rd ra roA gA rgA hdd ha hc va oA oP oH n nc vs rh rt rv th tt tv tr eh et ev p0 p1 t0 t1 ro nro rg nrg g ng oC vals nv o no ++ own)) ∧
      (∀ {D : Addr}, (∀ a ∈ [pa, ca, roA, oA, ra, rd, rgA, gA, ta, td, ha, hdd, hc, va, L + 1, L + 1 + 1], a ≠ D) → OwnOff own [D] → OwnOff rest [D]) ∧ ∀ {D : Addr}, (∀ a ∈ [pa, roA, oA, rgA, gA, hc, va], a ≠ D) → OwnOff rest [D] → (∀ a ∈ [pa, ca, roA, oA, ra, rd, rgA, gA, ta, td, ha, hdd, hc, va, L + 1, L + 1 + 1], a ≠ D) ∧ OwnOff own [D] := by
  have hn : ([pa, roA, oA, rgA, gA, hc, va] ++ [ca, ra, rd, ta, td, ha, hdd, L + 1, L + 1 + 1]).Nodup := asc_pick hch (l := [3, 8, 15, 10, 9, 13, 14, 2, 7, 6, 5, 4, 12, 11, 0, 1]) (by decide) (show ∀ i ∈ [3, 8, 15, 10, 9, 13, 14, 2, 7, 6, 5, 4, 12, 11, 0, 1], i < 16 from by decide)
  refine ⟨[(ca, listOf vs.toArray nc), (ra, instObj 101 rd), (rd, dictOf (runD rh rt rv roA rgA) 14), (ta, instObj 207 td), (td, dictOf (typD th tt tv tr) 9), (ha, instObj 38 hdd), (hdd, dictOf (heldD eh et ev hc) 3), (L + 1, oP), (L + 1 + 1, oH)] ++ own, ?_, ⟨(List.nodup_append.mp hn).1, off_app hn fun p hp b hb => hoff p hp b ?_⟩, ⟨by repeat (first | exact List.Mem.head _ | refine List.Mem.tail _ ?_), by repeat (first | exact List.Mem.head _ | refine List.Mem.tail _ ?_), by repeat (first | exact List.Mem.head _ | refine List.Mem.tail _ ?_), by repeat (first | exact List.Mem.head _ | refine List.Mem.tail _ ?_), by repeat (first | exact List.Mem.head _ | refine List.Mem.tail _ ?_), by repeat (first | exact List.Mem.head _ | refine List.Mem.tail _ ?_), by repeat (first | exact List.Mem.head _ | refine List.Mem.tail _ ?_), by repeat (first | exact List.Mem.head _ | refine List.Mem.tail _ ?_), by repeat (first | exact List.Mem.head _ | refine List.Mem.tail _ ?_)⟩, ?_, fun hA hO p hp b hb => ?_, fun hA hO => ⟨?_, fun p hp => hO p (List.mem_append.mpr (.inr hp))⟩⟩
  · refine fun p hp => N p (?_ : p ∈ _)
    revert p
    show ∀ p ∈ _, p ∈ _
    iterate 16 refine List.forall_mem_cons.mpr ⟨(by repeat (first | exact List.Mem.head _ | refine List.Mem.tail _ ?_)), ?_⟩
    exact fun p hp => by repeat (first | exact hp | refine List.Mem.tail _ ?_)
  · revert b
    show ∀ b ∈ _, b ∈ _
    iterate 7 refine List.forall_mem_cons.mpr ⟨(by repeat (first | exact List.Mem.head _ | refine List.Mem.tail _ ?_)), ?_⟩
    exact List.forall_mem_nil _
  · intro h' p0 p1 t0 t1 ro nro rg nrg g ng oC vals nv o no N
    refine fun p hp => N p (?_ : p ∈ _)
    revert p
    show ∀ p ∈ _, p ∈ _
    iterate 16 refine List.forall_mem_cons.mpr ⟨(by repeat (first | exact List.Mem.head _ | refine List.Mem.tail _ ?_)), ?_⟩
    exact fun p hp => by repeat (first | exact hp | refine List.Mem.tail _ ?_)
  · rw [List.mem_singleton.mp hb]
    rcases List.mem_append.mp hp with hq | hq
    · clear hp
      revert p
      show ∀ p ∈ _, Prod.fst p ≠ _
      iterate 9 refine List.forall_mem_cons.mpr ⟨hA _ (by repeat (first | exact List.Mem.head _ | refine List.Mem.tail _ ?_)), ?_⟩
      exact List.forall_mem_nil _
    · exact hO p hq _ (.head _)
  · iterate 16 refine List.forall_mem_cons.mpr ⟨(by first | (refine hA _ ?_; (repeat (first | exact List.Mem.head _ | refine' List.Mem.tail _ ?_)); done) | exact off_ne hO (by (repeat (first | exact List.Mem.head _ | refine' List.Mem.tail _ ?_)))), ?_⟩
    exact List.forall_mem_nil _
theorem thin_ex (N : News h₀ L h (led L ca pa td ta rd ra roA gA rgA hdd ha hc va oA oP oH n nc vs rh rt rv th tt tv tr eh et ev p0 p1 t0 t1 ro nro rg nrg g ng oC vals nv o no ++ own)) (hoff : OwnOff own [pa, ca, roA, oA, ra, rd, rgA, gA, ta, td, ha, hdd, hc, va, L + 1, L + 1 + 1]) (hch : Asc [L + 1, L + 1 + 1, ca, pa, td, ta, rd, ra, roA, gA, rgA, hdd, ha, hc, va, oA]) :
    ∃ rest, News h₀ L h (led7 pa roA gA rgA hc va oA ca n p0 p1 t0 t1 ro nro rg nrg g ng oC vals nv o no rest) ∧ Apt [pa, roA, oA, rgA, gA, hc, va] rest ∧ ((ca, listOf vs.toArray nc) ∈ rest ∧ (ra, (⟨.ref 101, some rd, .plain, #[]⟩ : Obj)) ∈ rest ∧ (rd, dictOf (runD rh rt rv roA rgA) 14) ∈ rest ∧ (ta, (⟨.ref 207, some td, .plain, #[]⟩ : Obj)) ∈ rest ∧ (td, dictOf (typD th tt tv tr) 9) ∈ rest ∧ (ha, (⟨.ref 38, some hdd, .plain, #[]⟩ : Obj)) ∈ rest ∧ (hdd, dictOf (heldD eh et ev hc) 3) ∈ rest ∧ (L + 1, oP) ∈ rest ∧ (L + 1 + 1, oH) ∈ rest) ∧
      ∀ {h' p0 p1 t0 t1 ro nro rg nrg g ng oC vals nv o no}, News h₀ L h' (led7 pa roA gA rgA hc va oA ca n p0 p1 t0 t1 ro nro rg nrg g ng oC vals nv o no rest) → News h₀ L h' (led L ca pa td ta rd ra roA gA rgA hdd ha hc va oA oP oH n nc vs rh rt rv th tt tv tr eh et ev p0 p1 t0 t1 ro nro rg nrg g ng oC vals nv o no ++ own) := by
  obtain ⟨rest, a, b, c, d, _⟩ := thin_ex2 N hoff hch
  exact ⟨rest, a, b, c, d⟩
theorem news_cs {h₀ h : Heap} {L : Addr} {p : Addr × Obj} {l : List (Addr × Obj)} (N : News h₀ L h [p]) (M : News h₀ L h l) : News h₀ L h (p :: l) := fun q hq => by
  rcases List.mem_cons.mp hq with rfl | hq
  · exact N _ (.head _)
  · exact M q hq
theorem news_hd {h₀ h : Heap} {L : Addr} {p : Addr × Obj} {l : List (Addr × Obj)} (N : News h₀ L h (p :: l)) : News h₀ L h [p] := fun q hq => by
  rw [List.mem_singleton.mp hq]
  exact N _ (.head _)
end
structure Drw (pa ca : Addr) (vs : List Value) (ns : List Int) : Prop where
  ne : @Ne Nat pa ca
  hi : IntsAre vs ns
  hn : 1 ≤ ns.length
  hl : ns.length ≤ 64
theorem apt_ca {a c : Addr} {o : Obj} {r : List Addr} {rest : List (Addr × Obj)} (h : Apt (a :: r) rest) (hc : (c, o) ∈ rest) : @Ne Nat a c := fun e => h.off _ hc a (List.mem_cons_self ..) e.symm
theorem news_tl {h₀ h : Heap} {L : Addr} {p : Addr × Obj} {l : List (Addr × Obj)} (N : News h₀ L h (p :: l)) : News h₀ L h l := fun q hq => N q (.tail _ hq)
section
variable {w : World} {p : Program} {loose : List Str} {mean : ExcName → Option Value} {mg mb : Str → Option Value}
theorem draw_V {dp un : Nat} {gd : Option (List Code)} {cn : Str} {cs : Scope} {a : Addr} {ccd : Value} {cl : List (Str × Addr)} {outer : List Env} {A₀ : Around} {base h₀ : Heap} {L : Addr} {m : Str → Option Value} {s : Shared}
    {Q E : Value → Shared → Prop} {pa ca : Addr} {news : List (Addr × Obj)} {g : Obj → List (Addr × Obj)} {p0 p1 most k : Int} {t0 t1 tm : Tok} {n nc : Nat} {vs : List Value} {ns : List Int}
    (B : Below A₀ base outer h₀) (F : Fr h₀ L s.heap m) (X : (hd.heap_1 w.params).In h₀) (N : News h₀ L s.heap news) (T : Top p loose mean mg mb h₀) (hk : cs.kind = .function)
    (U : UpdF pa (poolO p0 p1 t0 t1 ca n) news g) (hc : (ca, listOf vs.toArray nc) ∈ news) (D : Drw pa ca vs ns) (hp : PoolOk p0 p1 k) (hk2 : k < 2000) (hm : 1 ≤ most ∧ most ≤ 20)
    (hd : dp + 1 < recursionLimit)
    (hret : ∀ d td p0' p1' t0' t1' h' tk', 0 ≤ d → d < most → PoolOk p0' p1' (k + 1) → Fr h₀ L h' m → News h₀ L h' (g (poolO p0' p1' t0' t1' ca n)) → Q (.int d td) { s with heap := h', toks := tk' }) :
    wpAny (model prg w) (ktrTop dp un gd cn cs L a ccd cl outer) (call (.ref 218) [.ref pa, .int most tm]) Q E s :=
  draw_U B F X N T hk U hc D.ne D.hi D.hn D.hl hp hk2 hm.1 hm.2 hd hret
end

end
end

section
open PySem PySem.W PySem.Spec PySem.Calls PyProof.Rows
local macro_rules | `(tactic| k_room) => `(tactic| ktr_room)
local macro_rules | `(tactic| k_enter) => `(tactic| (refine code_def (by k_asm) (by k_asm) (by k_asm) (by k_asm) (by k_asm) rfl rfl (by first | exact rfl | assumption) (by k_is) (by k_is) (by ktr_room) (by first | exact BindsTo.of_eq rfl | exact binds_K (by k_in) rfl (by k_is) rfl rfl rfl | fail "k_enter: no rule for these arguments") (locs rfl) ?_ rfl rfl rfl (by decide); k_whole; intro g' L' h' FG' F' N' B' X' T'; (try dsimp only); (try k_lift B'); (try k_fold)))

section
open PySem PySem.W PySem.Spec PySem.Calls PyProof.Rows
section
variable {w : World} {p : Program} {loose : List Str} {mean : ExcName → Option Value} {mg mb : Str → Option Value}
/-- k blanks, then S -/
def pad : Nat → Str → Str
  | 0, S => S
  | k + 1, S => Str.ofString " " ++ pad k S
theorem pad_len (k : Nat) (S : Str) : (pad k S).length = k + S.length := by
  induction k with
  | zero => simp [pad]
  | succ k ih => rw [pad, Str.length_append, ih, show (Str.ofString " ").length = 1 from by decide +kernel]; omega
abbrev txt (x : Int) : Str := Str.ofString (toString x)
local macro_rules | `(tactic| walk_at "exec While Compare cons nil") => `(tactic| (refine Stop.out ?_))
set_option maxHeartbeats 8000000 in
theorem padded_in {dp un : Nat} {gd : Option (List Code)} {cn : Str} {cs : Scope} {a : Addr} {ccd : Value} {cl : List (Str × Addr)} {outer : List Env} {A₀ : Around} {base h₀ : Heap} {L : Addr} {m : Str → Option Value} {s : Shared}
    {Q E : Value → Shared → Prop} {x W : Int} {tx tw : Tok} {news : List (Addr × Obj)}
    (B : Below A₀ base outer h₀) (F : Fr h₀ L s.heap m) (X : (hd.heap_1 w.params).In h₀) (N : News h₀ L s.heap news) (T : Top p loose mean mg mb h₀) (hk : cs.kind = .function)
    (hx : x.natAbs < 10 ^ 10) (hS : (txt x).length ≤ 11)
    (hd : dp + 3 < recursionLimit)
    (hret : ∀ t' h' tk', Fr h₀ L h' m → News h₀ L h' news → Q (.str (pad (min W 80 - ((txt x).length : Int)).toNat (txt x)) t') { s with heap := h', toks := tk' }) :
    wpAny (model prg w) (ktrTop dp un gd cn cs L a ccd cl outer) (call (.ref 133) [.int x tx, .int W tw]) Q E s := by
  w_top off
  revert X; unfold prg; k_fill; intro X
  refine wpAny_call ?_
  k_enter
  k_steps
  · refine Stop.mk ?_
    rename Fr _ _ _ _ => fE
    rename News _ _ _ _ => nE
    with_unfolding_all refine' ksw_while (σ := Nat × Tok) (fun _ => news) (fun c => [(Str.ofString "shown", .str (pad c.1 (txt x)) c.2)]) (fun _ => True) [] (fun c => c.1 = 0 ∨ (c.1 : Int) + ((txt x).length : Int) ≤ 80) (fun c => (80 - ((c.1 : Int) + ((txt x).length : Int))).toNat) (0, _) fE nE trivial ?kk (Or.inl rfl) ?turn
    case kk => kst_all
    case turn =>
      clear fE nE
      rintro ⟨c, tc⟩ u' h' tk' - hP F' N'
      dsimp only at hP F'
      have hl := pad_len c (txt x)
      k_steps
      · rename Fr _ _ _ _ => fE
        rename News _ _ _ _ => nE
        exact ksw_end (c + 1, _) fE nE (fun p hp => hp) trivial (by kst_all) (by (intro z h2 h3; have hz : z ≠ Str.ofString "shown" := h2 _ (List.Mem.head _); show (if z = _ then _ else if z = _ then _ else _) = _; rw [if_neg hz, if_neg hz]; rfl)) (Or.inr (by dsimp only; omega)) (by dsimp only; omega)
      · have e : c = (min W 80 - ((txt x).length : Int)).toNat := by omega
        rw [e]
        exact hret _ _ _ (by k_asm) (by k_asm)
  · refine Stop.mk ?_
    rename Fr _ _ _ _ => fE
    rename News _ _ _ _ => nE
    with_unfolding_all refine' ksw_while (σ := Nat × Tok) (fun _ => news) (fun c => [(Str.ofString "shown", .str (pad c.1 (txt x)) c.2)]) (fun _ => True) [] (fun c => c.1 = 0 ∨ (c.1 : Int) + ((txt x).length : Int) ≤ W) (fun c => (W - ((c.1 : Int) + ((txt x).length : Int))).toNat) (0, _) fE nE trivial ?kk (Or.inl rfl) ?turn
    case kk => kst_all
    case turn =>
      clear fE nE
      rintro ⟨c, tc⟩ u' h' tk' - hP F' N'
      dsimp only at hP F'
      have hl := pad_len c (txt x)
      k_steps
      · rename Fr _ _ _ _ => fE
        rename News _ _ _ _ => nE
        exact ksw_end (c + 1, _) fE nE (fun p hp => hp) trivial (by kst_all) (by (intro z h2 h3; have hz : z ≠ Str.ofString "shown" := h2 _ (List.Mem.head _); show (if z = _ then _ else if z = _ then _ else _) = _; rw [if_neg hz, if_neg hz]; rfl)) (Or.inr (by dsimp only; omega)) (by dsimp only; omega)
      · have e : c = (min W 80 - ((txt x).length : Int)).toNat := by omega
        rw [e]
        exact hret _ _ _ (by k_asm) (by k_asm)
end

end

section
open PySem PySem.W PySem.Spec PySem.Calls PyProof.Rows
section
variable {w : World} {p : Program} {loose : List Str} {mean : ExcName → Option Value} {mg mb : Str → Option Value}
abbrev digS (d : Int) : Str := Txt.item (Str.ofString "0123456789") d
def dlF : Nat → Int → Str → Str
  | 0, _, S => S
  | f + 1, r, S => if 0 < r then dlF f (r.fdiv 10) (digS (r.fmod 10) ++ S) else S
def dig0 (x : Int) : Str := dlF 10 (if x < 0 then -x else x) (if 0 < (if x < 0 then -x else x) then Str.ofString "" else Str.ofString "0")
def digF (x : Int) : Str := (if x < 0 then Str.ofString "-" else Str.ofString "") ++ dig0 x
theorem digF_ok : digF 0 = Str.ofString (toString (0:Int)) ∧ digF 7 = Str.ofString (toString (7:Int)) ∧ digF (-7) = Str.ofString (toString (-7:Int)) ∧ digF 12345 = Str.ofString (toString (12345:Int)) ∧ digF 2147483647 = Str.ofString (toString (2147483647:Int)) ∧ digF (-2147483648) = Str.ofString (toString (-2147483648:Int)) := by
  decide +kernel
theorem dig0_pos {x : Int} (h : 0 < (if x < 0 then -x else x)) : dlF 10 (if x < 0 then -x else x) (Str.ofString "") = dig0 x := by
  unfold dig0; generalize (if x < 0 then -x else x) = y at h; rw [if_pos h]
theorem dig0_neg {x : Int} (h : ¬ 0 < (if x < 0 then -x else x)) : dlF 10 (if x < 0 then -x else x) (Str.ofString "0") = dig0 x := by
  unfold dig0; generalize (if x < 0 then -x else x) = y at h; rw [if_neg h]
theorem fdiv10_lt {r : Int} (h : 0 < r) : (r.fdiv 10).toNat < r.toNat := by
  rw [Int.fdiv_eq_ediv_of_nonneg _ (by decide)]; omega
structure DgP (x r : Int) (S : Str) (f : Nat) : Prop where
  r0 : 0 ≤ r
  rf : r < 10 ^ f
  same : dlF f r S = dig0 x
  len : S.length + f ≤ 11
theorem DgP.turn {x r : Int} {S : Str} {f : Nat} (h : DgP x r S f) (hr : 0 < r) (h1 : (digS (r.fmod 10)).length = 1) : ∃ f', f = f' + 1 ∧ DgP x (r.fdiv 10) (digS (r.fmod 10) ++ S) f' := by
  obtain ⟨a, b, c, d⟩ := h
  cases f with
  | zero => simp at b; omega
  | succ f =>
    refine ⟨f, rfl, ?_, ?_, ?_, ?_⟩
    · rw [Int.fdiv_eq_ediv_of_nonneg _ (by decide)]; omega
    · rw [Int.fdiv_eq_ediv_of_nonneg _ (by decide)]
      have e : (10 : Int) ^ (f + 1) = 10 ^ f * 10 := Int.pow_succ ..
      rw [e] at b
      exact Int.ediv_lt_of_lt_mul (by decide) b
    · rw [← c, dlF, if_pos hr]
    · rw [Str.length_append, h1]; omega
theorem DgP.done {x r : Int} {S : Str} {f : Nat} (h : DgP x r S f) (hr : ¬ 0 < r) : S = dig0 x := by
  obtain ⟨a, b, c, d⟩ := h
  rw [← c]
  cases f with
  | zero => rfl
  | succ f => rw [dlF, if_neg hr]
theorem DgP.len' {x r : Int} {S : Str} {f : Nat} (h : DgP x r S f) : S.length ≤ 11 := by have := h.len; omega
local macro_rules | `(tactic| walk_at "exec While Compare cons nil") => `(tactic| (refine Stop.out ?_))
set_option maxHeartbeats 8000000 in
theorem digits_in {dp un : Nat} {gd : Option (List Code)} {cn : Str} {cs : Scope} {a : Addr} {ccd : Value} {cl : List (Str × Addr)} {outer : List Env} {A₀ : Around} {base h₀ : Heap} {L : Addr} {m : Str → Option Value} {s : Shared}
    {Q E : Value → Shared → Prop} {x : Int} {tx : Tok} {news : List (Addr × Obj)}
    (B : Below A₀ base outer h₀) (F : Fr h₀ L s.heap m) (X : (hd.heap_1 w.params).In h₀) (N : News h₀ L s.heap news) (T : Top p loose mean mg mb h₀) (hk : cs.kind = .function)
    (hx : x.natAbs < 10 ^ 10)
    (hd : dp + 3 < recursionLimit)
    (hret : ∀ t' h' tk', Fr h₀ L h' m → News h₀ L h' news → Q (.str (digF x) t') { s with heap := h', toks := tk' }) :
    wpAny (model prg w) (ktrTop dp un gd cn cs L a ccd cl outer) (call (.ref 225) [.int x tx]) Q E s := by
  w_top off
  revert X; unfold prg; k_fill; intro X
  refine wpAny_call ?_
  k_enter
  k_steps
  · refine Stop.mk ?_
    rename Fr _ _ _ _ => fE
    rename News _ _ _ _ => nE
    with_unfolding_all refine' ksw_while (σ := Int × Str × Tok × Tok) (fun _ => news) (fun c => [(Str.ofString "rest", .int c.1 c.2.2.1), (Str.ofString "said", .str c.2.1 c.2.2.2)]) (fun _ => True) [] (fun c => ∃ f, DgP x c.1 c.2.1 f) (fun c => c.1.toNat) (_, Str.ofString "", _, _) fE nE trivial ?kk ?kp ?turn
    case kk => kst_all
    case kp => exact ⟨10, by dsimp only; split <;> omega, by dsimp only; split <;> omega, dig0_pos (by assumption), Nat.le_of_ble_eq_true rfl⟩
    case turn =>
      clear fE nE
      rintro ⟨r, S, c1, c2⟩ u' h' tk' - ⟨f, hP⟩ F' N'
      dsimp only at hP F'
      have hl := hP.len'
      have hl2 := hP.r0
      k_steps
      · rename Fr _ _ _ _ => fE
        rename News _ _ _ _ => nE
        obtain ⟨f', -, hP'⟩ := hP.turn (by assumption) (by assumption)
        exact ksw_end (_, _, _, _) fE nE (fun p hp => hp) trivial (by kst_all) (by (intro z h2 h3; have hz : z ≠ Str.ofString "rest" := h2 _ (List.Mem.head _); have hy : z ≠ Str.ofString "said" := h2 _ (List.Mem.tail _ (List.Mem.head _)); show (if z = _ then _ else if z = _ then _ else if z = _ then _ else if z = _ then _ else _) = _; rw [if_neg hz, if_neg hy, if_neg hz, if_neg hy]; rfl)) ⟨f', hP'⟩ (fdiv10_lt (by assumption))
      · rw [hP.done (by assumption), show Str.ofString "-" ++ dig0 x = digF x from by unfold digF; rw [if_pos (by assumption)]]
        exact hret _ _ _ (by k_asm) (by k_asm)
      · rw [hP.done (by assumption), show Str.ofString "" ++ dig0 x = digF x from by unfold digF; rw [if_neg (by assumption)]]
        exact hret _ _ _ (by k_asm) (by k_asm)
  · refine Stop.mk ?_
    rename Fr _ _ _ _ => fE
    rename News _ _ _ _ => nE
    with_unfolding_all refine' ksw_while (σ := Int × Str × Tok × Tok) (fun _ => news) (fun c => [(Str.ofString "rest", .int c.1 c.2.2.1), (Str.ofString "said", .str c.2.1 c.2.2.2)]) (fun _ => True) [] (fun c => ∃ f, DgP x c.1 c.2.1 f) (fun c => c.1.toNat) (_, Str.ofString "0", _, _) fE nE trivial ?kk ?kp ?turn
    case kk => kst_all
    case kp => exact ⟨10, by dsimp only; split <;> omega, by dsimp only; split <;> omega, dig0_neg (by assumption), Nat.le_of_ble_eq_true rfl⟩
    case turn =>
      clear fE nE
      rintro ⟨r, S, c1, c2⟩ u' h' tk' - ⟨f, hP⟩ F' N'
      dsimp only at hP F'
      have hl := hP.len'
      have hl2 := hP.r0
      k_steps
      · rename Fr _ _ _ _ => fE
        rename News _ _ _ _ => nE
        obtain ⟨f', -, hP'⟩ := hP.turn (by assumption) (by assumption)
        exact ksw_end (_, _, _, _) fE nE (fun p hp => hp) trivial (by kst_all) (by (intro z h2 h3; have hz : z ≠ Str.ofString "rest" := h2 _ (List.Mem.head _); have hy : z ≠ Str.ofString "said" := h2 _ (List.Mem.tail _ (List.Mem.head _)); show (if z = _ then _ else if z = _ then _ else if z = _ then _ else if z = _ then _ else _) = _; rw [if_neg hz, if_neg hy, if_neg hz, if_neg hy]; rfl)) ⟨f', hP'⟩ (fdiv10_lt (by assumption))
      · rw [hP.done (by assumption), show Str.ofString "" ++ dig0 x = digF x from by unfold digF; rw [if_neg (by omega)]]
        exact hret _ _ _ (by k_asm) (by k_asm)
end

end

section
open PySem PySem.W PySem.Spec PySem.Calls PyProof.Rows PyProof.V
section
variable {w : World} {p : Program} {loose : List Str} {mean : ExcName → Option Value} {mg mb : Str → Option Value}
def dEnum (j : Nat) : List Int → List (PyData × PyData)
  | [] => []
  | k :: r => (.int (j : Int), .int k) :: dEnum (j + 1) r
def kEnum (j : Nat) : List Value → List (Int × Value)
  | [] => []
  | v :: r => ((j : Int), v) :: kEnum (j + 1) r
theorem look_enum {i : Nat} : ∀ {j : Nat} {ks : List Int}, i < ks.length → PySem.Spec.lookup (.int ((j + i : Nat) : Int)) (dEnum j ks) = some (.int (ks.getD i 0)) := by
  induction i with
  | zero =>
    intro j ks h
    cases ks with
    | nil => cases h
    | cons k r => simp [dEnum, PySem.Spec.lookup, PyProof.V.same_int]
  | succ i ih =>
    intro j ks h
    cases ks with
    | nil => cases h
    | cons k r =>
      have e := @ih (j + 1) r (Nat.lt_of_succ_lt_succ h)
      have ej : j + (i + 1) = j + 1 + i := by omega
      rw [ej]
      have hne : ¬ ((j : Int) = ((j + 1 + i : Nat) : Int)) := by omega
      simp only [dEnum, PySem.Spec.lookup, PyProof.V.same_int, decide_eq_true_eq, if_neg hne]
      rw [e]
      rfl
theorem get_enum {i : Nat} {ks : List Int} {v : Value} {dd : PyData} (h : i < ks.length) (hv : Flat v ((PySem.Spec.lookup (.int (i : Int)) (dEnum 0 ks)).getD dd)) : ∃ t, v = .int (ks.getD i 0) t := by
  have e := look_enum (j := 0) h
  rw [Nat.zero_add] at e
  rw [e] at hv
  exact Flat.int_inv hv
local macro_rules | `(tactic| walk_at "call builtin:dict.get") => `(tactic| (k_here; k_dflt (refine call_get2_intTab (TabAt.ofNews (by k_asm) (by k_memK) (by k_asm) (by k_asm) (by k_asm)) (by k_flat) ?_); intro v' hv'; obtain ⟨tv', ev'⟩ := get_enum (by assumption) hv'; subst ev'; clear hv'))
abbrev chrS (k : Int) : Str := ⟨#[k.toNat]⟩
def txtOf (ks : List Int) : Str := Txt.join (Str.ofString "") ((ks.takeWhile (fun k => decide (k ≠ 0))).map chrS)
theorem tw_take {i : Nat} : ∀ {ks : List Int}, (∀ k ∈ ks.take i, k ≠ 0) → i < ks.length → ks.getD i 0 = 0 → ks.takeWhile (fun k => decide (k ≠ 0)) = ks.take i := by
  induction i with
  | zero =>
    intro ks _ h h0
    cases ks with
    | nil => cases h
    | cons k r => simp at h0; simp [h0]
  | succ i ih =>
    intro ks hz h h0
    cases ks with
    | nil => cases h
    | cons k r =>
      have hk : k ≠ 0 := hz k (by simp)
      have e := @ih r (fun q hq => hz q (by simp [hq])) (Nat.lt_of_succ_lt_succ h) (by simpa using h0)
      rw [List.takeWhile_cons_of_pos (by simpa using hk), e]
      rfl
theorem tw_all {ks : List Int} (h : ∀ k ∈ ks, k ≠ 0) : ks.takeWhile (fun k => decide (k ≠ 0)) = ks := by
  induction ks with
  | nil => rfl
  | cons k r ih =>
    rw [List.takeWhile_cons_of_pos (by simpa using h k (by simp)), ih fun q hq => h q (by simp [hq])]
theorem take_snoc {i : Nat} {ks : List Int} (h : i < ks.length) : ks.take (i + 1) = ks.take i ++ [ks.getD i 0] := by
  rw [List.take_add_one, List.getD_eq_getElem?_getD, List.getElem?_eq_getElem h]; rfl
theorem strs_snoc {y : Str} {t : Tok} : ∀ {vs : List Value} {ys : List Str}, StrsAre vs ys → StrsAre (vs ++ [.str y t]) (ys ++ [y])
  | _, _, .nil => .cons _ _ .nil
  | _, _, .cons _ _ h => .cons _ _ (strs_snoc h)
theorem sum_le {ss : List Str} (h : ∀ S ∈ ss, S.length ≤ 100) : (ss.map (·.length)).sum ≤ 100 * ss.length := by
  induction ss with
  | nil => exact Nat.le_refl _
  | cons a r ih =>
    have h1 := h a (List.mem_cons_self ..)
    have h2 := ih fun S hS => h S (List.mem_cons_of_mem _ hS)
    rw [List.map_cons, List.sum_cons, List.length_cons]; omega
theorem join_fits {ss : List Str} (h : ∀ S ∈ ss, S.length ≤ 100) (hl : ss.length ≤ 100) : (ss.map (·.length)).sum + ss.length * (Str.ofString "").length ≤ 16777216 := by
  have h1 := sum_le h
  have h2 : (Str.ofString "").length = 0 := by decide +kernel
  rw [h2]; omega
theorem chr_short (l : List Int) : ∀ S ∈ l.map chrS, S.length ≤ 100 := by
  intro S hS
  obtain ⟨k, _, rfl⟩ := List.mem_map.mp hS
  exact Nat.le_of_ble_eq_true rfl
theorem getD_mem {i : Nat} {ks : List Int} (h : i < ks.length) : ks.getD i 0 ∈ ks := by
  rw [List.getD_eq_getElem?_getD, List.getElem?_eq_getElem h]
  exact List.getElem_mem h
local macro_rules | `(tactic| walk_at "pyIter ref") => `(tactic| (refine Stop.out ?_))
local macro_rules | `(tactic| walk_at "call builtin:str.join") => `(tactic| (k_here; (with_reducible show wpAny _ _ (call (Value.builtin "str.join") [Value.str _ _, Value.ref _]) _ _ _); k_dflt (refine join_list (News.isList (by k_asm) (by k_memK)) (by k_asm) (by exact join_fits (chr_short _) (by (simp only [List.length_map, List.length_take]; omega))) ?_); intro t' k'; (try dsimp only)))
set_option maxHeartbeats 8000000 in
theorem text_of_in {dp un : Nat} {gd : Option (List Code)} {cn : Str} {cs : Scope} {a : Addr} {ccd : Value} {cl : List (Str × Addr)} {outer : List Env} {A₀ : Around} {base h₀ : Heap} {L : Addr} {m : Str → Option Value} {s : Shared}
    {Q E : Value → Shared → Prop} {x d hc : Addr} {e0 e1 e2 : Int} {s0 s1 s2 tl : Tok} {v1 : Value} {oC : Obj} {ks : List Int} {ys : List Value} {rest : List (Addr × Obj)}
    (B : Below A₀ base outer h₀) (F : Fr h₀ L s.heap m) (X : (hd.heap_1 w.params).In h₀)
    (N : News h₀ L s.heap ((x, instObj 38 d) :: (d, dictOf [ent "length" e0 s0 (.int (ks.length : Int) tl), ent "element" e1 s1 v1, ent "cells" e2 s2 (.ref hc)] 3) :: (hc, oC) :: rest)) (T : Top p loose mean mg mb h₀) (hk : cs.kind = .function)
    (hC : oC.IsDictOf (intKind prg w) (kEnum 0 ys)) (fC : FlatPairs PyData.int (kEnum 0 ys) (dEnum 0 ks)) (lo : (hc == sysModules) = false)
    (hks : ks.length ≤ 10) (hkb : ∀ k ∈ ks, 0 ≤ k ∧ k ≤ 1114111)
    (hd : dp + 3 < recursionLimit)
    (hret : ∀ t' h' tk', Fr h₀ L h' m → News h₀ L h' ((x, instObj 38 d) :: (d, dictOf [ent "length" e0 s0 (.int (ks.length : Int) tl), ent "element" e1 s1 v1, ent "cells" e2 s2 (.ref hc)] 3) :: (hc, oC) :: rest) → Q (.str (txtOf ks) t') { s with heap := h', toks := tk' }) :
    wpAny (model prg w) (ktrTop dp un gd cn cs L a ccd cl outer) (call (.ref 126) [.ref x]) Q E s := by
  w_top off
  revert X; unfold prg at hC ⊢; k_fill; intro X
  have hMk := kstMark
  refine wpAny_call ?_
  k_enter
  k_steps
  refine Stop.mk ?_
  rename_i lA hA2 l1A hA1 FA NA hA tkA t1A u1A v1A rE fE nE kE
  refine my_range (σ := List Value × Nat) (fun c => (lA, listOf c.1.toArray c.2) :: (x, instObj 38 d) :: (d, dictOf [ent "length" e0 s0 (.int (ks.length : Int) tl), ent "element" e1 s1 v1, ent "cells" e2 s2 (.ref hc)] 3) :: (hc, oC) :: rest) [(Str.ofString "arr", .ref x), (Str.ofString "chars", .ref lA)]
    (fun i c => StrsAre c.1 ((ks.take i).map chrS) ∧ (∀ k ∈ ks.take i, k ≠ 0)) ([], 0) rfl rE (small_one (by omega) (by omega) (by omega) (by omega)) (n := ks.length) (by rw [rangeSize_nat]; omega) fE nE ?_ ?_ ⟨.nil, by simp⟩ ?_ ?_
  · intro p hp; rcases List.mem_cons.mp hp with rfl | hp; exact (by decide : Str.ofString "arr" ≠ Str.ofString "place"); rw [List.mem_singleton.mp hp]; exact (by decide : Str.ofString "chars" ≠ Str.ofString "place")
  · kst_all
  · clear fE nE rE
    rintro ⟨cv, cn⟩ i t u' h' tk' own hi hoff ⟨hS, hz⟩ F' N'
    dsimp only [kstB] at hS N' F'
    (try simp only [List.cons_append] at N')
    have hb9 := hkb _ (getD_mem hi)
    have hl9 := hS.length
    rw [List.length_map, List.length_take] at hl9
    k_steps
    · rw [show Txt.join (Str.ofString "") ((ks.take i).map chrS) = txtOf ks from by unfold txtOf; rw [tw_take hz hi (by assumption)]]
      rename News _ _ _ _ => nZ
      exact hret _ _ _ (by k_asm) (kst_newsOf nZ (by
        refine List.forall_mem_cons.mpr ⟨by k_memK, ?_⟩
        refine List.forall_mem_cons.mpr ⟨by k_memK, ?_⟩
        refine List.forall_mem_cons.mpr ⟨by k_memK, ?_⟩
        intro p hp
        exact List.mem_cons_of_mem _ (List.mem_cons_of_mem _ (List.mem_cons_of_mem _ (List.mem_cons_of_mem _ (List.mem_append.mpr (.inl hp)))))))
    · rename Fr _ _ _ _ => fZ
      rename News _ _ _ _ => nZ
      simp only [List.push_toArray] at nZ
      exact loop_endN (cv ++ [.str (chrS (ks.getD i 0)) _], cn + 1) fZ nZ (by
        dsimp only
        refine List.forall_mem_cons.mpr ⟨by k_memK, ?_⟩
        refine List.forall_mem_cons.mpr ⟨by k_memK, ?_⟩
        refine List.forall_mem_cons.mpr ⟨by k_memK, ?_⟩
        refine List.forall_mem_cons.mpr ⟨by k_memK, ?_⟩
        intro p hp
        exact List.mem_cons_of_mem _ (List.mem_cons_of_mem _ (List.mem_cons_of_mem _ (List.mem_cons_of_mem _ (List.mem_append.mpr (.inl hp)))))) (fun p hp => List.mem_cons_of_mem _ (List.mem_cons_of_mem _ (List.mem_cons_of_mem _ (List.mem_cons_of_mem _ (List.mem_append.mpr (.inr hp)))))) rfl (by kst_all)
        ⟨by rw [take_snoc hi, List.map_append, List.map_singleton]; exact strs_snoc hS, by
          intro k hk
          rw [take_snoc hi] at hk
          rcases List.mem_append.mp hk with h | h
          · exact hz k h
          · rw [List.mem_singleton.mp h]; assumption⟩
  · clear fE nE rE
    rintro ⟨cv, cn⟩ u' h' tk' ⟨hS, hz⟩ F' N'
    dsimp only [kstB] at hS N' F'
    (try simp only [List.cons_append] at N')
    k_steps
    rw [show Txt.join (Str.ofString "") ((ks.take ks.length).map chrS) = txtOf ks from by unfold txtOf; rw [List.take_length] at hz ⊢; rw [tw_all hz]]
    rename News _ _ _ _ => nZ
    exact hret _ _ _ (by k_asm) (kst_newsOf nZ (by
      refine List.forall_mem_cons.mpr ⟨by k_memK, ?_⟩
      refine List.forall_mem_cons.mpr ⟨by k_memK, ?_⟩
      refine List.forall_mem_cons.mpr ⟨by k_memK, ?_⟩
      intro p hp
      exact List.mem_cons_of_mem _ (List.mem_cons_of_mem _ (List.mem_cons_of_mem _ (List.mem_cons_of_mem _ hp)))))
end

end

section
open PySem PySem.W PySem.Spec PySem.Calls PyProof.Rows PyProof.V
section
variable {w : World} {p : Program} {loose : List Str} {mean : ExcName → Option Value} {mg mb : Str → Option Value}
set_option maxHeartbeats 8000000 in
theorem arr_in {dp un : Nat} {gd : Option (List Code)} {cn : Str} {cs : Scope} {a : Addr} {ccd : Value} {cl : List (Str × Addr)} {outer : List Env} {A₀ : Around} {base h₀ : Heap} {L : Addr} {m : Str → Option Value} {s : Shared}
    {Q E : Value → Shared → Prop} {len : Int} {el : Addr} {tl : Tok} {rest : List (Addr × Obj)}
    (B : Below A₀ base outer h₀) (F : Fr h₀ L s.heap m) (X : (hd.heap_1 w.params).In h₀) (N : News h₀ L s.heap rest) (T : Top p loose mean mg mb h₀) (hk : cs.kind = .function)
    (hd : dp + 5 < recursionLimit)
    (hret : ∀ x d c o k1 k2 k3 t1 t2 t3 tk' h', Fr h₀ L h' m → News h₀ L h' ((c, o) :: (x, instObj 38 d) :: (d, dictOf [ent "length" k1 t1 (.int len tl), ent "element" k2 t2 (.ref el), ent "cells" k3 t3 (.ref c)] 3) :: rest) →
      (∀ p ∈ rest, p.1 < d) → (∀ p ∈ rest, p.1 < c) → @LT.lt Nat _ d x → @LT.lt Nat _ x c → (c == sysModules) = false → o.IsDictOf (intKind prg w) [] → FlatPairs PyData.int [] [] → Q (.ref x) { s with heap := h', toks := tk' }) :
    wpAny (model prg w) (ktrTop dp un gd cn cs L a ccd cl outer) (call (.ref 38) [.int len tl, .ref el]) Q E s := by
  w_top off
  revert X; unfold prg at hret ⊢; k_fill; intro X
  have hMk := kstMark
  k_steps
  rename News _ _ _ _ => nZ
  rename (∀ p ∈ rest, _) => hlt
  exact hret _ _ _ _ _ _ _ _ _ _ _ _ (by k_asm) nZ hlt (fun p hp => Nat.lt_trans (hlt p hp) (by omega)) (by assumption) (by omega) (by assumption) (by assumption) (by assumption)
end

end
end

section
open PySem PySem.W PySem.Spec PySem.Calls PyProof.Rows
local macro_rules | `(tactic| walk_at "call ref") => `(tactic| (k_here; (with_reducible show wpAny _ _ (call (Value.ref 218) _) _ _ _); k_dflt (refine draw_V (by k_asm) (by k_asm) (by k_asm) (by k_asm) (by k_asm) rfl (by k_updF) (by k_memK) ‹_› ‹_› (by omega) (by decide) (by ktr_room) ?_; k_whole; intro d' td' p0' p1' t0' t1' h' tk' hd1 hd2 hp' F' N'; (try dsimp only at N'); (try k_sweep); (try dsimp only); (try k_fold))))
local macro_rules | `(tactic| k_updF) => `(tactic| first | exact uF0 ‹_› | exact uF1 ‹_› | exact uF2 ‹_› | exact uF3 ‹_› | exact uF4 ‹_› | exact uF5 ‹_› | exact uF6 ‹_›)
local macro_rules | `(tactic| k_upd) => `(tactic| (refine upd_at (g := ?_) ?_; rotate_left; k_updF))
local macro_rules | `(tactic| k_mem) => `(tactic| ((fail_if_success (refine' List.Mem.tail _ ?_)); with_reducible_and_instances assumption))
local macro_rules | `(tactic| k_memK) => `(tactic| ((fail_if_success (refine' List.Mem.tail _ ?_)); with_reducible_and_instances assumption))
local macro_rules | `(tactic| walk_at "callWith") => `(tactic| ((with_reducible show wpAny _ _ (callWith _ _ (_ :: _) _ _) _ _ _); refine callWith_method1 ?_))
local macro_rules | `(tactic| k_allIn) => `(tactic| ((iterate 16 (refine List.forall_mem_cons.mpr ⟨by k_memK, ?_⟩)); (intro p hp; k_ownIn)))

section
open PySem PySem.W PySem.Spec PySem.Calls PyProof.Rows
section
variable {w : World} {p : Program} {loose : List Str} {mean : ExcName → Option Value} {mg mb : Str → Option Value}
  {h₀ : Heap} {L fa : Addr} {cd : Value} {u : Str → Option Value} {s : Shared} {Q : Flow → Shared → Prop} {E : Value → Shared → Prop}
  {ca pa td ta rd ra roA gA rgA hdd ha hc va oA : Addr} {oP oH : Obj} {n nc : Nat} {vs : List Value} {ns : List Int} {rh : Nat → Int} {rt : Nat → Tok} {rv : Nat → Value} {th : Nat → Int} {tt : Nat → Tok} {tv : Nat → Value} {tr : Nat → Addr} {eh : Nat → Int} {et : Nat → Tok} {ev : Nat → Value}
  {p0 p1 : Int} {t0 t1 : Tok} {ro : List Value} {nro : Nat} {rg : List Value} {nrg : Nat} {g : List Value} {ng : Nat} {oC : Obj} {vals : List Value} {nv : Nat} {o : List Value} {no : Nat} {own : List (Addr × Obj)} {k : Int} {ss : List Str}
set_option maxHeartbeats 8000000 in
theorem kB3_in (B : Below callerA h₀ [] h₀) (F : Fr h₀ L s.heap (kstB u (lawPS ra ta gA va oA))) (X : (hd.heap_1 w.params).In h₀)
    (N : News h₀ L s.heap (led L ca pa td ta rd ra roA gA rgA hdd ha hc va oA oP oH n nc vs rh rt rv th tt tv tr eh et ev p0 p1 t0 t1 ro nro rg nrg g ng oC vals nv o no ++ own)) (T : Top p loose mean mg mb h₀)
    (dP : oP.data = .cell (some (.ref pa))) (dH : oH.data = .cell (some (.ref ha)))
    (hoff : OwnOff own [pa, ca, roA, oA, ra, rd, rgA, gA, ta, td, ha, hdd, hc, va, L + 1, L + 1 + 1]) (hch : Asc [L + 1, L + 1 + 1, ca, pa, td, ta, rd, ra, roA, gA, rgA, hdd, ha, hc, va, oA])
    (hl1 : ro.length ≤ 100) (hl2 : o.length ≤ 100)
    (hret : ∀ tx ty nro' no' u' h' tk', News h₀ L h' (led L ca pa td ta rd ra roA gA rgA hdd ha hc va oA oP oH n nc vs rh rt rv th tt tv tr eh et ev p0 p1 t0 t1 (ro ++ [.str (Str.ofString "\n") tx]) nro' rg nrg g ng oC vals nv (o ++ [.str (Str.ofString "\n") ty]) no' ++ own) →
      Fr h₀ L h' (kstB u' (lawPS ra ta gA va oA)) → Q .next { s with heap := h', toks := tk' }) :
    wpAny (model prg w) (callerA.deeper (lawEnv w.params L fa cd)) (execs (kB3 w.params) (lawEnv w.params L fa cd)) Q E s := by
  w_top off
  revert X; unfold prg; k_fill; intro X
  have hMk := kstMark
  obtain ⟨rest, N, hApt, ⟨r1, r2, r3, r4, r5, r6, r7, r8, r9⟩, hfat⟩ := thin_ex N hoff hch
  clear hoff
  unfold lawEnv lawScope fscope kB3 k3Of
  unfold led7 at N
  k_steps
  rename News _ _ _ _ => nE
  rename Fr _ _ _ _ => fE
  simp only [List.push_toArray] at nE
  refine' hret _ _ _ _ _ _ _ (hfat (by first | exact nE | exact news_tl nE | exact news_tl (news_tl nE) | exact news_tl (news_tl (news_tl nE)) | exact news_tl (news_tl (news_tl (news_tl nE))) | exact news_tl (news_tl (news_tl (news_tl (news_tl nE)))) | exact news_tl (news_tl (news_tl (news_tl (news_tl (news_tl nE))))) | exact news_tl (news_tl (news_tl (news_tl (news_tl (news_tl (news_tl nE)))))) | exact news_tl (news_tl (news_tl (news_tl (news_tl (news_tl (news_tl (news_tl nE))))))))) (fr_kst fE ?e2)
  kst_all
end

end

section
open PySem PySem.W PySem.Spec PySem.Calls PyProof.Rows
abbrev figs : List Int := [0, 7, -7, 12345, 2147483647, -2147483648]
theorem figs6 {d : Int} (h0 : 0 ≤ d) (h1 : d < 6) : d = 0 ∨ d = 1 ∨ d = 2 ∨ d = 3 ∨ d = 4 ∨ d = 5 := by omega
theorem fig_small {d : Int} (h0 : 0 ≤ d) (h1 : d < 6) : (figs.getD d.toNat 0).natAbs < 10 ^ 10 := by
  rcases figs6 h0 h1 with rfl | rfl | rfl | rfl | rfl | rfl <;> decide +kernel
theorem fig_len {d : Int} (h0 : 0 ≤ d) (h1 : d < 6) : (txt (figs.getD d.toNat 0)).length ≤ 11 := by
  rcases figs6 h0 h1 with rfl | rfl | rfl | rfl | rfl | rfl <;> decide +kernel
theorem fig_dig {d : Int} (h0 : 0 ≤ d) (h1 : d < 6) : digF (figs.getD d.toNat 0) = txt (figs.getD d.toNat 0) := by
  rcases figs6 h0 h1 with rfl | rfl | rfl | rfl | rfl | rfl <;> decide +kernel
local macro_rules | `(tactic| walk_at "call ref") => `(tactic| (k_here; (with_reducible show wpAny _ _ (call (Value.ref 133) _) _ _ _); k_dflt (refine padded_in (by k_asm) (by k_asm) (by k_asm) (by k_asm) (by k_asm) rfl (fig_small (by assumption) (by assumption)) (fig_len (by assumption) (by assumption)) (by ktr_room) ?_; k_whole; intro t' h' tk' F' N'; (try k_sweep); (try dsimp only); (try k_fold))))
theorem digits_fig {w : World} {p : Program} {loose : List Str} {mean : ExcName → Option Value} {mg mb : Str → Option Value} {dp un : Nat} {gd : Option (List Code)} {cn : Str} {cs : Scope} {a : Addr} {ccd : Value} {cl : List (Str × Addr)} {outer : List Env} {A₀ : Around} {base h₀ : Heap} {L : Addr} {m : Str → Option Value} {s : Shared}
    {Q E : Value → Shared → Prop} {x d : Int} {tx : Tok} {news : List (Addr × Obj)}
    (B : Below A₀ base outer h₀) (F : Fr h₀ L s.heap m) (X : (hd.heap_1 w.params).In h₀) (N : News h₀ L s.heap news) (T : Top p loose mean mg mb h₀) (hk : cs.kind = .function)
    (hx : x = figs.getD d.toNat 0) (h0 : 0 ≤ d) (h1 : d < 6) (hd : dp + 3 < recursionLimit)
    (hret : ∀ t' h' tk', (txt x).length ≤ 11 → Fr h₀ L h' m → News h₀ L h' news → Q (.str (txt x) t') { s with heap := h', toks := tk' }) :
    wpAny (model prg w) (ktrTop dp un gd cn cs L a ccd cl outer) (call (.ref 225) [.int x tx]) Q E s := by
  subst hx
  refine digits_in B F X N T hk (fig_small h0 h1) hd fun t' h' tk' F' N' => ?_
  rw [fig_dig h0 h1]
  exact hret _ _ _ (fig_len h0 h1) F' N'
local macro_rules | `(tactic| walk_at "call ref") => `(tactic| (k_here; (with_reducible show wpAny _ _ (call (Value.ref 225) _) _ _ _); k_dflt (refine digits_fig (by k_asm) (by k_asm) (by k_asm) (by k_asm) (by k_asm) rfl rfl ‹_› ‹_› (by ktr_room) ?_; k_whole; intro t' h' tk' hl' F' N'; (try k_sweep); (try dsimp only); (try k_fold))))
theorem blank : Str.ofString " " = ⟨#[32]⟩ := by decide +kernel
theorem pad_list (k : Nat) (S : Str) : (pad k S).cps.toList = List.replicate k 32 ++ S.cps.toList := by
  induction k with
  | zero => rfl
  | succ k ih => rw [pad, Str.cps_append, Array.toList_append, ih, blank]; rfl
theorem pad_mul (n : Int) (S : Str) : Txt.mul (Str.ofString " ") n ++ S = pad n.toNat S := by
  apply Str.ext'
  apply Array.toList_inj.mp
  rw [pad_list, Str.cps_append, Array.toList_append, blank, mul_one_list]
theorem pad_same (W : Int) (S : Str) : Txt.mul (Str.ofString " ") (if (if 80 < W then 80 else W) - (S.length : Int) > 0 then (if 80 < W then 80 else W) - (S.length : Int) else 0) ++ S = pad (min W 80 - (S.length : Int)).toNat S := by
  rw [pad_mul]
  congr 1
  by_cases h : 80 < W
  · simp only [if_pos h]; split <;> omega
  · simp only [if_neg h]; split <;> omega
theorem pad_le {W : Int} {S : Str} (h : S.length ≤ 11) : (pad (min W 80 - (S.length : Int)).toNat S).length ≤ 100 := by
  rw [pad_len]; omega
local macro_rules | `(tactic| walk_at "binaryOp Pow int int") => `(tactic| (with_reducible refine pow31 ?_))
section
variable {w : World} {p : Program} {loose : List Str} {mean : ExcName → Option Value} {mg mb : Str → Option Value}
  {h₀ : Heap} {L fa : Addr} {cd : Value} {u : Str → Option Value} {s : Shared} {Q : Flow → Shared → Prop} {E : Value → Shared → Prop}
  {ca pa td ta rd ra roA gA rgA hdd ha hc va oA : Addr} {oP oH : Obj} {n nc : Nat} {vs : List Value} {ns : List Int} {rh : Nat → Int} {rt : Nat → Tok} {rv : Nat → Value} {th : Nat → Int} {tt : Nat → Tok} {tv : Nat → Value} {tr : Nat → Addr} {eh : Nat → Int} {et : Nat → Tok} {ev : Nat → Value}
  {p0 p1 : Int} {t0 t1 : Tok} {ro : List Value} {nro : Nat} {rg : List Value} {nrg : Nat} {g : List Value} {ng : Nat} {oC : Obj} {vals : List Value} {nv : Nat} {o : List Value} {no : Nat} {own : List (Addr × Obj)} {k : Int} {ss : List Str}
set_option maxHeartbeats 8000000 in
theorem kB0_in (B : Below callerA h₀ [] h₀) (F : Fr h₀ L s.heap (kstB u (lawPS ra ta gA va oA))) (X : (hd.heap_1 w.params).In h₀)
    (N : News h₀ L s.heap (led L ca pa td ta rd ra roA gA rgA hdd ha hc va oA oP oH n nc vs rh rt rv th tt tv tr eh et ev p0 p1 t0 t1 ro nro rg nrg g ng oC vals nv o no ++ own)) (T : Top p loose mean mg mb h₀)
    (dP : oP.data = .cell (some (.ref pa))) (dH : oH.data = .cell (some (.ref ha)))
    (hoff : OwnOff own [pa, ca, roA, oA, ra, rd, rgA, gA, ta, td, ha, hdd, hc, va, L + 1, L + 1 + 1]) (hch : Asc [L + 1, L + 1 + 1, ca, pa, td, ta, rd, ra, roA, gA, rgA, hdd, ha, hc, va, oA])
    (hl1 : ro.length ≤ 100) (hl2 : o.length ≤ 100) (hi : IntsAre vs ns) (hne : 1 ≤ ns.length) (hlen : ns.length ≤ 64) (hp : PoolOk p0 p1 k) (hk : k ≤ 1900)
    (hret : ∀ S p0' p1' t0' t1' tx ty nro' no' u' h' tk', News h₀ L h' (led L ca pa td ta rd ra roA gA rgA hdd ha hc va oA oP oH n nc vs rh rt rv th tt tv tr eh et ev p0' p1' t0' t1' (ro ++ [.str S tx]) nro' rg nrg g ng oC vals nv (o ++ [.str S ty]) no' ++ own) →
      Fr h₀ L h' (kstB u' (lawPS ra ta gA va oA)) → PoolOk p0' p1' (k + 1 + 1) → S.length ≤ 100 → Q .next { s with heap := h', toks := tk' }) :
    wpAny (model prg w) (callerA.deeper (lawEnv w.params L fa cd)) (execs (kB0 w.params) (lawEnv w.params L fa cd)) Q E s := by
  w_top off
  revert X; unfold prg; k_fill; intro X
  have hMk := kstMark
  obtain ⟨rest, N, hApt, ⟨r1, r2, r3, r4, r5, r6, r7, r8, r9⟩, hfat⟩ := thin_ex N hoff hch
  clear hoff
  have hDrw := Drw.mk (apt_ca hApt r1) hi hne hlen
  unfold lawEnv lawScope fscope kB0 k0Of
  unfold led7 at N
  k_steps
  rename News _ _ _ _ => nE
  rename Fr _ _ _ _ => fE
  simp only [List.push_toArray, pad_same] at nE
  refine' hret _ _ _ _ _ _ _ _ _ _ _ _ (hfat (by first | exact nE | exact news_tl nE | exact news_tl (news_tl nE) | exact news_tl (news_tl (news_tl nE)) | exact news_tl (news_tl (news_tl (news_tl nE))) | exact news_tl (news_tl (news_tl (news_tl (news_tl nE)))) | exact news_tl (news_tl (news_tl (news_tl (news_tl (news_tl nE))))) | exact news_tl (news_tl (news_tl (news_tl (news_tl (news_tl (news_tl nE)))))) | exact news_tl (news_tl (news_tl (news_tl (news_tl (news_tl (news_tl (news_tl nE))))))))) (fr_kst fE ?e2) (by assumption) ?e3
  case e2 => kst_all
  case e3 =>
    rename Str.length (Str.ofString _) ≤ 11 => h9
    exact pad_le h9
end

end

section
open PySem PySem.W PySem.Spec PySem.Calls PyProof.Rows
theorem code5 {d : Int} (h0 : 0 ≤ d) (h1 : d < 5) : 0 ≤ ([65, 10, 0, 255, 32] : List Int).getD d.toNat 0 ∧ ([65, 10, 0, 255, 32] : List Int).getD d.toNat 0 ≤ 1114111 := by
  have : d = 0 ∨ d = 1 ∨ d = 2 ∨ d = 3 ∨ d = 4 := by omega
  rcases this with rfl | rfl | rfl | rfl | rfl <;> decide
local macro_rules | `(tactic| walk_at "call builtin:chr") => `(tactic| refine chr_of_range (code5 (by assumption) (by assumption)).1 (code5 (by assumption) (by assumption)).2 ?_)
section
variable {w : World} {p : Program} {loose : List Str} {mean : ExcName → Option Value} {mg mb : Str → Option Value}
  {h₀ : Heap} {L fa : Addr} {cd : Value} {u : Str → Option Value} {s : Shared} {Q : Flow → Shared → Prop} {E : Value → Shared → Prop}
  {ca pa td ta rd ra roA gA rgA hdd ha hc va oA : Addr} {oP oH : Obj} {n nc : Nat} {vs : List Value} {ns : List Int} {rh : Nat → Int} {rt : Nat → Tok} {rv : Nat → Value} {th : Nat → Int} {tt : Nat → Tok} {tv : Nat → Value} {tr : Nat → Addr} {eh : Nat → Int} {et : Nat → Tok} {ev : Nat → Value}
  {p0 p1 : Int} {t0 t1 : Tok} {ro : List Value} {nro : Nat} {rg : List Value} {nrg : Nat} {g : List Value} {ng : Nat} {oC : Obj} {vals : List Value} {nv : Nat} {o : List Value} {no : Nat} {own : List (Addr × Obj)} {k : Int} {ss : List Str}
set_option maxHeartbeats 8000000 in
theorem kB1_in (B : Below callerA h₀ [] h₀) (F : Fr h₀ L s.heap (kstB u (lawPS ra ta gA va oA))) (X : (hd.heap_1 w.params).In h₀)
    (N : News h₀ L s.heap (led L ca pa td ta rd ra roA gA rgA hdd ha hc va oA oP oH n nc vs rh rt rv th tt tv tr eh et ev p0 p1 t0 t1 ro nro rg nrg g ng oC vals nv o no ++ own)) (T : Top p loose mean mg mb h₀)
    (dP : oP.data = .cell (some (.ref pa))) (dH : oH.data = .cell (some (.ref ha)))
    (hoff : OwnOff own [pa, ca, roA, oA, ra, rd, rgA, gA, ta, td, ha, hdd, hc, va, L + 1, L + 1 + 1]) (hch : Asc [L + 1, L + 1 + 1, ca, pa, td, ta, rd, ra, roA, gA, rgA, hdd, ha, hc, va, oA])
    (hl1 : ro.length ≤ 100) (hl2 : o.length ≤ 100) (hi : IntsAre vs ns) (hne : 1 ≤ ns.length) (hlen : ns.length ≤ 64) (hp : PoolOk p0 p1 k) (hk : k ≤ 1900)
    (hret : ∀ S p0' p1' t0' t1' tx ty nro' no' u' h' tk', News h₀ L h' (led L ca pa td ta rd ra roA gA rgA hdd ha hc va oA oP oH n nc vs rh rt rv th tt tv tr eh et ev p0' p1' t0' t1' (ro ++ [.str S tx]) nro' rg nrg g ng oC vals nv (o ++ [.str S ty]) no' ++ own) →
      Fr h₀ L h' (kstB u' (lawPS ra ta gA va oA)) → PoolOk p0' p1' (k + 1) → S.length ≤ 100 → Q .next { s with heap := h', toks := tk' }) :
    wpAny (model prg w) (callerA.deeper (lawEnv w.params L fa cd)) (execs (kB1 w.params) (lawEnv w.params L fa cd)) Q E s := by
  w_top off
  revert X; unfold prg; k_fill; intro X
  have hMk := kstMark
  obtain ⟨rest, N, hApt, ⟨r1, r2, r3, r4, r5, r6, r7, r8, r9⟩, hfat⟩ := thin_ex N hoff hch
  clear hoff
  have hDrw := Drw.mk (apt_ca hApt r1) hi hne hlen
  unfold lawEnv lawScope fscope kB1 k1Of
  unfold led7 at N
  k_steps
  rename News _ _ _ _ => nE
  rename Fr _ _ _ _ => fE
  simp only [List.push_toArray] at nE
  refine' hret _ _ _ _ _ _ _ _ _ _ _ _ (hfat (by first | exact nE | exact news_tl nE | exact news_tl (news_tl nE) | exact news_tl (news_tl (news_tl nE)) | exact news_tl (news_tl (news_tl (news_tl nE))) | exact news_tl (news_tl (news_tl (news_tl (news_tl nE)))) | exact news_tl (news_tl (news_tl (news_tl (news_tl (news_tl nE))))) | exact news_tl (news_tl (news_tl (news_tl (news_tl (news_tl (news_tl nE)))))) | exact news_tl (news_tl (news_tl (news_tl (news_tl (news_tl (news_tl (news_tl nE))))))))) (fr_kst fE ?e2) (by assumption) ?e3
  case e2 => kst_all
  case e3 => exact Nat.le_of_ble_eq_true rfl
end

end

section
open PySem PySem.W PySem.Spec PySem.Calls PyProof.Rows PyProof.V
section
variable {w : World} {p : Program} {loose : List Str} {mean : ExcName → Option Value} {mg mb : Str → Option Value}
  {h₀ : Heap} {L fa : Addr} {cd : Value} {u : Str → Option Value} {s : Shared} {Q : Flow → Shared → Prop} {E : Value → Shared → Prop}
  {ca pa td ta rd ra roA gA rgA hdd ha hc va oA : Addr} {oP oH : Obj} {n nc : Nat} {vs : List Value} {ns : List Int} {rh : Nat → Int} {rt : Nat → Tok} {rv : Nat → Value} {th : Nat → Int} {tt : Nat → Tok} {tv : Nat → Value} {tr : Nat → Addr} {eh : Nat → Int} {et : Nat → Tok} {ev : Nat → Value}
  {p0 p1 : Int} {t0 t1 : Tok} {ro : List Value} {nro : Nat} {rg : List Value} {nrg : Nat} {g : List Value} {ng : Nat} {oC : Obj} {vals : List Value} {nv : Nat} {o : List Value} {no : Nat} {own : List (Addr × Obj)} {k : Int} {ss : List Str}
set_option maxHeartbeats 8000000 in
theorem kB4_nil {kd : Int} {tkd : Tok} {v0 v1 v2 v3 : Int} {c0 c1 c2 c3 b0 b1 b2 b3 : Tok} (B : Below callerA h₀ [] h₀) (F : Fr h₀ L s.heap (kstB u ((Str.ofString "kind", .int kd tkd) :: lawPS ra ta gA va oA))) (X : (hd.heap_1 w.params).In h₀)
    (N : News h₀ L s.heap (led L ca pa td ta rd ra roA gA rgA hdd ha hc va oA oP oH n nc vs rh rt rv th tt tv tr eh et ev p0 p1 t0 t1 ro nro [] nrg [] ng oC [.int v0 b0, .int v1 b1, .int v2 b2, .int v3 b3] nv o no ++ own)) (T : Top p loose mean mg mb h₀)
    (dP : oP.data = .cell (some (.ref pa))) (dH : oH.data = .cell (some (.ref ha)))
    (hC : oC.IsDictOf (intKind prg w) [(0, .int v0 c0), (1, .int v1 c1), (2, .int v2 c2), (3, .int v3 c3)]) (fC : FlatPairs PyData.int [(0, .int v0 c0), (1, .int v1 c1), (2, .int v2 c2), (3, .int v3 c3)] [(.int 0, .int v0), (.int 1, .int v1), (.int 2, .int v2), (.int 3, .int v3)])
    (hoff : OwnOff own [pa, ca, roA, oA, ra, rd, rgA, gA, ta, td, ha, hdd, hc, va, L + 1, L + 1 + 1]) (hch : Asc [L + 1, L + 1 + 1, ca, pa, td, ta, rd, ra, roA, gA, rgA, hdd, ha, hc, va, oA])
    (hkd : kd = 4 ∨ kd = 5) (hi : IntsAre vs ns) (hne : 1 ≤ ns.length) (hlen : ns.length ≤ 64) (hp : PoolOk p0 p1 k) (hk : k ≤ 1900)
    (hret : ∀ p0' p1' t0' t1' oC' c0' c1' c2' c3' b3' nv' u' h' tk', News h₀ L h' (led L ca pa td ta rd ra roA gA rgA hdd ha hc va oA oP oH n nc vs rh rt rv th tt tv tr eh et ev p0' p1' t0' t1' ro nro [] nrg [] ng oC' [.int v0 b0, .int v1 b1, .int v2 b2, .int 0 b3'] nv' o no ++ own) →
      oC'.IsDictOf (intKind prg w) [(0, .int v0 c0'), (1, .int v1 c1'), (2, .int v2 c2'), (3, .int 0 c3')] → FlatPairs PyData.int [(0, .int v0 c0'), (1, .int v1 c1'), (2, .int v2 c2'), (3, .int 0 c3')] [(.int 0, .int v0), (.int 1, .int v1), (.int 2, .int v2), (.int 3, .int 0)] →
      Fr h₀ L h' (kstB u' (lawPS ra ta gA va oA)) → PoolOk p0' p1' (k + 1) → Q .next { s with heap := h', toks := tk' }) :
    wpAny (model prg w) (callerA.deeper (lawEnv w.params L fa cd)) (execs (kB4 w.params) (lawEnv w.params L fa cd)) Q E s := by
  w_top off
  revert X; unfold prg at hC hret ⊢; k_fill; intro X
  have hMk := kstMark
  obtain ⟨rest, N, hApt, ⟨r1, r2, r3, r4, r5, r6, r7, r8, r9⟩, hfat⟩ := thin_ex N hoff hch
  clear hoff
  have hDrw := Drw.mk (apt_ca hApt r1) hi hne hlen
  unfold lawEnv lawScope fscope kB4 k4Of
  unfold led7 at N
  k_steps
  all_goals (
    rename Obj.IsDictOf _ _ _ => hD9
    rename FlatPairs _ _ _ => hF9
    rename News _ _ _ _ => nE
    rename Fr _ _ _ _ => fE
    simp only [st0, st1, st2, st3, pd0, pd1, pd2, pd3] at hD9 hF9
    refine' hret _ _ _ _ _ _ _ _ _ _ _ _ _ _ (hfat (by first | exact nE | exact news_tl nE | exact news_tl (news_tl nE) | exact news_tl (news_tl (news_tl nE)) | exact news_tl (news_tl (news_tl (news_tl nE))) | exact news_tl (news_tl (news_tl (news_tl (news_tl nE)))) | exact news_tl (news_tl (news_tl (news_tl (news_tl (news_tl nE))))) | exact news_tl (news_tl (news_tl (news_tl (news_tl (news_tl (news_tl nE)))))) | exact news_tl (news_tl (news_tl (news_tl (news_tl (news_tl (news_tl (news_tl nE))))))))) ?e3 ?e4 (fr_kst fE ?e2) (by assumption)
    case e3 => exact hD9
    case e4 => exact hF9
    case e2 => kst_all)
end

end

section
open PySem PySem.W PySem.Spec PySem.Calls PyProof.Rows PyProof.V
section
variable {b : List Stmt} {s0 s1 s2 s3 s4 : Stmt}
noncomputable def k2TOf (_ : b = [s0, s1, s2, s3, s4]) : List Stmt := [s1, s2, s3, s4]
end
noncomputable def kB2T (P : Params) : List Stmt := k2TOf (b := kB2 P) (by unfold kB2 k2Of; exact rfl)
local macro_rules | `(tactic| walk_at "exec Assign cons ListComp") => `(tactic| (refine Stop.out ?_))
local macro_rules | `(tactic| walk_at "CompSrc") => `(tactic| (refine Stop.out ?_))
def Apart (D : Nat) (l : List Nat) : Prop := ∀ a ∈ l, a ≠ D
theorem off1_mem {D : Addr} : ∀ {l : List (Addr × Obj)}, LCg.Off1 D l → ∀ p ∈ l, @Ne Nat p.1 D
  | [], _, _, h => nomatch h
  | _ :: _, x, p, h => by
    rcases List.mem_cons.mp h with rfl | h
    · exact x.1
    · exact off1_mem x.2 p h
theorem apart_of {D : Addr} {l : List (Addr × Obj)} (h : LCg.Off1 D l) : Apart D (l.map (·.1)) := by
  intro a ha
  obtain ⟨p, hp, rfl⟩ := List.mem_map.mp ha
  exact off1_mem h p hp
theorem off3_ne1 {I C D a : Addr} {l : List (Addr × Obj)} {o : Obj} (h : LCg.Off3 I C D l) (hm : (a, o) ∈ l) : I ≠ a := fun e => (LCg.Off3.mem h _ hm).1 e.symm
theorem off3_ne2 {I C D a : Addr} {l : List (Addr × Obj)} {o : Obj} (h : LCg.Off3 I C D l) (hm : (a, o) ∈ l) : C ≠ a := fun e => (LCg.Off3.mem h _ hm).2.1 e.symm
theorem off3_ne3 {I C D a : Addr} {l : List (Addr × Obj)} {o : Obj} (h : LCg.Off3 I C D l) (hm : (a, o) ∈ l) : D ≠ a := fun e => (LCg.Off3.mem h _ hm).2.2 e.symm
theorem apart_ne {D a : Addr} {l : List Addr} (h : Apart D l) (hm : a ∈ l) : D ≠ a := fun e => h a hm e.symm
theorem apart_ne' {D a : Addr} {l : List Addr} (h : Apart D l) (hm : a ∈ l) : a ≠ D := h a hm
local macro_rules | `(tactic| k_ne) => `(tactic| first
  | ((rename LCg.Off3 _ _ _ _ => hO9); first | exact off3_ne1 hO9 (by k_memK) | exact off3_ne2 hO9 (by k_memK) | exact off3_ne3 hO9 (by k_memK))
  | ((rename Apart _ _ => hA9); first | exact apart_ne hA9 (by k_memK) | exact apart_ne' hA9 (by k_memK))
  | (refine neN ?_; (try dsimp only); omega))
theorem ints_snoc {x : Int} {u : Tok} : ∀ {vs : List Value} {ns : List Int}, IntsAre vs ns → IntsAre (vs ++ [.int x u]) (ns ++ [x])
  | _, _, .nil => .cons _ _ .nil
  | _, _, .cons _ _ h => .cons _ _ (ints_snoc h)
theorem code4 {d : Int} (h0 : 0 ≤ d) (h1 : d < 4) : 0 ≤ ([66, 67, 0, 200] : List Int).getD d.toNat 0 ∧ ([66, 67, 0, 200] : List Int).getD d.toNat 0 ≤ 1114111 := by
  have : d = 0 ∨ d = 1 ∨ d = 2 ∨ d = 3 := by omega
  rcases this with rfl | rfl | rfl | rfl <;> decide
theorem bound_snoc {ks : List Int} {y : Int} (h : ∀ x ∈ ks, 0 ≤ x ∧ x ≤ 1114111) (hy : 0 ≤ y ∧ y ≤ 1114111) : ∀ x ∈ ks ++ [y], 0 ≤ x ∧ x ≤ 1114111 := by
  intro x hx
  rcases List.mem_append.mp hx with hx | hx
  · exact h x hx
  · rw [List.mem_singleton.mp hx]; exact hy
theorem pool_next {q0 q1 k : Int} {i : Nat} (h : PoolOk q0 q1 (k + 1 + (i : Int) + 1)) : PoolOk q0 q1 (k + 1 + ((i + 1 : Nat) : Int)) := by
  have e : k + 1 + ((i + 1 : Nat) : Int) = k + 1 + (i : Int) + 1 := by omega
  rw [e]; exact h
section
variable {w : World} {p : Program} {loose : List Str} {mean : ExcName → Option Value} {mg mb : Str → Option Value}
  {h₀ : Heap} {L fa : Addr} {cd : Value} {u : Str → Option Value} {s : Shared} {Q : Flow → Shared → Prop} {E : Value → Shared → Prop}
  {ca pa td ta rd ra roA gA rgA hdd ha hc va oA : Addr} {oP oH : Obj} {n nc : Nat} {vs : List Value} {ns : List Int} {rh : Nat → Int} {rt : Nat → Tok} {rv : Nat → Value} {th : Nat → Int} {tt : Nat → Tok} {tv : Nat → Value} {tr : Nat → Addr} {eh : Nat → Int} {et : Nat → Tok} {ev : Nat → Value}
  {p0 p1 : Int} {t0 t1 : Tok} {ro : List Value} {nro : Nat} {rg : List Value} {nrg : Nat} {g : List Value} {ng : Nat} {oC : Obj} {vals : List Value} {nv : Nat} {o : List Value} {no : Nat} {own : List (Addr × Obj)} {k : Int} {ss : List Str}
set_option maxHeartbeats 8000000 in
theorem row_in (B : Below callerA h₀ [] h₀) (F : Fr h₀ L s.heap (kstB u (lawPS ra ta gA va oA))) (X : (hd.heap_1 w.params).In h₀)
    (N : News h₀ L s.heap (led L ca pa td ta rd ra roA gA rgA hdd ha hc va oA oP oH n nc vs rh rt rv th tt tv tr eh et ev p0 p1 t0 t1 ro nro rg nrg g ng oC vals nv o no ++ own)) (T : Top p loose mean mg mb h₀)
    (dP : oP.data = .cell (some (.ref pa))) (dH : oH.data = .cell (some (.ref ha)))
    (hoff : OwnOff own [pa, ca, roA, oA, ra, rd, rgA, gA, ta, td, ha, hdd, hc, va, L + 1, L + 1 + 1]) (hch : Asc [L + 1, L + 1 + 1, ca, pa, td, ta, rd, ra, roA, gA, rgA, hdd, ha, hc, va, oA])
    (hi : IntsAre vs ns) (hne : 1 ≤ ns.length) (hlen : ns.length ≤ 64) (hp : PoolOk p0 p1 k) (hk : k ≤ 1900)
    (hrest : ∀ q0 q1 r0 r1 ks ys D9 h9 tk9 j, News h₀ L h9 ((D9, listOf ys.toArray ys.length) :: (led L ca pa td ta rd ra roA gA rgA hdd ha hc va oA oP oH n nc vs rh rt rv th tt tv tr eh et ev q0 q1 r0 r1 ro nro rg nrg g ng oC vals nv o no ++ own)) → Fr h₀ L h9 (fun z => if z = Str.ofString "row" then some (.ref D9) else kstB u (lawPS ra ta gA va oA) z) →
      Apart D9 [pa, ca, roA, oA, ra, rd, rgA, gA, ta, td, ha, hdd, hc, va, L + 1, L + 1 + 1] → OwnOff own [D9] → IntsAre ys ks → ks.length ≤ 4 → (∀ x ∈ ks, 0 ≤ x ∧ x ≤ 1114111) → PoolOk q0 q1 (k + 1 + j) → j ≤ 4 →
      wpAny (model prg w) (callerA.deeper (lawEnv w.params L fa cd)) (execs (kB2T w.params) (lawEnv w.params L fa cd)) Q E { s with heap := h9, toks := tk9 }) :
    wpAny (model prg w) (callerA.deeper (lawEnv w.params L fa cd)) (execs (kB2 w.params) (lawEnv w.params L fa cd)) Q E s := by
  w_top off
  revert X; unfold prg at hrest ⊢; k_fill; intro X
  have hMk := kstMark
  obtain ⟨rest, N, hApt, ⟨r1, r2, r3, r4, r5, r6, r7, r8, r9⟩, hfat, hoA, hoB⟩ := thin_ex2 N hoff hch
  clear hoff
  have hDrw := Drw.mk (apt_ca hApt r1) hi hne hlen
  unfold lawEnv lawScope fscope kB2T k2TOf at hrest
  unfold lawEnv lawScope fscope kB2 k2Of
  unfold led7 at N
  k_steps
  refine Stop.mk ?_
  refine LCg.Assign_ListComp_U (F₀ := F) (by rfl) (by with_unfolding_all rfl) (by with_unfolding_all rfl) (by decide) (by rfl) (by decide) (by rfl) (by rfl) (by rfl) ?_
  k_steps
  refine Stop.mk ?_
  rename Fr _ _ _ _ => fE
  rename News _ _ _ _ => nE
  rename IsRange _ _ _ _ _ _ _ _ => rE
  rename PoolOk _ _ _ => hpE
  rename ((_ : Int) < 5) => hb5
  refine LCg.CompSrc.range (by rfl) fE nE rE (small_one (by omega) (by omega) (by omega) (by omega)) (rangeSize_nat _ _) (by rw [sizeLine_eq]; omega) ?_
  intro g9
  refine comp_ind (Inv := fun i ys news => ∃ q0 q1 r0 r1 ks, news = led7 pa roA gA rgA hc va oA ca n q0 q1 r0 r1 ro nro rg nrg g ng oC vals nv o no rest ∧ PoolOk q0 q1 (k + 1 + (i : Int)) ∧ IntsAre ys ks ∧ ys.length = i ∧ ∀ x ∈ ks, 0 ≤ x ∧ x ≤ 1114111) ?_ ?_ _ 0 _ _ (Nat.zero_add _) ⟨_, _, _, _, [], rfl, (by simpa using hpE), .nil, rfl, fun _ h => nomatch h⟩
  · clear fE nE
    rintro i ys news v I oI C oX D m₂ h tk E' hi ⟨q0, q1, r0, r1, ks, rfl, hq, hys, hl, hb⟩ ⟨tvv, rfl⟩ hX hx F' N' off ne
    unfold led7 at N' off
    k_steps
    rename Fr _ _ _ _ => fZ
    rename News _ _ _ _ => nZ
    exact LCg.CompEnd.intro fZ nZ (led7 pa roA gA rgA hc va oA ca n _ _ _ _ ro nro rg nrg g ng oC vals nv o no rest) (fun p hp => List.Mem.tail _ hp) (by exact off) trivial ⟨_, _, _, _, ks ++ [_], rfl, pool_next (by assumption), ints_snoc hys, (by simp [hl]), bound_snoc hb (code4 (by assumption) (by assumption))⟩
  · rintro ys news ⟨q0, q1, r0, r1, ks, rfl, hq, hys, hl, hb⟩
    unfold LCg.FinA
    intro D9 h9 tk9 F9 N9 o9
    have hA := apart_of o9
    have hO : OwnOff rest [D9] := by
      intro p hp b hb
      rw [List.mem_singleton.mp hb]
      exact off1_mem o9 p (by k_ownIn)
    clear o9
    obtain ⟨hA', hO'⟩ := hoB (fun a ha => hA a (List.mem_append.mpr (.inl ha) : a ∈ [_, _, _, _, _, _, _] ++ _)) hO
    exact hrest q0 q1 r0 r1 ks ys D9 h9 tk9 _ (news_cs (news_hd N9) (hfat (news_tl N9))) F9 hA' hO' hys (by have := hys.length; omega) hb hq (by omega)
end

end

section
open PySem PySem.W PySem.Spec PySem.Calls PyProof.Rows PyProof.V
local macro_rules | `(tactic| walk_at "call ref") => `(tactic| (k_here; (with_reducible show wpAny _ _ (call (Value.ref 38) _) _ _ _); k_dflt (refine arr_in (by k_asm) (by k_asm) (by k_asm) (by k_asm) (by k_asm) rfl (by ktr_room) ?_; k_whole; intro x' d' c' o' k1' k2' k3' t1' t2' t3' tk' h' F' N' l1 l1c l2 l3 lo' hi' fi'; (try k_lt l1); (try k_lt l1c); (try k_lt2 l2); (try k_lt2 l3); (try k_sweep); (try dsimp only); (try k_fold))))

section
open PySem PySem.W PySem.Spec PySem.Calls PyProof.Rows PyProof.V
local macro_rules | `(tactic| k_ne) => `(tactic| first
  | exact apart_ne (by assumption) (by k_memK) | exact apart_ne' (by assumption) (by k_memK)
  | (refine neN ?_; (try dsimp only); omega))
local macro_rules | `(tactic| walk_at "call builtin:str.join") => `(tactic| (k_here; (with_reducible show wpAny _ _ (call (Value.builtin "str.join") [Value.str _ _, Value.ref _]) _ _ _); k_dflt (refine join_list (News.isList (by k_asm) (by k_memK)) (by k_asm) (by exact join_fits (chr_short _) (by (simp only [List.length_map, List.length_take]; omega))) ?_); intro t' k'; (try dsimp only)))
local macro_rules | `(tactic| walk_at "pyIter ref") => `(tactic| (refine Stop.out ?_))
local macro_rules | `(tactic| walk_at "exec For Name Call cons nil") => `(tactic| (k_here; (rename Fr _ _ _ _ => lF'); (with_unfolding_all refine' For_invVF lF' ?k1 ?k2 ?_; (case k1 => exact rfl); (case k2 => exact rfl); k_whole)))
theorem names_ne {ps : List (Str × Value)} {x : Str} (h : (ps.map (·.1)).all (fun y => decide (y ≠ x)) = true) : ∀ p ∈ ps, p.1 ≠ x := by
  intro p hp
  exact of_decide_eq_true (List.all_eq_true.mp h p.1 (List.mem_map.mpr ⟨p, hp, rfl⟩))
theorem kEnum_keys {k : Int} : ∀ {zs : List Value} {j : Nat}, (k < (j : Int) ∨ ((j + zs.length : Nat) : Int) ≤ k) → (kEnum j zs).any (fun kv => decide (kv.1 = k)) = false
  | [], _, _ => rfl
  | v :: r, j, h => by
    have e : ¬ ((j : Int) = k) := by simp only [List.length_cons] at h; omega
    have ih := @kEnum_keys k r (j + 1) (by simp only [List.length_cons] at h; omega)
    simp only [kEnum, List.any_cons, decide_eq_false e, Bool.false_or]
    exact ih
theorem kEnum_snoc {v : Value} : ∀ {zs : List Value} {j : Nat}, kEnum j zs ++ [(((j + zs.length : Nat) : Int), v)] = kEnum j (zs ++ [v])
  | [], _ => rfl
  | z :: r, j => by
    have ih := @kEnum_snoc v r (j + 1)
    have e : j + 1 + r.length = j + (r.length + 1) := by omega
    rw [e] at ih
    simp only [kEnum, List.cons_append, List.length_cons]
    rw [ih]
theorem st_enum {zs : List Value} {v : Value} {i : Nat} (h : zs.length = i) : stored (kEnum 0 zs) (i : Int) v = kEnum 0 (zs ++ [v]) := by
  unfold stored
  rw [if_neg (by rw [kEnum_keys (.inr (by omega))]; decide), ← kEnum_snoc, h, Nat.zero_add]
theorem dEnum_keys {k : Int} : ∀ {zs : List Int} {j : Nat}, (k < (j : Int) ∨ ((j + zs.length : Nat) : Int) ≤ k) → (dEnum j zs).any (fun p => PySem.Spec.same p.1 (.int k)) = false
  | [], _, _ => rfl
  | v :: r, j, h => by
    have e : ¬ ((j : Int) = k) := by simp only [List.length_cons] at h; omega
    have ih := @dEnum_keys k r (j + 1) (by simp only [List.length_cons] at h; omega)
    simp only [dEnum, List.any_cons, PyProof.V.same_int, decide_eq_false e, Bool.false_or]
    exact ih
theorem dEnum_snoc {v : Int} : ∀ {zs : List Int} {j : Nat}, dEnum j zs ++ [(.int ((j + zs.length : Nat) : Int), .int v)] = dEnum j (zs ++ [v])
  | [], _ => rfl
  | z :: r, j => by
    have ih := @dEnum_snoc v r (j + 1)
    have e : j + 1 + r.length = j + (r.length + 1) := by omega
    rw [e] at ih
    simp only [dEnum, List.cons_append, List.length_cons]
    rw [ih]
theorem pd_enum {zs : List Int} {v : Int} {i : Nat} (h : zs.length = i) : putD (.int (i : Int)) (.int v) (dEnum 0 zs) = dEnum 0 (zs ++ [v]) := by
  unfold putD
  rw [if_neg (by rw [dEnum_keys (.inr (by omega))]; decide), ← dEnum_snoc, h, Nat.zero_add]
theorem dEnum_len : ∀ {zs : List Int} {j : Nat}, (dEnum j zs).length = zs.length
  | [], _ => rfl
  | _ :: r, j => by simp only [dEnum, List.length_cons, @dEnum_len r (j + 1)]
local macro_rules | `(tactic| walk_at "setItem ref int") => `(tactic| (k_here; k_dflt (refine' setItem_K PyProof.V.same_int (intKind_is _ _ _ _) ?v ?F ?N ?U ?d ?f ?_ ?z; (case F => k_asm); (case N => k_asm); (case U => k_updF); (case d => k_asm); (case f => k_asm); (case z => (rw [dEnum_len, sizeLine_eq]; omega)); (case v => k_flat)); intro h' o' F' N' hd' hf'; (try dsimp only at N'); (try k_sweep)))
theorem news3 {h₀ h : Heap} {L : Addr} {l : List (Addr × Obj)} {p q r : Addr × Obj} (N : News h₀ L h l) (h1 : p ∈ l) (h2 : q ∈ l) (h3 : r ∈ l) : News h₀ L h (p :: q :: r :: l) := by
  intro z hz
  rcases List.mem_cons.mp hz with rfl | hz
  · exact N _ h1
  rcases List.mem_cons.mp hz with rfl | hz
  · exact N _ h2
  rcases List.mem_cons.mp hz with rfl | hz
  · exact N _ h3
  · exact N _ hz
theorem news3_out {h₀ h : Heap} {L : Addr} {l : List (Addr × Obj)} {p q r : Addr × Obj} (N : News h₀ L h (p :: q :: r :: l)) : News h₀ L h l := fun z hz => N z (.tail _ (.tail _ (.tail _ hz)))
local macro_rules | `(tactic| walk_at "call ref") => `(tactic| (k_here; (with_reducible show wpAny _ _ (call (Value.ref 126) _) _ _ _); (with_reducible rename News _ _ _ _ => nN); k_dflt (refine text_of_in (by k_asm) (by k_asm) (by k_asm) (news3 nN (by k_memK) (by k_memK) (by k_memK)) (by k_asm) rfl (by k_asm) (by k_asm) (by k_asm) (by omega) ‹_› (by ktr_room) ?_; k_whole; intro t' h' tk' F' N'; (replace N' := news3_out N'); (try clear nN); (try k_sweep); (try dsimp only); (try k_fold))))
local macro_rules | `(tactic| walk_at "eval ListComp") => `(tactic| (refine Stop.out ?_))
local macro_rules | `(tactic| walk_at "CompSrc") => `(tactic| (refine Stop.out ?_))
theorem kfi_of {ys : List Value} {ks : List Int} (h : IntsAre ys ks) : kf_ints ys = true := by
  induction h with
  | nil => rfl
  | cons n t h ih => exact ih
abbrev tw (ks : List Int) : List Int := ks.takeWhile (fun k => decide (k ≠ 0))
theorem tw_pos {k : Int} {r : List Int} (h : k ≠ 0) : tw (k :: r) = k :: tw r := List.takeWhile_cons_of_pos (decide_eq_true h)
theorem at_tw {ys : List Value} {ks : List Int} (h : IntsAre ys ks) : (ks.any fun x => x == 0) = true → kf_at 0 ys = some (tw ks).length := by
  induction h with
  | nil => intro ha; cases ha
  | cons n t h ih =>
    intro ha
    by_cases hn : n = 0
    · subst hn; rfl
    · have e1 : isInt 0 (.int n t) = false := by simp [isInt, hn]
      have ha' := ih (by simpa [hn] using ha)
      simp only [kf_at, e1, cond_false, ha']
      rw [tw_pos hn]
      rfl
theorem take_tw : ∀ {ks : List Int}, ks.take (tw ks).length = tw ks
  | [] => rfl
  | k :: r => by
    by_cases hk : k = 0
    · subst hk; rfl
    · have e := tw_pos (r := r) hk
      rw [e, List.length_cons, List.take_succ_cons, take_tw]
theorem tw_none {ks : List Int} (h : (ks.any fun x => x == 0) = false) : tw ks = ks := by
  apply tw_all
  intro k hk e
  have := List.any_eq_false.mp h k hk
  simp [e] at this
theorem tw_len (ks : List Int) : (tw ks).length ≤ ks.length := by
  have := congrArg List.length (take_tw (ks := ks))
  rw [List.length_take] at this; omega
theorem index_tw {prog : Program} {w : World} {A : Around} {E : Value → Shared → Prop} {s : Shared} {h₀ : Heap} {L D : Addr} {news : List (Addr × Obj)} {ys : List Value} {ks : List Int} {n : Nat} {t : Tok} {Q : Value → Shared → Prop}
    (N : News h₀ L s.heap news) (hm : (D, listOf ys.toArray n) ∈ news) (hi : IntsAre ys ks) (ha : (ks.any fun x => x == 0) = true) (hl : ks.length ≤ 100)
    (h : (tw ks).length ≤ ks.length → Q (.int ((tw ks).length : Int) s.toks) { s with toks := s.toks + 1 }) : wpAny (model prog w) A (call (.builtin "list.index") [.ref D, .int 0 t]) Q E s :=
  kf_index (its := ys.toArray) N hm (kfi_of hi) (at_tw hi ha) rfl (by show ys.length ≤ sizeLine; rw [hi.length, sizeLine_eq]; omega) (h (tw_len ks))
local macro_rules | `(tactic| walk_at "call builtin:list.index") => `(tactic| (k_here; (with_reducible show wpAny _ _ (call (Value.builtin _) [Value.ref _, Value.int _ _]) _ _ _); k_dflt (refine index_tw (by k_asm) (by k_memK) ‹_› ‹_› (by omega) ?_); intro htw))
local macro_rules | `(tactic| walk_at "subscriptTail") => `(tactic| (k_here; (with_reducible show wpAny _ _ (subscriptTail _ (PySem.Expr.Slice _ _ none _) (Value.ref _) (Value.ref _)) _ _ _); k_dflt (refine kmk_slice_ints (by k_asm) (by k_asm) (News.isList (by k_asm) (by k_memK)) (by kmk_part) (by kmk_part) ‹_› (kmk_upto (by assumption) (by omega)) (by kmk_len) ?_ (by with_unfolding_all rfl) (by kmk_pure) (by (rw [List.size_toArray, sizeLine_eq]; omega))); intro D' ws' h' F' N' l1 hI' hC' hL'; (try k_lt l1); (try k_sweep)))
theorem val_of {ws : List Value} {src : List Int} {i : Nat} {v : Value} (hI : IntsAre ws src) (hi : i < src.length) (hv : ws.toArray[i]? = some v) : ∃ t, v = .int src[i] t := by
  obtain ⟨t, ht⟩ := hI.get i _ (List.getElem?_eq_getElem hi)
  have hv' : ws[i]? = some v := by simpa using hv
  rw [ht] at hv'
  exact ⟨t, (Option.some.inj hv').symm⟩
theorem map_take_snoc {i : Nat} {src : List Int} (h : i < src.length) : (src.take (i + 1)).map chrS = (src.take i).map chrS ++ [chrS src[i]] := by
  rw [List.take_add_one, List.getElem?_eq_getElem h, List.map_append]; rfl
theorem txt_len {ks : List Int} (h : ks.length ≤ 4) : (txtOf ks).length ≤ 100 := by
  have e : txtOf ks = Str.join (Str.ofString "") ((tw ks).map chrS) := by unfold txtOf Txt.join; rw [StrLaws.glued_eq_join]
  rw [e]
  refine Nat.le_trans (StrLaws.join_length_le _ _) ?_
  have h1 := tw_len ks
  have h2 : (((tw ks).map chrS).map (·.length)).sum = (tw ks).length := by
    generalize tw ks = l
    induction l with
    | nil => rfl
    | cons a r ih => rw [List.map_cons, List.map_cons, List.sum_cons, ih, List.length_cons, show (chrS a).length = 1 from rfl]; omega
  have h3 : (Str.ofString "").length = 0 := by decide +kernel
  rw [h2, h3]; omega
theorem txt_one {ks : List Int} : Txt.join (Str.ofString "") (List.map chrS (List.take ((tw ks).length : Int).toNat ks)) = txtOf ks := by
  rw [Int.toNat_natCast, take_tw]; rfl
theorem txt_two {ks : List Int} (h : (ks.any fun x => x == 0) = false) : Txt.join (Str.ofString "") (List.map chrS ks) = txtOf ks := by
  have e := tw_none h
  show _ = Txt.join (Str.ofString "") ((tw ks).map chrS)
  rw [e]
section
variable {w : World} {p : Program} {loose : List Str} {mean : ExcName → Option Value} {mg mb : Str → Option Value}
  {h₀ : Heap} {L fa : Addr} {cd : Value} {u : Str → Option Value} {s : Shared} {Q : Flow → Shared → Prop} {E : Value → Shared → Prop}
  {ca pa td ta rd ra roA gA rgA hdd ha hc va oA : Addr} {oP oH : Obj} {n nc : Nat} {vs : List Value} {ns : List Int} {rh : Nat → Int} {rt : Nat → Tok} {rv : Nat → Value} {th : Nat → Int} {tt : Nat → Tok} {tv : Nat → Value} {tr : Nat → Addr} {eh : Nat → Int} {et : Nat → Tok} {ev : Nat → Value}
  {p0 p1 : Int} {t0 t1 : Tok} {ro : List Value} {nro : Nat} {rg : List Value} {nrg : Nat} {g : List Value} {ng : Nat} {oC : Obj} {vals : List Value} {nv : Nat} {o : List Value} {no : Nat} {own : List (Addr × Obj)} {k : Int} {ss : List Str}
set_option maxHeartbeats 8000000 in
theorem str_rest {D9 : Addr} {ys : List Value} {ks : List Int} (B : Below callerA h₀ [] h₀) (F : Fr h₀ L s.heap (fun z => if z = Str.ofString "row" then some (.ref D9) else kstB u (lawPS ra ta gA va oA) z)) (X : (hd.heap_1 w.params).In h₀)
    (N : News h₀ L s.heap ((D9, listOf ys.toArray ys.length) :: (led L ca pa td ta rd ra roA gA rgA hdd ha hc va oA oP oH n nc vs rh rt rv th tt tv tr eh et ev p0 p1 t0 t1 ro nro rg nrg g ng oC vals nv o no ++ own))) (T : Top p loose mean mg mb h₀)
    (dP : oP.data = .cell (some (.ref pa))) (dH : oH.data = .cell (some (.ref ha)))
    (hoff : OwnOff own [pa, ca, roA, oA, ra, rd, rgA, gA, ta, td, ha, hdd, hc, va, L + 1, L + 1 + 1]) (hch : Asc [L + 1, L + 1 + 1, ca, pa, td, ta, rd, ra, roA, gA, rgA, hdd, ha, hc, va, oA])
    (hap : Apart D9 [pa, ca, roA, oA, ra, rd, rgA, gA, ta, td, ha, hdd, hc, va, L + 1, L + 1 + 1]) (ho9 : OwnOff own [D9]) (hys : IntsAre ys ks) (hl5 : ks.length ≤ 4) (hb : ∀ x ∈ ks, 0 ≤ x ∧ x ≤ 1114111)
    (hl1 : ro.length ≤ 100) (hl2 : o.length ≤ 100) (hE : PassesOwn (model prg w) (callerA.deeper (lawEnv w.params L fa cd)) (lawEnv w.params L fa cd) E)
    (hret : ∀ S tx ty nro' no' u' h' tk', News h₀ L h' (led L ca pa td ta rd ra roA gA rgA hdd ha hc va oA oP oH n nc vs rh rt rv th tt tv tr eh et ev p0 p1 t0 t1 (ro ++ [.str S tx]) nro' rg nrg g ng oC vals nv (o ++ [.str S ty]) no' ++ own) →
      Fr h₀ L h' (kstB u' (lawPS ra ta gA va oA)) → S.length ≤ 100 → Q .next { s with heap := h', toks := tk' }) :
    wpAny (model prg w) (callerA.deeper (lawEnv w.params L fa cd)) (execs (kB2T w.params) (lawEnv w.params L fa cd)) Q E s := by
  w_top off
  revert X; unfold prg at hE ⊢; k_fill; intro X
  have hMk := kstMark
  obtain ⟨rest, N7, hApt, ⟨r1, r2, r3, r4, r5, r6, r7, r8, r9⟩, hfat, hoA, hoB⟩ := thin_ex2 (news_tl N) hoff hch
  replace N := news_cs (news_hd N) N7
  have ho9R := hoA hap ho9
  clear N7 hoA hoB ho9
  clear hoff
  unfold lawEnv lawScope fscope at hE
  unfold lawEnv lawScope fscope kB2T k2TOf
  unfold led7 at N
  dsimp only [lawPS, kstB] at F
  k_steps
  refine Stop.mk ?_
  rename_i xA dA cA oA9 kA1 kA2 kA3 tA1 tA2 tA3 tkA hA2 loA hiA fiA lA1 lAc lA2 lA3 hA1 FA NA hA tkB tB uB vB rE fE nE kE
  clear FA NA kE
  refine range_head [(Str.ofString "row", .ref D9), (Str.ofString "text_in", .ref xA), (Str.ofString "runner", .ref ra), (Str.ofString "types", .ref ta), (Str.ofString "given", .ref gA), (Str.ofString "values", .ref va), (Str.ofString "out", .ref oA)]
    (fun i ob => ∃ zs, IntsAre zs (ks.take i) ∧ zs.length = i ∧ ob.IsDictOf (intKind prg w) (kEnum 0 zs) ∧ FlatPairs PyData.int (kEnum 0 zs) (dEnum 0 (ks.take i))) rfl rE (small_one (by omega) (by omega) (by omega) (by omega)) (n := ks.length) (by rw [rangeSize_nat]; omega) fE nE
    (names_ne (by with_unfolding_all rfl)) (by kst_all) ⟨[], .nil, rfl, hiA, fiA⟩ ?_ ?_
  · clear fE nE rE
    rintro ob i t u' h' tk' own' hi hoff' ⟨zs, hz1, hz2, hz3, hz4⟩ F' N'
    dsimp only [kstB] at F'
    (try simp only [List.cons_append] at N')
    unfold prg at hz3
    have hln : (ks.take i).length ≤ 4 := by rw [List.length_take]; omega
    k_steps
    rename Obj.IsDictOf _ _ _ => hD9
    rename FlatPairs _ _ _ => hF9
    rename Fr _ _ _ _ => fZ
    rename News _ _ _ _ => nZ
    rename Obj => oZ
    rw [st_enum hz2] at hD9 hF9
    rw [pd_enum (by rw [List.length_take]; omega)] at hF9
    simp only [Int.toNat_natCast] at hD9 hF9
    rw [← take_snoc hi] at hF9
    refine loop_endN oZ fZ nZ ?_ ?_ rfl (by kst_all) ⟨_, ?_, ?_, hD9, hF9⟩
    · intro p hp
      rcases List.mem_cons.mp hp with rfl | hp
      · exact List.Mem.head _
      · refine List.Mem.tail _ ?_
        exact (List.mem_append.mpr (.inl hp) : p ∈ _ ++ own')
    · intro p hp
      kst_mem
    · rw [take_snoc hi]; exact ints_snoc hz1
    · rw [List.length_append, hz2]; rfl
  · clear fE nE rE
    rintro ob u' h' tk' ⟨zs, hz1, hz2, hz3, hz4⟩ F' N'
    dsimp only [kstB] at F'
    rw [List.take_length] at hz1 hz4
    unfold prg at hz3
    k_steps
    refine Stop.mk ?_
    rename Fr _ _ _ _ => fE
    have hyl := hys.length
    refine LCg.ListComp_U (F₀ := fE) (by with_unfolding_all rfl) (by decide) (by rfl) (by decide) (by rfl) ?_
    k_steps
    · refine Stop.mk ?_
      have hb8 : ∀ x ∈ ks.take ((tw ks).length : Int).toNat, 0 ≤ x ∧ x ≤ 1114111 := fun x hx => hb x (List.mem_of_mem_take hx)
      rename Fr _ _ _ _ => fE8
      rename News _ _ _ _ => nE8
      refine LCg.CompSrc.ledger (by rfl) fE8 nE8 (by k_memK) (by rw [List.size_toArray, sizeLine_eq, IntsAre.length (by assumption : IntsAre _ (ks.take ((tw ks).length : Int).toNat))]; omega) ?_
      intro g9
      rw [List.size_toArray, IntsAre.length (by assumption : IntsAre _ (ks.take ((tw ks).length : Int).toNat))]
      rename IntsAre _ (ks.take ((tw ks).length : Int).toNat) => hI8
      refine comp_fix (Inv := fun i zs => StrsAre zs (((ks.take ((tw ks).length : Int).toNat).take i).map chrS)) (Or.inr ⟨_, by k_memK, rfl, _, rfl⟩) .nil ?_ ?_
      · clear fE8 nE8
        intro i8 zs8 v8 I8 oI8 C8 oC8 D8 m8 h8 tk8 E8 hi8 hS8 hv8 hC8 hx8 F8 N8
        obtain ⟨t8, rfl⟩ := val_of hI8 hi8 hv8
        have hb7 := hb8 _ (List.getElem_mem hi8)
        k_steps
        exact ⟨_, _, rfl, F8, N8, by rw [map_take_snoc hi8]; exact strs_snoc hS8⟩
      · clear fE8 nE8
        intro zs8 hS8
        rw [List.take_of_length_le (Nat.le_refl _)] at hS8
        unfold LCg.FinE
        intro D8 h8 tk8 F8 N8 o8
        have hA8 := apart_of o8
        have hO8 : OwnOff rest [D8] := by
          intro p hp b hb
          rw [List.mem_singleton.mp hb]
          exact off1_mem o8 p (by k_ownIn)
        clear o8
        change News h₀ L h8 ((D8, listOf zs8.toArray zs8.length) :: _) at N8
        simp only [List.map_cons] at hA8
        have hz8 := hS8.length
        k_steps
        rename News _ _ _ _ => nZ
        rename Fr _ _ _ _ => fZ
        simp only [List.push_toArray] at nZ
        rw [txt_one] at nZ
        refine' hret _ _ _ _ _ _ _ _ (hfat (by first | exact nZ | exact news_tl nZ | exact news_tl (news_tl nZ) | exact news_tl (news_tl (news_tl nZ)) | exact news_tl (news_tl (news_tl (news_tl nZ))) | exact news_tl (news_tl (news_tl (news_tl (news_tl nZ)))) | exact news_tl (news_tl (news_tl (news_tl (news_tl (news_tl nZ))))) | exact news_tl (news_tl (news_tl (news_tl (news_tl (news_tl (news_tl nZ)))))))) (fr_kst fZ (by kst_all)) (txt_len hl5)
    · refine Stop.mk ?_
      have hb8 : ∀ x ∈ ks, 0 ≤ x ∧ x ≤ 1114111 := hb
      rename Fr _ _ _ _ => fE8
      rename News _ _ _ _ => nE8
      refine LCg.CompSrc.ledger (by rfl) fE8 nE8 (by k_memK) (by rw [List.size_toArray, sizeLine_eq, IntsAre.length (by assumption : IntsAre _ (ks))]; omega) ?_
      intro g9
      rw [List.size_toArray, IntsAre.length (by assumption : IntsAre _ (ks))]
      rename IntsAre _ (ks) => hI8
      refine comp_fix (Inv := fun i zs => StrsAre zs (((ks).take i).map chrS)) (Or.inr ⟨_, by k_memK, rfl, _, rfl⟩) .nil ?_ ?_
      · clear fE8 nE8
        intro i8 zs8 v8 I8 oI8 C8 oC8 D8 m8 h8 tk8 E8 hi8 hS8 hv8 hC8 hx8 F8 N8
        obtain ⟨t8, rfl⟩ := val_of hI8 hi8 hv8
        have hb7 := hb8 _ (List.getElem_mem hi8)
        k_steps
        exact ⟨_, _, rfl, F8, N8, by rw [map_take_snoc hi8]; exact strs_snoc hS8⟩
      · clear fE8 nE8
        intro zs8 hS8
        rw [List.take_of_length_le (Nat.le_refl _)] at hS8
        unfold LCg.FinE
        intro D8 h8 tk8 F8 N8 o8
        have hA8 := apart_of o8
        have hO8 : OwnOff rest [D8] := by
          intro p hp b hb
          rw [List.mem_singleton.mp hb]
          exact off1_mem o8 p (by k_ownIn)
        clear o8
        change News h₀ L h8 ((D8, listOf zs8.toArray zs8.length) :: _) at N8
        simp only [List.map_cons] at hA8
        have hz8 := hS8.length
        k_steps
        rename News _ _ _ _ => nZ
        rename Fr _ _ _ _ => fZ
        simp only [List.push_toArray] at nZ
        rw [txt_two (by assumption)] at nZ
        refine' hret _ _ _ _ _ _ _ _ (hfat (by first | exact nZ | exact news_tl nZ | exact news_tl (news_tl nZ) | exact news_tl (news_tl (news_tl nZ)) | exact news_tl (news_tl (news_tl (news_tl nZ))) | exact news_tl (news_tl (news_tl (news_tl (news_tl nZ)))) | exact news_tl (news_tl (news_tl (news_tl (news_tl (news_tl nZ))))) | exact news_tl (news_tl (news_tl (news_tl (news_tl (news_tl (news_tl nZ)))))))) (fr_kst fZ (by kst_all)) (txt_len hl5)
end

end
end

section
open PySem PySem.W PySem.Spec PySem.Calls PyProof.Rows PyProof.V
local macro_rules | `(tactic| walk_at "binaryOp Pow int int") => `(tactic| (with_reducible refine pow31 ?_))
local macro_rules | `(tactic| walk_at "call builtin:list.pop") => `(tactic| (k_here; (with_reducible show wpAny _ _ (call (Value.builtin _) [Value.ref _, Value.int 0 _]) _ _ _); k_dflt (refine pop0 (by k_asm) (by k_asm) (by k_upd) (by omega) ?_); intro h' F' N'; (try k_sweep)))
local macro_rules | `(tactic| walk_at "ite") => `(tactic| ((first | (with_reducible show ite ((!decide (_ :: _ = ([] : List Int))) = true) _ _) | (with_reducible show ite ((decide (_ :: _ = ([] : List Int))) = false) _ _) | (with_reducible show ite (¬ (_ :: _ = ([] : List Int))) _ _) | (with_reducible show ite ((decide ¬ (_ :: _ = ([] : List Int))) = true) _ _)); (walk_say "CONS"); refine ite_pos (by simp) ?_))
local macro_rules | `(tactic| walk_at "setItem ref int") => `(tactic| (k_here; (with_reducible show wpAny _ _ (setItem (Value.ref _) (Value.int _ _) (Value.int _ _)) _ _ _); k_dflt (refine ksa_set (by k_asm) (by k_asm) (by k_upd) (by first | with_reducible assumption | exact ints4) (by omega) (by ((simp only [List.length_set, List.length_cons, List.length_nil]); omega)) (by omega) ?_; k_whole); intro h' F' N' hi' hl' hs'; (try k_sweep); (try dsimp only)))

section
open PySem PySem.W PySem.Spec PySem.Calls PyProof.Rows PyProof.V
local macro_rules | `(tactic| walk_at "binaryOp Pow int int") => `(tactic| (with_reducible refine pow31 ?_))
section
variable {w : World} {p : Program} {loose : List Str} {mean : ExcName → Option Value} {mg mb : Str → Option Value}
  {h₀ : Heap} {L fa : Addr} {cd : Value} {u : Str → Option Value} {s : Shared} {Q : Flow → Shared → Prop} {E : Value → Shared → Prop}
  {ca pa td ta rd ra roA gA rgA hdd ha hc va oA : Addr} {oP oH : Obj} {n nc : Nat} {vs : List Value} {ns : List Int} {rh : Nat → Int} {rt : Nat → Tok} {rv : Nat → Value} {th : Nat → Int} {tt : Nat → Tok} {tv : Nat → Value} {tr : Nat → Addr} {eh : Nat → Int} {et : Nat → Tok} {ev : Nat → Value}
  {p0 p1 : Int} {t0 t1 : Tok} {ro : List Value} {nro : Nat} {rg : List Value} {nrg : Nat} {g : List Value} {ng : Nat} {oC : Obj} {vals : List Value} {nv : Nat} {o : List Value} {no : Nat} {own : List (Addr × Obj)} {k : Int} {ss : List Str}
set_option maxHeartbeats 8000000 in
theorem kB4_cons4 {kd : Int} {tkd : Tok} {v0 v1 v2 v3 fg : Int} {tg tr0 : Tok} {g' rg' : List Value} {gi' : List Int} {c0 c1 c2 c3 b0 b1 b2 b3 : Tok} (B : Below callerA h₀ [] h₀) (F : Fr h₀ L s.heap (kstB u ((Str.ofString "kind", .int kd tkd) :: lawPS ra ta gA va oA))) (X : (hd.heap_1 w.params).In h₀)
    (N : News h₀ L s.heap (led L ca pa td ta rd ra roA gA rgA hdd ha hc va oA oP oH n nc vs rh rt rv th tt tv tr eh et ev p0 p1 t0 t1 ro nro (.int fg tr0 :: rg') nrg (.int fg tg :: g') ng oC [.int v0 b0, .int v1 b1, .int v2 b2, .int v3 b3] nv o no ++ own)) (T : Top p loose mean mg mb h₀)
    (dP : oP.data = .cell (some (.ref pa))) (dH : oH.data = .cell (some (.ref ha)))
    (hC : oC.IsDictOf (intKind prg w) [(0, .int v0 c0), (1, .int v1 c1), (2, .int v2 c2), (3, .int v3 c3)]) (fC : FlatPairs PyData.int [(0, .int v0 c0), (1, .int v1 c1), (2, .int v2 c2), (3, .int v3 c3)] [(.int 0, .int v0), (.int 1, .int v1), (.int 2, .int v2), (.int 3, .int v3)])
    (hoff : OwnOff own [pa, ca, roA, oA, ra, rd, rgA, gA, ta, td, ha, hdd, hc, va, L + 1, L + 1 + 1]) (hch : Asc [L + 1, L + 1 + 1, ca, pa, td, ta, rd, ra, roA, gA, rgA, hdd, ha, hc, va, oA])
    (hkd : kd = 4) (hi : IntsAre vs ns) (hne : 1 ≤ ns.length) (hlen : ns.length ≤ 64) (hp : PoolOk p0 p1 k) (hk : k ≤ 1900)
    (hg1 : IntsAre g' gi') (hg2 : IntsAre rg' gi') (hg3 : gi'.length ≤ 10)
    (hret : ∀ q0 q1 q2 q3 p0' p1' t0' t1' oC' c0' c1' c2' c3' b0' b1' b2' b3' nv' nrg' ng' u' h' tk', News h₀ L h' (led L ca pa td ta rd ra roA gA rgA hdd ha hc va oA oP oH n nc vs rh rt rv th tt tv tr eh et ev p0' p1' t0' t1' ro nro rg' nrg' g' ng' oC' [.int q0 b0', .int q1 b1', .int q2 b2', .int q3 b3'] nv' o no ++ own) →
      oC'.IsDictOf (intKind prg w) [(0, .int q0 c0'), (1, .int q1 c1'), (2, .int q2 c2'), (3, .int q3 c3')] → FlatPairs PyData.int [(0, .int q0 c0'), (1, .int q1 c1'), (2, .int q2 c2'), (3, .int q3 c3')] [(.int 0, .int q0), (.int 1, .int q1), (.int 2, .int q2), (.int 3, .int q3)] →
      Fr h₀ L h' (kstB u' (lawPS ra ta gA va oA)) → PoolOk p0' p1' (k + 1) → Q .next { s with heap := h', toks := tk' }) :
    wpAny (model prg w) (callerA.deeper (lawEnv w.params L fa cd)) (execs (kB4 w.params) (lawEnv w.params L fa cd)) Q E s := by
  w_top off
  revert X; unfold prg at hC hret ⊢; k_fill; intro X
  have hMk := kstMark
  obtain ⟨rest, N, hApt, ⟨r1, r2, r3, r4, r5, r6, r7, r8, r9⟩, hfat⟩ := thin_ex N hoff hch
  clear hoff
  have hDrw := Drw.mk (apt_ca hApt r1) hi hne hlen
  subst hkd
  dsimp only [lawPS, kstB] at F
  have hL1 := hg1.length
  have hL2 := hg2.length
  unfold lawEnv lawScope fscope kB4 k4Of
  unfold led7 at N
  k_steps
  all_goals (
    rename Obj.IsDictOf _ _ _ => hD9
    rename FlatPairs _ _ _ => hF9
    rename News _ _ _ _ => nE
    rename Fr _ _ _ _ => fE
    rename ((_ : Int) < 3) => hb9
    rcases three_of (by assumption) hb9 with rfl | rfl | rfl
    all_goals (
      simp only [st0, st1, st2, st3, pd0, pd1, pd2, pd3] at hD9 hF9
      simp only [se0, se1, se2, se3] at nE
      (try dsimp only)
      exact hret _ _ _ _ _ _ _ _ _ _ _ _ _ _ _ _ _ _ _ _ _ _ _ (hfat (by first | exact nE | exact news_tl nE | exact news_tl (news_tl nE) | exact news_tl (news_tl (news_tl nE)) | exact news_tl (news_tl (news_tl (news_tl nE))) | exact news_tl (news_tl (news_tl (news_tl (news_tl nE)))) | exact news_tl (news_tl (news_tl (news_tl (news_tl (news_tl nE))))) | exact news_tl (news_tl (news_tl (news_tl (news_tl (news_tl (news_tl nE)))))) | exact news_tl (news_tl (news_tl (news_tl (news_tl (news_tl (news_tl (news_tl nE))))))))) hD9 hF9 (fr_kst fE (by kst_all)) (by assumption)))
end

end

section
open PySem PySem.W PySem.Spec PySem.Calls PyProof.Rows PyProof.V
local macro_rules | `(tactic| walk_at "binaryOp Pow int int") => `(tactic| (with_reducible refine pow31 ?_))
section
variable {w : World} {p : Program} {loose : List Str} {mean : ExcName → Option Value} {mg mb : Str → Option Value}
  {h₀ : Heap} {L fa : Addr} {cd : Value} {u : Str → Option Value} {s : Shared} {Q : Flow → Shared → Prop} {E : Value → Shared → Prop}
  {ca pa td ta rd ra roA gA rgA hdd ha hc va oA : Addr} {oP oH : Obj} {n nc : Nat} {vs : List Value} {ns : List Int} {rh : Nat → Int} {rt : Nat → Tok} {rv : Nat → Value} {th : Nat → Int} {tt : Nat → Tok} {tv : Nat → Value} {tr : Nat → Addr} {eh : Nat → Int} {et : Nat → Tok} {ev : Nat → Value}
  {p0 p1 : Int} {t0 t1 : Tok} {ro : List Value} {nro : Nat} {rg : List Value} {nrg : Nat} {g : List Value} {ng : Nat} {oC : Obj} {vals : List Value} {nv : Nat} {o : List Value} {no : Nat} {own : List (Addr × Obj)} {k : Int} {ss : List Str}
set_option maxHeartbeats 8000000 in
theorem kB4_cons5 {kd : Int} {tkd : Tok} {v0 v1 v2 v3 fg : Int} {tg tr0 : Tok} {g' rg' : List Value} {gi' : List Int} {c0 c1 c2 c3 b0 b1 b2 b3 : Tok} (B : Below callerA h₀ [] h₀) (F : Fr h₀ L s.heap (kstB u ((Str.ofString "kind", .int kd tkd) :: lawPS ra ta gA va oA))) (X : (hd.heap_1 w.params).In h₀)
    (N : News h₀ L s.heap (led L ca pa td ta rd ra roA gA rgA hdd ha hc va oA oP oH n nc vs rh rt rv th tt tv tr eh et ev p0 p1 t0 t1 ro nro (.int fg tr0 :: rg') nrg (.int fg tg :: g') ng oC [.int v0 b0, .int v1 b1, .int v2 b2, .int v3 b3] nv o no ++ own)) (T : Top p loose mean mg mb h₀)
    (dP : oP.data = .cell (some (.ref pa))) (dH : oH.data = .cell (some (.ref ha)))
    (hC : oC.IsDictOf (intKind prg w) [(0, .int v0 c0), (1, .int v1 c1), (2, .int v2 c2), (3, .int v3 c3)]) (fC : FlatPairs PyData.int [(0, .int v0 c0), (1, .int v1 c1), (2, .int v2 c2), (3, .int v3 c3)] [(.int 0, .int v0), (.int 1, .int v1), (.int 2, .int v2), (.int 3, .int v3)])
    (hoff : OwnOff own [pa, ca, roA, oA, ra, rd, rgA, gA, ta, td, ha, hdd, hc, va, L + 1, L + 1 + 1]) (hch : Asc [L + 1, L + 1 + 1, ca, pa, td, ta, rd, ra, roA, gA, rgA, hdd, ha, hc, va, oA])
    (hkd : kd = 5) (hi : IntsAre vs ns) (hne : 1 ≤ ns.length) (hlen : ns.length ≤ 64) (hp : PoolOk p0 p1 k) (hk : k ≤ 1900)
    (hg1 : IntsAre g' gi') (hg2 : IntsAre rg' gi') (hg3 : gi'.length ≤ 10)
    (hret : ∀ q0 q1 q2 q3 p0' p1' t0' t1' oC' c0' c1' c2' c3' b0' b1' b2' b3' nv' nrg' ng' u' h' tk', News h₀ L h' (led L ca pa td ta rd ra roA gA rgA hdd ha hc va oA oP oH n nc vs rh rt rv th tt tv tr eh et ev p0' p1' t0' t1' ro nro rg' nrg' g' ng' oC' [.int q0 b0', .int q1 b1', .int q2 b2', .int q3 b3'] nv' o no ++ own) →
      oC'.IsDictOf (intKind prg w) [(0, .int q0 c0'), (1, .int q1 c1'), (2, .int q2 c2'), (3, .int q3 c3')] → FlatPairs PyData.int [(0, .int q0 c0'), (1, .int q1 c1'), (2, .int q2 c2'), (3, .int q3 c3')] [(.int 0, .int q0), (.int 1, .int q1), (.int 2, .int q2), (.int 3, .int q3)] →
      Fr h₀ L h' (kstB u' (lawPS ra ta gA va oA)) → PoolOk p0' p1' (k + 1) → Q .next { s with heap := h', toks := tk' }) :
    wpAny (model prg w) (callerA.deeper (lawEnv w.params L fa cd)) (execs (kB4 w.params) (lawEnv w.params L fa cd)) Q E s := by
  w_top off
  revert X; unfold prg at hC hret ⊢; k_fill; intro X
  have hMk := kstMark
  obtain ⟨rest, N, hApt, ⟨r1, r2, r3, r4, r5, r6, r7, r8, r9⟩, hfat⟩ := thin_ex N hoff hch
  clear hoff
  have hDrw := Drw.mk (apt_ca hApt r1) hi hne hlen
  subst hkd
  dsimp only [lawPS, kstB] at F
  have hL1 := hg1.length
  have hL2 := hg2.length
  unfold lawEnv lawScope fscope kB4 k4Of
  unfold led7 at N
  k_steps
  all_goals (
    rename Obj.IsDictOf _ _ _ => hD9
    rename FlatPairs _ _ _ => hF9
    rename News _ _ _ _ => nE
    rename Fr _ _ _ _ => fE
    rename ((_ : Int) < 3) => hb9
    rcases three_of (by assumption) hb9 with rfl | rfl | rfl
    all_goals (
      simp only [st0, st1, st2, st3, pd0, pd1, pd2, pd3] at hD9 hF9
      simp only [se0, se1, se2, se3] at nE
      (try dsimp only)
      exact hret _ _ _ _ _ _ _ _ _ _ _ _ _ _ _ _ _ _ _ _ _ _ _ (hfat (by first | exact nE | exact news_tl nE | exact news_tl (news_tl nE) | exact news_tl (news_tl (news_tl nE)) | exact news_tl (news_tl (news_tl (news_tl nE))) | exact news_tl (news_tl (news_tl (news_tl (news_tl nE)))) | exact news_tl (news_tl (news_tl (news_tl (news_tl (news_tl nE))))) | exact news_tl (news_tl (news_tl (news_tl (news_tl (news_tl (news_tl nE)))))) | exact news_tl (news_tl (news_tl (news_tl (news_tl (news_tl (news_tl (news_tl nE))))))))) hD9 hF9 (fr_kst fE (by kst_all)) (by assumption)))
end

end
end

section
open PySem PySem.W PySem.Spec PySem.Calls PyProof.Rows PyProof.V
/-- what stands between the turns -/
structure Ok (w : World) (K : Int) (j : Nat) (p0 p1 : Int) (ro rg g o : List Value) (oC : Obj) (v0 v1 v2 v3 : Int) (c0 c1 c2 c3 : Tok) (ss : List Str) (gi : List Int) : Prop where
  pool : PoolOk p0 p1 K
  r : StrsAre ro ss
  o : StrsAre o ss
  few : ss.length ≤ j
  short : ∀ S ∈ ss, S.length ≤ 100
  rg : IntsAre rg gi
  g : IntsAre g gi
  gfew : gi.length ≤ 10
  cells : oC.IsDictOf (intKind prg w) [(0, .int v0 c0), (1, .int v1 c1), (2, .int v2 c2), (3, .int v3 c3)]
  flat : FlatPairs PyData.int [(0, .int v0 c0), (1, .int v1 c1), (2, .int v2 c2), (3, .int v3 c3)] [(.int 0, .int v0), (.int 1, .int v1), (.int 2, .int v2), (.int 3, .int v3)]
theorem PoolOk.mono {p0 p1 k k' : Int} (h : PoolOk p0 p1 k) (hk : k ≤ k') : PoolOk p0 p1 k' := by
  obtain ⟨a, b, c, d⟩ := h
  exact ⟨a, b, c, Int.le_trans d hk⟩
theorem Ok.say {w : World} {K K' : Int} {j : Nat} {p0 p1 q0 q1 : Int} {ro rg g o : List Value} {oC : Obj} {v0 v1 v2 v3 : Int} {c0 c1 c2 c3 : Tok} {ss : List Str} {gi : List Int} (H : Ok w K j p0 p1 ro rg g o oC v0 v1 v2 v3 c0 c1 c2 c3 ss gi)
    {S : Str} {t1 t2 : Tok} (hp : PoolOk q0 q1 K') (hS : S.length ≤ 100) : Ok w K' (j + 1) q0 q1 (ro ++ [.str S t1]) rg g (o ++ [.str S t2]) oC v0 v1 v2 v3 c0 c1 c2 c3 (ss ++ [S]) gi where
  pool := hp
  r := strs_snoc H.r
  o := strs_snoc H.o
  few := by rw [List.length_append]; have := H.few; simp only [List.length_cons, List.length_nil]; omega
  short := by
    intro X hX
    rcases List.mem_append.mp hX with h | h
    · exact H.short X h
    · rw [List.mem_singleton.mp h]; exact hS
  rg := H.rg
  g := H.g
  gfew := H.gfew
  cells := H.cells
  flat := H.flat
local macro_rules | `(tactic| walk_at "execs cons") => `(tactic| ((with_reducible show wpAny _ _ (execs (Stmt.Assign [Expr.Name (Str.ofString "figure") _] _ _ :: _) _) _ _ _); refine Stop.out ?_))
local macro_rules | `(tactic| walk_at "execs cons") => `(tactic| ((with_reducible show wpAny _ _ (execs (Stmt.Assign [Expr.Name (Str.ofString "code_of") _] _ _ :: _) _) _ _ _); refine Stop.out ?_))
local macro_rules | `(tactic| walk_at "execs cons") => `(tactic| ((with_reducible show wpAny _ _ (execs (Stmt.Assign [Expr.Name (Str.ofString "row") _] _ _ :: _) _) _ _ _); refine Stop.out ?_))
local macro_rules | `(tactic| walk_at "execs cons") => `(tactic| ((with_reducible show wpAny _ _ (execs (Stmt.Expr _ _ :: _) _) _ _ _); refine Stop.out ?_))
local macro_rules | `(tactic| walk_at "execs cons") => `(tactic| ((with_reducible show wpAny _ _ (execs (Stmt.Assign [Expr.Name (Str.ofString "goal") _] _ _ :: _) _) _ _ _); refine Stop.out ?_))
theorem ints_nil {vs : List Value} (h : IntsAre vs []) : vs = [] := by cases h; rfl
theorem ints_cons {vs : List Value} {x : Int} {r : List Int} (h : IntsAre vs (x :: r)) : ∃ t vs', vs = .int x t :: vs' ∧ IntsAre vs' r := by
  cases h with
  | cons n t h => exact ⟨t, _, rfl, h⟩
theorem k45 {d : Int} (h6 : d < 6) (h : 0 ≤ d) (h0 : d ≠ 0) (h1 : d ≠ 1) (h2 : d ≠ 2) (h3 : d ≠ 3) : d = 4 ∨ d = 5 := by omega
section
variable {w : World} {p : Program} {loose : List Str} {mean : ExcName → Option Value} {mg mb : Str → Option Value}
  {h₀ : Heap} {L fa : Addr} {cd : Value} {u : Str → Option Value} {s : Shared} {Q : Flow → Shared → Prop} {E : Value → Shared → Prop}
  {ca pa td ta rd ra roA gA rgA hdd ha hc va oA : Addr} {oP oH : Obj} {n nc : Nat} {vs : List Value} {ns : List Int} {rh : Nat → Int} {rt : Nat → Tok} {rv : Nat → Value} {th : Nat → Int} {tt : Nat → Tok} {tv : Nat → Value} {tr : Nat → Addr} {eh : Nat → Int} {et : Nat → Tok} {ev : Nat → Value}
  {p0 p1 : Int} {t0 t1 : Tok} {ro : List Value} {nro : Nat} {rg : List Value} {nrg : Nat} {g : List Value} {ng : Nat} {oC : Obj} {nv : Nat} {o : List Value} {no : Nat} {own : List (Addr × Obj)} {k : Int} {ss : List Str} {gi : List Int} {v0 v1 v2 v3 : Int} {c0 c1 c2 c3 b0 b1 b2 b3 : Tok} {j : Nat}
local macro_rules | `(tactic| walk_at "zz1") => `(tactic| skip)
set_option maxHeartbeats 8000000 in
theorem turn_in (B : Below callerA h₀ [] h₀) (F : Fr h₀ L s.heap (kstB u (lawPS ra ta gA va oA))) (X : (hd.heap_1 w.params).In h₀)
    (N : News h₀ L s.heap (led L ca pa td ta rd ra roA gA rgA hdd ha hc va oA oP oH n nc vs rh rt rv th tt tv tr eh et ev p0 p1 t0 t1 ro nro rg nrg g ng oC [.int v0 b0, .int v1 b1, .int v2 b2, .int v3 b3] nv o no ++ own)) (T : Top p loose mean mg mb h₀)
    (dP : oP.data = .cell (some (.ref pa))) (dH : oH.data = .cell (some (.ref ha)))
    (hoff : OwnOff own [pa, ca, roA, oA, ra, rd, rgA, gA, ta, td, ha, hdd, hc, va, L + 1, L + 1 + 1]) (hch : Asc [L + 1, L + 1 + 1, ca, pa, td, ta, rd, ra, roA, gA, rgA, hdd, ha, hc, va, oA])
    (hi : IntsAre vs ns) (hne : 1 ≤ ns.length) (hlen : ns.length ≤ 64) (H : Ok w k j p0 p1 ro rg g o oC v0 v1 v2 v3 c0 c1 c2 c3 ss gi) (hk : k ≤ 1800) (hj : j ≤ 50)
    (hE : PassesOwn (model prg w) (callerA.deeper (lawEnv w.params L fa cd)) (lawEnv w.params L fa cd) E)
    (hret : ∀ p0' p1' t0' t1' ro' nro' rg' nrg' g' ng' oC' v0' v1' v2' v3' c0' c1' c2' c3' b0' b1' b2' b3' nv' o' no' ss' gi' u' h' tk', News h₀ L h' (led L ca pa td ta rd ra roA gA rgA hdd ha hc va oA oP oH n nc vs rh rt rv th tt tv tr eh et ev p0' p1' t0' t1' ro' nro' rg' nrg' g' ng' oC' [.int v0' b0', .int v1' b1', .int v2' b2', .int v3' b3'] nv' o' no' ++ own) →
      Fr h₀ L h' (kstB u' (lawPS ra ta gA va oA)) → Ok w (k + 6) (j + 1) p0' p1' ro' rg' g' o' oC' v0' v1' v2' v3' c0' c1' c2' c3' ss' gi' → Q .next { s with heap := h', toks := tk' }) :
    wpAny (model prg w) (callerA.deeper (lawEnv w.params L fa cd)) (execs (mainB w.params) (lawEnv w.params L fa cd)) Q E s := by
  have hp := H.pool
  have hro : ro.length ≤ 100 := by have := H.r.length; have := H.few; omega
  have hoo : o.length ≤ 100 := by have := H.o.length; have := H.few; omega
  have hch0 := hch
  w_top off
  revert X; unfold prg at hE ⊢; k_fill; intro X
  have hMk := kstMark
  simp only [Asc, and_true] at hch
  have hDrw := Drw.mk (show @Ne Nat pa ca by omega) hi hne hlen
  unfold lawEnv lawScope fscope mainB bodyOfFor
  unfold led runD typD heldD at N
  simp only [List.cons_append, List.nil_append] at N
  dsimp only [lawPS, kstB] at F
  k_steps
  · refine Stop.mk ?_
    rename PoolOk _ _ _ => hp9
    rename Fr _ _ _ _ => fZ
    rename News _ _ _ _ => nZ
    (try dsimp only)
    refine kB0_in B (fr_kst fZ (by kst_all)) X nZ T dP dH hoff hch0 hro hoo hi hne hlen hp9 (by omega) ?_
    intro S q0 q1 r0 r1 tx ty nro' no' u' h' tk' N9 F9 hp8 hS
    dsimp only
    k_steps
    exact hret _ _ _ _ _ _ _ _ _ _ _ _ _ _ _ _ _ _ _ _ _ _ _ _ _ _ _ _ _ _ _ N9 F9 (H.say (hp8.mono (by omega)) hS)
  · refine Stop.mk ?_
    rename PoolOk _ _ _ => hp9
    rename Fr _ _ _ _ => fZ
    rename News _ _ _ _ => nZ
    (try dsimp only)
    refine kB1_in B (fr_kst fZ (by kst_all)) X nZ T dP dH hoff hch0 hro hoo hi hne hlen hp9 (by omega) ?_
    intro S q0 q1 r0 r1 tx ty nro' no' u' h' tk' N9 F9 hp8 hS
    dsimp only
    k_steps
    exact hret _ _ _ _ _ _ _ _ _ _ _ _ _ _ _ _ _ _ _ _ _ _ _ _ _ _ _ _ _ _ _ N9 F9 (H.say (hp8.mono (by omega)) hS)
  · refine Stop.mk ?_
    rename PoolOk _ _ _ => hp9
    rename Fr _ _ _ _ => fZ
    rename News _ _ _ _ => nZ
    (try dsimp only)
    refine row_in B (fr_kst fZ (by kst_all)) X nZ T dP dH hoff hch0 hi hne hlen hp9 (by omega) ?_
    intro q0 q1 r0 r1 ks ys D9 h9 tk9 j9 N9 F9 hA9 hO9 hys9 hl9 hb9 hp8 hj9
    refine str_rest B F9 X N9 T dP dH hoff hch0 hA9 hO9 hys9 hl9 hb9 hro hoo hE ?_
    intro S tx ty nro' no' u' h' tk' N8 F8 hS
    dsimp only
    k_steps
    exact hret _ _ _ _ _ _ _ _ _ _ _ _ _ _ _ _ _ _ _ _ _ _ _ _ _ _ _ _ _ _ _ N8 F8 (H.say (hp8.mono (by omega)) hS)
  · refine Stop.mk ?_
    rename PoolOk _ _ _ => hp9
    rename Fr _ _ _ _ => fZ
    rename News _ _ _ _ => nZ
    (try dsimp only)
    refine kB3_in B (fr_kst fZ (by kst_all)) X nZ T dP dH hoff hch0 hro hoo ?_
    intro tx ty nro' no' u' h' tk' N9 F9
    dsimp only
    k_steps
    exact hret _ _ _ _ _ _ _ _ _ _ _ _ _ _ _ _ _ _ _ _ _ _ _ _ _ _ _ _ _ _ _ N9 F9 (H.say (hp9.mono (by omega)) (Nat.le_of_ble_eq_true rfl))
  · refine Stop.mk ?_
    rename PoolOk _ _ _ => hp9
    rename Fr _ _ _ _ => fZ
    rename News _ _ _ _ => nZ
    rename ((_ : Int) < 6) => hb6
    (try dsimp only)
    cases gi with
    | nil =>
      obtain rfl := ints_nil H.rg
      obtain rfl := ints_nil H.g
      refine kB4_nil B (fr_kst fZ (by kst_all)) X nZ T dP dH H.cells H.flat hoff hch0 (by omega) hi hne hlen hp9 (by omega) ?_
      intro q0 q1 r0 r1 oC' c0' c1' c2' c3' b3' nv' u' h' tk' N9 hC9 hF9 F9 hp8
      dsimp only
      k_steps
      exact hret _ _ _ _ _ _ _ _ _ _ _ _ _ _ _ _ _ _ _ _ _ _ _ _ _ _ _ _ _ _ _ N9 F9 { pool := hp8.mono (by omega), r := H.r, o := H.o, few := Nat.le_succ_of_le H.few, short := H.short, rg := H.rg, g := H.g, gfew := H.gfew, cells := hC9, flat := hF9 }
    | cons x gi' =>
      obtain ⟨tr9, rg', rfl, hrg⟩ := ints_cons H.rg
      obtain ⟨tg9, g', rfl, hg⟩ := ints_cons H.g
      have hgl : gi'.length ≤ 10 := by have := H.gfew; rw [List.length_cons] at this; omega
      have h45 := k45 hb6 (by omega) (by omega) (by omega) (by omega) (by omega)
      rcases h45 with e9 | e9
      · skip
        refine kB4_cons4 B (fr_kst fZ (by kst_all)) X nZ T dP dH H.cells H.flat hoff hch0 e9 hi hne hlen hp9 (by omega) hg hrg hgl ?_
        intro q0 q1 q2 q3 p0' p1' t0' t1' oC' c0' c1' c2' c3' b0' b1' b2' b3' nv' nrg' ng' u' h' tk' N9 hC9 hF9 F9 hp8
        dsimp only
        k_steps
        exact hret _ _ _ _ _ _ _ _ _ _ _ _ _ _ _ _ _ _ _ _ _ _ _ _ _ _ _ _ _ _ _ N9 F9 { pool := hp8.mono (by omega), r := H.r, o := H.o, few := Nat.le_succ_of_le H.few, short := H.short, rg := hrg, g := hg, gfew := hgl, cells := hC9, flat := hF9 }
      · skip
        refine kB4_cons5 B (fr_kst fZ (by kst_all)) X nZ T dP dH H.cells H.flat hoff hch0 e9 hi hne hlen hp9 (by omega) hg hrg hgl ?_
        intro q0 q1 q2 q3 p0' p1' t0' t1' oC' c0' c1' c2' c3' b0' b1' b2' b3' nv' nrg' ng' u' h' tk' N9 hC9 hF9 F9 hp8
        dsimp only
        k_steps
        exact hret _ _ _ _ _ _ _ _ _ _ _ _ _ _ _ _ _ _ _ _ _ _ _ _ _ _ _ _ _ _ _ N9 F9 { pool := hp8.mono (by omega), r := H.r, o := H.o, few := Nat.le_succ_of_le H.few, short := H.short, rg := hrg, g := hg, gfew := hgl, cells := hC9, flat := hF9 }
end

end

section
open PySem PySem.W PySem.Spec PySem.Calls PyProof.Rows PyProof.V
structure St where
  p0 : Int
  p1 : Int
  t0 : Tok
  t1 : Tok
  ro : List Value
  nro : Nat
  rg : List Value
  nrg : Nat
  g : List Value
  ng : Nat
  oC : Obj
  v0 : Int
  v1 : Int
  v2 : Int
  v3 : Int
  c0 : Tok
  c1 : Tok
  c2 : Tok
  c3 : Tok
  b0 : Tok
  b1 : Tok
  b2 : Tok
  b3 : Tok
  nv : Nat
  o : List Value
  no : Nat
  ss : List Str
  gi : List Int
abbrev St.Ok (w : World) (K : Int) (j : Nat) (c : St) : Prop := Mine.Ok w K j c.p0 c.p1 c.ro c.rg c.g c.o c.oC c.v0 c.v1 c.v2 c.v3 c.c0 c.c1 c.c2 c.c3 c.ss c.gi
local macro_rules | `(tactic| walk_at "pyIter ref") => `(tactic| (refine Stop.out ?_))
local macro_rules | `(tactic| walk_at "exec For Name Call cons nil") => `(tactic| (k_here; (rename Fr _ _ _ _ => lF'); (with_unfolding_all refine' For_invVF lF' ?k1 ?k2 ?_; (case k1 => exact rfl); (case k2 => exact rfl); k_whole)))
theorem names_ne2 {ps : List (Str × Value)} {x : Str} (h : (ps.map (·.1)).all (fun y => decide (y ≠ x)) = true) : ∀ p ∈ ps, p.1 ≠ x := names_ne h
section
variable {w : World} {p : Program} {loose : List Str} {mean : ExcName → Option Value} {mg mb : Str → Option Value}
  {h₀ : Heap} {L fa : Addr} {cd : Value} {u : Str → Option Value} {s : Shared} {Q : Flow → Shared → Prop} {E : Value → Shared → Prop}
  {ca pa td ta rd ra roA gA rgA hdd ha hc va oA : Addr} {oP oH : Obj} {n nc : Nat} {vs : List Value} {ns : List Int} {rh : Nat → Int} {rt : Nat → Tok} {rv : Nat → Value} {th : Nat → Int} {tt : Nat → Tok} {tv : Nat → Value} {tr : Nat → Addr} {eh : Nat → Int} {et : Nat → Tok} {ev : Nat → Value}
  {p0 p1 : Int} {t0 t1 : Tok} {ro : List Value} {nro : Nat} {rg : List Value} {nrg : Nat} {g : List Value} {ng : Nat} {oC : Obj} {nv : Nat} {o : List Value} {no : Nat} {own : List (Addr × Obj)} {k : Int} {ss : List Str} {gi : List Int} {v0 v1 v2 v3 : Int} {c0 c1 c2 c3 b0 b1 b2 b3 : Tok} {j : Nat}
set_option maxHeartbeats 8000000 in
theorem main_in (B : Below callerA h₀ [] h₀) (F : Fr h₀ L s.heap (kstB u (lawPS ra ta gA va oA))) (X : (hd.heap_1 w.params).In h₀)
    (N : News h₀ L s.heap (led L ca pa td ta rd ra roA gA rgA hdd ha hc va oA oP oH n nc vs rh rt rv th tt tv tr eh et ev p0 p1 t0 t1 ro nro rg nrg g ng oC [.int v0 b0, .int v1 b1, .int v2 b2, .int v3 b3] nv o no)) (T : Top p loose mean mg mb h₀)
    (dP : oP.data = .cell (some (.ref pa))) (dH : oH.data = .cell (some (.ref ha)))
    (hch : Asc [L + 1, L + 1 + 1, ca, pa, td, ta, rd, ra, roA, gA, rgA, hdd, ha, hc, va, oA])
    (hi : IntsAre vs ns) (hne : 1 ≤ ns.length) (hlen : ns.length ≤ 64) (H : Ok w k 0 p0 p1 ro rg g o oC v0 v1 v2 v3 c0 c1 c2 c3 ss gi) (hk : k ≤ 1000)
    (hE : PassesOwn (model prg w) (callerA.deeper (lawEnv w.params L fa cd)) (lawEnv w.params L fa cd) E)
    (hret : ∀ (c : St) K u' h' tk', News h₀ L h' (led L ca pa td ta rd ra roA gA rgA hdd ha hc va oA oP oH n nc vs rh rt rv th tt tv tr eh et ev c.p0 c.p1 c.t0 c.t1 c.ro c.nro c.rg c.nrg c.g c.ng c.oC [.int c.v0 c.b0, .int c.v1 c.b1, .int c.v2 c.b2, .int c.v3 c.b3] c.nv c.o c.no) → Fr h₀ L h' (kstB u' (lawPS ra ta gA va oA)) → c.Ok w K 12 → Q .next { s with heap := h', toks := tk' }) :
    wpAny (model prg w) (callerA.deeper (lawEnv w.params L fa cd)) (exec (forM w.params) (lawEnv w.params L fa cd)) Q E s := by
  have hp := H.pool
  have hch0 := hch
  have hE0 := hE
  w_top off
  revert X; unfold prg at hE ⊢; k_fill; intro X
  have hMk := kstMark
  simp only [Asc, and_true] at hch
  unfold lawEnv lawScope fscope at hE
  have hDrw := Drw.mk (show @Ne Nat pa ca by omega) hi hne hlen
  unfold lawEnv lawScope fscope forM forMOf
  unfold led runD typD heldD at N
  dsimp only [lawPS, kstB] at F
  k_steps
  refine Stop.mk ?_
  rename Fr _ _ _ _ => fE
  rename News _ _ _ _ => nE
  rename IsRange _ _ _ _ _ _ _ _ => rE
  rename PoolOk _ _ _ => hpE
  rename ((_ : Int) < 12) => hb9
  refine my_range (σ := St) (fun c => led L ca pa td ta rd ra roA gA rgA hdd ha hc va oA oP oH n nc vs rh rt rv th tt tv tr eh et ev c.p0 c.p1 c.t0 c.t1 c.ro c.nro c.rg c.nrg c.g c.ng c.oC [.int c.v0 c.b0, .int c.v1 c.b1, .int c.v2 c.b2, .int c.v3 c.b3] c.nv c.o c.no) (lawPS ra ta gA va oA) (fun i c => c.Ok w (k + 1 + 6 * (i : Int)) i) ⟨_, _, _, _, ro, nro, rg, nrg, g, ng, oC, v0, v1, v2, v3, c0, c1, c2, c3, b0, b1, b2, b3, nv, o, no, ss, gi⟩ rfl rE (small_one (by omega) (by omega) (by omega) (by omega)) (rangeSize_nat _ _) fE nE (names_ne (by with_unfolding_all rfl)) (by kst_all)
    { pool := hpE.mono (by omega), r := H.r, o := H.o, few := H.few, short := H.short, rg := H.rg, g := H.g, gfew := H.gfew, cells := H.cells, flat := H.flat } ?_ ?_
  · clear fE nE rE
    intro c i t u' h' tk' own hi9 hoff hC F9 N9
    refine turn_in B (fr_kst F9 (by kst_all)) X N9 T dP dH hoff hch0 hi hne hlen hC (by omega) (by omega) hE0 ?_
    intro p0' p1' t0' t1' ro' nro' rg' nrg' g' ng' oC' v0' v1' v2' v3' c0' c1' c2' c3' b0' b1' b2' b3' nv' o' no' ss' gi' u8 h8 tk8 N8 F8 H8
    refine loop_end ⟨p0', p1', t0', t1', ro', nro', rg', nrg', g', ng', oC', v0', v1', v2', v3', c0', c1', c2', c3', b0', b1', b2', b3', nv', o', no', ss', gi'⟩ F8 N8 (fun p hp => List.mem_append.mpr (.inl hp)) (fun p hp => List.mem_append.mpr (.inr hp)) rfl (by kst_all) ?_
    have e9 : k + 1 + 6 * (i : Int) + 6 = k + 1 + 6 * ((i + 1 : Nat) : Int) := by omega
    rw [e9] at H8
    exact H8
  · clear fE nE rE
    intro c u' h' tk' hC F9 N9
    dsimp only
    k_steps
    exact hret c _ _ _ _ N9 F9 { pool := hC.pool, r := hC.r, o := hC.o, few := Nat.le_trans hC.few (by omega), short := hC.short, rg := hC.rg, g := hC.g, gfew := hC.gfew, cells := hC.cells, flat := hC.flat }
end

end

section
open PySem PySem.W PySem.Spec PySem.Calls PyProof.Rows PyProof.V
local macro_rules | `(tactic| walk_at "call builtin:str.join") => `(tactic| (k_here; (with_reducible show wpAny _ _ (call (Value.builtin "str.join") [Value.str _ _, Value.ref _]) _ _ _); k_dflt (refine join_list (News.isList (by k_asm) (by k_memK)) (by k_asm) (join_fits (by assumption) (by omega)) ?_); intro t' k'; (try dsimp only)))
theorem eq_same {prog : Program} {w : World} {A : Around} {E : Value → Shared → Prop} {s : Shared} {x : Str} {t u : Tok} {Q : Value → Shared → Prop} (h : Q (.bool true) s) : wpAny (model prog w) A (compareOp .Eq (.str x t) (.str x u)) Q E s := by
  refine eq_str ?_
  rw [beq_self_eq_true]
  exact h
local macro_rules | `(tactic| walk_at "compareOp Eq str str") => `(tactic| (with_reducible refine eq_same ?_))
theorem look4 {i : Nat} {v0 v1 v2 v3 : Int} (h : i < 4) : PySem.Spec.lookup (.int (i : Int)) [(.int 0, .int v0), (.int 1, .int v1), (.int 2, .int v2), (.int 3, .int v3)] = some (.int ([v0, v1, v2, v3].getD i 0)) := by
  have e := look_enum (j := 0) (ks := [v0, v1, v2, v3]) h
  rw [Nat.zero_add] at e
  exact e
local macro_rules | `(tactic| walk_at "CompSrc") => `(tactic| (refine Stop.out ?_))
local macro_rules | `(tactic| walk_at "getItem ref int") => `(tactic| (k_here; k_dflt (refine' getItem_tab PyProof.V.same_int (intKind_is _ _ _ _) ?k1 ?k2 ?_; (case k1 => exact TabAt.ofNews (by k_asm) (by k_memK) (by k_asm) (by k_asm) (by k_asm)); (case k2 => exact look4 (by assumption))); intro v' hv'; obtain ⟨t', e'⟩ := Flat.int_inv hv'; subst e'; clear hv'))
section
variable {w : World} {p : Program} {loose : List Str} {mean : ExcName → Option Value} {mg mb : Str → Option Value}
  {h₀ : Heap} {L fa : Addr} {cd : Value} {u : Str → Option Value} {s : Shared} {Q : Flow → Shared → Prop} {E : Value → Shared → Prop}
  {ca pa td ta rd ra roA gA rgA hdd ha hc va oA : Addr} {oP oH : Obj} {n nc : Nat} {vs : List Value} {ns : List Int} {rh : Nat → Int} {rt : Nat → Tok} {rv : Nat → Value} {th : Nat → Int} {tt : Nat → Tok} {tv : Nat → Value} {tr : Nat → Addr} {eh : Nat → Int} {et : Nat → Tok} {ev : Nat → Value}
  {p0 p1 : Int} {t0 t1 : Tok} {ro : List Value} {nro : Nat} {rg : List Value} {nrg : Nat} {g : List Value} {ng : Nat} {oC : Obj} {nv : Nat} {o : List Value} {no : Nat} {own : List (Addr × Obj)} {k : Int} {ss : List Str} {gi : List Int} {v0 v1 v2 v3 : Int} {c0 c1 c2 c3 b0 b1 b2 b3 : Tok} {j : Nat}
set_option maxHeartbeats 8000000 in
theorem end_in (B : Below callerA h₀ [] h₀) (F : Fr h₀ L s.heap (kstB u (lawPS ra ta gA va oA))) (X : (hd.heap_1 w.params).In h₀)
    (N : News h₀ L s.heap (led L ca pa td ta rd ra roA gA rgA hdd ha hc va oA oP oH n nc vs rh rt rv th tt tv tr eh et ev p0 p1 t0 t1 ro nro rg nrg g ng oC [.int v0 b0, .int v1 b1, .int v2 b2, .int v3 b3] nv o no)) (T : Top p loose mean mg mb h₀)
    (dP : oP.data = .cell (some (.ref pa))) (dH : oH.data = .cell (some (.ref ha)))
    (hch : Asc [L + 1, L + 1 + 1, ca, pa, td, ta, rd, ra, roA, gA, rgA, hdd, ha, hc, va, oA]) (lo : (hc == sysModules) = false)
    (H : Ok w k 12 p0 p1 ro rg g o oC v0 v1 v2 v3 c0 c1 c2 c3 ss gi)
    (hret : ∀ h' tk' u', Fr h₀ L h' (kstB u' (lawPS ra ta gA va oA)) → Q (.ret (.bool true)) { s with heap := h', toks := tk' }) :
    wpAny (model prg w) (callerA.deeper (lawEnv w.params L fa cd)) (exec (retS w.params) (lawEnv w.params L fa cd)) Q E s := by
  have hr := H.r
  have ho := H.o
  have hrg := H.rg
  have hg := H.g
  have hC := H.cells
  have fC := H.flat
  have hro : ro.length ≤ 12 := by have := H.r.length; have := H.few; omega
  have hoo : o.length ≤ 12 := by have := H.o.length; have := H.few; omega
  have hgl := H.gfew
  have hsh := H.short
  have hsf := H.few
  w_top off
  revert X; unfold prg at hC ⊢; k_fill; intro X
  have hMk := kstMark
  simp only [Asc, and_true] at hch
  unfold lawEnv lawScope fscope retS retOf
  unfold led runD typD heldD at N
  dsimp only [lawPS, kstB] at F
  k_steps
  refine Stop.mk ?_
  rename Fr _ _ _ _ => fE
  rename News _ _ _ _ => nE
  rename IsRange _ _ _ _ _ _ _ _ => rE
  refine LCg.CompSrc.range (n := 4) (by rfl) fE nE rE (by first | decide | rfl) (by first | rfl | decide) (by rw [sizeLine_eq]; omega) ?_
  intro g9
  refine comp_fix (Inv := fun i zs => IntsAre zs ([v0, v1, v2, v3].take i)) trivial .nil ?_ ?_
  · clear fE nE
    intro i8 zs8 v8 I8 oI8 C8 oC8 D8 m8 h8 tk8 E8 hi8 hS8 hv8 hC8 hx8 F8 N8
    obtain ⟨t8, rfl⟩ := hv8
    rw [Int.zero_add] at hx8
    k_steps
    refine ⟨_, _, rfl, F8, N8, ?_⟩
    rw [take_snoc (ks := [v0, v1, v2, v3]) hi8]
    exact ints_snoc hS8
  · intro zs8 hS8
    unfold LCg.FinE
    intro D8 h8 tk8 F8 N8 o8
    clear o8
    k_steps
    rw [show decide (List.take 4 [v0, v1, v2, v3] = [v0, v1, v2, v3]) = true from by simp]
    exact hret _ _ _ (fr_kst F8 (by kst_all))
end

end

section
open PySem PySem.W PySem.Spec PySem.Calls PyProof.Rows PyProof.V
structure Hid (P : Prop) : Prop where
  out : P
local macro_rules | `(tactic| walk_at "call ref") => `(tactic| ((with_reducible show wpAny _ _ (call (Value.ref 218) [_, Value.int 7 _]) _ _ _); refine Stop.out ?_))
structure Gt where
  p0 : Int
  p1 : Int
  t0 : Tok
  t1 : Tok
  g : List Value
  ng : Nat
  gi : List Int
theorem pow1030 {prog : Program} {w : World} {A : Around} {E : Value → Shared → Prop} {s : Shared} {t u : Tok} {Q : Value → Shared → Prop} (h : Q (.int 1000000000000000000000000000000 s.toks) { s with toks := s.toks + 1 }) :
    wpAny (model prog w) A (binaryOp .Pow (.int 10 t) (.int 30 u)) Q E s := pow_int_small (by decide) (by decide) (by decide) h
local macro_rules | `(tactic| walk_at "binaryOp Pow int int") => `(tactic| first | (with_reducible refine pow31 ?_) | (with_reducible refine pow1030 ?_))
local macro_rules | `(tactic| walk_at "pyIter ref") => `(tactic| (refine Stop.out ?_))
local macro_rules | `(tactic| walk_at "exec For Name Call cons nil") => `(tactic| (k_here; (rename Fr _ _ _ _ => lF'); (with_unfolding_all refine' For_invVF lF' ?k1 ?k2 ?_; (case k1 => exact rfl); (case k2 => exact rfl); k_whole)))
section
variable {w : World} {p : Program} {loose : List Str} {mean : ExcName → Option Value} {mg mb : Str → Option Value}
  {h₀ : Heap} {L fa : Addr} {cd : Value} {u : Str → Option Value} {s : Shared} {Q : Flow → Shared → Prop} {E : Value → Shared → Prop}
  {ca pa td ta rd ra roA gA rgA hdd ha hc va oA : Addr} {oP oH : Obj} {n nc : Nat} {vs : List Value} {ns : List Int} {rh : Nat → Int} {rt : Nat → Tok} {rv : Nat → Value} {th : Nat → Int} {tt : Nat → Tok} {tv : Nat → Value} {tr : Nat → Addr} {eh : Nat → Int} {et : Nat → Tok} {ev : Nat → Value}
  {p0 p1 : Int} {t0 t1 : Tok} {ro : List Value} {nro : Nat} {rg : List Value} {nrg : Nat} {g : List Value} {ng : Nat} {oC : Obj} {nv : Nat} {o : List Value} {no : Nat} {own : List (Addr × Obj)} {k : Int} {ss : List Str} {gi : List Int} {v0 v1 v2 v3 : Int} {c0 c1 c2 c3 b0 b1 b2 b3 : Tok} {j : Nat}
local macro_rules | `(tactic| walk_at "zz2") => `(tactic| skip)
set_option maxHeartbeats 8000000 in
theorem given_in {rest : List (Addr × Obj)} (B : Below callerA h₀ [] h₀) (F : Fr h₀ L s.heap (kstB u [(Str.ofString "given", .ref gA), (Str.ofString "runner", .ref ra), (Str.ofString "types", .ref ta)])) (X : (hd.heap_1 w.params).In h₀)
    (N : News h₀ L s.heap ((pa, poolO p0 p1 t0 t1 ca n) :: (ca, listOf vs.toArray nc) :: (gA, listOf #[] 0) :: (L + 1, oP) :: rest)) (T : Top p loose mean mg mb h₀)
    (dP : oP.data = .cell (some (.ref pa))) (hoff : OwnOff rest [pa, gA]) (hch : Asc [L + 1, ca, pa, gA])
    (hi : IntsAre vs ns) (hne : 1 ≤ ns.length) (hlen : ns.length ≤ 64) (hp : PoolOk p0 p1 k) (hk : k ≤ 1000)
    (hE : PassesOwn (model prg w) (callerA.deeper (lawEnv w.params L fa cd)) (lawEnv w.params L fa cd) E)
    (hret : ∀ (c : Gt) u' h' tk', News h₀ L h' ((pa, poolO c.p0 c.p1 c.t0 c.t1 ca n) :: (ca, listOf vs.toArray nc) :: (gA, listOf c.g.toArray c.ng) :: (L + 1, oP) :: rest) → Fr h₀ L h' (kstB u' [(Str.ofString "given", .ref gA), (Str.ofString "runner", .ref ra), (Str.ofString "types", .ref ta)]) →
      IntsAre c.g c.gi → c.gi.length ≤ 10 → PoolOk c.p0 c.p1 (k + 8) → Q .next { s with heap := h', toks := tk' }) :
    wpAny (model prg w) (callerA.deeper (lawEnv w.params L fa cd)) (exec (forG w.params) (lawEnv w.params L fa cd)) Q E s := by
  w_top off
  revert X; unfold prg at hE ⊢; k_fill; intro X
  have hMk := kstMark
  simp only [Asc, and_true] at hch
  have hDrw := Drw.mk (show @Ne Nat pa ca by omega) hi hne hlen
  unfold lawEnv lawScope fscope at hE
  unfold lawEnv lawScope fscope forG forGOf
  dsimp only [kstB] at F
  k_steps
  refine Stop.mk ?_
  k_dflt (refine draw_V (by k_asm) (by k_asm) (by k_asm) (by k_asm) (by k_asm) rfl (by k_updF) (by k_memK) ‹_› ‹_› (by omega) (by decide) (by ktr_room) ?_; k_whole)
  intro d' td' p0' p1' t0' t1' h' tk' hd1 hd2 hp' F' N'
  have hh' := Hid.mk hd2
  replace hd2 := Int.lt_trans hd2 (by decide : (7 : Int) < 1000)
  (try dsimp only at N')
  k_dflt (try k_sweep)
  (try dsimp only)
  (try k_fold)
  k_steps
  refine Stop.mk ?_
  rename Fr _ _ _ _ => fE
  rename News _ _ _ _ => nE
  rename IsRange _ _ _ _ _ _ _ _ => rE
  rename PoolOk _ _ _ => hpE
  rename Hid _ => hb9
  replace hb9 := hb9.out
  refine my_range (σ := Gt) (fun c => (pa, poolO c.p0 c.p1 c.t0 c.t1 ca n) :: (ca, listOf vs.toArray nc) :: (gA, listOf c.g.toArray c.ng) :: (L + 1, oP) :: rest) [(Str.ofString "given", .ref gA), (Str.ofString "runner", .ref ra), (Str.ofString "types", .ref ta)] (fun i c => IntsAre c.g c.gi ∧ c.gi.length = i ∧ PoolOk c.p0 c.p1 (k + 1 + (i : Int))) ⟨_, _, _, _, [], 0, []⟩ rfl rE (small_one (by omega) (by omega) (by omega) (by omega)) (rangeSize_nat _ _) fE nE (names_ne (by with_unfolding_all rfl)) (by kst_all)
    ⟨.nil, rfl, hpE.mono (by omega)⟩ ?_ ?_
  · clear fE nE rE
    rintro ⟨q0, q1, r0, r1, g, ng, gi⟩ i t u' h' tk' own hi9 hoff9 ⟨hg1, hg2, hg3⟩ F9 N9
    dsimp only at hg1 hg2 hg3 N9
    dsimp only [kstB] at F9
    simp only [List.cons_append] at N9
    have hgl := hg1.length
    k_steps
    rename Fr _ _ _ _ => fZ
    rename News _ _ _ _ => nZ
    rename PoolOk _ _ _ => hpZ
    simp only [List.push_toArray] at nZ
    exact loop_endN ⟨_, _, _, _, g ++ [.int _ _], _, gi ++ [_]⟩ fZ nZ (by
      dsimp only
      iterate 4 (refine List.forall_mem_cons.mpr ⟨by k_memK, ?_⟩)
      intro p hp; kst_mem) (by intro p hp; kst_mem) rfl (by kst_all) ⟨ints_snoc hg1, by simp [hg2], pool_next hpZ⟩
  · clear fE nE rE
    rintro c u' h' tk' ⟨hg1, hg2, hg3⟩ F9 N9
    dsimp only
    k_steps
    exact hret c _ _ _ N9 F9 hg1 (by omega) (hg3.mono (by omega))
end

end

section
open PySem PySem.W PySem.Spec PySem.Calls PyProof.Rows PyProof.V
local macro_rules | `(tactic| walk_at "call ref") => `(tactic| (k_here; (with_reducible show wpAny _ _ (call (Value.ref 38) _) _ _ _); k_dflt (refine arr_in (by k_asm) (by k_asm) (by k_asm) (by k_asm) (by k_asm) rfl (by ktr_room) ?_; k_whole; intro x' d' c' o' k1' k2' k3' t1' t2' t3' tk' h' F' N' l1 l1c l2 l3 lo' hi' fi'; (try k_lt l1); (try k_lt l1c); (try k_lt2 l2); (try k_lt2 l3); (try k_sweep); (try dsimp only); (try k_fold))))

section
open PySem PySem.W PySem.Spec PySem.Calls PyProof.Rows PyProof.V
structure Hid2 (P : Prop) : Prop where
  out : P
section
variable {b : List Stmt} {s0 s1 s2 s3 s4 s5 s6 s7 s8 s9 s10 s11 : Stmt}
noncomputable def tailOf (_ : b = [s0, s1, s2, s3, s4, s5, s6, s7, s8, s9, s10, s11]) : List Stmt := [s4, s5, s6, s7, s8, s9, s10, s11]
end
noncomputable def lawT (P : Params) : List Stmt := tailOf (b := lawBody P) (by unfold lawBody fbody; exact rfl)
local macro_rules | `(tactic| walk_at "exec For Name Call cons nil") => `(tactic| ((with_reducible show wpAny _ _ (exec (Stmt.For (Expr.Name (Str.ofString "step") _) _ _ _ _) _) _ _ _); refine Stop.out ?_))
local macro_rules | `(tactic| walk_at "exec Return some") => `(tactic| ((with_reducible show wpAny _ _ (exec (Stmt.Return (some (Expr.BoolOp _ _ _)) _) _) _ _ _); refine Stop.out ?_))
section
variable {w : World} {p : Program} {loose : List Str} {mean : ExcName → Option Value} {mg mb : Str → Option Value}
  {h₀ : Heap} {L fa : Addr} {cd : Value} {u : Str → Option Value} {s : Shared} {Q : Flow → Shared → Prop} {E : Value → Shared → Prop}
  {ca pa td ta rd ra roA gA rgA hdd ha hc va oA : Addr} {oP oH : Obj} {n nc : Nat} {vs : List Value} {ns : List Int} {rh : Nat → Int} {rt : Nat → Tok} {rv : Nat → Value} {th : Nat → Int} {tt : Nat → Tok} {tv : Nat → Value} {tr : Nat → Addr} {eh : Nat → Int} {et : Nat → Tok} {ev : Nat → Value}
  {p0 p1 : Int} {t0 t1 : Tok} {ro : List Value} {nro : Nat} {rg : List Value} {nrg : Nat} {g : List Value} {ng : Nat} {oC : Obj} {nv : Nat} {o : List Value} {no : Nat} {own : List (Addr × Obj)} {k : Int} {ss : List Str} {gi : List Int} {v0 v1 v2 v3 : Int} {c0 c1 c2 c3 b0 b1 b2 b3 : Tok} {j : Nat}
set_option maxHeartbeats 8000000 in
theorem tail_in {aR0 aR1 aR2 aR3 aR4 aR5 aR6 aR7 aR8 aR9 aR10 aR11 aR12 aR13 aT0 aT1 aT2 aT3 aT4 aT5 aT6 aT7 aT8 : Int} {sR0 sR1 sR2 sR3 sR4 sR5 sR6 sR7 sR8 sR9 sR10 sR11 sR12 sR13 sT0 sT1 sT2 sT3 sT4 sT5 sT6 sT7 sT8 : Tok} {wR0 wR1 wR2 wR3 wR4 wR5 wR6 wR9 wR10 wR11 wR12 wR13 wT0 wT1 : Value} {rg0 rT2 rT3 rT4 rT5 rT6 rT7 rT8 : Addr} {vH : Option Value} (B : Below callerA h₀ [] h₀) (F : Fr h₀ L s.heap (kstB u [(Str.ofString "given", .ref gA), (Str.ofString "runner", .ref ra), (Str.ofString "types", .ref ta)])) (X : (hd.heap_1 w.params).In h₀)
    (N : News h₀ L s.heap [(gA, listOf #[] 0), (roA, listOf #[] 0), (ra, instObj 101 rd), (rd, dictOf [ent "limit" aR0 sR0 wR0, ent "steps" aR1 sR1 wR1, ent "depth" aR2 sR2 wR2, ent "most_depth" aR3 sR3 wR3, ent "count" aR4 sR4 wR4, ent "globals" aR5 sR5 wR5, ent "procs" aR6 sR6 wR6, ent "out" aR7 sR7 (.ref roA), ent "given" aR8 sR8 (.ref rg0), ent "tracer" aR9 sR9 wR9, ent "value_of" aR10 sR10 wR10, ent "call" aR11 sR11 wR11, ent "execute" aR12 sR12 wR12, ent "host" aR13 sR13 wR13] 14), (ta, instObj 207 td), (td, dictOf [ent "counter" aT0 sT0 wT0, ent "known" aT1 sT1 wT1, ent "boolean" aT2 sT2 (.ref rT2), ent "char" aT3 sT3 (.ref rT3), ent "byte" aT4 sT4 (.ref rT4), ent "integer" aT5 sT5 (.ref rT5), ent "mask" aT6 sT6 (.ref rT6), ent "nil" aT7 sT7 (.ref rT7), ent "none" aT8 sT8 (.ref rT8)] 9), (pa, poolO 0 0 t0 t1 ca n), (ca, listOf vs.toArray nc), (L + 1, oP), (L + 1 + 1, oH)]) (T : Top p loose mean mg mb h₀)
    (dP : oP.data = .cell (some (.ref pa))) (dH : oH.data = .cell vH)
    (hch : Asc [L + 1, L + 1 + 1, ca, pa, td, ta, rd, ra, roA, gA])
    (hi : IntsAre vs ns) (hne : 1 ≤ ns.length) (hlen : ns.length ≤ 64)
    (hE : PassesOwn (model prg w) (callerA.deeper (lawEnv w.params L fa cd)) (lawEnv w.params L fa cd) E)
    (hret : ∀ h' tk' m', Fr h₀ L h' m' → Q (.ret (.bool true)) { s with heap := h', toks := tk' }) :
    wpAny (model prg w) (callerA.deeper (lawEnv w.params L fa cd)) (execs (lawT w.params) (lawEnv w.params L fa cd)) Q E s := by
  have hE0 := hE
  have hp : PoolOk 0 0 0 := ⟨by decide, by decide, by decide, by decide⟩
  w_top off
  revert X; unfold prg at hE ⊢; k_fill; intro X
  have hMk := kstMark
  simp only [Asc, and_true] at hch
  unfold lawEnv lawScope fscope at hE
  unfold lawEnv lawScope fscope lawT tailOf
  k_steps
  refine Stop.mk ?_
  refine given_in B F X (kst_newsOf (l' := (pa, poolO 0 0 t0 t1 ca n) :: (ca, listOf vs.toArray nc) :: (gA, listOf #[] 0) :: (L + 1, oP) :: [(roA, listOf #[] 0), (ra, instObj 101 rd), (rd, dictOf [ent "limit" aR0 sR0 wR0, ent "steps" aR1 sR1 wR1, ent "depth" aR2 sR2 wR2, ent "most_depth" aR3 sR3 wR3, ent "count" aR4 sR4 wR4, ent "globals" aR5 sR5 wR5, ent "procs" aR6 sR6 wR6, ent "out" aR7 sR7 (.ref roA), ent "given" aR8 sR8 (.ref rg0), ent "tracer" aR9 sR9 wR9, ent "value_of" aR10 sR10 wR10, ent "call" aR11 sR11 wR11, ent "execute" aR12 sR12 wR12, ent "host" aR13 sR13 wR13] 14), (ta, instObj 207 td), (td, dictOf [ent "counter" aT0 sT0 wT0, ent "known" aT1 sT1 wT1, ent "boolean" aT2 sT2 (.ref rT2), ent "char" aT3 sT3 (.ref rT3), ent "byte" aT4 sT4 (.ref rT4), ent "integer" aT5 sT5 (.ref rT5), ent "mask" aT6 sT6 (.ref rT6), ent "nil" aT7 sT7 (.ref rT7), ent "none" aT8 sT8 (.ref rT8)] 9), (L + 1 + 1, oH)]) N (by (iterate 10 (refine List.forall_mem_cons.mpr ⟨by k_memK, ?_⟩)); exact List.forall_mem_nil _)) T dP ?_ (by simp only [Asc, and_true]; omega) hi hne hlen hp (by decide) hE0 ?_
  · intro p hp b hb
    have h1 : p.1 ∈ [roA, ra, rd, ta, td, L + 1 + 1] := List.mem_map_of_mem hp
    simp only [List.mem_cons, List.not_mem_nil, or_false] at h1 hb
    have h2 : ∀ x y : Nat, (x = roA ∨ x = ra ∨ x = rd ∨ x = ta ∨ x = td ∨ x = L + 1 + 1) → (y = pa ∨ y = gA) → x ≠ y := by
      intro x y hx hy; omega
    exact h2 _ _ h1 hb
  intro c u' h' tk' N9 F9 hg1 hg2 hg3
  dsimp only [kstB] at F9
  dsimp only
  have hgl := hg1.length
  k_steps
  refine Stop.mk ?_
  rename_i D9 ccn h17 lA h16 tkA xA dA cA oA5 kA1 kA2 kA3 tA1 tA2 tA3 tkB h15 loA hiA fiA lB lC lD lE h14 oH4 dH4 tkC vA h13 lF h12 tkD h11 tkE ttA uuA vvA aA aB iA lG tqA h10 tkF tF h9 o3 hd3 hf3 tqB h8 tkG tG h7 o2 hd2 hf2 tqC h6 tkH tH h5 o1 hd1 hf1 tqD h4 tkI tI h3 oZ hdZ hfZ h2 tkJ oAA h1 F1 N1 lZ hZ fZ nZ
  have hdY : oZ.IsDictOf (intKind prg w) [(0, .int 11 tF), (1, .int 22 tG), (2, .int 33 tH), (3, .int 44 tI)] := hdZ
  have hfY : FlatPairs PyData.int [(0, .int 11 tF), (1, .int 22 tG), (2, .int 33 tH), (3, .int 44 tI)] [(.int 0, .int 11), (.int 1, .int 22), (.int 2, .int 33), (.int 3, .int 44)] := hfZ
  have hchZ : Asc [L + 1, L + 1 + 1, ca, pa, td, ta, rd, ra, roA, gA, D9, dA, xA, cA, vA, oAA] := by
    simp only [Asc, and_true]; omega
  refine' main_in (rh := fun i => ([aR0, aR1, aR2, aR3, aR4, aR5, aR6, aR7, aR8, aR9, aR10, aR11, aR12, aR13] : List Int).getD i 0) (rt := fun i => ([sR0, sR1, sR2, sR3, sR4, sR5, sR6, sR7, sR8, sR9, sR10, sR11, sR12, sR13] : List Nat).getD i 0) (rv := fun i => ([wR0, wR1, wR2, wR3, wR4, wR5, wR6, .none, .none, wR9, wR10, wR11, wR12, wR13] : List Value).getD i .none) (th := fun i => ([aT0, aT1, aT2, aT3, aT4, aT5, aT6, aT7, aT8] : List Int).getD i 0) (tt := fun i => ([sT0, sT1, sT2, sT3, sT4, sT5, sT6, sT7, sT8] : List Nat).getD i 0) (tv := fun i => ([wT0, wT1] : List Value).getD i .none) (tr := fun i => ([0, 0, rT2, rT3, rT4, rT5, rT6, rT7, rT8] : List Nat).getD i 0) (eh := fun i => ([kA1, kA2, kA3] : List Int).getD i 0) (et := fun i => ([tA1, tA2, tA3] : List Nat).getD i 0) (ev := fun i => ([.int 4 _, .ref rT5] : List Value).getD i .none)
    (pa := pa) (ca := ca) (td := td) (ta := ta) (rd := rd) (ra := ra) (roA := roA) (gA := gA) (rgA := D9) (hdd := dA) (ha := xA) (hc := cA) (va := vA) (oA := oAA) (oP := oP) (oH := oH4) (ro := []) (o := []) (rg := c.g) (g := c.g) (oC := oZ) (ss := []) (gi := c.gi) (n := n) (nc := nc) (vs := vs) (p0 := c.p0) (p1 := c.p1) (t0 := c.t0) (t1 := c.t1)
    (v0 := 11) (v1 := 22) (v2 := 33) (v3 := 44) (k := 0 + 8)
    B (fr_kst fZ (by kst_all)) X (kst_newsOf nZ ?nn) T dP dH4 hchZ hi hne hlen { pool := hg3, r := .nil, o := .nil, few := Nat.le_refl _, short := (fun _ h => nomatch h), rg := hg1, g := hg1, gfew := hg2, cells := hdY, flat := hfY } (by decide) hE0 ?_
  case nn =>
    unfold led runD typD heldD
    iterate 16 (refine List.forall_mem_cons.mpr ⟨by k_memK, ?_⟩)
    exact List.forall_mem_nil _
  intro c8 K8 u8 h8 tk8 N8 F8 hC8
  dsimp only
  k_steps
  refine Stop.mk ?_
  refine end_in B F8 X N8 T dP dH4 hchZ loA hC8 ?_
  intro h9 tk9 u9 F9
  dsimp only
  exact hret _ _ _ F9
end

end
end

section
open PySem PySem.W PySem.Spec PySem.Calls PyProof.Rows PyProof.V
local macro_rules | `(tactic| walk_at "call ref") => `(tactic| (k_here; (with_reducible show wpAny _ _ (call (Value.ref 207) _) _ _ _); k_dflt (refine types_in (by k_asm) (by k_asm) (by k_asm) (by k_asm) (by k_asm) rfl (by ktr_room) ?_; k_whole; intro x' d' k1' k2' k3' k4' k5' k6' k7' k8' k9' t1' t2' t3' t4' t5' t6' t7' t8' t9' v1' v2' r3' r4' r5' r6' r7' r8' r9' h' tk' F' N' l1 l2; (try k_lt l1); (try k_lt2 l2); (try k_sweep); (try dsimp only); (try k_fold))))
local macro_rules | `(tactic| walk_at "subscriptTail") => `(tactic| (k_here; (with_reducible show wpAny _ _ (subscriptTail (PySem.Expr.BinOp _ _ _ _) _ _ _) _ _ _); k_dflt (refine kba_turn (value' := PySem.Expr.Name (PySem.Str.ofString "_") ⟨0, 0, 0, 0⟩) (fun _ => rfl) ?_)))
local macro_rules | `(tactic| walk_at "execs cons") => `(tactic| ((with_reducible show wpAny _ _ (execs (Stmt.For (Expr.Name (Str.ofString "step") _) _ _ _ _ :: _) _) _ _ _); refine Stop.out ?_))
theorem news_none {h₀ h : Heap} {L : Addr} {m : Str → Option Value} (_ : Fr h₀ L h m) : News h₀ L h [] := News.nil
local macro_rules | `(tactic| walk_at "zz3") => `(tactic| skip)
set_option maxHeartbeats 8000000 in
theorem t0 : PySem.Challenge.rw_pb0337_01.Holds := hd (by
  k_go0; (all_goals try k_fold); k_steps
  refine Stop.mk ?_
  rename Fr _ _ _ _ => fE
  rename News _ _ _ _ => nE
  refine' tail_in (by assumption) (fr_kst fE ?kk) (by k_asm) (kst_newsOf nE ?nn) (by assumption) (by assumption) ?dh ?ch ?hi ?l1 ?l2 ?pe ?hr
  case kk => kst_all
  case nn =>
    refine List.forall_mem_cons.mpr ⟨by k_memK, ?_⟩
    refine List.forall_mem_cons.mpr ⟨?ro, ?_⟩
    rotate_left
    iterate 8 (refine List.forall_mem_cons.mpr ⟨by k_memK, ?_⟩)
    exact List.forall_mem_nil _
    k_memK
  case dh => assumption
  case hi => assumption
  case ch => (simp only [Asc, and_true]; omega)
  case l1 => (rw [List.length_take, List.length_append]; simp only [List.length_cons, List.length_nil]; omega)
  case l2 => (rw [List.length_take]; omega)
  case pe => passes_own
  case hr =>
    intro h' tk' m' F'
    have N' := news_none F'
    clear fE nE
    k_steps
    (all_goals (try k_data)); all_goals w_report)

end
end

end Mine
theorem PySem.Challenge.cw_pb0337_01_holds : PySem.Challenge.rw_pb0337_01.Holds := by
  exact Mine.t0
