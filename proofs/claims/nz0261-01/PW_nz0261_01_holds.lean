import PyProof.Rows.All
import Wide.All
import OpenK.AllK
import Wide.FinOn
import PySem.Challenge.RW_nz0261_01
set_option Elab.async false
set_option linter.unusedVariables false
set_option maxRecDepth 100000
set_option maxHeartbeats 8000000
namespace Mine
-- Head1
section
open PySem PySem.W PyProof.Rows
open_top hd for PySem.Challenge.rw_nz0261_01
end
-- C1
section
open PySem PySem.W PyProof.Rows
noncomputable def bel (x y : Str) : Bool := Txt.startswith x (y ++ Str.ofString "/")
noncomputable def ren (x o n : Str) : Str := if x == o then n else if bel x o then n ++ Txt.slice x (some (o.length : Int)) none else x

theorem is_below_call {w : World} {dp un : Nat} {gd : Option (List Code)} {cn : Str} {cs : Scope} {L a : Addr} {ccd : Value} {cl : List (Str × Addr)} {outer : List Env} {A₀ : Around} {base h₀ : Heap} {m : Str → Option Value} {news : List (Addr × Obj)} {mean : ExcName → Option Value} {mg mb : Str → Option Value} {s : Shared} {Q E : Value → Shared → Prop}
    {x y : Str} {tx ty : Tok}
    (B : Below A₀ base outer h₀) (F : Fr h₀ L s.heap m) (X : (hd.heap_39 w.params).In h₀) (N : News h₀ L s.heap news) (T : Top hd.view_39 (looseW hd.view_39 []) mean mg mb h₀) (hk : cs.kind = .function)
    (hd' : dp + 2 < recursionLimit) (hu : un + 10 < cLine) (hx : x.length ≤ 1000) (hy : y.length ≤ 1000)
    (hret : ∀ h' tk', Fr h₀ L h' m → News h₀ L h' news → Q (.bool (bel x y)) { s with heap := h', toks := tk' }) :
    wpAny (model PySem.Challenge.rw_nz0261_01.row.prog w) (ktrTop dp un gd cn cs L a ccd cl outer) (call (.ref 28) [.str x tx, .str y ty]) Q E s := by
  w_top off
  revert X; k_fill; intro X
  refine wpAny_call ?_
  k_dflt cell_enter
  k_steps
  all_goals exact hret _ _ (by k_asm) (by k_asm)
local macro_rules | `(tactic| walk_at "my is_below") => `(tactic| (with_unfolding_all refine' is_below_call ?kB ?kF ?kX ?kN ?kT ?kk ?kd ?ku ?kx ?ky ?_; (case kB => k_asm); (case kF => k_asm); (case kX => k_asm); (case kN => k_asm); (case kT => k_asm); (case kk => first | exact rfl | assumption); (case kd => ktr_room); (case ku => ktr_units); (case kx => omega); (case ky => omega); intro h9 tk9 F9 N9; (try dsimp only); (try k_fold)))
local macro_rules | `(tactic| walk_at "call ref") => `(tactic| (k_here; (with_reducible show wpAny _ _ (call (Value.ref 28) [Value.str _ _, Value.str _ _]) _ _ _); walk_at "my is_below"))
theorem renamed_call {w : World} {dp un : Nat} {gd : Option (List Code)} {cn : Str} {cs : Scope} {L a : Addr} {ccd : Value} {cl : List (Str × Addr)} {outer : List Env} {A₀ : Around} {base h₀ : Heap} {m : Str → Option Value} {news : List (Addr × Obj)} {mean : ExcName → Option Value} {mg mb : Str → Option Value} {s : Shared} {Q E : Value → Shared → Prop}
    {x o n : Str} {tx to tn : Tok}
    (B : Below A₀ base outer h₀) (F : Fr h₀ L s.heap m) (X : (hd.heap_39 w.params).In h₀) (N : News h₀ L s.heap news) (T : Top hd.view_39 (looseW hd.view_39 []) mean mg mb h₀) (hk : cs.kind = .function)
    (hd' : dp + 4 < recursionLimit) (hu : un + 20 < cLine) (hx : x.length ≤ 1000) (ho : o.length ≤ 1000)  (hn : n.length ≤ 1000)
    (hret : ∀ t h' tk', Fr h₀ L h' m → News h₀ L h' news → Q (.str (ren x o n) t) { s with heap := h', toks := tk' }) :
    wpAny (model PySem.Challenge.rw_nz0261_01.row.prog w) (ktrTop dp un gd cn cs L a ccd cl outer) (call (.ref 35) [.str x tx, .str o to, .str n tn]) Q E s := by
  unfold ren at hret
  w_top off
  revert X; k_fill; intro X
  refine wpAny_call ?_
  k_dflt cell_enter
  k_steps
  all_goals first | (simp_all only [if_true, if_false, Bool.false_eq_true]; done) | (simp_all only [if_true, if_false, Bool.false_eq_true]; exact hret _ _ _ (by k_asm) (by k_asm))
end
-- C2
section
open PySem PySem.W PyProof.Rows
/-- what holds of each item holds of each item of the list with one more -/
theorem all_snoc {G : Nat → Str → Prop} {xs : List Str} {r : Str} (hG : ∀ k q, xs[k]? = some q → G k q) (hr : G xs.length r) (k : Nat) (q : Str) (h : (xs ++ [r])[k]? = some q) : G k q := by
  rcases Nat.lt_trichotomy k xs.length with lt | rfl | gt
  · exact hG k q (by rw [← h, List.getElem?_append_left lt])
  · have : r = q := by simpa using h
    exact this ▸ hr
  · have : (xs ++ [r])[k]? = none := List.getElem?_eq_none_iff.mpr (by simp; omega)
    rw [this] at h; exact nomatch h
section
variable {prog : Program} {w : World} {A : Around} {h₀ : Heap} {L : Addr} {m : Str → Option Value} {env : Env} {elt : Expr} {x : Str} {scope : Scope} {cl : List (Str × Addr)} {s : Shared} {S : List (Addr × Obj) → Prop} {P : Nat → Value → Prop} {Fin : List Value → List (Addr × Obj) → Prop} {news : List (Addr × Obj)}
/-- what a turn of a comprehension of texts hands on -/
def ElS (news : List (Addr × Obj)) (G : Str → Prop) (y : Value) (news' : List (Addr × Obj)) : Prop := news' = news ∧ ∃ r t, y = .str r t ∧ G r
theorem end_mono {s₁ s₂ : Shared} {I C D : Addr} {oI oC oD : Obj} {y : Value} {R R' : Value → List (Addr × Obj) → Prop} (q : LCg.CompEnd h₀ L m s₁ I oI C oC D oD S R y s₂) (k : ∀ cur, S cur → R y cur → R' y cur) : LCg.CompEnd h₀ L m s₁ I oI C oC D oD S R' y s₂ :=
  let ⟨g, tk, cur, e, F, N, off, hS, r⟩ := q
  ⟨g, tk, cur, e, F, N, off, hS, k cur hS r⟩
/-- a comprehension by an invariant J over the turn's number, the items made so far and the ledger -/
theorem comp_inv {n : Nat} (J : Nat → List Value → List (Addr × Obj) → Prop)
    (turn : ∀ i ys cur, i < n → J i ys cur → ∀ v I oI C oC D m₂ h tk (E' : Value → Shared → Prop), P i v → LCg.NsObj oC m₂ → m₂ x = some v → Fr h₀ L h m → News h₀ L h ((I, oI) :: (C, oC) :: (D, LCg.lst ys) :: cur) → LCg.Off3 I C D cur → ((@Ne Nat I C) ∧ (@Ne Nat I D) ∧ (@Ne Nat C D)) →
      wpAny (model prog w) A (eval elt (compEnvC scope cl C env)) (LCg.CompEnd h₀ L m { s with heap := h, toks := tk } I oI C oC D (LCg.lst ys) S (fun y => J (i + 1) (ys ++ [y]))) E' { s with heap := h, toks := tk })
    (fin : ∀ ys cur, J n ys cur → Fin ys cur) : ∀ (j i : Nat) (ys : List Value) (cur : List (Addr × Obj)), j + i = n → J i ys cur → LCg.CompRest prog w A h₀ L m env elt x scope cl s S P Fin j i ys cur
  | 0, i, ys, cur, e, q => LCg.CompRest.zero (fin ys cur (by rw [← e, Nat.zero_add]; exact q))
  | j + 1, i, ys, cur, e, q => LCg.CompRest.succ fun v I oI C oC D m₂ h tk E' p1 p2 p3 p4 p5 p6 p7 =>
      wpAny_mono (turn i ys cur (by omega) q v I oI C oC D m₂ h tk E' p1 p2 p3 p4 p5 p6 p7) (fun y _ z => end_mono z fun cur' _ r => comp_inv J turn fin j (i + 1) (ys ++ [y]) cur' (by omega) r) fun _ _ z => z
theorem comp_strs {n : Nat} (G : Nat → Str → Prop)
    (turn : ∀ i v I oI C oC D m₂ ys h tk (E' : Value → Shared → Prop), i < n → P i v → LCg.NsObj oC m₂ → m₂ x = some v → Fr h₀ L h m → News h₀ L h ((I, oI) :: (C, oC) :: (D, LCg.lst ys) :: news) → LCg.Off3 I C D news → ((@Ne Nat I C) ∧ (@Ne Nat I D) ∧ (@Ne Nat C D)) →
      wpAny (model prog w) A (eval elt (compEnvC scope cl C env)) (LCg.CompEnd h₀ L m { s with heap := h, toks := tk } I oI C oC D (LCg.lst ys) S (ElS news (G i))) E' { s with heap := h, toks := tk })
    (fin : ∀ ys xs, StrsAre ys xs → xs.length = n → (∀ i r, xs[i]? = some r → G i r) → Fin ys news) : LCg.CompRest prog w A h₀ L m env elt x scope cl s S P Fin n 0 [] news :=
  comp_inv (fun i ys cur => cur = news ∧ ∃ xs, StrsAre ys xs ∧ xs.length = i ∧ ∀ k r, xs[k]? = some r → G k r)
    (fun i ys cur hi ⟨e, xs, hy, hl, hG⟩ v I oI C oC D m₂ h tk E' p1 p2 p3 p4 p5 p6 p7 => by
      subst e hl
      exact wpAny_mono (turn _ v I oI C oC D m₂ ys h tk E' hi p1 p2 p3 p4 p5 p6 p7) (fun y _ z => end_mono z fun cur' _ ⟨e, r, t, er, hr⟩ => ⟨e, xs ++ [r], er ▸ kct_snoc hy, by simp, all_snoc hG hr⟩) fun _ _ z => z)
    (fun ys cur ⟨e, xs, hy, hl, hG⟩ => e ▸ fin ys xs hy hl hG) n 0 [] news (Nat.add_zero n) ⟨rfl, [], .nil, rfl, fun k r h => by simp at h⟩
theorem comp_end {G : Str → Prop} {s₁ : Shared} {I C D : Addr} {oI oC oD : Obj} {h' : Heap} {tk : Nat} {r : Str} {t : Tok} (F : Fr h₀ L h' m) (N : News h₀ L h' ((I, oI) :: (C, oC) :: (D, oD) :: news)) (off : LCg.Off3 I C D news) (hS : S news) (hg : G r) :
    LCg.CompEnd h₀ L m s₁ I oI C oC D oD S (ElS news G) (.str r t) { s₁ with heap := h', toks := tk } := LCg.CompEnd.intro F N news (fun p hp => hp) off hS ⟨rfl, r, t, rfl, hg⟩
end
theorem pow5_ne (n : Nat) : (5 : Int) ^ n ≠ 0 := Int.pow_ne_zero (by decide)
theorem pow5_small {n : Nat} (h : n ≤ 3) : ((5 : Int) ^ n).natAbs < 1073741824 := by
  have : n = 0 ∨ n = 1 ∨ n = 2 ∨ n = 3 := by omega
  rcases this with rfl | rfl | rfl | rfl <;> decide
theorem names_glued {xs : List Str} {n : Nat} (hl : xs.length = n) (h3 : n ≤ 3) (hg : ∀ (i : Nat) (r : Str), xs[i]? = some r → r.length ≤ 3) : (xs.map (·.length)).sum ≤ 9 ∧ (Txt.join (Str.ofString "/") xs).length ≤ 11 := by
  have hm : ∀ y ∈ xs, y.length ≤ 3 := fun y hy => by
    obtain ⟨i, hi, e⟩ := List.getElem_of_mem hy
    exact hg i y (by rw [List.getElem?_eq_getElem hi, e])
  have h1 := StrLaws.sumLen_le xs hm
  have h2 : (Txt.join (Str.ofString "/") xs).length = (xs.map (·.length)).sum + (xs.length - 1) * (Str.ofString "/").length := size_glued _ _
  have h4 : (Str.ofString "/").length = 1 := by decide
  rw [h4] at h2
  omega
section
local macro_rules | `(tactic| walk_at "CompEnd") => `(tactic| exact comp_end (by k_asm) (by k_asm) (by assumption) True.intro (by decide))
local macro_rules | `(tactic| walk_at "call builtin:str.join") => `(tactic| ((with_reducible rename StrsAre _ _ => hs9); (have hj9 := names_glued (by assumption) (by omega) (by assumption)); refine join_listC (News.isList (by k_asm) (.head _)) hs9 (by decide) (by omega) ?_; intro _ _))
local macro_rules | `(tactic| walk_at "binaryOp FloorDiv int int") => `(tactic| (k_here; refine floordiv_int (pow5_ne _) ?_ (Or.inl (PyProof.noPylong_small (pow5_small (by omega))))))
local macro_rules | `(tactic| walk_at "eval ListComp") => `(tactic| (k_here; k_dflt (refine LCg.ListComp_U (F₀ := by k_asm) (by with_unfolding_all rfl) (by decide) (by rfl) (by decide) (by rfl) ?_)))
local macro_rules | `(tactic| walk_at "CompSrc") => `(tactic| (k_here; (try k_fmods); k_dflt (refine LCg.CompSrc.range (by rfl) (by k_asm) (by k_asm) (by assumption) (by exact small_one (by l_bnd) (by l_bnd) (by l_bnd) (by l_bnd)) (by first | exact rangeSize_nat _ _ | rfl) (by rw [PySem.sizeLine_eq]; omega) ?_; intro g'; (refine' comp_strs (fun _ r => r.length ≤ 3) (fun i' v' I' oI' C' oC' D' m' ys' h' tk' E' hi' hv' hC' hx' F' N' off' ne' => ?_) (fun ys' xs' hs' hl' hg' => ?_)); (try (obtain ⟨t', hv'⟩ := hv'; subst hv')))))
theorem law_name_call {w : World} {dp un : Nat} {gd : Option (List Code)} {cn : Str} {cs : Scope} {L a : Addr} {ccd : Value} {cl : List (Str × Addr)} {outer : List Env} {A₀ : Around} {base h₀ : Heap} {m : Str → Option Value} {news : List (Addr × Obj)} {mean : ExcName → Option Value} {mg mb : Str → Option Value} {s : Shared} {Q E : Value → Shared → Prop}
    {k : Int} {t : Tok}
    (B : Below A₀ base outer h₀) (F : Fr h₀ L s.heap m) (X : (hd.heap_39 w.params).In h₀) (N : News h₀ L s.heap news) (T : Top hd.view_39 (looseW hd.view_39 []) mean mg mb h₀) (hk : cs.kind = .function)
    (hd' : dp + 4 < recursionLimit) (hu : un + 30 < cLine) 
    (hret : ∀ (x : Str) t h' tk', x.length ≤ 11 → Fr h₀ L h' m → News h₀ L h' news → Q (.str x t) { s with heap := h', toks := tk' }) :
    wpAny (model PySem.Challenge.rw_nz0261_01.row.prog w) (ktrTop dp un gd cn cs L a ccd cl outer) (call (.ref 41) [.int k t]) Q E s := by
  w_top off
  revert X; k_fill; intro X
  refine wpAny_call ?_
  k_dflt (refine' code_defC ?k1 ?k2 ?k3 ?k4 ?k5 ?kA ?kF ?kK ?k6 ?k7 ?k8 ?k9 ?kB ?kD ?_ ?c2 ?c3 ?c4; (case kA => exact rfl); (case kF => exact rfl); (case kK => assumption); (case k1 => k_asm); (case k2 => k_asm); (case k3 => k_asm); (case k4 => k_asm); (case k5 => k_asm); (case k6 => k_is); (case k7 => k_is); (case k8 => ktr_room); (case k9 => exact BindsTo.of_eq rfl); (case kB => exact rfl); (case kD => decide +kernel); (case c2 => exact rfl); (case c3 => exact rfl); (case c4 => exact rfl); k_whole; intro g' L' h' tk' cells' FG' F' N' Y' B' X' T' l1; k_cells Y'; (try simp only [List.cons_append, List.nil_append] at N'); (try dsimp only); (try k_lift B'); (try k_fold))
  k_steps
  all_goals exact hret _ _ _ _ (by omega) (by k_asm) (by first | k_asm | (refine cb_drop (by assumption) ?_; intro p hp; repeat (first | exact hp | refine List.mem_cons_of_mem _ ?_)))
end
end
-- L1
section
open PySem PySem.W PyProof.Rows
noncomputable def sl (x : Str) : Nat := x.cps.toList.count 47
def PInv (x : Str) (n : Nat) (a : Int) : Prop := (a = -1 ∧ n = x.cps.toList.count 47) ∨ ∃ k : Nat, a = k ∧ k < x.length ∧ x.cps.getD k 0 = 47 ∧ n = (x.cps.toList.take k).count 47
theorem slash_is : Str.ofString "/" = ⟨#[47]⟩ := by decide
theorem count_gap (l : List Nat) (c i j : Nat) (hij : i ≤ j) (h : ∀ v, i ≤ v → v < j → l[v]? ≠ some c) : (l.take j).count c = (l.take i).count c := by
  induction j with
  | zero => have : i = 0 := by omega
            subst this; rfl
  | succ j ih =>
    by_cases hij' : i ≤ j
    · rw [List.take_add_one, List.count_append, ih hij' (fun v h1 h2 => h v h1 (by omega))]
      have := h j hij' (by omega)
      cases hj : l[j]? with
      | none => simp
      | some d =>
        rw [hj] at this
        have hd : d ≠ c := fun e => this (by rw [e])
        simp [hd]
    · have : i = j + 1 := by omega
      rw [this]
theorem getD_get? (x : Str) (v c : Nat) (hv : v < x.length) : x.cps.getD v 0 = c ↔ x.cps.toList[v]? = some c := by
  have hs : v < x.cps.size := hv
  simp [Array.getD, hs]
theorem p_find (x : Str) (i : Nat) (hi : i ≤ x.length) : PInv x ((x.cps.toList.take i).count 47) (Txt.find3 x (Str.ofString "/") i) ∧ (0 ≤ Txt.find3 x (Str.ofString "/") i → (i : Int) ≤ Txt.find3 x (Str.ofString "/") i) := by
  rw [slash_is]
  have hf : fromIndex x.length (i : Int) = i := by unfold PySem.fromIndex; rw [if_neg (by omega)]; omega
  have hsz : x.cps.toList.length = x.length := by simp [Str.length]
  rcases StrLaws.find3_spec x 47 i with ⟨h, hn⟩ | ⟨k, h, hlo, hlt, hc, hn⟩
  · rw [h]
    refine ⟨.inl ⟨rfl, ?_⟩, by omega⟩
    have := count_gap x.cps.toList 47 i x.length hi (fun v h1 h2 e => hn v (by rw [hf]; exact h1) h2 ((getD_get? x v 47 h2).mpr e))
    rw [← this, ← hsz, List.take_length]
  · rw [hf] at hlo
    rw [h]
    refine ⟨.inr ⟨k, rfl, hlt, hc, ?_⟩, fun _ => by omega⟩
    exact (count_gap x.cps.toList 47 i k hlo (fun v h1 h2 e => hn v (by rw [hf]; exact h1) h2 ((getD_get? x v 47 (by omega)).mpr e))).symm
theorem p_start (x : Str) : PInv x 0 (Txt.find x (Str.ofString "/")) := by
  rw [find_is_find3]
  simpa using (p_find x 0 (Nat.zero_le _)).1
theorem p_next {x : Str} {n : Nat} {a : Int} (h : PInv x n a) (h0 : 0 ≤ a) : PInv x (n + 1) (Txt.find3 x (Str.ofString "/") (a + 1)) ∧ a < x.length ∧ (0 ≤ Txt.find3 x (Str.ofString "/") (a + 1) → a < Txt.find3 x (Str.ofString "/") (a + 1)) := by
  rcases h with ⟨e, _⟩ | ⟨k, rfl, hk, hc, rfl⟩
  · omega
  · have := p_find x (k + 1) hk
    have e : ((k + 1 : Nat) : Int) = (k : Int) + 1 := by omega
    rw [e] at this
    refine ⟨?_, by omega, fun h => by have := this.2 h; omega⟩
    have e2 : (x.cps.toList.take (k + 1)).count 47 = (x.cps.toList.take k).count 47 + 1 := by
      rw [List.take_add_one, List.count_append, (getD_get? x k 47 hk).mp hc]
      simp
    rw [← e2]
    exact this.1
theorem p_done {x : Str} {n : Nat} {a : Int} (h : PInv x n a) (h0 : ¬ 0 ≤ a) : n = sl x := by
  rcases h with ⟨_, e⟩ | ⟨k, rfl, _⟩
  · exact e
  · omega
end
-- C3
section
open PySem PySem.W PyProof.Rows

def meas (x : Str) (a : Int) : Nat := if 0 ≤ a then ((x.length : Int) - a).toNat else 0
theorem meas_falls {x : Str} {n : Nat} {a : Int} (h : PInv x n a) (h0 : 0 ≤ a) : meas x (Txt.find3 x (Str.ofString "/") (a + 1)) < meas x a := by
  obtain ⟨_, h1, h2⟩ := p_next h h0
  unfold meas
  rw [if_pos h0]
  split
  · rename_i h3
    have := h2 h3
    omega
  · omega
abbrev whLed (l : Addr) (news : List (Addr × Obj)) (c : List Value × Nat × Int × Tok) : List (Addr × Obj) := (l, PySem.W.listOf c.1.toArray c.2.1) :: news
abbrev whPs (c : List Value × Nat × Int × Tok) : List (Str × Value) := [(Str.ofString "at", .int c.2.2.1 c.2.2.2)]
abbrev whP (x : Str) (c : List Value × Nat × Int × Tok) : Prop := PInv x c.1.length c.2.2.1
abbrev whM (x : Str) (c : List Value × Nat × Int × Tok) : Nat := meas x c.2.2.1
theorem my_while {prog : Program} {w : World} {A : Around} {E : Value → Shared → Prop} {Q : Flow → Shared → Prop} {s : Shared} {env : Env} {h₀ : Heap} {L l : Addr} {news : List (Addr × Obj)} {x : Str} {t : Tok} {test : Expr} {body : List Stmt} {pos : Pos} {m₀ : Str → Option Value}
    (F : Fr h₀ L s.heap m₀) (N : News h₀ L s.heap ((l, PySem.W.listOf #[] 0) :: news)) (hat : m₀ (Str.ofString "at") = some (.int (Txt.find x (Str.ofString "/")) t)) (hE : PassesOwn (model prog w) A env E)
    (turn : ∀ (vs : List Value) (n : Nat) (a : Int) (t : Tok) (u : Str → Option Value) h tk, PInv x vs.length a → Fr h₀ L h (kstB (fun z => if ([] : List Str).contains z then u z else m₀ z) (whPs (vs, n, a, t))) → News h₀ L h ((l, PySem.W.listOf vs.toArray n) :: news) →
      wpAny (model prog w) A (isTrue test env (eval test env)) (fun b s₂ =>
        if b = true then wpAny (model prog w) A (execs body env) (KswPost h₀ L s (whLed l news) whPs (fun _ => True) [] m₀ (whP x) (whM x) Q (vs, n, a, t)) E s₂ else Q .next s₂) E { s with heap := h, toks := tk }) :
    wpAny (model prog w) A (exec (.While test body [] pos) env) Q E s :=
  ksw_while (whLed l news) whPs (fun _ => True) [] (whP x) (whM x) ([], 0, _, t) F N True.intro (fun p hp => by (obtain rfl := List.mem_singleton.mp hp); exact hat) (p_start x)
    (fun ⟨vs, n, a, t⟩ u h tk _ hP F' N' => turn vs n a t u h tk hP F' N') hE
theorem my_while_end {x : Str} {h₀ : Heap} {L l : Addr} {news news' : List (Addr × Obj)} {s : Shared} {m₀ m' : Str → Option Value} {vs : List Value} {v : Value} {n : Nat} {a : Int} {t t' : Tok} {h' : Heap} {tk : Nat} 
    (F : Fr h₀ L h' m') (N : News h₀ L h' news') (hn : ∀ p ∈ (l, PySem.W.listOf (vs ++ [v]).toArray (n + 1)) :: news, p ∈ news') (hk : m' (Str.ofString "at") = some (.int (Txt.find3 x (Str.ofString "/") (a + 1)) t')) (hr : ∀ z, z ≠ Str.ofString "at" → m' z = m₀ z) (hp : PInv x vs.length a) (h0 : 0 ≤ a) :
    KswEnd h₀ L s (whLed l news) whPs (fun _ => True) [] m₀ (whP x) (whM x) (vs, n, a, t) { s with heap := h', toks := tk } := 
  ksw_end (vs ++ [v], n + 1, _, t') F N hn True.intro (fun p hp => by (obtain rfl := List.mem_singleton.mp hp); exact hk) (fun z hz _ => hr z (hz _ List.mem_cons_self)) (by have := (p_next hp h0).1; unfold whP; rw [List.length_append, List.length_singleton]; exact this) (meas_falls hp h0)
theorem upd_head {D : Addr} {o o' : Obj} {news : List (Addr × Obj)} (l1 : ∀ p ∈ news, p.1 < D) : Upd D o o' ((D, o) :: news) ((D, o') :: news) := Upd.head fun p hp => Nat.ne_of_lt (l1 p hp)
theorem p_size {x : Str} {vs : List Value} {a : Int} (h : PInv x vs.length a) (hx : x.length ≤ 1000) : vs.toArray.size ≤ sizeLine := by
  have hsz : x.cps.toList.length = x.length := by simp [Str.length]
  have : vs.length ≤ 1000 := by
    rcases h with ⟨_, e⟩ | ⟨k, _, _, _, e⟩
    · rw [e]; exact Nat.le_trans List.count_le_length (by omega)
    · rw [e]; refine Nat.le_trans List.count_le_length ?_
      rw [List.length_take]; omega
  rw [List.size_toArray, PySem.sizeLine_eq]; omega
section
local macro_rules | `(tactic| walk_at "call builtin:list.append") => `(tactic| (k_here; (with_reducible show wpAny _ _ (call (Value.builtin _) [Value.ref _, _]) _ _ _); k_dflt (refine' append_K ?k1 ?k2 ?k3 ?_ ?z; (case k1 => k_asm); (case k2 => k_asm); (case k3 => exact upd_head (by assumption)); (case z => exact p_size (by assumption) (by assumption)); k_whole); intro h' F' N'; (try k_sweep)))
local macro_rules | `(tactic| walk_at "exec While Compare") => `(tactic| (k_here; (rename Fr _ _ _ _ => lF9); (rename News _ _ _ _ => lN9); k_dflt (refine my_while lF9 lN9 rfl (by passes_own) ?_; clear lF9 lN9; intro vs9 n9 a9 t9 u9 h9 tk9 hP9 F9 N9)))
theorem parents_call {w : World} {dp un : Nat} {gd : Option (List Code)} {cn : Str} {cs : Scope} {L a : Addr} {ccd : Value} {cl : List (Str × Addr)} {outer : List Env} {A₀ : Around} {base h₀ : Heap} {m : Str → Option Value} {news : List (Addr × Obj)} {mean : ExcName → Option Value} {mg mb : Str → Option Value} {s : Shared} {Q E : Value → Shared → Prop}
    {x : Str} {t : Tok}
    (B : Below A₀ base outer h₀) (F : Fr h₀ L s.heap m) (X : (hd.heap_39 w.params).In h₀) (N : News h₀ L s.heap news) (T : Top hd.view_39 (looseW hd.view_39 []) mean mg mb h₀) (hk : cs.kind = .function)
    (hd' : dp + 4 < recursionLimit) (hu : un + 30 < cLine) (hx : x.length ≤ 1000)
    (hret : ∀ l (items : List Value) n h' tk', items.length = sl x → Fr h₀ L h' m → News h₀ L h' ((l, PySem.W.listOf items.toArray n) :: news) → (∀ p ∈ news, p.1 < l) → Q (.ref l) { s with heap := h', toks := tk' }) :
    wpAny (model PySem.Challenge.rw_nz0261_01.row.prog w) (ktrTop dp un gd cn cs L a ccd cl outer) (call (.ref 21) [.str x t]) Q E s := by
  w_top off
  revert X; k_fill; intro X
  refine wpAny_call ?_
  k_dflt cell_enter
  k_steps
  · (rename News _ _ _ _ => nE'); (simp only [List.push_toArray] at nE')
    refine' my_while_end ?kF nE' (fun p hp => hp) ?kk ?kr ?kp ?k0
    (case kF => k_asm)
    (case kk => exact rfl)
    (case kr => (intro z hz; simp [hz, kstB]))
    (case kp => assumption)
    (case k0 => assumption)
  · exact hret _ _ _ _ _ (p_done (by assumption) (by assumption)) (by k_asm) (by k_asm) (by assumption)
end
end
-- D1
section
open PySem PySem.W PyProof.Rows
open Sem (wp)
theorem miss_keys : typeLookup (.type "list") (Str.ofString "keys") = pure none := am_miss_of_fast (by kernel_rfl)
section
variable {prog : Program} {w : World} {A : Around} {E : Value → Shared → Prop} {s : Shared}
/-- the attribute error that leaves the list's own look, with no hook to catch it, is thrown on as it is -/
theorem raised_on {o name : Value} {e : Addr} {us : Array Value} {P Q : Value → Shared → Prop} (he : s.heap.get? e = some { cls := .type "AttributeError", data := .fields us }) (h : Q (.ref e) s) :
    wpAny (model prog w) A (getattributeRaised o name (.type "list") (.ref e) none false false) P Q s := by
  unfold getattributeRaised
  refine wpAny_bind (wpAny_isInstance (T := "AttributeError") ⟨_, he, rfl⟩ sub_AttributeError ?_)
  exact wpAny_bind (wpAny_of_eq (t := hookBehind (.type "list") none) (a := none) am_list_getattr_none (wpAny_bind (wpAny_throw h)))
/-- a list has no `keys`: the question answers nothing, and every object stays as it was -/
theorem no_keys {D : Addr} {ys : List Value} {Q : Option Value → Shared → Prop} (hh : A.handled = none) (hD : s.heap.get? D = some (LCg.lst ys))
    (h : ∀ g tk, (∀ b o, s.heap.get? b = some o → g.get? b = some o) → Q none { s with heap := g, toks := tk }) :
    wpAny (model prog w) A (getAttr? (.ref D) (Str.ofString "keys")) Q E s := by
  have hT : ∀ t, ({ s with toks := t } : Shared).TypeIs (.ref D) "list" := fun _ => ⟨_, hD, rfl⟩
  unfold getAttr? getAttrBy? getAttrBy
  refine wpAny_bind (wpAny_mkText (wpAny_bind (wpAny_attempt (wpAny_holding (wpAny_bind (wpAny_typeOf (hT _) (wpAny_bind (wpAny_of_eq F.slot_list_getattribute.lookup ?_))))))))
  show wpAny _ _ (getAttrByItsOwn _ _ _ _ _ _) _ _ _
  unfold getAttrByItsOwn
  refine wpAny_bind (wpAny_pure (wpAny_bind (wpAny_attempt (wpAny_holding ?_))))
  refine wpAny_bind (wpAny_of_eq (F.slot_list_getattribute.bind (.ref D)) ?_)
  refine call_meets F.slot_list_getattribute (hT _) am_entry_list_getattribute (F.args_list_getattribute_2 _ _) (meets_getattribute_miss_list D ys.toArray ys.length #[] (Str.ofString "keys") _ miss_keys (by decide)) ⟨hD, hh, fun g tk e he => ?_⟩
  obtain ⟨_, _, hx⟩ := he.there
  refine raised_on hx (wpAny_bind (wpAny_isInstance (T := "AttributeError") ⟨_, hx, rfl⟩ sub_AttributeError ?_))
  exact wpAny_pure (h g tk he.keeps)
end

inductive PairsAt (h : Heap) : List Value → List Str → Prop
  | nil : PairsAt h [] []
  | cons {a : Addr} {x : Str} {t : Tok} {k : Nat} {vs : List Value} {xs : List Str} : h.get? a = some { cls := .type "tuple", data := .seq #[.str x t, .bool true] k } → PairsAt h vs xs → PairsAt h (.ref a :: vs) (x :: xs)
theorem PairsAt.mono {h h' : Heap} {vs : List Value} {xs : List Str} (p : PairsAt h vs xs) (k : ∀ a o, h.get? a = some o → o.cls = .type "tuple" → h'.get? a = some o) : PairsAt h' vs xs := by
  induction p with
  | nil => exact .nil
  | cons e _ ih => exact .cons (k _ _ e rfl) ih
theorem PairsAt.len {h : Heap} {vs : List Value} {xs : List Str} (p : PairsAt h vs xs) : vs.length = xs.length := by
  induction p with
  | nil => rfl
  | cons _ _ ih => simp [ih]
theorem PairsAt.get {h : Heap} {vs : List Value} {xs : List Str} (p : PairsAt h vs xs) : ∀ {i : Nat} {v : Value}, vs[i]? = some v → ∃ a x t k, v = .ref a ∧ xs[i]? = some x ∧ h.get? a = some { cls := .type "tuple", data := .seq #[.str x t, .bool true] k } := by
  induction p with
  | nil => intro i v h; simp at h
  | cons e _ ih =>
    rintro (_ | i) v hv
    · simp at hv; exact ⟨_, _, _, _, hv.symm, by simp, e⟩
    · simp at hv
      obtain ⟨a, x, t, k, h1, h2, h3⟩ := ih hv
      exact ⟨a, x, t, k, h1, by simpa using h2, h3⟩
abbrev kv (x : Str) : Str × Value := (x, .bool true)
theorem entry_loop : entryFor table "dict.update.loop" = some Builtin.«dict.update.loop» := entryFor_of_tree (by kernel_rfl)
section
variable {prog : Program} {w : World} {A : Around} {E : Value → Shared → Prop} {s : Shared}
theorem update_loop {d I D : Addr} {ys : List Value} {xs : List Str} {Q : Value → Shared → Prop} (hh : A.handled = none) (hne : D ≠ I) (hdI : d ≠ I) (hdD : d ≠ D) (hlen : ys.length = xs.length) (hsz : xs.length ≤ 1000000)
    (hQ : ∀ h' tk, h'.DictOf (PySem.strKind prog w) d (merged [] (xs.map kv)) → (∀ b o, b ≠ d → b ≠ I → s.heap.get? b = some o → h'.get? b = some o) → Q .none { s with heap := h', toks := tk }) :
    ∀ (j i : Nat) (h : Heap) (tk : Nat), i + j = ys.length → h.IsListIter I D i → h.IsList D ys.toArray → PairsAt h ys xs → h.DictOf (PySem.strKind prog w) d (merged [] ((xs.take i).map kv)) →
      (∀ b o, b ≠ d → b ≠ I → s.heap.get? b = some o → h.get? b = some o) →
      codeAny (model prog w) A (.builtin "dict.update.loop" ⟨[.ref d, .ref I, rawInt (i : Int), .none], []⟩) (wants Q E) { s with heap := h, toks := tk } := by
  have W := Walks.list (prog := prog) (w := w) (A := A.in1) hh I D hne ys.toArray
  intro j
  induction j with
  | zero =>
    intro i h tk hi hit hl hp hd hk
    refine codeAny_builtin entry_loop ?_
    rw [Around.under_plainId (by decide +kernel)]
    unfold Builtin.«dict.update.loop»
    dsimp only [rawInt]
    have e : i = ys.toArray.size := by rw [List.size_toArray]; omega
    refine wpAny_bind (W.done _ _ _ (by rw [← e]; exact ⟨hit, hl⟩) fun h' tk' hk' => ?_)
    refine wpAny_bind (wpAny_pure (wpAny_pure ?_))
    have e2 : xs.take i = xs := List.take_of_length_le (by omega)
    rw [e2] at hd
    exact hQ h' tk' (hd.at fun o e => hk' d o (by simpa using hdI) e) fun b o h1 h2 e => hk' b o (by simpa using h2) (hk b o h1 h2 e)
  | succ j ih =>
    intro i h tk hi hit hl hp hd hk
    refine codeAny_builtin entry_loop ?_
    rw [Around.under_plainId (by decide +kernel)]
    unfold Builtin.«dict.update.loop»
    dsimp only [rawInt]
    refine wpAny_bind (W.item i _ _ _ (by rw [List.size_toArray]; omega) ⟨hit, hl⟩ fun v h' tk' hv hst' hk' => ?_)
    obtain ⟨a, x, t, k, rfl, hx, ha⟩ := hp.get (by simpa using hv)
    have haI : a ≠ I := by
      rintro rfl
      obtain ⟨o, ho, hc, _⟩ := hit
      have ho' : h.get? a = some o := ho
      rw [ha] at ho'
      cases ho'
      exact absurd hc (by simp)
    have had : a ≠ d := by
      rintro rfl
      obtain ⟨o, es, ep, ho, hc, _⟩ := hd
      have ho' : h.get? a = some o := ho
      rw [ha] at ho'
      cases ho'
      exact absurd hc.1 (by simp)
    have ha' : h'.get? a = some { cls := .type "tuple", data := .seq #[.str x t, .bool true] k } := hk' a _ (by simpa using haI) ha
    have hdd : h'.DictOf (PySem.strKind prog w) d (merged [] ((xs.take i).map kv)) := hd.at fun o e => hk' d o (by simpa using hdI) e
    dsimp only
    refine wpAny_bind (wpAny_holding (wpAny_bind (wpAny_tryCatch ?_)))
    unfold Builtin.Dict.pairItems
    refine wpAny_bind (wpAny_typeOf (T := "tuple") ⟨_, ha', rfl⟩ ?_)
    rw [if_pos (by decide)]
    refine wpAny_bind (wpAny_seqItems ha' rfl (wpAny_pure ?_))
    show wpAny _ _ (holding _ (dictSet d (.str x t) (.bool true))) _ _ _
    refine wpAny_holding (wpAny_dictSet_pairs (knd := PySem.strKind prog w) (k := x) (by show Value.isStrOf x (.str x t) = true; simp [Value.isStrOf]) hdd (fun h'' hd'' hs'' => ?_) ?_)
    · have hk'' : ∀ b o, b ≠ d → b ≠ I → h.get? b = some o → h''.get? b = some o := fun b o h1 h2 e => (hs''.2 b h1).trans (hk' b o (by simpa using h2) e)
      refine wpAny_pure ⟨Code.quiet_builtin _ (by decide +kernel), ?_⟩
      have e1 : (i : Int) + 1 = ((i + 1 : Nat) : Int) := by omega
      rw [e1]
      refine ih (i + 1) h'' _ (by omega) (hst'.1.at fun o e => (hs''.2 I (Ne.symm hdI)).trans e) (hst'.2.at fun o e => (hs''.2 D (Ne.symm hdD)).trans e) (hp.mono fun b o e hc => ?_) ?_ fun b o h1 h2 e => hk'' b o h1 h2 (hk b o h1 h2 e)
      · refine hk'' b o ?_ ?_ e
        · rintro rfl
          obtain ⟨o', es, ep, ho, hc', _⟩ := hd
          have ho' : h.get? b = some o' := ho
          rw [e] at ho'
          cases ho'
          rw [hc'.1] at hc
          exact absurd hc (by simp)
        · rintro rfl
          obtain ⟨o', ho, hc', _⟩ := hit
          have ho' : h.get? b = some o' := ho
          rw [e] at ho'
          cases ho'
          rw [hc'] at hc
          exact absurd hc (by simp)
      · have e3 : xs.take (i + 1) = xs.take i ++ [x] := by rw [List.take_add_one, hx]; rfl
        rw [e3, List.map_append]
        have e4 : merged [] ((xs.take i).map kv ++ [x].map kv) = stored (merged [] ((xs.take i).map kv)) x (.bool true) := by
          unfold merged; rw [List.foldl_append]; rfl
        rw [e4]; exact hd''
    · have e1 := merged_length_le [] ((xs.take i).map kv)
      have e2 : ((xs.take i).map kv).length ≤ xs.length := by rw [List.length_map, List.length_take]; omega
      rw [PySem.sizeLine_eq]
      simp only [List.length_nil, Nat.zero_add] at e1
      omega

/-- a call of dict with one argument: what is left is to fill the new dict out of it -/
theorem dict_made {v : Value} {Q : Value → Shared → Prop}
    (h : wpAny (model prog w) A.in1.in1 (Builtin.Dict.updateFrom "dict.__init__" s.heap.objs.size v [] .none)
      (fun fin s' => match fin with | .done f => wants (fun r s₂ => r = .none ∧ Q (.ref s.heap.objs.size) s₂) E (.ok f) s' | .again c => c.quiet = true ∧ codeAny (model prog w) A.in1 c (wants (fun r s₂ => r = .none ∧ Q (.ref s.heap.objs.size) s₂) E) s') E
      { s with heap := s.heap.push { cls := .type "dict", data := .dict #[] } }) : wpAny (model prog w) A (call (.type "dict") [v]) Q E s :=
  callType_codes (Q₁ := fun o z => o = .ref s.heap.objs.size ∧ z = { s with heap := s.heap.push { cls := .type "dict", data := .dict #[] } }) F.kt_called_dict (F.kt_typeCall_dict_1 _) F.entry_dict_init (kt_code_dict_new _ ⟨rfl, rfl⟩) fun o z ⟨eo, ez⟩ => by
    have T : z.TypeIs o "dict" := by rw [eo, ez]; exact (Heap.DictOf.new (knd := PySem.strKind prog w) s.heap).typeIs
    rw [eo] at T ⊢
    exact ⟨T, F.args_dict_init_2 _ _, wpAny_bind (wpAny_bind (wpAny_notOrdered_dict T (wpAny_pure (ez ▸ h))))⟩
theorem dict_pairs_call {D : Addr} {ys : List Value} {xs : List Str} {Q : Value → Shared → Prop} (hh : A.handled = none) (hx : s.heap.get? D = some (LCg.lst ys)) (hp : PairsAt s.heap ys xs) (hsz : xs.length ≤ 1000000)
    (h : ∀ h' tk, h'.DictOf (PySem.strKind prog w) s.heap.objs.size (merged [] (xs.map kv)) → (∀ b o, s.heap.get? b = some o → h'.get? b = some o) → Q (.ref s.heap.objs.size) { s with heap := h', toks := tk }) :
    wpAny (model prog w) A (call (.type "dict") [.ref D]) Q E s := by
  have up : ∀ (g : Heap) (n : Obj) {b : Addr} {o : Obj}, g.get? b = some o → (g.push n).get? b = some o := fun _ _ _ _ e => Heap.get?_push_of_some _ e
  have hnew := Heap.DictOf.new (knd := PySem.strKind prog w) s.heap
  refine dict_made ?_
  unfold Builtin.Dict.updateFrom
  refine wpAny_bind (wpAny_typeOf (T := "list") ⟨_, up _ _ hx, rfl⟩ ?_)
  rw [if_pos (by decide)]
  refine wpAny_bind (no_keys hh (up _ _ hx) fun g tk hg => ?_)
  simp only [Option.isNone_none, if_true]
  have hl : g.IsList D ys.toArray := ⟨_, hg _ _ (up _ _ hx), rfl, _, rfl⟩
  have ltD : D < s.heap.objs.size := Heap.lt_size hx
  have ltd : s.heap.objs.size < g.objs.size := let ⟨_, _, _, e, _⟩ := hnew; Heap.lt_size (hg _ _ e)
  refine wpAny_bind (wpAny_rule (wpAny_bind (wpAny_pyIter_list hl (wpAny_bind (wpAny_pure (wpAny_pure ⟨Code.quiet_builtin _ (by decide +kernel), ?_⟩))))))
  refine update_loop (A := A.in1) (s := { s with heap := g.push { cls := .type "list_iterator", data := .fields #[.ref D, .int 0 0] } }) (d := s.heap.objs.size) (I := g.objs.size) (D := D) (ys := ys) (xs := xs) (Q := fun r z => r = .none ∧ Q (.ref s.heap.objs.size) z) hh (Nat.ne_of_lt (Nat.lt_trans ltD ltd)) (Nat.ne_of_lt ltd) (Nat.ne_of_gt ltD) hp.len hsz
    (fun g' t hm hk => ⟨rfl, h g' t hm fun b o e => hk b o (Nat.ne_of_lt (Heap.lt_size e)) (Nat.ne_of_lt (Nat.lt_trans (Heap.lt_size e) ltd)) (up _ _ (hg _ _ (up _ _ e)))⟩) ys.length 0 _ _ (Nat.zero_add _) ⟨_, Heap.get?_push_size _ rfl, rfl, rfl⟩ (hl.at fun _ e => up _ _ e) (hp.mono fun _ _ e _ => up _ _ (hg _ _ (up _ _ e))) (hnew.at fun _ e => up _ _ (hg _ _ e)) (fun _ _ _ _ e => e)
end
end
-- D2
section
open PySem PySem.W PyProof.Rows
/-- the keys that a dict of the pairs holds -/
def keysOf (xs : List Str) : List Str := (merged [] (xs.map kv)).map (·.1)
theorem stored_keys (acc : List (Str × Value)) (x : Str) (hv : ∀ q ∈ acc, q.2 = .bool true) : (∀ q ∈ stored acc x (.bool true), q.2 = .bool true) ∧ (x ∈ (stored acc x (.bool true)).map (·.1)) ∧ (∀ k ∈ acc.map (·.1), k ∈ (stored acc x (.bool true)).map (·.1)) ∧ (∀ k ∈ (stored acc x (.bool true)).map (·.1), k = x ∨ k ∈ acc.map (·.1)) ∧ (stored acc x (.bool true)).length ≤ acc.length + 1 := by
  unfold stored
  split
  · rename_i h
    rw [keys_map_store]
    obtain ⟨q, hq, e⟩ := List.any_eq_true.mp h
    refine ⟨fun q hq => ?_, List.mem_map.mpr ⟨q, hq, of_decide_eq_true e⟩, fun k hk => hk, fun k hk => .inr hk, by simp⟩
    obtain ⟨p, hp, rfl⟩ := List.mem_map.mp hq
    split
    · rfl
    · exact hv p hp
  · refine ⟨fun q hq => ?_, by simp, fun k hk => by simp only [List.map_append, List.mem_append]; exact .inl hk, fun k hk => ?_, by simp⟩
    · rcases List.mem_append.mp hq with hq | hq
      · exact hv q hq
      · rw [List.mem_singleton.mp hq]
    · simp only [List.map_append, List.mem_append, List.map_cons, List.map_nil, List.mem_singleton] at hk
      rcases hk with hk | hk
      · exact .inr hk
      · exact .inl hk
theorem merged_facts : ∀ (xs : List Str) (acc : List (Str × Value)), (∀ q ∈ acc, q.2 = .bool true) →
    (∀ q ∈ merged acc (xs.map kv), q.2 = .bool true) ∧ (∀ k ∈ acc.map (·.1), k ∈ (merged acc (xs.map kv)).map (·.1)) ∧ (∀ k ∈ xs, k ∈ (merged acc (xs.map kv)).map (·.1)) ∧ (∀ k ∈ (merged acc (xs.map kv)).map (·.1), k ∈ xs ∨ k ∈ acc.map (·.1)) ∧ (merged acc (xs.map kv)).length ≤ acc.length + xs.length
  | [], acc, h => ⟨h, fun k hk => hk, fun k hk => (nomatch hk), fun k hk => .inr hk, by simp [merged]⟩
  | x :: xs, acc, h => by
    obtain ⟨a1, a2, a3, a4, a5⟩ := stored_keys acc x h
    obtain ⟨b1, b2, b3, b4, b5⟩ := merged_facts xs (stored acc x (.bool true)) a1
    have e : merged acc ((x :: xs).map kv) = merged (stored acc x (.bool true)) (xs.map kv) := rfl
    rw [e]
    refine ⟨b1, fun k hk => b2 k (a3 k hk), fun k hk => ?_, fun k hk => ?_, by simp only [List.length_cons]; omega⟩
    · rcases List.mem_cons.mp hk with rfl | hk
      · exact b2 _ a2
      · exact b3 k hk
    · rcases b4 k hk with hk | hk
      · exact .inl (List.mem_cons_of_mem _ hk)
      · rcases a4 k hk with rfl | hk
        · exact .inl List.mem_cons_self
        · exact .inr hk
theorem keysOf_sub {xs : List Str} {k : Str} (h : k ∈ keysOf xs) : k ∈ xs := by
  rcases (merged_facts xs [] (fun q hq => (nomatch hq))).2.2.2.1 k h with h | h
  · exact h
  · exact (nomatch h)
theorem keysOf_sup {xs : List Str} {k : Str} (h : k ∈ xs) : k ∈ keysOf xs := (merged_facts xs [] (fun q hq => (nomatch hq))).2.2.1 k h
theorem keysOf_len (xs : List Str) : (keysOf xs).length ≤ xs.length := by
  have := (merged_facts xs [] (fun q hq => (nomatch hq))).2.2.2.2
  unfold keysOf; rw [List.length_map]; simpa using this
theorem keysOf_nodup {xs : List Str} (h : xs.Nodup) : (merged [] (xs.map kv)) = xs.map kv := merged_nil_of_nodup _ (by rw [List.map_map]; simpa [Function.comp_def] using h)
/-- the pairs stand on the ledger -/
inductive PairsIn (cur : List (Addr × Obj)) : List Value → List Str → Prop
  | nil : PairsIn cur [] []
  | cons {a : Addr} {x : Str} {t : Tok} {vs : List Value} {xs : List Str} : (a, ({ cls := .type "tuple", data := .seq #[.str x t, .bool true] } : Obj)) ∈ cur → PairsIn cur vs xs → PairsIn cur (.ref a :: vs) (x :: xs)
theorem PairsIn.at {h₀ h : Heap} {L : Addr} {cur : List (Addr × Obj)} {vs : List Value} {xs : List Str} (p : PairsIn cur vs xs) (N : News h₀ L h cur) : PairsAt h vs xs := by
  induction p with
  | nil => exact .nil
  | cons e _ ih => exact .cons (N _ e).1 ih
theorem PairsIn.mono {cur cur' : List (Addr × Obj)} {vs : List Value} {xs : List Str} (p : PairsIn cur vs xs) (hs : ∀ q ∈ cur, q ∈ cur') : PairsIn cur' vs xs := by
  induction p with
  | nil => exact .nil
  | cons e _ ih => exact .cons (hs _ e) ih
theorem PairsIn.snoc {cur : List (Addr × Obj)} {vs : List Value} {xs : List Str} {a : Addr} {x : Str} {t : Tok} (p : PairsIn cur vs xs) (h : (a, ({ cls := .type "tuple", data := .seq #[.str x t, .bool true] } : Obj)) ∈ cur) : PairsIn cur (vs ++ [.ref a]) (xs ++ [x]) := by
  induction p with
  | nil => exact .cons h .nil
  | cons e _ ih => exact .cons e ih
theorem PairsIn.len {cur : List (Addr × Obj)} {vs : List Value} {xs : List Str} (p : PairsIn cur vs xs) : vs.length = xs.length := by
  induction p with
  | nil => rfl
  | cons _ _ ih => simp [ih]
section
variable {prog : Program} {w : World} {A : Around} {E : Value → Shared → Prop} {s : Shared} {h₀ : Heap} {L : Addr} {m : Str → Option Value} {news : List (Addr × Obj)}
theorem dict_pairs_K {D : Addr} {ys : List Value} {xs : List Str} {cur : List (Addr × Obj)} {Q : Value → Shared → Prop} (hh : A.handled = none) (F : Fr h₀ L s.heap m) (N : News h₀ L s.heap ((D, LCg.lst ys) :: cur)) (hbig : h₀.NoLimit) (hp : PairsIn cur ys xs) (hsub : ∀ p ∈ news, p ∈ cur) (hsz : xs.length ≤ 1000000)
    (h : ∀ d o h' tk, Fr h₀ L h' m → News h₀ L h' ((d, o) :: news) → (∀ p ∈ news, p.1 < d) → (d == sysModules) = false → o.IsDictOf (PySem.strKind prog w) (merged [] (xs.map kv)) → Q (.ref d) { s with heap := h', toks := tk }) :
    wpAny (model prog w) A (call (.type "dict") [.ref D]) Q E s := by
  have N' : News h₀ L s.heap cur := fun p hp => N p (.tail _ hp)
  refine dict_pairs_call hh (N _ (.head _)).1 (hp.at N') hsz fun h' tk hd hk => ?_
  obtain ⟨o, ho, hd'⟩ := Heap.dictOf_iff.mp hd
  refine h _ o h' tk (F.keeps hk) (fun p hq => ?_) (fun p hq => Heap.lt_size (N' p (hsub p hq)).1) (F.notModules (modules_low hbig)) hd'
  rcases List.mem_cons.mp hq with rfl | hq
  · exact ⟨ho, Nat.ne_of_gt F.ns.lt, next_is_new F⟩
  · have z := N' p (hsub p hq)
    exact ⟨hk _ _ z.1, z.2⟩
theorem len_dict_K {d : Addr} {o : Obj} {kvs : List (Str × Value)} {Q : Value → Shared → Prop} (N : News h₀ L s.heap news) (hm : (d, o) ∈ news) (lo : (d == sysModules) = false) (hd : o.IsDictOf (PySem.strKind prog w) kvs) (hsz : kvs.length ≤ 1000000)
    (h : ∀ t tk, Q (.int kvs.length t) { s with toks := tk }) : wpAny (model prog w) A (call (.builtin "len") [.ref d]) Q E s :=
  call_len_dict lo (Heap.dictOf_iff.mpr ⟨o, (N _ hm).1, hd⟩) (by omega) (h _ _)
theorem sorted_dict_K {d : Addr} {o : Obj} {kvs : List (Str × Value)} {Q : Value → Shared → Prop} (hh : A.handled = none) (F : Fr h₀ L s.heap m) (N : News h₀ L s.heap news) (hm : (d, o) ∈ news) (lo : (d == sysModules) = false) (hd : o.IsDictOf (PySem.strKind prog w) kvs) (hsz : kvs.length < 64)
    (h : ∀ D h' tk (vs : List Value) (xs : List Str) n, Fr h₀ L h' m → News h₀ L h' ((D, PySem.W.listOf vs.toArray n) :: news) → (∀ q ∈ news, q.1 < D) → StrsAre vs xs → xs.Perm (kvs.map (·.1)) → Q (.ref D) { s with heap := h', toks := tk }) :
    wpAny (model prog w) A (call (.builtin "sorted") [.ref d]) Q E s := by
  have hD : s.heap.DictOf (PySem.strKind prog w) d kvs := Heap.dictOf_iff.mpr ⟨o, (N _ hm).1, hd⟩
  obtain ⟨ep, hat⟩ := hD.dictAt
  refine kdu_sorted (kdl_dict (knd := PySem.strKind prog w) (kvs := kvs) (ep := ep) lo) hh F N hat (by rw [PySem.sizeLine_eq]; omega) fun B h' tk vs F' N' l1 hl hv => ?_
  have hS : StrsAre vs (kvs.map (·.1)) := kdy_strs (by rw [List.length_map, hl]) fun j v hj => by
    obtain ⟨k, x, hx, hk⟩ := hv j v hj
    obtain ⟨t, rfl⟩ := Value.isStrOf_shape hk
    exact ⟨k, by rw [List.getElem?_map, hx]; rfl, t, rfl⟩
  have hB : h'.get? B = some (seqObj "list" vs.toArray 0) := (N' _ (.head _)).1
  refine wpAny_call_entry slot_list_sort ⟨_, hB, rfl⟩ entry_list_sort (list_sort_treeK strKind_oneLt hB hS.keysOf (fun v₁ v₂ rest e => keyKind_strs (by rw [← e]; exact hS)) (by rw [hl]; exact hsz) fun st' a1 a2 => ⟨_, rfl, ?_⟩) (args_list_sort _)
  obtain ⟨ss', h1, h2, _⟩ := sorted_out_str hS a1 a2
  obtain ⟨e, he⟩ := sortedHeap_at (out := (arrOf st').map (·.2)) hB
  have hBlt : B < h'.objs.size := Heap.lt_size hB
  have old : ∀ b o, b ≠ B → h'.get? b = some o → (sortedHeap h' B vs ((arrOf st').map (·.2))).get? b = some o := fun b o hb eo => (sortedHeap_old hb (Heap.lt_size eo)).trans eo
  have hB0 := (N' _ (.head _)).2
  refine h B _ tk (((arrOf st').map (·.2)).toList) ss' e ⟨F'.ns.at' fun o eo => old _ _ (Ne.symm hB0.1) eo, fun b o eo => ?_, F'.above⟩ (fun p hp => ?_) l1 h1 h2
  · refine old b o ?_ (F'.keep b o eo)
    rintro rfl
    rw [hB0.2] at eo; cases eo
  · rcases List.mem_cons.mp hp with rfl | hp
    · exact ⟨he, hB0⟩
    · have z := N' p (.tail _ hp)
      exact ⟨old _ _ (Nat.ne_of_lt (l1 p hp)) z.1, z.2⟩
end
end
-- L2
section
open PySem PySem.W PyProof.Rows
abbrev ls (x : Str) : List Nat := x.cps.toList
def suf (s : List Nat) : Prop := s = [] ∨ ∃ r, s = 47 :: r
noncomputable def went (x o : Str) : Bool := x == o || bel x o
theorem ls_inj {x y : Str} (h : ls x = ls y) : x = y := by
  cases x; cases y; simp only [ls] at h
  congr 1
  exact Array.toList_inj.mp h
theorem ls_append (x y : Str) : ls (x ++ y) = ls x ++ ls y := by
  show (x.cps ++ y.cps).toList = _
  simp
theorem ls_slash : ls (Str.ofString "/") = [47] := by decide
theorem ls_length (x : Str) : (ls x).length = x.length := by simp [Str.length]
theorem starts_iff (x y : Str) : Txt.startswith x y = true ↔ ∃ r, ls x = ls y ++ r := by
  unfold Txt.startswith
  rw [Bool.and_eq_true, decide_eq_true_eq, StrLaws.subAt_eq, beq_iff_eq, List.drop_zero, ← ls_length y]
  constructor
  · rintro ⟨h1, h2⟩
    refine ⟨(ls x).drop (ls y).length, ?_⟩
    have := List.take_append_drop (ls y).length (ls x)
    have h2' : (ls x).take (ls y).length = ls y := h2
    rw [h2'] at this
    exact this.symm
  · rintro ⟨r, e⟩
    refine ⟨?_, ?_⟩
    · rw [← ls_length x, e, List.length_append]; omega
    · show (ls x).take _ = _
      rw [e, List.take_left']
      rfl
theorem bel_iff (x y : Str) : bel x y = true ↔ ∃ r, ls x = ls y ++ 47 :: r := by
  unfold bel
  rw [starts_iff, ls_append, ls_slash]
  simp
theorem went_iff (x o : Str) : went x o = true ↔ ∃ s, suf s ∧ ls x = ls o ++ s := by
  unfold went
  rw [Bool.or_eq_true, bel_iff]
  constructor
  · rintro (h | ⟨r, e⟩)
    · exact ⟨[], .inl rfl, by rw [eq_of_beq h]; simp⟩
    · exact ⟨_, .inr ⟨r, rfl⟩, e⟩
  · rintro ⟨s, rfl | ⟨r, rfl⟩, e⟩
    · left
      have : x = o := ls_inj (by simpa using e)
      simp [this]
    · exact .inr ⟨r, e⟩
theorem slice_from (x : Str) (n : Nat) (h : n ≤ x.length) : ls (Txt.slice x (some (n : Int)) none) = (ls x).drop n := by
  rw [slice_from_eq (by omega) (by omega) rfl]
  show (((ls x).drop n).take _) = _
  apply List.take_of_length_le
  rw [List.length_drop, ls_length]
  omega
theorem ren_went {x o : Str} (n : Str) {s : List Nat} (hs : suf s) (e : ls x = ls o ++ s) : ls (ren x o n) = ls n ++ s := by
  unfold ren
  by_cases h : (x == o) = true
  · rw [if_pos h]
    have : x = o := eq_of_beq h
    subst this
    have : s = [] := by simpa using e
    rw [this]; simp
  · rw [if_neg h]
    have hw := (went_iff x o).mpr ⟨s, hs, e⟩
    unfold went at hw
    rw [Bool.or_eq_true] at hw
    have hb := hw.resolve_left h
    rw [if_pos hb, ls_append, slice_from x o.length (by rw [← ls_length x, e, List.length_append, ls_length]; omega), e]
    congr 1
    rw [← ls_length o, List.drop_left]
theorem ren_stay {x o : Str} (n : Str) (h : went x o = false) : ren x o n = x := by
  unfold went at h
  rw [Bool.or_eq_false_iff] at h
  unfold ren
  rw [if_neg (by rw [h.1]; simp), if_neg (by rw [h.2]; simp)]
theorem ren_back {x o n : Str} (hn : went x n = false) : ren (ren x o n) n o = x := by
  cases h : went x o with
  | false => rw [ren_stay n h, ren_stay o hn]
  | true =>
    obtain ⟨s, hs, e⟩ := (went_iff x o).mp h
    apply ls_inj
    rw [ren_went o hs (ren_went n hs e), e]
theorem sl_ren {x o : Str} (n : Str) (h : went x o = true) : sl (ren x o n) + sl o = sl x + sl n := by
  obtain ⟨s, hs, e⟩ := (went_iff x o).mp h
  unfold sl
  show (ls (ren x o n)).count 47 + (ls o).count 47 = (ls x).count 47 + (ls n).count 47
  rw [ren_went n hs e, e, List.count_append, List.count_append]
  omega
theorem bel_ren {x y o : Str} (n : Str) (h : went x o = went y o) : bel (ren x o n) (ren y o n) = bel x y := by
  cases h1 : went x o with
  | false => rw [ren_stay n h1, ren_stay n (h ▸ h1)]
  | true =>
    obtain ⟨s, hs, e⟩ := (went_iff x o).mp h1
    obtain ⟨t, ht, f⟩ := (went_iff y o).mp (h ▸ h1)
    apply Bool.eq_iff_iff.mpr
    rw [bel_iff, bel_iff, ren_went n hs e, ren_went n ht f, e, f]
    simp
theorem ren_nodup {xs : List Str} {o n : Str} (hd : xs.Nodup) (hn : ∀ x ∈ xs, went x n = false) : (xs.map fun x => ren x o n).Nodup := by
  induction xs with
  | nil => simp
  | cons x r ih =>
    have h := List.nodup_cons.mp hd
    rw [List.map_cons, List.nodup_cons]
    refine ⟨fun hm => ?_, ih h.2 fun y hy => hn y (List.mem_cons_of_mem _ hy)⟩
    obtain ⟨y, hy, e⟩ := List.mem_map.mp hm
    have e1 := ren_back (o := o) (hn x List.mem_cons_self)
    have e2 := ren_back (o := o) (hn y (List.mem_cons_of_mem _ hy))
    rw [e, e1] at e2
    exact h.1 (e2 ▸ hy)
theorem ren_len (x o n : Str) : (ren x o n).length ≤ n.length + x.length := by
  cases h : went x o with
  | false => rw [ren_stay n h]; omega
  | true =>
    obtain ⟨s, hs, e⟩ := (went_iff x o).mp h
    rw [← ls_length, ren_went n hs e, List.length_append, ls_length, ← ls_length x, e, List.length_append]
    omega
end
-- C4
section
open PySem PySem.W PyProof.Rows
section
variable {prog : Program} {w : World} {A : Around} {h₀ : Heap} {L : Addr} {m : Str → Option Value} {env : Env} {elt : Expr} {x : Str} {scope : Scope} {cl : List (Str × Addr)} {s : Shared} {S : List (Addr × Obj) → Prop} {P : Nat → Value → Prop} {Fin : List Value → List (Addr × Obj) → Prop} {news : List (Addr × Obj)}
/-- what a turn of a comprehension of pairs hands on -/
def ElP (cur : List (Addr × Obj)) (G : Str → Prop) (y : Value) (cur' : List (Addr × Obj)) : Prop := ∃ a r t, y = .ref a ∧ cur' = (a, ({ cls := .type "tuple", data := .seq #[.str r t, .bool true] } : Obj)) :: cur ∧ G r
theorem comp_pairs {n : Nat} (G : Nat → Str → Prop)
    (turn : ∀ i v I oI C oC D m₂ ys cur h tk (E' : Value → Shared → Prop), i < n → P i v → (∀ p ∈ news, p ∈ cur) → LCg.NsObj oC m₂ → m₂ x = some v → Fr h₀ L h m → News h₀ L h ((I, oI) :: (C, oC) :: (D, LCg.lst ys) :: cur) → LCg.Off3 I C D cur → ((@Ne Nat I C) ∧ (@Ne Nat I D) ∧ (@Ne Nat C D)) → S cur →
      wpAny (model prog w) A (eval elt (compEnvC scope cl C env)) (LCg.CompEnd h₀ L m { s with heap := h, toks := tk } I oI C oC D (LCg.lst ys) S (ElP cur (G i))) E' { s with heap := h, toks := tk })
    (hS₀ : S news)
    (fin : ∀ ys xs cur, PairsIn cur ys xs → (∀ p ∈ news, p ∈ cur) → xs.length = n → (∀ i r, xs[i]? = some r → G i r) → Fin ys cur) : LCg.CompRest prog w A h₀ L m env elt x scope cl s S P Fin n 0 [] news :=
  comp_inv (fun i ys cur => S cur ∧ (∀ p ∈ news, p ∈ cur) ∧ ∃ xs, PairsIn cur ys xs ∧ xs.length = i ∧ ∀ k r, xs[k]? = some r → G k r)
    (fun i ys cur hi ⟨hS, hc, xs, hy, hl, hG⟩ v I oI C oC D m₂ h tk E' p1 p2 p3 p4 p5 p6 p7 => by
      subst hl
      exact wpAny_mono (turn _ v I oI C oC D m₂ ys cur h tk E' hi p1 hc p2 p3 p4 p5 p6 p7 hS) (fun y _ z => end_mono z fun cur' hS' ⟨a, r, t, er, ec, hr⟩ => by
        subst er ec
        exact ⟨hS', fun p hp => .tail _ (hc p hp), xs ++ [r], (hy.mono fun q hq => .tail _ hq).snoc (.head _), by simp, all_snoc hG hr⟩) fun _ _ z => z)
    (fun ys cur ⟨_, hc, xs, hy, hl, hG⟩ => fin ys xs cur hy hc hl hG) n 0 [] news (Nat.add_zero n) ⟨hS₀, fun p hp => hp, [], .nil, rfl, fun k r h => by simp at h⟩
theorem off3_cons {I C D a : Addr} {o : Obj} {cur : List (Addr × Obj)} (h : LCg.Off3 I C D cur) (h1 : I < a) (h2 : C < a) (h3 : D < a) : LCg.Off3 I C D ((a, o) :: cur) := ⟨⟨Nat.ne_of_gt h1, Nat.ne_of_gt h2, Nat.ne_of_gt h3⟩, h⟩
theorem compP_end {G : Str → Prop} {s₁ : Shared} {I C D a : Addr} {oI oC oD : Obj} {cur : List (Addr × Obj)} {h' : Heap} {tk : Nat} {r : Str} {t : Tok} (F : Fr h₀ L h' m) (N : News h₀ L h' ((a, ({ cls := .type "tuple", data := .seq #[.str r t, .bool true] } : Obj)) :: (I, oI) :: (C, oC) :: (D, oD) :: cur)) (off : LCg.Off3 I C D cur)
    (l1 : ∀ p ∈ (I, oI) :: (C, oC) :: (D, oD) :: cur, p.1 < a) (hS : ∀ o, S ((a, o) :: cur)) (hg : G r) :
    LCg.CompEnd h₀ L m s₁ I oI C oC D oD S (ElP cur G) (.ref a) { s₁ with heap := h', toks := tk } :=
  LCg.CompEnd.intro F N _ (fun p hp => by
    rcases List.mem_cons.mp hp with rfl | hp
    · exact .tail _ (.head _)
    rcases List.mem_cons.mp hp with rfl | hp
    · exact .tail _ (.tail _ (.head _))
    rcases List.mem_cons.mp hp with rfl | hp
    · exact .tail _ (.tail _ (.tail _ (.head _)))
    rcases List.mem_cons.mp hp with rfl | hp
    · exact .head _
    · exact .tail _ (.tail _ (.tail _ (.tail _ hp)))) (off3_cons off (l1 _ (.head _)) (l1 _ (.tail _ (.head _))) (l1 _ (.tail _ (.tail _ (.head _))))) (hS _) ⟨a, r, t, rfl, rfl, hg⟩
theorem strs_mem {vs : List Value} {xs : List Str} (hs : StrsAre vs xs) {i : Nat} {v : Value} (h : vs.toArray[i]? = some v) : ∃ y t, xs[i]? = some y ∧ y ∈ xs ∧ v = .str y t := by
  obtain ⟨y, t, hv, e⟩ := hs.item i v (by simpa using h)
  exact ⟨y, t, e, List.mem_of_getElem? e, hv⟩
theorem comp_src {vs : List Value} {xs : List Str} {ax : Addr} (f : Str → Str) (hs : StrsAre vs xs)
    (turn : ∀ y ty I oI C oC D m₂ ys h tk (E' : Value → Shared → Prop), y ∈ xs → LCg.NsObj oC m₂ → m₂ x = some (.str y ty) → Fr h₀ L h m → News h₀ L h ((I, oI) :: (C, oC) :: (D, LCg.lst ys) :: news) → LCg.Off3 I C D news → ((@Ne Nat I C) ∧ (@Ne Nat I D) ∧ (@Ne Nat C D)) → LCg.SrcAt h₀ ax vs.toArray news →
      wpAny (model prog w) A (eval elt (compEnvC scope cl C env)) (LCg.CompEnd h₀ L m { s with heap := h, toks := tk } I oI C oC D (LCg.lst ys) (LCg.SrcAt h₀ ax vs.toArray) (ElS news (fun r => r = f y))) E' { s with heap := h, toks := tk })
    (hS₀ : LCg.SrcAt h₀ ax vs.toArray news)
    (fin : ∀ ys, StrsAre ys (xs.map f) → Fin ys news) : LCg.CompRest prog w A h₀ L m env elt x scope cl s (LCg.SrcAt h₀ ax vs.toArray) (fun i v => vs.toArray[i]? = some v) Fin vs.toArray.size 0 [] news := by
  refine comp_strs (fun i r => ∃ y, xs[i]? = some y ∧ r = f y) ?_ ?_
  · intro i v I oI C oC D m₂ ys h tk E' hi hv hC hx F N off ne
    obtain ⟨y, ty, hy, hm, rfl⟩ := strs_mem hs hv
    refine wpAny_mono (turn y ty I oI C oC D m₂ ys h tk E' hm hC hx F N off ne hS₀) (fun v s₂ hq => ?_) fun _ _ e => e
    exact end_mono hq fun cur _ ⟨e1, r, t, e2, hr⟩ => ⟨e1, r, t, e2, y, hy, hr⟩
  · intro ys zs hz hl hG
    have e : zs = xs.map f := by
      apply List.ext_getElem?
      intro i
      rw [List.getElem?_map]
      cases hzi : zs[i]? with
      | some r =>
        obtain ⟨y, hy, rfl⟩ := hG i r hzi
        rw [hy]; rfl
      | none =>
        have h1 : zs.length ≤ i := List.getElem?_eq_none_iff.mp hzi
        have h2 : xs.length ≤ i := by rw [List.size_toArray, hs.length] at hl; omega
        rw [List.getElem?_eq_none_iff.mpr h2]; rfl
    rw [e] at hz
    exact fin ys hz
theorem srcAt_cons {ax : Addr} {its : Array Value} {p : Addr × Obj} (h : LCg.SrcAt h₀ ax its news) : LCg.SrcAt h₀ ax its (p :: news) := h.imp id fun ⟨o, hm, r⟩ => ⟨o, .tail _ hm, r⟩
theorem comp_pairs_src {vs : List Value} {xs : List Str} {ax : Addr} (hs : StrsAre vs xs)
    (turn : ∀ y ty I oI C oC D m₂ ys cur h tk (E' : Value → Shared → Prop), y ∈ xs → (∀ p ∈ news, p ∈ cur) → LCg.NsObj oC m₂ → m₂ x = some (.str y ty) → Fr h₀ L h m → News h₀ L h ((I, oI) :: (C, oC) :: (D, LCg.lst ys) :: cur) → LCg.Off3 I C D cur → ((@Ne Nat I C) ∧ (@Ne Nat I D) ∧ (@Ne Nat C D)) → LCg.SrcAt h₀ ax vs.toArray cur →
      wpAny (model prog w) A (eval elt (compEnvC scope cl C env)) (LCg.CompEnd h₀ L m { s with heap := h, toks := tk } I oI C oC D (LCg.lst ys) (LCg.SrcAt h₀ ax vs.toArray) (ElP cur (fun r => r = y))) E' { s with heap := h, toks := tk })
    (hS₀ : LCg.SrcAt h₀ ax vs.toArray news)
    (fin : ∀ ys cur, PairsIn cur ys xs → (∀ p ∈ news, p ∈ cur) → Fin ys cur) : LCg.CompRest prog w A h₀ L m env elt x scope cl s (LCg.SrcAt h₀ ax vs.toArray) (fun i v => vs.toArray[i]? = some v) Fin vs.toArray.size 0 [] news := by
  refine comp_pairs (fun i r => xs[i]? = some r) ?_ hS₀ ?_
  · intro i v I oI C oC D m₂ ys cur h tk E' hi hv hc hC hx F N off ne hS
    obtain ⟨y, ty, hy, hm, rfl⟩ := strs_mem hs hv
    refine wpAny_mono (turn y ty I oI C oC D m₂ ys cur h tk E' hm hc hC hx F N off ne hS) (fun v s₂ hq => ?_) fun _ _ e => e
    exact end_mono hq fun cur' _ ⟨a, r, t, e1, e2, hr⟩ => ⟨a, r, t, e1, e2, hr ▸ hy⟩
  · intro ys zs cur hp hc hl hG
    have e : zs = xs := by
      apply List.ext_getElem?
      intro i
      cases hzi : zs[i]? with
      | some r => exact (hG i r hzi).symm
      | none =>
        have h1 : zs.length ≤ i := List.getElem?_eq_none_iff.mp hzi
        have h2 : xs.length ≤ i := by rw [List.size_toArray, hs.length] at hl; omega
        rw [List.getElem?_eq_none_iff.mpr h2]
    subst e
    exact fin ys cur hp hc
end
end
-- D3
section
open PySem PySem.W PySem.Calls PyProof.Rows
/-- the end of a loop's turn that changes nothing but some names -/
def FEnd (h₀ : Heap) (L : Addr) (led : List (Addr × Obj)) (x : Str) (stored : List Str) (m₀ : Str → Option Value) (s₁ s₂ : Shared) : Prop :=
  ∃ h' tk m' news', s₂ = { s₁ with heap := h', toks := tk } ∧ Fr h₀ L h' m' ∧ News h₀ L h' news' ∧ (∀ p ∈ led, p ∈ news') ∧ ∀ z, z ≠ x → stored.contains z = false → m' z = m₀ z
def FPost (h₀ : Heap) (L : Addr) (led : List (Addr × Obj)) (x : Str) (stored : List Str) (m₀ : Str → Option Value) (s₁ : Shared) (Q : Flow → Shared → Prop) (f : Flow) (s₂ : Shared) : Prop :=
  match f with
  | .ret v => Q (.ret v) s₂
  | .brk => Q .next s₂
  | _ => FEnd h₀ L led x stored m₀ s₁ s₂
theorem FEnd.intro {h₀ : Heap} {L : Addr} {led news' : List (Addr × Obj)} {x : Str} {stored : List Str} {m₀ m' : Str → Option Value} {s₁ : Shared} {h' : Heap} {tk : Nat} (F : Fr h₀ L h' m') (N : News h₀ L h' news') (hn : ∀ p ∈ led, p ∈ news')
    (hr : ∀ z, z ≠ x → stored.contains z = false → m' z = m₀ z) : FEnd h₀ L led x stored m₀ s₁ { s₁ with heap := h', toks := tk } := ⟨h', tk, m', news', rfl, F, N, hn, hr⟩
section
variable {prog : Program} {w : World} {A : Around} {E : Value → Shared → Prop} {s : Shared} {env : Env} {h₀ : Heap} {x : Str} {body : List Stmt} {Q : Flow → Shared → Prop}
theorem my_range {r : Addr} {b : Int} {t₀ u₀ v₀ : Tok} {n : Nat} {m₀ : Str → Option Value} {led : List (Addr × Obj)} (stored : List Str)
    (hh : A.handled = none) (hr : IsRange s.heap r 0 b 1 t₀ u₀ v₀) (hb : b = (n : Int)) (hn : n ≤ 1000) (F : Fr h₀ env.locals s.heap m₀) (N : News h₀ env.locals s.heap led)
    (turn : ∀ (i : Nat) t (u : Str → Option Value) h tk led', i < n → (∀ p ∈ led, p ∈ led') → Fr h₀ env.locals h (fun y => if y = x then some (.int (i : Int) t) else if stored.contains y then u y else m₀ y) → News h₀ env.locals h led' →
      wpAny (model prog w) A (execs body env) (FPost h₀ env.locals led' x stored m₀ { s with heap := h, toks := tk } Q) E { s with heap := h, toks := tk })
    (done : ∀ (u : Str → Option Value) h tk, Fr h₀ env.locals h (fun y => if y = x then u y else if stored.contains y then u y else m₀ y) → News h₀ env.locals h led → Q .next { s with heap := h, toks := tk }) :
    wpAny (model prog w) A (pyIter (.ref r)) (fun it s₂ => LoopAtV prog w A h₀ env x body Q E it s₂) E s := by
  subst hb
  refine kst_range (σ := Unit) (fun _ => led) (fun _ => []) (fun _ => True) stored (fun _ _ => True) () hh hr (small_one (by omega) (by omega) (by omega) (by omega)) (by first | exact rangeSize_nat _ _ | (simp [Builtin.Range.rangeSize])) F N trivial (fun p hp => nomatch hp) trivial ?_ ?_
  · intro _ pre k t u h tk own hk hlt hoff _ _ F₁ N₁
    have e : k = ((pre.length : Nat) : Int) := by omega
    subst e
    refine wpAny_mono (turn pre.length t u h tk (led ++ own) hlt (fun p hp => List.mem_append_left _ hp) F₁ N₁) (fun f s₂ q => ?_) fun _ _ e => e
    have fin : FEnd h₀ env.locals (led ++ own) x stored m₀ { s with heap := h, toks := tk } s₂ → InvEndN h₀ env.locals (KstS (σ := Unit) (fun _ => led) (fun _ => []) (fun _ => True) x stored m₀ (fun _ _ => True) (pre ++ [((pre.length : Nat) : Int)])) own (led.map (·.1)) { s with heap := h, toks := tk } s₂ := by
      rintro ⟨h', tk', m', news', e, F', N', hn', hr'⟩
      exact ⟨h', tk', m', news', led, e, F', N', fun p hp => hn' p (List.mem_append_left _ hp), fun p hp => hn' p (List.mem_append_right _ hp), rfl, (), rfl, trivial, fun p hp => (nomatch hp), fun z h1 _ h3 => hr' z h1 h3, trivial⟩
    cases f with
    | ret v => exact q
    | brk => exact q
    | next => exact fin q
    | cont => exact fin q
  · intro _ u h tk _ _ F₁ N₁
    exact done u h tk F₁ N₁
end
section
variable {h₀ : Heap} {L : Addr} {prog : Program} {w : World} {A : Around} {E : Value → Shared → Prop} {s : Shared} {news : List (Addr × Obj)}
theorem len_strs_K {l : Addr} {vs : List Value} {xs : List Str} {k : Nat} {Q : Value → Shared → Prop} (N : News h₀ L s.heap news) (hm : (l, PySem.W.listOf vs.toArray k) ∈ news) (hs : StrsAre vs xs) (hsz : xs.length ≤ 1000)
    (h : ∀ t tk, Q (.int xs.length t) { s with toks := tk }) : wpAny (model prog w) A (call (.builtin "len") [.ref l]) Q E s := by
  have e : vs.toArray.size = xs.length := by rw [List.size_toArray, hs.length]
  exact call_len_list ⟨_, (N _ hm).1, rfl, _, rfl⟩ (by rw [e]; omega) (by rw [e]; exact h _ _)
theorem item_strs_K {value slice : Expr} {l : Addr} {vs : List Value} {xs : List Str} {k : Nat} {i : Int} {u : Tok} {Q : Value → Shared → Prop} (N : News h₀ L s.heap news) (hm : (l, PySem.W.listOf vs.toArray k) ∈ news) (hs : StrsAre vs xs) (hsz : xs.length ≤ 1000)
    (h0 : 0 ≤ i) (h1 : i < (xs.length : Int)) (h : ∀ y t, xs[i.toNat]? = some y → y ∈ xs → Q (.str y t) s)
    (hsub : subscripted slice false (.ref l) (.int i u) = operate [.ref l, .int i u] (getItem (.ref l) (.int i u)) := by with_unfolding_all rfl) (hg : ∀ r, letTemporaryGo value (.ref l) r = pure () := by intro _; with_unfolding_all rfl) :
    wpAny (model prog w) A (subscriptTail value slice (.ref l) (.int i u)) Q E s := by
  have hlt : i.toNat < vs.length := by rw [hs.length]; omega
  obtain ⟨y, t, e, hy⟩ := hs.item _ _ (List.getElem?_eq_getElem hlt)
  have hx : vs[i.toNat]? = some (.str y t) := by rw [List.getElem?_eq_getElem hlt, e]
  exact item_listL ⟨_, (N _ hm).1, rfl, _, rfl⟩ h0 (by omega) hx (h y t hy (List.mem_of_getElem? hy)) hsub hg
theorem item_known_K {value slice : Expr} {l : Addr} {vs : List Value} {xs : List Str} {k i : Nat} {y : Str} {u : Tok} {Q : Value → Shared → Prop} (N : News h₀ L s.heap news) (hm : (l, PySem.W.listOf vs.toArray k) ∈ news) (hs : StrsAre vs xs) (hsz : xs.length ≤ 1000)
    (hy : xs[i]? = some y) (h : ∀ t, Q (.str y t) s)
    (hsub : subscripted slice false (.ref l) (.int (i : Int) u) = operate [.ref l, .int (i : Int) u] (getItem (.ref l) (.int (i : Int) u)) := by with_unfolding_all rfl) (hg : ∀ r, letTemporaryGo value (.ref l) r = pure () := by intro _; with_unfolding_all rfl) :
    wpAny (model prog w) A (subscriptTail value slice (.ref l) (.int (i : Int) u)) Q E s := by
  have hlt := (List.getElem?_eq_some_iff.mp hy).1
  refine item_strs_K N hm hs hsz (by omega) (by omega) (fun z t hz _ => ?_) hsub hg
  rw [Int.toNat_natCast, hy] at hz
  cases hz
  exact h t
theorem item_map_K {value slice : Expr} {l : Addr} {vs : List Value} {xs : List Str} {f : Str → Str} {k i : Nat} {y : Str} {u : Tok} {Q : Value → Shared → Prop} (N : News h₀ L s.heap news) (hm : (l, PySem.W.listOf vs.toArray k) ∈ news) (hs : StrsAre vs (xs.map f)) (hsz : xs.length ≤ 1000)
    (hy : xs[i]? = some y) (h : ∀ t, Q (.str (f y) t) s)
    (hsub : subscripted slice false (.ref l) (.int (i : Int) u) = operate [.ref l, .int (i : Int) u] (getItem (.ref l) (.int (i : Int) u)) := by with_unfolding_all rfl) (hg : ∀ r, letTemporaryGo value (.ref l) r = pure () := by intro _; with_unfolding_all rfl) :
    wpAny (model prog w) A (subscriptTail value slice (.ref l) (.int (i : Int) u)) Q E s :=
  item_known_K N hm hs (by rw [List.length_map]; exact hsz) (by rw [List.getElem?_map, hy]; rfl) h hsub hg
theorem item_new_K {value slice : Expr} {l : Addr} {vs : List Value} {xs : List Str} {k i : Nat} {u : Tok} {Q : Value → Shared → Prop} (N : News h₀ L s.heap news) (hm : (l, PySem.W.listOf vs.toArray k) ∈ news) (hs : StrsAre vs xs) (hsz : xs.length ≤ 1000)
    (hlt : i < xs.length) (h : ∀ y t, xs[i]? = some y → y ∈ xs → Q (.str y t) s)
    (hsub : subscripted slice false (.ref l) (.int (i : Int) u) = operate [.ref l, .int (i : Int) u] (getItem (.ref l) (.int (i : Int) u)) := by with_unfolding_all rfl) (hg : ∀ r, letTemporaryGo value (.ref l) r = pure () := by intro _; with_unfolding_all rfl) :
    wpAny (model prog w) A (subscriptTail value slice (.ref l) (.int (i : Int) u)) Q E s :=
  item_strs_K N hm hs hsz (by omega) (by omega) (fun z t hz hzm => h z t (by rw [Int.toNat_natCast] at hz; exact hz) hzm) hsub hg
end
/-- what a turn of the two loops finds on the ledger -/
structure Mem (nl ml c1 c2 : Addr) (vs ys : List Value) (k : Nat) (o1 o2 : Obj) (led : List (Addr × Obj)) : Prop where
  a : (nl, PySem.W.listOf vs.toArray k) ∈ led
  b : (ml, LCg.lst ys) ∈ led
  c : (c1, o1) ∈ led
  d : (c2, o2) ∈ led
theorem Mem.mono {nl ml c1 c2 : Addr} {vs ys : List Value} {k : Nat} {o1 o2 : Obj} {led led' : List (Addr × Obj)} (x : Mem nl ml c1 c2 vs ys k o1 o2 led) (h : ∀ p ∈ led, p ∈ led') : Mem nl ml c1 c2 vs ys k o1 o2 led' := ⟨h _ x.a, h _ x.b, h _ x.c, h _ x.d⟩
theorem Mem.start {nl ml c1 c2 d : Addr} {vs ys : List Value} {k : Nat} {o1 o2 o : Obj} {news : List (Addr × Obj)} (hm : (nl, PySem.W.listOf vs.toArray k) ∈ news) : Mem nl ml c1 c2 vs ys k o1 o2 ((d, o) :: (ml, LCg.lst ys) :: (c1, o1) :: (c2, o2) :: news) :=
  ⟨.tail _ (.tail _ (.tail _ (.tail _ hm))), .tail _ (.head _), .tail _ (.tail _ (.head _)), .tail _ (.tail _ (.tail _ (.head _)))⟩
theorem sl_le (x : Str) : sl x ≤ x.length := by
  unfold sl
  exact Nat.le_trans List.count_le_length (by simp [Str.length])
/-- the two names that a rename speaks of -/
inductive Mark2 (o n : Str) : Prop
  | mk
/-- what is known of a name of the list -/
theorem get_name {xs : List Str} {o n : Str} (_mk : Mark2 o n) (hn : n.length ≤ 300) (hlen : ∀ x ∈ xs, x.length ≤ 300) (hfree : ∀ x ∈ xs, went x n = false) {i : Nat} (hi : i < xs.length) :
    ∃ y, xs[i]? = some y ∧ y.length ≤ 300 ∧ (ren y o n).length ≤ 600 ∧ ren (ren y o n) n o = y ∧ (went y o = false → ren y o n = y) ∧ (went y o = true → (sl (ren y o n) : Int) - (sl n : Int) = (sl y : Int) - (sl o : Int)) := by
  have hm : xs[i] ∈ xs := List.getElem_mem hi
  refine ⟨xs[i], List.getElem?_eq_getElem hi, hlen _ hm, ?_, ren_back (hfree _ hm), ren_stay n, fun h => ?_⟩
  · have := ren_len xs[i] o n
    have := hlen _ hm
    omega
  · have := sl_ren n h
    omega
def JoinB (h₀ : Heap) (L : Addr) (m : Str → Option Value) (led : List (Addr × Obj)) (b : Bool) (s : Shared) (v : Value) (s' : Shared) : Prop := ∃ h' tk, v = .bool b ∧ s' = { s with heap := h', toks := tk } ∧ Fr h₀ L h' m ∧ News h₀ L h' led
section
variable {M : Model} {A : Around} {E : Value → Shared → Prop} {s : Shared} {h₀ : Heap} {L : Addr} {m : Str → Option Value} {led : List (Addr × Obj)}
theorem join_went {t : Sem Value} {Q : Value → Shared → Prop} {o n y : Str} {xs : List Str} {i : Nat} (_mk : Mark2 o n) (_hy : xs[i]? = some y) (F : Fr h₀ L s.heap m) (N : News h₀ L s.heap led) (h1 : wpAny M A t (JoinB h₀ L m led (went y o) s) E s)
    (h2 : ∀ h' tk, Fr h₀ L h' m → News h₀ L h' led → Q (.bool (went y o)) { s with heap := h', toks := tk }) : wpAny M A t Q E s :=
  wpAny_mono h1 (fun v s' ⟨h', tk, e1, e2, F', N'⟩ => by subst e1; subst e2; exact h2 h' tk F' N') fun _ _ e => e
theorem joinB_intro {b b' : Bool} {h' : Heap} {tk : Nat} (F : Fr h₀ L h' m) (N : News h₀ L h' led) (e : b' = b) : JoinB h₀ L m led b s (.bool b') { s with heap := h', toks := tk } := ⟨h', tk, by rw [e], rfl, F, N⟩
end
theorem went_of_eq {y o : Str} (h : (y == o) = true) : (y == o) = went y o := by unfold went; rw [h]; rfl
theorem went_of_bel {y o : Str} (h : (y == o) = false) : bel y o = went y o := by unfold went; rw [h]; rfl
section
variable {h₀ : Heap} {L : Addr} {prog : Program} {w : World} {A : Around} {E : Value → Shared → Prop} {s : Shared} {news : List (Addr × Obj)}
theorem len_items_K {l : Addr} {items : List Value} {x : Str} {k : Nat} {Q : Value → Shared → Prop} (N : News h₀ L s.heap news) (hm : (l, PySem.W.listOf items.toArray k) ∈ news) (e : items.length = sl x) (hx : x.length ≤ 1000)
    (h : ∀ t tk, Q (.int (sl x : Int) t) { s with toks := tk }) : wpAny (model prog w) A (call (.builtin "len") [.ref l]) Q E s := by
  have e' : items.toArray.size = sl x := by rw [List.size_toArray, e]
  have := sl_le x
  exact call_len_list ⟨_, (N _ hm).1, rfl, _, rfl⟩ (by rw [e']; omega) (by rw [e']; exact h _ _)
end
theorem dead1 {y : Str} (h : (y != y) = true) : False := by simp at h
theorem dead2 {b : Bool} {x y : Int} (h : b = true → x = y) (hb : b = true) (hne : x ≠ y) : False := hne (h hb)
theorem dead3 {y z o n : Str} (h : (went y o == went z o) = true) (hb : (bel (ren y o n) (ren z o n) != bel y z) = true) : False := by
  rw [bel_ren n (eq_of_beq h)] at hb
  simp at hb
theorem dead4 {y r : Str} {b : Bool} (h : b = false → r = y) (hb : b = false) (hne : (r != y) = true) : False := by
  rw [h hb] at hne
  simp at hne
theorem dead5 {b : Bool} (h : b = true) (h' : b = false) : False := by rw [h] at h'; cases h'
end
-- C5
section
open PySem PySem.W PyProof.Rows
section
variable {prog : Program} {w : World} {A : Around} {h₀ : Heap} {L : Addr} {m : Str → Option Value} {env : Env} {elt : Expr} {x : Str} {scope : Scope} {cl : List (Str × Addr)} {s : Shared} {Fin : List Value → List (Addr × Obj) → Prop} {news : List (Addr × Obj)}
theorem comp_ren {vs : List Value} {xs : List Str} {ax : Addr} {o n : Str} (_mk : Mark2 o n) (hs : StrsAre vs xs)
    (turn : ∀ y ty I oI C oC D m₂ ys h tk (E' : Value → Shared → Prop), y ∈ xs → LCg.NsObj oC m₂ → m₂ x = some (.str y ty) → Fr h₀ L h m → News h₀ L h ((I, oI) :: (C, oC) :: (D, LCg.lst ys) :: news) → LCg.Off3 I C D news → ((@Ne Nat I C) ∧ (@Ne Nat I D) ∧ (@Ne Nat C D)) → LCg.SrcAt h₀ ax vs.toArray news →
      wpAny (model prog w) A (eval elt (compEnvC scope cl C env)) (LCg.CompEnd h₀ L m { s with heap := h, toks := tk } I oI C oC D (LCg.lst ys) (LCg.SrcAt h₀ ax vs.toArray) (ElS news (fun r => r = ren y o n))) E' { s with heap := h, toks := tk })
    (hS₀ : LCg.SrcAt h₀ ax vs.toArray news)
    (fin : ∀ ys, StrsAre ys (xs.map fun y => ren y o n) → Fin ys news) : LCg.CompRest prog w A h₀ L m env elt x scope cl s (LCg.SrcAt h₀ ax vs.toArray) (fun i v => vs.toArray[i]? = some v) Fin vs.toArray.size 0 [] news :=
  comp_src (fun y => ren y o n) hs turn hS₀ fin
end
section
variable {h₀ : Heap} {L : Addr} {m : Str → Option Value}
theorem compP_endK {G : Str → Prop} {S : List (Addr × Obj) → Prop} {s₁ : Shared} {I C D a : Addr} {oI oC oD : Obj} {cur : List (Addr × Obj)} {h' : Heap} {tk : Nat} {r : Str} {t : Tok} (F : Fr h₀ L h' m) (N : News h₀ L h' ((a, ({ cls := .type "tuple", data := .seq #[.str r t, .bool true] } : Obj)) :: (I, oI) :: (C, oC) :: (D, oD) :: cur)) (off : LCg.Off3 I C D cur)
    (l1 : @LT.lt Nat _ I a ∧ @LT.lt Nat _ C a ∧ @LT.lt Nat _ D a ∧ AllLt a cur) (hS : ∀ o, S ((a, o) :: cur)) (hg : G r) :
    LCg.CompEnd h₀ L m s₁ I oI C oC D oD S (ElP cur G) (.ref a) { s₁ with heap := h', toks := tk } :=
  LCg.CompEnd.intro F N _ (fun p hp => by
    rcases List.mem_cons.mp hp with rfl | hp
    · exact .tail _ (.head _)
    rcases List.mem_cons.mp hp with rfl | hp
    · exact .tail _ (.tail _ (.head _))
    rcases List.mem_cons.mp hp with rfl | hp
    · exact .tail _ (.tail _ (.tail _ (.head _)))
    rcases List.mem_cons.mp hp with rfl | hp
    · exact .head _
    · exact .tail _ (.tail _ (.tail _ (.tail _ hp)))) (off3_cons off l1.1 l1.2.1 l1.2.2.1) (hS _) ⟨a, r, t, rfl, rfl, hg⟩
variable {prog : Program} {w : World} {A : Around} {E : Value → Shared → Prop} {s : Shared} {news : List (Addr × Obj)}
end
theorem src_size {vs : List Value} {xs : List Str} (hs : StrsAre vs xs) (h : xs.length ≤ 1000) : vs.toArray.size ≤ sizeLine := by
  rw [List.size_toArray, hs.length, PySem.sizeLine_eq]; omega
theorem my_sub {nl ml c1 c2 : Addr} {vs ys : List Value} {k : Nat} {o1 o2 : Obj} {led led' : List (Addr × Obj)} {h₀ h : Heap} {L : Addr} (_x : Mem nl ml c1 c2 vs ys k o1 o2 led) (N : News h₀ L h led') (hs : ∀ p ∈ led, p ∈ led') : News h₀ L h led := fun p hp => N p (hs p hp)
local macro_rules | `(tactic| walk_at "my tails") => `(tactic| (intro p hp; repeat (first | exact hp | refine List.mem_cons_of_mem _ ?_)))
local macro_rules | `(tactic| walk_at "my same") => `(tactic| (intro z h2 h3; (simp only [List.contains_cons, List.contains_nil, Bool.or_false, Bool.or_eq_false_iff, beq_eq_false_iff_ne, ne_eq] at h3); (simp [h2, h3]; done)))
local macro_rules | `(tactic| walk_at "my len") => `(tactic| first | omega | (exact Nat.le_trans ((by assumption : ∀ x ∈ _, Str.length x ≤ 300) _ (by assumption)) (by decide)))
section
local macro_rules | `(tactic| k_mem) => `(tactic| assumption)
local macro_rules | `(tactic| walk_at "exec Assign cons ListComp") => `(tactic| (k_here; k_dflt (refine LCg.Assign_ListComp_U (F₀ := by k_asm) (by rfl) (by with_unfolding_all rfl) (by with_unfolding_all rfl) (by decide) (by rfl) (by decide) (by rfl) (by rfl) (by rfl) ?_)))
local macro_rules | `(tactic| walk_at "eval ListComp") => `(tactic| (k_here; k_dflt (refine LCg.ListComp_U (F₀ := by k_asm) (by with_unfolding_all rfl) (by decide) (by rfl) (by decide) (by rfl) ?_)))
local macro_rules | `(tactic| walk_at "CompSrc") => `(tactic| (k_here; k_dflt (refine LCg.CompSrc.ledger (by rfl) (by k_asm) (by k_asm) (by k_mem) ?ks ?_; (case ks => exact src_size (by assumption) (by ((try simp only [List.length_map]); omega))); intro g'; (with_reducible rename StrsAre _ _ => hs9); (refine' comp_ren (by assumption) hs9 (fun y' ty' I' oI' C' oC' D' m' ys' h' tk' E' hy' hC' hx' F' N' off' ne' hS' => ?_) (Or.inr ⟨_, by k_mem, rfl, _, rfl⟩) (fun ys' hs' => ?_)))))
local macro_rules | `(tactic| walk_at "CompSrc") => `(tactic| (k_here; (with_reducible show LCg.CompSrc _ _ _ _ _ _ _ (PySem.Expr.Tuple _ _ _) _ _ _ _ _ _); k_dflt (refine LCg.CompSrc.ledger (by rfl) (by k_asm) (by k_asm) (by k_mem) ?ks ?_; (case ks => exact src_size (by assumption) (by ((try simp only [List.length_map]); omega))); intro g'; (with_reducible rename StrsAre _ _ => hs9); (refine' comp_pairs_src hs9 (fun y' ty' I' oI' C' oC' D' m' ys' cur' h' tk' E' hy' hc' hC' hx' F' N' off' ne' hS' => ?_) (Or.inr ⟨_, by k_mem, rfl, _, rfl⟩) (fun ys' cur' hp' hc' => ?_)))))
local macro_rules | `(tactic| walk_at "call ref") => `(tactic| (k_here; (with_reducible show wpAny _ _ (call (Value.ref 28) [Value.str _ _, Value.str _ _]) _ _ _); (with_unfolding_all refine' is_below_call ?kB ?kF ?kX ?kN ?kT ?kk ?kd ?ku ?kx ?ky ?_; (case kB => k_asm); (case kF => k_asm); (case kX => k_asm); (case kN => k_asm); (case kT => k_asm); (case kk => first | exact rfl | assumption); (case kd => ktr_room); (case ku => ktr_units); (case kx => walk_at "my len"); (case ky => walk_at "my len"); intro h9 tk9 F9 N9; (try dsimp only); (try k_fold))))
local macro_rules | `(tactic| walk_at "call ref") => `(tactic| (k_here; (with_reducible show wpAny _ _ (call (Value.ref 35) [Value.str _ _, Value.str _ _, Value.str _ _]) _ _ _); (with_unfolding_all refine' renamed_call ?kB ?kF ?kX ?kN ?kT ?kk ?kd ?ku ?kx ?ky ?kz ?_; (case kB => k_asm); (case kF => k_asm); (case kX => k_asm); (case kN => k_asm); (case kT => k_asm); (case kk => first | exact rfl | assumption); (case kd => ktr_room); (case ku => ktr_units); (case kx => walk_at "my len"); (case ky => walk_at "my len"); (case kz => walk_at "my len"); intro t9 h9 tk9 F9 N9; (try (with_reducible rename (ren (ren _ _ _) _ _ = _) => hb9; rw [hb9])); (try dsimp only); (try k_fold))))
local macro_rules | `(tactic| walk_at "CompEnd") => `(tactic| exact comp_end (by k_asm) (by k_asm) (by assumption) (by assumption) rfl)
local macro_rules | `(tactic| walk_at "CompEnd") => `(tactic| exact compP_endK (by k_asm) (by k_asm) (by assumption) (by assumption) (fun _ => srcAt_cons (by assumption)) rfl)
local macro_rules | `(tactic| walk_at "call type:dict") => `(tactic| (k_here; (with_reducible show wpAny _ _ (call (Value.type "dict") [Value.ref _]) _ _ _); k_dflt (refine dict_pairs_K (by rfl) (by k_asm) (by k_asm) (Top.nolimit (by k_asm)) (by assumption) (by assumption) (by ((try simp only [List.length_map]); omega)) ?_); intro d9 o9 h9 tk9 F9 N9 l9 lo9 hd9; (try (rw [keysOf_nodup (ren_nodup (by assumption) (by assumption))] at hd9))))
local macro_rules | `(tactic| walk_at "call builtin:len") => `(tactic| (k_here; (with_reducible show wpAny _ _ (call (Value.builtin "len") [Value.ref _]) _ _ _); k_dflt (first
  | (refine len_items_K (by k_asm) (.head _) (by assumption) (by walk_at "my len") ?_; intro t9 tk9)
  | (refine len_dict_K (by k_asm) (by k_mem) (by assumption) (by assumption) (by ((try simp only [List.length_map]); omega)) ?_; intro t9 tk9; (try simp only [List.length_map]))
  | (refine len_strs_K (by k_asm) (by k_mem) (by assumption) (by ((try simp only [List.length_map]); omega)) ?_; intro t9 tk9; (try simp only [List.length_map])))))
local macro_rules | `(tactic| walk_at "pyIter ref") => `(tactic| (k_here; (with_reducible show wpAny _ _ (pyIter (Value.ref _)) (fun it s₂ => LoopAtV _ _ _ _ _ _ _ _ _ it s₂) _ _); (rename Fr _ _ _ _ => lF9); (rename News _ _ _ _ => lN9); (with_unfolding_all refine' my_range [Str.ofString "went", Str.ofString "other", Str.ofString "goes"] (by rfl) (by assumption) (by rfl) (by omega) lF9 lN9 (fun i9 t9 u9 h9 tk9 led9 hi9 hsub9 F9 N9 => ?_) (fun u9 h9 tk9 F9 N9 => ?_)); (all_goals (try clear lF9 lN9)); (try (have mm9 := Mem.mono (Mem.start (by assumption)) hsub9; have hA9 := mm9.a; have hB9 := mm9.b; have hC9 := mm9.c; have hD9 := mm9.d; clear hsub9; obtain ⟨y9, hy9, hyl9, hrl9, hback9, hstay9, hsl9⟩ := get_name (by assumption) (by assumption) (by assumption) (by assumption) hi9)); (all_goals (try dsimp only)); (all_goals (try k_fold))))
local macro_rules | `(tactic| walk_at "pyIter ref") => `(tactic| (k_here; (with_reducible show wpAny _ _ (pyIter (Value.ref _)) (fun it s₂ => LoopAtV _ _ _ _ _ (Str.ofString "other") _ _ _ it s₂) _ _); (with_reducible rename Mem _ _ _ _ _ _ _ _ _ _ => mm9); (rename Fr _ _ _ _ => lF9); (rename News _ _ _ _ => lN9); (with_unfolding_all refine' my_range [Str.ofString "goes"] (by rfl) (by assumption) (by rfl) (by omega) lF9 (my_sub mm9 lN9 (by walk_at "my tails")) (fun i9 t9 u9 h9 tk9 led9 hi9 hsub9 F9 N9 => ?_) (fun u9 h9 tk9 F9 N9 => ?_)); (all_goals (try clear lF9 lN9)); (try (replace mm9 := Mem.mono mm9 hsub9; have hA9 := mm9.a; have hB9 := mm9.b; have hC9 := mm9.c; have hD9 := mm9.d; clear hsub9; obtain ⟨z9, hz9, hzl9, hsrl9, hzback9, hzstay9, hzsl9⟩ := get_name (by assumption) (by assumption) (by assumption) (by assumption) hi9; clear hzback9 hzstay9 hzsl9)); (all_goals (try dsimp only)); (all_goals (try k_fold))))
local macro_rules | `(tactic| walk_at "FPost") => `(tactic| (dsimp only [FPost]))
local macro_rules | `(tactic| walk_at "FEnd") => `(tactic| exact FEnd.intro (by k_asm) (by k_asm) (by walk_at "my tails") (by walk_at "my same"))
local macro_rules | `(tactic| walk_at "subscriptTail") => `(tactic| (k_here; (with_reducible show wpAny _ _ (subscriptTail _ _ (Value.ref _) (Value.int _ _)) _ _ _); k_dflt (first
  | refine item_map_K (by k_asm) (by k_mem) (by assumption) (by omega) (by assumption) ?_
  | refine item_known_K (by k_asm) (by k_mem) (by assumption) (by omega) (by assumption) ?_); intros))
local macro_rules | `(tactic| walk_at "eval BoolOp") => `(tactic| (k_here; (with_reducible show wpAny _ _ (eval (PySem.Expr.BoolOp PySem.BoolOp.Or [PySem.Expr.Compare _ _ _ _, PySem.Expr.Call _ _ _ _] _) _) _ _ _); (fail_if_success (with_reducible show wpAny _ _ _ (JoinB _ _ _ _ _ _) _ _)); k_dflt (refine join_went (by assumption) (by assumption) (by k_asm) (by k_asm) ?_ (fun h9 tk9 F9 N9 => ?_))))
local macro_rules | `(tactic| walk_at "JoinB") => `(tactic| exact joinB_intro (by k_asm) (by k_asm) (by first | exact went_of_eq (by assumption) | exact went_of_bel (by assumption)))
local macro_rules | `(tactic| walk_at "call ref") => `(tactic| (k_here; (with_reducible show wpAny _ _ (call (Value.ref 21) [Value.str _ _]) _ _ _); (with_unfolding_all refine' parents_call ?kB ?kF ?kX ?kN ?kT ?kk ?kd ?ku ?kx ?_; (case kB => k_asm); (case kF => k_asm); (case kX => k_asm); (case kN => k_asm); (case kT => k_asm); (case kk => first | exact rfl | assumption); (case kd => ktr_room); (case ku => ktr_units); (case kx => walk_at "my len"); intro l9 it9 n9 h9 tk9 e9 F9 N9 lt9; (try dsimp only); (try k_fold))))
local macro_rules | `(tactic| walk_at "exec Return some") => `(tactic| ((with_reducible show wpAny _ _ (exec (PySem.Stmt.Return (some (PySem.Expr.Constant (PySem.Const.bool false) _ _)) _) _) _ _ _); exfalso; first | exact dead1 (by assumption) | exact dead2 (by assumption) (by assumption) (by assumption) | exact dead3 (by assumption) (by assumption) | exact dead4 (by assumption) (by assumption) (by assumption) | contradiction))
local macro_rules | `(tactic| walk_at "pyIter ref") => `(tactic| ((with_reducible rename went _ _ = true => hw9); exfalso; exact dead5 hw9 (by assumption)))
theorem rename_right_call {w : World} {dp un : Nat} {gd : Option (List Code)} {cn : Str} {cs : Scope} {L a : Addr} {ccd : Value} {cl : List (Str × Addr)} {outer : List Env} {A₀ : Around} {base h₀ : Heap} {m : Str → Option Value} {news : List (Addr × Obj)} {mean : ExcName → Option Value} {mg mb : Str → Option Value} {s : Shared} {Q E : Value → Shared → Prop}
    {nl : Addr} {vs : List Value} {xs : List Str} {kk : Nat} {o n : Str} {to tn : Tok}
    (B : Below A₀ base outer h₀) (F : Fr h₀ L s.heap m) (X : (hd.heap_39 w.params).In h₀) (N : News h₀ L s.heap news) (T : Top hd.view_39 (looseW hd.view_39 []) mean mg mb h₀) (hk : cs.kind = .function)
    (hd' : dp + 8 < recursionLimit) (hu : un + 60 < cLine)
    (hm : (nl, PySem.W.listOf vs.toArray kk) ∈ news) (hs : StrsAre vs xs) (hxs : xs.length ≤ 8) (hlen : ∀ x ∈ xs, x.length ≤ 300) (ho : o.length ≤ 300) (hn : n.length ≤ 300) (hnd : xs.Nodup) (hfree : ∀ x ∈ xs, went x n = false)
    (hret : ∀ h' tk', Fr h₀ L h' m → News h₀ L h' news → Q (.bool true) { s with heap := h', toks := tk' }) :
    wpAny (model PySem.Challenge.rw_nz0261_01.row.prog w) (ktrTop dp un gd cn cs L a ccd cl outer) (call (.ref 46) [.ref nl, .str o to, .str n tn]) Q E s := by
  w_top off
  revert X; k_fill; intro X
  refine wpAny_call ?_
  k_dflt (refine' code_defC ?k1 ?k2 ?k3 ?k4 ?k5 ?kA ?kF ?kK ?k6 ?k7 ?k8 ?k9 ?kB ?kD ?_ ?c2 ?c3 ?c4; (case kA => exact rfl); (case kF => exact rfl); (case kK => assumption); (case k1 => k_asm); (case k2 => k_asm); (case k3 => k_asm); (case k4 => k_asm); (case k5 => k_asm); (case k6 => k_is); (case k7 => k_is); (case k8 => ktr_room); (case k9 => exact BindsTo.of_eq rfl); (case kB => exact rfl); (case kD => decide +kernel); (case c2 => exact rfl); (case c3 => exact rfl); (case c4 => exact rfl); k_whole; intro g' L' h' tk' cells' FG' F' N' Y' B' X' T' l1; k_cells Y'; (try simp only [List.cons_append, List.nil_append] at N'); (try dsimp only); (try k_lift B'); (try k_fold))
  have hmk : Mark2 o n := .mk
  k_steps
  all_goals exact hret _ _ (by k_asm) (cb_drop (by assumption) (by walk_at "my tails"))
end
end
-- D4
section
open PySem PySem.W PySem.Calls PyProof.Rows
/-- what the law's list of names is, before turn i -/
structure Good (i : Nat) (xs : List Str) : Prop where
  nd : xs.Nodup
  pos : 1 ≤ xs.length
  few : xs.length ≤ 8
  short : ∀ x ∈ xs, x.length ≤ 11 + 14 * i
theorem Good.more {i : Nat} {xs : List Str} (g : Good i xs) : Good (i + 1) xs := ⟨g.nd, g.pos, g.few, fun x hx => Nat.le_trans (g.short x hx) (by omega)⟩
theorem Good.ren {i : Nat} {xs : List Str} {o n : Str} (g : Good i xs) (hfree : ∀ x ∈ xs, went x n = false) (hn : n.length ≤ 14) : Good (i + 1) (xs.map fun x => ren x o n) :=
  ⟨ren_nodup g.nd hfree, by rw [List.length_map]; exact g.pos, by rw [List.length_map]; exact g.few, fun y hy => by
    obtain ⟨x, hx, rfl⟩ := List.mem_map.mp hy
    have := ren_len x o n
    have := g.short x hx
    omega⟩
theorem Good.le300 {i : Nat} {xs : List Str} (g : Good i xs) (hi : i ≤ 8) : ∀ x ∈ xs, x.length ≤ 300 := fun x hx => by
  have := g.short x hx
  omega
theorem merged_len (xs : List Str) : (merged [] (xs.map kv)).length ≤ xs.length := by
  have := keysOf_len xs
  unfold keysOf at this
  rwa [List.length_map] at this
theorem good_start {prog : Program} {w : World} {o : Obj} {xs ys : List Str} {n : Nat} (hd : o.IsDictOf (PySem.strKind prog w) (merged [] (xs.map kv))) (hp : ys.Perm ((merged [] (xs.map kv)).map (·.1))) (hl : xs.length = n) (h1 : 1 ≤ n) (h8 : n ≤ 8) (hs : ∀ x ∈ xs, x.length ≤ 11) : Good 0 ys := by
  have hk : (keysOf xs).Nodup := keysNodup_of_isDictOf hd
  have hp' : ys.Perm (keysOf xs) := hp
  refine ⟨hp'.nodup_iff.mpr hk, ?_, ?_, fun y hy => ?_⟩
  · rw [hp'.length_eq]
    match xs, hl with
    | x :: r, _ => exact List.length_pos_of_mem (keysOf_sup (List.mem_cons_self (a := x) (l := r)))
    | [], hl => simp at hl; omega
  · rw [hp'.length_eq]
    have := keysOf_len xs
    omega
  · have := hs y (keysOf_sub (hp'.mem_iff.mp hy))
    omega
theorem ints_size {us : List Value} {ns : List Int} (hi : IntsAre us ns) (h : ns.length ≤ 8) : us.toArray.size ≤ sizeLine := by
  rw [List.size_toArray, hi.length, PySem.sizeLine_eq]; omega
/-- the end of a turn of the law's loop -/
def LEnd (h₀ : Heap) (L : Addr) (x : Str) (c1 c2 : Addr) (own : List (Addr × Obj)) (m₀ : Str → Option Value) (i : Nat) (s₁ s₂ : Shared) : Prop :=
  ∃ h' tk m' news' nl vs xs k o1 o2 v1 v2, s₂ = { s₁ with heap := h', toks := tk } ∧ Fr h₀ L h' m' ∧ News h₀ L h' news' ∧ (nl, PySem.W.listOf (List.toArray vs) k) ∈ news' ∧ (c1, o1) ∈ news' ∧ (c2, o2) ∈ news' ∧ (∀ p ∈ own, p ∈ news') ∧ o1.data = .cell v1 ∧ o2.data = .cell v2 ∧
    (nl ≠ c1 ∧ nl ≠ c2 ∧ ∀ p ∈ own, p.1 ≠ nl) ∧ m' (Str.ofString "names") = some (.ref nl) ∧ StrsAre vs xs ∧ Good i xs ∧ (∀ z, z ≠ x → z ≠ Str.ofString "names" → m' z = m₀ z)
def LPost (h₀ : Heap) (L : Addr) (x : Str) (c1 c2 : Addr) (own : List (Addr × Obj)) (m₀ : Str → Option Value) (i : Nat) (s₁ : Shared) (Q : Flow → Shared → Prop) (f : Flow) (s₂ : Shared) : Prop :=
  match f with
  | .ret v => Q (.ret v) s₂
  | .brk => Q .next s₂
  | _ => LEnd h₀ L x c1 c2 own m₀ i s₁ s₂
section
variable {prog : Program} {w : World} {A : Around} {E : Value → Shared → Prop} {s : Shared} {env : Env} {h₀ : Heap} {x : Str} {body : List Stmt} {Q : Flow → Shared → Prop}
theorem my_loop {D nl c1 c2 : Addr} {us vs : List Value} {ns : List Int} {xs : List Str} {dk k : Nat} {o1 o2 : Obj} {v1 v2 : Option Value} {m₀ : Str → Option Value} {rest : List (Addr × Obj)}
    (hh : A.handled = none) (F : Fr h₀ env.locals s.heap m₀) (N : News h₀ env.locals s.heap ((D, PySem.W.listOf us.toArray dk) :: rest)) (hnl : (nl, PySem.W.listOf vs.toArray k) ∈ rest) (hc1 : (c1, o1) ∈ rest) (hc2 : (c2, o2) ∈ rest) (hlt : ∀ p ∈ rest, p.1 < D)
    (hi : IntsAre us ns) (h8 : ns.length ≤ 8) (d1 : o1.data = .cell v1) (d2 : o2.data = .cell v2) (hne : nl ≠ c1 ∧ nl ≠ c2 ∧ c1 ≠ c2) (hm : m₀ (Str.ofString "names") = some (.ref nl)) (hs : StrsAre vs xs) (hg : Good 0 xs) (hx : x ≠ Str.ofString "names")
    (turn : ∀ (i : Nat) (n : Int) (t : Tok) (m₁ : Str → Option Value) (nl : Addr) (vs : List Value) (xs : List Str) (k : Nat) (o1 o2 : Obj) (v1 v2 : Option Value) (own : List (Addr × Obj)) (h : Heap) (tk : Nat), i < 8 → m₁ (Str.ofString "names") = some (.ref nl) → StrsAre vs xs → Good i xs → o1.data = .cell v1 → o2.data = .cell v2 → (@Ne Nat nl c1 ∧ @Ne Nat nl c2 ∧ @Ne Nat c1 c2) → OwnOff own [nl, c1, c2] →
      (∀ z, z ≠ x → z ≠ Str.ofString "names" → m₁ z = m₀ z) →
      Fr h₀ env.locals h (fun y => if y = x then some (.int n t) else if y = Str.ofString "names" then some (.ref nl) else m₀ y) → News h₀ env.locals h ((nl, PySem.W.listOf (List.toArray vs) k) :: (c1, o1) :: (c2, o2) :: own) →
      wpAny (model prog w) A (execs body env) (LPost h₀ env.locals x c1 c2 own m₀ (i + 1) { s with heap := h, toks := tk } Q) E { s with heap := h, toks := tk })
    (done : ∀ (m₁ : Str → Option Value) (h : Heap) (tk : Nat), Fr h₀ env.locals h m₁ → Q .next { s with heap := h, toks := tk }) :
    wpAny (model prog w) A (pyIter (.ref D)) (fun it s₂ => LoopAtV prog w A h₀ env x body Q E it s₂) E s := by
  have hD := N _ (.head _)
  have hl : s.heap.IsList D us.toArray := ⟨_, hD.1, rfl, _, rfl⟩
  have hDlt : D < s.heap.objs.size := Heap.lt_size hD.1
  have hDne : D ≠ s.heap.objs.size := Nat.ne_of_lt hDlt
  refine wpAny_pyIter_list hl ?_
  have W := Walks.list (prog := prog) (w := w) hh s.heap.objs.size D hDne us.toArray
  have hlen : us.toArray.size = ns.length := by rw [List.size_toArray, hi.length]
  rw [hlen] at W
  have hIn : ∀ b o, s.heap.get? b = some o → b ≠ s.heap.objs.size := fun b o e => Nat.ne_of_lt (Heap.lt_size e)
  have hr : ∀ p ∈ rest, p.1 ≠ s.heap.objs.size := fun p hp => hIn _ _ (N p (.tail _ hp)).1
  let J : Nat → (Str → Option Value) → List (Addr × Obj) → Prop := fun i m nx => ∃ nl vs xs k o1 o2 v1 v2, nx = [(nl, PySem.W.listOf (List.toArray vs) k), (c1, o1), (c2, o2)] ∧ m (Str.ofString "names") = some (.ref nl) ∧ StrsAre vs xs ∧ Good i xs ∧ o1.data = .cell v1 ∧ o2.data = .cell v2 ∧ (nl ≠ c1 ∧ nl ≠ c2 ∧ c1 ≠ c2) ∧ nl ≠ D ∧ ∀ z, z ≠ x → z ≠ Str.ofString "names" → m z = m₀ z
  refine ⟨_, _, _, ns.length, _, _, m₀, [(nl, PySem.W.listOf vs.toArray k), (c1, o1), (c2, o2)], J, rfl, W, ?_, ?_, ?_, ⟨⟨_, Heap.get?_push_size _ rfl, rfl, rfl⟩, hl.at fun o e => Heap.get?_push_of_some _ e⟩, F.push _, (fun p hp => ?_), ⟨nl, vs, xs, k, o1, o2, v1, v2, rfl, hm, hs, hg, d1, d2, hne, Nat.ne_of_lt (hlt _ hnl), fun _ _ _ => rfl⟩, ?_, ?_⟩
  · intro hmm
    rcases List.mem_cons.mp hmm with e | hmm
    · exact absurd F.ns.lt (e ▸ Nat.lt_irrefl _)
    · exact hD.2.1 (List.mem_singleton.mp hmm).symm
  · intro b hb
    rw [List.mem_singleton.mp hb]
    exact next_is_new F
  · intro p hp hI
    have e := List.mem_singleton.mp hI
    simp only [List.mem_cons, List.not_mem_nil, or_false] at hp
    rcases hp with rfl | rfl | rfl
    · exact hr _ hnl e
    · exact hr _ hc1 e
    · exact hr _ hc2 e
  · have z : p ∈ rest := by
      simp only [List.mem_cons, List.not_mem_nil, or_false] at hp
      rcases hp with rfl | rfl | rfl <;> assumption
    exact ⟨Heap.get?_push_of_some _ (N p (.tail _ z)).1, (N p (.tail _ z)).2⟩
  · rintro i v m₁ nx s₁ own ⟨h, tk, rfl⟩ hin hP ⟨nl, vs, xs, k, o1, o2, v1, v2, rfl, hm1, hs1, hg1, e1, e2, hne1, hnD, hz⟩ hoff hown hget hall hst₁ F₁ N₁
    obtain ⟨n, t, rfl, _⟩ := IntsAre.at hi i v (by simpa using hP)
    have hI : ∀ p ∈ [(nl, PySem.W.listOf (List.toArray vs) k), (c1, o1), (c2, o2)], p.1 ≠ s.heap.objs.size := fun p hp e => hoff p hp (List.mem_singleton.mpr e)
    have hsep : OwnOff own [nl, c1, c2] := by
      intro p hp b hb
      rcases List.mem_cons.mp (hown p hp) with e | e
      · rw [e]
        simp only [List.mem_cons, List.not_mem_nil, or_false] at hb
        rcases hb with rfl | rfl | rfl
        · exact fun q => hI _ (.head _) q.symm
        · exact fun q => hI _ (.tail _ (.head _)) q.symm
        · exact fun q => hI _ (.tail _ (.tail _ (.head _))) q.symm
      · rw [List.mem_singleton.mp e]
        simp only [List.mem_cons, List.not_mem_nil, or_false] at hb
        rcases hb with rfl | rfl | rfl
        · exact fun q => hnD q.symm
        · exact Nat.ne_of_gt (hlt _ hc1)
        · exact Nat.ne_of_gt (hlt _ hc2)
    have e : (fun y => if y = x then some (Value.int n t) else m₁ y) = fun y => if y = x then some (Value.int n t) else if y = Str.ofString "names" then some (.ref nl) else m₀ y := by
      funext y
      by_cases h1 : y = x
      · simp [h1]
      · simp only [if_neg h1]
        by_cases h2 : y = Str.ofString "names"
        · rw [if_pos h2, h2]; exact hm1
        · rw [if_neg h2]; exact hz y h1 h2
    rw [e] at F₁
    refine wpAny_mono (turn i n t m₁ nl vs xs k o1 o2 v1 v2 own h tk (by omega) hm1 hs1 hg1 e1 e2 hne1 hsep hz F₁ (fun p hp => N₁ p ?_)) (fun f s₂ q => ?_) fun _ _ e => e
    · simp only [List.mem_cons, List.mem_append, List.not_mem_nil, or_false] at hp ⊢
      rcases hp with rfl | rfl | rfl | hp
      · exact .inr (.inl rfl)
      · exact .inr (.inr (.inl rfl))
      · exact .inr (.inr (.inr rfl))
      · exact .inl hp
    have fin : LEnd h₀ env.locals x c1 c2 own m₀ (i + 1) { s with heap := h, toks := tk } s₂ → LoopStepU h₀ env.locals [s.heap.objs.size] own (J (i + 1)) { s with heap := h, toks := tk } .next s₂ := by
      rintro ⟨h', tk', m', news', nl', vs', xs', k', o1', o2', v1', v2', e, F', N', a1, a2, a3, a4, b1, b2, ⟨n1, n2, n3⟩, hm', hs', hg', hz'⟩
      have hIown : ∃ o, (s.heap.objs.size, o) ∈ own := by
        obtain ⟨o, ho, _⟩ := hst₁.1
        exact ⟨o, hall _ (.head _) (next_is_new F) o ho⟩
      have hDown : ∃ o, (D, o) ∈ own := by
        obtain ⟨o, ho, _⟩ := hst₁.2
        exact ⟨o, hall _ (.tail _ (.head _)) hD.2.2 o ho⟩
      refine ⟨rfl, h', tk', m', [(nl', PySem.W.listOf vs'.toArray k'), (c1, o1'), (c2, o2')], e, F', fun p hp => ?_, fun p hp hq => ?_, nl', vs', xs', k', o1', o2', v1', v2', rfl, hm', hs', hg', b1, b2, ⟨n1, n2, hne1.2.2⟩, ?_, hz'⟩
      · rcases List.mem_append.mp hp with hp | hp
        · exact N' p (a4 p hp)
        · simp only [List.mem_cons, List.not_mem_nil, or_false] at hp
          rcases hp with rfl | rfl | rfl
          · exact N' _ a1
          · exact N' _ a2
          · exact N' _ a3
      · have e := List.mem_singleton.mp hq
        simp only [List.mem_cons, List.not_mem_nil, or_false] at hp
        rcases hp with rfl | rfl | rfl
        · obtain ⟨o, ho⟩ := hIown
          exact n3 _ ho e.symm
        · exact hr _ hc1 e
        · exact hr _ hc2 e
      · obtain ⟨o, ho⟩ := hDown
        exact fun q => n3 _ ho q.symm
    cases f with
    | ret v => exact .ret q
    | brk => exact .brk q
    | next => exact .next (fin q)
    | cont => exact .cont (fin q)
  · rintro h' tk m' news' F' N' _ _
    exact done m' h' tk F'
end
/-- a fresh list of a few ints, whichever way it came -/
def JoinL (h₀ : Heap) (L : Addr) (m : Str → Option Value) (led : List (Addr × Obj)) (s : Shared) (v : Value) (s' : Shared) : Prop :=
  ∃ D us ns k h' tk, v = .ref D ∧ s' = { s with heap := h', toks := tk } ∧ Fr h₀ L h' m ∧ News h₀ L h' ((D, PySem.W.listOf (List.toArray us) k) :: led) ∧ (∀ p ∈ led, p.1 < D) ∧ IntsAre us ns ∧ 1 ≤ ns.length ∧ ns.length ≤ 8
theorem allLt_mem {d : Addr} : ∀ {l : List (Addr × Obj)}, AllLt d l → ∀ p ∈ l, p.1 < d
  | [], _, _, h => nomatch h
  | _ :: _, h, p, hp => by
    rcases List.mem_cons.mp hp with rfl | hp
    · exact h.1
    · exact allLt_mem h.2 p hp
section
variable {M : Model} {A : Around} {E : Value → Shared → Prop} {s : Shared} {h₀ : Heap} {L : Addr} {m : Str → Option Value} {led : List (Addr × Obj)}
theorem join_ints {t : Sem Value} {Q : Value → Shared → Prop} (F : Fr h₀ L s.heap m) (N : News h₀ L s.heap led) (h1 : wpAny M A t (JoinL h₀ L m led s) E s)
    (h2 : ∀ D us ns k h' tk, Fr h₀ L h' m → News h₀ L h' ((D, PySem.W.listOf (List.toArray us) k) :: led) → (∀ p ∈ led, p.1 < D) → IntsAre us ns → 1 ≤ ns.length → ns.length ≤ 8 → Q (.ref D) { s with heap := h', toks := tk }) : wpAny M A t Q E s :=
  wpAny_mono h1 (fun v s' ⟨D, us, ns, k, h', tk, e1, e2, F', N', l1, hi, a, b⟩ => by subst e1; subst e2; exact h2 D us ns k h' tk F' N' l1 hi a b) fun _ _ e => e
theorem joinL_end {D : Addr} {us : List Value} {ns : List Int} {k : Nat} {rest : List (Addr × Obj)} {h' : Heap} {tk : Nat} (F : Fr h₀ L h' m) (N : News h₀ L h' ((D, PySem.W.listOf us.toArray k) :: rest)) (hsub : ∀ p ∈ led, p ∈ rest) (hlt : AllLt D led)
    (hi : IntsAre us ns) (h1 : 1 ≤ ns.length) (h8 : ns.length ≤ 8) : JoinL h₀ L m led s (.ref D) { s with heap := h', toks := tk } :=
  ⟨D, us, ns, k, h', tk, rfl, rfl, F, fun p hp => by
    rcases List.mem_cons.mp hp with rfl | hp
    · exact N _ (.head _)
    · exact N _ (.tail _ (hsub p hp)), allLt_mem hlt, hi, h1, h8⟩
end
theorem take_pos {ns : List Int} {k : Nat} (h : decide (ns = []) = false) : 1 ≤ (ns.take (k + 1)).length := by
  cases ns with
  | nil => simp at h
  | cons a r => simp
section
variable {prog : Program} {w : World} {A : Around} {h₀ : Heap} {L : Addr} {m : Str → Option Value} {env : Env} {elt : Expr} {x : Str} {scope : Scope} {cl : List (Str × Addr)} {s : Shared} {Fin : List Value → List (Addr × Obj) → Prop} {news : List (Addr × Obj)}
theorem comp_pairs_ints {vs : List Value} {ns : List Int} {ax : Addr} (hs : IntsAre vs ns)
    (turn : ∀ k t I oI C oC D m₂ ys cur h tk (E' : Value → Shared → Prop), (∀ p ∈ news, p ∈ cur) → LCg.NsObj oC m₂ → m₂ x = some (.int k t) → Fr h₀ L h m → News h₀ L h ((I, oI) :: (C, oC) :: (D, LCg.lst ys) :: cur) → LCg.Off3 I C D cur → ((@Ne Nat I C) ∧ (@Ne Nat I D) ∧ (@Ne Nat C D)) → LCg.SrcAt h₀ ax vs.toArray cur →
      wpAny (model prog w) A (eval elt (compEnvC scope cl C env)) (LCg.CompEnd h₀ L m { s with heap := h, toks := tk } I oI C oC D (LCg.lst ys) (LCg.SrcAt h₀ ax vs.toArray) (ElP cur (fun r => r.length ≤ 11))) E' { s with heap := h, toks := tk })
    (hS₀ : LCg.SrcAt h₀ ax vs.toArray news)
    (fin : ∀ ys xs cur, PairsIn cur ys xs → (∀ p ∈ news, p ∈ cur) → xs.length = ns.length → (∀ x ∈ xs, x.length ≤ 11) → Fin ys cur) : LCg.CompRest prog w A h₀ L m env elt x scope cl s (LCg.SrcAt h₀ ax vs.toArray) (fun i v => vs.toArray[i]? = some v) Fin vs.toArray.size 0 [] news := by
  refine comp_pairs (fun _ r => r.length ≤ 11) ?_ hS₀ ?_
  · intro i v I oI C oC D m₂ ys cur h tk E' hi hv hc hC hx F N off ne hS
    obtain ⟨k, t, rfl, hk⟩ := IntsAre.at hs i v (by simpa using hv)
    exact turn k t I oI C oC D m₂ ys cur h tk E' hc hC hx F N off ne hS
  · intro ys zs cur hp hc hl hG
    refine fin ys zs cur hp hc (by rw [hl, List.size_toArray, hs.length]) fun z hz => ?_
    obtain ⟨i, hi, rfl⟩ := List.getElem_of_mem hz
    exact hG i _ (List.getElem?_eq_getElem hi)
end
section
variable {h₀ : Heap} {L : Addr} {prog : Program} {w : World} {A : Around} {E : Value → Shared → Prop} {s : Shared} {news : List (Addr × Obj)}
theorem item_mod_K {value slice : Expr} {l : Addr} {vs : List Value} {xs : List Str} {k : Nat} {z : Int} {u : Tok} {Q : Value → Shared → Prop} (N : News h₀ L s.heap news) (hm : (l, PySem.W.listOf vs.toArray k) ∈ news) (hs : StrsAre vs xs) (hpos : 1 ≤ xs.length) (hsz : xs.length ≤ 8) (hl : ∀ x ∈ xs, x.length ≤ 300)
    (h : ∀ y t, y ∈ xs → y.length ≤ 300 → Q (.str y t) s)
    (hsub : ∀ i : Int, subscripted slice false (.ref l) (.int i u) = operate [.ref l, .int i u] (getItem (.ref l) (.int i u)) := by intro _; with_unfolding_all rfl) (hg : ∀ r, letTemporaryGo value (.ref l) r = pure () := by intro _; with_unfolding_all rfl) :
    wpAny (model prog w) A (subscriptTail value slice (.ref l) (.int (z.fmod (xs.length : Int)) u)) Q E s := by
  have h0 : 0 ≤ z.fmod (xs.length : Int) := Int.fmod_nonneg_of_pos z (by omega)
  have h1 : z.fmod (xs.length : Int) < (xs.length : Int) := Int.fmod_lt_of_pos z (by omega)
  exact item_strs_K N hm hs (by omega) h0 h1 (fun y t _ hy => h y t hy (hl y hy)) (hsub _) hg
end
theorem my_ne {led : List (Addr × Obj)} {D c1 c2 : Addr} {o1 o2 : Obj} (h : ∀ q ∈ led, q.1 < D) (h1 : (c1, o1) ∈ led) (h2 : (c2, o2) ∈ led) (h3 : c1 ≠ c2) : D ≠ c1 ∧ D ≠ c2 ∧ c1 ≠ c2 := ⟨Nat.ne_of_gt (h _ h1), Nat.ne_of_gt (h _ h2), h3⟩
theorem off1_mem {D : Addr} : ∀ {l : List (Addr × Obj)}, LCg.Off1 D l → ∀ p ∈ l, p.1 ≠ D
  | [], _, _, h => nomatch h
  | _ :: _, h, p, hp => by
    rcases List.mem_cons.mp hp with rfl | hp
    · exact h.1
    · exact off1_mem h.2 p hp
theorem lend_intro {h₀ : Heap} {L : Addr} {x : Str} {c1 c2 nl : Addr} {own news' : List (Addr × Obj)} {m₀ m' : Str → Option Value} {i : Nat} {s₁ : Shared} {h' : Heap} {tk : Nat} {vs : List Value} {xs : List Str} {k : Nat} {o1 o2 : Obj} {v1 v2 : Option Value}
    (F : Fr h₀ L h' m') (N : News h₀ L h' news') (a1 : (nl, PySem.W.listOf vs.toArray k) ∈ news') (a2 : (c1, o1) ∈ news') (a3 : (c2, o2) ∈ news') (a4 : ∀ p ∈ own, p ∈ news') (b1 : o1.data = .cell v1) (b2 : o2.data = .cell v2) (n1 : nl ≠ c1) (n2 : nl ≠ c2) (n3 : ∀ p ∈ own, p.1 ≠ nl)
    (hm : m' (Str.ofString "names") = some (.ref nl)) (hs : StrsAre vs xs) (hg : Good i xs) (hz : ∀ z, z ≠ x → z ≠ Str.ofString "names" → m' z = m₀ z) : LEnd h₀ L x c1 c2 own m₀ i s₁ { s₁ with heap := h', toks := tk } :=
  ⟨h', tk, m', news', nl, vs, xs, k, o1, o2, v1, v2, rfl, F, N, a1, a2, a3, a4, b1, b2, ⟨n1, n2, n3⟩, hm, hs, hg, hz⟩
theorem went_eq {y n : Str} (h : (y == n) = true) : went y n = true := by unfold went; rw [h]; rfl
theorem went_bel {y n : Str} (h : bel y n = true) : went y n = true := by unfold went; rw [h]; simp
theorem went_no {y n : Str} (h1 : (y == n) = false) (h2 : bel y n = false) : went y n = false := by unfold went; rw [h1, h2]; rfl
theorem digit_len (z : Int) : (Str.ofString (toString (z.fmod 9))).length = 1 := by
  have h0 := Int.fmod_nonneg_of_pos z (b := 9) (by decide)
  have h1 := Int.fmod_lt_of_pos z (b := 9) (by decide)
  generalize z.fmod 9 = r at h0 h1 ⊢
  have : r = 0 ∨ r = 1 ∨ r = 2 ∨ r = 3 ∨ r = 4 ∨ r = 5 ∨ r = 6 ∨ r = 7 ∨ r = 8 := by omega
  rcases this with rfl | rfl | rfl | rfl | rfl | rfl | rfl | rfl | rfl <;> decide +kernel
theorem new_fact {o : Obj} {z : Int} {x y : Str} {xs : List Str} {t : Tok} (h : o.data = .cell (some (.str (Str.ofString "z" ++ Str.ofString (toString (z.fmod 9)) ++ Str.ofString "/" ++ x) t))) (hx : x.length ≤ 11) (_hy : y ∈ xs) :
    ∃ n : Str, n.length ≤ 14 ∧ Mark2 y n ∧ o.data = .cell (some (.str n t)) := by
  refine ⟨_, ?_, .mk, h⟩
  have h1 := digit_len z
  have h2 : (Str.ofString "z").length = 1 := by decide
  have h3 : (Str.ofString "/").length = 1 := by decide
  rw [Str.length_append, Str.length_append, Str.length_append, h1, h2, h3]
  omega
theorem filter_none {xs : List Str} {n : Str} (h : xs.filter (fun y => went y n) = []) : ∀ x ∈ xs, went x n = false := fun x hx => by
  have := List.filter_eq_nil_iff.mp h x hx
  simpa using this
section
variable {prog : Program} {w : World} {A : Around} {h₀ : Heap} {L : Addr} {m : Str → Option Value} {env : Env} {ct elt : Expr} {x : Str} {scope : Scope} {cl : List (Str × Addr)} {s : Shared} {Fin : List Value → List (Addr × Obj) → Prop} {news : List (Addr × Obj)}
/-- the same by an invariant where the comprehension has a test -/
theorem comp_invT {S : List (Addr × Obj) → Prop} {P : Nat → Value → Prop} {n : Nat} (J : Nat → List Value → List (Addr × Obj) → Prop)
    (turn : ∀ i ys cur, i < n → J i ys cur → ∀ v I oI C oC D m₂ h tk (E' : Value → Shared → Prop), P i v → LCg.NsObj oC m₂ → m₂ x = some v → Fr h₀ L h m → News h₀ L h ((I, oI) :: (C, oC) :: (D, LCg.lst ys) :: cur) → LCg.Off3 I C D cur → ((@Ne Nat I C) ∧ (@Ne Nat I D) ∧ (@Ne Nat C D)) →
      wpAny (model prog w) A (isTrue ct (compEnvC scope cl C env) (eval ct (compEnvC scope cl C env))) (fun ok s' => if ok = true then
        wpAny (model prog w) A (eval elt (compEnvC scope cl C env)) (LCg.CompEnd h₀ L m { s with heap := h, toks := tk } I oI C oC D (LCg.lst ys) S (fun y => J (i + 1) (ys ++ [y]))) E' s'
        else LCg.CompEnd h₀ L m { s with heap := h, toks := tk } I oI C oC D (LCg.lst ys) S (fun _ => J (i + 1) ys) Value.none s') E' { s with heap := h, toks := tk })
    (fin : ∀ ys cur, J n ys cur → Fin ys cur) : ∀ (j i : Nat) (ys : List Value) (cur : List (Addr × Obj)), j + i = n → J i ys cur → LCt.CompRestT prog w A h₀ L m env ct elt x scope cl s S P Fin j i ys cur
  | 0, i, ys, cur, e, q => LCt.CompRestT.zero (fin ys cur (by rw [← e, Nat.zero_add]; exact q))
  | j + 1, i, ys, cur, e, q => LCt.CompRestT.succ fun v I oI C oC D m₂ h tk E' p1 p2 p3 p4 p5 p6 p7 =>
      have on := fun ys' cur' r => comp_invT J turn fin j (i + 1) ys' cur' (by omega) r
      wpAny_mono (turn i ys cur (by omega) q v I oI C oC D m₂ h tk E' p1 p2 p3 p4 p5 p6 p7) (fun ok s₂ z => by
        cases ok
        · rw [if_neg Bool.false_ne_true] at z ⊢
          exact end_mono z fun cur' _ => on ys cur'
        · rw [if_pos rfl] at z ⊢
          exact wpAny_mono z (fun y _ z => end_mono z fun cur' _ => on (ys ++ [y]) cur') fun _ _ z => z) fun _ _ z => z
theorem filter_snoc {xs : List Str} {i : Nat} {y : Str} (p : Str → Bool) (h : xs[i]? = some y) : (xs.take (i + 1)).filter p = (xs.take i).filter p ++ if p y = true then [y] else [] := by
  rw [List.take_add_one, h, List.filter_append]
  cases e : p y <;> simp [e]
theorem comp_filter {vs : List Value} {xs : List Str} {ax : Addr} {o n : Str} (_mk : Mark2 o n) (hs : StrsAre vs xs)
    (turn : ∀ y ty I oI C oC D m₂ ys h tk (E' : Value → Shared → Prop), y ∈ xs → LCg.NsObj oC m₂ → m₂ x = some (.str y ty) → Fr h₀ L h m → News h₀ L h ((I, oI) :: (C, oC) :: (D, LCg.lst ys) :: news) → LCg.Off3 I C D news → ((@Ne Nat I C) ∧ (@Ne Nat I D) ∧ (@Ne Nat C D)) → LCg.SrcAt h₀ ax vs.toArray news →
      wpAny (model prog w) A (isTrue ct (compEnvC scope cl C env) (eval ct (compEnvC scope cl C env))) (fun ok s' => if ok = true then
        wpAny (model prog w) A (eval elt (compEnvC scope cl C env)) (LCg.CompEnd h₀ L m { s with heap := h, toks := tk } I oI C oC D (LCg.lst ys) (LCg.SrcAt h₀ ax vs.toArray) (ElS news (fun r => r = y ∧ went y n = true))) E' s'
        else LCg.CompEnd h₀ L m { s with heap := h, toks := tk } I oI C oC D (LCg.lst ys) (LCg.SrcAt h₀ ax vs.toArray) (fun _ news' => news' = news ∧ went y n = false) Value.none s') E' { s with heap := h, toks := tk })
    (hS₀ : LCg.SrcAt h₀ ax vs.toArray news)
    (fin : ∀ ys, StrsAre ys (xs.filter fun y => went y n) → Fin ys news) : LCt.CompRestT prog w A h₀ L m env ct elt x scope cl s (LCg.SrcAt h₀ ax vs.toArray) (fun i v => vs.toArray[i]? = some v) Fin vs.toArray.size 0 [] news :=
  comp_invT (fun i ys cur => cur = news ∧ StrsAre ys ((xs.take i).filter fun y => went y n))
    (fun i ys cur hi ⟨e, hy⟩ v I oI C oC D m₂ h tk E' p1 p2 p3 p4 p5 p6 p7 => by
      obtain ⟨y, ty, hx, hm, rfl⟩ := strs_mem hs p1
      rw [e] at p5 p6
      rw [filter_snoc _ hx]
      refine wpAny_mono (turn y ty I oI C oC D m₂ ys h tk E' hm p2 p3 p4 p5 p6 p7 hS₀) (fun ok s₂ z => ?_) fun _ _ z => z
      cases ok
      · rw [if_neg Bool.false_ne_true] at z ⊢
        exact end_mono z fun _ _ ⟨e, hw⟩ => ⟨e, by simpa [hw] using hy⟩
      · rw [if_pos rfl] at z ⊢
        exact wpAny_mono z (fun _ _ z => end_mono z fun _ _ ⟨e, r, t, er, ey, hw⟩ => ⟨e, by rw [if_pos hw, er, ey]; exact kct_snoc hy⟩) fun _ _ z => z)
    (fun ys cur ⟨e, hy⟩ => e ▸ fin ys (by rwa [List.take_of_length_le (by rw [List.size_toArray, hs.length]; exact Nat.le_refl _)] at hy)) _ 0 [] news (Nat.add_zero _) ⟨rfl, .nil⟩
theorem comp_skip {y n : Str} {S : List (Addr × Obj) → Prop} {s₁ : Shared} {I C D : Addr} {oI oC oD : Obj} {h' : Heap} {tk : Nat} (F : Fr h₀ L h' m) (N : News h₀ L h' ((I, oI) :: (C, oC) :: (D, oD) :: news)) (off : LCg.Off3 I C D news) (hS : S news) (hw : went y n = false) :
    LCg.CompEnd h₀ L m s₁ I oI C oC D oD S (fun _ news' => news' = news ∧ went y n = false) Value.none { s₁ with heap := h', toks := tk } := LCg.CompEnd.intro F N news (fun p hp => hp) off hS ⟨rfl, hw⟩
end
theorem ne_nil_K {prog : Program} {w : World} {A : Around} {E : Value → Shared → Prop} {s : Shared} {a b : Addr} {vs : List Value} {xs : List Str} {Q : Value → Shared → Prop} (hs : StrsAre vs xs) (hl : s.heap.IsList a vs.toArray) (hb : s.heap.IsList b #[]) (hu : A.units < cLine)
    (h1 : xs ≠ [] → Q (.bool true) s) (h2 : xs = [] → Q (.bool false) s) : wpAny (model prog w) A (compareOp .NotEq (.ref a) (.ref b)) Q E s := by
  by_cases hx : xs = []
  · have hv : vs = [] := List.length_eq_zero_iff.mp (by rw [hs.length, hx]; rfl)
    subst hv
    exact PySem.SeqAt.RcNeAt.lists (e := fun _ => true) hl hb rfl hu (fun j h1 => absurd h1 (Nat.not_lt_zero _)) prog w E Q (h2 hx)
  · refine PySem.SeqAt.RcNeAt.lists_lengths hl hb ?_ hu prog w E Q (h1 hx)
    have : vs.length ≠ 0 := by rw [hs.length]; exact fun e => hx (List.length_eq_zero_iff.mp e)
    simpa using this
theorem ne_filter_K {prog : Program} {w : World} {A : Around} {E : Value → Shared → Prop} {s : Shared} {a b : Addr} {vs : List Value} {xs : List Str} {n : Str} {Q : Value → Shared → Prop} (hs : StrsAre vs (xs.filter fun y => went y n)) (hl : s.heap.IsList a vs.toArray) (hb : s.heap.IsList b #[]) (hu : A.units < cLine)
    (h1 : Q (.bool true) s) (h2 : (∀ x ∈ xs, went x n = false) → Q (.bool false) s) : wpAny (model prog w) A (compareOp .NotEq (.ref a) (.ref b)) Q E s :=
  ne_nil_K hs hl hb hu (fun _ => h1) fun h => h2 (filter_none h)
theorem and1 {a b : Prop} (h : a ∧ b) : b := h.2
theorem and2 {a b c : Prop} (h : a ∧ b ∧ c) : c := h.2.2
theorem and3 {a b c d : Prop} (h : a ∧ b ∧ c ∧ d) : d := h.2.2.2
theorem and4 {a b c d e : Prop} (h : a ∧ b ∧ c ∧ d ∧ e) : e := h.2.2.2.2
theorem and5 {a b c d e f : Prop} (h : a ∧ b ∧ c ∧ d ∧ e ∧ f) : f := h.2.2.2.2.2
theorem and6 {a b c d e f g : Prop} (h : a ∧ b ∧ c ∧ d ∧ e ∧ f ∧ g) : g := h.2.2.2.2.2.2
end
section
open PySem PySem.W PySem.Calls PyProof.Rows
local macro_rules | `(tactic| walk_at "my tails") => `(tactic| (intro p hp; repeat (first | exact hp | refine List.mem_cons_of_mem _ ?_)))
local macro_rules | `(tactic| walk_at "my same") => `(tactic| (intro z h2 h3; (simp only [List.contains_cons, List.contains_nil, Bool.or_false, Bool.or_eq_false_iff, beq_eq_false_iff_ne, ne_eq] at h3); (simp [h2, h3]; done)))
local macro_rules | `(tactic| walk_at "my len") => `(tactic| first | omega | (exact Nat.le_trans ((by assumption : ∀ x ∈ _, Str.length x ≤ 300) _ (by assumption)) (by decide)))
local macro_rules | `(tactic| k_mem) => `(tactic| assumption)
local macro_rules | `(tactic| walk_at "eval ListComp") => `(tactic| (k_here; k_dflt (refine LCg.ListComp_U (F₀ := by k_asm) (by with_unfolding_all rfl) (by decide) (by rfl) (by decide) (by rfl) ?_)))
local macro_rules | `(tactic| walk_at "exec Assign cons ListComp") => `(tactic| (k_here; k_dflt (refine LCg.Assign_ListComp_U (F₀ := by k_asm) (by rfl) (by with_unfolding_all rfl) (by with_unfolding_all rfl) (by decide) (by rfl) (by decide) (by rfl) (by rfl) (by rfl) ?_)))
local macro_rules | `(tactic| walk_at "eval IfExp") => `(tactic| (k_here; (fail_if_success (with_reducible show wpAny _ _ _ (JoinL _ _ _ _ _) _ _)); k_dflt (refine join_ints (by k_asm) (by k_asm) ?_ (fun D9 us9 ns9 k9 h9 tk9 F9 N9 l9 hi9 h19 h89 => ?_))))
local macro_rules | `(tactic| walk_at "JoinL") => `(tactic| exact joinL_end (by k_asm) (by k_asm) (by walk_at "my tails") (by ((simp only [AllLt, and_true]); omega)) (by first | assumption | l_intsW) (by first | exact take_pos (by assumption) | decide) (by first | ((simp only [List.length_take]); omega) | decide))
local macro_rules | `(tactic| walk_at "CompSrc") => `(tactic| (k_here; (with_reducible show LCg.CompSrc _ _ _ _ _ _ _ (PySem.Expr.Tuple _ _ _) _ _ _ _ _ _); (with_reducible rename IntsAre _ _ => hi9); k_dflt (refine LCg.CompSrc.ledger (by rfl) (by k_asm) (by k_asm) (by k_mem) (ints_size hi9 (by assumption)) ?_; intro g'; (refine' comp_pairs_ints hi9 (fun k' t' I' oI' C' oC' D' m' ys' cur' h' tk' E' hc' hC' hx' F' N' off' ne' hS' => ?_) (Or.inr ⟨_, by k_mem, rfl, _, rfl⟩) (fun ys' xs' cur' hp' hc' hl' hx' => ?_)))))
local macro_rules | `(tactic| walk_at "CompEnd") => `(tactic| exact compP_endK (by k_asm) (by k_asm) (by assumption) (by assumption) (fun _ => srcAt_cons (by assumption)) (by assumption))
local macro_rules | `(tactic| walk_at "call type:dict") => `(tactic| (k_here; (with_reducible show wpAny _ _ (call (Value.type "dict") [Value.ref _]) _ _ _); k_dflt (refine dict_pairs_K (by rfl) (by k_asm) (by k_asm) (Top.nolimit (by k_asm)) (by assumption) (by assumption) (by omega) ?_); intro d9 o9 h9 tk9 F9 N9 l9 lo9 hd9))
local macro_rules | `(tactic| walk_at "call builtin:sorted") => `(tactic| (k_here; (with_reducible show wpAny _ _ (call (Value.builtin "sorted") [Value.ref _]) _ _ _); k_dflt (refine sorted_dict_K (by rfl) (by k_asm) (by k_asm) (by k_mem) (by assumption) (by assumption) (Nat.lt_of_le_of_lt (merged_len _) (by omega)) ?_); intro D9 h9 tk9 vs9 xs9 n9 F9 N9 l9 hs9 hp9; (have hg9 := good_start (by assumption) hp9 (by assumption) (by assumption) (by assumption) (by assumption))))
local macro_rules | `(tactic| walk_at "call ref") => `(tactic| (k_here; (with_reducible show wpAny _ _ (call (Value.ref 41) [Value.int _ _]) _ _ _); (with_unfolding_all refine' law_name_call ?kB ?kF ?kX ?kN ?kT ?kk ?kd ?ku ?_; (case kB => k_asm); (case kF => k_asm); (case kX => k_asm); (case kN => k_asm); (case kT => k_asm); (case kk => first | exact rfl | assumption); (case kd => ktr_room); (case ku => ktr_units); intro x9 t9 h9 tk9 hx9 F9 N9; (try dsimp only); (try k_fold))))
local macro_rules | `(tactic| walk_at "pyIter ref") => `(tactic| (k_here; (with_reducible show wpAny _ _ (pyIter (Value.ref _)) (fun it s₂ => LoopAtV _ _ _ _ _ (Str.ofString "cell") _ _ _ it s₂) _ _); (rename Fr _ _ _ _ => lF9); (rename News _ _ _ _ => lN9); (with_unfolding_all refine' my_loop (by rfl) lF9 lN9 ?k1 ?k2 ?k3 (by assumption) (by assumption) (by assumption) ?k4 ?k5 ?k6 (by rfl) (by assumption) (by assumption) (by decide) (fun i9 n9 t9 m9 nl9 vs9 xs9 k9 o91 o92 v91 v92 own9 h9 tk9 hi9 hm9 hs9 hg9 hd91 hd92 hne9 hoff9 hz9 F9 N9 => ?_) (fun m9 h9 tk9 F9 => ?_)); (case k1 => exact .head _); (case k2 => exact .tail _ (.tail _ (.tail _ (.head _)))); (case k3 => exact .tail _ (.tail _ (.tail _ (.tail _ (.head _))))); (case k4 => assumption); (case k5 => assumption); (case k6 => exact my_ne (by assumption) (by k_mem) (by k_mem) (by k_ne)); (all_goals (try clear lF9 lN9)); (try (have hp9 := hg9.pos; have hf9 := hg9.few; have h39 := hg9.le300 (by omega))); (all_goals (try dsimp only)); (all_goals (try k_fold))))
local macro_rules | `(tactic| walk_at "call builtin:len") => `(tactic| (k_here; (with_reducible show wpAny _ _ (call (Value.builtin "len") [Value.ref _]) _ _ _); k_dflt (refine len_strs_K (by k_asm) (by k_mem) (by assumption) (by omega) ?_; intro t9 tk9)))
local macro_rules | `(tactic| walk_at "subscriptTail") => `(tactic| (k_here; (with_reducible show wpAny _ _ (subscriptTail _ _ (Value.ref _) (Value.int (Int.fmod _ _) _)) _ _ _); k_dflt (refine item_mod_K (by k_asm) (by k_mem) (by assumption) (by assumption) (by assumption) (by assumption) ?_); intro y9 t9 hy9 hyl9))
local macro_rules | `(tactic| walk_at "exec If") => `(tactic| (with_reducible rename (_ = Data.cell (some (Value.str (_ ++ _ ++ _ ++ _) _))) => hd9; obtain ⟨n9, hn9, mk9, hd9'⟩ := new_fact hd9 (by assumption) (by assumption); clear hd9; walk_at "exec If"))
local macro_rules | `(tactic| walk_at "eval ListComp") => `(tactic| (k_here; lct_look; k_dflt (refine LCt.ListComp_T (F₀ := by k_asm) (by with_unfolding_all rfl) (by decide) (by rfl) (by decide) (by rfl) ?_)))
local macro_rules | `(tactic| walk_at "CompSrcT") => `(tactic| (k_here; k_dflt (refine LCt.CompSrcT.ledger (by rfl) (by k_asm) (by k_asm) (by k_mem) ?ks ?_; (case ks => exact src_size (by assumption) (by omega)); intro g'; (with_reducible rename StrsAre _ _ => hs9); (refine' comp_filter (by assumption) hs9 (fun y' ty' I' oI' C' oC' D' m' ys' h' tk' E' hy' hC' hx' F' N' off' ne' hS' => ?_) (Or.inr ⟨_, by k_mem, rfl, _, rfl⟩) (fun ys' hs' => ?_)))))
local macro_rules | `(tactic| walk_at "CompSrc") => `(tactic| (k_here; (with_reducible show LCg.CompSrc _ _ _ _ _ _ _ (PySem.Expr.Call _ _ _ _) _ _ _ _ _ _); (with_reducible rename Mark2 _ _ => mk9); k_dflt (refine LCg.CompSrc.ledger (by rfl) (by k_asm) (by k_asm) (by k_mem) ?ks ?_; (case ks => exact src_size (by assumption) (by omega)); intro g'; (with_reducible rename StrsAre _ _ => hs9); (refine' comp_ren mk9 hs9 (fun y' ty' I' oI' C' oC' D' m' ys' h' tk' E' hy' hC' hx' F' N' off' ne' hS' => ?_) (Or.inr ⟨_, by k_mem, rfl, _, rfl⟩) (fun ys' hs' => ?_)))))
local macro_rules | `(tactic| walk_at "CompEnd") => `(tactic| exact comp_end (by k_asm) (by k_asm) (by assumption) (by assumption) rfl)
local macro_rules | `(tactic| walk_at "CompEnd") => `(tactic| exact comp_end (by k_asm) (by k_asm) (by assumption) (by assumption) ⟨rfl, by first | exact went_eq (by assumption) | exact went_bel (by assumption)⟩)
local macro_rules | `(tactic| walk_at "CompEnd") => `(tactic| exact comp_skip (by k_asm) (by k_asm) (by assumption) (by assumption) (went_no (by assumption) (by assumption)))
local macro_rules | `(tactic| walk_at "call ref") => `(tactic| (k_here; (with_reducible show wpAny _ _ (call (Value.ref 28) [Value.str _ _, Value.str _ _]) _ _ _); (with_unfolding_all refine' is_below_call ?kB ?kF ?kX ?kN ?kT ?kk ?kd ?ku ?kx ?ky ?_; (case kB => k_asm); (case kF => k_asm); (case kX => k_asm); (case kN => k_asm); (case kT => k_asm); (case kk => first | exact rfl | assumption); (case kd => ktr_room); (case ku => ktr_units); (case kx => walk_at "my len"); (case ky => walk_at "my len"); intro h9 tk9 F9 N9; (try dsimp only); (try k_fold))))
local macro_rules | `(tactic| walk_at "call ref") => `(tactic| (k_here; (with_reducible show wpAny _ _ (call (Value.ref 35) [Value.str _ _, Value.str _ _, Value.str _ _]) _ _ _); (with_unfolding_all refine' renamed_call ?kB ?kF ?kX ?kN ?kT ?kk ?kd ?ku ?kx ?ky ?kz ?_; (case kB => k_asm); (case kF => k_asm); (case kX => k_asm); (case kN => k_asm); (case kT => k_asm); (case kk => first | exact rfl | assumption); (case kd => ktr_room); (case ku => ktr_units); (case kx => walk_at "my len"); (case ky => walk_at "my len"); (case kz => walk_at "my len"); intro t9 h9 tk9 F9 N9; (try dsimp only); (try k_fold))))
local macro_rules | `(tactic| walk_at "call ref") => `(tactic| (k_here; (with_reducible show wpAny _ _ (call (Value.ref 46) [Value.ref _, Value.str _ _, Value.str _ _]) _ _ _); (with_reducible rename Good _ _ => hg9); (with_unfolding_all refine' rename_right_call ?kB ?kF ?kX ?kN ?kT ?kk ?kd ?ku ?km (by assumption) hg9.few (by assumption) ?kx ?ky hg9.nd (by assumption) ?_; (case kB => k_asm); (case kF => k_asm); (case kX => k_asm); (case kN => k_asm); (case kT => k_asm); (case kk => first | exact rfl | assumption); (case kd => ktr_room); (case ku => ktr_units); (case km => k_mem); (case kx => walk_at "my len"); (case ky => walk_at "my len"); intro h9 tk9 F9 N9; (try dsimp only); (try k_fold))))
local macro_rules | `(tactic| walk_at "LPost") => `(tactic| (dsimp only [LPost]))
local macro_rules | `(tactic| walk_at "compareOp NotEq ref ref") => `(tactic| (k_here; (with_reducible show wpAny _ _ (compareOp CmpOp.NotEq (Value.ref _) (Value.ref _)) _ _ _); (with_reducible rename StrsAre _ (List.filter _ _) => hs9); k_dflt (refine ne_filter_K hs9 (by is_list) (by is_list) (by units_room) ?_ (fun hf9 => ?_)); (all_goals (try clear hs9))))
local macro_rules | `(tactic| walk_at "LEnd") => `(tactic| ((with_reducible rename OwnOff _ _ => hoff9); (with_reducible rename Good _ _ => hg9); (with_unfolding_all refine' lend_intro (by k_asm) (by k_asm) ?a1 ?a2 ?a3 (by walk_at "my tails") ?b1 ?b2 ?n1 ?n2 ?n3 ?hm ?hs ?hg ?hz); (case hm => first | exact if_pos rfl | exact (if_neg (by decide)).trans (if_pos rfl)); (case a1 => k_mem); (case hs => assumption); (case a2 => k_mem); (case a3 => k_mem); (case b1 => assumption); (case b2 => assumption); (case n1 => k_ne); (case n2 => k_ne); (case n3 => first | exact hoff9.ne (.head _) | (refine off1_mem ?_; first | assumption | exact and1 (by assumption) | exact and2 (by assumption) | exact and3 (by assumption) | exact and4 (by assumption) | exact and5 (by assumption) | exact and6 (by assumption))); (case hg => first | exact hg9.more | exact hg9.ren (by assumption) (by assumption)); (case hz => intro z h1 h2; simp [h1, h2])))
theorem whole : PySem.Challenge.rw_nz0261_01.Holds := hd (by
  w_top off
  w_strict (k_go0; (all_goals try k_fold))
  k_steps)
end
end Mine
theorem PySem.Challenge.cw_nz0261_01_holds : PySem.Challenge.rw_nz0261_01.Holds :=
  Mine.whole
