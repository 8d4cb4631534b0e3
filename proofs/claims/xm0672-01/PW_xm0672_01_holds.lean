import PyProof.Rows.All
import Wide.All
import OpenK.AllK
import Wide.FinOn
import PySem.Challenge.RW_xm0672_01
open PySem PySem.W PyProof.Rows
set_option Elab.async false
set_option maxRecDepth 100000
set_option maxHeartbeats 8000000
namespace Mine
section
local macro_rules | `(tactic| refine $_:term) => `(tactic| assumption)
theorem k0 : PySem.Challenge.rw_xm0672_01.row.Holds → PySem.Challenge.rw_xm0672_01.row.Holds := by
  intro h
  k_head
end
abbrev Led := List (Addr × Obj)

def Ctr (w : World) (f : Addr) (dep : Nat) (led : Led) (vs : List Value) (Post : Value → Led → Prop) : Prop :=
  ∀ (mean : ExcName → Option Value) (mg mb : Str → Option Value) (dp un : Nat) (gd : Option (List Code)) (cn : Str) (cs : Scope) (a : Addr) (ccd : Value) (cl : List (Str × Addr)) (outer : List Env) (A₀ : Around) (base h₀ : Heap) (L : Addr) (m : Str → Option Value) (s : Shared) (Q E : Value → Shared → Prop),
    Below A₀ base outer h₀ → Fr h₀ L s.heap m → (k0.heap_1 w.params).In h₀ → News h₀ L s.heap led →
    Top k0.view_1 (looseW k0.view_1 [Str.ofString "MOST", Str.ofString "number_of", Str.ofString "write_number"]) mean mg mb h₀ → cs.kind = .function →
    dp + dep < recursionLimit → un + 8 * dep < cLine →
    (∀ (r : Value) (led' : Led) (h' : Heap) (tk' : Nat), Post r led' → Fr h₀ L h' m → News h₀ L h' led' → Q r { s with heap := h', toks := tk' }) →
    wpAny (model PySem.Challenge.rw_xm0672_01.row.prog w) (ktrTop dp un gd cn cs L a ccd cl outer) (call (.ref f) vs) Q E s

def sgn (x : Int) : Int := if 0 < x then 1 else if x < 0 then -1 else 0
theorem sgn_pos {x : Int} (h : 0 < x) : sgn x = 1 := by unfold sgn; rw [if_pos h]
theorem sgn_neg {x : Int} (h : ¬ 0 < x) (h2 : x < 0) : sgn x = -1 := by unfold sgn; rw [if_neg h, if_pos h2]
theorem sgn_zero {x : Int} (h : ¬ 0 < x) (h2 : ¬ x < 0) : sgn x = 0 := by unfold sgn; rw [if_neg h, if_neg h2]
local macro_rules | `(tactic| walk_at $s:str) => do
  let k := s.getString
  if k.startsWith "subscriptTail " then `(tactic| first | k_extra $(Lean.Syntax.mkStrLit ("@" ++ k)) | k_extra "@subscriptTail") else `(tactic| k_extra $(Lean.Syntax.mkStrLit ("@" ++ k)))
local macro_rules | `(tactic| k_all) => `(tactic| k_extra "k_all")
local macro_rules | `(tactic| k_mem) => `(tactic| k_extra "k_mem")
local macro_rules | `(tactic| k_ne) => `(tactic| k_extra "k_ne")
local macro_rules | `(tactic| mul_fits) => `(tactic| k_extra "mul_fits")
section
theorem words_1001 : True := by
  k_with_none
  (k_with "@my enter" => (refine' code_def ?w9k1 ?w9k2 ?w9k3 ?w9k4 ?w9k5 ?w9kA ?w9kF ?w9kK ?w9k6 ?w9k7 ?w9k8 ?w9k9 ?w9kB ?_ ?w9c2 ?w9c3 ?w9c4 ?w9c5; (case w9kA => exact rfl); (case w9kF => exact rfl); (case w9kK => first | exact rfl | assumption); (case w9k1 => k_asm); (case w9k2 => k_asm); (case w9k3 => k_asm); (case w9k4 => k_asm); (case w9k5 => k_asm); (case w9k6 => k_is); (case w9k7 => k_is); (case w9k8 => ktr_room); (case w9k9 => first | exact BindsTo.of_eq rfl | exact binds_K (by k_in) rfl (by k_is) rfl rfl rfl); (case w9c5 => decide); (case w9kB => exact locs rfl); (case w9c2 => exact rfl); (case w9c3 => exact rfl); (case w9c4 => exact rfl); k_whole; intro g' L' h' FG' F' N' B' X' T'; (try dsimp only); (try k_lift B'); (try k_fold)))
  (k_with "@my enterC" => (refine' code_defC ?w9k1 ?w9k2 ?w9k3 ?w9k4 ?w9k5 ?w9kA ?w9kF ?w9kK ?w9k6 ?w9k7 ?w9k8 ?w9k9 ?w9kB ?w9kD ?_ ?w9c2 ?w9c3 ?w9c4; (case w9kA => exact rfl); (case w9kF => exact rfl); (case w9kK => first | exact rfl | assumption); (case w9k1 => k_asm); (case w9k2 => k_asm); (case w9k3 => k_asm); (case w9k4 => k_asm); (case w9k5 => k_asm); (case w9k6 => k_is); (case w9k7 => k_is); (case w9k8 => ktr_room); (case w9k9 => exact BindsTo.of_eq rfl); (case w9kB => exact rfl); (case w9kD => decide +kernel); (case w9c2 => exact rfl); (case w9c3 => exact rfl); (case w9c4 => exact rfl); k_whole; intro g' L' h' tk' cells' FG' F' N' Y' B' X' T' l1; k_cells Y'; (try simp only [List.cons_append, List.nil_append] at N'); (try dsimp only); (try k_lift B'); (try k_fold)))
  (k_with "@use led" => first | k_asm | exact News.sw1 (by k_asm) | exact News.sw2 (by k_asm) | exact News.sw3 (by k_asm) | exact News.sw4 (by k_asm) | exact News.sw5 (by k_asm) | exact News.sw6 (by k_asm) | exact News.sw7 (by k_asm) | exact News.sw8 (by k_asm) | exact News.sw9 (by k_asm) | exact News.sw10 (by k_asm) | exact News.sw11 (by k_asm) | exact News.sw12 (by k_asm) | exact News.sw13 (by k_asm) | exact News.sw14 (by k_asm) | exact News.sw15 (by k_asm) | exact News.sw16 (by k_asm) | exact News.sw17 (by k_asm) | exact News.sw18 (by k_asm) | exact News.sw19 (by k_asm) | exact News.sw20 (by k_asm) | exact News.sw21 (by k_asm) | exact News.sw22 (by k_asm) | exact News.sw23 (by k_asm) | exact News.sw24 (by k_asm) | exact News.sw25 (by k_asm) | exact News.sw26 (by k_asm))
  (k_with "k_all" => assumption)
  (k_with "@use pre 1" => first | assumption | omega | k_mem | k_all | rfl)
  (k_with "@use pre" => ((repeat' (first | (with_reducible refine And.intro ?_ ?_) | fail)); all_goals (walk_at "use pre 1")))
  (k_with "k_mem" => assumption)
  (k_with "@eval Call" => ((with_reducible show wpAny _ _ (eval (Expr.Call (Expr.Name _ _) _ [] _) _) _ _ _); k_dflt (refine Call_ ?_)))
  (k_with "@end led" => first | k_asm | exact News.d1 (by k_asm) | exact News.d2 (by k_asm) | exact News.d3 (by k_asm) | exact News.d4 (by k_asm) | exact News.d5 (by k_asm) | exact News.d6 (by k_asm) | exact News.d7 (by k_asm) | exact News.d8 (by k_asm) | exact News.d9 (by k_asm) | exact News.d10 (by k_asm) | exact News.d11 (by k_asm) | exact News.d12 (by k_asm))
  (k_with "@pyIter str" => k_extra "pyIter str")
  (k_with "@pyIter ref" => k_extra "pyIter ref")
  (k_with "@end led1" => first | k_asm | exact News.h1 (by k_asm) | exact News.h2 (by k_asm) | exact News.h3 (by k_asm) | exact News.h4 (by k_asm) | exact News.h5 (by k_asm) | exact News.h6 (by k_asm) | exact News.h7 (by k_asm) | exact News.h8 (by k_asm) | exact News.h9 (by k_asm))
  (k_with "@eval Name" => (k_here; k_dflt (first | (refine' nameX_L ?w9F ?w9v ?_ ?w9a ?w9b; (case w9F => k_asm); (case w9a => rfl); (case w9b => rfl); (case w9v => rfl); k_whole) | (refine' nameX_K ?w9F ?w9X ?w9T ?w9e ?_ ?w9a ?w9b; (case w9F => k_asm); (case w9X => k_asm); (case w9T => k_asm); (case w9a => rfl); (case w9b => rfl); (case w9e => k_is); k_whole) | (refine' nameX_B ?w9F ?w9X ?w9T ?w9e ?w9v ?w9n ?_ ?w9a ?w9b; (case w9F => k_asm); (case w9X => k_asm); (case w9T => k_asm); (case w9a => rfl); (case w9b => rfl); (case w9e => k_is); (case w9v => boot_fast); (case w9n => decide); k_whole))))
  (k_with "k_ne" => first | assumption | exact Nat.ne_of_gt (by assumption) | exact Nat.ne_of_lt (by assumption) | exact ne_p1 (by with_reducible assumption) | exact ne_p2 (by with_reducible assumption) | exact ne_p3 (by with_reducible assumption) | exact ne_p4 (by with_reducible assumption) | exact ne_p5 (by with_reducible assumption) | exact ne_p6 (by with_reducible assumption) | exact ne_p7 (by with_reducible assumption) | exact ne_p8 (by with_reducible assumption) | exact ne_q1 (by with_reducible assumption) | exact ne_q2 (by with_reducible assumption) | exact ne_q3 (by with_reducible assumption) | exact ne_q4 (by with_reducible assumption) | exact ne_q5 (by with_reducible assumption) | exact ne_q6 (by with_reducible assumption) | exact ne_q7 (by with_reducible assumption) | exact ne_q8 (by with_reducible assumption))
  trivial
theorem Ctr.use {w : World} {f : Addr} {dep : Nat} {led : Led} {vs : List Value} {Post : Value → Led → Prop} (C : Ctr w f dep led vs Post)
  {mean : ExcName → Option Value} {mg mb : Str → Option Value} {dp un : Nat} {gd : Option (List Code)} {cn : Str} {cs : Scope} {a : Addr} {ccd : Value} {cl : List (Str × Addr)} {outer : List Env} {A₀ : Around} {base h₀ : Heap} {L : Addr} {m : Str → Option Value} {s : Shared} {Q E : Value → Shared → Prop}
  (B : Below A₀ base outer h₀) (F : Fr h₀ L s.heap m) (X : (k0.heap_1 w.params).In h₀) (N : News h₀ L s.heap led)
  (T : Top k0.view_1 (looseW k0.view_1 [Str.ofString "MOST", Str.ofString "number_of", Str.ofString "write_number"]) mean mg mb h₀) (hk : cs.kind = .function)
  (hdp : dp + dep < recursionLimit) (hun : un + 8 * dep < cLine)
  (ret : ∀ (r : Value) (led' : Led) (h' : Heap) (tk' : Nat), Post r led' → Fr h₀ L h' m → News h₀ L h' led' → Q r { s with heap := h', toks := tk' }) :
    wpAny (model PySem.Challenge.rw_xm0672_01.row.prog w) (ktrTop dp un gd cn cs L a ccd cl outer) (call (.ref f) vs) Q E s :=
  C _ _ _ _ _ _ _ _ _ _ _ _ _ _ _ _ _ _ _ _ B F X N T hk hdp hun ret
section
variable {h₀ h : Heap} {L : Addr} {p1 p2 p3 p4 p5 q : Addr × Obj} {r : Led}
theorem News.perm {l l' : Led} (N : News h₀ L h l) (e : ∀ x ∈ l', x ∈ l) : News h₀ L h l' := fun x hx => N x (e x hx)
theorem News.sw1 (N : News h₀ L h (p1 :: q :: r)) : News h₀ L h (q :: p1 :: r) := N.perm fun x hx => by
  simp only [List.mem_cons] at hx ⊢; rcases hx with h | h | h <;> simp only [h, true_or, or_true]
theorem News.sw2 (N : News h₀ L h (p1 :: p2 :: q :: r)) : News h₀ L h (q :: p1 :: p2 :: r) := N.perm fun x hx => by
  simp only [List.mem_cons] at hx ⊢; rcases hx with h | h | h | h <;> simp only [h, true_or, or_true]
theorem News.sw3 (N : News h₀ L h (p1 :: p2 :: p3 :: q :: r)) : News h₀ L h (q :: p1 :: p2 :: p3 :: r) := N.perm fun x hx => by
  simp only [List.mem_cons] at hx ⊢; rcases hx with h | h | h | h | h <;> simp only [h, true_or, or_true]
theorem News.sw4 (N : News h₀ L h (p1 :: p2 :: p3 :: p4 :: q :: r)) : News h₀ L h (q :: p1 :: p2 :: p3 :: p4 :: r) := N.perm fun x hx => by
  simp only [List.mem_cons] at hx ⊢; rcases hx with h | h | h | h | h | h <;> simp only [h, true_or, or_true]
theorem News.sw5 (N : News h₀ L h (p1 :: p2 :: p3 :: p4 :: p5 :: q :: r)) : News h₀ L h (q :: p1 :: p2 :: p3 :: p4 :: p5 :: r) := N.perm fun x hx => by
  simp only [List.mem_cons] at hx ⊢; rcases hx with h | h | h | h | h | h | h <;> simp only [h, true_or, or_true]
end
theorem News.d1 {h₀ h : Heap} {L : Addr} {p1 : Addr × Obj} {r : Led} (N : News h₀ L h (p1 :: r)) : News h₀ L h r := fun x hx => N x (.tail _ (hx))
theorem News.d2 {h₀ h : Heap} {L : Addr} {p1 p2 : Addr × Obj} {r : Led} (N : News h₀ L h (p1 :: p2 :: r)) : News h₀ L h r := fun x hx => N x (.tail _ (.tail _ (hx)))
theorem News.d3 {h₀ h : Heap} {L : Addr} {p1 p2 p3 : Addr × Obj} {r : Led} (N : News h₀ L h (p1 :: p2 :: p3 :: r)) : News h₀ L h r := fun x hx => N x (.tail _ (.tail _ (.tail _ (hx))))
theorem News.d4 {h₀ h : Heap} {L : Addr} {p1 p2 p3 p4 : Addr × Obj} {r : Led} (N : News h₀ L h (p1 :: p2 :: p3 :: p4 :: r)) : News h₀ L h r := fun x hx => N x (.tail _ (.tail _ (.tail _ (.tail _ (hx)))))
theorem News.d5 {h₀ h : Heap} {L : Addr} {p1 p2 p3 p4 p5 : Addr × Obj} {r : Led} (N : News h₀ L h (p1 :: p2 :: p3 :: p4 :: p5 :: r)) : News h₀ L h r := fun x hx => N x (.tail _ (.tail _ (.tail _ (.tail _ (.tail _ (hx))))))
theorem News.d6 {h₀ h : Heap} {L : Addr} {p1 p2 p3 p4 p5 p6 : Addr × Obj} {r : Led} (N : News h₀ L h (p1 :: p2 :: p3 :: p4 :: p5 :: p6 :: r)) : News h₀ L h r := fun x hx => N x (.tail _ (.tail _ (.tail _ (.tail _ (.tail _ (.tail _ (hx)))))))
theorem News.d7 {h₀ h : Heap} {L : Addr} {p1 p2 p3 p4 p5 p6 p7 : Addr × Obj} {r : Led} (N : News h₀ L h (p1 :: p2 :: p3 :: p4 :: p5 :: p6 :: p7 :: r)) : News h₀ L h r := fun x hx => N x (.tail _ (.tail _ (.tail _ (.tail _ (.tail _ (.tail _ (.tail _ (hx))))))))
theorem News.d8 {h₀ h : Heap} {L : Addr} {p1 p2 p3 p4 p5 p6 p7 p8 : Addr × Obj} {r : Led} (N : News h₀ L h (p1 :: p2 :: p3 :: p4 :: p5 :: p6 :: p7 :: p8 :: r)) : News h₀ L h r := fun x hx => N x (.tail _ (.tail _ (.tail _ (.tail _ (.tail _ (.tail _ (.tail _ (.tail _ (hx)))))))))
theorem News.d9 {h₀ h : Heap} {L : Addr} {p1 p2 p3 p4 p5 p6 p7 p8 p9 : Addr × Obj} {r : Led} (N : News h₀ L h (p1 :: p2 :: p3 :: p4 :: p5 :: p6 :: p7 :: p8 :: p9 :: r)) : News h₀ L h r := fun x hx => N x (.tail _ (.tail _ (.tail _ (.tail _ (.tail _ (.tail _ (.tail _ (.tail _ (.tail _ (hx))))))))))
theorem News.d10 {h₀ h : Heap} {L : Addr} {p1 p2 p3 p4 p5 p6 p7 p8 p9 p10 : Addr × Obj} {r : Led} (N : News h₀ L h (p1 :: p2 :: p3 :: p4 :: p5 :: p6 :: p7 :: p8 :: p9 :: p10 :: r)) : News h₀ L h r := fun x hx => N x (.tail _ (.tail _ (.tail _ (.tail _ (.tail _ (.tail _ (.tail _ (.tail _ (.tail _ (.tail _ (hx)))))))))))
theorem News.d11 {h₀ h : Heap} {L : Addr} {p1 p2 p3 p4 p5 p6 p7 p8 p9 p10 p11 : Addr × Obj} {r : Led} (N : News h₀ L h (p1 :: p2 :: p3 :: p4 :: p5 :: p6 :: p7 :: p8 :: p9 :: p10 :: p11 :: r)) : News h₀ L h r := fun x hx => N x (.tail _ (.tail _ (.tail _ (.tail _ (.tail _ (.tail _ (.tail _ (.tail _ (.tail _ (.tail _ (.tail _ (hx))))))))))))
theorem News.d12 {h₀ h : Heap} {L : Addr} {p1 p2 p3 p4 p5 p6 p7 p8 p9 p10 p11 p12 : Addr × Obj} {r : Led} (N : News h₀ L h (p1 :: p2 :: p3 :: p4 :: p5 :: p6 :: p7 :: p8 :: p9 :: p10 :: p11 :: p12 :: r)) : News h₀ L h r := fun x hx => N x (.tail _ (.tail _ (.tail _ (.tail _ (.tail _ (.tail _ (.tail _ (.tail _ (.tail _ (.tail _ (.tail _ (.tail _ (hx)))))))))))))
theorem item_list {w : World} {A : Around} {E : Value → Shared → Prop} {s : Shared} {h₀ : Heap} {L l : Addr} {news : Led} {vs : List Value} {n : Nat} {k : Int} {u : Tok} {value slice : PySem.Expr} {Q : Value → Shared → Prop}
    (N : News h₀ L s.heap news) (hm : (l, listOf vs.toArray n) ∈ news) (h0 : 0 ≤ k) (h1 : k < vs.length) (hs2 : vs.length < 2 ^ 62) (h : ∀ v, vs[k.toNat]? = some v → Q v s)
    (hs : subscripted slice false (.ref l) (.int k u) = operate [.ref l, .int k u] (getItem (.ref l) (.int k u))) :
    wpAny (model PySem.Challenge.rw_xm0672_01.row.prog w) A (subscriptTail value slice (.ref l) (.int k u)) Q E s := by
  have hl : s.heap.IsList l vs.toArray := ⟨_, (N _ hm).1, rfl, _, rfl⟩
  have hlt : k.toNat < vs.length := by omega
  have hx : vs[k.toNat]? = some vs[k.toNat] := List.getElem?_eq_getElem hlt
  exact tail_any hl.typeIs slot_list_getitem.lookup (wpAny_getItem_list hl h0 (by omega) (by simp) (h _ hx)) hs
theorem fmod_lt (x : Int) : x.fmod 2147483647 < 2147483647 := Int.fmod_lt_of_pos _ (by decide)
theorem fmod_nn (x : Int) : 0 ≤ x.fmod 2147483647 := Int.fmod_nonneg_of_pos _ (by decide)
theorem mul_sq (x : Int) : IntMulOk (x.fmod 2147483647) (x.fmod 2147483647) := by
  have h1 := fmod_lt x
  have h2 := fmod_nn x
  exact IntMulOk.of_right (intBits_le_64 (by omega) (by omega))
abbrev bagO (a b : Int) (ta tb : Tok) (n : Nat) : Obj := listOf #[.int a ta, .int b tb] n
section
theorem words_1002 : True := by
  (k_with "mul_fits" => with_unfolding_all exact mul_sq _)
  trivial
theorem c_pick (w : World) {rest : Led} {bag : Addr} {n : Nat} {a b top : Int} {ta tb tk : Tok} (hp : (0 ≤ a ∧ 0 ≤ b ∧ b < 2147483647) ∧ (0 < top ∧ top ≤ 12) ∧ (∀ p ∈ rest, p.1 ≠ bag)) :
    Ctr w 412 1 ((bag, bagO a b ta tb n) :: rest) [.ref bag, .int top tk]
     (fun r led' => ∃ k t a' b' ta' tb', led' = (bag, bagO a' b' ta' tb' n) :: rest ∧ r = .int k t ∧ 0 ≤ k ∧ k < top ∧ 0 ≤ a' ∧ 0 ≤ b' ∧ b' < 2147483647) := by
  obtain ⟨⟨ha, hb0, hb1⟩, ⟨ht0, ht1⟩, hne⟩ := hp
  unfold Ctr
  k_fill
  intro mean mg mb dp un gd cn cs aa ccd cl outer A₀ base h₀ L m s Q E B F X N T hk hdp hun hret
  refine wpAny_call ?_
  k_dflt (walk_at "my enter")
  k_steps
  · exact hret _ _ _ _ ⟨_, _, _, _, _, _, rfl, rfl, Int.fmod_nonneg_of_pos _ ht0, Int.fmod_lt_of_pos _ ht0, Int.fdiv_nonneg ha (Int.le_of_lt ht0), hb0, hb1⟩ (by k_asm) (by k_asm)
  · exact hret _ _ _ _ ⟨_, _, _, _, _, _, rfl, rfl, Int.fmod_nonneg_of_pos _ ht0, Int.fmod_lt_of_pos _ ht0, ha, fmod_nn _, fmod_lt _⟩ (by k_asm) (by k_asm)
end
theorem words_1003 : True := by
  k_with_none
  (k_with "@my enter" => (refine' code_def ?w9k1 ?w9k2 ?w9k3 ?w9k4 ?w9k5 ?w9kA ?w9kF ?w9kK ?w9k6 ?w9k7 ?w9k8 ?w9k9 ?w9kB ?_ ?w9c2 ?w9c3 ?w9c4 ?w9c5; (case w9kA => exact rfl); (case w9kF => exact rfl); (case w9kK => first | exact rfl | assumption); (case w9k1 => k_asm); (case w9k2 => k_asm); (case w9k3 => k_asm); (case w9k4 => k_asm); (case w9k5 => k_asm); (case w9k6 => k_is); (case w9k7 => k_is); (case w9k8 => ktr_room); (case w9k9 => first | exact BindsTo.of_eq rfl | exact binds_K (by k_in) rfl (by k_is) rfl rfl rfl); (case w9c5 => decide); (case w9kB => exact locs rfl); (case w9c2 => exact rfl); (case w9c3 => exact rfl); (case w9c4 => exact rfl); k_whole; intro g' L' h' FG' F' N' B' X' T'; (try dsimp only); (try k_lift B'); (try k_fold)))
  (k_with "@my enterC" => (refine' code_defC ?w9k1 ?w9k2 ?w9k3 ?w9k4 ?w9k5 ?w9kA ?w9kF ?w9kK ?w9k6 ?w9k7 ?w9k8 ?w9k9 ?w9kB ?w9kD ?_ ?w9c2 ?w9c3 ?w9c4; (case w9kA => exact rfl); (case w9kF => exact rfl); (case w9kK => first | exact rfl | assumption); (case w9k1 => k_asm); (case w9k2 => k_asm); (case w9k3 => k_asm); (case w9k4 => k_asm); (case w9k5 => k_asm); (case w9k6 => k_is); (case w9k7 => k_is); (case w9k8 => ktr_room); (case w9k9 => exact BindsTo.of_eq rfl); (case w9kB => exact rfl); (case w9kD => decide +kernel); (case w9c2 => exact rfl); (case w9c3 => exact rfl); (case w9c4 => exact rfl); k_whole; intro g' L' h' tk' cells' FG' F' N' Y' B' X' T' l1; k_cells Y'; (try simp only [List.cons_append, List.nil_append] at N'); (try dsimp only); (try k_lift B'); (try k_fold)))
  (k_with "@use led" => first | k_asm | exact News.sw1 (by k_asm) | exact News.sw2 (by k_asm) | exact News.sw3 (by k_asm) | exact News.sw4 (by k_asm) | exact News.sw5 (by k_asm) | exact News.sw6 (by k_asm) | exact News.sw7 (by k_asm) | exact News.sw8 (by k_asm) | exact News.sw9 (by k_asm) | exact News.sw10 (by k_asm) | exact News.sw11 (by k_asm) | exact News.sw12 (by k_asm) | exact News.sw13 (by k_asm) | exact News.sw14 (by k_asm) | exact News.sw15 (by k_asm) | exact News.sw16 (by k_asm) | exact News.sw17 (by k_asm) | exact News.sw18 (by k_asm) | exact News.sw19 (by k_asm) | exact News.sw20 (by k_asm) | exact News.sw21 (by k_asm) | exact News.sw22 (by k_asm) | exact News.sw23 (by k_asm) | exact News.sw24 (by k_asm) | exact News.sw25 (by k_asm) | exact News.sw26 (by k_asm))
  (k_with "k_all" => assumption)
  (k_with "@use pre 1" => first | assumption | omega | k_mem | k_all | rfl)
  (k_with "@use pre" => ((repeat' (first | (with_reducible refine And.intro ?_ ?_) | fail)); all_goals (walk_at "use pre 1")))
  (k_with "k_mem" => assumption)
  (k_with "@eval Call" => ((with_reducible show wpAny _ _ (eval (Expr.Call (Expr.Name _ _) _ [] _) _) _ _ _); k_dflt (refine Call_ ?_)))
  (k_with "@end led" => first | k_asm | exact News.d1 (by k_asm) | exact News.d2 (by k_asm) | exact News.d3 (by k_asm) | exact News.d4 (by k_asm) | exact News.d5 (by k_asm) | exact News.d6 (by k_asm) | exact News.d7 (by k_asm) | exact News.d8 (by k_asm) | exact News.d9 (by k_asm) | exact News.d10 (by k_asm) | exact News.d11 (by k_asm) | exact News.d12 (by k_asm))
  (k_with "@pyIter str" => k_extra "pyIter str")
  (k_with "@pyIter ref" => k_extra "pyIter ref")
  (k_with "@end led1" => first | k_asm | exact News.h1 (by k_asm) | exact News.h2 (by k_asm) | exact News.h3 (by k_asm) | exact News.h4 (by k_asm) | exact News.h5 (by k_asm) | exact News.h6 (by k_asm) | exact News.h7 (by k_asm) | exact News.h8 (by k_asm) | exact News.h9 (by k_asm))
  (k_with "@eval Name" => (k_here; k_dflt (first | (refine' nameX_L ?w9F ?w9v ?_ ?w9a ?w9b; (case w9F => k_asm); (case w9a => rfl); (case w9b => rfl); (case w9v => rfl); k_whole) | (refine' nameX_K ?w9F ?w9X ?w9T ?w9e ?_ ?w9a ?w9b; (case w9F => k_asm); (case w9X => k_asm); (case w9T => k_asm); (case w9a => rfl); (case w9b => rfl); (case w9e => k_is); k_whole) | (refine' nameX_B ?w9F ?w9X ?w9T ?w9e ?w9v ?w9n ?_ ?w9a ?w9b; (case w9F => k_asm); (case w9X => k_asm); (case w9T => k_asm); (case w9a => rfl); (case w9b => rfl); (case w9e => k_is); (case w9v => boot_fast); (case w9n => decide); k_whole))))
  (k_with "k_ne" => first | assumption | exact Nat.ne_of_gt (by assumption) | exact Nat.ne_of_lt (by assumption) | exact ne_p1 (by with_reducible assumption) | exact ne_p2 (by with_reducible assumption) | exact ne_p3 (by with_reducible assumption) | exact ne_p4 (by with_reducible assumption) | exact ne_p5 (by with_reducible assumption) | exact ne_p6 (by with_reducible assumption) | exact ne_p7 (by with_reducible assumption) | exact ne_p8 (by with_reducible assumption) | exact ne_q1 (by with_reducible assumption) | exact ne_q2 (by with_reducible assumption) | exact ne_q3 (by with_reducible assumption) | exact ne_q4 (by with_reducible assumption) | exact ne_q5 (by with_reducible assumption) | exact ne_q6 (by with_reducible assumption) | exact ne_q7 (by with_reducible assumption) | exact ne_q8 (by with_reducible assumption))
  trivial
theorem Ctr.mono {w : World} {f : Addr} {dep : Nat} {led : Led} {vs : List Value} {Post Post' : Value → Led → Prop} (C : Ctr w f dep led vs Post) (h : ∀ r led', Post r led' → Post' r led') : Ctr w f dep led vs Post' := by
  unfold Ctr
  intro mean mg mb dp un gd cn cs a ccd cl outer A₀ base h₀ L m s Q E B F X N T hk hdp hun hret
  exact Ctr.use C B F X N T hk hdp hun fun r led' h' tk' p F' N' => hret r led' h' tk' (h _ _ p) F' N'
theorem ne_p1 {a x : Nat} {R : Prop} (h : a ≠ x ∧ R) : x ≠ a := fun e => h.1 e.symm
theorem ne_q1 {a x : Nat} {R : Prop} (h : a ≠ x ∧ R) : a ≠ x := h.1
theorem ne_p2 {a x : Nat} {P1 R : Prop} (h : P1 ∧ a ≠ x ∧ R) : x ≠ a := fun e => h.2.1 e.symm
theorem ne_q2 {a x : Nat} {P1 R : Prop} (h : P1 ∧ a ≠ x ∧ R) : a ≠ x := h.2.1
theorem ne_p3 {a x : Nat} {P1 P2 R : Prop} (h : P1 ∧ P2 ∧ a ≠ x ∧ R) : x ≠ a := fun e => h.2.2.1 e.symm
theorem ne_q3 {a x : Nat} {P1 P2 R : Prop} (h : P1 ∧ P2 ∧ a ≠ x ∧ R) : a ≠ x := h.2.2.1
theorem ne_p4 {a x : Nat} {P1 P2 P3 R : Prop} (h : P1 ∧ P2 ∧ P3 ∧ a ≠ x ∧ R) : x ≠ a := fun e => h.2.2.2.1 e.symm
theorem ne_q4 {a x : Nat} {P1 P2 P3 R : Prop} (h : P1 ∧ P2 ∧ P3 ∧ a ≠ x ∧ R) : a ≠ x := h.2.2.2.1
theorem ne_p5 {a x : Nat} {P1 P2 P3 P4 R : Prop} (h : P1 ∧ P2 ∧ P3 ∧ P4 ∧ a ≠ x ∧ R) : x ≠ a := fun e => h.2.2.2.2.1 e.symm
theorem ne_q5 {a x : Nat} {P1 P2 P3 P4 R : Prop} (h : P1 ∧ P2 ∧ P3 ∧ P4 ∧ a ≠ x ∧ R) : a ≠ x := h.2.2.2.2.1
theorem ne_p6 {a x : Nat} {P1 P2 P3 P4 P5 R : Prop} (h : P1 ∧ P2 ∧ P3 ∧ P4 ∧ P5 ∧ a ≠ x ∧ R) : x ≠ a := fun e => h.2.2.2.2.2.1 e.symm
theorem ne_q6 {a x : Nat} {P1 P2 P3 P4 P5 R : Prop} (h : P1 ∧ P2 ∧ P3 ∧ P4 ∧ P5 ∧ a ≠ x ∧ R) : a ≠ x := h.2.2.2.2.2.1
theorem ne_p7 {a x : Nat} {P1 P2 P3 P4 P5 P6 R : Prop} (h : P1 ∧ P2 ∧ P3 ∧ P4 ∧ P5 ∧ P6 ∧ a ≠ x ∧ R) : x ≠ a := fun e => h.2.2.2.2.2.2.1 e.symm
theorem ne_q7 {a x : Nat} {P1 P2 P3 P4 P5 P6 R : Prop} (h : P1 ∧ P2 ∧ P3 ∧ P4 ∧ P5 ∧ P6 ∧ a ≠ x ∧ R) : a ≠ x := h.2.2.2.2.2.2.1
theorem ne_p8 {a x : Nat} {P1 P2 P3 P4 P5 P6 P7 R : Prop} (h : P1 ∧ P2 ∧ P3 ∧ P4 ∧ P5 ∧ P6 ∧ P7 ∧ a ≠ x ∧ R) : x ≠ a := fun e => h.2.2.2.2.2.2.2.1 e.symm
theorem ne_q8 {a x : Nat} {P1 P2 P3 P4 P5 P6 P7 R : Prop} (h : P1 ∧ P2 ∧ P3 ∧ P4 ∧ P5 ∧ P6 ∧ P7 ∧ a ≠ x ∧ R) : a ≠ x := h.2.2.2.2.2.2.2.1
theorem and3 {a b c : Prop} (hb : b) (hc : c) (ha : a) : a ∧ b ∧ c := ⟨ha, hb, hc⟩
section
variable {w : World} {f : Addr} {dep : Nat} {led : Led} {vs : List Value} {mean : ExcName → Option Value} {mg mb : Str → Option Value} {dp un : Nat} {gd : Option (List Code)} {cn : Str} {cs : Scope} {a : Addr} {ccd : Value} {cl : List (Str × Addr)} {outer : List Env} {A₀ : Around} {base h₀ : Heap} {L : Addr} {m : Str → Option Value} {Q E : Value → Shared → Prop} {hp : Heap} {gn : Array GenState} {dr : Drawn} {tk : Nat} {os : OsState}
theorem Ctr.useA {l : Led} {v : Value}
  (N : News h₀ L hp led) (B : Below A₀ base outer h₀) (F : Fr h₀ L hp m) (X : (k0.heap_1 w.params).In h₀)
  (T : Top k0.view_1 (looseW k0.view_1 [Str.ofString "MOST", Str.ofString "number_of", Str.ofString "write_number"]) mean mg mb h₀) (hk : cs.kind = .function)
  (hdp : dp + dep < recursionLimit) (hun : un + 8 * dep < cLine)
  (C : Ctr w f dep led vs (fun r led' => led' = l ∧ r = v))
  (ret : ∀ (h' : Heap) (tk' : Nat), Fr h₀ L h' m → News h₀ L h' (l) → Q (v) ⟨h', gn, dr, tk', os⟩) :
    wpAny (model PySem.Challenge.rw_xm0672_01.row.prog w) (ktrTop dp un gd cn cs L a ccd cl outer) (call (.ref f) vs) Q E ⟨hp, gn, dr, tk, os⟩ :=
  C.use B F X N T hk hdp hun (by rintro _ _ h' tk' ⟨rfl, rfl⟩ F N; exact ret h' tk' F N)
theorem Ctr.useB {l : Led} {v : Tok → Value}
  (N : News h₀ L hp led) (B : Below A₀ base outer h₀) (F : Fr h₀ L hp m) (X : (k0.heap_1 w.params).In h₀)
  (T : Top k0.view_1 (looseW k0.view_1 [Str.ofString "MOST", Str.ofString "number_of", Str.ofString "write_number"]) mean mg mb h₀) (hk : cs.kind = .function)
  (hdp : dp + dep < recursionLimit) (hun : un + 8 * dep < cLine)
  (C : Ctr w f dep led vs (fun r led' => ∃ t, led' = l ∧ r = v t))
  (ret : ∀ t, ∀ (h' : Heap) (tk' : Nat), Fr h₀ L h' m → News h₀ L h' (l) → Q (v t) ⟨h', gn, dr, tk', os⟩) :
    wpAny (model PySem.Challenge.rw_xm0672_01.row.prog w) (ktrTop dp un gd cn cs L a ccd cl outer) (call (.ref f) vs) Q E ⟨hp, gn, dr, tk, os⟩ :=
  C.use B F X N T hk hdp hun (by rintro _ _ h' tk' ⟨t, rfl, rfl⟩ F N; exact ret t h' tk' F N)
theorem Ctr.useC {l : Addr → Tok → Tok → Led} {v : Addr → Value}
  (N : News h₀ L hp led) (B : Below A₀ base outer h₀) (F : Fr h₀ L hp m) (X : (k0.heap_1 w.params).In h₀)
  (T : Top k0.view_1 (looseW k0.view_1 [Str.ofString "MOST", Str.ofString "number_of", Str.ofString "write_number"]) mean mg mb h₀) (hk : cs.kind = .function)
  (hdp : dp + dep < recursionLimit) (hun : un + 8 * dep < cLine)
  (C : Ctr w f dep led vs (fun r led' => ∃ p t u, led' = l p t u ∧ r = v p))
  (ret : ∀ p t u, ∀ (h' : Heap) (tk' : Nat), Fr h₀ L h' m → News h₀ L h' (l p t u) → Q (v p) ⟨h', gn, dr, tk', os⟩) :
    wpAny (model PySem.Challenge.rw_xm0672_01.row.prog w) (ktrTop dp un gd cn cs L a ccd cl outer) (call (.ref f) vs) Q E ⟨hp, gn, dr, tk, os⟩ :=
  C.use B F X N T hk hdp hun (by rintro _ _ h' tk' ⟨p, t, u, rfl, rfl⟩ F N; exact ret p t u h' tk' F N)
theorem Ctr.useD {α : Type} {l : Led} {v : α → Value}
  (N : News h₀ L hp led) (B : Below A₀ base outer h₀) (F : Fr h₀ L hp m) (X : (k0.heap_1 w.params).In h₀)
  (T : Top k0.view_1 (looseW k0.view_1 [Str.ofString "MOST", Str.ofString "number_of", Str.ofString "write_number"]) mean mg mb h₀) (hk : cs.kind = .function)
  (hdp : dp + dep < recursionLimit) (hun : un + 8 * dep < cLine)
  (C : Ctr w f dep led vs (fun r led' => led' = l ∧ ∃ t, r = v t))
  (ret : ∀ t, ∀ (h' : Heap) (tk' : Nat), Fr h₀ L h' m → News h₀ L h' (l) → Q (v t) ⟨h', gn, dr, tk', os⟩) :
    wpAny (model PySem.Challenge.rw_xm0672_01.row.prog w) (ktrTop dp un gd cn cs L a ccd cl outer) (call (.ref f) vs) Q E ⟨hp, gn, dr, tk, os⟩ :=
  C.use B F X N T hk hdp hun (by rintro _ _ h' tk' ⟨rfl, t, rfl⟩ F N; exact ret t h' tk' F N)
theorem Ctr.useP {V : Led → Addr → Tok → Tok → Prop} {S : Led → Prop} {v : Addr → Value}
  (N : News h₀ L hp led) (B : Below A₀ base outer h₀) (F : Fr h₀ L hp m) (X : (k0.heap_1 w.params).In h₀)
  (T : Top k0.view_1 (looseW k0.view_1 [Str.ofString "MOST", Str.ofString "number_of", Str.ofString "write_number"]) mean mg mb h₀) (hk : cs.kind = .function)
  (hdp : dp + dep < recursionLimit) (hun : un + 8 * dep < cLine)
  (C : Ctr w f dep led vs (fun r led' => ∃ p t u, r = v p ∧ V led' p t u ∧ S led'))
  (ret : ∀ led' p t u, V led' p t u → S led' → ∀ (h' : Heap) (tk' : Nat), Fr h₀ L h' m → News h₀ L h' (led') → Q (v p) ⟨h', gn, dr, tk', os⟩) :
    wpAny (model PySem.Challenge.rw_xm0672_01.row.prog w) (ktrTop dp un gd cn cs L a ccd cl outer) (call (.ref f) vs) Q E ⟨hp, gn, dr, tk, os⟩ :=
  C.use B F X N T hk hdp hun (by rintro _ led' h' tk' ⟨p, t, u, rfl, V, S⟩ F N; exact ret led' p t u V S h' tk' F N)
theorem Ctr.usePick {bag : Addr} {n : Nat} {rest : Led} {top : Int}
  (N : News h₀ L hp led) (B : Below A₀ base outer h₀) (F : Fr h₀ L hp m) (X : (k0.heap_1 w.params).In h₀)
  (T : Top k0.view_1 (looseW k0.view_1 [Str.ofString "MOST", Str.ofString "number_of", Str.ofString "write_number"]) mean mg mb h₀) (hk : cs.kind = .function)
  (hdp : dp + dep < recursionLimit) (hun : un + 8 * dep < cLine)
  (C : Ctr w f dep led vs (fun r led' => ∃ k t a' b' ta' tb', led' = (bag, bagO a' b' ta' tb' n) :: rest ∧ r = .int k t ∧ 0 ≤ k ∧ k < top ∧ 0 ≤ a' ∧ 0 ≤ b' ∧ b' < 2147483647))
  (ret : ∀ k t a' b' ta' tb', 0 ≤ k → k < top → 0 ≤ a' → 0 ≤ b' → b' < 2147483647 → ∀ (h' : Heap) (tk' : Nat), Fr h₀ L h' m → News h₀ L h' ((bag, bagO a' b' ta' tb' n) :: rest) → Q (.int k t) ⟨h', gn, dr, tk', os⟩) :
    wpAny (model PySem.Challenge.rw_xm0672_01.row.prog w) (ktrTop dp un gd cn cs L a ccd cl outer) (call (.ref f) vs) Q E ⟨hp, gn, dr, tk, os⟩ :=
  C.use B F X N T hk hdp hun (by rintro _ _ h' tk' ⟨k, t, a', b', ta', tb', rfl, rfl, k1, k2, k3, k4, k5⟩ F N; exact ret k t a' b' ta' tb' k1 k2 k3 k4 k5 h' tk' F N)
theorem Ctr.useOne {bag : Addr} {n : Nat} {rest : Led} {us : List Value}
  (N : News h₀ L hp led) (B : Below A₀ base outer h₀) (F : Fr h₀ L hp m) (X : (k0.heap_1 w.params).In h₀)
  (T : Top k0.view_1 (looseW k0.view_1 [Str.ofString "MOST", Str.ofString "number_of", Str.ofString "write_number"]) mean mg mb h₀) (hk : cs.kind = .function)
  (hdp : dp + dep < recursionLimit) (hun : un + 8 * dep < cLine)
  (C : Ctr w f dep led vs (fun r led' => ∃ (k : Nat) (a' b' : Int) (ta' tb' : Tok), led' = (bag, bagO a' b' ta' tb' n) :: rest ∧ us[k]? = some r ∧ 0 ≤ a' ∧ 0 ≤ b' ∧ b' < 2147483647))
  (ret : ∀ r (k : Nat) a' b' ta' tb', us[k]? = some r → 0 ≤ a' → 0 ≤ b' → b' < 2147483647 → ∀ (h' : Heap) (tk' : Nat), Fr h₀ L h' m → News h₀ L h' ((bag, bagO a' b' ta' tb' n) :: rest) → Q (r) ⟨h', gn, dr, tk', os⟩) :
    wpAny (model PySem.Challenge.rw_xm0672_01.row.prog w) (ktrTop dp un gd cn cs L a ccd cl outer) (call (.ref f) vs) Q E ⟨hp, gn, dr, tk, os⟩ :=
  C.use B F X N T hk hdp hun (by rintro r _ h' tk' ⟨k, a', b', ta', tb', rfl, k2, k3, k4, k5⟩ F N; exact ret r k a' b' ta' tb' k2 k3 k4 k5 h' tk' F N)
theorem Ctr.useOps {bag : Addr} {n : Nat} {rest : Led} {us : List Value} {P : Str → Prop}
  (N : News h₀ L hp led) (B : Below A₀ base outer h₀) (F : Fr h₀ L hp m) (X : (k0.heap_1 w.params).In h₀)
  (T : Top k0.view_1 (looseW k0.view_1 [Str.ofString "MOST", Str.ofString "number_of", Str.ofString "write_number"]) mean mg mb h₀) (hk : cs.kind = .function)
  (hdp : dp + dep < recursionLimit) (hun : un + 8 * dep < cLine)
  (C : Ctr w f dep led vs (fun r led' => ∃ (k : Nat) (a' b' : Int) (ta' tb' : Tok), led' = (bag, bagO a' b' ta' tb' n) :: rest ∧ us[k]? = some r ∧ 0 ≤ a' ∧ 0 ≤ b' ∧ b' < 2147483647)) (hv : ∀ (k : Nat) (r : Value), us[k]? = some r → ∃ op t, r = Value.str op t ∧ P op)
  (ret : ∀ op t a' b' ta' tb', P op → 0 ≤ a' → 0 ≤ b' → b' < 2147483647 → ∀ (h' : Heap) (tk' : Nat), Fr h₀ L h' m → News h₀ L h' ((bag, bagO a' b' ta' tb' n) :: rest) → Q (.str op t) ⟨h', gn, dr, tk', os⟩) :
    wpAny (model PySem.Challenge.rw_xm0672_01.row.prog w) (ktrTop dp un gd cn cs L a ccd cl outer) (call (.ref f) vs) Q E ⟨hp, gn, dr, tk, os⟩ :=
  C.use B F X N T hk hdp hun (by rintro r _ h' tk' ⟨k, a', b', ta', tb', rfl, k2, k3, k4, k5⟩ F N; obtain ⟨op, t, rfl, hP⟩ := hv k r k2; exact ret op t a' b' ta' tb' hP k3 k4 k5 h' tk' F N)
theorem Ctr.useTxt {bag : Addr} {n : Nat} {rest : Led} {us : List Value}
  (N : News h₀ L hp led) (B : Below A₀ base outer h₀) (F : Fr h₀ L hp m) (X : (k0.heap_1 w.params).In h₀)
  (T : Top k0.view_1 (looseW k0.view_1 [Str.ofString "MOST", Str.ofString "number_of", Str.ofString "write_number"]) mean mg mb h₀) (hk : cs.kind = .function)
  (hdp : dp + dep < recursionLimit) (hun : un + 8 * dep < cLine)
  (C : Ctr w f dep led vs (fun r led' => ∃ (k : Nat) (a' b' : Int) (ta' tb' : Tok), led' = (bag, bagO a' b' ta' tb' n) :: rest ∧ us[k]? = some r ∧ 0 ≤ a' ∧ 0 ≤ b' ∧ b' < 2147483647)) (hv : ∀ (k : Nat) (r : Value), us[k]? = some r → ∃ x t, r = Value.str x t)
  (ret : ∀ x t a' b' ta' tb', 0 ≤ a' → 0 ≤ b' → b' < 2147483647 → ∀ (h' : Heap) (tk' : Nat), Fr h₀ L h' m → News h₀ L h' ((bag, bagO a' b' ta' tb' n) :: rest) → Q (.str x t) ⟨h', gn, dr, tk', os⟩) :
    wpAny (model PySem.Challenge.rw_xm0672_01.row.prog w) (ktrTop dp un gd cn cs L a ccd cl outer) (call (.ref f) vs) Q E ⟨hp, gn, dr, tk, os⟩ :=
  C.use B F X N T hk hdp hun (by rintro r _ h' tk' ⟨k, a', b', ta', tb', rfl, k2, k3, k4, k5⟩ F N; obtain ⟨x, t, rfl⟩ := hv k r k2; exact ret x t a' b' ta' tb' k3 k4 k5 h' tk' F N)
theorem Ctr.useRest {bag : Addr} {n : Nat} {v : Value} {S H : Led → Prop}
  (N : News h₀ L hp led) (B : Below A₀ base outer h₀) (F : Fr h₀ L hp m) (X : (k0.heap_1 w.params).In h₀)
  (T : Top k0.view_1 (looseW k0.view_1 [Str.ofString "MOST", Str.ofString "number_of", Str.ofString "write_number"]) mean mg mb h₀) (hk : cs.kind = .function)
  (hdp : dp + dep < recursionLimit) (hun : un + 8 * dep < cLine)
  (C : Ctr w f dep led vs (fun r led' => r = v ∧ ∃ a' b' ta' tb' rest', led' = (bag, bagO a' b' ta' tb' n) :: rest' ∧ (0 ≤ a' ∧ 0 ≤ b' ∧ b' < 2147483647) ∧ S rest' ∧ H rest'))
  (ret : ∀ a' b' ta' tb' rest', 0 ≤ a' → 0 ≤ b' → b' < 2147483647 → S rest' → H rest' → ∀ (h' : Heap) (tk' : Nat), Fr h₀ L h' m → News h₀ L h' ((bag, bagO a' b' ta' tb' n) :: rest') → Q (v) ⟨h', gn, dr, tk', os⟩) :
    wpAny (model PySem.Challenge.rw_xm0672_01.row.prog w) (ktrTop dp un gd cn cs L a ccd cl outer) (call (.ref f) vs) Q E ⟨hp, gn, dr, tk, os⟩ :=
  C.use B F X N T hk hdp hun (by rintro _ _ h' tk' ⟨rfl, a', b', ta', tb', rest', rfl, ⟨k1, k2, k3⟩, S, H⟩ F N; exact ret a' b' ta' tb' rest' k1 k2 k3 S H h' tk' F N)
end

end
section
theorem words_2001 : True := by
  k_with_none
  (k_with "@my enter" => (refine' code_def ?w9k1 ?w9k2 ?w9k3 ?w9k4 ?w9k5 ?w9kA ?w9kF ?w9kK ?w9k6 ?w9k7 ?w9k8 ?w9k9 ?w9kB ?_ ?w9c2 ?w9c3 ?w9c4 ?w9c5; (case w9kA => exact rfl); (case w9kF => exact rfl); (case w9kK => first | exact rfl | assumption); (case w9k1 => k_asm); (case w9k2 => k_asm); (case w9k3 => k_asm); (case w9k4 => k_asm); (case w9k5 => k_asm); (case w9k6 => k_is); (case w9k7 => k_is); (case w9k8 => ktr_room); (case w9k9 => first | exact BindsTo.of_eq rfl | exact binds_K (by k_in) rfl (by k_is) rfl rfl rfl); (case w9c5 => decide); (case w9kB => exact locs rfl); (case w9c2 => exact rfl); (case w9c3 => exact rfl); (case w9c4 => exact rfl); k_whole; intro g' L' h' FG' F' N' B' X' T'; (try dsimp only); (try k_lift B'); (try k_fold)))
  (k_with "@my enterC" => (refine' code_defC ?w9k1 ?w9k2 ?w9k3 ?w9k4 ?w9k5 ?w9kA ?w9kF ?w9kK ?w9k6 ?w9k7 ?w9k8 ?w9k9 ?w9kB ?w9kD ?_ ?w9c2 ?w9c3 ?w9c4; (case w9kA => exact rfl); (case w9kF => exact rfl); (case w9kK => first | exact rfl | assumption); (case w9k1 => k_asm); (case w9k2 => k_asm); (case w9k3 => k_asm); (case w9k4 => k_asm); (case w9k5 => k_asm); (case w9k6 => k_is); (case w9k7 => k_is); (case w9k8 => ktr_room); (case w9k9 => exact BindsTo.of_eq rfl); (case w9kB => exact rfl); (case w9kD => decide +kernel); (case w9c2 => exact rfl); (case w9c3 => exact rfl); (case w9c4 => exact rfl); k_whole; intro g' L' h' tk' cells' FG' F' N' Y' B' X' T' l1; k_cells Y'; (try simp only [List.cons_append, List.nil_append] at N'); (try dsimp only); (try k_lift B'); (try k_fold)))
  (k_with "@use led" => first | k_asm | exact News.sw1 (by k_asm) | exact News.sw2 (by k_asm) | exact News.sw3 (by k_asm) | exact News.sw4 (by k_asm) | exact News.sw5 (by k_asm) | exact News.sw6 (by k_asm) | exact News.sw7 (by k_asm) | exact News.sw8 (by k_asm) | exact News.sw9 (by k_asm) | exact News.sw10 (by k_asm) | exact News.sw11 (by k_asm) | exact News.sw12 (by k_asm) | exact News.sw13 (by k_asm) | exact News.sw14 (by k_asm) | exact News.sw15 (by k_asm) | exact News.sw16 (by k_asm) | exact News.sw17 (by k_asm) | exact News.sw18 (by k_asm) | exact News.sw19 (by k_asm) | exact News.sw20 (by k_asm) | exact News.sw21 (by k_asm) | exact News.sw22 (by k_asm) | exact News.sw23 (by k_asm) | exact News.sw24 (by k_asm) | exact News.sw25 (by k_asm) | exact News.sw26 (by k_asm))
  (k_with "k_all" => assumption)
  (k_with "@use pre 1" => first | assumption | omega | k_mem | k_all | rfl)
  (k_with "@use pre" => ((repeat' (first | (with_reducible refine And.intro ?_ ?_) | fail)); all_goals (walk_at "use pre 1")))
  (k_with "k_mem" => assumption)
  (k_with "@eval Call" => ((with_reducible show wpAny _ _ (eval (Expr.Call (Expr.Name _ _) _ [] _) _) _ _ _); k_dflt (refine Call_ ?_)))
  (k_with "@end led" => first | k_asm | exact News.d1 (by k_asm) | exact News.d2 (by k_asm) | exact News.d3 (by k_asm) | exact News.d4 (by k_asm) | exact News.d5 (by k_asm) | exact News.d6 (by k_asm) | exact News.d7 (by k_asm) | exact News.d8 (by k_asm) | exact News.d9 (by k_asm) | exact News.d10 (by k_asm) | exact News.d11 (by k_asm) | exact News.d12 (by k_asm))
  (k_with "@pyIter str" => k_extra "pyIter str")
  (k_with "@pyIter ref" => k_extra "pyIter ref")
  (k_with "@end led1" => first | k_asm | exact News.h1 (by k_asm) | exact News.h2 (by k_asm) | exact News.h3 (by k_asm) | exact News.h4 (by k_asm) | exact News.h5 (by k_asm) | exact News.h6 (by k_asm) | exact News.h7 (by k_asm) | exact News.h8 (by k_asm) | exact News.h9 (by k_asm))
  (k_with "@eval Name" => (k_here; k_dflt (first | (refine' nameX_L ?w9F ?w9v ?_ ?w9a ?w9b; (case w9F => k_asm); (case w9a => rfl); (case w9b => rfl); (case w9v => rfl); k_whole) | (refine' nameX_K ?w9F ?w9X ?w9T ?w9e ?_ ?w9a ?w9b; (case w9F => k_asm); (case w9X => k_asm); (case w9T => k_asm); (case w9a => rfl); (case w9b => rfl); (case w9e => k_is); k_whole) | (refine' nameX_B ?w9F ?w9X ?w9T ?w9e ?w9v ?w9n ?_ ?w9a ?w9b; (case w9F => k_asm); (case w9X => k_asm); (case w9T => k_asm); (case w9a => rfl); (case w9b => rfl); (case w9e => k_is); (case w9v => boot_fast); (case w9n => decide); k_whole))))
  (k_with "k_ne" => first | assumption | exact Nat.ne_of_gt (by assumption) | exact Nat.ne_of_lt (by assumption) | exact ne_p1 (by with_reducible assumption) | exact ne_p2 (by with_reducible assumption) | exact ne_p3 (by with_reducible assumption) | exact ne_p4 (by with_reducible assumption) | exact ne_p5 (by with_reducible assumption) | exact ne_p6 (by with_reducible assumption) | exact ne_p7 (by with_reducible assumption) | exact ne_p8 (by with_reducible assumption) | exact ne_q1 (by with_reducible assumption) | exact ne_q2 (by with_reducible assumption) | exact ne_q3 (by with_reducible assumption) | exact ne_q4 (by with_reducible assumption) | exact ne_q5 (by with_reducible assumption) | exact ne_q6 (by with_reducible assumption) | exact ne_q7 (by with_reducible assumption) | exact ne_q8 (by with_reducible assumption))
  trivial
theorem item_lit {prog : Program} {w : World} {A : Around} {E : Value → Shared → Prop} {s : Shared} {value slice : PySem.Expr} {x : PySem.Str} {t u : Tok} {i : Int} {Q : Value → Shared → Prop}
    (h0 : (0 ≤ i ∧ i < x.length) ∧ x.length ≤ 1000) (h : Q (.str (Txt.item x i) s.toks) { s with toks := s.toks + 1 })
    (hs : subscripted slice false (.str x t) (.int i u) = operate [.str x t, .int i u] (getItem (.str x t) (.int i u)))
    (ht : ∀ r, letTemporaryGo value (.str x t) r = pure ()) :
    wpAny (model prog w) A (subscriptTail value slice (.str x t) (.int i u)) Q E s :=
  KXi.item (n := x.length) rfl (by omega) (by omega) (by omega) (fun _ => h) hs ht
section
variable {M : Model} {A : Around} {E : Value → Shared → Prop} {s : Shared} {env : Env} {x : Str} {f v : Value} {i k : Int} {t : Tok} {r : List Value}
theorem store_lit {Q : Unit → Shared → Prop} (e : i = k) (h : wpAny M A (storeName env x (.int k t)) Q E s) : wpAny M A (storeName env x (.int i t)) Q E s := e ▸ h
theorem call_lit1 {Q : Value → Shared → Prop} (e : i = k) (h : wpAny M A (call f (.int k t :: r)) Q E s) : wpAny M A (call f (.int i t :: r)) Q E s := e ▸ h
theorem call_lit2 {Q : Value → Shared → Prop} (e : i = k) (h : wpAny M A (call f (v :: .int k t :: r)) Q E s) : wpAny M A (call f (v :: .int i t :: r)) Q E s := e ▸ h
end

end
section
theorem words_3001 : True := by
  k_with_none
  (k_with "@my enter" => (refine' code_def ?w9k1 ?w9k2 ?w9k3 ?w9k4 ?w9k5 ?w9kA ?w9kF ?w9kK ?w9k6 ?w9k7 ?w9k8 ?w9k9 ?w9kB ?_ ?w9c2 ?w9c3 ?w9c4 ?w9c5; (case w9kA => exact rfl); (case w9kF => exact rfl); (case w9kK => first | exact rfl | assumption); (case w9k1 => k_asm); (case w9k2 => k_asm); (case w9k3 => k_asm); (case w9k4 => k_asm); (case w9k5 => k_asm); (case w9k6 => k_is); (case w9k7 => k_is); (case w9k8 => ktr_room); (case w9k9 => first | exact BindsTo.of_eq rfl | exact binds_K (by k_in) rfl (by k_is) rfl rfl rfl); (case w9c5 => decide); (case w9kB => exact locs rfl); (case w9c2 => exact rfl); (case w9c3 => exact rfl); (case w9c4 => exact rfl); k_whole; intro g' L' h' FG' F' N' B' X' T'; (try dsimp only); (try k_lift B'); (try k_fold)))
  (k_with "@my enterC" => (refine' code_defC ?w9k1 ?w9k2 ?w9k3 ?w9k4 ?w9k5 ?w9kA ?w9kF ?w9kK ?w9k6 ?w9k7 ?w9k8 ?w9k9 ?w9kB ?w9kD ?_ ?w9c2 ?w9c3 ?w9c4; (case w9kA => exact rfl); (case w9kF => exact rfl); (case w9kK => first | exact rfl | assumption); (case w9k1 => k_asm); (case w9k2 => k_asm); (case w9k3 => k_asm); (case w9k4 => k_asm); (case w9k5 => k_asm); (case w9k6 => k_is); (case w9k7 => k_is); (case w9k8 => ktr_room); (case w9k9 => exact BindsTo.of_eq rfl); (case w9kB => exact rfl); (case w9kD => decide +kernel); (case w9c2 => exact rfl); (case w9c3 => exact rfl); (case w9c4 => exact rfl); k_whole; intro g' L' h' tk' cells' FG' F' N' Y' B' X' T' l1; k_cells Y'; (try simp only [List.cons_append, List.nil_append] at N'); (try dsimp only); (try k_lift B'); (try k_fold)))
  (k_with "@use led" => first | k_asm | exact News.sw1 (by k_asm) | exact News.sw2 (by k_asm) | exact News.sw3 (by k_asm) | exact News.sw4 (by k_asm) | exact News.sw5 (by k_asm) | exact News.sw6 (by k_asm) | exact News.sw7 (by k_asm) | exact News.sw8 (by k_asm) | exact News.sw9 (by k_asm) | exact News.sw10 (by k_asm) | exact News.sw11 (by k_asm) | exact News.sw12 (by k_asm) | exact News.sw13 (by k_asm) | exact News.sw14 (by k_asm) | exact News.sw15 (by k_asm) | exact News.sw16 (by k_asm) | exact News.sw17 (by k_asm) | exact News.sw18 (by k_asm) | exact News.sw19 (by k_asm) | exact News.sw20 (by k_asm) | exact News.sw21 (by k_asm) | exact News.sw22 (by k_asm) | exact News.sw23 (by k_asm) | exact News.sw24 (by k_asm) | exact News.sw25 (by k_asm) | exact News.sw26 (by k_asm))
  (k_with "k_all" => assumption)
  (k_with "@use pre 1" => first | assumption | omega | k_mem | k_all | rfl)
  (k_with "@use pre" => ((repeat' (first | (with_reducible refine And.intro ?_ ?_) | fail)); all_goals (walk_at "use pre 1")))
  (k_with "k_mem" => assumption)
  (k_with "@eval Call" => ((with_reducible show wpAny _ _ (eval (Expr.Call (Expr.Name _ _) _ [] _) _) _ _ _); k_dflt (refine Call_ ?_)))
  (k_with "@end led" => first | k_asm | exact News.d1 (by k_asm) | exact News.d2 (by k_asm) | exact News.d3 (by k_asm) | exact News.d4 (by k_asm) | exact News.d5 (by k_asm) | exact News.d6 (by k_asm) | exact News.d7 (by k_asm) | exact News.d8 (by k_asm) | exact News.d9 (by k_asm) | exact News.d10 (by k_asm) | exact News.d11 (by k_asm) | exact News.d12 (by k_asm))
  (k_with "@pyIter str" => k_extra "pyIter str")
  (k_with "@pyIter ref" => k_extra "pyIter ref")
  (k_with "@end led1" => first | k_asm | exact News.h1 (by k_asm) | exact News.h2 (by k_asm) | exact News.h3 (by k_asm) | exact News.h4 (by k_asm) | exact News.h5 (by k_asm) | exact News.h6 (by k_asm) | exact News.h7 (by k_asm) | exact News.h8 (by k_asm) | exact News.h9 (by k_asm))
  (k_with "@eval Name" => (k_here; k_dflt (first | (refine' nameX_L ?w9F ?w9v ?_ ?w9a ?w9b; (case w9F => k_asm); (case w9a => rfl); (case w9b => rfl); (case w9v => rfl); k_whole) | (refine' nameX_K ?w9F ?w9X ?w9T ?w9e ?_ ?w9a ?w9b; (case w9F => k_asm); (case w9X => k_asm); (case w9T => k_asm); (case w9a => rfl); (case w9b => rfl); (case w9e => k_is); k_whole) | (refine' nameX_B ?w9F ?w9X ?w9T ?w9e ?w9v ?w9n ?_ ?w9a ?w9b; (case w9F => k_asm); (case w9X => k_asm); (case w9T => k_asm); (case w9a => rfl); (case w9b => rfl); (case w9e => k_is); (case w9v => boot_fast); (case w9n => decide); k_whole))))
  (k_with "k_ne" => first | assumption | exact Nat.ne_of_gt (by assumption) | exact Nat.ne_of_lt (by assumption) | exact ne_p1 (by with_reducible assumption) | exact ne_p2 (by with_reducible assumption) | exact ne_p3 (by with_reducible assumption) | exact ne_p4 (by with_reducible assumption) | exact ne_p5 (by with_reducible assumption) | exact ne_p6 (by with_reducible assumption) | exact ne_p7 (by with_reducible assumption) | exact ne_p8 (by with_reducible assumption) | exact ne_q1 (by with_reducible assumption) | exact ne_q2 (by with_reducible assumption) | exact ne_q3 (by with_reducible assumption) | exact ne_q4 (by with_reducible assumption) | exact ne_q5 (by with_reducible assumption) | exact ne_q6 (by with_reducible assumption) | exact ne_q7 (by with_reducible assumption) | exact ne_q8 (by with_reducible assumption))
  trivial
section
variable {h₀ h : Heap} {L : Addr} {q p1 p2 p3 p4 p5 p6 p7 p8 p9 p10 p11 p12 : Addr × Obj} {r : Led}
theorem News.h1 (N : News h₀ L h (q :: p1 :: r)) : News h₀ L h (q :: r) := fun x hx => by
  rcases List.mem_cons.mp hx with h1 | h1
  · exact N x (h1 ▸ .head _)
  · exact N x (.tail _ (.tail _ (h1)))
theorem News.h2 (N : News h₀ L h (q :: p1 :: p2 :: r)) : News h₀ L h (q :: r) := fun x hx => by
  rcases List.mem_cons.mp hx with h1 | h1
  · exact N x (h1 ▸ .head _)
  · exact N x (.tail _ (.tail _ (.tail _ (h1))))
theorem News.h3 (N : News h₀ L h (q :: p1 :: p2 :: p3 :: r)) : News h₀ L h (q :: r) := fun x hx => by
  rcases List.mem_cons.mp hx with h1 | h1
  · exact N x (h1 ▸ .head _)
  · exact N x (.tail _ (.tail _ (.tail _ (.tail _ (h1)))))
theorem News.h4 (N : News h₀ L h (q :: p1 :: p2 :: p3 :: p4 :: r)) : News h₀ L h (q :: r) := fun x hx => by
  rcases List.mem_cons.mp hx with h1 | h1
  · exact N x (h1 ▸ .head _)
  · exact N x (.tail _ (.tail _ (.tail _ (.tail _ (.tail _ (h1))))))
theorem News.h5 (N : News h₀ L h (q :: p1 :: p2 :: p3 :: p4 :: p5 :: r)) : News h₀ L h (q :: r) := fun x hx => by
  rcases List.mem_cons.mp hx with h1 | h1
  · exact N x (h1 ▸ .head _)
  · exact N x (.tail _ (.tail _ (.tail _ (.tail _ (.tail _ (.tail _ (h1)))))))
theorem News.h6 (N : News h₀ L h (q :: p1 :: p2 :: p3 :: p4 :: p5 :: p6 :: r)) : News h₀ L h (q :: r) := fun x hx => by
  rcases List.mem_cons.mp hx with h1 | h1
  · exact N x (h1 ▸ .head _)
  · exact N x (.tail _ (.tail _ (.tail _ (.tail _ (.tail _ (.tail _ (.tail _ (h1))))))))
theorem News.h7 (N : News h₀ L h (q :: p1 :: p2 :: p3 :: p4 :: p5 :: p6 :: p7 :: r)) : News h₀ L h (q :: r) := fun x hx => by
  rcases List.mem_cons.mp hx with h1 | h1
  · exact N x (h1 ▸ .head _)
  · exact N x (.tail _ (.tail _ (.tail _ (.tail _ (.tail _ (.tail _ (.tail _ (.tail _ (h1)))))))))
theorem News.h8 (N : News h₀ L h (q :: p1 :: p2 :: p3 :: p4 :: p5 :: p6 :: p7 :: p8 :: r)) : News h₀ L h (q :: r) := fun x hx => by
  rcases List.mem_cons.mp hx with h1 | h1
  · exact N x (h1 ▸ .head _)
  · exact N x (.tail _ (.tail _ (.tail _ (.tail _ (.tail _ (.tail _ (.tail _ (.tail _ (.tail _ (h1))))))))))
theorem News.h9 (N : News h₀ L h (q :: p1 :: p2 :: p3 :: p4 :: p5 :: p6 :: p7 :: p8 :: p9 :: r)) : News h₀ L h (q :: r) := fun x hx => by
  rcases List.mem_cons.mp hx with h1 | h1
  · exact N x (h1 ▸ .head _)
  · exact N x (.tail _ (.tail _ (.tail _ (.tail _ (.tail _ (.tail _ (.tail _ (.tail _ (.tail _ (.tail _ (h1)))))))))))
theorem News.h10 (N : News h₀ L h (q :: p1 :: p2 :: p3 :: p4 :: p5 :: p6 :: p7 :: p8 :: p9 :: p10 :: r)) : News h₀ L h (q :: r) := fun x hx => by
  rcases List.mem_cons.mp hx with h1 | h1
  · exact N x (h1 ▸ .head _)
  · exact N x (.tail _ (.tail _ (.tail _ (.tail _ (.tail _ (.tail _ (.tail _ (.tail _ (.tail _ (.tail _ (.tail _ (h1))))))))))))
theorem News.h11 (N : News h₀ L h (q :: p1 :: p2 :: p3 :: p4 :: p5 :: p6 :: p7 :: p8 :: p9 :: p10 :: p11 :: r)) : News h₀ L h (q :: r) := fun x hx => by
  rcases List.mem_cons.mp hx with h1 | h1
  · exact N x (h1 ▸ .head _)
  · exact N x (.tail _ (.tail _ (.tail _ (.tail _ (.tail _ (.tail _ (.tail _ (.tail _ (.tail _ (.tail _ (.tail _ (.tail _ (h1)))))))))))))
theorem News.h12 (N : News h₀ L h (q :: p1 :: p2 :: p3 :: p4 :: p5 :: p6 :: p7 :: p8 :: p9 :: p10 :: p11 :: p12 :: r)) : News h₀ L h (q :: r) := fun x hx => by
  rcases List.mem_cons.mp hx with h1 | h1
  · exact N x (h1 ▸ .head _)
  · exact N x (.tail _ (.tail _ (.tail _ (.tail _ (.tail _ (.tail _ (.tail _ (.tail _ (.tail _ (.tail _ (.tail _ (.tail _ (.tail _ (h1))))))))))))))
end

end
section
theorem words_4001 : True := by
  k_with_none
  (k_with "@my enter" => (refine' code_def ?w9k1 ?w9k2 ?w9k3 ?w9k4 ?w9k5 ?w9kA ?w9kF ?w9kK ?w9k6 ?w9k7 ?w9k8 ?w9k9 ?w9kB ?_ ?w9c2 ?w9c3 ?w9c4 ?w9c5; (case w9kA => exact rfl); (case w9kF => exact rfl); (case w9kK => first | exact rfl | assumption); (case w9k1 => k_asm); (case w9k2 => k_asm); (case w9k3 => k_asm); (case w9k4 => k_asm); (case w9k5 => k_asm); (case w9k6 => k_is); (case w9k7 => k_is); (case w9k8 => ktr_room); (case w9k9 => first | exact BindsTo.of_eq rfl | exact binds_K (by k_in) rfl (by k_is) rfl rfl rfl); (case w9c5 => decide); (case w9kB => exact locs rfl); (case w9c2 => exact rfl); (case w9c3 => exact rfl); (case w9c4 => exact rfl); k_whole; intro g' L' h' FG' F' N' B' X' T'; (try dsimp only); (try k_lift B'); (try k_fold)))
  (k_with "@my enterC" => (refine' code_defC ?w9k1 ?w9k2 ?w9k3 ?w9k4 ?w9k5 ?w9kA ?w9kF ?w9kK ?w9k6 ?w9k7 ?w9k8 ?w9k9 ?w9kB ?w9kD ?_ ?w9c2 ?w9c3 ?w9c4; (case w9kA => exact rfl); (case w9kF => exact rfl); (case w9kK => first | exact rfl | assumption); (case w9k1 => k_asm); (case w9k2 => k_asm); (case w9k3 => k_asm); (case w9k4 => k_asm); (case w9k5 => k_asm); (case w9k6 => k_is); (case w9k7 => k_is); (case w9k8 => ktr_room); (case w9k9 => exact BindsTo.of_eq rfl); (case w9kB => exact rfl); (case w9kD => decide +kernel); (case w9c2 => exact rfl); (case w9c3 => exact rfl); (case w9c4 => exact rfl); k_whole; intro g' L' h' tk' cells' FG' F' N' Y' B' X' T' l1; k_cells Y'; (try simp only [List.cons_append, List.nil_append] at N'); (try dsimp only); (try k_lift B'); (try k_fold)))
  (k_with "@use led" => first | k_asm | exact News.sw1 (by k_asm) | exact News.sw2 (by k_asm) | exact News.sw3 (by k_asm) | exact News.sw4 (by k_asm) | exact News.sw5 (by k_asm) | exact News.sw6 (by k_asm) | exact News.sw7 (by k_asm) | exact News.sw8 (by k_asm) | exact News.sw9 (by k_asm) | exact News.sw10 (by k_asm) | exact News.sw11 (by k_asm) | exact News.sw12 (by k_asm) | exact News.sw13 (by k_asm) | exact News.sw14 (by k_asm) | exact News.sw15 (by k_asm) | exact News.sw16 (by k_asm) | exact News.sw17 (by k_asm) | exact News.sw18 (by k_asm) | exact News.sw19 (by k_asm) | exact News.sw20 (by k_asm) | exact News.sw21 (by k_asm) | exact News.sw22 (by k_asm) | exact News.sw23 (by k_asm) | exact News.sw24 (by k_asm) | exact News.sw25 (by k_asm) | exact News.sw26 (by k_asm))
  (k_with "k_all" => assumption)
  (k_with "@use pre 1" => first | assumption | omega | k_mem | k_all | rfl)
  (k_with "@use pre" => ((repeat' (first | (with_reducible refine And.intro ?_ ?_) | fail)); all_goals (walk_at "use pre 1")))
  (k_with "k_mem" => assumption)
  (k_with "@eval Call" => ((with_reducible show wpAny _ _ (eval (Expr.Call (Expr.Name _ _) _ [] _) _) _ _ _); k_dflt (refine Call_ ?_)))
  (k_with "@end led" => first | k_asm | exact News.d1 (by k_asm) | exact News.d2 (by k_asm) | exact News.d3 (by k_asm) | exact News.d4 (by k_asm) | exact News.d5 (by k_asm) | exact News.d6 (by k_asm) | exact News.d7 (by k_asm) | exact News.d8 (by k_asm) | exact News.d9 (by k_asm) | exact News.d10 (by k_asm) | exact News.d11 (by k_asm) | exact News.d12 (by k_asm))
  (k_with "@pyIter str" => k_extra "pyIter str")
  (k_with "@pyIter ref" => k_extra "pyIter ref")
  (k_with "@end led1" => first | k_asm | exact News.h1 (by k_asm) | exact News.h2 (by k_asm) | exact News.h3 (by k_asm) | exact News.h4 (by k_asm) | exact News.h5 (by k_asm) | exact News.h6 (by k_asm) | exact News.h7 (by k_asm) | exact News.h8 (by k_asm) | exact News.h9 (by k_asm))
  (k_with "@eval Name" => (k_here; k_dflt (first | (refine' nameX_L ?w9F ?w9v ?_ ?w9a ?w9b; (case w9F => k_asm); (case w9a => rfl); (case w9b => rfl); (case w9v => rfl); k_whole) | (refine' nameX_K ?w9F ?w9X ?w9T ?w9e ?_ ?w9a ?w9b; (case w9F => k_asm); (case w9X => k_asm); (case w9T => k_asm); (case w9a => rfl); (case w9b => rfl); (case w9e => k_is); k_whole) | (refine' nameX_B ?w9F ?w9X ?w9T ?w9e ?w9v ?w9n ?_ ?w9a ?w9b; (case w9F => k_asm); (case w9X => k_asm); (case w9T => k_asm); (case w9a => rfl); (case w9b => rfl); (case w9e => k_is); (case w9v => boot_fast); (case w9n => decide); k_whole))))
  (k_with "k_ne" => first | assumption | exact Nat.ne_of_gt (by assumption) | exact Nat.ne_of_lt (by assumption) | exact ne_p1 (by with_reducible assumption) | exact ne_p2 (by with_reducible assumption) | exact ne_p3 (by with_reducible assumption) | exact ne_p4 (by with_reducible assumption) | exact ne_p5 (by with_reducible assumption) | exact ne_p6 (by with_reducible assumption) | exact ne_p7 (by with_reducible assumption) | exact ne_p8 (by with_reducible assumption) | exact ne_q1 (by with_reducible assumption) | exact ne_q2 (by with_reducible assumption) | exact ne_q3 (by with_reducible assumption) | exact ne_q4 (by with_reducible assumption) | exact ne_q5 (by with_reducible assumption) | exact ne_q6 (by with_reducible assumption) | exact ne_q7 (by with_reducible assumption) | exact ne_q8 (by with_reducible assumption))
  trivial
section
variable {h₀ h : Heap} {L : Addr} {q p1 p2 p3 p4 p5 p6 p7 p8 p9 p10 p11 p12 p13 p14 p15 p16 p17 p18 p19 p20 p21 p22 p23 p24 p25 p26 : Addr × Obj} {r : Led}
theorem mem_front {l1 l2 : Led} {x : Addr × Obj} (hx : x ∈ q :: (l1 ++ l2)) : x ∈ l1 ++ q :: l2 := by
  simp only [List.mem_cons, List.mem_append] at hx ⊢; rcases hx with h | h | h <;> simp only [h, true_or, or_true]
theorem News.sw6 (N : News h₀ L h (p1 :: p2 :: p3 :: p4 :: p5 :: p6 :: q :: r)) : News h₀ L h (q :: p1 :: p2 :: p3 :: p4 :: p5 :: p6 :: r) := N.perm fun _ hx => mem_front (l1 := [p1, p2, p3, p4, p5, p6]) hx
theorem News.sw7 (N : News h₀ L h (p1 :: p2 :: p3 :: p4 :: p5 :: p6 :: p7 :: q :: r)) : News h₀ L h (q :: p1 :: p2 :: p3 :: p4 :: p5 :: p6 :: p7 :: r) := N.perm fun _ hx => mem_front (l1 := [p1, p2, p3, p4, p5, p6, p7]) hx
theorem News.sw8 (N : News h₀ L h (p1 :: p2 :: p3 :: p4 :: p5 :: p6 :: p7 :: p8 :: q :: r)) : News h₀ L h (q :: p1 :: p2 :: p3 :: p4 :: p5 :: p6 :: p7 :: p8 :: r) := N.perm fun _ hx => mem_front (l1 := [p1, p2, p3, p4, p5, p6, p7, p8]) hx
theorem News.sw9 (N : News h₀ L h (p1 :: p2 :: p3 :: p4 :: p5 :: p6 :: p7 :: p8 :: p9 :: q :: r)) : News h₀ L h (q :: p1 :: p2 :: p3 :: p4 :: p5 :: p6 :: p7 :: p8 :: p9 :: r) := N.perm fun _ hx => mem_front (l1 := [p1, p2, p3, p4, p5, p6, p7, p8, p9]) hx
theorem News.sw10 (N : News h₀ L h (p1 :: p2 :: p3 :: p4 :: p5 :: p6 :: p7 :: p8 :: p9 :: p10 :: q :: r)) : News h₀ L h (q :: p1 :: p2 :: p3 :: p4 :: p5 :: p6 :: p7 :: p8 :: p9 :: p10 :: r) := N.perm fun _ hx => mem_front (l1 := [p1, p2, p3, p4, p5, p6, p7, p8, p9, p10]) hx
theorem News.sw11 (N : News h₀ L h (p1 :: p2 :: p3 :: p4 :: p5 :: p6 :: p7 :: p8 :: p9 :: p10 :: p11 :: q :: r)) : News h₀ L h (q :: p1 :: p2 :: p3 :: p4 :: p5 :: p6 :: p7 :: p8 :: p9 :: p10 :: p11 :: r) := N.perm fun _ hx => mem_front (l1 := [p1, p2, p3, p4, p5, p6, p7, p8, p9, p10, p11]) hx
theorem News.sw12 (N : News h₀ L h (p1 :: p2 :: p3 :: p4 :: p5 :: p6 :: p7 :: p8 :: p9 :: p10 :: p11 :: p12 :: q :: r)) : News h₀ L h (q :: p1 :: p2 :: p3 :: p4 :: p5 :: p6 :: p7 :: p8 :: p9 :: p10 :: p11 :: p12 :: r) := N.perm fun _ hx => mem_front (l1 := [p1, p2, p3, p4, p5, p6, p7, p8, p9, p10, p11, p12]) hx
theorem News.sw13 (N : News h₀ L h (p1 :: p2 :: p3 :: p4 :: p5 :: p6 :: p7 :: p8 :: p9 :: p10 :: p11 :: p12 :: p13 :: q :: r)) : News h₀ L h (q :: p1 :: p2 :: p3 :: p4 :: p5 :: p6 :: p7 :: p8 :: p9 :: p10 :: p11 :: p12 :: p13 :: r) := N.perm fun _ hx => mem_front (l1 := [p1, p2, p3, p4, p5, p6, p7, p8, p9, p10, p11, p12, p13]) hx
theorem News.sw14 (N : News h₀ L h (p1 :: p2 :: p3 :: p4 :: p5 :: p6 :: p7 :: p8 :: p9 :: p10 :: p11 :: p12 :: p13 :: p14 :: q :: r)) : News h₀ L h (q :: p1 :: p2 :: p3 :: p4 :: p5 :: p6 :: p7 :: p8 :: p9 :: p10 :: p11 :: p12 :: p13 :: p14 :: r) := N.perm fun _ hx => mem_front (l1 := [p1, p2, p3, p4, p5, p6, p7, p8, p9, p10, p11, p12, p13, p14]) hx
theorem News.sw15 (N : News h₀ L h (p1 :: p2 :: p3 :: p4 :: p5 :: p6 :: p7 :: p8 :: p9 :: p10 :: p11 :: p12 :: p13 :: p14 :: p15 :: q :: r)) : News h₀ L h (q :: p1 :: p2 :: p3 :: p4 :: p5 :: p6 :: p7 :: p8 :: p9 :: p10 :: p11 :: p12 :: p13 :: p14 :: p15 :: r) := N.perm fun _ hx => mem_front (l1 := [p1, p2, p3, p4, p5, p6, p7, p8, p9, p10, p11, p12, p13, p14, p15]) hx
theorem News.sw16 (N : News h₀ L h (p1 :: p2 :: p3 :: p4 :: p5 :: p6 :: p7 :: p8 :: p9 :: p10 :: p11 :: p12 :: p13 :: p14 :: p15 :: p16 :: q :: r)) : News h₀ L h (q :: p1 :: p2 :: p3 :: p4 :: p5 :: p6 :: p7 :: p8 :: p9 :: p10 :: p11 :: p12 :: p13 :: p14 :: p15 :: p16 :: r) := N.perm fun _ hx => mem_front (l1 := [p1, p2, p3, p4, p5, p6, p7, p8, p9, p10, p11, p12, p13, p14, p15, p16]) hx
theorem News.sw17 (N : News h₀ L h (p1 :: p2 :: p3 :: p4 :: p5 :: p6 :: p7 :: p8 :: p9 :: p10 :: p11 :: p12 :: p13 :: p14 :: p15 :: p16 :: p17 :: q :: r)) : News h₀ L h (q :: p1 :: p2 :: p3 :: p4 :: p5 :: p6 :: p7 :: p8 :: p9 :: p10 :: p11 :: p12 :: p13 :: p14 :: p15 :: p16 :: p17 :: r) := N.perm fun _ hx => mem_front (l1 := [p1, p2, p3, p4, p5, p6, p7, p8, p9, p10, p11, p12, p13, p14, p15, p16, p17]) hx
theorem News.sw18 (N : News h₀ L h (p1 :: p2 :: p3 :: p4 :: p5 :: p6 :: p7 :: p8 :: p9 :: p10 :: p11 :: p12 :: p13 :: p14 :: p15 :: p16 :: p17 :: p18 :: q :: r)) : News h₀ L h (q :: p1 :: p2 :: p3 :: p4 :: p5 :: p6 :: p7 :: p8 :: p9 :: p10 :: p11 :: p12 :: p13 :: p14 :: p15 :: p16 :: p17 :: p18 :: r) := N.perm fun _ hx => mem_front (l1 := [p1, p2, p3, p4, p5, p6, p7, p8, p9, p10, p11, p12, p13, p14, p15, p16, p17, p18]) hx
theorem News.sw19 (N : News h₀ L h (p1 :: p2 :: p3 :: p4 :: p5 :: p6 :: p7 :: p8 :: p9 :: p10 :: p11 :: p12 :: p13 :: p14 :: p15 :: p16 :: p17 :: p18 :: p19 :: q :: r)) : News h₀ L h (q :: p1 :: p2 :: p3 :: p4 :: p5 :: p6 :: p7 :: p8 :: p9 :: p10 :: p11 :: p12 :: p13 :: p14 :: p15 :: p16 :: p17 :: p18 :: p19 :: r) := N.perm fun _ hx => mem_front (l1 := [p1, p2, p3, p4, p5, p6, p7, p8, p9, p10, p11, p12, p13, p14, p15, p16, p17, p18, p19]) hx
theorem News.sw20 (N : News h₀ L h (p1 :: p2 :: p3 :: p4 :: p5 :: p6 :: p7 :: p8 :: p9 :: p10 :: p11 :: p12 :: p13 :: p14 :: p15 :: p16 :: p17 :: p18 :: p19 :: p20 :: q :: r)) : News h₀ L h (q :: p1 :: p2 :: p3 :: p4 :: p5 :: p6 :: p7 :: p8 :: p9 :: p10 :: p11 :: p12 :: p13 :: p14 :: p15 :: p16 :: p17 :: p18 :: p19 :: p20 :: r) := N.perm fun _ hx => mem_front (l1 := [p1, p2, p3, p4, p5, p6, p7, p8, p9, p10, p11, p12, p13, p14, p15, p16, p17, p18, p19, p20]) hx
theorem News.sw21 (N : News h₀ L h (p1 :: p2 :: p3 :: p4 :: p5 :: p6 :: p7 :: p8 :: p9 :: p10 :: p11 :: p12 :: p13 :: p14 :: p15 :: p16 :: p17 :: p18 :: p19 :: p20 :: p21 :: q :: r)) : News h₀ L h (q :: p1 :: p2 :: p3 :: p4 :: p5 :: p6 :: p7 :: p8 :: p9 :: p10 :: p11 :: p12 :: p13 :: p14 :: p15 :: p16 :: p17 :: p18 :: p19 :: p20 :: p21 :: r) := N.perm fun _ hx => mem_front (l1 := [p1, p2, p3, p4, p5, p6, p7, p8, p9, p10, p11, p12, p13, p14, p15, p16, p17, p18, p19, p20, p21]) hx
theorem News.sw22 (N : News h₀ L h (p1 :: p2 :: p3 :: p4 :: p5 :: p6 :: p7 :: p8 :: p9 :: p10 :: p11 :: p12 :: p13 :: p14 :: p15 :: p16 :: p17 :: p18 :: p19 :: p20 :: p21 :: p22 :: q :: r)) : News h₀ L h (q :: p1 :: p2 :: p3 :: p4 :: p5 :: p6 :: p7 :: p8 :: p9 :: p10 :: p11 :: p12 :: p13 :: p14 :: p15 :: p16 :: p17 :: p18 :: p19 :: p20 :: p21 :: p22 :: r) := N.perm fun _ hx => mem_front (l1 := [p1, p2, p3, p4, p5, p6, p7, p8, p9, p10, p11, p12, p13, p14, p15, p16, p17, p18, p19, p20, p21, p22]) hx
theorem News.sw23 (N : News h₀ L h (p1 :: p2 :: p3 :: p4 :: p5 :: p6 :: p7 :: p8 :: p9 :: p10 :: p11 :: p12 :: p13 :: p14 :: p15 :: p16 :: p17 :: p18 :: p19 :: p20 :: p21 :: p22 :: p23 :: q :: r)) : News h₀ L h (q :: p1 :: p2 :: p3 :: p4 :: p5 :: p6 :: p7 :: p8 :: p9 :: p10 :: p11 :: p12 :: p13 :: p14 :: p15 :: p16 :: p17 :: p18 :: p19 :: p20 :: p21 :: p22 :: p23 :: r) := N.perm fun _ hx => mem_front (l1 := [p1, p2, p3, p4, p5, p6, p7, p8, p9, p10, p11, p12, p13, p14, p15, p16, p17, p18, p19, p20, p21, p22, p23]) hx
theorem News.sw24 (N : News h₀ L h (p1 :: p2 :: p3 :: p4 :: p5 :: p6 :: p7 :: p8 :: p9 :: p10 :: p11 :: p12 :: p13 :: p14 :: p15 :: p16 :: p17 :: p18 :: p19 :: p20 :: p21 :: p22 :: p23 :: p24 :: q :: r)) : News h₀ L h (q :: p1 :: p2 :: p3 :: p4 :: p5 :: p6 :: p7 :: p8 :: p9 :: p10 :: p11 :: p12 :: p13 :: p14 :: p15 :: p16 :: p17 :: p18 :: p19 :: p20 :: p21 :: p22 :: p23 :: p24 :: r) := N.perm fun _ hx => mem_front (l1 := [p1, p2, p3, p4, p5, p6, p7, p8, p9, p10, p11, p12, p13, p14, p15, p16, p17, p18, p19, p20, p21, p22, p23, p24]) hx
theorem News.sw25 (N : News h₀ L h (p1 :: p2 :: p3 :: p4 :: p5 :: p6 :: p7 :: p8 :: p9 :: p10 :: p11 :: p12 :: p13 :: p14 :: p15 :: p16 :: p17 :: p18 :: p19 :: p20 :: p21 :: p22 :: p23 :: p24 :: p25 :: q :: r)) : News h₀ L h (q :: p1 :: p2 :: p3 :: p4 :: p5 :: p6 :: p7 :: p8 :: p9 :: p10 :: p11 :: p12 :: p13 :: p14 :: p15 :: p16 :: p17 :: p18 :: p19 :: p20 :: p21 :: p22 :: p23 :: p24 :: p25 :: r) := N.perm fun _ hx => mem_front (l1 := [p1, p2, p3, p4, p5, p6, p7, p8, p9, p10, p11, p12, p13, p14, p15, p16, p17, p18, p19, p20, p21, p22, p23, p24, p25]) hx
theorem News.sw26 (N : News h₀ L h (p1 :: p2 :: p3 :: p4 :: p5 :: p6 :: p7 :: p8 :: p9 :: p10 :: p11 :: p12 :: p13 :: p14 :: p15 :: p16 :: p17 :: p18 :: p19 :: p20 :: p21 :: p22 :: p23 :: p24 :: p25 :: p26 :: q :: r)) : News h₀ L h (q :: p1 :: p2 :: p3 :: p4 :: p5 :: p6 :: p7 :: p8 :: p9 :: p10 :: p11 :: p12 :: p13 :: p14 :: p15 :: p16 :: p17 :: p18 :: p19 :: p20 :: p21 :: p22 :: p23 :: p24 :: p25 :: p26 :: r) := N.perm fun _ hx => mem_front (l1 := [p1, p2, p3, p4, p5, p6, p7, p8, p9, p10, p11, p12, p13, p14, p15, p16, p17, p18, p19, p20, p21, p22, p23, p24, p25, p26]) hx
end
structure BagAt (b : Addr) : Prop where
theorem bag_lt {b D : Addr} {o : Obj} {news : Led} (_ : BagAt b) (l : ∀ p ∈ news, p.1 < D) (h : (b, o) ∈ news) : b < D := l _ h
theorem ne_cons {b : Addr} {p : Addr × Obj} {r : Led} (h : p.1 ≠ b) (k : ∀ q ∈ r, q.1 ≠ b) : ∀ q ∈ p :: r, q.1 ≠ b := fun q hq => by
  rcases List.mem_cons.mp hq with rfl | hq
  · exact h
  · exact k q hq
theorem ne_consG {b D : Addr} {o : Obj} {r : Led} (h : b < D) (k : ∀ q ∈ r, q.1 ≠ b) : ∀ q ∈ (D, o) :: r, q.1 ≠ b := ne_cons (Nat.ne_of_gt h) k

end
section
theorem words_5001 : True := by
  k_with_none
  (k_with "@my enter" => (refine' code_def ?w9k1 ?w9k2 ?w9k3 ?w9k4 ?w9k5 ?w9kA ?w9kF ?w9kK ?w9k6 ?w9k7 ?w9k8 ?w9k9 ?w9kB ?_ ?w9c2 ?w9c3 ?w9c4 ?w9c5; (case w9kA => exact rfl); (case w9kF => exact rfl); (case w9kK => first | exact rfl | assumption); (case w9k1 => k_asm); (case w9k2 => k_asm); (case w9k3 => k_asm); (case w9k4 => k_asm); (case w9k5 => k_asm); (case w9k6 => k_is); (case w9k7 => k_is); (case w9k8 => ktr_room); (case w9k9 => first | exact BindsTo.of_eq rfl | exact binds_K (by k_in) rfl (by k_is) rfl rfl rfl); (case w9c5 => decide); (case w9kB => exact locs rfl); (case w9c2 => exact rfl); (case w9c3 => exact rfl); (case w9c4 => exact rfl); k_whole; intro g' L' h' FG' F' N' B' X' T'; (try dsimp only); (try k_lift B'); (try k_fold)))
  (k_with "@my enterC" => (refine' code_defC ?w9k1 ?w9k2 ?w9k3 ?w9k4 ?w9k5 ?w9kA ?w9kF ?w9kK ?w9k6 ?w9k7 ?w9k8 ?w9k9 ?w9kB ?w9kD ?_ ?w9c2 ?w9c3 ?w9c4; (case w9kA => exact rfl); (case w9kF => exact rfl); (case w9kK => first | exact rfl | assumption); (case w9k1 => k_asm); (case w9k2 => k_asm); (case w9k3 => k_asm); (case w9k4 => k_asm); (case w9k5 => k_asm); (case w9k6 => k_is); (case w9k7 => k_is); (case w9k8 => ktr_room); (case w9k9 => exact BindsTo.of_eq rfl); (case w9kB => exact rfl); (case w9kD => decide +kernel); (case w9c2 => exact rfl); (case w9c3 => exact rfl); (case w9c4 => exact rfl); k_whole; intro g' L' h' tk' cells' FG' F' N' Y' B' X' T' l1; k_cells Y'; (try simp only [List.cons_append, List.nil_append] at N'); (try dsimp only); (try k_lift B'); (try k_fold)))
  (k_with "@use led" => first | k_asm | exact News.sw1 (by k_asm) | exact News.sw2 (by k_asm) | exact News.sw3 (by k_asm) | exact News.sw4 (by k_asm) | exact News.sw5 (by k_asm) | exact News.sw6 (by k_asm) | exact News.sw7 (by k_asm) | exact News.sw8 (by k_asm) | exact News.sw9 (by k_asm) | exact News.sw10 (by k_asm) | exact News.sw11 (by k_asm) | exact News.sw12 (by k_asm) | exact News.sw13 (by k_asm) | exact News.sw14 (by k_asm) | exact News.sw15 (by k_asm) | exact News.sw16 (by k_asm) | exact News.sw17 (by k_asm) | exact News.sw18 (by k_asm) | exact News.sw19 (by k_asm) | exact News.sw20 (by k_asm) | exact News.sw21 (by k_asm) | exact News.sw22 (by k_asm) | exact News.sw23 (by k_asm) | exact News.sw24 (by k_asm) | exact News.sw25 (by k_asm) | exact News.sw26 (by k_asm))
  (k_with "k_all" => assumption)
  (k_with "@use pre 1" => first | assumption | omega | k_mem | k_all | rfl)
  (k_with "@use pre" => ((repeat' (first | (with_reducible refine And.intro ?_ ?_) | fail)); all_goals (walk_at "use pre 1")))
  (k_with "k_mem" => assumption)
  (k_with "@eval Call" => ((with_reducible show wpAny _ _ (eval (Expr.Call (Expr.Name _ _) _ [] _) _) _ _ _); k_dflt (refine Call_ ?_)))
  (k_with "@end led" => first | k_asm | exact News.d1 (by k_asm) | exact News.d2 (by k_asm) | exact News.d3 (by k_asm) | exact News.d4 (by k_asm) | exact News.d5 (by k_asm) | exact News.d6 (by k_asm) | exact News.d7 (by k_asm) | exact News.d8 (by k_asm) | exact News.d9 (by k_asm) | exact News.d10 (by k_asm) | exact News.d11 (by k_asm) | exact News.d12 (by k_asm))
  (k_with "@pyIter str" => k_extra "pyIter str")
  (k_with "@pyIter ref" => k_extra "pyIter ref")
  (k_with "@end led1" => first | k_asm | exact News.h1 (by k_asm) | exact News.h2 (by k_asm) | exact News.h3 (by k_asm) | exact News.h4 (by k_asm) | exact News.h5 (by k_asm) | exact News.h6 (by k_asm) | exact News.h7 (by k_asm) | exact News.h8 (by k_asm) | exact News.h9 (by k_asm))
  (k_with "@eval Name" => (k_here; k_dflt (first | (refine' nameX_L ?w9F ?w9v ?_ ?w9a ?w9b; (case w9F => k_asm); (case w9a => rfl); (case w9b => rfl); (case w9v => rfl); k_whole) | (refine' nameX_K ?w9F ?w9X ?w9T ?w9e ?_ ?w9a ?w9b; (case w9F => k_asm); (case w9X => k_asm); (case w9T => k_asm); (case w9a => rfl); (case w9b => rfl); (case w9e => k_is); k_whole) | (refine' nameX_B ?w9F ?w9X ?w9T ?w9e ?w9v ?w9n ?_ ?w9a ?w9b; (case w9F => k_asm); (case w9X => k_asm); (case w9T => k_asm); (case w9a => rfl); (case w9b => rfl); (case w9e => k_is); (case w9v => boot_fast); (case w9n => decide); k_whole))))
  (k_with "k_ne" => first | assumption | exact Nat.ne_of_gt (by assumption) | exact Nat.ne_of_lt (by assumption) | exact ne_p1 (by with_reducible assumption) | exact ne_p2 (by with_reducible assumption) | exact ne_p3 (by with_reducible assumption) | exact ne_p4 (by with_reducible assumption) | exact ne_p5 (by with_reducible assumption) | exact ne_p6 (by with_reducible assumption) | exact ne_p7 (by with_reducible assumption) | exact ne_p8 (by with_reducible assumption) | exact ne_q1 (by with_reducible assumption) | exact ne_q2 (by with_reducible assumption) | exact ne_q3 (by with_reducible assumption) | exact ne_q4 (by with_reducible assumption) | exact ne_q5 (by with_reducible assumption) | exact ne_q6 (by with_reducible assumption) | exact ne_q7 (by with_reducible assumption) | exact ne_q8 (by with_reducible assumption))
  trivial
theorem words_5002 : True := by
  (k_with "@call ref" => (k_here; (with_reducible show wpAny _ _ (call (Value.ref 412) _) _ _ _); k_dflt (refine' Ctr.usePick ?w9uN ?w9uB ?w9uF ?w9uX ?w9uT ?w9uK ?w9uD ?w9uU (c_pick _ ?w9uP) ?_; (case w9uN => walk_at "use led"); (case w9uB => k_asm); (case w9uF => k_asm); (case w9uX => k_asm); (case w9uT => k_asm); (case w9uK => first | exact rfl | assumption); (case w9uD => ktr_room); (case w9uU => ktr_units); (case w9uP => walk_at "use pre")); intro k9 t9 a9 b9 ta9 tb9 k1 k2 k3 k4 k5 h9 tk9 F9 N9; (try k_sweep); (try k_fold)))
  (k_with "@subscriptTail" => (k_here; (with_reducible show wpAny _ _ (subscriptTail _ _ (Value.ref _) (Value.int _ _)) _ _ _); k_dflt (refine' item_list ?w9lN ?w9lm ?w9la ?w9lb ?w9lc ?_ ?w9ls; (case w9lN => k_asm); (case w9lm => k_mem); (case w9la => omega); (case w9lb => omega); (case w9lc => omega); (case w9ls => with_unfolding_all rfl)); intro v9 hv9))
  trivial
theorem my_len {w : World} {A : Around} {E : Value → Shared → Prop} {s : Shared} {h₀ : Heap} {L l : Addr} {news : Led} {vs : List Value} {n : Nat} {Q : Value → Shared → Prop}
    (N : News h₀ L s.heap news) (hm : (l, listOf vs.toArray n) ∈ news) (hs2 : vs.length < 2 ^ 62) (h : Q (.int vs.length (s.toks + 1)) { s with toks := s.toks + 1 + 1 }) :
    wpAny (model PySem.Challenge.rw_xm0672_01.row.prog w) A (call (.builtin "len") [.ref l]) Q E s := by
  have hl : s.heap.IsList l vs.toArray := ⟨_, (N _ hm).1, rfl, _, rfl⟩
  refine PyProof.Rows.len_list hl (by rw [List.size_toArray]; omega) ?_
  rw [List.size_toArray]; exact h
theorem words_5003 : True := by
  (k_with "@call builtin:len" => (k_here; (with_reducible show wpAny _ _ (call (Value.builtin "len") [Value.ref _]) _ _ _); k_dflt (refine' my_len ?w9lN ?w9lm ?w9la ?_; (case w9lN => k_asm); (case w9lm => k_mem); (case w9la => omega))))
  trivial
theorem c_one (w : World) {rest : Led} {bag th : Addr} {n n2 : Nat} {a b : Int} {ta tb : Tok} {vs : List Value} (hp : (0 ≤ a ∧ 0 ≤ b ∧ b < 2147483647) ∧ (0 < vs.length ∧ vs.length ≤ 12) ∧ (th, listOf vs.toArray n2) ∈ rest ∧ (∀ p ∈ rest, p.1 ≠ bag)) :
    Ctr w 419 2 ((bag, bagO a b ta tb n) :: rest) [.ref bag, .ref th]
     (fun r led' => ∃ (k : Nat) (a' b' : Int) (ta' tb' : Tok), led' = (bag, bagO a' b' ta' tb' n) :: rest ∧ vs[k]? = some r ∧ 0 ≤ a' ∧ 0 ≤ b' ∧ b' < 2147483647) := by
  obtain ⟨⟨ha, hb0, hb1⟩, ⟨ht0, ht1⟩, hm, hne⟩ := hp
  unfold Ctr
  k_fill
  intro mean mg mb dp un gd cn cs aa ccd cl outer A₀ base h₀ L m s Q E B F X N T hk hdp hun hret
  refine wpAny_call ?_
  k_dflt (walk_at "my enter")
  k_steps
  refine' hret _ _ _ _ ?e1 ?e2 ?e3
  case e3 => k_asm
  case e2 => k_asm
  case e1 => exact ⟨_, _, _, _, _, rfl, by assumption, by assumption, by assumption, by assumption⟩

end
section
theorem words_6001 : True := by
  k_with_none
  (k_with "@my enter" => (refine' code_def ?w9k1 ?w9k2 ?w9k3 ?w9k4 ?w9k5 ?w9kA ?w9kF ?w9kK ?w9k6 ?w9k7 ?w9k8 ?w9k9 ?w9kB ?_ ?w9c2 ?w9c3 ?w9c4 ?w9c5; (case w9kA => exact rfl); (case w9kF => exact rfl); (case w9kK => first | exact rfl | assumption); (case w9k1 => k_asm); (case w9k2 => k_asm); (case w9k3 => k_asm); (case w9k4 => k_asm); (case w9k5 => k_asm); (case w9k6 => k_is); (case w9k7 => k_is); (case w9k8 => ktr_room); (case w9k9 => first | exact BindsTo.of_eq rfl | exact binds_K (by k_in) rfl (by k_is) rfl rfl rfl); (case w9c5 => decide); (case w9kB => exact locs rfl); (case w9c2 => exact rfl); (case w9c3 => exact rfl); (case w9c4 => exact rfl); k_whole; intro g' L' h' FG' F' N' B' X' T'; (try dsimp only); (try k_lift B'); (try k_fold)))
  (k_with "@my enterC" => (refine' code_defC ?w9k1 ?w9k2 ?w9k3 ?w9k4 ?w9k5 ?w9kA ?w9kF ?w9kK ?w9k6 ?w9k7 ?w9k8 ?w9k9 ?w9kB ?w9kD ?_ ?w9c2 ?w9c3 ?w9c4; (case w9kA => exact rfl); (case w9kF => exact rfl); (case w9kK => first | exact rfl | assumption); (case w9k1 => k_asm); (case w9k2 => k_asm); (case w9k3 => k_asm); (case w9k4 => k_asm); (case w9k5 => k_asm); (case w9k6 => k_is); (case w9k7 => k_is); (case w9k8 => ktr_room); (case w9k9 => exact BindsTo.of_eq rfl); (case w9kB => exact rfl); (case w9kD => decide +kernel); (case w9c2 => exact rfl); (case w9c3 => exact rfl); (case w9c4 => exact rfl); k_whole; intro g' L' h' tk' cells' FG' F' N' Y' B' X' T' l1; k_cells Y'; (try simp only [List.cons_append, List.nil_append] at N'); (try dsimp only); (try k_lift B'); (try k_fold)))
  (k_with "@use led" => first | k_asm | exact News.sw1 (by k_asm) | exact News.sw2 (by k_asm) | exact News.sw3 (by k_asm) | exact News.sw4 (by k_asm) | exact News.sw5 (by k_asm) | exact News.sw6 (by k_asm) | exact News.sw7 (by k_asm) | exact News.sw8 (by k_asm) | exact News.sw9 (by k_asm) | exact News.sw10 (by k_asm) | exact News.sw11 (by k_asm) | exact News.sw12 (by k_asm) | exact News.sw13 (by k_asm) | exact News.sw14 (by k_asm) | exact News.sw15 (by k_asm) | exact News.sw16 (by k_asm) | exact News.sw17 (by k_asm) | exact News.sw18 (by k_asm) | exact News.sw19 (by k_asm) | exact News.sw20 (by k_asm) | exact News.sw21 (by k_asm) | exact News.sw22 (by k_asm) | exact News.sw23 (by k_asm) | exact News.sw24 (by k_asm) | exact News.sw25 (by k_asm) | exact News.sw26 (by k_asm))
  (k_with "k_all" => assumption)
  (k_with "@use pre 1" => first | assumption | omega | k_mem | k_all | rfl)
  (k_with "@use pre" => ((repeat' (first | (with_reducible refine And.intro ?_ ?_) | fail)); all_goals (walk_at "use pre 1")))
  (k_with "k_mem" => assumption)
  (k_with "@eval Call" => ((with_reducible show wpAny _ _ (eval (Expr.Call (Expr.Name _ _) _ [] _) _) _ _ _); k_dflt (refine Call_ ?_)))
  (k_with "@end led" => first | k_asm | exact News.d1 (by k_asm) | exact News.d2 (by k_asm) | exact News.d3 (by k_asm) | exact News.d4 (by k_asm) | exact News.d5 (by k_asm) | exact News.d6 (by k_asm) | exact News.d7 (by k_asm) | exact News.d8 (by k_asm) | exact News.d9 (by k_asm) | exact News.d10 (by k_asm) | exact News.d11 (by k_asm) | exact News.d12 (by k_asm))
  (k_with "@pyIter str" => k_extra "pyIter str")
  (k_with "@pyIter ref" => k_extra "pyIter ref")
  (k_with "@end led1" => first | k_asm | exact News.h1 (by k_asm) | exact News.h2 (by k_asm) | exact News.h3 (by k_asm) | exact News.h4 (by k_asm) | exact News.h5 (by k_asm) | exact News.h6 (by k_asm) | exact News.h7 (by k_asm) | exact News.h8 (by k_asm) | exact News.h9 (by k_asm))
  (k_with "@eval Name" => (k_here; k_dflt (first | (refine' nameX_L ?w9F ?w9v ?_ ?w9a ?w9b; (case w9F => k_asm); (case w9a => rfl); (case w9b => rfl); (case w9v => rfl); k_whole) | (refine' nameX_K ?w9F ?w9X ?w9T ?w9e ?_ ?w9a ?w9b; (case w9F => k_asm); (case w9X => k_asm); (case w9T => k_asm); (case w9a => rfl); (case w9b => rfl); (case w9e => k_is); k_whole) | (refine' nameX_B ?w9F ?w9X ?w9T ?w9e ?w9v ?w9n ?_ ?w9a ?w9b; (case w9F => k_asm); (case w9X => k_asm); (case w9T => k_asm); (case w9a => rfl); (case w9b => rfl); (case w9e => k_is); (case w9v => boot_fast); (case w9n => decide); k_whole))))
  (k_with "k_ne" => first | assumption | exact Nat.ne_of_gt (by assumption) | exact Nat.ne_of_lt (by assumption) | exact ne_p1 (by with_reducible assumption) | exact ne_p2 (by with_reducible assumption) | exact ne_p3 (by with_reducible assumption) | exact ne_p4 (by with_reducible assumption) | exact ne_p5 (by with_reducible assumption) | exact ne_p6 (by with_reducible assumption) | exact ne_p7 (by with_reducible assumption) | exact ne_p8 (by with_reducible assumption) | exact ne_q1 (by with_reducible assumption) | exact ne_q2 (by with_reducible assumption) | exact ne_q3 (by with_reducible assumption) | exact ne_q4 (by with_reducible assumption) | exact ne_q5 (by with_reducible assumption) | exact ne_q6 (by with_reducible assumption) | exact ne_q7 (by with_reducible assumption) | exact ne_q8 (by with_reducible assumption))
  trivial
abbrev tupO (vs : List Value) : Obj := { cls := .type "tuple", data := .seq vs.toArray }
def NumV (led : Led) (p : Addr) (x y : Int) (t u : Tok) : Prop := (p, tupO [.int x t, .int y u]) ∈ led ∨ (p = 22 ∧ x = 0 ∧ y = 0 ∧ t = 196 ∧ u = 197)
theorem NumV.tup {w : World} {led : Led} {p L : Addr} {x y : Int} {t u : Tok} {h₀ h : Heap} {m : Str → Option Value} (V : NumV led p x y t u) (F : Fr h₀ L h m) (X : (k0.heap_1 w.params).In h₀) (N : News h₀ L h led) : IsTup h p [.int x t, .int y u].toArray := by
  rcases V with V | ⟨rfl, rfl, rfl, rfl, rfl⟩
  · exact ⟨_, (N _ V).1, rfl, _, rfl⟩
  · exact ⟨_, F.keep _ _ (X 22 _ rfl), rfl, _, rfl⟩
theorem item_num0 {w : World} {A : Around} {E : Value → Shared → Prop} {s : Shared} {h₀ : Heap} {L p : Addr} {news : Led} {m : Str → Option Value} {x y : Int} {t u tk : Tok} {value slice : PySem.Expr} {Q : Value → Shared → Prop}
    (F : Fr h₀ L s.heap m) (X : (k0.heap_1 w.params).In h₀) (N : News h₀ L s.heap news) (V : NumV news p x y t u) (h : Q (.int x t) s)
    (hs : subscripted slice false (.ref p) (.int 0 tk) = operate [.ref p, .int 0 tk] (getItem (.ref p) (.int 0 tk))) :
    wpAny (model PySem.Challenge.rw_xm0672_01.row.prog w) A (subscriptTail value slice (.ref p) (.int 0 tk)) Q E s :=
  item_tupleT (V.tup F X N) (by decide) (by decide) rfl rfl h hs
theorem item_num1 {w : World} {A : Around} {E : Value → Shared → Prop} {s : Shared} {h₀ : Heap} {L p : Addr} {news : Led} {m : Str → Option Value} {x y : Int} {t u tk : Tok} {value slice : PySem.Expr} {Q : Value → Shared → Prop}
    (F : Fr h₀ L s.heap m) (X : (k0.heap_1 w.params).In h₀) (N : News h₀ L s.heap news) (V : NumV news p x y t u) (h : Q (.int y u) s)
    (hs : subscripted slice false (.ref p) (.int 1 tk) = operate [.ref p, .int 1 tk] (getItem (.ref p) (.int 1 tk))) :
    wpAny (model PySem.Challenge.rw_xm0672_01.row.prog w) A (subscriptTail value slice (.ref p) (.int 1 tk)) Q E s :=
  item_tupleT (V.tup F X N) (by decide) (by decide) rfl rfl h hs
theorem words_6002 : True := by
  (k_with "@subscriptTail" => (k_here; (with_reducible show wpAny _ _ (subscriptTail _ _ (Value.ref _) (Value.int 0 _)) _ _ _); k_dflt (refine' item_num0 ?w9nF ?w9nX ?w9nN ?w9nV ?_ ?w9ns; (case w9nF => k_asm); (case w9nX => k_asm); (case w9nN => k_asm); (case w9nV => assumption); (case w9ns => with_unfolding_all rfl))))
  (k_with "@subscriptTail" => (k_here; (with_reducible show wpAny _ _ (subscriptTail _ _ (Value.ref _) (Value.int 1 _)) _ _ _); k_dflt (refine' item_num1 ?w9nF ?w9nX ?w9nN ?w9nV ?_ ?w9ns; (case w9nF => k_asm); (case w9nX => k_asm); (case w9nN => k_asm); (case w9nV => assumption); (case w9ns => with_unfolding_all rfl))))
  trivial
theorem fin {Post : Value → Led → Prop} {Q : Value → Shared → Prop} {s : Shared} {h₀ : Heap} {L : Addr} {m : Str → Option Value} (hret : ∀ (r : Value) (led' : Led) (h' : Heap) (tk' : Nat), Post r led' → Fr h₀ L h' m → News h₀ L h' led' → Q r { s with heap := h', toks := tk' })
  {r : Value} {led' : Led} {h' : Heap} {tk' : Nat} (F : Fr h₀ L h' m) (N : News h₀ L h' led') (P : Post r led') : Q r { s with heap := h', toks := tk' } := hret r led' h' tk' P F N
theorem Int.beq_dec (x y : Int) : (x == y) = decide (x = y) := by by_cases h : x = y <;> simp [h]
def isNanF (x y : Int) : Bool := decide (y = 0) && decide (x = 0)

theorem c_sign (w : World) {led : Led} {x : Int} {tk : Tok} (_ : True) : Ctr w 37 1 led [.int x tk] (fun r led' => ∃ t, led' = led ∧ r = .int (sgn x) t) := by
  unfold Ctr
  k_fill
  intro mean mg mb dp un gd cn cs a ccd cl outer A₀ base h₀ L m s Q E B F X N T hk hdp hun hret
  refine wpAny_call ?_
  k_dflt (walk_at "my enter")
  k_steps
  · exact fin hret (by k_asm) (by k_asm) ⟨_, rfl, by rw [sgn_pos (by assumption)]⟩
  · exact fin hret (by k_asm) (by k_asm) ⟨_, rfl, by rw [sgn_neg (by assumption) (by assumption)]⟩
  · exact fin hret (by k_asm) (by k_asm) ⟨_, rfl, by rw [sgn_zero (by assumption) (by assumption)]⟩
theorem c_nan (w : World) {led : Led} {p : Addr} {x y : Int} {t u : Tok} (V : NumV led p x y t u) : Ctr w 52 1 led [.ref p] (fun r led' => led' = led ∧ r = .bool (isNanF x y)) := by
  unfold Ctr
  k_fill
  intro mean mg mb dp un gd cn cs a ccd cl outer A₀ base h₀ L m s Q E B F X N T hk hdp hun hret
  refine wpAny_call ?_
  k_dflt (walk_at "my enter")
  k_steps
  all_goals exact fin hret (by k_asm) (by k_asm) ⟨rfl, by simp [isNanF, Int.beq_dec, *]⟩
theorem words_6003 : True := by
  (k_with "@call ref" => (k_here; (with_reducible show wpAny _ _ (call (Value.ref 37) _) _ _ _); k_dflt (refine' Ctr.useB ?w9uN ?w9uB ?w9uF ?w9uX ?w9uT ?w9uK ?w9uD ?w9uU (c_sign _ ?w9uP) ?_; (case w9uN => walk_at "use led"); (case w9uB => k_asm); (case w9uF => k_asm); (case w9uX => k_asm); (case w9uT => k_asm); (case w9uK => first | exact rfl | assumption); (case w9uD => ktr_room); (case w9uU => ktr_units); (case w9uP => trivial)); intro t9 h9 tk9 F9 N9; (try k_sweep); (try k_fold)))
  (k_with "@call ref" => (k_here; (with_reducible show wpAny _ _ (call (Value.ref 52) _) _ _ _); k_dflt (refine' Ctr.useA ?w9uN ?w9uB ?w9uF ?w9uX ?w9uT ?w9uK ?w9uD ?w9uU (c_nan _ ?w9uP) ?_; (case w9uN => walk_at "use led"); (case w9uB => k_asm); (case w9uF => k_asm); (case w9uX => k_asm); (case w9uT => k_asm); (case w9uK => first | exact rfl | assumption); (case w9uD => ktr_room); (case w9uU => ktr_units); (case w9uP => assumption)); intro h9 tk9 F9 N9; (try k_sweep); (try k_fold)))
  trivial

def ordF (xa ya xb yb : Int) : Int := if ya = 0 ∨ yb = 0 then sgn ((if ya = 0 then xa else 0) - (if yb = 0 then xb else 0)) else sgn (xa * yb - xb * ya)
theorem c_order (w : World) {led : Led} {p q : Addr} {xa ya xb yb : Int} {t1 t2 t3 t4 : Tok} (hp : NumV led p xa ya t1 t2 ∧ NumV led q xb yb t3 t4 ∧ (-100 < ya ∧ ya < 100) ∧ (-100 < yb ∧ yb < 100)) : Ctr w 66 2 led [.ref p, .ref q] (fun r led' => ∃ t, led' = led ∧ r = .int (ordF xa ya xb yb) t) := by
  obtain ⟨V1, V2, ⟨h1, h2⟩, h3, h4⟩ := hp
  unfold Ctr
  k_fill
  intro mean mg mb dp un gd cn cs a ccd cl outer A₀ base h₀ L m s Q E B F X N T hk hdp hun hret
  refine wpAny_call ?_
  k_dflt (walk_at "my enter")
  k_steps
  all_goals exact fin hret (by k_asm) (by k_asm) ⟨_, rfl, congrArg (fun z => Value.int z _) (by (unfold ordF; (repeat' split) <;> first | rfl | omega))⟩

end
section
theorem words_7001 : True := by
  k_with_none
  (k_with "@my enter" => (refine' code_def ?w9k1 ?w9k2 ?w9k3 ?w9k4 ?w9k5 ?w9kA ?w9kF ?w9kK ?w9k6 ?w9k7 ?w9k8 ?w9k9 ?w9kB ?_ ?w9c2 ?w9c3 ?w9c4 ?w9c5; (case w9kA => exact rfl); (case w9kF => exact rfl); (case w9kK => first | exact rfl | assumption); (case w9k1 => k_asm); (case w9k2 => k_asm); (case w9k3 => k_asm); (case w9k4 => k_asm); (case w9k5 => k_asm); (case w9k6 => k_is); (case w9k7 => k_is); (case w9k8 => ktr_room); (case w9k9 => first | exact BindsTo.of_eq rfl | exact binds_K (by k_in) rfl (by k_is) rfl rfl rfl); (case w9c5 => decide); (case w9kB => exact locs rfl); (case w9c2 => exact rfl); (case w9c3 => exact rfl); (case w9c4 => exact rfl); k_whole; intro g' L' h' FG' F' N' B' X' T'; (try dsimp only); (try k_lift B'); (try k_fold)))
  (k_with "@my enterC" => (refine' code_defC ?w9k1 ?w9k2 ?w9k3 ?w9k4 ?w9k5 ?w9kA ?w9kF ?w9kK ?w9k6 ?w9k7 ?w9k8 ?w9k9 ?w9kB ?w9kD ?_ ?w9c2 ?w9c3 ?w9c4; (case w9kA => exact rfl); (case w9kF => exact rfl); (case w9kK => first | exact rfl | assumption); (case w9k1 => k_asm); (case w9k2 => k_asm); (case w9k3 => k_asm); (case w9k4 => k_asm); (case w9k5 => k_asm); (case w9k6 => k_is); (case w9k7 => k_is); (case w9k8 => ktr_room); (case w9k9 => exact BindsTo.of_eq rfl); (case w9kB => exact rfl); (case w9kD => decide +kernel); (case w9c2 => exact rfl); (case w9c3 => exact rfl); (case w9c4 => exact rfl); k_whole; intro g' L' h' tk' cells' FG' F' N' Y' B' X' T' l1; k_cells Y'; (try simp only [List.cons_append, List.nil_append] at N'); (try dsimp only); (try k_lift B'); (try k_fold)))
  (k_with "@use led" => first | k_asm | exact News.sw1 (by k_asm) | exact News.sw2 (by k_asm) | exact News.sw3 (by k_asm) | exact News.sw4 (by k_asm) | exact News.sw5 (by k_asm) | exact News.sw6 (by k_asm) | exact News.sw7 (by k_asm) | exact News.sw8 (by k_asm) | exact News.sw9 (by k_asm) | exact News.sw10 (by k_asm) | exact News.sw11 (by k_asm) | exact News.sw12 (by k_asm) | exact News.sw13 (by k_asm) | exact News.sw14 (by k_asm) | exact News.sw15 (by k_asm) | exact News.sw16 (by k_asm) | exact News.sw17 (by k_asm) | exact News.sw18 (by k_asm) | exact News.sw19 (by k_asm) | exact News.sw20 (by k_asm) | exact News.sw21 (by k_asm) | exact News.sw22 (by k_asm) | exact News.sw23 (by k_asm) | exact News.sw24 (by k_asm) | exact News.sw25 (by k_asm) | exact News.sw26 (by k_asm))
  (k_with "k_all" => assumption)
  (k_with "@use pre 1" => first | assumption | omega | k_mem | k_all | rfl)
  (k_with "@use pre" => ((repeat' (first | (with_reducible refine And.intro ?_ ?_) | fail)); all_goals (walk_at "use pre 1")))
  (k_with "k_mem" => assumption)
  (k_with "@eval Call" => ((with_reducible show wpAny _ _ (eval (Expr.Call (Expr.Name _ _) _ [] _) _) _ _ _); k_dflt (refine Call_ ?_)))
  (k_with "@end led" => first | k_asm | exact News.d1 (by k_asm) | exact News.d2 (by k_asm) | exact News.d3 (by k_asm) | exact News.d4 (by k_asm) | exact News.d5 (by k_asm) | exact News.d6 (by k_asm) | exact News.d7 (by k_asm) | exact News.d8 (by k_asm) | exact News.d9 (by k_asm) | exact News.d10 (by k_asm) | exact News.d11 (by k_asm) | exact News.d12 (by k_asm))
  (k_with "@pyIter str" => k_extra "pyIter str")
  (k_with "@pyIter ref" => k_extra "pyIter ref")
  (k_with "@end led1" => first | k_asm | exact News.h1 (by k_asm) | exact News.h2 (by k_asm) | exact News.h3 (by k_asm) | exact News.h4 (by k_asm) | exact News.h5 (by k_asm) | exact News.h6 (by k_asm) | exact News.h7 (by k_asm) | exact News.h8 (by k_asm) | exact News.h9 (by k_asm))
  (k_with "@eval Name" => (k_here; k_dflt (first | (refine' nameX_L ?w9F ?w9v ?_ ?w9a ?w9b; (case w9F => k_asm); (case w9a => rfl); (case w9b => rfl); (case w9v => rfl); k_whole) | (refine' nameX_K ?w9F ?w9X ?w9T ?w9e ?_ ?w9a ?w9b; (case w9F => k_asm); (case w9X => k_asm); (case w9T => k_asm); (case w9a => rfl); (case w9b => rfl); (case w9e => k_is); k_whole) | (refine' nameX_B ?w9F ?w9X ?w9T ?w9e ?w9v ?w9n ?_ ?w9a ?w9b; (case w9F => k_asm); (case w9X => k_asm); (case w9T => k_asm); (case w9a => rfl); (case w9b => rfl); (case w9e => k_is); (case w9v => boot_fast); (case w9n => decide); k_whole))))
  (k_with "k_ne" => first | assumption | exact Nat.ne_of_gt (by assumption) | exact Nat.ne_of_lt (by assumption) | exact ne_p1 (by with_reducible assumption) | exact ne_p2 (by with_reducible assumption) | exact ne_p3 (by with_reducible assumption) | exact ne_p4 (by with_reducible assumption) | exact ne_p5 (by with_reducible assumption) | exact ne_p6 (by with_reducible assumption) | exact ne_p7 (by with_reducible assumption) | exact ne_p8 (by with_reducible assumption) | exact ne_q1 (by with_reducible assumption) | exact ne_q2 (by with_reducible assumption) | exact ne_q3 (by with_reducible assumption) | exact ne_q4 (by with_reducible assumption) | exact ne_q5 (by with_reducible assumption) | exact ne_q6 (by with_reducible assumption) | exact ne_q7 (by with_reducible assumption) | exact ne_q8 (by with_reducible assumption))
  trivial
theorem words_7002 : True := by
  (k_with "@call ref" => (k_here; (with_reducible show wpAny _ _ (call (Value.ref 37) _) _ _ _); k_dflt (refine' Ctr.useB ?w9uN ?w9uB ?w9uF ?w9uX ?w9uT ?w9uK ?w9uD ?w9uU (c_sign _ ?w9uP) ?_; (case w9uN => walk_at "use led"); (case w9uB => k_asm); (case w9uF => k_asm); (case w9uX => k_asm); (case w9uT => k_asm); (case w9uK => first | exact rfl | assumption); (case w9uD => ktr_room); (case w9uU => ktr_units); (case w9uP => trivial)); intro t9 h9 tk9 F9 N9; (try k_sweep); (try k_fold)))
  (k_with "@call ref" => (k_here; (with_reducible show wpAny _ _ (call (Value.ref 52) _) _ _ _); k_dflt (refine' Ctr.useA ?w9uN ?w9uB ?w9uF ?w9uX ?w9uT ?w9uK ?w9uD ?w9uU (c_nan _ ?w9uP) ?_; (case w9uN => walk_at "use led"); (case w9uB => k_asm); (case w9uF => k_asm); (case w9uX => k_asm); (case w9uT => k_asm); (case w9uK => first | exact rfl | assumption); (case w9uD => ktr_room); (case w9uU => ktr_units); (case w9uP => assumption)); intro h9 tk9 F9 N9; (try k_sweep); (try k_fold)))
  (k_with "@call ref" => (k_here; (with_reducible show wpAny _ _ (call (Value.ref 66) _) _ _ _); k_dflt (refine' Ctr.useB ?w9uN ?w9uB ?w9uF ?w9uX ?w9uT ?w9uK ?w9uD ?w9uU (c_order _ ?w9uP) ?_; (case w9uN => walk_at "use led"); (case w9uB => k_asm); (case w9uF => k_asm); (case w9uX => k_asm); (case w9uT => k_asm); (case w9uK => first | exact rfl | assumption); (case w9uD => ktr_room); (case w9uU => ktr_units); (case w9uP => walk_at "use pre")); intro t9 h9 tk9 F9 N9; (try k_sweep); (try k_fold)))
  trivial

def opF (op : Str) (o : Int) : Bool := if op == Str.ofString "=" then o == 0 else if op == Str.ofString "!=" then o != 0 else if op == Str.ofString "<" then decide (o < 0) else if op == Str.ofString "<=" then decide (o ≤ 0) else if op == Str.ofString ">" then decide (0 < o) else decide (0 ≤ o)
def cnumF (op : Str) (xa ya xb yb : Int) : Bool := if isNanF xa ya then op == Str.ofString "!=" else if isNanF xb yb then op == Str.ofString "!=" else opF op (ordF xa ya xb yb)
theorem c_cnum (w : World) {led : Led} {op : Str} {tk : Tok} {p q : Addr} {xa ya xb yb : Int} {t1 t2 t3 t4 : Tok} (hp : NumV led p xa ya t1 t2 ∧ NumV led q xb yb t3 t4 ∧ (-100 < ya ∧ ya < 100) ∧ (-100 < yb ∧ yb < 100)) : Ctr w 73 3 led [.str op tk, .ref p, .ref q] (fun r led' => led' = led ∧ r = .bool (cnumF op xa ya xb yb)) := by
  obtain ⟨V1, V2, ⟨h1, h2⟩, h3, h4⟩ := hp
  unfold Ctr
  k_fill
  intro mean mg mb dp un gd cn cs a ccd cl outer A₀ base h₀ L m s Q E B F X N T hk hdp hun hret
  refine wpAny_call ?_
  k_dflt (walk_at "my enter")
  k_steps
  all_goals exact fin hret (by k_asm) (by k_asm) ⟨rfl, congrArg Value.bool (by simp only [cnumF, opF, Bool.false_eq_true, if_false, if_true, *])⟩

end
section
theorem words_8001 : True := by
  k_with_none
  (k_with "@my enter" => (refine' code_def ?w9k1 ?w9k2 ?w9k3 ?w9k4 ?w9k5 ?w9kA ?w9kF ?w9kK ?w9k6 ?w9k7 ?w9k8 ?w9k9 ?w9kB ?_ ?w9c2 ?w9c3 ?w9c4 ?w9c5; (case w9kA => exact rfl); (case w9kF => exact rfl); (case w9kK => first | exact rfl | assumption); (case w9k1 => k_asm); (case w9k2 => k_asm); (case w9k3 => k_asm); (case w9k4 => k_asm); (case w9k5 => k_asm); (case w9k6 => k_is); (case w9k7 => k_is); (case w9k8 => ktr_room); (case w9k9 => first | exact BindsTo.of_eq rfl | exact binds_K (by k_in) rfl (by k_is) rfl rfl rfl); (case w9c5 => decide); (case w9kB => exact locs rfl); (case w9c2 => exact rfl); (case w9c3 => exact rfl); (case w9c4 => exact rfl); k_whole; intro g' L' h' FG' F' N' B' X' T'; (try dsimp only); (try k_lift B'); (try k_fold)))
  (k_with "@my enterC" => (refine' code_defC ?w9k1 ?w9k2 ?w9k3 ?w9k4 ?w9k5 ?w9kA ?w9kF ?w9kK ?w9k6 ?w9k7 ?w9k8 ?w9k9 ?w9kB ?w9kD ?_ ?w9c2 ?w9c3 ?w9c4; (case w9kA => exact rfl); (case w9kF => exact rfl); (case w9kK => first | exact rfl | assumption); (case w9k1 => k_asm); (case w9k2 => k_asm); (case w9k3 => k_asm); (case w9k4 => k_asm); (case w9k5 => k_asm); (case w9k6 => k_is); (case w9k7 => k_is); (case w9k8 => ktr_room); (case w9k9 => exact BindsTo.of_eq rfl); (case w9kB => exact rfl); (case w9kD => decide +kernel); (case w9c2 => exact rfl); (case w9c3 => exact rfl); (case w9c4 => exact rfl); k_whole; intro g' L' h' tk' cells' FG' F' N' Y' B' X' T' l1; k_cells Y'; (try simp only [List.cons_append, List.nil_append] at N'); (try dsimp only); (try k_lift B'); (try k_fold)))
  (k_with "@use led" => first | k_asm | exact News.sw1 (by k_asm) | exact News.sw2 (by k_asm) | exact News.sw3 (by k_asm) | exact News.sw4 (by k_asm) | exact News.sw5 (by k_asm) | exact News.sw6 (by k_asm) | exact News.sw7 (by k_asm) | exact News.sw8 (by k_asm) | exact News.sw9 (by k_asm) | exact News.sw10 (by k_asm) | exact News.sw11 (by k_asm) | exact News.sw12 (by k_asm) | exact News.sw13 (by k_asm) | exact News.sw14 (by k_asm) | exact News.sw15 (by k_asm) | exact News.sw16 (by k_asm) | exact News.sw17 (by k_asm) | exact News.sw18 (by k_asm) | exact News.sw19 (by k_asm) | exact News.sw20 (by k_asm) | exact News.sw21 (by k_asm) | exact News.sw22 (by k_asm) | exact News.sw23 (by k_asm) | exact News.sw24 (by k_asm) | exact News.sw25 (by k_asm) | exact News.sw26 (by k_asm))
  (k_with "k_all" => assumption)
  (k_with "@use pre 1" => first | assumption | omega | k_mem | k_all | rfl)
  (k_with "@use pre" => ((repeat' (first | (with_reducible refine And.intro ?_ ?_) | fail)); all_goals (walk_at "use pre 1")))
  (k_with "k_mem" => assumption)
  (k_with "@eval Call" => ((with_reducible show wpAny _ _ (eval (Expr.Call (Expr.Name _ _) _ [] _) _) _ _ _); k_dflt (refine Call_ ?_)))
  (k_with "@end led" => first | k_asm | exact News.d1 (by k_asm) | exact News.d2 (by k_asm) | exact News.d3 (by k_asm) | exact News.d4 (by k_asm) | exact News.d5 (by k_asm) | exact News.d6 (by k_asm) | exact News.d7 (by k_asm) | exact News.d8 (by k_asm) | exact News.d9 (by k_asm) | exact News.d10 (by k_asm) | exact News.d11 (by k_asm) | exact News.d12 (by k_asm))
  (k_with "@pyIter str" => k_extra "pyIter str")
  (k_with "@pyIter ref" => k_extra "pyIter ref")
  (k_with "@end led1" => first | k_asm | exact News.h1 (by k_asm) | exact News.h2 (by k_asm) | exact News.h3 (by k_asm) | exact News.h4 (by k_asm) | exact News.h5 (by k_asm) | exact News.h6 (by k_asm) | exact News.h7 (by k_asm) | exact News.h8 (by k_asm) | exact News.h9 (by k_asm))
  (k_with "@eval Name" => (k_here; k_dflt (first | (refine' nameX_L ?w9F ?w9v ?_ ?w9a ?w9b; (case w9F => k_asm); (case w9a => rfl); (case w9b => rfl); (case w9v => rfl); k_whole) | (refine' nameX_K ?w9F ?w9X ?w9T ?w9e ?_ ?w9a ?w9b; (case w9F => k_asm); (case w9X => k_asm); (case w9T => k_asm); (case w9a => rfl); (case w9b => rfl); (case w9e => k_is); k_whole) | (refine' nameX_B ?w9F ?w9X ?w9T ?w9e ?w9v ?w9n ?_ ?w9a ?w9b; (case w9F => k_asm); (case w9X => k_asm); (case w9T => k_asm); (case w9a => rfl); (case w9b => rfl); (case w9e => k_is); (case w9v => boot_fast); (case w9n => decide); k_whole))))
  (k_with "k_ne" => first | assumption | exact Nat.ne_of_gt (by assumption) | exact Nat.ne_of_lt (by assumption) | exact ne_p1 (by with_reducible assumption) | exact ne_p2 (by with_reducible assumption) | exact ne_p3 (by with_reducible assumption) | exact ne_p4 (by with_reducible assumption) | exact ne_p5 (by with_reducible assumption) | exact ne_p6 (by with_reducible assumption) | exact ne_p7 (by with_reducible assumption) | exact ne_p8 (by with_reducible assumption) | exact ne_q1 (by with_reducible assumption) | exact ne_q2 (by with_reducible assumption) | exact ne_q3 (by with_reducible assumption) | exact ne_q4 (by with_reducible assumption) | exact ne_q5 (by with_reducible assumption) | exact ne_q6 (by with_reducible assumption) | exact ne_q7 (by with_reducible assumption) | exact ne_q8 (by with_reducible assumption))
  trivial
section
variable {prog : Program} {w : World} {A : Around} {E : Value → Shared → Prop} {s : Shared} {env : Env} {h₀ : Heap} {x : Str} {body : List Stmt} {Q : Flow → Shared → Prop} {m₀ : Str → Option Value} {news : Led}
theorem my_iter {s₂ : Shared} {I : Addr} {fp wr : List Addr} {n : Nat} {P : Nat → Value → Prop} {St : Nat → Heap → Prop}
    (W : Walks prog w A I fp wr n P St) (hL : env.locals ∉ fp) (hwr : ∀ b ∈ wr, h₀.get? b = none) (hnw : ∀ p ∈ news, p.1 ∉ wr) (hst : St 0 s₂.heap)
    (F : Fr h₀ env.locals s₂.heap m₀) (N : News h₀ env.locals s₂.heap news) (J : Nat → (Str → Option Value) → Prop) (hj : J 0 m₀)
    (turn : ∀ i v m₁ h tk own, i < n → P i v → J i m₁ → Fr h₀ env.locals h (fun y => if y = x then some v else m₁ y) → News h₀ env.locals h (own ++ news) →
      wpAny (model prog w) A (execs body env) (InvPost h₀ env.locals (J (i + 1)) (own ++ news) { s₂ with heap := h, toks := tk } Q) E { s₂ with heap := h, toks := tk })
    (done : ∀ m₁ h tk, J n m₁ → Fr h₀ env.locals h m₁ → News h₀ env.locals h news → Q .next { s₂ with heap := h, toks := tk }) :
    LoopAtV prog w A h₀ env x body Q E (.ref I) s₂ := by
  refine ⟨I, fp, wr, n, P, St, m₀, news, fun i m₁ led => led = news ∧ J i m₁, rfl, W, hL, hwr, hnw, hst, F, N, ⟨rfl, hj⟩, ?_, ?_⟩
  · rintro i v m₁ led s₁ own ⟨h, tk, rfl⟩ hin hP ⟨rfl, hJ⟩ hoff _ _ _ _ F₁ N₁
    refine wpAny_mono (turn i v m₁ h tk own hin hP hJ F₁ N₁) (fun f s₃ p => ?_) fun _ _ e => e
    have fin : InvEnd h₀ env.locals (J (i + 1)) (own ++ led) { s₂ with heap := h, toks := tk } s₃ → LoopStepU h₀ env.locals wr own (fun m' led' => led' = led ∧ J (i + 1) m') { s₂ with heap := h, toks := tk } .next s₃ := by
      rintro ⟨h', tk', m', led', e, F', N', sub, hm⟩
      exact ⟨rfl, h', tk', m', led, e, F', fun p hp => N' p (sub p hp), hoff, rfl, hm⟩
    cases f with
    | ret v => exact .ret p
    | brk => exact .brk p
    | next => exact .next (fin p)
    | cont => exact .cont (fin p)
  · rintro h' tk m' led F' N' _ ⟨rfl, hJ⟩
    exact done m' h' tk hJ F' N'
theorem my_iter_str {txt : Str} {t : Tok} (hh : A.handled = none) (F : Fr h₀ env.locals s.heap m₀) (N : News h₀ env.locals s.heap news) (J : Nat → (Str → Option Value) → Prop) (hj : J 0 m₀)
    (turn : ∀ i c u m₁ h tk own, txt.cps[i]? = some c → J i m₁ → Fr h₀ env.locals h (fun y => if y = x then some (.str ⟨#[c]⟩ u) else m₁ y) → News h₀ env.locals h (own ++ news) →
      wpAny (model prog w) A (execs body env) (InvPost h₀ env.locals (J (i + 1)) (own ++ news) { s with heap := h, toks := tk } Q) E { s with heap := h, toks := tk })
    (done : ∀ m₁ h tk, J txt.cps.size m₁ → Fr h₀ env.locals h m₁ → News h₀ env.locals h news → Q .next { s with heap := h, toks := tk }) :
    wpAny (model prog w) A (pyIter (.str txt t)) (fun it s₂ => LoopAtV prog w A h₀ env x body Q E it s₂) E s := by
  refine wpAny_pyIter_str fun o St W hst => ?_
  refine my_iter (W A hh) ?_ ?_ ?_ hst (F.push o) (fun p hp => ⟨Heap.get?_push_of_some _ (N p hp).1, (N p hp).2⟩) J hj ?_ ?_
  · intro hm
    exact absurd F.ns.lt ((List.mem_singleton.mp hm) ▸ Nat.lt_irrefl _)
  · intro b hb
    rw [List.mem_singleton.mp hb]
    exact next_is_new F
  · intro p hp hI
    exact absurd (Heap.lt_size (N p hp).1) ((List.mem_singleton.mp hI) ▸ Nat.lt_irrefl _)
  · rintro i v m₁ h tk own hin ⟨c, u, hc, rfl⟩ hJ F₁ N₁
    exact turn i c u m₁ h tk own hc hJ F₁ N₁
  · exact done
end
section
variable {prog : Program} {w : World} {A : Around} {E : Value → Shared → Prop} {s : Shared} {env : Env} {h₀ : Heap} {x y : Str} {body : List Stmt} {Q : Flow → Shared → Prop} {m₀ : Str → Option Value} {news : Led}
theorem my_str_acc {txt : Str} {t : Tok} {a₀ : Int} {t₀ : Tok} (g : Nat → Int) (hh : A.handled = none) (F : Fr h₀ env.locals s.heap m₀) (N : News h₀ env.locals s.heap news) (hy : m₀ y = some (.int a₀ t₀)) (hyx : y ≠ x) (h0 : g 0 = a₀)
    (turn : ∀ i c u tb h tk own, txt.cps[i]? = some c → Fr h₀ env.locals h (fun z => if z = x then some (.str ⟨#[c]⟩ u) else if z = y then some (.int (g i) tb) else m₀ z) → News h₀ env.locals h (own ++ news) →
      wpAny (model prog w) A (execs body env) (InvPost h₀ env.locals (fun m' => (∃ t', m' y = some (.int (g (i + 1)) t')) ∧ ∀ z, z ≠ x → z ≠ y → m' z = m₀ z) (own ++ news) { s with heap := h, toks := tk } Q) E { s with heap := h, toks := tk })
    (done : ∀ (u : Str → Option Value) tb h tk, Fr h₀ env.locals h (fun z => if z = x then u z else if z = y then some (.int (g txt.cps.size) tb) else m₀ z) → News h₀ env.locals h news → Q .next { s with heap := h, toks := tk }) :
    wpAny (model prog w) A (pyIter (.str txt t)) (fun it s₂ => LoopAtV prog w A h₀ env x body Q E it s₂) E s := by
  refine my_iter_str hh F N (fun i m => (∃ t', m y = some (.int (g i) t')) ∧ ∀ z, z ≠ x → z ≠ y → m z = m₀ z) ⟨⟨t₀, h0 ▸ hy⟩, fun _ _ _ => rfl⟩ ?_ ?_
  · rintro i c u m₁ h tk own hc ⟨⟨tb, hb⟩, hm⟩ F₁ N₁
    refine turn i c u tb h tk own hc ?_ N₁
    have e : (fun z => if z = x then some (Value.str ⟨#[c]⟩ u) else m₁ z) = fun z => if z = x then some (Value.str ⟨#[c]⟩ u) else if z = y then some (Value.int (g i) tb) else m₀ z := by
      funext z
      by_cases h1 : z = x
      · simp only [h1, if_true]
      · by_cases h2 : z = y
        · rw [if_neg h1, if_neg h1, if_pos h2, h2]; exact hb
        · rw [if_neg h1, if_neg h1, if_neg h2]; exact hm z h1 h2
    exact e ▸ F₁
  · rintro m₁ h tk ⟨⟨tb, hb⟩, hm⟩ F₁ N₁
    refine done m₁ tb h tk ?_ N₁
    have e : m₁ = fun z => if z = x then m₁ z else if z = y then some (Value.int (g txt.cps.size) tb) else m₀ z := by
      funext z
      by_cases h1 : z = x
      · rw [if_pos h1]
      · by_cases h2 : z = y
        · rw [if_neg h1, if_pos h2, h2]; exact hb
        · rw [if_neg h1, if_neg h2]; exact hm z h1 h2
    exact e ▸ F₁
end

end
section
theorem words_9001 : True := by
  k_with_none
  (k_with "@my enter" => (refine' code_def ?w9k1 ?w9k2 ?w9k3 ?w9k4 ?w9k5 ?w9kA ?w9kF ?w9kK ?w9k6 ?w9k7 ?w9k8 ?w9k9 ?w9kB ?_ ?w9c2 ?w9c3 ?w9c4 ?w9c5; (case w9kA => exact rfl); (case w9kF => exact rfl); (case w9kK => first | exact rfl | assumption); (case w9k1 => k_asm); (case w9k2 => k_asm); (case w9k3 => k_asm); (case w9k4 => k_asm); (case w9k5 => k_asm); (case w9k6 => k_is); (case w9k7 => k_is); (case w9k8 => ktr_room); (case w9k9 => first | exact BindsTo.of_eq rfl | exact binds_K (by k_in) rfl (by k_is) rfl rfl rfl); (case w9c5 => decide); (case w9kB => exact locs rfl); (case w9c2 => exact rfl); (case w9c3 => exact rfl); (case w9c4 => exact rfl); k_whole; intro g' L' h' FG' F' N' B' X' T'; (try dsimp only); (try k_lift B'); (try k_fold)))
  (k_with "@my enterC" => (refine' code_defC ?w9k1 ?w9k2 ?w9k3 ?w9k4 ?w9k5 ?w9kA ?w9kF ?w9kK ?w9k6 ?w9k7 ?w9k8 ?w9k9 ?w9kB ?w9kD ?_ ?w9c2 ?w9c3 ?w9c4; (case w9kA => exact rfl); (case w9kF => exact rfl); (case w9kK => first | exact rfl | assumption); (case w9k1 => k_asm); (case w9k2 => k_asm); (case w9k3 => k_asm); (case w9k4 => k_asm); (case w9k5 => k_asm); (case w9k6 => k_is); (case w9k7 => k_is); (case w9k8 => ktr_room); (case w9k9 => exact BindsTo.of_eq rfl); (case w9kB => exact rfl); (case w9kD => decide +kernel); (case w9c2 => exact rfl); (case w9c3 => exact rfl); (case w9c4 => exact rfl); k_whole; intro g' L' h' tk' cells' FG' F' N' Y' B' X' T' l1; k_cells Y'; (try simp only [List.cons_append, List.nil_append] at N'); (try dsimp only); (try k_lift B'); (try k_fold)))
  (k_with "@use led" => first | k_asm | exact News.sw1 (by k_asm) | exact News.sw2 (by k_asm) | exact News.sw3 (by k_asm) | exact News.sw4 (by k_asm) | exact News.sw5 (by k_asm) | exact News.sw6 (by k_asm) | exact News.sw7 (by k_asm) | exact News.sw8 (by k_asm) | exact News.sw9 (by k_asm) | exact News.sw10 (by k_asm) | exact News.sw11 (by k_asm) | exact News.sw12 (by k_asm) | exact News.sw13 (by k_asm) | exact News.sw14 (by k_asm) | exact News.sw15 (by k_asm) | exact News.sw16 (by k_asm) | exact News.sw17 (by k_asm) | exact News.sw18 (by k_asm) | exact News.sw19 (by k_asm) | exact News.sw20 (by k_asm) | exact News.sw21 (by k_asm) | exact News.sw22 (by k_asm) | exact News.sw23 (by k_asm) | exact News.sw24 (by k_asm) | exact News.sw25 (by k_asm) | exact News.sw26 (by k_asm))
  (k_with "k_all" => assumption)
  (k_with "@use pre 1" => first | assumption | omega | k_mem | k_all | rfl)
  (k_with "@use pre" => ((repeat' (first | (with_reducible refine And.intro ?_ ?_) | fail)); all_goals (walk_at "use pre 1")))
  (k_with "k_mem" => assumption)
  (k_with "@eval Call" => ((with_reducible show wpAny _ _ (eval (Expr.Call (Expr.Name _ _) _ [] _) _) _ _ _); k_dflt (refine Call_ ?_)))
  (k_with "@end led" => first | k_asm | exact News.d1 (by k_asm) | exact News.d2 (by k_asm) | exact News.d3 (by k_asm) | exact News.d4 (by k_asm) | exact News.d5 (by k_asm) | exact News.d6 (by k_asm) | exact News.d7 (by k_asm) | exact News.d8 (by k_asm) | exact News.d9 (by k_asm) | exact News.d10 (by k_asm) | exact News.d11 (by k_asm) | exact News.d12 (by k_asm))
  (k_with "@pyIter str" => k_extra "pyIter str")
  (k_with "@pyIter ref" => k_extra "pyIter ref")
  (k_with "@end led1" => first | k_asm | exact News.h1 (by k_asm) | exact News.h2 (by k_asm) | exact News.h3 (by k_asm) | exact News.h4 (by k_asm) | exact News.h5 (by k_asm) | exact News.h6 (by k_asm) | exact News.h7 (by k_asm) | exact News.h8 (by k_asm) | exact News.h9 (by k_asm))
  (k_with "@eval Name" => (k_here; k_dflt (first | (refine' nameX_L ?w9F ?w9v ?_ ?w9a ?w9b; (case w9F => k_asm); (case w9a => rfl); (case w9b => rfl); (case w9v => rfl); k_whole) | (refine' nameX_K ?w9F ?w9X ?w9T ?w9e ?_ ?w9a ?w9b; (case w9F => k_asm); (case w9X => k_asm); (case w9T => k_asm); (case w9a => rfl); (case w9b => rfl); (case w9e => k_is); k_whole) | (refine' nameX_B ?w9F ?w9X ?w9T ?w9e ?w9v ?w9n ?_ ?w9a ?w9b; (case w9F => k_asm); (case w9X => k_asm); (case w9T => k_asm); (case w9a => rfl); (case w9b => rfl); (case w9e => k_is); (case w9v => boot_fast); (case w9n => decide); k_whole))))
  (k_with "k_ne" => first | assumption | exact Nat.ne_of_gt (by assumption) | exact Nat.ne_of_lt (by assumption) | exact ne_p1 (by with_reducible assumption) | exact ne_p2 (by with_reducible assumption) | exact ne_p3 (by with_reducible assumption) | exact ne_p4 (by with_reducible assumption) | exact ne_p5 (by with_reducible assumption) | exact ne_p6 (by with_reducible assumption) | exact ne_p7 (by with_reducible assumption) | exact ne_p8 (by with_reducible assumption) | exact ne_q1 (by with_reducible assumption) | exact ne_q2 (by with_reducible assumption) | exact ne_q3 (by with_reducible assumption) | exact ne_q4 (by with_reducible assumption) | exact ne_q5 (by with_reducible assumption) | exact ne_q6 (by with_reducible assumption) | exact ne_q7 (by with_reducible assumption) | exact ne_q8 (by with_reducible assumption))
  trivial
theorem words_9002 : True := by
  (k_with "@my item" => (k_here; (with_reducible show wpAny _ _ (subscriptTail _ _ (Value.str _ _) (Value.int _ _)) _ _ _); k_dflt (refine' item_lit ?w9i0 ?_ ?w9i1 ?w9i2; (case w9i0 => decide +kernel); (case w9i1 => with_unfolding_all rfl); (case w9i2 => (intro _; with_unfolding_all rfl)))))
  (k_with "@subscriptTail Name Name str int" => walk_at "my item")
  (k_with "@subscriptTail Name BinOp str int" => walk_at "my item")
  (k_with "@storeName" => (k_here; ktx_write))
  (k_with "@compareOp Eq str" => (k_here; ktx_write))
  (k_with "@compareOp In str" => (k_here; ktx_write))
  (k_with "@compareOp GtE str" => (k_here; ktx_write))
  (k_with "@binaryOp Add str" => (k_here; ktx_write))
  (k_with "@call builtin:len" => (k_here; ktx_write))
  (k_with "@ite" => (k_closed; k_dflt (first | refine PySem.W.ite_pos (by decide +kernel) ?_ | refine PySem.W.ite_neg (by decide +kernel) ?_)))
  trivial
theorem c_trim0 (w : World) {led : Led} {tk : Tok} (_ : True) : Ctr w 87 1 led [.str (Str.ofString "1") tk] (fun r led' => ∃ t, led' = led ∧ r = .str (Str.ofString "1") t) := by
  unfold Ctr
  k_fill
  intro mean mg mb dp un gd cn cs a ccd cl outer A₀ base h₀ L m s Q E B F X N T hk hdp hun hret
  refine wpAny_call ?_
  k_dflt (walk_at "my enter")
  k_steps
  all_goals exact fin hret (by k_asm) (by walk_at "end led") ⟨_, rfl, congrArg (fun z => Value.str z _) (by decide +kernel)⟩

theorem c_trim1 (w : World) {led : Led} {tk : Tok} (_ : True) : Ctr w 87 1 led [.str (Str.ofString " 1 ") tk] (fun r led' => ∃ t, led' = led ∧ r = .str (Str.ofString "1") t) := by
  unfold Ctr
  k_fill
  intro mean mg mb dp un gd cn cs a ccd cl outer A₀ base h₀ L m s Q E B F X N T hk hdp hun hret
  refine wpAny_call ?_
  k_dflt (walk_at "my enter")
  k_steps
  all_goals exact fin hret (by k_asm) (by walk_at "end led") ⟨_, rfl, congrArg (fun z => Value.str z _) (by decide +kernel)⟩

theorem c_trim2 (w : World) {led : Led} {tk : Tok} (_ : True) : Ctr w 87 1 led [.str (Str.ofString "0.5") tk] (fun r led' => ∃ t, led' = led ∧ r = .str (Str.ofString "0.5") t) := by
  unfold Ctr
  k_fill
  intro mean mg mb dp un gd cn cs a ccd cl outer A₀ base h₀ L m s Q E B F X N T hk hdp hun hret
  refine wpAny_call ?_
  k_dflt (walk_at "my enter")
  k_steps
  all_goals exact fin hret (by k_asm) (by walk_at "end led") ⟨_, rfl, congrArg (fun z => Value.str z _) (by decide +kernel)⟩

theorem c_trim3 (w : World) {led : Led} {tk : Tok} (_ : True) : Ctr w 87 1 led [.str (Str.ofString "-1.5") tk] (fun r led' => ∃ t, led' = led ∧ r = .str (Str.ofString "-1.5") t) := by
  unfold Ctr
  k_fill
  intro mean mg mb dp un gd cn cs a ccd cl outer A₀ base h₀ L m s Q E B F X N T hk hdp hun hret
  refine wpAny_call ?_
  k_dflt (walk_at "my enter")
  k_steps
  all_goals exact fin hret (by k_asm) (by walk_at "end led") ⟨_, rfl, congrArg (fun z => Value.str z _) (by decide +kernel)⟩

theorem c_trim4 (w : World) {led : Led} {tk : Tok} (_ : True) : Ctr w 87 1 led [.str (Str.ofString "2") tk] (fun r led' => ∃ t, led' = led ∧ r = .str (Str.ofString "2") t) := by
  unfold Ctr
  k_fill
  intro mean mg mb dp un gd cn cs a ccd cl outer A₀ base h₀ L m s Q E B F X N T hk hdp hun hret
  refine wpAny_call ?_
  k_dflt (walk_at "my enter")
  k_steps
  all_goals exact fin hret (by k_asm) (by walk_at "end led") ⟨_, rfl, congrArg (fun z => Value.str z _) (by decide +kernel)⟩

theorem c_trim5 (w : World) {led : Led} {tk : Tok} (_ : True) : Ctr w 87 1 led [.str (Str.ofString "02.0") tk] (fun r led' => ∃ t, led' = led ∧ r = .str (Str.ofString "02.0") t) := by
  unfold Ctr
  k_fill
  intro mean mg mb dp un gd cn cs a ccd cl outer A₀ base h₀ L m s Q E B F X N T hk hdp hun hret
  refine wpAny_call ?_
  k_dflt (walk_at "my enter")
  k_steps
  all_goals exact fin hret (by k_asm) (by walk_at "end led") ⟨_, rfl, congrArg (fun z => Value.str z _) (by decide +kernel)⟩

theorem c_trim6 (w : World) {led : Led} {tk : Tok} (_ : True) : Ctr w 87 1 led [.str (Str.ofString "") tk] (fun r led' => ∃ t, led' = led ∧ r = .str (Str.ofString "") t) := by
  unfold Ctr
  k_fill
  intro mean mg mb dp un gd cn cs a ccd cl outer A₀ base h₀ L m s Q E B F X N T hk hdp hun hret
  refine wpAny_call ?_
  k_dflt (walk_at "my enter")
  k_steps
  all_goals exact fin hret (by k_asm) (by walk_at "end led") ⟨_, rfl, congrArg (fun z => Value.str z _) (by decide +kernel)⟩

theorem c_trim7 (w : World) {led : Led} {tk : Tok} (_ : True) : Ctr w 87 1 led [.str (Str.ofString "x") tk] (fun r led' => ∃ t, led' = led ∧ r = .str (Str.ofString "x") t) := by
  unfold Ctr
  k_fill
  intro mean mg mb dp un gd cn cs a ccd cl outer A₀ base h₀ L m s Q E B F X N T hk hdp hun hret
  refine wpAny_call ?_
  k_dflt (walk_at "my enter")
  k_steps
  all_goals exact fin hret (by k_asm) (by walk_at "end led") ⟨_, rfl, congrArg (fun z => Value.str z _) (by decide +kernel)⟩

theorem c_trim8 (w : World) {led : Led} {tk : Tok} (_ : True) : Ctr w 87 1 led [.str (Str.ofString "1e0") tk] (fun r led' => ∃ t, led' = led ∧ r = .str (Str.ofString "1e0") t) := by
  unfold Ctr
  k_fill
  intro mean mg mb dp un gd cn cs a ccd cl outer A₀ base h₀ L m s Q E B F X N T hk hdp hun hret
  refine wpAny_call ?_
  k_dflt (walk_at "my enter")
  k_steps
  all_goals exact fin hret (by k_asm) (by walk_at "end led") ⟨_, rfl, congrArg (fun z => Value.str z _) (by decide +kernel)⟩

theorem c_trim9 (w : World) {led : Led} {tk : Tok} (_ : True) : Ctr w 87 1 led [.str (Str.ofString "+1") tk] (fun r led' => ∃ t, led' = led ∧ r = .str (Str.ofString "+1") t) := by
  unfold Ctr
  k_fill
  intro mean mg mb dp un gd cn cs a ccd cl outer A₀ base h₀ L m s Q E B F X N T hk hdp hun hret
  refine wpAny_call ?_
  k_dflt (walk_at "my enter")
  k_steps
  all_goals exact fin hret (by k_asm) (by walk_at "end led") ⟨_, rfl, congrArg (fun z => Value.str z _) (by decide +kernel)⟩

theorem c_trim10 (w : World) {led : Led} {tk : Tok} (_ : True) : Ctr w 87 1 led [.str (Str.ofString "0") tk] (fun r led' => ∃ t, led' = led ∧ r = .str (Str.ofString "0") t) := by
  unfold Ctr
  k_fill
  intro mean mg mb dp un gd cn cs a ccd cl outer A₀ base h₀ L m s Q E B F X N T hk hdp hun hret
  refine wpAny_call ?_
  k_dflt (walk_at "my enter")
  k_steps
  all_goals exact fin hret (by k_asm) (by walk_at "end led") ⟨_, rfl, congrArg (fun z => Value.str z _) (by decide +kernel)⟩

theorem c_trim11 (w : World) {led : Led} {tk : Tok} (_ : True) : Ctr w 87 1 led [.str (Str.ofString "-0") tk] (fun r led' => ∃ t, led' = led ∧ r = .str (Str.ofString "-0") t) := by
  unfold Ctr
  k_fill
  intro mean mg mb dp un gd cn cs a ccd cl outer A₀ base h₀ L m s Q E B F X N T hk hdp hun hret
  refine wpAny_call ?_
  k_dflt (walk_at "my enter")
  k_steps
  all_goals exact fin hret (by k_asm) (by walk_at "end led") ⟨_, rfl, congrArg (fun z => Value.str z _) (by decide +kernel)⟩

end
section
theorem words_10001 : True := by
  k_with_none
  (k_with "@my enter" => (refine' code_def ?w9k1 ?w9k2 ?w9k3 ?w9k4 ?w9k5 ?w9kA ?w9kF ?w9kK ?w9k6 ?w9k7 ?w9k8 ?w9k9 ?w9kB ?_ ?w9c2 ?w9c3 ?w9c4 ?w9c5; (case w9kA => exact rfl); (case w9kF => exact rfl); (case w9kK => first | exact rfl | assumption); (case w9k1 => k_asm); (case w9k2 => k_asm); (case w9k3 => k_asm); (case w9k4 => k_asm); (case w9k5 => k_asm); (case w9k6 => k_is); (case w9k7 => k_is); (case w9k8 => ktr_room); (case w9k9 => first | exact BindsTo.of_eq rfl | exact binds_K (by k_in) rfl (by k_is) rfl rfl rfl); (case w9c5 => decide); (case w9kB => exact locs rfl); (case w9c2 => exact rfl); (case w9c3 => exact rfl); (case w9c4 => exact rfl); k_whole; intro g' L' h' FG' F' N' B' X' T'; (try dsimp only); (try k_lift B'); (try k_fold)))
  (k_with "@my enterC" => (refine' code_defC ?w9k1 ?w9k2 ?w9k3 ?w9k4 ?w9k5 ?w9kA ?w9kF ?w9kK ?w9k6 ?w9k7 ?w9k8 ?w9k9 ?w9kB ?w9kD ?_ ?w9c2 ?w9c3 ?w9c4; (case w9kA => exact rfl); (case w9kF => exact rfl); (case w9kK => first | exact rfl | assumption); (case w9k1 => k_asm); (case w9k2 => k_asm); (case w9k3 => k_asm); (case w9k4 => k_asm); (case w9k5 => k_asm); (case w9k6 => k_is); (case w9k7 => k_is); (case w9k8 => ktr_room); (case w9k9 => exact BindsTo.of_eq rfl); (case w9kB => exact rfl); (case w9kD => decide +kernel); (case w9c2 => exact rfl); (case w9c3 => exact rfl); (case w9c4 => exact rfl); k_whole; intro g' L' h' tk' cells' FG' F' N' Y' B' X' T' l1; k_cells Y'; (try simp only [List.cons_append, List.nil_append] at N'); (try dsimp only); (try k_lift B'); (try k_fold)))
  (k_with "@use led" => first | k_asm | exact News.sw1 (by k_asm) | exact News.sw2 (by k_asm) | exact News.sw3 (by k_asm) | exact News.sw4 (by k_asm) | exact News.sw5 (by k_asm) | exact News.sw6 (by k_asm) | exact News.sw7 (by k_asm) | exact News.sw8 (by k_asm) | exact News.sw9 (by k_asm) | exact News.sw10 (by k_asm) | exact News.sw11 (by k_asm) | exact News.sw12 (by k_asm) | exact News.sw13 (by k_asm) | exact News.sw14 (by k_asm) | exact News.sw15 (by k_asm) | exact News.sw16 (by k_asm) | exact News.sw17 (by k_asm) | exact News.sw18 (by k_asm) | exact News.sw19 (by k_asm) | exact News.sw20 (by k_asm) | exact News.sw21 (by k_asm) | exact News.sw22 (by k_asm) | exact News.sw23 (by k_asm) | exact News.sw24 (by k_asm) | exact News.sw25 (by k_asm) | exact News.sw26 (by k_asm))
  (k_with "k_all" => assumption)
  (k_with "@use pre 1" => first | assumption | omega | k_mem | k_all | rfl)
  (k_with "@use pre" => ((repeat' (first | (with_reducible refine And.intro ?_ ?_) | fail)); all_goals (walk_at "use pre 1")))
  (k_with "k_mem" => assumption)
  (k_with "@eval Call" => ((with_reducible show wpAny _ _ (eval (Expr.Call (Expr.Name _ _) _ [] _) _) _ _ _); k_dflt (refine Call_ ?_)))
  (k_with "@end led" => first | k_asm | exact News.d1 (by k_asm) | exact News.d2 (by k_asm) | exact News.d3 (by k_asm) | exact News.d4 (by k_asm) | exact News.d5 (by k_asm) | exact News.d6 (by k_asm) | exact News.d7 (by k_asm) | exact News.d8 (by k_asm) | exact News.d9 (by k_asm) | exact News.d10 (by k_asm) | exact News.d11 (by k_asm) | exact News.d12 (by k_asm))
  (k_with "@pyIter str" => k_extra "pyIter str")
  (k_with "@pyIter ref" => k_extra "pyIter ref")
  (k_with "@end led1" => first | k_asm | exact News.h1 (by k_asm) | exact News.h2 (by k_asm) | exact News.h3 (by k_asm) | exact News.h4 (by k_asm) | exact News.h5 (by k_asm) | exact News.h6 (by k_asm) | exact News.h7 (by k_asm) | exact News.h8 (by k_asm) | exact News.h9 (by k_asm))
  (k_with "@eval Name" => (k_here; k_dflt (first | (refine' nameX_L ?w9F ?w9v ?_ ?w9a ?w9b; (case w9F => k_asm); (case w9a => rfl); (case w9b => rfl); (case w9v => rfl); k_whole) | (refine' nameX_K ?w9F ?w9X ?w9T ?w9e ?_ ?w9a ?w9b; (case w9F => k_asm); (case w9X => k_asm); (case w9T => k_asm); (case w9a => rfl); (case w9b => rfl); (case w9e => k_is); k_whole) | (refine' nameX_B ?w9F ?w9X ?w9T ?w9e ?w9v ?w9n ?_ ?w9a ?w9b; (case w9F => k_asm); (case w9X => k_asm); (case w9T => k_asm); (case w9a => rfl); (case w9b => rfl); (case w9e => k_is); (case w9v => boot_fast); (case w9n => decide); k_whole))))
  (k_with "k_ne" => first | assumption | exact Nat.ne_of_gt (by assumption) | exact Nat.ne_of_lt (by assumption) | exact ne_p1 (by with_reducible assumption) | exact ne_p2 (by with_reducible assumption) | exact ne_p3 (by with_reducible assumption) | exact ne_p4 (by with_reducible assumption) | exact ne_p5 (by with_reducible assumption) | exact ne_p6 (by with_reducible assumption) | exact ne_p7 (by with_reducible assumption) | exact ne_p8 (by with_reducible assumption) | exact ne_q1 (by with_reducible assumption) | exact ne_q2 (by with_reducible assumption) | exact ne_q3 (by with_reducible assumption) | exact ne_q4 (by with_reducible assumption) | exact ne_q5 (by with_reducible assumption) | exact ne_q6 (by with_reducible assumption) | exact ne_q7 (by with_reducible assumption) | exact ne_q8 (by with_reducible assumption))
  trivial
theorem words_10002 : True := by
  (k_with "@my item" => (k_here; (with_reducible show wpAny _ _ (subscriptTail _ _ (Value.str _ _) (Value.int _ _)) _ _ _); k_dflt (refine' item_lit ?w9i0 ?_ ?w9i1 ?w9i2; (case w9i0 => decide +kernel); (case w9i1 => with_unfolding_all rfl); (case w9i2 => (intro _; with_unfolding_all rfl)))))
  (k_with "@subscriptTail Name Name str int" => walk_at "my item")
  (k_with "@subscriptTail Name BinOp str int" => walk_at "my item")
  (k_with "@storeName" => (k_here; ktx_write))
  (k_with "@compareOp Eq str" => (k_here; ktx_write))
  (k_with "@compareOp In str" => (k_here; ktx_write))
  (k_with "@compareOp GtE str" => (k_here; ktx_write))
  (k_with "@binaryOp Add str" => (k_here; ktx_write))
  (k_with "@call builtin:len" => (k_here; ktx_write))
  (k_with "@ite" => (k_closed; k_dflt (first | refine PySem.W.ite_pos (by decide +kernel) ?_ | refine PySem.W.ite_neg (by decide +kernel) ?_)))
  trivial
theorem c_de0 (w : World) {led : Led} {tk tk2 : Tok} (_ : True) : Ctr w 80 1 led [.str (Str.ofString "1") tk, .int 0 tk2] (fun r led' => ∃ t, led' = led ∧ r = .int 1 t) := by
  unfold Ctr
  k_fill
  intro mean mg mb dp un gd cn cs a ccd cl outer A₀ base h₀ L m s Q E B F X N T hk hdp hun hret
  refine wpAny_call ?_
  k_dflt (walk_at "my enter")
  k_steps
  all_goals exact fin hret (by k_asm) (by walk_at "end led") ⟨_, rfl, congrArg (fun z => Value.int z _) (by decide +kernel)⟩

theorem c_de1 (w : World) {led : Led} {tk tk2 : Tok} (_ : True) : Ctr w 80 1 led [.str (Str.ofString "0.5") tk, .int 0 tk2] (fun r led' => ∃ t, led' = led ∧ r = .int 1 t) := by
  unfold Ctr
  k_fill
  intro mean mg mb dp un gd cn cs a ccd cl outer A₀ base h₀ L m s Q E B F X N T hk hdp hun hret
  refine wpAny_call ?_
  k_dflt (walk_at "my enter")
  k_steps
  all_goals exact fin hret (by k_asm) (by walk_at "end led") ⟨_, rfl, congrArg (fun z => Value.int z _) (by decide +kernel)⟩

theorem c_de2 (w : World) {led : Led} {tk tk2 : Tok} (_ : True) : Ctr w 80 1 led [.str (Str.ofString "0.5") tk, .int 2 tk2] (fun r led' => ∃ t, led' = led ∧ r = .int 3 t) := by
  unfold Ctr
  k_fill
  intro mean mg mb dp un gd cn cs a ccd cl outer A₀ base h₀ L m s Q E B F X N T hk hdp hun hret
  refine wpAny_call ?_
  k_dflt (walk_at "my enter")
  k_steps
  all_goals exact fin hret (by k_asm) (by walk_at "end led") ⟨_, rfl, congrArg (fun z => Value.int z _) (by decide +kernel)⟩

theorem c_de3 (w : World) {led : Led} {tk tk2 : Tok} (_ : True) : Ctr w 80 1 led [.str (Str.ofString "-1.5") tk, .int 1 tk2] (fun r led' => ∃ t, led' = led ∧ r = .int 2 t) := by
  unfold Ctr
  k_fill
  intro mean mg mb dp un gd cn cs a ccd cl outer A₀ base h₀ L m s Q E B F X N T hk hdp hun hret
  refine wpAny_call ?_
  k_dflt (walk_at "my enter")
  k_steps
  all_goals exact fin hret (by k_asm) (by walk_at "end led") ⟨_, rfl, congrArg (fun z => Value.int z _) (by decide +kernel)⟩

theorem c_de4 (w : World) {led : Led} {tk tk2 : Tok} (_ : True) : Ctr w 80 1 led [.str (Str.ofString "-1.5") tk, .int 3 tk2] (fun r led' => ∃ t, led' = led ∧ r = .int 4 t) := by
  unfold Ctr
  k_fill
  intro mean mg mb dp un gd cn cs a ccd cl outer A₀ base h₀ L m s Q E B F X N T hk hdp hun hret
  refine wpAny_call ?_
  k_dflt (walk_at "my enter")
  k_steps
  all_goals exact fin hret (by k_asm) (by walk_at "end led") ⟨_, rfl, congrArg (fun z => Value.int z _) (by decide +kernel)⟩

theorem c_de5 (w : World) {led : Led} {tk tk2 : Tok} (_ : True) : Ctr w 80 1 led [.str (Str.ofString "2") tk, .int 0 tk2] (fun r led' => ∃ t, led' = led ∧ r = .int 1 t) := by
  unfold Ctr
  k_fill
  intro mean mg mb dp un gd cn cs a ccd cl outer A₀ base h₀ L m s Q E B F X N T hk hdp hun hret
  refine wpAny_call ?_
  k_dflt (walk_at "my enter")
  k_steps
  all_goals exact fin hret (by k_asm) (by walk_at "end led") ⟨_, rfl, congrArg (fun z => Value.int z _) (by decide +kernel)⟩

theorem c_de6 (w : World) {led : Led} {tk tk2 : Tok} (_ : True) : Ctr w 80 1 led [.str (Str.ofString "02.0") tk, .int 0 tk2] (fun r led' => ∃ t, led' = led ∧ r = .int 2 t) := by
  unfold Ctr
  k_fill
  intro mean mg mb dp un gd cn cs a ccd cl outer A₀ base h₀ L m s Q E B F X N T hk hdp hun hret
  refine wpAny_call ?_
  k_dflt (walk_at "my enter")
  k_steps
  all_goals exact fin hret (by k_asm) (by walk_at "end led") ⟨_, rfl, congrArg (fun z => Value.int z _) (by decide +kernel)⟩

theorem c_de7 (w : World) {led : Led} {tk tk2 : Tok} (_ : True) : Ctr w 80 1 led [.str (Str.ofString "02.0") tk, .int 3 tk2] (fun r led' => ∃ t, led' = led ∧ r = .int 4 t) := by
  unfold Ctr
  k_fill
  intro mean mg mb dp un gd cn cs a ccd cl outer A₀ base h₀ L m s Q E B F X N T hk hdp hun hret
  refine wpAny_call ?_
  k_dflt (walk_at "my enter")
  k_steps
  all_goals exact fin hret (by k_asm) (by walk_at "end led") ⟨_, rfl, congrArg (fun z => Value.int z _) (by decide +kernel)⟩

theorem c_de8 (w : World) {led : Led} {tk tk2 : Tok} (_ : True) : Ctr w 80 1 led [.str (Str.ofString "") tk, .int 0 tk2] (fun r led' => ∃ t, led' = led ∧ r = .int 0 t) := by
  unfold Ctr
  k_fill
  intro mean mg mb dp un gd cn cs a ccd cl outer A₀ base h₀ L m s Q E B F X N T hk hdp hun hret
  refine wpAny_call ?_
  k_dflt (walk_at "my enter")
  k_steps
  all_goals exact fin hret (by k_asm) (by walk_at "end led") ⟨_, rfl, congrArg (fun z => Value.int z _) (by decide +kernel)⟩

theorem c_de9 (w : World) {led : Led} {tk tk2 : Tok} (_ : True) : Ctr w 80 1 led [.str (Str.ofString "x") tk, .int 0 tk2] (fun r led' => ∃ t, led' = led ∧ r = .int 0 t) := by
  unfold Ctr
  k_fill
  intro mean mg mb dp un gd cn cs a ccd cl outer A₀ base h₀ L m s Q E B F X N T hk hdp hun hret
  refine wpAny_call ?_
  k_dflt (walk_at "my enter")
  k_steps
  all_goals exact fin hret (by k_asm) (by walk_at "end led") ⟨_, rfl, congrArg (fun z => Value.int z _) (by decide +kernel)⟩

theorem c_de10 (w : World) {led : Led} {tk tk2 : Tok} (_ : True) : Ctr w 80 1 led [.str (Str.ofString "1e0") tk, .int 0 tk2] (fun r led' => ∃ t, led' = led ∧ r = .int 1 t) := by
  unfold Ctr
  k_fill
  intro mean mg mb dp un gd cn cs a ccd cl outer A₀ base h₀ L m s Q E B F X N T hk hdp hun hret
  refine wpAny_call ?_
  k_dflt (walk_at "my enter")
  k_steps
  all_goals exact fin hret (by k_asm) (by walk_at "end led") ⟨_, rfl, congrArg (fun z => Value.int z _) (by decide +kernel)⟩

theorem c_de11 (w : World) {led : Led} {tk tk2 : Tok} (_ : True) : Ctr w 80 1 led [.str (Str.ofString "+1") tk, .int 0 tk2] (fun r led' => ∃ t, led' = led ∧ r = .int 0 t) := by
  unfold Ctr
  k_fill
  intro mean mg mb dp un gd cn cs a ccd cl outer A₀ base h₀ L m s Q E B F X N T hk hdp hun hret
  refine wpAny_call ?_
  k_dflt (walk_at "my enter")
  k_steps
  all_goals exact fin hret (by k_asm) (by walk_at "end led") ⟨_, rfl, congrArg (fun z => Value.int z _) (by decide +kernel)⟩

theorem c_de12 (w : World) {led : Led} {tk tk2 : Tok} (_ : True) : Ctr w 80 1 led [.str (Str.ofString "0") tk, .int 0 tk2] (fun r led' => ∃ t, led' = led ∧ r = .int 1 t) := by
  unfold Ctr
  k_fill
  intro mean mg mb dp un gd cn cs a ccd cl outer A₀ base h₀ L m s Q E B F X N T hk hdp hun hret
  refine wpAny_call ?_
  k_dflt (walk_at "my enter")
  k_steps
  all_goals exact fin hret (by k_asm) (by walk_at "end led") ⟨_, rfl, congrArg (fun z => Value.int z _) (by decide +kernel)⟩

theorem c_de13 (w : World) {led : Led} {tk tk2 : Tok} (_ : True) : Ctr w 80 1 led [.str (Str.ofString "-0") tk, .int 1 tk2] (fun r led' => ∃ t, led' = led ∧ r = .int 2 t) := by
  unfold Ctr
  k_fill
  intro mean mg mb dp un gd cn cs a ccd cl outer A₀ base h₀ L m s Q E B F X N T hk hdp hun hret
  refine wpAny_call ?_
  k_dflt (walk_at "my enter")
  k_steps
  all_goals exact fin hret (by k_asm) (by walk_at "end led") ⟨_, rfl, congrArg (fun z => Value.int z _) (by decide +kernel)⟩

end
section
theorem words_11001 : True := by
  k_with_none
  (k_with "@my enter" => (refine' code_def ?w9k1 ?w9k2 ?w9k3 ?w9k4 ?w9k5 ?w9kA ?w9kF ?w9kK ?w9k6 ?w9k7 ?w9k8 ?w9k9 ?w9kB ?_ ?w9c2 ?w9c3 ?w9c4 ?w9c5; (case w9kA => exact rfl); (case w9kF => exact rfl); (case w9kK => first | exact rfl | assumption); (case w9k1 => k_asm); (case w9k2 => k_asm); (case w9k3 => k_asm); (case w9k4 => k_asm); (case w9k5 => k_asm); (case w9k6 => k_is); (case w9k7 => k_is); (case w9k8 => ktr_room); (case w9k9 => first | exact BindsTo.of_eq rfl | exact binds_K (by k_in) rfl (by k_is) rfl rfl rfl); (case w9c5 => decide); (case w9kB => exact locs rfl); (case w9c2 => exact rfl); (case w9c3 => exact rfl); (case w9c4 => exact rfl); k_whole; intro g' L' h' FG' F' N' B' X' T'; (try dsimp only); (try k_lift B'); (try k_fold)))
  (k_with "@my enterC" => (refine' code_defC ?w9k1 ?w9k2 ?w9k3 ?w9k4 ?w9k5 ?w9kA ?w9kF ?w9kK ?w9k6 ?w9k7 ?w9k8 ?w9k9 ?w9kB ?w9kD ?_ ?w9c2 ?w9c3 ?w9c4; (case w9kA => exact rfl); (case w9kF => exact rfl); (case w9kK => first | exact rfl | assumption); (case w9k1 => k_asm); (case w9k2 => k_asm); (case w9k3 => k_asm); (case w9k4 => k_asm); (case w9k5 => k_asm); (case w9k6 => k_is); (case w9k7 => k_is); (case w9k8 => ktr_room); (case w9k9 => exact BindsTo.of_eq rfl); (case w9kB => exact rfl); (case w9kD => decide +kernel); (case w9c2 => exact rfl); (case w9c3 => exact rfl); (case w9c4 => exact rfl); k_whole; intro g' L' h' tk' cells' FG' F' N' Y' B' X' T' l1; k_cells Y'; (try simp only [List.cons_append, List.nil_append] at N'); (try dsimp only); (try k_lift B'); (try k_fold)))
  (k_with "@use led" => first | k_asm | exact News.sw1 (by k_asm) | exact News.sw2 (by k_asm) | exact News.sw3 (by k_asm) | exact News.sw4 (by k_asm) | exact News.sw5 (by k_asm) | exact News.sw6 (by k_asm) | exact News.sw7 (by k_asm) | exact News.sw8 (by k_asm) | exact News.sw9 (by k_asm) | exact News.sw10 (by k_asm) | exact News.sw11 (by k_asm) | exact News.sw12 (by k_asm) | exact News.sw13 (by k_asm) | exact News.sw14 (by k_asm) | exact News.sw15 (by k_asm) | exact News.sw16 (by k_asm) | exact News.sw17 (by k_asm) | exact News.sw18 (by k_asm) | exact News.sw19 (by k_asm) | exact News.sw20 (by k_asm) | exact News.sw21 (by k_asm) | exact News.sw22 (by k_asm) | exact News.sw23 (by k_asm) | exact News.sw24 (by k_asm) | exact News.sw25 (by k_asm) | exact News.sw26 (by k_asm))
  (k_with "k_all" => assumption)
  (k_with "@use pre 1" => first | assumption | omega | k_mem | k_all | rfl)
  (k_with "@use pre" => ((repeat' (first | (with_reducible refine And.intro ?_ ?_) | fail)); all_goals (walk_at "use pre 1")))
  (k_with "k_mem" => assumption)
  (k_with "@eval Call" => ((with_reducible show wpAny _ _ (eval (Expr.Call (Expr.Name _ _) _ [] _) _) _ _ _); k_dflt (refine Call_ ?_)))
  (k_with "@end led" => first | k_asm | exact News.d1 (by k_asm) | exact News.d2 (by k_asm) | exact News.d3 (by k_asm) | exact News.d4 (by k_asm) | exact News.d5 (by k_asm) | exact News.d6 (by k_asm) | exact News.d7 (by k_asm) | exact News.d8 (by k_asm) | exact News.d9 (by k_asm) | exact News.d10 (by k_asm) | exact News.d11 (by k_asm) | exact News.d12 (by k_asm))
  (k_with "@pyIter str" => k_extra "pyIter str")
  (k_with "@pyIter ref" => k_extra "pyIter ref")
  (k_with "@end led1" => first | k_asm | exact News.h1 (by k_asm) | exact News.h2 (by k_asm) | exact News.h3 (by k_asm) | exact News.h4 (by k_asm) | exact News.h5 (by k_asm) | exact News.h6 (by k_asm) | exact News.h7 (by k_asm) | exact News.h8 (by k_asm) | exact News.h9 (by k_asm))
  (k_with "@eval Name" => (k_here; k_dflt (first | (refine' nameX_L ?w9F ?w9v ?_ ?w9a ?w9b; (case w9F => k_asm); (case w9a => rfl); (case w9b => rfl); (case w9v => rfl); k_whole) | (refine' nameX_K ?w9F ?w9X ?w9T ?w9e ?_ ?w9a ?w9b; (case w9F => k_asm); (case w9X => k_asm); (case w9T => k_asm); (case w9a => rfl); (case w9b => rfl); (case w9e => k_is); k_whole) | (refine' nameX_B ?w9F ?w9X ?w9T ?w9e ?w9v ?w9n ?_ ?w9a ?w9b; (case w9F => k_asm); (case w9X => k_asm); (case w9T => k_asm); (case w9a => rfl); (case w9b => rfl); (case w9e => k_is); (case w9v => boot_fast); (case w9n => decide); k_whole))))
  (k_with "k_ne" => first | assumption | exact Nat.ne_of_gt (by assumption) | exact Nat.ne_of_lt (by assumption) | exact ne_p1 (by with_reducible assumption) | exact ne_p2 (by with_reducible assumption) | exact ne_p3 (by with_reducible assumption) | exact ne_p4 (by with_reducible assumption) | exact ne_p5 (by with_reducible assumption) | exact ne_p6 (by with_reducible assumption) | exact ne_p7 (by with_reducible assumption) | exact ne_p8 (by with_reducible assumption) | exact ne_q1 (by with_reducible assumption) | exact ne_q2 (by with_reducible assumption) | exact ne_q3 (by with_reducible assumption) | exact ne_q4 (by with_reducible assumption) | exact ne_q5 (by with_reducible assumption) | exact ne_q6 (by with_reducible assumption) | exact ne_q7 (by with_reducible assumption) | exact ne_q8 (by with_reducible assumption))
  trivial
theorem words_11002 : True := by
  (k_with "@my item" => (k_here; (with_reducible show wpAny _ _ (subscriptTail _ _ (Value.str _ _) (Value.int _ _)) _ _ _); k_dflt (refine' item_lit ?w9i0 ?_ ?w9i1 ?w9i2; (case w9i0 => decide +kernel); (case w9i1 => with_unfolding_all rfl); (case w9i2 => (intro _; with_unfolding_all rfl)))))
  (k_with "@subscriptTail Name Name str int" => walk_at "my item")
  (k_with "@subscriptTail Name BinOp str int" => walk_at "my item")
  (k_with "@storeName" => (k_here; ktx_write))
  (k_with "@compareOp Eq str" => (k_here; ktx_write))
  (k_with "@compareOp In str" => (k_here; ktx_write))
  (k_with "@compareOp GtE str" => (k_here; ktx_write))
  (k_with "@binaryOp Add str" => (k_here; ktx_write))
  (k_with "@call builtin:len" => (k_here; ktx_write))
  (k_with "@ite" => (k_closed; k_dflt (first | refine PySem.W.ite_pos (by decide +kernel) ?_ | refine PySem.W.ite_neg (by decide +kernel) ?_)))
  trivial
theorem c_gcd0 (w : World) {led : Led} {tk tk2 : Tok} (_ : True) : Ctr w 30 1 led [.int 1 tk, .int 1 tk2] (fun r led' => ∃ t, led' = led ∧ r = .int 1 t) := by
  unfold Ctr
  k_fill
  intro mean mg mb dp un gd cn cs a ccd cl outer A₀ base h₀ L m s Q E B F X N T hk hdp hun hret
  refine wpAny_call ?_
  k_dflt (walk_at "my enter")
  k_steps
  all_goals exact fin hret (by k_asm) (by walk_at "end led") ⟨_, rfl, congrArg (fun z => Value.int z _) (by decide +kernel)⟩

theorem c_gcd1 (w : World) {led : Led} {tk tk2 : Tok} (_ : True) : Ctr w 30 1 led [.int 5 tk, .int 10 tk2] (fun r led' => ∃ t, led' = led ∧ r = .int 5 t) := by
  unfold Ctr
  k_fill
  intro mean mg mb dp un gd cn cs a ccd cl outer A₀ base h₀ L m s Q E B F X N T hk hdp hun hret
  refine wpAny_call ?_
  k_dflt (walk_at "my enter")
  k_steps
  all_goals exact fin hret (by k_asm) (by walk_at "end led") ⟨_, rfl, congrArg (fun z => Value.int z _) (by decide +kernel)⟩

theorem c_gcd2 (w : World) {led : Led} {tk tk2 : Tok} (_ : True) : Ctr w 30 1 led [.int 15 tk, .int 10 tk2] (fun r led' => ∃ t, led' = led ∧ r = .int 5 t) := by
  unfold Ctr
  k_fill
  intro mean mg mb dp un gd cn cs a ccd cl outer A₀ base h₀ L m s Q E B F X N T hk hdp hun hret
  refine wpAny_call ?_
  k_dflt (walk_at "my enter")
  k_steps
  all_goals exact fin hret (by k_asm) (by walk_at "end led") ⟨_, rfl, congrArg (fun z => Value.int z _) (by decide +kernel)⟩

theorem c_gcd3 (w : World) {led : Led} {tk tk2 : Tok} (_ : True) : Ctr w 30 1 led [.int 2 tk, .int 1 tk2] (fun r led' => ∃ t, led' = led ∧ r = .int 1 t) := by
  unfold Ctr
  k_fill
  intro mean mg mb dp un gd cn cs a ccd cl outer A₀ base h₀ L m s Q E B F X N T hk hdp hun hret
  refine wpAny_call ?_
  k_dflt (walk_at "my enter")
  k_steps
  all_goals exact fin hret (by k_asm) (by walk_at "end led") ⟨_, rfl, congrArg (fun z => Value.int z _) (by decide +kernel)⟩

theorem c_gcd4 (w : World) {led : Led} {tk tk2 : Tok} (_ : True) : Ctr w 30 1 led [.int 20 tk, .int 10 tk2] (fun r led' => ∃ t, led' = led ∧ r = .int 10 t) := by
  unfold Ctr
  k_fill
  intro mean mg mb dp un gd cn cs a ccd cl outer A₀ base h₀ L m s Q E B F X N T hk hdp hun hret
  refine wpAny_call ?_
  k_dflt (walk_at "my enter")
  k_steps
  all_goals exact fin hret (by k_asm) (by walk_at "end led") ⟨_, rfl, congrArg (fun z => Value.int z _) (by decide +kernel)⟩

theorem c_gcd5 (w : World) {led : Led} {tk tk2 : Tok} (_ : True) : Ctr w 30 1 led [.int 0 tk, .int 1 tk2] (fun r led' => ∃ t, led' = led ∧ r = .int 1 t) := by
  unfold Ctr
  k_fill
  intro mean mg mb dp un gd cn cs a ccd cl outer A₀ base h₀ L m s Q E B F X N T hk hdp hun hret
  refine wpAny_call ?_
  k_dflt (walk_at "my enter")
  k_steps
  all_goals exact fin hret (by k_asm) (by walk_at "end led") ⟨_, rfl, congrArg (fun z => Value.int z _) (by decide +kernel)⟩

end
section
theorem words_12001 : True := by
  k_with_none
  (k_with "@my enter" => (refine' code_def ?w9k1 ?w9k2 ?w9k3 ?w9k4 ?w9k5 ?w9kA ?w9kF ?w9kK ?w9k6 ?w9k7 ?w9k8 ?w9k9 ?w9kB ?_ ?w9c2 ?w9c3 ?w9c4 ?w9c5; (case w9kA => exact rfl); (case w9kF => exact rfl); (case w9kK => first | exact rfl | assumption); (case w9k1 => k_asm); (case w9k2 => k_asm); (case w9k3 => k_asm); (case w9k4 => k_asm); (case w9k5 => k_asm); (case w9k6 => k_is); (case w9k7 => k_is); (case w9k8 => ktr_room); (case w9k9 => first | exact BindsTo.of_eq rfl | exact binds_K (by k_in) rfl (by k_is) rfl rfl rfl); (case w9c5 => decide); (case w9kB => exact locs rfl); (case w9c2 => exact rfl); (case w9c3 => exact rfl); (case w9c4 => exact rfl); k_whole; intro g' L' h' FG' F' N' B' X' T'; (try dsimp only); (try k_lift B'); (try k_fold)))
  (k_with "@my enterC" => (refine' code_defC ?w9k1 ?w9k2 ?w9k3 ?w9k4 ?w9k5 ?w9kA ?w9kF ?w9kK ?w9k6 ?w9k7 ?w9k8 ?w9k9 ?w9kB ?w9kD ?_ ?w9c2 ?w9c3 ?w9c4; (case w9kA => exact rfl); (case w9kF => exact rfl); (case w9kK => first | exact rfl | assumption); (case w9k1 => k_asm); (case w9k2 => k_asm); (case w9k3 => k_asm); (case w9k4 => k_asm); (case w9k5 => k_asm); (case w9k6 => k_is); (case w9k7 => k_is); (case w9k8 => ktr_room); (case w9k9 => exact BindsTo.of_eq rfl); (case w9kB => exact rfl); (case w9kD => decide +kernel); (case w9c2 => exact rfl); (case w9c3 => exact rfl); (case w9c4 => exact rfl); k_whole; intro g' L' h' tk' cells' FG' F' N' Y' B' X' T' l1; k_cells Y'; (try simp only [List.cons_append, List.nil_append] at N'); (try dsimp only); (try k_lift B'); (try k_fold)))
  (k_with "@use led" => first | k_asm | exact News.sw1 (by k_asm) | exact News.sw2 (by k_asm) | exact News.sw3 (by k_asm) | exact News.sw4 (by k_asm) | exact News.sw5 (by k_asm) | exact News.sw6 (by k_asm) | exact News.sw7 (by k_asm) | exact News.sw8 (by k_asm) | exact News.sw9 (by k_asm) | exact News.sw10 (by k_asm) | exact News.sw11 (by k_asm) | exact News.sw12 (by k_asm) | exact News.sw13 (by k_asm) | exact News.sw14 (by k_asm) | exact News.sw15 (by k_asm) | exact News.sw16 (by k_asm) | exact News.sw17 (by k_asm) | exact News.sw18 (by k_asm) | exact News.sw19 (by k_asm) | exact News.sw20 (by k_asm) | exact News.sw21 (by k_asm) | exact News.sw22 (by k_asm) | exact News.sw23 (by k_asm) | exact News.sw24 (by k_asm) | exact News.sw25 (by k_asm) | exact News.sw26 (by k_asm))
  (k_with "k_all" => assumption)
  (k_with "@use pre 1" => first | assumption | omega | k_mem | k_all | rfl)
  (k_with "@use pre" => ((repeat' (first | (with_reducible refine And.intro ?_ ?_) | fail)); all_goals (walk_at "use pre 1")))
  (k_with "k_mem" => assumption)
  (k_with "@eval Call" => ((with_reducible show wpAny _ _ (eval (Expr.Call (Expr.Name _ _) _ [] _) _) _ _ _); k_dflt (refine Call_ ?_)))
  (k_with "@end led" => first | k_asm | exact News.d1 (by k_asm) | exact News.d2 (by k_asm) | exact News.d3 (by k_asm) | exact News.d4 (by k_asm) | exact News.d5 (by k_asm) | exact News.d6 (by k_asm) | exact News.d7 (by k_asm) | exact News.d8 (by k_asm) | exact News.d9 (by k_asm) | exact News.d10 (by k_asm) | exact News.d11 (by k_asm) | exact News.d12 (by k_asm))
  (k_with "@pyIter str" => k_extra "pyIter str")
  (k_with "@pyIter ref" => k_extra "pyIter ref")
  (k_with "@end led1" => first | k_asm | exact News.h1 (by k_asm) | exact News.h2 (by k_asm) | exact News.h3 (by k_asm) | exact News.h4 (by k_asm) | exact News.h5 (by k_asm) | exact News.h6 (by k_asm) | exact News.h7 (by k_asm) | exact News.h8 (by k_asm) | exact News.h9 (by k_asm))
  (k_with "@eval Name" => (k_here; k_dflt (first | (refine' nameX_L ?w9F ?w9v ?_ ?w9a ?w9b; (case w9F => k_asm); (case w9a => rfl); (case w9b => rfl); (case w9v => rfl); k_whole) | (refine' nameX_K ?w9F ?w9X ?w9T ?w9e ?_ ?w9a ?w9b; (case w9F => k_asm); (case w9X => k_asm); (case w9T => k_asm); (case w9a => rfl); (case w9b => rfl); (case w9e => k_is); k_whole) | (refine' nameX_B ?w9F ?w9X ?w9T ?w9e ?w9v ?w9n ?_ ?w9a ?w9b; (case w9F => k_asm); (case w9X => k_asm); (case w9T => k_asm); (case w9a => rfl); (case w9b => rfl); (case w9e => k_is); (case w9v => boot_fast); (case w9n => decide); k_whole))))
  (k_with "k_ne" => first | assumption | exact Nat.ne_of_gt (by assumption) | exact Nat.ne_of_lt (by assumption) | exact ne_p1 (by with_reducible assumption) | exact ne_p2 (by with_reducible assumption) | exact ne_p3 (by with_reducible assumption) | exact ne_p4 (by with_reducible assumption) | exact ne_p5 (by with_reducible assumption) | exact ne_p6 (by with_reducible assumption) | exact ne_p7 (by with_reducible assumption) | exact ne_p8 (by with_reducible assumption) | exact ne_q1 (by with_reducible assumption) | exact ne_q2 (by with_reducible assumption) | exact ne_q3 (by with_reducible assumption) | exact ne_q4 (by with_reducible assumption) | exact ne_q5 (by with_reducible assumption) | exact ne_q6 (by with_reducible assumption) | exact ne_q7 (by with_reducible assumption) | exact ne_q8 (by with_reducible assumption))
  trivial
theorem words_12002 : True := by
  (k_with "@my item" => (k_here; (with_reducible show wpAny _ _ (subscriptTail _ _ (Value.str _ _) (Value.int _ _)) _ _ _); k_dflt (refine' item_lit ?w9i0 ?_ ?w9i1 ?w9i2; (case w9i0 => decide +kernel); (case w9i1 => with_unfolding_all rfl); (case w9i2 => (intro _; with_unfolding_all rfl)))))
  (k_with "@subscriptTail Name Name str int" => walk_at "my item")
  (k_with "@subscriptTail Name BinOp str int" => walk_at "my item")
  (k_with "@storeName" => (k_here; ktx_write))
  (k_with "@compareOp Eq str" => (k_here; ktx_write))
  (k_with "@compareOp In str" => (k_here; ktx_write))
  (k_with "@compareOp GtE str" => (k_here; ktx_write))
  (k_with "@binaryOp Add str" => (k_here; ktx_write))
  (k_with "@call builtin:len" => (k_here; ktx_write))
  (k_with "@ite" => (k_closed; k_dflt (first | refine PySem.W.ite_pos (by decide +kernel) ?_ | refine PySem.W.ite_neg (by decide +kernel) ?_)))
  (k_with "@exec For Name Name cons nil" => (k_here; (rename Fr _ _ _ _ => lF'); (with_unfolding_all refine' For_invVF lF' ?w9k1 ?w9k2 ?_; (case w9k1 => exact rfl); (case w9k2 => exact rfl); k_whole)))
  trivial
def valTo (x : Str) (i : Nat) : Int := (x.cps.toList.take i).foldl (fun (a : Int) (c : Nat) => a * 10 + ((c : Int) - 48)) 0
theorem valTo_succ {x : Str} {i : Nat} {c : Nat} (h : x.cps[i]? = some c) : valTo x (i + 1) = valTo x i * 10 + ((c : Int) - 48) := by
  unfold valTo
  rw [List.take_add_one, Array.getElem?_toList, h, Option.toList_some, List.foldl_append]
  rfl
theorem valTo_dig {x : Str} {i d : Nat} (h : x.cps[i]? = some (48 + d)) : valTo x (i + 1) = valTo x i * 10 + d := by rw [valTo_succ h]; congr 1; omega
theorem idx_dig : ∀ {d : Nat}, d < 10 → Builtin.Str.occurrences (Str.ofString "0123456789") ⟨#[48 + d]⟩ 0 (Str.ofString "0123456789").length 1 = d :: [] := by
  have h : ∀ d : Fin 10, Builtin.Str.occurrences (Str.ofString "0123456789") ⟨#[48 + d.val]⟩ 0 (Str.ofString "0123456789").length 1 = d.val :: [] := by decide +kernel
  exact fun {d} hd => h ⟨d, hd⟩
def allDig (x : Str) : Prop := ∀ (i c : Nat), x.cps[i]? = some c → ∃ d, d < 10 ∧ c = 48 + d
theorem words_12003 : True := by
  (k_with "@call builtin:str.index" => (k_here; k_dflt (refine SC.index (idx_dig (by assumption)) ?_)))
  (k_with "mul_fits" => exact IntMulOk.of_right (by decide))
  trivial
theorem c_who (w : World) {led : Led} {tk : Tok} {x : Str} (hx : allDig x) : Ctr w 94 1 led [.str x tk] (fun r led' => ∃ t, led' = led ∧ r = .int (valTo x x.cps.size) t) := by
  unfold Ctr
  unfold allDig at hx
  k_fill
  intro mean mg mb dp un gd cn cs a ccd cl outer A₀ base h₀ L m s Q E B F X N T hk hdp hun hret
  refine wpAny_call ?_
  k_dflt (walk_at "my enter")
  (k_with "pyIter str" => ((rename Fr _ _ _ _ => lF); (rename News _ _ _ _ => lN); (with_unfolding_all refine my_str_acc (y := Str.ofString "number") (valTo x) rfl lF lN rfl (by decide) rfl (fun i c u tb h9 tk9 own hc F9 N9 => ?_) (fun u tb h9 tk9 F9 N9 => ?_)) <;> clear lF lN <;> (try obtain ⟨d, hd, rfl⟩ := hx _ _ hc) <;> try k_fold))
  k_steps
  · refine' InvEnd.intro ?eF ?eN ?eS ?eJ
    case eF => assumption
    case eN => assumption
    case eS => exact fun _ hp => hp
    case eJ =>
      rw [valTo_dig hc]
      exact ⟨⟨_, by with_unfolding_all rfl⟩, by k_same2⟩
  · exact fin hret (by k_asm) (by walk_at "end led") ⟨_, rfl, rfl⟩

end
section
theorem words_13001 : True := by
  k_with_none
  (k_with "@my enter" => (refine' code_def ?w9k1 ?w9k2 ?w9k3 ?w9k4 ?w9k5 ?w9kA ?w9kF ?w9kK ?w9k6 ?w9k7 ?w9k8 ?w9k9 ?w9kB ?_ ?w9c2 ?w9c3 ?w9c4 ?w9c5; (case w9kA => exact rfl); (case w9kF => exact rfl); (case w9kK => first | exact rfl | assumption); (case w9k1 => k_asm); (case w9k2 => k_asm); (case w9k3 => k_asm); (case w9k4 => k_asm); (case w9k5 => k_asm); (case w9k6 => k_is); (case w9k7 => k_is); (case w9k8 => ktr_room); (case w9k9 => first | exact BindsTo.of_eq rfl | exact binds_K (by k_in) rfl (by k_is) rfl rfl rfl); (case w9c5 => decide); (case w9kB => exact locs rfl); (case w9c2 => exact rfl); (case w9c3 => exact rfl); (case w9c4 => exact rfl); k_whole; intro g' L' h' FG' F' N' B' X' T'; (try dsimp only); (try k_lift B'); (try k_fold)))
  (k_with "@my enterC" => (refine' code_defC ?w9k1 ?w9k2 ?w9k3 ?w9k4 ?w9k5 ?w9kA ?w9kF ?w9kK ?w9k6 ?w9k7 ?w9k8 ?w9k9 ?w9kB ?w9kD ?_ ?w9c2 ?w9c3 ?w9c4; (case w9kA => exact rfl); (case w9kF => exact rfl); (case w9kK => first | exact rfl | assumption); (case w9k1 => k_asm); (case w9k2 => k_asm); (case w9k3 => k_asm); (case w9k4 => k_asm); (case w9k5 => k_asm); (case w9k6 => k_is); (case w9k7 => k_is); (case w9k8 => ktr_room); (case w9k9 => exact BindsTo.of_eq rfl); (case w9kB => exact rfl); (case w9kD => decide +kernel); (case w9c2 => exact rfl); (case w9c3 => exact rfl); (case w9c4 => exact rfl); k_whole; intro g' L' h' tk' cells' FG' F' N' Y' B' X' T' l1; k_cells Y'; (try simp only [List.cons_append, List.nil_append] at N'); (try dsimp only); (try k_lift B'); (try k_fold)))
  (k_with "@use led" => first | k_asm | exact News.sw1 (by k_asm) | exact News.sw2 (by k_asm) | exact News.sw3 (by k_asm) | exact News.sw4 (by k_asm) | exact News.sw5 (by k_asm) | exact News.sw6 (by k_asm) | exact News.sw7 (by k_asm) | exact News.sw8 (by k_asm) | exact News.sw9 (by k_asm) | exact News.sw10 (by k_asm) | exact News.sw11 (by k_asm) | exact News.sw12 (by k_asm) | exact News.sw13 (by k_asm) | exact News.sw14 (by k_asm) | exact News.sw15 (by k_asm) | exact News.sw16 (by k_asm) | exact News.sw17 (by k_asm) | exact News.sw18 (by k_asm) | exact News.sw19 (by k_asm) | exact News.sw20 (by k_asm) | exact News.sw21 (by k_asm) | exact News.sw22 (by k_asm) | exact News.sw23 (by k_asm) | exact News.sw24 (by k_asm) | exact News.sw25 (by k_asm) | exact News.sw26 (by k_asm))
  (k_with "k_all" => assumption)
  (k_with "@use pre 1" => first | assumption | omega | k_mem | k_all | rfl)
  (k_with "@use pre" => ((repeat' (first | (with_reducible refine And.intro ?_ ?_) | fail)); all_goals (walk_at "use pre 1")))
  (k_with "k_mem" => assumption)
  (k_with "@eval Call" => ((with_reducible show wpAny _ _ (eval (Expr.Call (Expr.Name _ _) _ [] _) _) _ _ _); k_dflt (refine Call_ ?_)))
  (k_with "@end led" => first | k_asm | exact News.d1 (by k_asm) | exact News.d2 (by k_asm) | exact News.d3 (by k_asm) | exact News.d4 (by k_asm) | exact News.d5 (by k_asm) | exact News.d6 (by k_asm) | exact News.d7 (by k_asm) | exact News.d8 (by k_asm) | exact News.d9 (by k_asm) | exact News.d10 (by k_asm) | exact News.d11 (by k_asm) | exact News.d12 (by k_asm))
  (k_with "@pyIter str" => k_extra "pyIter str")
  (k_with "@pyIter ref" => k_extra "pyIter ref")
  (k_with "@end led1" => first | k_asm | exact News.h1 (by k_asm) | exact News.h2 (by k_asm) | exact News.h3 (by k_asm) | exact News.h4 (by k_asm) | exact News.h5 (by k_asm) | exact News.h6 (by k_asm) | exact News.h7 (by k_asm) | exact News.h8 (by k_asm) | exact News.h9 (by k_asm))
  (k_with "@eval Name" => (k_here; k_dflt (first | (refine' nameX_L ?w9F ?w9v ?_ ?w9a ?w9b; (case w9F => k_asm); (case w9a => rfl); (case w9b => rfl); (case w9v => rfl); k_whole) | (refine' nameX_K ?w9F ?w9X ?w9T ?w9e ?_ ?w9a ?w9b; (case w9F => k_asm); (case w9X => k_asm); (case w9T => k_asm); (case w9a => rfl); (case w9b => rfl); (case w9e => k_is); k_whole) | (refine' nameX_B ?w9F ?w9X ?w9T ?w9e ?w9v ?w9n ?_ ?w9a ?w9b; (case w9F => k_asm); (case w9X => k_asm); (case w9T => k_asm); (case w9a => rfl); (case w9b => rfl); (case w9e => k_is); (case w9v => boot_fast); (case w9n => decide); k_whole))))
  (k_with "k_ne" => first | assumption | exact Nat.ne_of_gt (by assumption) | exact Nat.ne_of_lt (by assumption) | exact ne_p1 (by with_reducible assumption) | exact ne_p2 (by with_reducible assumption) | exact ne_p3 (by with_reducible assumption) | exact ne_p4 (by with_reducible assumption) | exact ne_p5 (by with_reducible assumption) | exact ne_p6 (by with_reducible assumption) | exact ne_p7 (by with_reducible assumption) | exact ne_p8 (by with_reducible assumption) | exact ne_q1 (by with_reducible assumption) | exact ne_q2 (by with_reducible assumption) | exact ne_q3 (by with_reducible assumption) | exact ne_q4 (by with_reducible assumption) | exact ne_q5 (by with_reducible assumption) | exact ne_q6 (by with_reducible assumption) | exact ne_q7 (by with_reducible assumption) | exact ne_q8 (by with_reducible assumption))
  trivial
def trimL : List (Str × Str) := [((Str.ofString "1"), (Str.ofString "1")), ((Str.ofString " 1 "), (Str.ofString "1")), ((Str.ofString "0.5"), (Str.ofString "0.5")), ((Str.ofString "-1.5"), (Str.ofString "-1.5")), ((Str.ofString "2"), (Str.ofString "2")), ((Str.ofString "02.0"), (Str.ofString "02.0")), ((Str.ofString ""), (Str.ofString "")), ((Str.ofString "x"), (Str.ofString "x")), ((Str.ofString "1e0"), (Str.ofString "1e0")), ((Str.ofString "+1"), (Str.ofString "+1")), ((Str.ofString "0"), (Str.ofString "0")), ((Str.ofString "-0"), (Str.ofString "-0"))]
def deL : List ((Str × Int) × Int) := [(((Str.ofString "1"), 0), 1), (((Str.ofString "0.5"), 0), 1), (((Str.ofString "0.5"), 2), 3), (((Str.ofString "-1.5"), 1), 2), (((Str.ofString "-1.5"), 3), 4), (((Str.ofString "2"), 0), 1), (((Str.ofString "02.0"), 0), 2), (((Str.ofString "02.0"), 3), 4), (((Str.ofString ""), 0), 0), (((Str.ofString "x"), 0), 0), (((Str.ofString "1e0"), 0), 1), (((Str.ofString "+1"), 0), 0), (((Str.ofString "0"), 0), 1), (((Str.ofString "-0"), 1), 2)]
def gcdL : List ((Int × Int) × Int) := [((1, 1), 1), ((5, 10), 5), ((15, 10), 5), ((2, 1), 1), ((20, 10), 10), ((0, 1), 1)]
theorem c_trim (w : World) {led : Led} {x y : Str} {tk : Tok} (h : (x, y) ∈ trimL) : Ctr w 87 1 led [.str x tk] (fun r led' => ∃ t, led' = led ∧ r = .str y t) := by
  simp only [trimL, List.mem_cons, List.not_mem_nil, or_false, Prod.mk.injEq] at h
  rcases h with h | h | h | h | h | h | h | h | h | h | h | h
  · obtain ⟨rfl, rfl⟩ := h; exact c_trim0 w trivial
  · obtain ⟨rfl, rfl⟩ := h; exact c_trim1 w trivial
  · obtain ⟨rfl, rfl⟩ := h; exact c_trim2 w trivial
  · obtain ⟨rfl, rfl⟩ := h; exact c_trim3 w trivial
  · obtain ⟨rfl, rfl⟩ := h; exact c_trim4 w trivial
  · obtain ⟨rfl, rfl⟩ := h; exact c_trim5 w trivial
  · obtain ⟨rfl, rfl⟩ := h; exact c_trim6 w trivial
  · obtain ⟨rfl, rfl⟩ := h; exact c_trim7 w trivial
  · obtain ⟨rfl, rfl⟩ := h; exact c_trim8 w trivial
  · obtain ⟨rfl, rfl⟩ := h; exact c_trim9 w trivial
  · obtain ⟨rfl, rfl⟩ := h; exact c_trim10 w trivial
  · obtain ⟨rfl, rfl⟩ := h; exact c_trim11 w trivial

theorem c_de (w : World) {led : Led} {x : Str} {a y : Int} {tk tk2 : Tok} (h : ((x, a), y) ∈ deL) : Ctr w 80 1 led [.str x tk, .int a tk2] (fun r led' => ∃ t, led' = led ∧ r = .int y t) := by
  simp only [deL, List.mem_cons, List.not_mem_nil, or_false, Prod.mk.injEq] at h
  rcases h with h | h | h | h | h | h | h | h | h | h | h | h | h | h
  · obtain ⟨⟨rfl, rfl⟩, rfl⟩ := h; exact c_de0 w trivial
  · obtain ⟨⟨rfl, rfl⟩, rfl⟩ := h; exact c_de1 w trivial
  · obtain ⟨⟨rfl, rfl⟩, rfl⟩ := h; exact c_de2 w trivial
  · obtain ⟨⟨rfl, rfl⟩, rfl⟩ := h; exact c_de3 w trivial
  · obtain ⟨⟨rfl, rfl⟩, rfl⟩ := h; exact c_de4 w trivial
  · obtain ⟨⟨rfl, rfl⟩, rfl⟩ := h; exact c_de5 w trivial
  · obtain ⟨⟨rfl, rfl⟩, rfl⟩ := h; exact c_de6 w trivial
  · obtain ⟨⟨rfl, rfl⟩, rfl⟩ := h; exact c_de7 w trivial
  · obtain ⟨⟨rfl, rfl⟩, rfl⟩ := h; exact c_de8 w trivial
  · obtain ⟨⟨rfl, rfl⟩, rfl⟩ := h; exact c_de9 w trivial
  · obtain ⟨⟨rfl, rfl⟩, rfl⟩ := h; exact c_de10 w trivial
  · obtain ⟨⟨rfl, rfl⟩, rfl⟩ := h; exact c_de11 w trivial
  · obtain ⟨⟨rfl, rfl⟩, rfl⟩ := h; exact c_de12 w trivial
  · obtain ⟨⟨rfl, rfl⟩, rfl⟩ := h; exact c_de13 w trivial

theorem c_gcd (w : World) {led : Led} {a b y : Int} {tk tk2 : Tok} (h : ((a, b), y) ∈ gcdL) : Ctr w 30 1 led [.int a tk, .int b tk2] (fun r led' => ∃ t, led' = led ∧ r = .int y t) := by
  simp only [gcdL, List.mem_cons, List.not_mem_nil, or_false, Prod.mk.injEq] at h
  rcases h with h | h | h | h | h | h
  · obtain ⟨⟨rfl, rfl⟩, rfl⟩ := h; exact c_gcd0 w trivial
  · obtain ⟨⟨rfl, rfl⟩, rfl⟩ := h; exact c_gcd1 w trivial
  · obtain ⟨⟨rfl, rfl⟩, rfl⟩ := h; exact c_gcd2 w trivial
  · obtain ⟨⟨rfl, rfl⟩, rfl⟩ := h; exact c_gcd3 w trivial
  · obtain ⟨⟨rfl, rfl⟩, rfl⟩ := h; exact c_gcd4 w trivial
  · obtain ⟨⟨rfl, rfl⟩, rfl⟩ := h; exact c_gcd5 w trivial

end
section
theorem words_14001 : True := by
  k_with_none
  (k_with "@my enter" => (refine' code_def ?w9k1 ?w9k2 ?w9k3 ?w9k4 ?w9k5 ?w9kA ?w9kF ?w9kK ?w9k6 ?w9k7 ?w9k8 ?w9k9 ?w9kB ?_ ?w9c2 ?w9c3 ?w9c4 ?w9c5; (case w9kA => exact rfl); (case w9kF => exact rfl); (case w9kK => first | exact rfl | assumption); (case w9k1 => k_asm); (case w9k2 => k_asm); (case w9k3 => k_asm); (case w9k4 => k_asm); (case w9k5 => k_asm); (case w9k6 => k_is); (case w9k7 => k_is); (case w9k8 => ktr_room); (case w9k9 => first | exact BindsTo.of_eq rfl | exact binds_K (by k_in) rfl (by k_is) rfl rfl rfl); (case w9c5 => decide); (case w9kB => exact locs rfl); (case w9c2 => exact rfl); (case w9c3 => exact rfl); (case w9c4 => exact rfl); k_whole; intro g' L' h' FG' F' N' B' X' T'; (try dsimp only); (try k_lift B'); (try k_fold)))
  (k_with "@my enterC" => (refine' code_defC ?w9k1 ?w9k2 ?w9k3 ?w9k4 ?w9k5 ?w9kA ?w9kF ?w9kK ?w9k6 ?w9k7 ?w9k8 ?w9k9 ?w9kB ?w9kD ?_ ?w9c2 ?w9c3 ?w9c4; (case w9kA => exact rfl); (case w9kF => exact rfl); (case w9kK => first | exact rfl | assumption); (case w9k1 => k_asm); (case w9k2 => k_asm); (case w9k3 => k_asm); (case w9k4 => k_asm); (case w9k5 => k_asm); (case w9k6 => k_is); (case w9k7 => k_is); (case w9k8 => ktr_room); (case w9k9 => exact BindsTo.of_eq rfl); (case w9kB => exact rfl); (case w9kD => decide +kernel); (case w9c2 => exact rfl); (case w9c3 => exact rfl); (case w9c4 => exact rfl); k_whole; intro g' L' h' tk' cells' FG' F' N' Y' B' X' T' l1; k_cells Y'; (try simp only [List.cons_append, List.nil_append] at N'); (try dsimp only); (try k_lift B'); (try k_fold)))
  (k_with "@use led" => first | k_asm | exact News.sw1 (by k_asm) | exact News.sw2 (by k_asm) | exact News.sw3 (by k_asm) | exact News.sw4 (by k_asm) | exact News.sw5 (by k_asm) | exact News.sw6 (by k_asm) | exact News.sw7 (by k_asm) | exact News.sw8 (by k_asm) | exact News.sw9 (by k_asm) | exact News.sw10 (by k_asm) | exact News.sw11 (by k_asm) | exact News.sw12 (by k_asm) | exact News.sw13 (by k_asm) | exact News.sw14 (by k_asm) | exact News.sw15 (by k_asm) | exact News.sw16 (by k_asm) | exact News.sw17 (by k_asm) | exact News.sw18 (by k_asm) | exact News.sw19 (by k_asm) | exact News.sw20 (by k_asm) | exact News.sw21 (by k_asm) | exact News.sw22 (by k_asm) | exact News.sw23 (by k_asm) | exact News.sw24 (by k_asm) | exact News.sw25 (by k_asm) | exact News.sw26 (by k_asm))
  (k_with "k_all" => assumption)
  (k_with "@use pre 1" => first | assumption | omega | k_mem | k_all | rfl)
  (k_with "@use pre" => ((repeat' (first | (with_reducible refine And.intro ?_ ?_) | fail)); all_goals (walk_at "use pre 1")))
  (k_with "k_mem" => assumption)
  (k_with "@eval Call" => ((with_reducible show wpAny _ _ (eval (Expr.Call (Expr.Name _ _) _ [] _) _) _ _ _); k_dflt (refine Call_ ?_)))
  (k_with "@end led" => first | k_asm | exact News.d1 (by k_asm) | exact News.d2 (by k_asm) | exact News.d3 (by k_asm) | exact News.d4 (by k_asm) | exact News.d5 (by k_asm) | exact News.d6 (by k_asm) | exact News.d7 (by k_asm) | exact News.d8 (by k_asm) | exact News.d9 (by k_asm) | exact News.d10 (by k_asm) | exact News.d11 (by k_asm) | exact News.d12 (by k_asm))
  (k_with "@pyIter str" => k_extra "pyIter str")
  (k_with "@pyIter ref" => k_extra "pyIter ref")
  (k_with "@end led1" => first | k_asm | exact News.h1 (by k_asm) | exact News.h2 (by k_asm) | exact News.h3 (by k_asm) | exact News.h4 (by k_asm) | exact News.h5 (by k_asm) | exact News.h6 (by k_asm) | exact News.h7 (by k_asm) | exact News.h8 (by k_asm) | exact News.h9 (by k_asm))
  (k_with "@eval Name" => (k_here; k_dflt (first | (refine' nameX_L ?w9F ?w9v ?_ ?w9a ?w9b; (case w9F => k_asm); (case w9a => rfl); (case w9b => rfl); (case w9v => rfl); k_whole) | (refine' nameX_K ?w9F ?w9X ?w9T ?w9e ?_ ?w9a ?w9b; (case w9F => k_asm); (case w9X => k_asm); (case w9T => k_asm); (case w9a => rfl); (case w9b => rfl); (case w9e => k_is); k_whole) | (refine' nameX_B ?w9F ?w9X ?w9T ?w9e ?w9v ?w9n ?_ ?w9a ?w9b; (case w9F => k_asm); (case w9X => k_asm); (case w9T => k_asm); (case w9a => rfl); (case w9b => rfl); (case w9e => k_is); (case w9v => boot_fast); (case w9n => decide); k_whole))))
  (k_with "k_ne" => first | assumption | exact Nat.ne_of_gt (by assumption) | exact Nat.ne_of_lt (by assumption) | exact ne_p1 (by with_reducible assumption) | exact ne_p2 (by with_reducible assumption) | exact ne_p3 (by with_reducible assumption) | exact ne_p4 (by with_reducible assumption) | exact ne_p5 (by with_reducible assumption) | exact ne_p6 (by with_reducible assumption) | exact ne_p7 (by with_reducible assumption) | exact ne_p8 (by with_reducible assumption) | exact ne_q1 (by with_reducible assumption) | exact ne_q2 (by with_reducible assumption) | exact ne_q3 (by with_reducible assumption) | exact ne_q4 (by with_reducible assumption) | exact ne_q5 (by with_reducible assumption) | exact ne_q6 (by with_reducible assumption) | exact ne_q7 (by with_reducible assumption) | exact ne_q8 (by with_reducible assumption))
  trivial
theorem words_14002 : True := by
  (k_with "@my item" => (k_here; (with_reducible show wpAny _ _ (subscriptTail _ _ (Value.str _ _) (Value.int _ _)) _ _ _); k_dflt (refine' item_lit ?w9i0 ?_ ?w9i1 ?w9i2; (case w9i0 => decide +kernel); (case w9i1 => with_unfolding_all rfl); (case w9i2 => (intro _; with_unfolding_all rfl)))))
  (k_with "@subscriptTail Name Name str int" => walk_at "my item")
  (k_with "@subscriptTail Name BinOp str int" => walk_at "my item")
  (k_with "@storeName" => (k_here; ktx_write))
  (k_with "@compareOp Eq str" => (k_here; ktx_write))
  (k_with "@compareOp In str" => (k_here; ktx_write))
  (k_with "@compareOp GtE str" => (k_here; ktx_write))
  (k_with "@binaryOp Add str" => (k_here; ktx_write))
  (k_with "@call builtin:len" => (k_here; ktx_write))
  (k_with "@ite" => (k_closed; k_dflt (first | refine PySem.W.ite_pos (by decide +kernel) ?_ | refine PySem.W.ite_neg (by decide +kernel) ?_)))
  (k_with "@storeName" => (k_here; (with_reducible show wpAny _ _ (storeName _ _ (Value.int _ _)) _ _ _); (fail_if_success (with_reducible show wpAny _ _ (storeName _ _ (Value.int (OfNat.ofNat _) _)) _ _ _)); k_dflt (refine store_lit (by k_dflt kxw_int) ?_)))
  (k_with "@call ref" => (k_here; (with_reducible show wpAny _ _ (call _ (Value.int _ _ :: _)) _ _ _); (fail_if_success (with_reducible show wpAny _ _ (call _ (Value.int (OfNat.ofNat _) _ :: _)) _ _ _)); k_dflt (refine call_lit1 (by k_dflt kxw_int) ?_)))
  (k_with "@call ref" => (k_here; (with_reducible show wpAny _ _ (call _ (_ :: Value.int _ _ :: _)) _ _ _); (fail_if_success (with_reducible show wpAny _ _ (call _ (_ :: Value.int (OfNat.ofNat _) _ :: _)) _ _ _)); k_dflt (refine call_lit2 (by k_dflt kxw_int) ?_)))
  (k_with "@call ref" => (k_here; ktx_write))
  (k_with "@my mem" => first | with_reducible exact List.mem_cons_self | (with_reducible refine List.mem_cons_of_mem _ ?_; walk_at "my mem"))
  (k_with "@call ref" => (k_here; (with_reducible show wpAny _ _ (call (Value.ref 30) _) _ _ _); k_dflt (refine' Ctr.useB ?w9uN ?w9uB ?w9uF ?w9uX ?w9uT ?w9uK ?w9uD ?w9uU (c_gcd _ ?w9uP) ?_; (case w9uN => walk_at "use led"); (case w9uB => k_asm); (case w9uF => k_asm); (case w9uX => k_asm); (case w9uT => k_asm); (case w9uK => first | exact rfl | assumption); (case w9uD => ktr_room); (case w9uU => ktr_units); (case w9uP => (unfold gcdL; walk_at "my mem"))); intro t9 h9 tk9 F9 N9; (try k_sweep); (try k_fold)))
  trivial
theorem c_num0 (w : World) {led : Led} {tk tk2 : Tok} (_ : True) : Ctr w 45 2 led [.int 1 tk, .int 1 tk2] (fun r led' => ∃ p t u, led' = (p, tupO [.int 1 t, .int 1 u]) :: led ∧ r = .ref p) := by
  unfold Ctr
  k_fill
  intro mean mg mb dp un gd cn cs a ccd cl outer A₀ base h₀ L m s Q E B F X N T hk hdp hun hret
  refine wpAny_call ?_
  k_dflt (walk_at "my enter")
  k_steps
  all_goals exact fin hret (by k_asm) (by walk_at "end led1") ⟨_, _, _, rfl, rfl⟩

theorem c_num1 (w : World) {led : Led} {tk tk2 : Tok} (_ : True) : Ctr w 45 2 led [.int 5 tk, .int 10 tk2] (fun r led' => ∃ p t u, led' = (p, tupO [.int 1 t, .int 2 u]) :: led ∧ r = .ref p) := by
  unfold Ctr
  k_fill
  intro mean mg mb dp un gd cn cs a ccd cl outer A₀ base h₀ L m s Q E B F X N T hk hdp hun hret
  refine wpAny_call ?_
  k_dflt (walk_at "my enter")
  k_steps
  all_goals exact fin hret (by k_asm) (by walk_at "end led1") ⟨_, _, _, rfl, rfl⟩

theorem c_num2 (w : World) {led : Led} {tk tk2 : Tok} (_ : True) : Ctr w 45 2 led [.int 15 tk, .int 10 tk2] (fun r led' => ∃ p t u, led' = (p, tupO [.int 3 t, .int 2 u]) :: led ∧ r = .ref p) := by
  unfold Ctr
  k_fill
  intro mean mg mb dp un gd cn cs a ccd cl outer A₀ base h₀ L m s Q E B F X N T hk hdp hun hret
  refine wpAny_call ?_
  k_dflt (walk_at "my enter")
  k_steps
  all_goals exact fin hret (by k_asm) (by walk_at "end led1") ⟨_, _, _, rfl, rfl⟩

theorem c_num3 (w : World) {led : Led} {tk tk2 : Tok} (_ : True) : Ctr w 45 2 led [.int 2 tk, .int 1 tk2] (fun r led' => ∃ p t u, led' = (p, tupO [.int 2 t, .int 1 u]) :: led ∧ r = .ref p) := by
  unfold Ctr
  k_fill
  intro mean mg mb dp un gd cn cs a ccd cl outer A₀ base h₀ L m s Q E B F X N T hk hdp hun hret
  refine wpAny_call ?_
  k_dflt (walk_at "my enter")
  k_steps
  all_goals exact fin hret (by k_asm) (by walk_at "end led1") ⟨_, _, _, rfl, rfl⟩

theorem c_num4 (w : World) {led : Led} {tk tk2 : Tok} (_ : True) : Ctr w 45 2 led [.int 20 tk, .int 10 tk2] (fun r led' => ∃ p t u, led' = (p, tupO [.int 2 t, .int 1 u]) :: led ∧ r = .ref p) := by
  unfold Ctr
  k_fill
  intro mean mg mb dp un gd cn cs a ccd cl outer A₀ base h₀ L m s Q E B F X N T hk hdp hun hret
  refine wpAny_call ?_
  k_dflt (walk_at "my enter")
  k_steps
  all_goals exact fin hret (by k_asm) (by walk_at "end led1") ⟨_, _, _, rfl, rfl⟩

theorem c_num5 (w : World) {led : Led} {tk tk2 : Tok} (_ : True) : Ctr w 45 2 led [.int 0 tk, .int 1 tk2] (fun r led' => ∃ p t u, led' = (p, tupO [.int 0 t, .int 1 u]) :: led ∧ r = .ref p) := by
  unfold Ctr
  k_fill
  intro mean mg mb dp un gd cn cs a ccd cl outer A₀ base h₀ L m s Q E B F X N T hk hdp hun hret
  refine wpAny_call ?_
  k_dflt (walk_at "my enter")
  k_steps
  all_goals exact fin hret (by k_asm) (by walk_at "end led1") ⟨_, _, _, rfl, rfl⟩

def numL : List ((Int × Int) × (Int × Int)) := [((1, 1), (1, 1)), ((5, 10), (1, 2)), ((15, 10), (3, 2)), ((2, 1), (2, 1)), ((20, 10), (2, 1)), ((0, 1), (0, 1))]
theorem c_num (w : World) {led : Led} {a b x y : Int} {tk tk2 : Tok} (h : ((a, b), (x, y)) ∈ numL) : Ctr w 45 2 led [.int a tk, .int b tk2] (fun r led' => ∃ p t u, led' = (p, tupO [.int x t, .int y u]) :: led ∧ r = .ref p) := by
  simp only [numL, List.mem_cons, List.not_mem_nil, or_false, Prod.mk.injEq] at h
  rcases h with h | h | h | h | h | h
  · obtain ⟨⟨rfl, rfl⟩, rfl, rfl⟩ := h; exact c_num0 w trivial
  · obtain ⟨⟨rfl, rfl⟩, rfl, rfl⟩ := h; exact c_num1 w trivial
  · obtain ⟨⟨rfl, rfl⟩, rfl, rfl⟩ := h; exact c_num2 w trivial
  · obtain ⟨⟨rfl, rfl⟩, rfl, rfl⟩ := h; exact c_num3 w trivial
  · obtain ⟨⟨rfl, rfl⟩, rfl, rfl⟩ := h; exact c_num4 w trivial
  · obtain ⟨⟨rfl, rfl⟩, rfl, rfl⟩ := h; exact c_num5 w trivial

end
section
theorem words_15001 : True := by
  k_with_none
  (k_with "@my enter" => (refine' code_def ?w9k1 ?w9k2 ?w9k3 ?w9k4 ?w9k5 ?w9kA ?w9kF ?w9kK ?w9k6 ?w9k7 ?w9k8 ?w9k9 ?w9kB ?_ ?w9c2 ?w9c3 ?w9c4 ?w9c5; (case w9kA => exact rfl); (case w9kF => exact rfl); (case w9kK => first | exact rfl | assumption); (case w9k1 => k_asm); (case w9k2 => k_asm); (case w9k3 => k_asm); (case w9k4 => k_asm); (case w9k5 => k_asm); (case w9k6 => k_is); (case w9k7 => k_is); (case w9k8 => ktr_room); (case w9k9 => first | exact BindsTo.of_eq rfl | exact binds_K (by k_in) rfl (by k_is) rfl rfl rfl); (case w9c5 => decide); (case w9kB => exact locs rfl); (case w9c2 => exact rfl); (case w9c3 => exact rfl); (case w9c4 => exact rfl); k_whole; intro g' L' h' FG' F' N' B' X' T'; (try dsimp only); (try k_lift B'); (try k_fold)))
  (k_with "@my enterC" => (refine' code_defC ?w9k1 ?w9k2 ?w9k3 ?w9k4 ?w9k5 ?w9kA ?w9kF ?w9kK ?w9k6 ?w9k7 ?w9k8 ?w9k9 ?w9kB ?w9kD ?_ ?w9c2 ?w9c3 ?w9c4; (case w9kA => exact rfl); (case w9kF => exact rfl); (case w9kK => first | exact rfl | assumption); (case w9k1 => k_asm); (case w9k2 => k_asm); (case w9k3 => k_asm); (case w9k4 => k_asm); (case w9k5 => k_asm); (case w9k6 => k_is); (case w9k7 => k_is); (case w9k8 => ktr_room); (case w9k9 => exact BindsTo.of_eq rfl); (case w9kB => exact rfl); (case w9kD => decide +kernel); (case w9c2 => exact rfl); (case w9c3 => exact rfl); (case w9c4 => exact rfl); k_whole; intro g' L' h' tk' cells' FG' F' N' Y' B' X' T' l1; k_cells Y'; (try simp only [List.cons_append, List.nil_append] at N'); (try dsimp only); (try k_lift B'); (try k_fold)))
  (k_with "@use led" => first | k_asm | exact News.sw1 (by k_asm) | exact News.sw2 (by k_asm) | exact News.sw3 (by k_asm) | exact News.sw4 (by k_asm) | exact News.sw5 (by k_asm) | exact News.sw6 (by k_asm) | exact News.sw7 (by k_asm) | exact News.sw8 (by k_asm) | exact News.sw9 (by k_asm) | exact News.sw10 (by k_asm) | exact News.sw11 (by k_asm) | exact News.sw12 (by k_asm) | exact News.sw13 (by k_asm) | exact News.sw14 (by k_asm) | exact News.sw15 (by k_asm) | exact News.sw16 (by k_asm) | exact News.sw17 (by k_asm) | exact News.sw18 (by k_asm) | exact News.sw19 (by k_asm) | exact News.sw20 (by k_asm) | exact News.sw21 (by k_asm) | exact News.sw22 (by k_asm) | exact News.sw23 (by k_asm) | exact News.sw24 (by k_asm) | exact News.sw25 (by k_asm) | exact News.sw26 (by k_asm))
  (k_with "k_all" => assumption)
  (k_with "@use pre 1" => first | assumption | omega | k_mem | k_all | rfl)
  (k_with "@use pre" => ((repeat' (first | (with_reducible refine And.intro ?_ ?_) | fail)); all_goals (walk_at "use pre 1")))
  (k_with "k_mem" => assumption)
  (k_with "@eval Call" => ((with_reducible show wpAny _ _ (eval (Expr.Call (Expr.Name _ _) _ [] _) _) _ _ _); k_dflt (refine Call_ ?_)))
  (k_with "@end led" => first | k_asm | exact News.d1 (by k_asm) | exact News.d2 (by k_asm) | exact News.d3 (by k_asm) | exact News.d4 (by k_asm) | exact News.d5 (by k_asm) | exact News.d6 (by k_asm) | exact News.d7 (by k_asm) | exact News.d8 (by k_asm) | exact News.d9 (by k_asm) | exact News.d10 (by k_asm) | exact News.d11 (by k_asm) | exact News.d12 (by k_asm))
  (k_with "@pyIter str" => k_extra "pyIter str")
  (k_with "@pyIter ref" => k_extra "pyIter ref")
  (k_with "@end led1" => first | k_asm | exact News.h1 (by k_asm) | exact News.h2 (by k_asm) | exact News.h3 (by k_asm) | exact News.h4 (by k_asm) | exact News.h5 (by k_asm) | exact News.h6 (by k_asm) | exact News.h7 (by k_asm) | exact News.h8 (by k_asm) | exact News.h9 (by k_asm))
  (k_with "@eval Name" => (k_here; k_dflt (first | (refine' nameX_L ?w9F ?w9v ?_ ?w9a ?w9b; (case w9F => k_asm); (case w9a => rfl); (case w9b => rfl); (case w9v => rfl); k_whole) | (refine' nameX_K ?w9F ?w9X ?w9T ?w9e ?_ ?w9a ?w9b; (case w9F => k_asm); (case w9X => k_asm); (case w9T => k_asm); (case w9a => rfl); (case w9b => rfl); (case w9e => k_is); k_whole) | (refine' nameX_B ?w9F ?w9X ?w9T ?w9e ?w9v ?w9n ?_ ?w9a ?w9b; (case w9F => k_asm); (case w9X => k_asm); (case w9T => k_asm); (case w9a => rfl); (case w9b => rfl); (case w9e => k_is); (case w9v => boot_fast); (case w9n => decide); k_whole))))
  (k_with "k_ne" => first | assumption | exact Nat.ne_of_gt (by assumption) | exact Nat.ne_of_lt (by assumption) | exact ne_p1 (by with_reducible assumption) | exact ne_p2 (by with_reducible assumption) | exact ne_p3 (by with_reducible assumption) | exact ne_p4 (by with_reducible assumption) | exact ne_p5 (by with_reducible assumption) | exact ne_p6 (by with_reducible assumption) | exact ne_p7 (by with_reducible assumption) | exact ne_p8 (by with_reducible assumption) | exact ne_q1 (by with_reducible assumption) | exact ne_q2 (by with_reducible assumption) | exact ne_q3 (by with_reducible assumption) | exact ne_q4 (by with_reducible assumption) | exact ne_q5 (by with_reducible assumption) | exact ne_q6 (by with_reducible assumption) | exact ne_q7 (by with_reducible assumption) | exact ne_q8 (by with_reducible assumption))
  trivial
theorem words_15002 : True := by
  (k_with "@my item" => (k_here; (with_reducible show wpAny _ _ (subscriptTail _ _ (Value.str _ _) (Value.int _ _)) _ _ _); k_dflt (refine' item_lit ?w9i0 ?_ ?w9i1 ?w9i2; (case w9i0 => decide +kernel); (case w9i1 => with_unfolding_all rfl); (case w9i2 => (intro _; with_unfolding_all rfl)))))
  (k_with "@subscriptTail Name Name str int" => walk_at "my item")
  (k_with "@subscriptTail Name BinOp str int" => walk_at "my item")
  (k_with "@storeName" => (k_here; ktx_write))
  (k_with "@compareOp Eq str" => (k_here; ktx_write))
  (k_with "@compareOp In str" => (k_here; ktx_write))
  (k_with "@compareOp GtE str" => (k_here; ktx_write))
  (k_with "@binaryOp Add str" => (k_here; ktx_write))
  (k_with "@call builtin:len" => (k_here; ktx_write))
  (k_with "@ite" => (k_closed; k_dflt (first | refine PySem.W.ite_pos (by decide +kernel) ?_ | refine PySem.W.ite_neg (by decide +kernel) ?_)))
  (k_with "@storeName" => (k_here; (with_reducible show wpAny _ _ (storeName _ _ (Value.int _ _)) _ _ _); (fail_if_success (with_reducible show wpAny _ _ (storeName _ _ (Value.int (OfNat.ofNat _) _)) _ _ _)); k_dflt (refine store_lit (by k_dflt kxw_int) ?_)))
  (k_with "@call ref" => (k_here; (with_reducible show wpAny _ _ (call _ (Value.int _ _ :: _)) _ _ _); (fail_if_success (with_reducible show wpAny _ _ (call _ (Value.int (OfNat.ofNat _) _ :: _)) _ _ _)); k_dflt (refine call_lit1 (by k_dflt kxw_int) ?_)))
  (k_with "@call ref" => (k_here; (with_reducible show wpAny _ _ (call _ (_ :: Value.int _ _ :: _)) _ _ _); (fail_if_success (with_reducible show wpAny _ _ (call _ (_ :: Value.int (OfNat.ofNat _) _ :: _)) _ _ _)); k_dflt (refine call_lit2 (by k_dflt kxw_int) ?_)))
  (k_with "@call ref" => (k_here; ktx_write))
  (k_with "@my mem" => first | with_reducible exact List.mem_cons_self | (with_reducible refine List.mem_cons_of_mem _ ?_; walk_at "my mem"))
  trivial
def allDigB (x : Str) : Bool := x.cps.toList.all fun c => decide (48 ≤ c) && decide (c < 58)
theorem allDig_of {x : Str} (h : allDigB x = true) : allDig x := by
  intro i c hc
  have h2 := List.all_eq_true.mp h c (Array.mem_toList_iff.mpr (Array.mem_of_getElem? hc))
  simp only [Bool.and_eq_true, decide_eq_true_eq] at h2
  exact ⟨c - 48, by omega, by omega⟩
theorem words_15003 : True := by
  (k_with "@call ref" => (k_here; (with_reducible show wpAny _ _ (call (Value.ref 45) _) _ _ _); k_dflt (refine' Ctr.useC ?w9uN ?w9uB ?w9uF ?w9uX ?w9uT ?w9uK ?w9uD ?w9uU (c_num _ ?w9uP) ?_; (case w9uN => walk_at "use led"); (case w9uB => k_asm); (case w9uF => k_asm); (case w9uX => k_asm); (case w9uT => k_asm); (case w9uK => first | exact rfl | assumption); (case w9uD => ktr_room); (case w9uU => ktr_units); (case w9uP => (unfold numL; walk_at "my mem"))); intro p9 t9 u9 h9 tk9 F9 N9; (try k_sweep); (try k_fold)))
  (k_with "@call ref" => (k_here; (with_reducible show wpAny _ _ (call (Value.ref 94) _) _ _ _); k_dflt (refine' Ctr.useB ?w9uN ?w9uB ?w9uF ?w9uX ?w9uT ?w9uK ?w9uD ?w9uU (c_who _ ?w9uP) ?_; (case w9uN => walk_at "use led"); (case w9uB => k_asm); (case w9uF => k_asm); (case w9uX => k_asm); (case w9uT => k_asm); (case w9uK => first | exact rfl | assumption); (case w9uD => ktr_room); (case w9uU => ktr_units); (case w9uP => exact allDig_of (by decide +kernel))); intro t9 h9 tk9 F9 N9; (try k_sweep); (try k_fold)))
  trivial
theorem c_nod0 (w : World) {led : Led} {tk tk2 : Tok} (_ : True) : Ctr w 108 3 led [.str (Str.ofString "1") tk, .str (Str.ofString "") tk2] (fun r led' => ∃ p t u, led' = (p, tupO [.int 1 t, .int 1 u]) :: led ∧ r = .ref p) := by
  unfold Ctr
  k_fill
  intro mean mg mb dp un gd cn cs a ccd cl outer A₀ base h₀ L m s Q E B F X N T hk hdp hun hret
  refine wpAny_call ?_
  k_dflt (walk_at "my enter")
  k_steps
  all_goals exact fin hret (by k_asm) (by walk_at "end led1") ⟨_, _, _, rfl, rfl⟩

theorem c_nod1 (w : World) {led : Led} {tk tk2 : Tok} (_ : True) : Ctr w 108 3 led [.str (Str.ofString "0") tk, .str (Str.ofString "5") tk2] (fun r led' => ∃ p t u, led' = (p, tupO [.int 1 t, .int 2 u]) :: led ∧ r = .ref p) := by
  unfold Ctr
  k_fill
  intro mean mg mb dp un gd cn cs a ccd cl outer A₀ base h₀ L m s Q E B F X N T hk hdp hun hret
  refine wpAny_call ?_
  k_dflt (walk_at "my enter")
  k_steps
  all_goals exact fin hret (by k_asm) (by walk_at "end led1") ⟨_, _, _, rfl, rfl⟩

theorem c_nod2 (w : World) {led : Led} {tk tk2 : Tok} (_ : True) : Ctr w 108 3 led [.str (Str.ofString "1") tk, .str (Str.ofString "5") tk2] (fun r led' => ∃ p t u, led' = (p, tupO [.int 3 t, .int 2 u]) :: led ∧ r = .ref p) := by
  unfold Ctr
  k_fill
  intro mean mg mb dp un gd cn cs a ccd cl outer A₀ base h₀ L m s Q E B F X N T hk hdp hun hret
  refine wpAny_call ?_
  k_dflt (walk_at "my enter")
  k_steps
  all_goals exact fin hret (by k_asm) (by walk_at "end led1") ⟨_, _, _, rfl, rfl⟩

theorem c_nod3 (w : World) {led : Led} {tk tk2 : Tok} (_ : True) : Ctr w 108 3 led [.str (Str.ofString "2") tk, .str (Str.ofString "") tk2] (fun r led' => ∃ p t u, led' = (p, tupO [.int 2 t, .int 1 u]) :: led ∧ r = .ref p) := by
  unfold Ctr
  k_fill
  intro mean mg mb dp un gd cn cs a ccd cl outer A₀ base h₀ L m s Q E B F X N T hk hdp hun hret
  refine wpAny_call ?_
  k_dflt (walk_at "my enter")
  k_steps
  all_goals exact fin hret (by k_asm) (by walk_at "end led1") ⟨_, _, _, rfl, rfl⟩

theorem c_nod4 (w : World) {led : Led} {tk tk2 : Tok} (_ : True) : Ctr w 108 3 led [.str (Str.ofString "02") tk, .str (Str.ofString "0") tk2] (fun r led' => ∃ p t u, led' = (p, tupO [.int 2 t, .int 1 u]) :: led ∧ r = .ref p) := by
  unfold Ctr
  k_fill
  intro mean mg mb dp un gd cn cs a ccd cl outer A₀ base h₀ L m s Q E B F X N T hk hdp hun hret
  refine wpAny_call ?_
  k_dflt (walk_at "my enter")
  k_steps
  all_goals exact fin hret (by k_asm) (by walk_at "end led1") ⟨_, _, _, rfl, rfl⟩

theorem c_nod5 (w : World) {led : Led} {tk tk2 : Tok} (_ : True) : Ctr w 108 3 led [.str (Str.ofString "0") tk, .str (Str.ofString "") tk2] (fun r led' => ∃ p t u, led' = (p, tupO [.int 0 t, .int 1 u]) :: led ∧ r = .ref p) := by
  unfold Ctr
  k_fill
  intro mean mg mb dp un gd cn cs a ccd cl outer A₀ base h₀ L m s Q E B F X N T hk hdp hun hret
  refine wpAny_call ?_
  k_dflt (walk_at "my enter")
  k_steps
  all_goals exact fin hret (by k_asm) (by walk_at "end led1") ⟨_, _, _, rfl, rfl⟩

def nodL : List ((Str × Str) × (Int × Int)) := [(((Str.ofString "1"), (Str.ofString "")), (1, 1)), (((Str.ofString "0"), (Str.ofString "5")), (1, 2)), (((Str.ofString "1"), (Str.ofString "5")), (3, 2)), (((Str.ofString "2"), (Str.ofString "")), (2, 1)), (((Str.ofString "02"), (Str.ofString "0")), (2, 1)), (((Str.ofString "0"), (Str.ofString "")), (0, 1))]
theorem c_nod (w : World) {led : Led} {a b : Str} {x y : Int} {tk tk2 : Tok} (h : ((a, b), (x, y)) ∈ nodL) : Ctr w 108 3 led [.str a tk, .str b tk2] (fun r led' => ∃ p t u, led' = (p, tupO [.int x t, .int y u]) :: led ∧ r = .ref p) := by
  simp only [nodL, List.mem_cons, List.not_mem_nil, or_false, Prod.mk.injEq] at h
  rcases h with h | h | h | h | h | h
  · obtain ⟨⟨rfl, rfl⟩, rfl, rfl⟩ := h; exact c_nod0 w trivial
  · obtain ⟨⟨rfl, rfl⟩, rfl, rfl⟩ := h; exact c_nod1 w trivial
  · obtain ⟨⟨rfl, rfl⟩, rfl, rfl⟩ := h; exact c_nod2 w trivial
  · obtain ⟨⟨rfl, rfl⟩, rfl, rfl⟩ := h; exact c_nod3 w trivial
  · obtain ⟨⟨rfl, rfl⟩, rfl, rfl⟩ := h; exact c_nod4 w trivial
  · obtain ⟨⟨rfl, rfl⟩, rfl, rfl⟩ := h; exact c_nod5 w trivial

end
section
theorem words_16001 : True := by
  k_with_none
  (k_with "@my enter" => (refine' code_def ?w9k1 ?w9k2 ?w9k3 ?w9k4 ?w9k5 ?w9kA ?w9kF ?w9kK ?w9k6 ?w9k7 ?w9k8 ?w9k9 ?w9kB ?_ ?w9c2 ?w9c3 ?w9c4 ?w9c5; (case w9kA => exact rfl); (case w9kF => exact rfl); (case w9kK => first | exact rfl | assumption); (case w9k1 => k_asm); (case w9k2 => k_asm); (case w9k3 => k_asm); (case w9k4 => k_asm); (case w9k5 => k_asm); (case w9k6 => k_is); (case w9k7 => k_is); (case w9k8 => ktr_room); (case w9k9 => first | exact BindsTo.of_eq rfl | exact binds_K (by k_in) rfl (by k_is) rfl rfl rfl); (case w9c5 => decide); (case w9kB => exact locs rfl); (case w9c2 => exact rfl); (case w9c3 => exact rfl); (case w9c4 => exact rfl); k_whole; intro g' L' h' FG' F' N' B' X' T'; (try dsimp only); (try k_lift B'); (try k_fold)))
  (k_with "@my enterC" => (refine' code_defC ?w9k1 ?w9k2 ?w9k3 ?w9k4 ?w9k5 ?w9kA ?w9kF ?w9kK ?w9k6 ?w9k7 ?w9k8 ?w9k9 ?w9kB ?w9kD ?_ ?w9c2 ?w9c3 ?w9c4; (case w9kA => exact rfl); (case w9kF => exact rfl); (case w9kK => first | exact rfl | assumption); (case w9k1 => k_asm); (case w9k2 => k_asm); (case w9k3 => k_asm); (case w9k4 => k_asm); (case w9k5 => k_asm); (case w9k6 => k_is); (case w9k7 => k_is); (case w9k8 => ktr_room); (case w9k9 => exact BindsTo.of_eq rfl); (case w9kB => exact rfl); (case w9kD => decide +kernel); (case w9c2 => exact rfl); (case w9c3 => exact rfl); (case w9c4 => exact rfl); k_whole; intro g' L' h' tk' cells' FG' F' N' Y' B' X' T' l1; k_cells Y'; (try simp only [List.cons_append, List.nil_append] at N'); (try dsimp only); (try k_lift B'); (try k_fold)))
  (k_with "@use led" => first | k_asm | exact News.sw1 (by k_asm) | exact News.sw2 (by k_asm) | exact News.sw3 (by k_asm) | exact News.sw4 (by k_asm) | exact News.sw5 (by k_asm) | exact News.sw6 (by k_asm) | exact News.sw7 (by k_asm) | exact News.sw8 (by k_asm) | exact News.sw9 (by k_asm) | exact News.sw10 (by k_asm) | exact News.sw11 (by k_asm) | exact News.sw12 (by k_asm) | exact News.sw13 (by k_asm) | exact News.sw14 (by k_asm) | exact News.sw15 (by k_asm) | exact News.sw16 (by k_asm) | exact News.sw17 (by k_asm) | exact News.sw18 (by k_asm) | exact News.sw19 (by k_asm) | exact News.sw20 (by k_asm) | exact News.sw21 (by k_asm) | exact News.sw22 (by k_asm) | exact News.sw23 (by k_asm) | exact News.sw24 (by k_asm) | exact News.sw25 (by k_asm) | exact News.sw26 (by k_asm))
  (k_with "k_all" => assumption)
  (k_with "@use pre 1" => first | assumption | omega | k_mem | k_all | rfl)
  (k_with "@use pre" => ((repeat' (first | (with_reducible refine And.intro ?_ ?_) | fail)); all_goals (walk_at "use pre 1")))
  (k_with "k_mem" => assumption)
  (k_with "@eval Call" => ((with_reducible show wpAny _ _ (eval (Expr.Call (Expr.Name _ _) _ [] _) _) _ _ _); k_dflt (refine Call_ ?_)))
  (k_with "@end led" => first | k_asm | exact News.d1 (by k_asm) | exact News.d2 (by k_asm) | exact News.d3 (by k_asm) | exact News.d4 (by k_asm) | exact News.d5 (by k_asm) | exact News.d6 (by k_asm) | exact News.d7 (by k_asm) | exact News.d8 (by k_asm) | exact News.d9 (by k_asm) | exact News.d10 (by k_asm) | exact News.d11 (by k_asm) | exact News.d12 (by k_asm))
  (k_with "@pyIter str" => k_extra "pyIter str")
  (k_with "@pyIter ref" => k_extra "pyIter ref")
  (k_with "@end led1" => first | k_asm | exact News.h1 (by k_asm) | exact News.h2 (by k_asm) | exact News.h3 (by k_asm) | exact News.h4 (by k_asm) | exact News.h5 (by k_asm) | exact News.h6 (by k_asm) | exact News.h7 (by k_asm) | exact News.h8 (by k_asm) | exact News.h9 (by k_asm))
  (k_with "@eval Name" => (k_here; k_dflt (first | (refine' nameX_L ?w9F ?w9v ?_ ?w9a ?w9b; (case w9F => k_asm); (case w9a => rfl); (case w9b => rfl); (case w9v => rfl); k_whole) | (refine' nameX_K ?w9F ?w9X ?w9T ?w9e ?_ ?w9a ?w9b; (case w9F => k_asm); (case w9X => k_asm); (case w9T => k_asm); (case w9a => rfl); (case w9b => rfl); (case w9e => k_is); k_whole) | (refine' nameX_B ?w9F ?w9X ?w9T ?w9e ?w9v ?w9n ?_ ?w9a ?w9b; (case w9F => k_asm); (case w9X => k_asm); (case w9T => k_asm); (case w9a => rfl); (case w9b => rfl); (case w9e => k_is); (case w9v => boot_fast); (case w9n => decide); k_whole))))
  (k_with "k_ne" => first | assumption | exact Nat.ne_of_gt (by assumption) | exact Nat.ne_of_lt (by assumption) | exact ne_p1 (by with_reducible assumption) | exact ne_p2 (by with_reducible assumption) | exact ne_p3 (by with_reducible assumption) | exact ne_p4 (by with_reducible assumption) | exact ne_p5 (by with_reducible assumption) | exact ne_p6 (by with_reducible assumption) | exact ne_p7 (by with_reducible assumption) | exact ne_p8 (by with_reducible assumption) | exact ne_q1 (by with_reducible assumption) | exact ne_q2 (by with_reducible assumption) | exact ne_q3 (by with_reducible assumption) | exact ne_q4 (by with_reducible assumption) | exact ne_q5 (by with_reducible assumption) | exact ne_q6 (by with_reducible assumption) | exact ne_q7 (by with_reducible assumption) | exact ne_q8 (by with_reducible assumption))
  trivial
theorem words_16002 : True := by
  (k_with "@subscriptTail" => (k_here; (with_reducible show wpAny _ _ (subscriptTail _ _ (Value.ref _) (Value.int 0 _)) _ _ _); k_dflt (refine' item_num0 ?w9nF ?w9nX ?w9nN ?w9nV ?_ ?w9ns; (case w9nF => k_asm); (case w9nX => k_asm); (case w9nN => k_asm); (case w9nV => assumption); (case w9ns => with_unfolding_all rfl))))
  (k_with "@subscriptTail" => (k_here; (with_reducible show wpAny _ _ (subscriptTail _ _ (Value.ref _) (Value.int 1 _)) _ _ _); k_dflt (refine' item_num1 ?w9nF ?w9nX ?w9nN ?w9nV ?_ ?w9ns; (case w9nF => k_asm); (case w9nX => k_asm); (case w9nN => k_asm); (case w9nV => assumption); (case w9ns => with_unfolding_all rfl))))
  trivial
theorem c_neg (w : World) {led : Led} {p : Addr} {x y : Int} {t u : Tok} (V : NumV led p x y t u) : Ctr w 59 1 led [.ref p] (fun r led' => ∃ q t' u', led' = (q, tupO [.int (-x) t', .int y u']) :: led ∧ r = .ref q) := by
  unfold Ctr
  k_fill
  intro mean mg mb dp un gd cn cs a ccd cl outer A₀ base h₀ L m s Q E B F X N T hk hdp hun hret
  refine wpAny_call ?_
  k_dflt (walk_at "my enter")
  k_steps
  all_goals exact fin hret (by k_asm) (by walk_at "end led1") ⟨_, _, _, rfl, rfl⟩

end
section
theorem words_17001 : True := by
  k_with_none
  (k_with "@my enter" => (refine' code_def ?w9k1 ?w9k2 ?w9k3 ?w9k4 ?w9k5 ?w9kA ?w9kF ?w9kK ?w9k6 ?w9k7 ?w9k8 ?w9k9 ?w9kB ?_ ?w9c2 ?w9c3 ?w9c4 ?w9c5; (case w9kA => exact rfl); (case w9kF => exact rfl); (case w9kK => first | exact rfl | assumption); (case w9k1 => k_asm); (case w9k2 => k_asm); (case w9k3 => k_asm); (case w9k4 => k_asm); (case w9k5 => k_asm); (case w9k6 => k_is); (case w9k7 => k_is); (case w9k8 => ktr_room); (case w9k9 => first | exact BindsTo.of_eq rfl | exact binds_K (by k_in) rfl (by k_is) rfl rfl rfl); (case w9c5 => decide); (case w9kB => exact locs rfl); (case w9c2 => exact rfl); (case w9c3 => exact rfl); (case w9c4 => exact rfl); k_whole; intro g' L' h' FG' F' N' B' X' T'; (try dsimp only); (try k_lift B'); (try k_fold)))
  (k_with "@my enterC" => (refine' code_defC ?w9k1 ?w9k2 ?w9k3 ?w9k4 ?w9k5 ?w9kA ?w9kF ?w9kK ?w9k6 ?w9k7 ?w9k8 ?w9k9 ?w9kB ?w9kD ?_ ?w9c2 ?w9c3 ?w9c4; (case w9kA => exact rfl); (case w9kF => exact rfl); (case w9kK => first | exact rfl | assumption); (case w9k1 => k_asm); (case w9k2 => k_asm); (case w9k3 => k_asm); (case w9k4 => k_asm); (case w9k5 => k_asm); (case w9k6 => k_is); (case w9k7 => k_is); (case w9k8 => ktr_room); (case w9k9 => exact BindsTo.of_eq rfl); (case w9kB => exact rfl); (case w9kD => decide +kernel); (case w9c2 => exact rfl); (case w9c3 => exact rfl); (case w9c4 => exact rfl); k_whole; intro g' L' h' tk' cells' FG' F' N' Y' B' X' T' l1; k_cells Y'; (try simp only [List.cons_append, List.nil_append] at N'); (try dsimp only); (try k_lift B'); (try k_fold)))
  (k_with "@use led" => first | k_asm | exact News.sw1 (by k_asm) | exact News.sw2 (by k_asm) | exact News.sw3 (by k_asm) | exact News.sw4 (by k_asm) | exact News.sw5 (by k_asm) | exact News.sw6 (by k_asm) | exact News.sw7 (by k_asm) | exact News.sw8 (by k_asm) | exact News.sw9 (by k_asm) | exact News.sw10 (by k_asm) | exact News.sw11 (by k_asm) | exact News.sw12 (by k_asm) | exact News.sw13 (by k_asm) | exact News.sw14 (by k_asm) | exact News.sw15 (by k_asm) | exact News.sw16 (by k_asm) | exact News.sw17 (by k_asm) | exact News.sw18 (by k_asm) | exact News.sw19 (by k_asm) | exact News.sw20 (by k_asm) | exact News.sw21 (by k_asm) | exact News.sw22 (by k_asm) | exact News.sw23 (by k_asm) | exact News.sw24 (by k_asm) | exact News.sw25 (by k_asm) | exact News.sw26 (by k_asm))
  (k_with "k_all" => assumption)
  (k_with "@use pre 1" => first | assumption | omega | k_mem | k_all | rfl)
  (k_with "@use pre" => ((repeat' (first | (with_reducible refine And.intro ?_ ?_) | fail)); all_goals (walk_at "use pre 1")))
  (k_with "k_mem" => assumption)
  (k_with "@eval Call" => ((with_reducible show wpAny _ _ (eval (Expr.Call (Expr.Name _ _) _ [] _) _) _ _ _); k_dflt (refine Call_ ?_)))
  (k_with "@end led" => first | k_asm | exact News.d1 (by k_asm) | exact News.d2 (by k_asm) | exact News.d3 (by k_asm) | exact News.d4 (by k_asm) | exact News.d5 (by k_asm) | exact News.d6 (by k_asm) | exact News.d7 (by k_asm) | exact News.d8 (by k_asm) | exact News.d9 (by k_asm) | exact News.d10 (by k_asm) | exact News.d11 (by k_asm) | exact News.d12 (by k_asm))
  (k_with "@pyIter str" => k_extra "pyIter str")
  (k_with "@pyIter ref" => k_extra "pyIter ref")
  (k_with "@end led1" => first | k_asm | exact News.h1 (by k_asm) | exact News.h2 (by k_asm) | exact News.h3 (by k_asm) | exact News.h4 (by k_asm) | exact News.h5 (by k_asm) | exact News.h6 (by k_asm) | exact News.h7 (by k_asm) | exact News.h8 (by k_asm) | exact News.h9 (by k_asm))
  (k_with "@eval Name" => (k_here; k_dflt (first | (refine' nameX_L ?w9F ?w9v ?_ ?w9a ?w9b; (case w9F => k_asm); (case w9a => rfl); (case w9b => rfl); (case w9v => rfl); k_whole) | (refine' nameX_K ?w9F ?w9X ?w9T ?w9e ?_ ?w9a ?w9b; (case w9F => k_asm); (case w9X => k_asm); (case w9T => k_asm); (case w9a => rfl); (case w9b => rfl); (case w9e => k_is); k_whole) | (refine' nameX_B ?w9F ?w9X ?w9T ?w9e ?w9v ?w9n ?_ ?w9a ?w9b; (case w9F => k_asm); (case w9X => k_asm); (case w9T => k_asm); (case w9a => rfl); (case w9b => rfl); (case w9e => k_is); (case w9v => boot_fast); (case w9n => decide); k_whole))))
  (k_with "k_ne" => first | assumption | exact Nat.ne_of_gt (by assumption) | exact Nat.ne_of_lt (by assumption) | exact ne_p1 (by with_reducible assumption) | exact ne_p2 (by with_reducible assumption) | exact ne_p3 (by with_reducible assumption) | exact ne_p4 (by with_reducible assumption) | exact ne_p5 (by with_reducible assumption) | exact ne_p6 (by with_reducible assumption) | exact ne_p7 (by with_reducible assumption) | exact ne_p8 (by with_reducible assumption) | exact ne_q1 (by with_reducible assumption) | exact ne_q2 (by with_reducible assumption) | exact ne_q3 (by with_reducible assumption) | exact ne_q4 (by with_reducible assumption) | exact ne_q5 (by with_reducible assumption) | exact ne_q6 (by with_reducible assumption) | exact ne_q7 (by with_reducible assumption) | exact ne_q8 (by with_reducible assumption))
  trivial
theorem words_17002 : True := by
  (k_with "@my item" => (k_here; (with_reducible show wpAny _ _ (subscriptTail _ _ (Value.str _ _) (Value.int _ _)) _ _ _); k_dflt (refine' item_lit ?w9i0 ?_ ?w9i1 ?w9i2; (case w9i0 => decide +kernel); (case w9i1 => with_unfolding_all rfl); (case w9i2 => (intro _; with_unfolding_all rfl)))))
  (k_with "@subscriptTail Name Name str int" => walk_at "my item")
  (k_with "@subscriptTail Name BinOp str int" => walk_at "my item")
  (k_with "@storeName" => (k_here; ktx_write))
  (k_with "@compareOp Eq str" => (k_here; ktx_write))
  (k_with "@compareOp In str" => (k_here; ktx_write))
  (k_with "@compareOp GtE str" => (k_here; ktx_write))
  (k_with "@binaryOp Add str" => (k_here; ktx_write))
  (k_with "@call builtin:len" => (k_here; ktx_write))
  (k_with "@ite" => (k_closed; k_dflt (first | refine PySem.W.ite_pos (by decide +kernel) ?_ | refine PySem.W.ite_neg (by decide +kernel) ?_)))
  (k_with "@storeName" => (k_here; (with_reducible show wpAny _ _ (storeName _ _ (Value.int _ _)) _ _ _); (fail_if_success (with_reducible show wpAny _ _ (storeName _ _ (Value.int (OfNat.ofNat _) _)) _ _ _)); k_dflt (refine store_lit (by k_dflt kxw_int) ?_)))
  (k_with "@call ref" => (k_here; (with_reducible show wpAny _ _ (call _ (Value.int _ _ :: _)) _ _ _); (fail_if_success (with_reducible show wpAny _ _ (call _ (Value.int (OfNat.ofNat _) _ :: _)) _ _ _)); k_dflt (refine call_lit1 (by k_dflt kxw_int) ?_)))
  (k_with "@call ref" => (k_here; (with_reducible show wpAny _ _ (call _ (_ :: Value.int _ _ :: _)) _ _ _); (fail_if_success (with_reducible show wpAny _ _ (call _ (_ :: Value.int (OfNat.ofNat _) _ :: _)) _ _ _)); k_dflt (refine call_lit2 (by k_dflt kxw_int) ?_)))
  (k_with "@call ref" => (k_here; ktx_write))
  (k_with "@my mem" => first | with_reducible exact List.mem_cons_self | (with_reducible refine List.mem_cons_of_mem _ ?_; walk_at "my mem"))
  (k_with "@call ref" => (k_here; (with_reducible show wpAny _ _ (call (Value.ref 87) _) _ _ _); k_dflt (refine' Ctr.useB ?w9uN ?w9uB ?w9uF ?w9uX ?w9uT ?w9uK ?w9uD ?w9uU (c_trim _ ?w9uP) ?_; (case w9uN => walk_at "use led"); (case w9uB => k_asm); (case w9uF => k_asm); (case w9uX => k_asm); (case w9uT => k_asm); (case w9uK => first | exact rfl | assumption); (case w9uD => ktr_room); (case w9uU => ktr_units); (case w9uP => (unfold trimL; walk_at "my mem"))); intro t9 h9 tk9 F9 N9; (try k_sweep); (try k_fold)))
  (k_with "@call ref" => (k_here; (with_reducible show wpAny _ _ (call (Value.ref 80) _) _ _ _); k_dflt (refine' Ctr.useB ?w9uN ?w9uB ?w9uF ?w9uX ?w9uT ?w9uK ?w9uD ?w9uU (c_de _ ?w9uP) ?_; (case w9uN => walk_at "use led"); (case w9uB => k_asm); (case w9uF => k_asm); (case w9uX => k_asm); (case w9uT => k_asm); (case w9uK => first | exact rfl | assumption); (case w9uD => ktr_room); (case w9uU => ktr_units); (case w9uP => (unfold deL; walk_at "my mem"))); intro t9 h9 tk9 F9 N9; (try k_sweep); (try k_fold)))
  (k_with "@call ref" => (k_here; (with_reducible show wpAny _ _ (call (Value.ref 108) _) _ _ _); k_dflt (refine' Ctr.useC ?w9uN ?w9uB ?w9uF ?w9uX ?w9uT ?w9uK ?w9uD ?w9uU (c_nod _ ?w9uP) ?_; (case w9uN => walk_at "use led"); (case w9uB => k_asm); (case w9uF => k_asm); (case w9uX => k_asm); (case w9uT => k_asm); (case w9uK => first | exact rfl | assumption); (case w9uD => ktr_room); (case w9uU => ktr_units); (case w9uP => (unfold nodL; walk_at "my mem"))); intro p9 t9 u9 h9 tk9 F9 N9; (try k_sweep); (try k_fold)))
  (k_with "@call ref" => (k_here; (with_reducible show wpAny _ _ (call (Value.ref 59) _) _ _ _); k_dflt (refine' Ctr.useC ?w9uN ?w9uB ?w9uF ?w9uX ?w9uT ?w9uK ?w9uD ?w9uU (c_neg _ ?w9uP) ?_; (case w9uN => walk_at "use led"); (case w9uB => k_asm); (case w9uF => k_asm); (case w9uX => k_asm); (case w9uT => k_asm); (case w9uK => first | exact rfl | assumption); (case w9uD => ktr_room); (case w9uU => ktr_units); (case w9uP => exact Or.inl (by k_mem))); intro p9 t9 u9 h9 tk9 F9 N9; (try k_sweep); (try k_fold)))
  trivial
theorem c_read0 (w : World) {led : Led} {tk : Tok} (_ : True) : Ctr w 101 4 led [.str (Str.ofString "1") tk] (fun r led' => ∃ p t u, led' = (p, tupO [.int (1) t, .int 1 u]) :: led ∧ r = .ref p) := by
  unfold Ctr
  k_fill
  intro mean mg mb dp un gd cn cs a ccd cl outer A₀ base h₀ L m s Q E B F X N T hk hdp hun hret
  refine wpAny_call ?_
  k_dflt (walk_at "my enter")
  k_steps
  all_goals exact fin hret (by k_asm) (by walk_at "end led1") ⟨_, _, _, rfl, rfl⟩

theorem c_read1 (w : World) {led : Led} {tk : Tok} (_ : True) : Ctr w 101 4 led [.str (Str.ofString " 1 ") tk] (fun r led' => ∃ p t u, led' = (p, tupO [.int (1) t, .int 1 u]) :: led ∧ r = .ref p) := by
  unfold Ctr
  k_fill
  intro mean mg mb dp un gd cn cs a ccd cl outer A₀ base h₀ L m s Q E B F X N T hk hdp hun hret
  refine wpAny_call ?_
  k_dflt (walk_at "my enter")
  k_steps
  all_goals exact fin hret (by k_asm) (by walk_at "end led1") ⟨_, _, _, rfl, rfl⟩

theorem c_read2 (w : World) {led : Led} {tk : Tok} (_ : True) : Ctr w 101 4 led [.str (Str.ofString "0.5") tk] (fun r led' => ∃ p t u, led' = (p, tupO [.int (1) t, .int 2 u]) :: led ∧ r = .ref p) := by
  unfold Ctr
  k_fill
  intro mean mg mb dp un gd cn cs a ccd cl outer A₀ base h₀ L m s Q E B F X N T hk hdp hun hret
  refine wpAny_call ?_
  k_dflt (walk_at "my enter")
  k_steps
  all_goals exact fin hret (by k_asm) (by walk_at "end led1") ⟨_, _, _, rfl, rfl⟩

theorem c_read3 (w : World) {led : Led} {tk : Tok} (_ : True) : Ctr w 101 4 led [.str (Str.ofString "-1.5") tk] (fun r led' => ∃ p t u, led' = (p, tupO [.int (-3) t, .int 2 u]) :: led ∧ r = .ref p) := by
  unfold Ctr
  k_fill
  intro mean mg mb dp un gd cn cs a ccd cl outer A₀ base h₀ L m s Q E B F X N T hk hdp hun hret
  refine wpAny_call ?_
  k_dflt (walk_at "my enter")
  k_steps
  all_goals exact fin hret (by k_asm) (by walk_at "end led1") ⟨_, _, _, rfl, rfl⟩

theorem c_read4 (w : World) {led : Led} {tk : Tok} (_ : True) : Ctr w 101 4 led [.str (Str.ofString "2") tk] (fun r led' => ∃ p t u, led' = (p, tupO [.int (2) t, .int 1 u]) :: led ∧ r = .ref p) := by
  unfold Ctr
  k_fill
  intro mean mg mb dp un gd cn cs a ccd cl outer A₀ base h₀ L m s Q E B F X N T hk hdp hun hret
  refine wpAny_call ?_
  k_dflt (walk_at "my enter")
  k_steps
  all_goals exact fin hret (by k_asm) (by walk_at "end led1") ⟨_, _, _, rfl, rfl⟩

theorem c_read5 (w : World) {led : Led} {tk : Tok} (_ : True) : Ctr w 101 4 led [.str (Str.ofString "02.0") tk] (fun r led' => ∃ p t u, led' = (p, tupO [.int (2) t, .int 1 u]) :: led ∧ r = .ref p) := by
  unfold Ctr
  k_fill
  intro mean mg mb dp un gd cn cs a ccd cl outer A₀ base h₀ L m s Q E B F X N T hk hdp hun hret
  refine wpAny_call ?_
  k_dflt (walk_at "my enter")
  k_steps
  all_goals exact fin hret (by k_asm) (by walk_at "end led1") ⟨_, _, _, rfl, rfl⟩

theorem c_read6 (w : World) {led : Led} {tk : Tok} (_ : True) : Ctr w 101 4 led [.str (Str.ofString "") tk] (fun r led' => led' = led ∧ r = .ref 22) := by
  unfold Ctr
  k_fill
  intro mean mg mb dp un gd cn cs a ccd cl outer A₀ base h₀ L m s Q E B F X N T hk hdp hun hret
  refine wpAny_call ?_
  k_dflt (walk_at "my enter")
  k_steps
  all_goals exact fin hret (by k_asm) (by walk_at "end led") ⟨rfl, rfl⟩

theorem c_read7 (w : World) {led : Led} {tk : Tok} (_ : True) : Ctr w 101 4 led [.str (Str.ofString "x") tk] (fun r led' => led' = led ∧ r = .ref 22) := by
  unfold Ctr
  k_fill
  intro mean mg mb dp un gd cn cs a ccd cl outer A₀ base h₀ L m s Q E B F X N T hk hdp hun hret
  refine wpAny_call ?_
  k_dflt (walk_at "my enter")
  k_steps
  all_goals exact fin hret (by k_asm) (by walk_at "end led") ⟨rfl, rfl⟩

theorem c_read8 (w : World) {led : Led} {tk : Tok} (_ : True) : Ctr w 101 4 led [.str (Str.ofString "1e0") tk] (fun r led' => led' = led ∧ r = .ref 22) := by
  unfold Ctr
  k_fill
  intro mean mg mb dp un gd cn cs a ccd cl outer A₀ base h₀ L m s Q E B F X N T hk hdp hun hret
  refine wpAny_call ?_
  k_dflt (walk_at "my enter")
  k_steps
  all_goals exact fin hret (by k_asm) (by walk_at "end led") ⟨rfl, rfl⟩

theorem c_read9 (w : World) {led : Led} {tk : Tok} (_ : True) : Ctr w 101 4 led [.str (Str.ofString "+1") tk] (fun r led' => led' = led ∧ r = .ref 22) := by
  unfold Ctr
  k_fill
  intro mean mg mb dp un gd cn cs a ccd cl outer A₀ base h₀ L m s Q E B F X N T hk hdp hun hret
  refine wpAny_call ?_
  k_dflt (walk_at "my enter")
  k_steps
  all_goals exact fin hret (by k_asm) (by walk_at "end led") ⟨rfl, rfl⟩

theorem c_read10 (w : World) {led : Led} {tk : Tok} (_ : True) : Ctr w 101 4 led [.str (Str.ofString "0") tk] (fun r led' => ∃ p t u, led' = (p, tupO [.int (0) t, .int 1 u]) :: led ∧ r = .ref p) := by
  unfold Ctr
  k_fill
  intro mean mg mb dp un gd cn cs a ccd cl outer A₀ base h₀ L m s Q E B F X N T hk hdp hun hret
  refine wpAny_call ?_
  k_dflt (walk_at "my enter")
  k_steps
  all_goals exact fin hret (by k_asm) (by walk_at "end led1") ⟨_, _, _, rfl, rfl⟩

theorem c_read11 (w : World) {led : Led} {tk : Tok} (_ : True) : Ctr w 101 4 led [.str (Str.ofString "-0") tk] (fun r led' => ∃ p t u, led' = (p, tupO [.int (0) t, .int 1 u]) :: led ∧ r = .ref p) := by
  unfold Ctr
  k_fill
  intro mean mg mb dp un gd cn cs a ccd cl outer A₀ base h₀ L m s Q E B F X N T hk hdp hun hret
  refine wpAny_call ?_
  k_dflt (walk_at "my enter")
  k_steps
  all_goals exact fin hret (by k_asm) (by walk_at "end led1") ⟨_, _, _, rfl, rfl⟩

end
section
theorem words_18001 : True := by
  k_with_none
  (k_with "@my enter" => (refine' code_def ?w9k1 ?w9k2 ?w9k3 ?w9k4 ?w9k5 ?w9kA ?w9kF ?w9kK ?w9k6 ?w9k7 ?w9k8 ?w9k9 ?w9kB ?_ ?w9c2 ?w9c3 ?w9c4 ?w9c5; (case w9kA => exact rfl); (case w9kF => exact rfl); (case w9kK => first | exact rfl | assumption); (case w9k1 => k_asm); (case w9k2 => k_asm); (case w9k3 => k_asm); (case w9k4 => k_asm); (case w9k5 => k_asm); (case w9k6 => k_is); (case w9k7 => k_is); (case w9k8 => ktr_room); (case w9k9 => first | exact BindsTo.of_eq rfl | exact binds_K (by k_in) rfl (by k_is) rfl rfl rfl); (case w9c5 => decide); (case w9kB => exact locs rfl); (case w9c2 => exact rfl); (case w9c3 => exact rfl); (case w9c4 => exact rfl); k_whole; intro g' L' h' FG' F' N' B' X' T'; (try dsimp only); (try k_lift B'); (try k_fold)))
  (k_with "@my enterC" => (refine' code_defC ?w9k1 ?w9k2 ?w9k3 ?w9k4 ?w9k5 ?w9kA ?w9kF ?w9kK ?w9k6 ?w9k7 ?w9k8 ?w9k9 ?w9kB ?w9kD ?_ ?w9c2 ?w9c3 ?w9c4; (case w9kA => exact rfl); (case w9kF => exact rfl); (case w9kK => first | exact rfl | assumption); (case w9k1 => k_asm); (case w9k2 => k_asm); (case w9k3 => k_asm); (case w9k4 => k_asm); (case w9k5 => k_asm); (case w9k6 => k_is); (case w9k7 => k_is); (case w9k8 => ktr_room); (case w9k9 => exact BindsTo.of_eq rfl); (case w9kB => exact rfl); (case w9kD => decide +kernel); (case w9c2 => exact rfl); (case w9c3 => exact rfl); (case w9c4 => exact rfl); k_whole; intro g' L' h' tk' cells' FG' F' N' Y' B' X' T' l1; k_cells Y'; (try simp only [List.cons_append, List.nil_append] at N'); (try dsimp only); (try k_lift B'); (try k_fold)))
  (k_with "@use led" => first | k_asm | exact News.sw1 (by k_asm) | exact News.sw2 (by k_asm) | exact News.sw3 (by k_asm) | exact News.sw4 (by k_asm) | exact News.sw5 (by k_asm) | exact News.sw6 (by k_asm) | exact News.sw7 (by k_asm) | exact News.sw8 (by k_asm) | exact News.sw9 (by k_asm) | exact News.sw10 (by k_asm) | exact News.sw11 (by k_asm) | exact News.sw12 (by k_asm) | exact News.sw13 (by k_asm) | exact News.sw14 (by k_asm) | exact News.sw15 (by k_asm) | exact News.sw16 (by k_asm) | exact News.sw17 (by k_asm) | exact News.sw18 (by k_asm) | exact News.sw19 (by k_asm) | exact News.sw20 (by k_asm) | exact News.sw21 (by k_asm) | exact News.sw22 (by k_asm) | exact News.sw23 (by k_asm) | exact News.sw24 (by k_asm) | exact News.sw25 (by k_asm) | exact News.sw26 (by k_asm))
  (k_with "k_all" => assumption)
  (k_with "@use pre 1" => first | assumption | omega | k_mem | k_all | rfl)
  (k_with "@use pre" => ((repeat' (first | (with_reducible refine And.intro ?_ ?_) | fail)); all_goals (walk_at "use pre 1")))
  (k_with "k_mem" => assumption)
  (k_with "@eval Call" => ((with_reducible show wpAny _ _ (eval (Expr.Call (Expr.Name _ _) _ [] _) _) _ _ _); k_dflt (refine Call_ ?_)))
  (k_with "@end led" => first | k_asm | exact News.d1 (by k_asm) | exact News.d2 (by k_asm) | exact News.d3 (by k_asm) | exact News.d4 (by k_asm) | exact News.d5 (by k_asm) | exact News.d6 (by k_asm) | exact News.d7 (by k_asm) | exact News.d8 (by k_asm) | exact News.d9 (by k_asm) | exact News.d10 (by k_asm) | exact News.d11 (by k_asm) | exact News.d12 (by k_asm))
  (k_with "@pyIter str" => k_extra "pyIter str")
  (k_with "@pyIter ref" => k_extra "pyIter ref")
  (k_with "@end led1" => first | k_asm | exact News.h1 (by k_asm) | exact News.h2 (by k_asm) | exact News.h3 (by k_asm) | exact News.h4 (by k_asm) | exact News.h5 (by k_asm) | exact News.h6 (by k_asm) | exact News.h7 (by k_asm) | exact News.h8 (by k_asm) | exact News.h9 (by k_asm))
  (k_with "@eval Name" => (k_here; k_dflt (first | (refine' nameX_L ?w9F ?w9v ?_ ?w9a ?w9b; (case w9F => k_asm); (case w9a => rfl); (case w9b => rfl); (case w9v => rfl); k_whole) | (refine' nameX_K ?w9F ?w9X ?w9T ?w9e ?_ ?w9a ?w9b; (case w9F => k_asm); (case w9X => k_asm); (case w9T => k_asm); (case w9a => rfl); (case w9b => rfl); (case w9e => k_is); k_whole) | (refine' nameX_B ?w9F ?w9X ?w9T ?w9e ?w9v ?w9n ?_ ?w9a ?w9b; (case w9F => k_asm); (case w9X => k_asm); (case w9T => k_asm); (case w9a => rfl); (case w9b => rfl); (case w9e => k_is); (case w9v => boot_fast); (case w9n => decide); k_whole))))
  (k_with "k_ne" => first | assumption | exact Nat.ne_of_gt (by assumption) | exact Nat.ne_of_lt (by assumption) | exact ne_p1 (by with_reducible assumption) | exact ne_p2 (by with_reducible assumption) | exact ne_p3 (by with_reducible assumption) | exact ne_p4 (by with_reducible assumption) | exact ne_p5 (by with_reducible assumption) | exact ne_p6 (by with_reducible assumption) | exact ne_p7 (by with_reducible assumption) | exact ne_p8 (by with_reducible assumption) | exact ne_q1 (by with_reducible assumption) | exact ne_q2 (by with_reducible assumption) | exact ne_q3 (by with_reducible assumption) | exact ne_q4 (by with_reducible assumption) | exact ne_q5 (by with_reducible assumption) | exact ne_q6 (by with_reducible assumption) | exact ne_q7 (by with_reducible assumption) | exact ne_q8 (by with_reducible assumption))
  trivial
inductive PV where
  | b (v : Bool)
  | n (x y : Int)
  | s (t : Str)
deriving DecidableEq
def PVal (led : Led) (v : Value) : PV → Prop
  | .b c => v = .bool c
  | .n x y => ∃ p t u, v = .ref p ∧ NumV led p x y t u
  | .s x => ∃ t, v = .str x t
def readL : List (Str × (Int × Int)) := [(Str.ofString "1", (1, 1)), (Str.ofString " 1 ", (1, 1)), (Str.ofString "0.5", (1, 2)), (Str.ofString "-1.5", (-3, 2)), (Str.ofString "2", (2, 1)), (Str.ofString "02.0", (2, 1)), (Str.ofString "", (0, 0)), (Str.ofString "x", (0, 0)), (Str.ofString "1e0", (0, 0)), (Str.ofString "+1", (0, 0)), (Str.ofString "0", (0, 1)), (Str.ofString "-0", (0, 1))]
def PV.okB : PV → Bool
  | .b _ => true
  | .n x y => decide (-100 < x) && decide (x < 100) && decide (0 ≤ y) && decide (y < 100)
  | .s x => readL.any fun p => p.1 == x
def numOf : PV → Int × Int
  | .b c => if c then (1, 1) else (0, 1)
  | .n x y => (x, y)
  | .s x => (readL.lookup x).getD (0, 0)
def truthOf : PV → Bool
  | .b c => c
  | .n x _ => x != 0
  | .s x => x != Str.ofString ""
def PV.isB : PV → Bool
  | .b _ => true
  | _ => false
def PV.isS : PV → Bool
  | .s _ => true
  | _ => false
def isEq (op : Str) : Bool := op == Str.ofString "=" || op == Str.ofString "!="
def cplF (op : Str) (L R : PV) : Bool :=
  if isEq op && (L.isB || R.isB) then (truthOf L == truthOf R) == (op == Str.ofString "=")
  else if isEq op && (L.isS && R.isS) then decide (L = R) == (op == Str.ofString "=")
  else cnumF op (numOf L).1 (numOf L).2 (numOf R).1 (numOf R).2
theorem NumV.mono {led led' : Led} {p : Addr} {x y : Int} {t u : Tok} (V : NumV led p x y t u) (h : ∀ q ∈ led, q ∈ led') : NumV led' p x y t u := V.imp (h _) id
theorem NumV.cons {led : Led} {q : Addr × Obj} {p : Addr} {x y : Int} {t u : Tok} (V : NumV led p x y t u) : NumV (q :: led) p x y t u := V.mono fun _ h => .tail _ h
theorem NumV.head {led : Led} {p : Addr} {x y : Int} {t u : Tok} : NumV ((p, tupO [.int x t, .int y u]) :: led) p x y t u := .inl (.head _)
theorem NumV.nan {led : Led} : NumV led 22 0 0 196 197 := .inr ⟨rfl, rfl, rfl, rfl, rfl⟩
theorem PVal.mono {led led' : Led} {v : Value} : ∀ {P : PV}, PVal led v P → (∀ q ∈ led, q ∈ led') → PVal led' v P
  | .b _, V, _ => V
  | .n _ _, ⟨p, t, u, e, V⟩, h => ⟨p, t, u, e, V.mono h⟩
  | .s _, V, _ => V
theorem readL_nodup : ∀ x : Str, (readL.any fun p => p.1 == x) = true → (x, (readL.lookup x).getD (0, 0)) ∈ readL := by
  intro x h
  obtain ⟨p, hp, hx⟩ := List.any_eq_true.mp h
  have hx : p.1 = x := by simpa using hx
  subst hx
  have all : ∀ p ∈ readL, (p.1, (readL.lookup p.1).getD (0, 0)) ∈ readL := by decide +kernel
  exact all p hp
theorem readL_mem {x : Str} (ok : PV.okB (.s x) = true) : (x, numOf (.s x)) ∈ readL := readL_nodup x ok
section
variable {w : World} {A : Around} {E : Value → Shared → Prop} {s : Shared} {h₀ : Heap} {L p : Addr} {news : Led} {m : Str → Option Value} {x y : Int} {t u : Tok} {Q : Value → Shared → Prop}
  (F : Fr h₀ L s.heap m) (X : (k0.heap_1 w.params).In h₀) (N : News h₀ L s.heap news) (V : NumV news p x y t u)
include F X N V
theorem isi_num_tuple (h : Q (.bool true) s) : wpAny (model PySem.Challenge.rw_xm0672_01.row.prog w) A (call (.builtin "isinstance") [.ref p, .type "tuple"]) Q E s := by
  obtain ⟨o, ho, hc, _⟩ := V.tup F X N
  exact IsiPair.tuple_tuple ho hc h
theorem isi_num_bool (h : Q (.bool false) { s with toks := s.toks + 1 }) : wpAny (model PySem.Challenge.rw_xm0672_01.row.prog w) A (call (.builtin "isinstance") [.ref p, .type "bool"]) Q E s := by
  obtain ⟨o, ho, hc, _⟩ := V.tup F X N
  exact IsiPair.tuple_bool ho hc h
theorem isi_num_str (h : Q (.bool false) { s with toks := s.toks + 1 }) : wpAny (model PySem.Challenge.rw_xm0672_01.row.prog w) A (call (.builtin "isinstance") [.ref p, .type "str"]) Q E s := by
  obtain ⟨o, ho, hc, _⟩ := V.tup F X N
  exact IsiPair.tuple_str ho hc h
end

end
section
theorem words_19001 : True := by
  k_with_none
  (k_with "@my enter" => (refine' code_def ?w9k1 ?w9k2 ?w9k3 ?w9k4 ?w9k5 ?w9kA ?w9kF ?w9kK ?w9k6 ?w9k7 ?w9k8 ?w9k9 ?w9kB ?_ ?w9c2 ?w9c3 ?w9c4 ?w9c5; (case w9kA => exact rfl); (case w9kF => exact rfl); (case w9kK => first | exact rfl | assumption); (case w9k1 => k_asm); (case w9k2 => k_asm); (case w9k3 => k_asm); (case w9k4 => k_asm); (case w9k5 => k_asm); (case w9k6 => k_is); (case w9k7 => k_is); (case w9k8 => ktr_room); (case w9k9 => first | exact BindsTo.of_eq rfl | exact binds_K (by k_in) rfl (by k_is) rfl rfl rfl); (case w9c5 => decide); (case w9kB => exact locs rfl); (case w9c2 => exact rfl); (case w9c3 => exact rfl); (case w9c4 => exact rfl); k_whole; intro g' L' h' FG' F' N' B' X' T'; (try dsimp only); (try k_lift B'); (try k_fold)))
  (k_with "@my enterC" => (refine' code_defC ?w9k1 ?w9k2 ?w9k3 ?w9k4 ?w9k5 ?w9kA ?w9kF ?w9kK ?w9k6 ?w9k7 ?w9k8 ?w9k9 ?w9kB ?w9kD ?_ ?w9c2 ?w9c3 ?w9c4; (case w9kA => exact rfl); (case w9kF => exact rfl); (case w9kK => first | exact rfl | assumption); (case w9k1 => k_asm); (case w9k2 => k_asm); (case w9k3 => k_asm); (case w9k4 => k_asm); (case w9k5 => k_asm); (case w9k6 => k_is); (case w9k7 => k_is); (case w9k8 => ktr_room); (case w9k9 => exact BindsTo.of_eq rfl); (case w9kB => exact rfl); (case w9kD => decide +kernel); (case w9c2 => exact rfl); (case w9c3 => exact rfl); (case w9c4 => exact rfl); k_whole; intro g' L' h' tk' cells' FG' F' N' Y' B' X' T' l1; k_cells Y'; (try simp only [List.cons_append, List.nil_append] at N'); (try dsimp only); (try k_lift B'); (try k_fold)))
  (k_with "@use led" => first | k_asm | exact News.sw1 (by k_asm) | exact News.sw2 (by k_asm) | exact News.sw3 (by k_asm) | exact News.sw4 (by k_asm) | exact News.sw5 (by k_asm) | exact News.sw6 (by k_asm) | exact News.sw7 (by k_asm) | exact News.sw8 (by k_asm) | exact News.sw9 (by k_asm) | exact News.sw10 (by k_asm) | exact News.sw11 (by k_asm) | exact News.sw12 (by k_asm) | exact News.sw13 (by k_asm) | exact News.sw14 (by k_asm) | exact News.sw15 (by k_asm) | exact News.sw16 (by k_asm) | exact News.sw17 (by k_asm) | exact News.sw18 (by k_asm) | exact News.sw19 (by k_asm) | exact News.sw20 (by k_asm) | exact News.sw21 (by k_asm) | exact News.sw22 (by k_asm) | exact News.sw23 (by k_asm) | exact News.sw24 (by k_asm) | exact News.sw25 (by k_asm) | exact News.sw26 (by k_asm))
  (k_with "k_all" => assumption)
  (k_with "@use pre 1" => first | assumption | omega | k_mem | k_all | rfl)
  (k_with "@use pre" => ((repeat' (first | (with_reducible refine And.intro ?_ ?_) | fail)); all_goals (walk_at "use pre 1")))
  (k_with "k_mem" => assumption)
  (k_with "@eval Call" => ((with_reducible show wpAny _ _ (eval (Expr.Call (Expr.Name _ _) _ [] _) _) _ _ _); k_dflt (refine Call_ ?_)))
  (k_with "@end led" => first | k_asm | exact News.d1 (by k_asm) | exact News.d2 (by k_asm) | exact News.d3 (by k_asm) | exact News.d4 (by k_asm) | exact News.d5 (by k_asm) | exact News.d6 (by k_asm) | exact News.d7 (by k_asm) | exact News.d8 (by k_asm) | exact News.d9 (by k_asm) | exact News.d10 (by k_asm) | exact News.d11 (by k_asm) | exact News.d12 (by k_asm))
  (k_with "@pyIter str" => k_extra "pyIter str")
  (k_with "@pyIter ref" => k_extra "pyIter ref")
  (k_with "@end led1" => first | k_asm | exact News.h1 (by k_asm) | exact News.h2 (by k_asm) | exact News.h3 (by k_asm) | exact News.h4 (by k_asm) | exact News.h5 (by k_asm) | exact News.h6 (by k_asm) | exact News.h7 (by k_asm) | exact News.h8 (by k_asm) | exact News.h9 (by k_asm))
  (k_with "@eval Name" => (k_here; k_dflt (first | (refine' nameX_L ?w9F ?w9v ?_ ?w9a ?w9b; (case w9F => k_asm); (case w9a => rfl); (case w9b => rfl); (case w9v => rfl); k_whole) | (refine' nameX_K ?w9F ?w9X ?w9T ?w9e ?_ ?w9a ?w9b; (case w9F => k_asm); (case w9X => k_asm); (case w9T => k_asm); (case w9a => rfl); (case w9b => rfl); (case w9e => k_is); k_whole) | (refine' nameX_B ?w9F ?w9X ?w9T ?w9e ?w9v ?w9n ?_ ?w9a ?w9b; (case w9F => k_asm); (case w9X => k_asm); (case w9T => k_asm); (case w9a => rfl); (case w9b => rfl); (case w9e => k_is); (case w9v => boot_fast); (case w9n => decide); k_whole))))
  (k_with "k_ne" => first | assumption | exact Nat.ne_of_gt (by assumption) | exact Nat.ne_of_lt (by assumption) | exact ne_p1 (by with_reducible assumption) | exact ne_p2 (by with_reducible assumption) | exact ne_p3 (by with_reducible assumption) | exact ne_p4 (by with_reducible assumption) | exact ne_p5 (by with_reducible assumption) | exact ne_p6 (by with_reducible assumption) | exact ne_p7 (by with_reducible assumption) | exact ne_p8 (by with_reducible assumption) | exact ne_q1 (by with_reducible assumption) | exact ne_q2 (by with_reducible assumption) | exact ne_q3 (by with_reducible assumption) | exact ne_q4 (by with_reducible assumption) | exact ne_q5 (by with_reducible assumption) | exact ne_q6 (by with_reducible assumption) | exact ne_q7 (by with_reducible assumption) | exact ne_q8 (by with_reducible assumption))
  trivial
theorem words_19002 : True := by
  (k_with "@subscriptTail" => (k_here; (with_reducible show wpAny _ _ (subscriptTail _ _ (Value.ref _) (Value.int 0 _)) _ _ _); k_dflt (refine' item_num0 ?w9nF ?w9nX ?w9nN ?w9nV ?_ ?w9ns; (case w9nF => k_asm); (case w9nX => k_asm); (case w9nN => k_asm); (case w9nV => assumption); (case w9ns => with_unfolding_all rfl))))
  (k_with "@subscriptTail" => (k_here; (with_reducible show wpAny _ _ (subscriptTail _ _ (Value.ref _) (Value.int 1 _)) _ _ _); k_dflt (refine' item_num1 ?w9nF ?w9nX ?w9nN ?w9nV ?_ ?w9ns; (case w9nF => k_asm); (case w9nX => k_asm); (case w9nN => k_asm); (case w9nV => assumption); (case w9ns => with_unfolding_all rfl))))
  (k_with "@call builtin:isinstance" => (k_here; (with_reducible show wpAny _ _ (call (Value.builtin "isinstance") [Value.ref _, Value.type "tuple"]) _ _ _); k_dflt (refine' isi_num_tuple ?w9nF ?w9nX ?w9nN ?w9nV ?_; (case w9nF => k_asm); (case w9nX => k_asm); (case w9nN => k_asm); (case w9nV => assumption))))
  (k_with "@call builtin:isinstance" => (k_here; (with_reducible show wpAny _ _ (call (Value.builtin "isinstance") [Value.ref _, Value.type "bool"]) _ _ _); k_dflt (refine' isi_num_bool ?w9nF ?w9nX ?w9nN ?w9nV ?_; (case w9nF => k_asm); (case w9nX => k_asm); (case w9nN => k_asm); (case w9nV => assumption))))
  (k_with "@call builtin:isinstance" => (k_here; (with_reducible show wpAny _ _ (call (Value.builtin "isinstance") [Value.ref _, Value.type "str"]) _ _ _); k_dflt (refine' isi_num_str ?w9nF ?w9nX ?w9nN ?w9nV ?_; (case w9nF => k_asm); (case w9nX => k_asm); (case w9nN => k_asm); (case w9nV => assumption))))
  trivial
theorem c_read (w : World) {led : Led} {tk : Tok} {x : Str} {c : Int × Int} (h : (x, c) ∈ readL) : Ctr w 101 4 led [.str x tk] (fun r led' => ∃ p t u, r = .ref p ∧ NumV led' p c.1 c.2 t u ∧ ∀ q ∈ led, q ∈ led') := by
  simp only [readL, List.mem_cons, List.not_mem_nil, or_false, Prod.mk.injEq] at h
  rcases h with h | h | h | h | h | h | h | h | h | h | h | h
  · obtain ⟨rfl, rfl⟩ := h; refine (c_read0 w trivial).mono ?_; rintro r led' ⟨p, t, u, rfl, rfl⟩; exact ⟨_, _, _, rfl, NumV.head, fun _ h => .tail _ h⟩
  · obtain ⟨rfl, rfl⟩ := h; refine (c_read1 w trivial).mono ?_; rintro r led' ⟨p, t, u, rfl, rfl⟩; exact ⟨_, _, _, rfl, NumV.head, fun _ h => .tail _ h⟩
  · obtain ⟨rfl, rfl⟩ := h; refine (c_read2 w trivial).mono ?_; rintro r led' ⟨p, t, u, rfl, rfl⟩; exact ⟨_, _, _, rfl, NumV.head, fun _ h => .tail _ h⟩
  · obtain ⟨rfl, rfl⟩ := h; refine (c_read3 w trivial).mono ?_; rintro r led' ⟨p, t, u, rfl, rfl⟩; exact ⟨_, _, _, rfl, NumV.head, fun _ h => .tail _ h⟩
  · obtain ⟨rfl, rfl⟩ := h; refine (c_read4 w trivial).mono ?_; rintro r led' ⟨p, t, u, rfl, rfl⟩; exact ⟨_, _, _, rfl, NumV.head, fun _ h => .tail _ h⟩
  · obtain ⟨rfl, rfl⟩ := h; refine (c_read5 w trivial).mono ?_; rintro r led' ⟨p, t, u, rfl, rfl⟩; exact ⟨_, _, _, rfl, NumV.head, fun _ h => .tail _ h⟩
  · obtain ⟨rfl, rfl⟩ := h; refine (c_read6 w trivial).mono ?_; rintro r led' ⟨rfl, rfl⟩; exact ⟨_, _, _, rfl, NumV.nan, fun _ h => h⟩
  · obtain ⟨rfl, rfl⟩ := h; refine (c_read7 w trivial).mono ?_; rintro r led' ⟨rfl, rfl⟩; exact ⟨_, _, _, rfl, NumV.nan, fun _ h => h⟩
  · obtain ⟨rfl, rfl⟩ := h; refine (c_read8 w trivial).mono ?_; rintro r led' ⟨rfl, rfl⟩; exact ⟨_, _, _, rfl, NumV.nan, fun _ h => h⟩
  · obtain ⟨rfl, rfl⟩ := h; refine (c_read9 w trivial).mono ?_; rintro r led' ⟨rfl, rfl⟩; exact ⟨_, _, _, rfl, NumV.nan, fun _ h => h⟩
  · obtain ⟨rfl, rfl⟩ := h; refine (c_read10 w trivial).mono ?_; rintro r led' ⟨p, t, u, rfl, rfl⟩; exact ⟨_, _, _, rfl, NumV.head, fun _ h => .tail _ h⟩
  · obtain ⟨rfl, rfl⟩ := h; refine (c_read11 w trivial).mono ?_; rintro r led' ⟨p, t, u, rfl, rfl⟩; exact ⟨_, _, _, rfl, NumV.head, fun _ h => .tail _ h⟩
theorem c_truth (w : World) {led : Led} {v tr : Value} {P : PV} (V : PVal led v P) : Ctr w 149 1 led [v, tr] (fun r led' => led' = led ∧ r = .bool (truthOf P)) := by
  unfold Ctr
  k_fill
  intro mean mg mb dp un gd cn cs a ccd cl outer A₀ base h₀ L m s Q E B F X N T hk hdp hun hret
  refine wpAny_call ?_
  rcases P with c | ⟨x, y⟩ | x
  · obtain rfl := V
    k_dflt (walk_at "my enter")
    k_steps
    all_goals exact fin hret (by k_asm) (by walk_at "end led") ⟨rfl, rfl⟩
  · obtain ⟨p, t, u, rfl, V⟩ := V
    k_dflt (walk_at "my enter")
    k_steps
    all_goals exact fin hret (by k_asm) (by walk_at "end led") ⟨rfl, rfl⟩
  · obtain ⟨t, rfl⟩ := V
    k_dflt (walk_at "my enter")
    k_steps
    all_goals exact fin hret (by k_asm) (by walk_at "end led") ⟨rfl, rfl⟩
theorem c_astext (w : World) {led : Led} {tr : Value} {x : Str} {tk : Tok} (_ : True) : Ctr w 135 1 led [.str x tk, tr] (fun r led' => led' = led ∧ r = .str x tk) := by
  unfold Ctr
  k_fill
  intro mean mg mb dp un gd cn cs a ccd cl outer A₀ base h₀ L m s Q E B F X N T hk hdp hun hret
  refine wpAny_call ?_
  k_dflt (walk_at "my enter")
  k_steps
  all_goals exact fin hret (by k_asm) (by walk_at "end led") ⟨rfl, rfl⟩
section
theorem words_19003 : True := by
  (k_with "@call ref" => (k_here; (with_reducible show wpAny _ _ (call (Value.ref 135) _) _ _ _); k_dflt (refine' Ctr.useA ?w9uN ?w9uB ?w9uF ?w9uX ?w9uT ?w9uK ?w9uD ?w9uU (c_astext _ ?w9uP) ?_; (case w9uN => walk_at "use led"); (case w9uB => k_asm); (case w9uF => k_asm); (case w9uX => k_asm); (case w9uT => k_asm); (case w9uK => first | exact rfl | assumption); (case w9uD => ktr_room); (case w9uU => ktr_units); (case w9uP => trivial)); intro h9 tk9 F9 N9; (try k_sweep); (try k_fold)))
  (k_with "@call ref" => (k_here; (with_reducible show wpAny _ _ (call (Value.ref 101) _) _ _ _); k_dflt (refine' Ctr.useP ?w9uN ?w9uB ?w9uF ?w9uX ?w9uT ?w9uK ?w9uD ?w9uU (c_read _ ?w9uP) ?_; (case w9uN => walk_at "use led"); (case w9uB => k_asm); (case w9uF => k_asm); (case w9uX => k_asm); (case w9uT => k_asm); (case w9uK => first | exact rfl | assumption); (case w9uD => ktr_room); (case w9uU => ktr_units); (case w9uP => assumption)); intro l9 p9 t9 u9 V9 S9 h9 tk9 F9 N9; (try k_sweep); (try k_fold)))
  trivial
theorem c_asnum (w : World) {led : Led} {v tr : Value} {P : PV} (hp : PVal led v P ∧ P.okB = true) : Ctr w 142 5 led [v, tr] (fun r led' => ∃ p t u, r = .ref p ∧ NumV led' p (numOf P).1 (numOf P).2 t u ∧ ∀ q ∈ led, q ∈ led') := by
  obtain ⟨V, ok⟩ := hp
  unfold Ctr
  k_fill
  intro mean mg mb dp un gd cn cs a ccd cl outer A₀ base h₀ L m s Q E B F X N T hk hdp hun hret
  refine wpAny_call ?_
  rcases P with c | ⟨x, y⟩ | x
  · obtain rfl := V
    k_dflt (walk_at "my enter")
    cases c
    · k_steps
      all_goals exact fin hret (by k_asm) (by k_asm) ⟨_, _, _, rfl, NumV.head, fun _ h => .tail _ h⟩
    · k_steps
      all_goals exact fin hret (by k_asm) (by k_asm) ⟨_, _, _, rfl, NumV.head, fun _ h => .tail _ h⟩
  · obtain ⟨p, t, u, rfl, V⟩ := V
    k_dflt (walk_at "my enter")
    k_steps
    all_goals exact fin hret (by k_asm) (by walk_at "end led") ⟨_, _, _, rfl, V, fun _ h => h⟩
  · obtain ⟨t, rfl⟩ := V
    have hm : (x, numOf (.s x)) ∈ readL := readL_mem ok
    k_dflt (walk_at "my enter")
    k_steps
    all_goals exact fin hret (by k_asm) (by k_asm) ⟨_, _, _, rfl, by assumption, by assumption⟩
end
theorem words_19004 : True := by
  k_with_none
  (k_with "@my enter" => (refine' code_def ?w9k1 ?w9k2 ?w9k3 ?w9k4 ?w9k5 ?w9kA ?w9kF ?w9kK ?w9k6 ?w9k7 ?w9k8 ?w9k9 ?w9kB ?_ ?w9c2 ?w9c3 ?w9c4 ?w9c5; (case w9kA => exact rfl); (case w9kF => exact rfl); (case w9kK => first | exact rfl | assumption); (case w9k1 => k_asm); (case w9k2 => k_asm); (case w9k3 => k_asm); (case w9k4 => k_asm); (case w9k5 => k_asm); (case w9k6 => k_is); (case w9k7 => k_is); (case w9k8 => ktr_room); (case w9k9 => first | exact BindsTo.of_eq rfl | exact binds_K (by k_in) rfl (by k_is) rfl rfl rfl); (case w9c5 => decide); (case w9kB => exact locs rfl); (case w9c2 => exact rfl); (case w9c3 => exact rfl); (case w9c4 => exact rfl); k_whole; intro g' L' h' FG' F' N' B' X' T'; (try dsimp only); (try k_lift B'); (try k_fold)))
  (k_with "@my enterC" => (refine' code_defC ?w9k1 ?w9k2 ?w9k3 ?w9k4 ?w9k5 ?w9kA ?w9kF ?w9kK ?w9k6 ?w9k7 ?w9k8 ?w9k9 ?w9kB ?w9kD ?_ ?w9c2 ?w9c3 ?w9c4; (case w9kA => exact rfl); (case w9kF => exact rfl); (case w9kK => first | exact rfl | assumption); (case w9k1 => k_asm); (case w9k2 => k_asm); (case w9k3 => k_asm); (case w9k4 => k_asm); (case w9k5 => k_asm); (case w9k6 => k_is); (case w9k7 => k_is); (case w9k8 => ktr_room); (case w9k9 => exact BindsTo.of_eq rfl); (case w9kB => exact rfl); (case w9kD => decide +kernel); (case w9c2 => exact rfl); (case w9c3 => exact rfl); (case w9c4 => exact rfl); k_whole; intro g' L' h' tk' cells' FG' F' N' Y' B' X' T' l1; k_cells Y'; (try simp only [List.cons_append, List.nil_append] at N'); (try dsimp only); (try k_lift B'); (try k_fold)))
  (k_with "@use led" => first | k_asm | exact News.sw1 (by k_asm) | exact News.sw2 (by k_asm) | exact News.sw3 (by k_asm) | exact News.sw4 (by k_asm) | exact News.sw5 (by k_asm) | exact News.sw6 (by k_asm) | exact News.sw7 (by k_asm) | exact News.sw8 (by k_asm) | exact News.sw9 (by k_asm) | exact News.sw10 (by k_asm) | exact News.sw11 (by k_asm) | exact News.sw12 (by k_asm) | exact News.sw13 (by k_asm) | exact News.sw14 (by k_asm) | exact News.sw15 (by k_asm) | exact News.sw16 (by k_asm) | exact News.sw17 (by k_asm) | exact News.sw18 (by k_asm) | exact News.sw19 (by k_asm) | exact News.sw20 (by k_asm) | exact News.sw21 (by k_asm) | exact News.sw22 (by k_asm) | exact News.sw23 (by k_asm) | exact News.sw24 (by k_asm) | exact News.sw25 (by k_asm) | exact News.sw26 (by k_asm))
  (k_with "k_all" => assumption)
  (k_with "@use pre 1" => first | assumption | omega | k_mem | k_all | rfl)
  (k_with "@use pre" => ((repeat' (first | (with_reducible refine And.intro ?_ ?_) | fail)); all_goals (walk_at "use pre 1")))
  (k_with "k_mem" => assumption)
  (k_with "@eval Call" => ((with_reducible show wpAny _ _ (eval (Expr.Call (Expr.Name _ _) _ [] _) _) _ _ _); k_dflt (refine Call_ ?_)))
  (k_with "@end led" => first | k_asm | exact News.d1 (by k_asm) | exact News.d2 (by k_asm) | exact News.d3 (by k_asm) | exact News.d4 (by k_asm) | exact News.d5 (by k_asm) | exact News.d6 (by k_asm) | exact News.d7 (by k_asm) | exact News.d8 (by k_asm) | exact News.d9 (by k_asm) | exact News.d10 (by k_asm) | exact News.d11 (by k_asm) | exact News.d12 (by k_asm))
  (k_with "@pyIter str" => k_extra "pyIter str")
  (k_with "@pyIter ref" => k_extra "pyIter ref")
  (k_with "@end led1" => first | k_asm | exact News.h1 (by k_asm) | exact News.h2 (by k_asm) | exact News.h3 (by k_asm) | exact News.h4 (by k_asm) | exact News.h5 (by k_asm) | exact News.h6 (by k_asm) | exact News.h7 (by k_asm) | exact News.h8 (by k_asm) | exact News.h9 (by k_asm))
  (k_with "@eval Name" => (k_here; k_dflt (first | (refine' nameX_L ?w9F ?w9v ?_ ?w9a ?w9b; (case w9F => k_asm); (case w9a => rfl); (case w9b => rfl); (case w9v => rfl); k_whole) | (refine' nameX_K ?w9F ?w9X ?w9T ?w9e ?_ ?w9a ?w9b; (case w9F => k_asm); (case w9X => k_asm); (case w9T => k_asm); (case w9a => rfl); (case w9b => rfl); (case w9e => k_is); k_whole) | (refine' nameX_B ?w9F ?w9X ?w9T ?w9e ?w9v ?w9n ?_ ?w9a ?w9b; (case w9F => k_asm); (case w9X => k_asm); (case w9T => k_asm); (case w9a => rfl); (case w9b => rfl); (case w9e => k_is); (case w9v => boot_fast); (case w9n => decide); k_whole))))
  (k_with "k_ne" => first | assumption | exact Nat.ne_of_gt (by assumption) | exact Nat.ne_of_lt (by assumption) | exact ne_p1 (by with_reducible assumption) | exact ne_p2 (by with_reducible assumption) | exact ne_p3 (by with_reducible assumption) | exact ne_p4 (by with_reducible assumption) | exact ne_p5 (by with_reducible assumption) | exact ne_p6 (by with_reducible assumption) | exact ne_p7 (by with_reducible assumption) | exact ne_p8 (by with_reducible assumption) | exact ne_q1 (by with_reducible assumption) | exact ne_q2 (by with_reducible assumption) | exact ne_q3 (by with_reducible assumption) | exact ne_q4 (by with_reducible assumption) | exact ne_q5 (by with_reducible assumption) | exact ne_q6 (by with_reducible assumption) | exact ne_q7 (by with_reducible assumption) | exact ne_q8 (by with_reducible assumption))
  (k_with "@subscriptTail" => (k_here; (with_reducible show wpAny _ _ (subscriptTail _ _ (Value.ref _) (Value.int 0 _)) _ _ _); k_dflt (refine' item_num0 ?w9nF ?w9nX ?w9nN ?w9nV ?_ ?w9ns; (case w9nF => k_asm); (case w9nX => k_asm); (case w9nN => k_asm); (case w9nV => assumption); (case w9ns => with_unfolding_all rfl))))
  (k_with "@subscriptTail" => (k_here; (with_reducible show wpAny _ _ (subscriptTail _ _ (Value.ref _) (Value.int 1 _)) _ _ _); k_dflt (refine' item_num1 ?w9nF ?w9nX ?w9nN ?w9nV ?_ ?w9ns; (case w9nF => k_asm); (case w9nX => k_asm); (case w9nN => k_asm); (case w9nV => assumption); (case w9ns => with_unfolding_all rfl))))
  (k_with "@call builtin:isinstance" => (k_here; (with_reducible show wpAny _ _ (call (Value.builtin "isinstance") [Value.ref _, Value.type "tuple"]) _ _ _); k_dflt (refine' isi_num_tuple ?w9nF ?w9nX ?w9nN ?w9nV ?_; (case w9nF => k_asm); (case w9nX => k_asm); (case w9nN => k_asm); (case w9nV => assumption))))
  (k_with "@call builtin:isinstance" => (k_here; (with_reducible show wpAny _ _ (call (Value.builtin "isinstance") [Value.ref _, Value.type "bool"]) _ _ _); k_dflt (refine' isi_num_bool ?w9nF ?w9nX ?w9nN ?w9nV ?_; (case w9nF => k_asm); (case w9nX => k_asm); (case w9nN => k_asm); (case w9nV => assumption))))
  (k_with "@call builtin:isinstance" => (k_here; (with_reducible show wpAny _ _ (call (Value.builtin "isinstance") [Value.ref _, Value.type "str"]) _ _ _); k_dflt (refine' isi_num_str ?w9nF ?w9nX ?w9nN ?w9nV ?_; (case w9nF => k_asm); (case w9nX => k_asm); (case w9nN => k_asm); (case w9nV => assumption))))
  trivial
theorem c_iseq (w : World) {led : Led} {op : Str} {tk : Tok} (_ : True) : Ctr w 156 1 led [.str op tk] (fun r led' => led' = led ∧ r = .bool (isEq op)) := by
  unfold Ctr
  k_fill
  intro mean mg mb dp un gd cn cs a ccd cl outer A₀ base h₀ L m s Q E B F X N T hk hdp hun hret
  refine wpAny_call ?_
  k_dflt (walk_at "my enter")
  k_steps
  all_goals exact fin hret (by k_asm) (by walk_at "end led") ⟨rfl, congrArg Value.bool (by simp only [isEq, Bool.true_or, Bool.false_or, *])⟩
theorem c_ctexts (w : World) {led : Led} {op x y : Str} {tk tk1 tk2 : Tok} (_ : True) : Ctr w 163 1 led [.str op tk, .str x tk1, .str y tk2] (fun r led' => led' = led ∧ r = .bool ((x == y) == (op == Str.ofString "="))) := by
  unfold Ctr
  k_fill
  intro mean mg mb dp un gd cn cs a ccd cl outer A₀ base h₀ L m s Q E B F X N T hk hdp hun hret
  refine wpAny_call ?_
  k_dflt (walk_at "my enter")
  k_steps

  all_goals exact fin hret (by k_asm) (by walk_at "end led") ⟨rfl, rfl⟩

end
section
theorem words_20001 : True := by
  k_with_none
  (k_with "@my enter" => (refine' code_def ?w9k1 ?w9k2 ?w9k3 ?w9k4 ?w9k5 ?w9kA ?w9kF ?w9kK ?w9k6 ?w9k7 ?w9k8 ?w9k9 ?w9kB ?_ ?w9c2 ?w9c3 ?w9c4 ?w9c5; (case w9kA => exact rfl); (case w9kF => exact rfl); (case w9kK => first | exact rfl | assumption); (case w9k1 => k_asm); (case w9k2 => k_asm); (case w9k3 => k_asm); (case w9k4 => k_asm); (case w9k5 => k_asm); (case w9k6 => k_is); (case w9k7 => k_is); (case w9k8 => ktr_room); (case w9k9 => first | exact BindsTo.of_eq rfl | exact binds_K (by k_in) rfl (by k_is) rfl rfl rfl); (case w9c5 => decide); (case w9kB => exact locs rfl); (case w9c2 => exact rfl); (case w9c3 => exact rfl); (case w9c4 => exact rfl); k_whole; intro g' L' h' FG' F' N' B' X' T'; (try dsimp only); (try k_lift B'); (try k_fold)))
  (k_with "@my enterC" => (refine' code_defC ?w9k1 ?w9k2 ?w9k3 ?w9k4 ?w9k5 ?w9kA ?w9kF ?w9kK ?w9k6 ?w9k7 ?w9k8 ?w9k9 ?w9kB ?w9kD ?_ ?w9c2 ?w9c3 ?w9c4; (case w9kA => exact rfl); (case w9kF => exact rfl); (case w9kK => first | exact rfl | assumption); (case w9k1 => k_asm); (case w9k2 => k_asm); (case w9k3 => k_asm); (case w9k4 => k_asm); (case w9k5 => k_asm); (case w9k6 => k_is); (case w9k7 => k_is); (case w9k8 => ktr_room); (case w9k9 => exact BindsTo.of_eq rfl); (case w9kB => exact rfl); (case w9kD => decide +kernel); (case w9c2 => exact rfl); (case w9c3 => exact rfl); (case w9c4 => exact rfl); k_whole; intro g' L' h' tk' cells' FG' F' N' Y' B' X' T' l1; k_cells Y'; (try simp only [List.cons_append, List.nil_append] at N'); (try dsimp only); (try k_lift B'); (try k_fold)))
  (k_with "@use led" => first | k_asm | exact News.sw1 (by k_asm) | exact News.sw2 (by k_asm) | exact News.sw3 (by k_asm) | exact News.sw4 (by k_asm) | exact News.sw5 (by k_asm) | exact News.sw6 (by k_asm) | exact News.sw7 (by k_asm) | exact News.sw8 (by k_asm) | exact News.sw9 (by k_asm) | exact News.sw10 (by k_asm) | exact News.sw11 (by k_asm) | exact News.sw12 (by k_asm) | exact News.sw13 (by k_asm) | exact News.sw14 (by k_asm) | exact News.sw15 (by k_asm) | exact News.sw16 (by k_asm) | exact News.sw17 (by k_asm) | exact News.sw18 (by k_asm) | exact News.sw19 (by k_asm) | exact News.sw20 (by k_asm) | exact News.sw21 (by k_asm) | exact News.sw22 (by k_asm) | exact News.sw23 (by k_asm) | exact News.sw24 (by k_asm) | exact News.sw25 (by k_asm) | exact News.sw26 (by k_asm))
  (k_with "k_all" => assumption)
  (k_with "@use pre 1" => first | assumption | omega | k_mem | k_all | rfl)
  (k_with "@use pre" => ((repeat' (first | (with_reducible refine And.intro ?_ ?_) | fail)); all_goals (walk_at "use pre 1")))
  (k_with "k_mem" => assumption)
  (k_with "@eval Call" => ((with_reducible show wpAny _ _ (eval (Expr.Call (Expr.Name _ _) _ [] _) _) _ _ _); k_dflt (refine Call_ ?_)))
  (k_with "@end led" => first | k_asm | exact News.d1 (by k_asm) | exact News.d2 (by k_asm) | exact News.d3 (by k_asm) | exact News.d4 (by k_asm) | exact News.d5 (by k_asm) | exact News.d6 (by k_asm) | exact News.d7 (by k_asm) | exact News.d8 (by k_asm) | exact News.d9 (by k_asm) | exact News.d10 (by k_asm) | exact News.d11 (by k_asm) | exact News.d12 (by k_asm))
  (k_with "@pyIter str" => k_extra "pyIter str")
  (k_with "@pyIter ref" => k_extra "pyIter ref")
  (k_with "@end led1" => first | k_asm | exact News.h1 (by k_asm) | exact News.h2 (by k_asm) | exact News.h3 (by k_asm) | exact News.h4 (by k_asm) | exact News.h5 (by k_asm) | exact News.h6 (by k_asm) | exact News.h7 (by k_asm) | exact News.h8 (by k_asm) | exact News.h9 (by k_asm))
  (k_with "@eval Name" => (k_here; k_dflt (first | (refine' nameX_L ?w9F ?w9v ?_ ?w9a ?w9b; (case w9F => k_asm); (case w9a => rfl); (case w9b => rfl); (case w9v => rfl); k_whole) | (refine' nameX_K ?w9F ?w9X ?w9T ?w9e ?_ ?w9a ?w9b; (case w9F => k_asm); (case w9X => k_asm); (case w9T => k_asm); (case w9a => rfl); (case w9b => rfl); (case w9e => k_is); k_whole) | (refine' nameX_B ?w9F ?w9X ?w9T ?w9e ?w9v ?w9n ?_ ?w9a ?w9b; (case w9F => k_asm); (case w9X => k_asm); (case w9T => k_asm); (case w9a => rfl); (case w9b => rfl); (case w9e => k_is); (case w9v => boot_fast); (case w9n => decide); k_whole))))
  (k_with "k_ne" => first | assumption | exact Nat.ne_of_gt (by assumption) | exact Nat.ne_of_lt (by assumption) | exact ne_p1 (by with_reducible assumption) | exact ne_p2 (by with_reducible assumption) | exact ne_p3 (by with_reducible assumption) | exact ne_p4 (by with_reducible assumption) | exact ne_p5 (by with_reducible assumption) | exact ne_p6 (by with_reducible assumption) | exact ne_p7 (by with_reducible assumption) | exact ne_p8 (by with_reducible assumption) | exact ne_q1 (by with_reducible assumption) | exact ne_q2 (by with_reducible assumption) | exact ne_q3 (by with_reducible assumption) | exact ne_q4 (by with_reducible assumption) | exact ne_q5 (by with_reducible assumption) | exact ne_q6 (by with_reducible assumption) | exact ne_q7 (by with_reducible assumption) | exact ne_q8 (by with_reducible assumption))
  trivial
theorem words_20002 : True := by
  (k_with "@subscriptTail" => (k_here; (with_reducible show wpAny _ _ (subscriptTail _ _ (Value.ref _) (Value.int 0 _)) _ _ _); k_dflt (refine' item_num0 ?w9nF ?w9nX ?w9nN ?w9nV ?_ ?w9ns; (case w9nF => k_asm); (case w9nX => k_asm); (case w9nN => k_asm); (case w9nV => assumption); (case w9ns => with_unfolding_all rfl))))
  (k_with "@subscriptTail" => (k_here; (with_reducible show wpAny _ _ (subscriptTail _ _ (Value.ref _) (Value.int 1 _)) _ _ _); k_dflt (refine' item_num1 ?w9nF ?w9nX ?w9nN ?w9nV ?_ ?w9ns; (case w9nF => k_asm); (case w9nX => k_asm); (case w9nN => k_asm); (case w9nV => assumption); (case w9ns => with_unfolding_all rfl))))
  (k_with "@call builtin:isinstance" => (k_here; (with_reducible show wpAny _ _ (call (Value.builtin "isinstance") [Value.ref _, Value.type "tuple"]) _ _ _); k_dflt (refine' isi_num_tuple ?w9nF ?w9nX ?w9nN ?w9nV ?_; (case w9nF => k_asm); (case w9nX => k_asm); (case w9nN => k_asm); (case w9nV => assumption))))
  (k_with "@call builtin:isinstance" => (k_here; (with_reducible show wpAny _ _ (call (Value.builtin "isinstance") [Value.ref _, Value.type "bool"]) _ _ _); k_dflt (refine' isi_num_bool ?w9nF ?w9nX ?w9nN ?w9nV ?_; (case w9nF => k_asm); (case w9nX => k_asm); (case w9nN => k_asm); (case w9nV => assumption))))
  (k_with "@call builtin:isinstance" => (k_here; (with_reducible show wpAny _ _ (call (Value.builtin "isinstance") [Value.ref _, Value.type "str"]) _ _ _); k_dflt (refine' isi_num_str ?w9nF ?w9nX ?w9nN ?w9nV ?_; (case w9nF => k_asm); (case w9nX => k_asm); (case w9nN => k_asm); (case w9nV => assumption))))
  trivial
theorem numOf_bd : ∀ {P : PV}, P.okB = true → -100 < (numOf P).2 ∧ (numOf P).2 < 100
  | .b c, _ => by cases c <;> decide
  | .n x y, h => by
    simp only [PV.okB, Bool.and_eq_true, decide_eq_true_eq] at h
    simp only [numOf]; omega
  | .s x, h => by
    have all : ∀ p ∈ readL, -100 < p.2.2 ∧ p.2.2 < 100 := by decide +kernel
    exact all _ (readL_mem h)
theorem dec_s (x y : Str) : decide (PV.s x = PV.s y) = (x == y) := by
  by_cases h : x = y
  · subst h; simp
  · have : ¬ PV.s x = PV.s y := fun e => h (by injection e)
    simp [h]
theorem sub_trans {a b c : Led} (h : ∀ q ∈ a, q ∈ b) (k : ∀ q ∈ b, q ∈ c) : ∀ q ∈ a, q ∈ c := fun q hq => k q (h q hq)
section
variable {w : World} {A : Around} {E : Value → Shared → Prop} {h₀ : Heap} {L : Addr} {led : Led} {m : Str → Option Value} {v v2 : Value} {P P2 : PV} {Q : Value → Shared → Prop} {hp : Heap} {gn : Array GenState} {dr : Drawn} {tk : Nat} {os : OsState}
theorem isi_pvB (F : Fr h₀ L hp m) (X : (k0.heap_1 w.params).In h₀) (N : News h₀ L hp led) (V : PVal led v P) (ret : ∀ tk' : Nat, Q (.bool P.isB) ⟨hp, gn, dr, tk', os⟩) :
    wpAny (model PySem.Challenge.rw_xm0672_01.row.prog w) A (call (.builtin "isinstance") [v, .type "bool"]) Q E ⟨hp, gn, dr, tk, os⟩ := by
  rcases P with c | ⟨x, y⟩ | x
  · obtain rfl := V; exact IsiPair.bool_bool (ret _)
  · obtain ⟨p, t, u, rfl, W⟩ := V; exact isi_num_bool (s := ⟨hp, gn, dr, tk, os⟩) F X N W (ret _)
  · obtain ⟨t, rfl⟩ := V; exact IsiPair.str_bool (ret _)
theorem isi_pvS (F : Fr h₀ L hp m) (X : (k0.heap_1 w.params).In h₀) (N : News h₀ L hp led) (V : PVal led v P) (ret : ∀ tk' : Nat, Q (.bool P.isS) ⟨hp, gn, dr, tk', os⟩) :
    wpAny (model PySem.Challenge.rw_xm0672_01.row.prog w) A (call (.builtin "isinstance") [v, .type "str"]) Q E ⟨hp, gn, dr, tk, os⟩ := by
  rcases P with c | ⟨x, y⟩ | x
  · obtain rfl := V; exact IsiPair.bool_str (ret _)
  · obtain ⟨p, t, u, rfl, W⟩ := V; exact isi_num_str (s := ⟨hp, gn, dr, tk, os⟩) F X N W (ret _)
  · obtain ⟨t, rfl⟩ := V; exact IsiPair.str_str (ret _)
theorem eq_pv {s : Shared} (V : PVal led v P) (V2 : PVal led v2 P2) (h : P.isS = true) (h2 : P2.isS = true) (ret : Q (.bool (decide (P = P2))) s) :
    wpAny (model PySem.Challenge.rw_xm0672_01.row.prog w) A (compareOp CmpOp.Eq v v2) Q E s := by
  rcases P with c | ⟨x, y⟩ | x
  · cases h
  · cases h
  rcases P2 with c | ⟨x2, y2⟩ | x2
  · cases h2
  · cases h2
  obtain ⟨t, rfl⟩ := V
  obtain ⟨t2, rfl⟩ := V2
  rw [dec_s] at ret
  exact eq_str ret
end
theorem c_ctextsV (w : World) {led : Led} {op : Str} {tk : Tok} {v v2 : Value} {P P2 : PV} (hp : (PVal led v P ∧ P.isS = true) ∧ (PVal led v2 P2 ∧ P2.isS = true)) : Ctr w 163 1 led [.str op tk, v, v2] (fun r led' => led' = led ∧ r = .bool (decide (P = P2) == (op == Str.ofString "="))) := by
  obtain ⟨⟨V, h⟩, V2, h2⟩ := hp
  rcases P with c | ⟨x, y⟩ | x
  · cases h
  · cases h
  rcases P2 with c | ⟨x2, y2⟩ | x2
  · cases h2
  · cases h2
  obtain ⟨t, rfl⟩ := V
  obtain ⟨t2, rfl⟩ := V2
  rw [dec_s]
  exact c_ctexts w trivial
section
variable {op : Str} {P P2 : PV}
theorem cpl1 (h : isEq op = true) (h1 : P.isB = true) : ((truthOf P == truthOf P2) == (op == Str.ofString "=")) = cplF op P P2 := by rw [cplF, h, h1]; rfl
theorem cpl2 (h : isEq op = true) (h1 : P.isB = false) (h2 : P2.isB = true) : ((truthOf P == truthOf P2) == (op == Str.ofString "=")) = cplF op P P2 := by rw [cplF, h, h1, h2]; rfl
theorem cpl3 (h : isEq op = true) (h1 : P.isB = false) (h2 : P2.isB = false) (h3 : P.isS = true) (h4 : P2.isS = true) : (decide (P = P2) == (op == Str.ofString "=")) = cplF op P P2 := by rw [cplF, h, h1, h2, h3, h4]; rfl
theorem cpl4 (h : isEq op = true) (h1 : P.isB = false) (h2 : P2.isB = false) (h3 : P.isS = false) : cnumF op (numOf P).1 (numOf P).2 (numOf P2).1 (numOf P2).2 = cplF op P P2 := by rw [cplF, h, h1, h2, h3]; rfl
theorem cpl5 (h : isEq op = true) (h1 : P.isB = false) (h2 : P2.isB = false) (h3 : P.isS = true) (h4 : P2.isS = false) : cnumF op (numOf P).1 (numOf P).2 (numOf P2).1 (numOf P2).2 = cplF op P P2 := by rw [cplF, h, h1, h2, h3, h4]; rfl
theorem cpl6 (h : isEq op = false) : cnumF op (numOf P).1 (numOf P).2 (numOf P2).1 (numOf P2).2 = cplF op P P2 := by rw [cplF, h]; rfl
end
section
theorem words_20003 : True := by
  (k_with "@call builtin:isinstance" => (k_here; (with_reducible show wpAny _ _ (call (Value.builtin "isinstance") [_, Value.type "bool"]) _ _ _); k_dflt (refine' isi_pvB ?w9iF ?w9iX ?w9iN ?w9iV ?_; (case w9iF => k_asm); (case w9iX => k_asm); (case w9iN => k_asm); (case w9iV => walk_at "my pv")); intro tk9))
  (k_with "@call builtin:isinstance" => (k_here; (with_reducible show wpAny _ _ (call (Value.builtin "isinstance") [_, Value.type "str"]) _ _ _); k_dflt (refine' isi_pvS ?w9iF ?w9iX ?w9iN ?w9iV ?_; (case w9iF => k_asm); (case w9iX => k_asm); (case w9iN => k_asm); (case w9iV => walk_at "my pv")); intro tk9))
  (k_with "@cpl eq" => first | exact cpl6 (by assumption) | exact cpl1 (by assumption) (by assumption) | exact cpl2 (by assumption) (by assumption) (by assumption) | exact cpl3 (by assumption) (by assumption) (by assumption) (by assumption) (by assumption) | exact cpl4 (by assumption) (by assumption) (by assumption) (by assumption) | exact cpl5 (by assumption) (by assumption) (by assumption) (by assumption) (by assumption))
  (k_with "@my num" => first | assumption | exact NumV.mono (by assumption) (by assumption))
  (k_with "@my pv" => first | assumption | exact PVal.mono (by assumption) (by assumption))
  (k_with "@call ref" => (k_here; (with_reducible show wpAny _ _ (call (Value.ref 149) _) _ _ _); k_dflt (refine' Ctr.useA ?w9uN ?w9uB ?w9uF ?w9uX ?w9uT ?w9uK ?w9uD ?w9uU (c_truth _ ?w9uP) ?_; (case w9uN => walk_at "use led"); (case w9uB => k_asm); (case w9uF => k_asm); (case w9uX => k_asm); (case w9uT => k_asm); (case w9uK => first | exact rfl | assumption); (case w9uD => ktr_room); (case w9uU => ktr_units); (case w9uP => walk_at "my pv")); intro h9 tk9 F9 N9; (try k_sweep); (try k_fold)))
  (k_with "@call ref" => (k_here; (with_reducible show wpAny _ _ (call (Value.ref 156) _) _ _ _); k_dflt (refine' Ctr.useA ?w9uN ?w9uB ?w9uF ?w9uX ?w9uT ?w9uK ?w9uD ?w9uU (c_iseq _ ?w9uP) ?_; (case w9uN => walk_at "use led"); (case w9uB => k_asm); (case w9uF => k_asm); (case w9uX => k_asm); (case w9uT => k_asm); (case w9uK => first | exact rfl | assumption); (case w9uD => ktr_room); (case w9uU => ktr_units); (case w9uP => trivial)); intro h9 tk9 F9 N9; (try k_sweep); (try k_fold)))
  (k_with "@call ref" => (k_here; (with_reducible show wpAny _ _ (call (Value.ref 163) _) _ _ _); k_dflt (refine' Ctr.useA ?w9uN ?w9uB ?w9uF ?w9uX ?w9uT ?w9uK ?w9uD ?w9uU (c_ctextsV _ ?w9uP) ?_; (case w9uN => walk_at "use led"); (case w9uB => k_asm); (case w9uF => k_asm); (case w9uX => k_asm); (case w9uT => k_asm); (case w9uK => first | exact rfl | assumption); (case w9uD => ktr_room); (case w9uU => ktr_units); (case w9uP => exact ⟨⟨by assumption, by assumption⟩, by assumption, by assumption⟩)); intro h9 tk9 F9 N9; (try k_sweep); (try k_fold)))
  (k_with "@call ref" => (k_here; (with_reducible show wpAny _ _ (call (Value.ref 73) _) _ _ _); k_dflt (refine' Ctr.useA ?w9uN ?w9uB ?w9uF ?w9uX ?w9uT ?w9uK ?w9uD ?w9uU (c_cnum _ ?w9uP) ?_; (case w9uN => walk_at "use led"); (case w9uB => k_asm); (case w9uF => k_asm); (case w9uX => k_asm); (case w9uT => k_asm); (case w9uK => first | exact rfl | assumption); (case w9uD => ktr_room); (case w9uU => ktr_units); (case w9uP => (refine And.intro ?_ (And.intro ?_ (And.intro ?_ ?_)); (walk_at "my num"); (walk_at "my num"); assumption; assumption))); intro h9 tk9 F9 N9; (try k_sweep); (try k_fold)))
  (k_with "@call ref" => (k_here; (with_reducible show wpAny _ _ (call (Value.ref 142) _) _ _ _); k_dflt (refine' Ctr.useP ?w9uN ?w9uB ?w9uF ?w9uX ?w9uT ?w9uK ?w9uD ?w9uU (c_asnum _ ?w9uP) ?_; (case w9uN => walk_at "use led"); (case w9uB => k_asm); (case w9uF => k_asm); (case w9uX => k_asm); (case w9uT => k_asm); (case w9uK => first | exact rfl | assumption); (case w9uD => ktr_room); (case w9uU => ktr_units); (case w9uP => (refine And.intro ?_ ?_; (walk_at "my pv"); assumption))); intro l9 p9 t9 u9 V9 S9 h9 tk9 F9 N9; (try k_sweep); (try k_fold)))
  trivial
theorem c_cpl (w : World) {led : Led} {op : Str} {tk : Tok} {v1 v2 tr : Value} {P1 P2 : PV} (hp : (PVal led v1 P1 ∧ P1.okB = true) ∧ (PVal led v2 P2 ∧ P2.okB = true)) : Ctr w 170 6 led [.str op tk, v1, v2, tr] (fun r led' => (∀ q ∈ led, q ∈ led') ∧ r = .bool (cplF op P1 P2)) := by
  obtain ⟨⟨VL, okL⟩, VR, okR⟩ := hp
  have bL := numOf_bd okL
  have bR := numOf_bd okR
  unfold Ctr
  k_fill
  intro mean mg mb dp un gd cn cs a ccd cl outer A₀ base h₀ L m s Q E B F X N T hk hdp hun hret
  refine wpAny_call ?_
  k_dflt (walk_at "my enter")
  k_steps
  all_goals exact fin hret (by k_asm) (by k_asm) ⟨by first | exact fun _ h => h | exact sub_trans (by assumption) (by assumption), congrArg Value.bool (by walk_at "cpl eq")⟩
end
theorem words_20004 : True := by
  k_with_none
  (k_with "@my enter" => (refine' code_def ?w9k1 ?w9k2 ?w9k3 ?w9k4 ?w9k5 ?w9kA ?w9kF ?w9kK ?w9k6 ?w9k7 ?w9k8 ?w9k9 ?w9kB ?_ ?w9c2 ?w9c3 ?w9c4 ?w9c5; (case w9kA => exact rfl); (case w9kF => exact rfl); (case w9kK => first | exact rfl | assumption); (case w9k1 => k_asm); (case w9k2 => k_asm); (case w9k3 => k_asm); (case w9k4 => k_asm); (case w9k5 => k_asm); (case w9k6 => k_is); (case w9k7 => k_is); (case w9k8 => ktr_room); (case w9k9 => first | exact BindsTo.of_eq rfl | exact binds_K (by k_in) rfl (by k_is) rfl rfl rfl); (case w9c5 => decide); (case w9kB => exact locs rfl); (case w9c2 => exact rfl); (case w9c3 => exact rfl); (case w9c4 => exact rfl); k_whole; intro g' L' h' FG' F' N' B' X' T'; (try dsimp only); (try k_lift B'); (try k_fold)))
  (k_with "@my enterC" => (refine' code_defC ?w9k1 ?w9k2 ?w9k3 ?w9k4 ?w9k5 ?w9kA ?w9kF ?w9kK ?w9k6 ?w9k7 ?w9k8 ?w9k9 ?w9kB ?w9kD ?_ ?w9c2 ?w9c3 ?w9c4; (case w9kA => exact rfl); (case w9kF => exact rfl); (case w9kK => first | exact rfl | assumption); (case w9k1 => k_asm); (case w9k2 => k_asm); (case w9k3 => k_asm); (case w9k4 => k_asm); (case w9k5 => k_asm); (case w9k6 => k_is); (case w9k7 => k_is); (case w9k8 => ktr_room); (case w9k9 => exact BindsTo.of_eq rfl); (case w9kB => exact rfl); (case w9kD => decide +kernel); (case w9c2 => exact rfl); (case w9c3 => exact rfl); (case w9c4 => exact rfl); k_whole; intro g' L' h' tk' cells' FG' F' N' Y' B' X' T' l1; k_cells Y'; (try simp only [List.cons_append, List.nil_append] at N'); (try dsimp only); (try k_lift B'); (try k_fold)))
  (k_with "@use led" => first | k_asm | exact News.sw1 (by k_asm) | exact News.sw2 (by k_asm) | exact News.sw3 (by k_asm) | exact News.sw4 (by k_asm) | exact News.sw5 (by k_asm) | exact News.sw6 (by k_asm) | exact News.sw7 (by k_asm) | exact News.sw8 (by k_asm) | exact News.sw9 (by k_asm) | exact News.sw10 (by k_asm) | exact News.sw11 (by k_asm) | exact News.sw12 (by k_asm) | exact News.sw13 (by k_asm) | exact News.sw14 (by k_asm) | exact News.sw15 (by k_asm) | exact News.sw16 (by k_asm) | exact News.sw17 (by k_asm) | exact News.sw18 (by k_asm) | exact News.sw19 (by k_asm) | exact News.sw20 (by k_asm) | exact News.sw21 (by k_asm) | exact News.sw22 (by k_asm) | exact News.sw23 (by k_asm) | exact News.sw24 (by k_asm) | exact News.sw25 (by k_asm) | exact News.sw26 (by k_asm))
  (k_with "k_all" => assumption)
  (k_with "@use pre 1" => first | assumption | omega | k_mem | k_all | rfl)
  (k_with "@use pre" => ((repeat' (first | (with_reducible refine And.intro ?_ ?_) | fail)); all_goals (walk_at "use pre 1")))
  (k_with "k_mem" => assumption)
  (k_with "@eval Call" => ((with_reducible show wpAny _ _ (eval (Expr.Call (Expr.Name _ _) _ [] _) _) _ _ _); k_dflt (refine Call_ ?_)))
  (k_with "@end led" => first | k_asm | exact News.d1 (by k_asm) | exact News.d2 (by k_asm) | exact News.d3 (by k_asm) | exact News.d4 (by k_asm) | exact News.d5 (by k_asm) | exact News.d6 (by k_asm) | exact News.d7 (by k_asm) | exact News.d8 (by k_asm) | exact News.d9 (by k_asm) | exact News.d10 (by k_asm) | exact News.d11 (by k_asm) | exact News.d12 (by k_asm))
  (k_with "@pyIter str" => k_extra "pyIter str")
  (k_with "@pyIter ref" => k_extra "pyIter ref")
  (k_with "@end led1" => first | k_asm | exact News.h1 (by k_asm) | exact News.h2 (by k_asm) | exact News.h3 (by k_asm) | exact News.h4 (by k_asm) | exact News.h5 (by k_asm) | exact News.h6 (by k_asm) | exact News.h7 (by k_asm) | exact News.h8 (by k_asm) | exact News.h9 (by k_asm))
  (k_with "@eval Name" => (k_here; k_dflt (first | (refine' nameX_L ?w9F ?w9v ?_ ?w9a ?w9b; (case w9F => k_asm); (case w9a => rfl); (case w9b => rfl); (case w9v => rfl); k_whole) | (refine' nameX_K ?w9F ?w9X ?w9T ?w9e ?_ ?w9a ?w9b; (case w9F => k_asm); (case w9X => k_asm); (case w9T => k_asm); (case w9a => rfl); (case w9b => rfl); (case w9e => k_is); k_whole) | (refine' nameX_B ?w9F ?w9X ?w9T ?w9e ?w9v ?w9n ?_ ?w9a ?w9b; (case w9F => k_asm); (case w9X => k_asm); (case w9T => k_asm); (case w9a => rfl); (case w9b => rfl); (case w9e => k_is); (case w9v => boot_fast); (case w9n => decide); k_whole))))
  (k_with "k_ne" => first | assumption | exact Nat.ne_of_gt (by assumption) | exact Nat.ne_of_lt (by assumption) | exact ne_p1 (by with_reducible assumption) | exact ne_p2 (by with_reducible assumption) | exact ne_p3 (by with_reducible assumption) | exact ne_p4 (by with_reducible assumption) | exact ne_p5 (by with_reducible assumption) | exact ne_p6 (by with_reducible assumption) | exact ne_p7 (by with_reducible assumption) | exact ne_p8 (by with_reducible assumption) | exact ne_q1 (by with_reducible assumption) | exact ne_q2 (by with_reducible assumption) | exact ne_q3 (by with_reducible assumption) | exact ne_q4 (by with_reducible assumption) | exact ne_q5 (by with_reducible assumption) | exact ne_q6 (by with_reducible assumption) | exact ne_q7 (by with_reducible assumption) | exact ne_q8 (by with_reducible assumption))
  (k_with "@subscriptTail" => (k_here; (with_reducible show wpAny _ _ (subscriptTail _ _ (Value.ref _) (Value.int 0 _)) _ _ _); k_dflt (refine' item_num0 ?w9nF ?w9nX ?w9nN ?w9nV ?_ ?w9ns; (case w9nF => k_asm); (case w9nX => k_asm); (case w9nN => k_asm); (case w9nV => assumption); (case w9ns => with_unfolding_all rfl))))
  (k_with "@subscriptTail" => (k_here; (with_reducible show wpAny _ _ (subscriptTail _ _ (Value.ref _) (Value.int 1 _)) _ _ _); k_dflt (refine' item_num1 ?w9nF ?w9nX ?w9nN ?w9nV ?_ ?w9ns; (case w9nF => k_asm); (case w9nX => k_asm); (case w9nN => k_asm); (case w9nV => assumption); (case w9ns => with_unfolding_all rfl))))
  (k_with "@call builtin:isinstance" => (k_here; (with_reducible show wpAny _ _ (call (Value.builtin "isinstance") [Value.ref _, Value.type "tuple"]) _ _ _); k_dflt (refine' isi_num_tuple ?w9nF ?w9nX ?w9nN ?w9nV ?_; (case w9nF => k_asm); (case w9nX => k_asm); (case w9nN => k_asm); (case w9nV => assumption))))
  (k_with "@call builtin:isinstance" => (k_here; (with_reducible show wpAny _ _ (call (Value.builtin "isinstance") [Value.ref _, Value.type "bool"]) _ _ _); k_dflt (refine' isi_num_bool ?w9nF ?w9nX ?w9nN ?w9nV ?_; (case w9nF => k_asm); (case w9nX => k_asm); (case w9nN => k_asm); (case w9nV => assumption))))
  (k_with "@call builtin:isinstance" => (k_here; (with_reducible show wpAny _ _ (call (Value.builtin "isinstance") [Value.ref _, Value.type "str"]) _ _ _); k_dflt (refine' isi_num_str ?w9nF ?w9nX ?w9nN ?w9nV ?_; (case w9nF => k_asm); (case w9nX => k_asm); (case w9nN => k_asm); (case w9nV => assumption))))
  trivial

end
section
theorem words_21001 : True := by
  k_with_none
  (k_with "@my enter" => (refine' code_def ?w9k1 ?w9k2 ?w9k3 ?w9k4 ?w9k5 ?w9kA ?w9kF ?w9kK ?w9k6 ?w9k7 ?w9k8 ?w9k9 ?w9kB ?_ ?w9c2 ?w9c3 ?w9c4 ?w9c5; (case w9kA => exact rfl); (case w9kF => exact rfl); (case w9kK => first | exact rfl | assumption); (case w9k1 => k_asm); (case w9k2 => k_asm); (case w9k3 => k_asm); (case w9k4 => k_asm); (case w9k5 => k_asm); (case w9k6 => k_is); (case w9k7 => k_is); (case w9k8 => ktr_room); (case w9k9 => first | exact BindsTo.of_eq rfl | exact binds_K (by k_in) rfl (by k_is) rfl rfl rfl); (case w9c5 => decide); (case w9kB => exact locs rfl); (case w9c2 => exact rfl); (case w9c3 => exact rfl); (case w9c4 => exact rfl); k_whole; intro g' L' h' FG' F' N' B' X' T'; (try dsimp only); (try k_lift B'); (try k_fold)))
  (k_with "@my enterC" => (refine' code_defC ?w9k1 ?w9k2 ?w9k3 ?w9k4 ?w9k5 ?w9kA ?w9kF ?w9kK ?w9k6 ?w9k7 ?w9k8 ?w9k9 ?w9kB ?w9kD ?_ ?w9c2 ?w9c3 ?w9c4; (case w9kA => exact rfl); (case w9kF => exact rfl); (case w9kK => first | exact rfl | assumption); (case w9k1 => k_asm); (case w9k2 => k_asm); (case w9k3 => k_asm); (case w9k4 => k_asm); (case w9k5 => k_asm); (case w9k6 => k_is); (case w9k7 => k_is); (case w9k8 => ktr_room); (case w9k9 => exact BindsTo.of_eq rfl); (case w9kB => exact rfl); (case w9kD => decide +kernel); (case w9c2 => exact rfl); (case w9c3 => exact rfl); (case w9c4 => exact rfl); k_whole; intro g' L' h' tk' cells' FG' F' N' Y' B' X' T' l1; k_cells Y'; (try simp only [List.cons_append, List.nil_append] at N'); (try dsimp only); (try k_lift B'); (try k_fold)))
  (k_with "@use led" => first | k_asm | exact News.sw1 (by k_asm) | exact News.sw2 (by k_asm) | exact News.sw3 (by k_asm) | exact News.sw4 (by k_asm) | exact News.sw5 (by k_asm) | exact News.sw6 (by k_asm) | exact News.sw7 (by k_asm) | exact News.sw8 (by k_asm) | exact News.sw9 (by k_asm) | exact News.sw10 (by k_asm) | exact News.sw11 (by k_asm) | exact News.sw12 (by k_asm) | exact News.sw13 (by k_asm) | exact News.sw14 (by k_asm) | exact News.sw15 (by k_asm) | exact News.sw16 (by k_asm) | exact News.sw17 (by k_asm) | exact News.sw18 (by k_asm) | exact News.sw19 (by k_asm) | exact News.sw20 (by k_asm) | exact News.sw21 (by k_asm) | exact News.sw22 (by k_asm) | exact News.sw23 (by k_asm) | exact News.sw24 (by k_asm) | exact News.sw25 (by k_asm) | exact News.sw26 (by k_asm))
  (k_with "k_all" => assumption)
  (k_with "@use pre 1" => first | assumption | omega | k_mem | k_all | rfl)
  (k_with "@use pre" => ((repeat' (first | (with_reducible refine And.intro ?_ ?_) | fail)); all_goals (walk_at "use pre 1")))
  (k_with "k_mem" => assumption)
  (k_with "@eval Call" => ((with_reducible show wpAny _ _ (eval (Expr.Call (Expr.Name _ _) _ [] _) _) _ _ _); k_dflt (refine Call_ ?_)))
  (k_with "@end led" => first | k_asm | exact News.d1 (by k_asm) | exact News.d2 (by k_asm) | exact News.d3 (by k_asm) | exact News.d4 (by k_asm) | exact News.d5 (by k_asm) | exact News.d6 (by k_asm) | exact News.d7 (by k_asm) | exact News.d8 (by k_asm) | exact News.d9 (by k_asm) | exact News.d10 (by k_asm) | exact News.d11 (by k_asm) | exact News.d12 (by k_asm))
  (k_with "@pyIter str" => k_extra "pyIter str")
  (k_with "@pyIter ref" => k_extra "pyIter ref")
  (k_with "@end led1" => first | k_asm | exact News.h1 (by k_asm) | exact News.h2 (by k_asm) | exact News.h3 (by k_asm) | exact News.h4 (by k_asm) | exact News.h5 (by k_asm) | exact News.h6 (by k_asm) | exact News.h7 (by k_asm) | exact News.h8 (by k_asm) | exact News.h9 (by k_asm))
  (k_with "@eval Name" => (k_here; k_dflt (first | (refine' nameX_L ?w9F ?w9v ?_ ?w9a ?w9b; (case w9F => k_asm); (case w9a => rfl); (case w9b => rfl); (case w9v => rfl); k_whole) | (refine' nameX_K ?w9F ?w9X ?w9T ?w9e ?_ ?w9a ?w9b; (case w9F => k_asm); (case w9X => k_asm); (case w9T => k_asm); (case w9a => rfl); (case w9b => rfl); (case w9e => k_is); k_whole) | (refine' nameX_B ?w9F ?w9X ?w9T ?w9e ?w9v ?w9n ?_ ?w9a ?w9b; (case w9F => k_asm); (case w9X => k_asm); (case w9T => k_asm); (case w9a => rfl); (case w9b => rfl); (case w9e => k_is); (case w9v => boot_fast); (case w9n => decide); k_whole))))
  (k_with "k_ne" => first | assumption | exact Nat.ne_of_gt (by assumption) | exact Nat.ne_of_lt (by assumption) | exact ne_p1 (by with_reducible assumption) | exact ne_p2 (by with_reducible assumption) | exact ne_p3 (by with_reducible assumption) | exact ne_p4 (by with_reducible assumption) | exact ne_p5 (by with_reducible assumption) | exact ne_p6 (by with_reducible assumption) | exact ne_p7 (by with_reducible assumption) | exact ne_p8 (by with_reducible assumption) | exact ne_q1 (by with_reducible assumption) | exact ne_q2 (by with_reducible assumption) | exact ne_q3 (by with_reducible assumption) | exact ne_q4 (by with_reducible assumption) | exact ne_q5 (by with_reducible assumption) | exact ne_q6 (by with_reducible assumption) | exact ne_q7 (by with_reducible assumption) | exact ne_q8 (by with_reducible assumption))
  trivial
def numMenu : List (PV × Option Int) := [(.n (0) (1), some (0)), (.n (1) (1), some (2)), (.n (1) (2), some (1)), (.n (-3) (2), some (-3)), (.n (2) (1), some (4)), (.n (1) (0), some (99)), (.n (-1) (0), some (-99)), (.n (0) (0), none)]
def txtMenu : List (PV × Option Int) := [(.s (Str.ofString "1"), some (2)), (.s (Str.ofString " 1 "), some (2)), (.s (Str.ofString "0.5"), some (1)), (.s (Str.ofString "-1.5"), some (-3)), (.s (Str.ofString "2"), some (4)), (.s (Str.ofString "02.0"), some (4)), (.s (Str.ofString ""), none), (.s (Str.ofString "x"), none), (.s (Str.ofString "1e0"), none), (.s (Str.ofString "+1"), none), (.s (Str.ofString "0"), some (0)), (.s (Str.ofString "-0"), some (0))]
def RVal (v : Value) : Option Int → Prop
  | none => v = .none
  | some i => ∃ t, v = .int i t
def BagOk (a b : Int) : Prop := 0 ≤ a ∧ 0 ≤ b ∧ b < 2147483647
def Good (menu : List (PV × Option Int)) (big : Led) (r : Value) : Prop := ∃ q v rv P rk, r = .ref q ∧ (q, tupO [v, rv]) ∈ big ∧ PVal big v P ∧ RVal rv rk ∧ (P, rk) ∈ menu
def EntryPost (menu : List (PV × Option Int)) (bag : Addr) (n : Nat) (rest : Led) (r : Value) (led' : Led) : Prop :=
  ∃ a' b' ta' tb' rest', led' = (bag, bagO a' b' ta' tb' n) :: rest' ∧ (0 ≤ a' ∧ 0 ≤ b' ∧ b' < 2147483647) ∧ Good menu rest' r ∧ (∀ p ∈ rest, p ∈ rest') ∧ (∀ p ∈ rest', p.1 ≠ bag)
theorem forall_nil {P : Value → Prop} : ∀ r ∈ ([] : List Value), P r := fun _ h => nomatch h
theorem forall_cons {P : Value → Prop} {v : Value} {vs : List Value} (h : P v) (k : ∀ r ∈ vs, P r) : ∀ r ∈ v :: vs, P r := fun r hr => by
  rcases List.mem_cons.mp hr with rfl | hr
  · exact h
  · exact k r hr
theorem fin_entry {menu : List (PV × Option Int)} {bag : Addr} {n : Nat} {rest big : Led} {a' b' : Int} {ta' tb' : Tok} {vs : List Value} {k : Nat} {Q : Value → Shared → Prop} {s : Shared} {h₀ : Heap} {L : Addr} {m : Str → Option Value}
    (hret : ∀ (r : Value) (led' : Led) (h' : Heap) (tk' : Nat), EntryPost menu bag n rest r led' → Fr h₀ L h' m → News h₀ L h' led' → Q r { s with heap := h', toks := tk' })
    {r : Value} {h' : Heap} {tk' : Nat} (F : Fr h₀ L h' m) (N : News h₀ L h' ((bag, bagO a' b' ta' tb' n) :: big)) (hk : vs[k]? = some r)
    (all : ∀ r ∈ vs, Good menu big r) (hsub : ∀ p ∈ rest, p ∈ big) (hne : ∀ p ∈ big, p.1 ≠ bag) (ha : 0 ≤ a') (hb : 0 ≤ b') (hb1 : b' < 2147483647) : Q r { s with heap := h', toks := tk' } :=
  hret r _ h' tk' ⟨_, _, _, _, big, rfl, ⟨ha, hb, hb1⟩, all r (List.mem_of_getElem? hk), hsub, hne⟩ F N
section
theorem words_21002 : True := by
  (k_with "@my tails" => first | assumption | (with_reducible refine List.mem_cons_of_mem _ ?_; walk_at "my tails"))
  (k_with "k_all" => first | with_reducible assumption | ((with_reducible refine ne_consG (by with_reducible assumption) ?_); k_all))
  (k_with "@newTuple" => (k_here; (rename BagAt _ => hB9); k_dflt (refine' kup_newTuple ?w9tF ?w9tN ?_ ?w9tz; (case w9tF => k_asm); (case w9tN => k_asm); (case w9tz => kmk_size)); intro D' h' F' N' l1; (have hb := bag_lt hB9 l1 (by k_dflt k_mem)); clear l1; (try k_sweep)))
  (k_with "@newList" => (k_here; (rename BagAt _ => hB9); k_dflt (refine' newList_K ?w9tF ?w9tN ?_; (case w9tF => k_asm); (case w9tN => k_asm); k_whole); intro l' h' F' N' l1; (have hb := bag_lt hB9 l1 (by k_dflt k_mem)); clear l1; (try k_sweep)))
  trivial

theorem words_21003 : True := by
  (k_with "@call ref" => (k_here; (with_reducible show wpAny _ _ (call (Value.ref 412) _) _ _ _); k_dflt (refine' Ctr.usePick ?w9uN ?w9uB ?w9uF ?w9uX ?w9uT ?w9uK ?w9uD ?w9uU (c_pick _ ?w9uP) ?_; (case w9uN => walk_at "use led"); (case w9uB => k_asm); (case w9uF => k_asm); (case w9uX => k_asm); (case w9uT => k_asm); (case w9uK => first | exact rfl | assumption); (case w9uD => ktr_room); (case w9uU => ktr_units); (case w9uP => walk_at "use pre")); intro k9 t9 a9 b9 ta9 tb9 k1 k2 k3 k4 k5 h9 tk9 F9 N9; (try k_sweep); (try k_fold)))
  (k_with "@call ref" => (k_here; (with_reducible show wpAny _ _ (call (Value.ref 419) _) _ _ _); k_dflt (refine' Ctr.useOne ?w9uN ?w9uB ?w9uF ?w9uX ?w9uT ?w9uK ?w9uD ?w9uU (c_one _ ?w9uP) ?_; (case w9uN => walk_at "use led"); (case w9uB => k_asm); (case w9uF => k_asm); (case w9uX => k_asm); (case w9uT => k_asm); (case w9uK => first | exact rfl | assumption); (case w9uD => ktr_room); (case w9uU => ktr_units); (case w9uP => walk_at "one pre")); intro r9 k9 a9 b9 ta9 tb9 k2 k3 k4 k5 h9 tk9 F9 N9; (try k_sweep); (try k_fold)))
  (k_with "@one pre" => (refine And.intro (by walk_at "use pre") (and3 (by k_mem) (by k_all) (by exact ⟨Nat.zero_lt_succ _, Nat.le_of_ble_eq_true rfl⟩))))
  trivial

theorem c_text (w : World) {rest : Led} {bag : Addr} {n : Nat} {a b : Int} {ta tb : Tok} (hp : (0 ≤ a ∧ 0 ≤ b ∧ b < 2147483647) ∧ (∀ p ∈ rest, p.1 ≠ bag)) :
    Ctr w 433 3 ((bag, bagO a b ta tb n) :: rest) [.ref bag] (EntryPost txtMenu bag n rest) := by
  obtain ⟨⟨ha, hb0, hb1⟩, hne⟩ := hp
  have hB := BagAt.mk (b := bag)
  unfold Ctr
  k_fill
  intro mean mg mb dp un gd cn cs aa ccd cl outer A₀ base h₀ L m s Q E B F X N T hk hdp hun hret
  refine wpAny_call ?_
  k_dflt (walk_at "my enter")
  k_steps
  all_goals (refine' fin_entry hret ?z1 ?z2 ?z3 ?z4 ?z5 ?z6 ?z7 ?z8 ?z9)
  case z1 => k_asm
  case z2 => k_asm
  case z3 => assumption
  case z4 =>
    (refine' forall_cons ?g ?_; (case g => exact ⟨_, _, _, .s (Str.ofString "1"), some (2), rfl, by k_mem, ⟨_, rfl⟩, ⟨_, rfl⟩, by decide⟩); (refine' forall_cons ?g ?_; (case g => exact ⟨_, _, _, .s (Str.ofString " 1 "), some (2), rfl, by k_mem, ⟨_, rfl⟩, ⟨_, rfl⟩, by decide⟩); (refine' forall_cons ?g ?_; (case g => exact ⟨_, _, _, .s (Str.ofString "0.5"), some (1), rfl, by k_mem, ⟨_, rfl⟩, ⟨_, rfl⟩, by decide⟩); (refine' forall_cons ?g ?_; (case g => exact ⟨_, _, _, .s (Str.ofString "-1.5"), some (-3), rfl, by k_mem, ⟨_, rfl⟩, ⟨_, rfl⟩, by decide⟩); (refine' forall_cons ?g ?_; (case g => exact ⟨_, _, _, .s (Str.ofString "2"), some (4), rfl, by k_mem, ⟨_, rfl⟩, ⟨_, rfl⟩, by decide⟩); (refine' forall_cons ?g ?_; (case g => exact ⟨_, _, _, .s (Str.ofString "02.0"), some (4), rfl, by k_mem, ⟨_, rfl⟩, ⟨_, rfl⟩, by decide⟩); (refine' forall_cons ?g ?_; (case g => exact ⟨_, _, _, .s (Str.ofString ""), none, rfl, by k_mem, ⟨_, rfl⟩, rfl, by decide⟩); (refine' forall_cons ?g ?_; (case g => exact ⟨_, _, _, .s (Str.ofString "x"), none, rfl, by k_mem, ⟨_, rfl⟩, rfl, by decide⟩); (refine' forall_cons ?g ?_; (case g => exact ⟨_, _, _, .s (Str.ofString "1e0"), none, rfl, by k_mem, ⟨_, rfl⟩, rfl, by decide⟩); (refine' forall_cons ?g ?_; (case g => exact ⟨_, _, _, .s (Str.ofString "+1"), none, rfl, by k_mem, ⟨_, rfl⟩, rfl, by decide⟩); (refine' forall_cons ?g ?_; (case g => exact ⟨_, _, _, .s (Str.ofString "0"), some (0), rfl, by k_mem, ⟨_, rfl⟩, ⟨_, rfl⟩, by decide⟩); (refine' forall_cons ?g ?_; (case g => exact ⟨_, _, _, .s (Str.ofString "-0"), some (0), rfl, by k_mem, ⟨_, rfl⟩, ⟨_, rfl⟩, by decide⟩); exact forall_nil))))))))))))
  case z5 => (intro p9 hp9; walk_at "my tails")
  case z6 => k_all
  all_goals assumption
end
theorem words_21004 : True := by
  k_with_none
  (k_with "@my enter" => (refine' code_def ?w9k1 ?w9k2 ?w9k3 ?w9k4 ?w9k5 ?w9kA ?w9kF ?w9kK ?w9k6 ?w9k7 ?w9k8 ?w9k9 ?w9kB ?_ ?w9c2 ?w9c3 ?w9c4 ?w9c5; (case w9kA => exact rfl); (case w9kF => exact rfl); (case w9kK => first | exact rfl | assumption); (case w9k1 => k_asm); (case w9k2 => k_asm); (case w9k3 => k_asm); (case w9k4 => k_asm); (case w9k5 => k_asm); (case w9k6 => k_is); (case w9k7 => k_is); (case w9k8 => ktr_room); (case w9k9 => first | exact BindsTo.of_eq rfl | exact binds_K (by k_in) rfl (by k_is) rfl rfl rfl); (case w9c5 => decide); (case w9kB => exact locs rfl); (case w9c2 => exact rfl); (case w9c3 => exact rfl); (case w9c4 => exact rfl); k_whole; intro g' L' h' FG' F' N' B' X' T'; (try dsimp only); (try k_lift B'); (try k_fold)))
  (k_with "@my enterC" => (refine' code_defC ?w9k1 ?w9k2 ?w9k3 ?w9k4 ?w9k5 ?w9kA ?w9kF ?w9kK ?w9k6 ?w9k7 ?w9k8 ?w9k9 ?w9kB ?w9kD ?_ ?w9c2 ?w9c3 ?w9c4; (case w9kA => exact rfl); (case w9kF => exact rfl); (case w9kK => first | exact rfl | assumption); (case w9k1 => k_asm); (case w9k2 => k_asm); (case w9k3 => k_asm); (case w9k4 => k_asm); (case w9k5 => k_asm); (case w9k6 => k_is); (case w9k7 => k_is); (case w9k8 => ktr_room); (case w9k9 => exact BindsTo.of_eq rfl); (case w9kB => exact rfl); (case w9kD => decide +kernel); (case w9c2 => exact rfl); (case w9c3 => exact rfl); (case w9c4 => exact rfl); k_whole; intro g' L' h' tk' cells' FG' F' N' Y' B' X' T' l1; k_cells Y'; (try simp only [List.cons_append, List.nil_append] at N'); (try dsimp only); (try k_lift B'); (try k_fold)))
  (k_with "@use led" => first | k_asm | exact News.sw1 (by k_asm) | exact News.sw2 (by k_asm) | exact News.sw3 (by k_asm) | exact News.sw4 (by k_asm) | exact News.sw5 (by k_asm) | exact News.sw6 (by k_asm) | exact News.sw7 (by k_asm) | exact News.sw8 (by k_asm) | exact News.sw9 (by k_asm) | exact News.sw10 (by k_asm) | exact News.sw11 (by k_asm) | exact News.sw12 (by k_asm) | exact News.sw13 (by k_asm) | exact News.sw14 (by k_asm) | exact News.sw15 (by k_asm) | exact News.sw16 (by k_asm) | exact News.sw17 (by k_asm) | exact News.sw18 (by k_asm) | exact News.sw19 (by k_asm) | exact News.sw20 (by k_asm) | exact News.sw21 (by k_asm) | exact News.sw22 (by k_asm) | exact News.sw23 (by k_asm) | exact News.sw24 (by k_asm) | exact News.sw25 (by k_asm) | exact News.sw26 (by k_asm))
  (k_with "k_all" => assumption)
  (k_with "@use pre 1" => first | assumption | omega | k_mem | k_all | rfl)
  (k_with "@use pre" => ((repeat' (first | (with_reducible refine And.intro ?_ ?_) | fail)); all_goals (walk_at "use pre 1")))
  (k_with "k_mem" => assumption)
  (k_with "@eval Call" => ((with_reducible show wpAny _ _ (eval (Expr.Call (Expr.Name _ _) _ [] _) _) _ _ _); k_dflt (refine Call_ ?_)))
  (k_with "@end led" => first | k_asm | exact News.d1 (by k_asm) | exact News.d2 (by k_asm) | exact News.d3 (by k_asm) | exact News.d4 (by k_asm) | exact News.d5 (by k_asm) | exact News.d6 (by k_asm) | exact News.d7 (by k_asm) | exact News.d8 (by k_asm) | exact News.d9 (by k_asm) | exact News.d10 (by k_asm) | exact News.d11 (by k_asm) | exact News.d12 (by k_asm))
  (k_with "@pyIter str" => k_extra "pyIter str")
  (k_with "@pyIter ref" => k_extra "pyIter ref")
  (k_with "@end led1" => first | k_asm | exact News.h1 (by k_asm) | exact News.h2 (by k_asm) | exact News.h3 (by k_asm) | exact News.h4 (by k_asm) | exact News.h5 (by k_asm) | exact News.h6 (by k_asm) | exact News.h7 (by k_asm) | exact News.h8 (by k_asm) | exact News.h9 (by k_asm))
  (k_with "@eval Name" => (k_here; k_dflt (first | (refine' nameX_L ?w9F ?w9v ?_ ?w9a ?w9b; (case w9F => k_asm); (case w9a => rfl); (case w9b => rfl); (case w9v => rfl); k_whole) | (refine' nameX_K ?w9F ?w9X ?w9T ?w9e ?_ ?w9a ?w9b; (case w9F => k_asm); (case w9X => k_asm); (case w9T => k_asm); (case w9a => rfl); (case w9b => rfl); (case w9e => k_is); k_whole) | (refine' nameX_B ?w9F ?w9X ?w9T ?w9e ?w9v ?w9n ?_ ?w9a ?w9b; (case w9F => k_asm); (case w9X => k_asm); (case w9T => k_asm); (case w9a => rfl); (case w9b => rfl); (case w9e => k_is); (case w9v => boot_fast); (case w9n => decide); k_whole))))
  (k_with "k_ne" => first | assumption | exact Nat.ne_of_gt (by assumption) | exact Nat.ne_of_lt (by assumption) | exact ne_p1 (by with_reducible assumption) | exact ne_p2 (by with_reducible assumption) | exact ne_p3 (by with_reducible assumption) | exact ne_p4 (by with_reducible assumption) | exact ne_p5 (by with_reducible assumption) | exact ne_p6 (by with_reducible assumption) | exact ne_p7 (by with_reducible assumption) | exact ne_p8 (by with_reducible assumption) | exact ne_q1 (by with_reducible assumption) | exact ne_q2 (by with_reducible assumption) | exact ne_q3 (by with_reducible assumption) | exact ne_q4 (by with_reducible assumption) | exact ne_q5 (by with_reducible assumption) | exact ne_q6 (by with_reducible assumption) | exact ne_q7 (by with_reducible assumption) | exact ne_q8 (by with_reducible assumption))
  trivial

end
section
theorem words_22001 : True := by
  k_with_none
  (k_with "@my enter" => (refine' code_def ?w9k1 ?w9k2 ?w9k3 ?w9k4 ?w9k5 ?w9kA ?w9kF ?w9kK ?w9k6 ?w9k7 ?w9k8 ?w9k9 ?w9kB ?_ ?w9c2 ?w9c3 ?w9c4 ?w9c5; (case w9kA => exact rfl); (case w9kF => exact rfl); (case w9kK => first | exact rfl | assumption); (case w9k1 => k_asm); (case w9k2 => k_asm); (case w9k3 => k_asm); (case w9k4 => k_asm); (case w9k5 => k_asm); (case w9k6 => k_is); (case w9k7 => k_is); (case w9k8 => ktr_room); (case w9k9 => first | exact BindsTo.of_eq rfl | exact binds_K (by k_in) rfl (by k_is) rfl rfl rfl); (case w9c5 => decide); (case w9kB => exact locs rfl); (case w9c2 => exact rfl); (case w9c3 => exact rfl); (case w9c4 => exact rfl); k_whole; intro g' L' h' FG' F' N' B' X' T'; (try dsimp only); (try k_lift B'); (try k_fold)))
  (k_with "@my enterC" => (refine' code_defC ?w9k1 ?w9k2 ?w9k3 ?w9k4 ?w9k5 ?w9kA ?w9kF ?w9kK ?w9k6 ?w9k7 ?w9k8 ?w9k9 ?w9kB ?w9kD ?_ ?w9c2 ?w9c3 ?w9c4; (case w9kA => exact rfl); (case w9kF => exact rfl); (case w9kK => first | exact rfl | assumption); (case w9k1 => k_asm); (case w9k2 => k_asm); (case w9k3 => k_asm); (case w9k4 => k_asm); (case w9k5 => k_asm); (case w9k6 => k_is); (case w9k7 => k_is); (case w9k8 => ktr_room); (case w9k9 => exact BindsTo.of_eq rfl); (case w9kB => exact rfl); (case w9kD => decide +kernel); (case w9c2 => exact rfl); (case w9c3 => exact rfl); (case w9c4 => exact rfl); k_whole; intro g' L' h' tk' cells' FG' F' N' Y' B' X' T' l1; k_cells Y'; (try simp only [List.cons_append, List.nil_append] at N'); (try dsimp only); (try k_lift B'); (try k_fold)))
  (k_with "@use led" => first | k_asm | exact News.sw1 (by k_asm) | exact News.sw2 (by k_asm) | exact News.sw3 (by k_asm) | exact News.sw4 (by k_asm) | exact News.sw5 (by k_asm) | exact News.sw6 (by k_asm) | exact News.sw7 (by k_asm) | exact News.sw8 (by k_asm) | exact News.sw9 (by k_asm) | exact News.sw10 (by k_asm) | exact News.sw11 (by k_asm) | exact News.sw12 (by k_asm) | exact News.sw13 (by k_asm) | exact News.sw14 (by k_asm) | exact News.sw15 (by k_asm) | exact News.sw16 (by k_asm) | exact News.sw17 (by k_asm) | exact News.sw18 (by k_asm) | exact News.sw19 (by k_asm) | exact News.sw20 (by k_asm) | exact News.sw21 (by k_asm) | exact News.sw22 (by k_asm) | exact News.sw23 (by k_asm) | exact News.sw24 (by k_asm) | exact News.sw25 (by k_asm) | exact News.sw26 (by k_asm))
  (k_with "k_all" => assumption)
  (k_with "@use pre 1" => first | assumption | omega | k_mem | k_all | rfl)
  (k_with "@use pre" => ((repeat' (first | (with_reducible refine And.intro ?_ ?_) | fail)); all_goals (walk_at "use pre 1")))
  (k_with "k_mem" => assumption)
  (k_with "@eval Call" => ((with_reducible show wpAny _ _ (eval (Expr.Call (Expr.Name _ _) _ [] _) _) _ _ _); k_dflt (refine Call_ ?_)))
  (k_with "@end led" => first | k_asm | exact News.d1 (by k_asm) | exact News.d2 (by k_asm) | exact News.d3 (by k_asm) | exact News.d4 (by k_asm) | exact News.d5 (by k_asm) | exact News.d6 (by k_asm) | exact News.d7 (by k_asm) | exact News.d8 (by k_asm) | exact News.d9 (by k_asm) | exact News.d10 (by k_asm) | exact News.d11 (by k_asm) | exact News.d12 (by k_asm))
  (k_with "@pyIter str" => k_extra "pyIter str")
  (k_with "@pyIter ref" => k_extra "pyIter ref")
  (k_with "@end led1" => first | k_asm | exact News.h1 (by k_asm) | exact News.h2 (by k_asm) | exact News.h3 (by k_asm) | exact News.h4 (by k_asm) | exact News.h5 (by k_asm) | exact News.h6 (by k_asm) | exact News.h7 (by k_asm) | exact News.h8 (by k_asm) | exact News.h9 (by k_asm))
  (k_with "@eval Name" => (k_here; k_dflt (first | (refine' nameX_L ?w9F ?w9v ?_ ?w9a ?w9b; (case w9F => k_asm); (case w9a => rfl); (case w9b => rfl); (case w9v => rfl); k_whole) | (refine' nameX_K ?w9F ?w9X ?w9T ?w9e ?_ ?w9a ?w9b; (case w9F => k_asm); (case w9X => k_asm); (case w9T => k_asm); (case w9a => rfl); (case w9b => rfl); (case w9e => k_is); k_whole) | (refine' nameX_B ?w9F ?w9X ?w9T ?w9e ?w9v ?w9n ?_ ?w9a ?w9b; (case w9F => k_asm); (case w9X => k_asm); (case w9T => k_asm); (case w9a => rfl); (case w9b => rfl); (case w9e => k_is); (case w9v => boot_fast); (case w9n => decide); k_whole))))
  (k_with "k_ne" => first | assumption | exact Nat.ne_of_gt (by assumption) | exact Nat.ne_of_lt (by assumption) | exact ne_p1 (by with_reducible assumption) | exact ne_p2 (by with_reducible assumption) | exact ne_p3 (by with_reducible assumption) | exact ne_p4 (by with_reducible assumption) | exact ne_p5 (by with_reducible assumption) | exact ne_p6 (by with_reducible assumption) | exact ne_p7 (by with_reducible assumption) | exact ne_p8 (by with_reducible assumption) | exact ne_q1 (by with_reducible assumption) | exact ne_q2 (by with_reducible assumption) | exact ne_q3 (by with_reducible assumption) | exact ne_q4 (by with_reducible assumption) | exact ne_q5 (by with_reducible assumption) | exact ne_q6 (by with_reducible assumption) | exact ne_q7 (by with_reducible assumption) | exact ne_q8 (by with_reducible assumption))
  trivial
def rkOf : Value → Option Int
  | .int i _ => some i
  | _ => none
def RankV (v : Value) : Prop := v = .none ∨ ∃ i t, v = .int i t
theorem RankV.none : RankV .none := .inl rfl
theorem RankV.int {i : Int} {t : Tok} : RankV (.int i t) := .inr ⟨i, t, rfl⟩
theorem RVal.rankV : ∀ {v : Value} {rk : Option Int}, RVal v rk → RankV v
  | _, none, h => .inl h
  | _, some i, ⟨t, h⟩ => .inr ⟨i, t, h⟩
theorem RVal.rk : ∀ {v : Value} {rk : Option Int}, RVal v rk → rkOf v = rk
  | _, none, h => by
    have h : _ = Value.none := h
    subst h; rfl
  | _, some i, ⟨t, h⟩ => by subst h; rfl
theorem rank_nil : ∀ y ∈ ([] : List Value), RankV y := fun _ h => nomatch h
theorem rank_consI {i : Int} {t : Tok} {vs : List Value} (h : ∀ y ∈ vs, RankV y) : ∀ y ∈ .int i t :: vs, RankV y := fun y hy => by
  rcases List.mem_cons.mp hy with rfl | hy
  · exact .int
  · exact h y hy
theorem rank_consN {vs : List Value} (h : ∀ y ∈ vs, RankV y) : ∀ y ∈ .none :: vs, RankV y := fun y hy => by
  rcases List.mem_cons.mp hy with rfl | hy
  · exact .none
  · exact h y hy
theorem eqAt_rank {A : Around} {s : Shared} {x y : Value} (hy : RankV y) (hx : RankV x) : SeqAt.EqAt A s y x (rkOf y == rkOf x) := by
  rcases hy with rfl | ⟨i, t, rfl⟩ <;> rcases hx with rfl | ⟨j, u, rfl⟩
  · exact SeqAt.EqAt.same _
  · exact SeqAt.EqAt.none_int _ _
  · exact SeqAt.EqAt.int_none _ _
  · exact SeqAt.EqAt.int_int _ _ _ _
section
variable {prog : Program} {w : World} {A : Around} {E : Value → Shared → Prop} {s : Shared} {h₀ : Heap} {L l : Addr} {news : Led} {vs : List Value} {n : Nat} {x : Value} {Q : Value → Shared → Prop}
theorem in_ranks (N : News h₀ L s.heap news) (hm : (l, listOf vs.toArray n) ∈ news) (hv : ∀ y ∈ vs, RankV y) (hx : RankV x) (h : Q (.bool (vs.any fun y => rkOf y == rkOf x)) s) :
    wpAny (model prog w) A (compareOp .In x (.ref l)) Q E s := by
  have hl : s.heap.IsList l vs.toArray := ⟨_, (N _ hm).1, rfl, _, rfl⟩
  refine SeqAt.in_listAt (fun y => rkOf y == rkOf x) hl (fun y hy => eqAt_rank (hv y (by simpa using hy)) hx) ?_
  rw [List.any_toArray]; exact h
theorem notin_ranks (N : News h₀ L s.heap news) (hm : (l, listOf vs.toArray n) ∈ news) (hv : ∀ y ∈ vs, RankV y) (hx : RankV x) (h : Q (.bool (!vs.any fun y => rkOf y == rkOf x)) s) :
    wpAny (model prog w) A (compareOp .NotIn x (.ref l)) Q E s := by
  have hl : s.heap.IsList l vs.toArray := ⟨_, (N _ hm).1, rfl, _, rfl⟩
  refine SeqAt.notIn_listAt (fun y => rkOf y == rkOf x) hl (fun y hy => eqAt_rank (hv y (by simpa using hy)) hx) ?_
  rw [List.any_toArray]; exact h
end

end
section
theorem words_23001 : True := by
  k_with_none
  (k_with "@my enter" => (refine' code_def ?w9k1 ?w9k2 ?w9k3 ?w9k4 ?w9k5 ?w9kA ?w9kF ?w9kK ?w9k6 ?w9k7 ?w9k8 ?w9k9 ?w9kB ?_ ?w9c2 ?w9c3 ?w9c4 ?w9c5; (case w9kA => exact rfl); (case w9kF => exact rfl); (case w9kK => first | exact rfl | assumption); (case w9k1 => k_asm); (case w9k2 => k_asm); (case w9k3 => k_asm); (case w9k4 => k_asm); (case w9k5 => k_asm); (case w9k6 => k_is); (case w9k7 => k_is); (case w9k8 => ktr_room); (case w9k9 => first | exact BindsTo.of_eq rfl | exact binds_K (by k_in) rfl (by k_is) rfl rfl rfl); (case w9c5 => decide); (case w9kB => exact locs rfl); (case w9c2 => exact rfl); (case w9c3 => exact rfl); (case w9c4 => exact rfl); k_whole; intro g' L' h' FG' F' N' B' X' T'; (try dsimp only); (try k_lift B'); (try k_fold)))
  (k_with "@my enterC" => (refine' code_defC ?w9k1 ?w9k2 ?w9k3 ?w9k4 ?w9k5 ?w9kA ?w9kF ?w9kK ?w9k6 ?w9k7 ?w9k8 ?w9k9 ?w9kB ?w9kD ?_ ?w9c2 ?w9c3 ?w9c4; (case w9kA => exact rfl); (case w9kF => exact rfl); (case w9kK => first | exact rfl | assumption); (case w9k1 => k_asm); (case w9k2 => k_asm); (case w9k3 => k_asm); (case w9k4 => k_asm); (case w9k5 => k_asm); (case w9k6 => k_is); (case w9k7 => k_is); (case w9k8 => ktr_room); (case w9k9 => exact BindsTo.of_eq rfl); (case w9kB => exact rfl); (case w9kD => decide +kernel); (case w9c2 => exact rfl); (case w9c3 => exact rfl); (case w9c4 => exact rfl); k_whole; intro g' L' h' tk' cells' FG' F' N' Y' B' X' T' l1; k_cells Y'; (try simp only [List.cons_append, List.nil_append] at N'); (try dsimp only); (try k_lift B'); (try k_fold)))
  (k_with "@use led" => first | k_asm | exact News.sw1 (by k_asm) | exact News.sw2 (by k_asm) | exact News.sw3 (by k_asm) | exact News.sw4 (by k_asm) | exact News.sw5 (by k_asm) | exact News.sw6 (by k_asm) | exact News.sw7 (by k_asm) | exact News.sw8 (by k_asm) | exact News.sw9 (by k_asm) | exact News.sw10 (by k_asm) | exact News.sw11 (by k_asm) | exact News.sw12 (by k_asm) | exact News.sw13 (by k_asm) | exact News.sw14 (by k_asm) | exact News.sw15 (by k_asm) | exact News.sw16 (by k_asm) | exact News.sw17 (by k_asm) | exact News.sw18 (by k_asm) | exact News.sw19 (by k_asm) | exact News.sw20 (by k_asm) | exact News.sw21 (by k_asm) | exact News.sw22 (by k_asm) | exact News.sw23 (by k_asm) | exact News.sw24 (by k_asm) | exact News.sw25 (by k_asm) | exact News.sw26 (by k_asm))
  (k_with "k_all" => assumption)
  (k_with "@use pre 1" => first | assumption | omega | k_mem | k_all | rfl)
  (k_with "@use pre" => ((repeat' (first | (with_reducible refine And.intro ?_ ?_) | fail)); all_goals (walk_at "use pre 1")))
  (k_with "k_mem" => assumption)
  (k_with "@eval Call" => ((with_reducible show wpAny _ _ (eval (Expr.Call (Expr.Name _ _) _ [] _) _) _ _ _); k_dflt (refine Call_ ?_)))
  (k_with "@end led" => first | k_asm | exact News.d1 (by k_asm) | exact News.d2 (by k_asm) | exact News.d3 (by k_asm) | exact News.d4 (by k_asm) | exact News.d5 (by k_asm) | exact News.d6 (by k_asm) | exact News.d7 (by k_asm) | exact News.d8 (by k_asm) | exact News.d9 (by k_asm) | exact News.d10 (by k_asm) | exact News.d11 (by k_asm) | exact News.d12 (by k_asm))
  (k_with "@pyIter str" => k_extra "pyIter str")
  (k_with "@pyIter ref" => k_extra "pyIter ref")
  (k_with "@end led1" => first | k_asm | exact News.h1 (by k_asm) | exact News.h2 (by k_asm) | exact News.h3 (by k_asm) | exact News.h4 (by k_asm) | exact News.h5 (by k_asm) | exact News.h6 (by k_asm) | exact News.h7 (by k_asm) | exact News.h8 (by k_asm) | exact News.h9 (by k_asm))
  (k_with "@eval Name" => (k_here; k_dflt (first | (refine' nameX_L ?w9F ?w9v ?_ ?w9a ?w9b; (case w9F => k_asm); (case w9a => rfl); (case w9b => rfl); (case w9v => rfl); k_whole) | (refine' nameX_K ?w9F ?w9X ?w9T ?w9e ?_ ?w9a ?w9b; (case w9F => k_asm); (case w9X => k_asm); (case w9T => k_asm); (case w9a => rfl); (case w9b => rfl); (case w9e => k_is); k_whole) | (refine' nameX_B ?w9F ?w9X ?w9T ?w9e ?w9v ?w9n ?_ ?w9a ?w9b; (case w9F => k_asm); (case w9X => k_asm); (case w9T => k_asm); (case w9a => rfl); (case w9b => rfl); (case w9e => k_is); (case w9v => boot_fast); (case w9n => decide); k_whole))))
  (k_with "k_ne" => first | assumption | exact Nat.ne_of_gt (by assumption) | exact Nat.ne_of_lt (by assumption) | exact ne_p1 (by with_reducible assumption) | exact ne_p2 (by with_reducible assumption) | exact ne_p3 (by with_reducible assumption) | exact ne_p4 (by with_reducible assumption) | exact ne_p5 (by with_reducible assumption) | exact ne_p6 (by with_reducible assumption) | exact ne_p7 (by with_reducible assumption) | exact ne_p8 (by with_reducible assumption) | exact ne_q1 (by with_reducible assumption) | exact ne_q2 (by with_reducible assumption) | exact ne_q3 (by with_reducible assumption) | exact ne_q4 (by with_reducible assumption) | exact ne_q5 (by with_reducible assumption) | exact ne_q6 (by with_reducible assumption) | exact ne_q7 (by with_reducible assumption) | exact ne_q8 (by with_reducible assumption))
  trivial
structure Grow (rest new big : Led) : Prop where
  eq : big = new ++ rest
  off : ∀ p ∈ new, ∀ q ∈ rest, q.1 ≠ p.1
theorem Grow.refl (rest : Led) : Grow rest [] rest := ⟨rfl, fun _ h => nomatch h⟩
theorem Grow.cons {rest new big : Led} {D : Addr} {o : Obj} (hn : ∀ q ∈ rest, q.1 ≠ D) (h : Grow rest new big) : Grow rest ((D, o) :: new) ((D, o) :: big) := ⟨congrArg (List.cons _) h.eq, fun p hp => by
  rcases List.mem_cons.mp hp with rfl | hp
  · exact hn
  · exact h.off p hp⟩
structure RestAt (rest : Led) : Prop where
  mk ::
theorem RestAt.lt {rest big : Led} {D : Addr} (_ : RestAt rest) (l1 : ∀ p ∈ big, p.1 < D) (hs : ∀ q ∈ rest, q ∈ big) : ∀ q ∈ rest, q.1 ≠ D := fun q hq => Nat.ne_of_lt (l1 q (hs q hq))
def EntryPostF (menu : List (PV × Option Int)) (bag : Addr) (n : Nat) (rest : Led) (r : Value) (led' : Led) : Prop :=
  ∃ a' b' ta' tb' new, led' = (bag, bagO a' b' ta' tb' n) :: (new ++ rest) ∧ (0 ≤ a' ∧ 0 ≤ b' ∧ b' < 2147483647) ∧ Good menu new r ∧ (∀ p ∈ new, p.1 ≠ bag) ∧ (∀ p ∈ new, ∀ q ∈ rest, q.1 ≠ p.1)
section
variable {w : World} {f : Addr} {dep : Nat} {led : Led} {vs : List Value} {mean : ExcName → Option Value} {mg mb : Str → Option Value} {dp un : Nat} {gd : Option (List Code)} {cn : Str} {cs : Scope} {a : Addr} {ccd : Value} {cl : List (Str × Addr)} {outer : List Env} {A₀ : Around} {base h₀ : Heap} {L : Addr} {m : Str → Option Value} {Q E : Value → Shared → Prop} {hp : Heap} {gn : Array GenState} {dr : Drawn} {tk : Nat} {os : OsState}
theorem Ctr.useF {bag : Addr} {n : Nat} {rest : Led}
  (N : News h₀ L hp led) (B : Below A₀ base outer h₀) (F : Fr h₀ L hp m) (X : (k0.heap_1 w.params).In h₀)
  (T : Top k0.view_1 (looseW k0.view_1 [Str.ofString "MOST", Str.ofString "number_of", Str.ofString "write_number"]) mean mg mb h₀) (hk : cs.kind = .function)
  (hdp : dp + dep < recursionLimit) (hun : un + 8 * dep < cLine)
  (C : Ctr w f dep led vs (EntryPostF numMenu bag n rest))
  (ret0 : ∀ r a' b' ta' tb' new, 0 ≤ a' → 0 ≤ b' → b' < 2147483647 → Good numMenu new r → (∀ p ∈ new, p.1 ≠ bag) → (∀ p ∈ new, ∀ q ∈ rest, q.1 ≠ p.1) → ∀ (h' : Heap) (tk' : Nat), Fr h₀ L h' m → News h₀ L h' ((bag, bagO a' b' ta' tb' n) :: (new ++ rest)) → Q (r) ⟨h', gn, dr, tk', os⟩) :
    wpAny (model PySem.Challenge.rw_xm0672_01.row.prog w) (ktrTop dp un gd cn cs L a ccd cl outer) (call (.ref f) vs) Q E ⟨hp, gn, dr, tk, os⟩ :=
  C.use B F X N T hk hdp hun (by rintro r _ h' tk' ⟨a', b', ta', tb', new, rfl, ⟨k1, k2, k3⟩, G, B, O⟩ F N; exact ret0 _ _ _ _ _ _ k1 k2 k3 G B O h' tk' F N)
end
theorem fin_entryF {menu : List (PV × Option Int)} {bag : Addr} {n : Nat} {rest new big : Led} {a' b' : Int} {ta' tb' : Tok} {vs : List Value} {k : Nat} {Q : Value → Shared → Prop} {s : Shared} {h₀ : Heap} {L : Addr} {m : Str → Option Value}
    (hret : ∀ (r : Value) (led' : Led) (h' : Heap) (tk' : Nat), EntryPostF menu bag n rest r led' → Fr h₀ L h' m → News h₀ L h' led' → Q r { s with heap := h', toks := tk' })
    {r : Value} {h' : Heap} {tk' : Nat} (hf : Grow rest new big) (F : Fr h₀ L h' m) (N : News h₀ L h' ((bag, bagO a' b' ta' tb' n) :: big)) (hk : vs[k]? = some r)
    (all : ∀ r ∈ vs, Good menu new r) (hne : ∀ p ∈ big, p.1 ≠ bag) (ha : 0 ≤ a') (hb : 0 ≤ b') (hb1 : b' < 2147483647) : Q r { s with heap := h', toks := tk' } :=
  hret r _ h' tk' ⟨_, _, _, _, new, congrArg (List.cons _) hf.eq, ⟨ha, hb, hb1⟩, all r (List.mem_of_getElem? hk), fun p hp => hne p (hf.eq ▸ List.mem_append.mpr (.inl hp)), hf.off⟩ F N
section
theorem words_23002 : True := by
  (k_with "@my tails" => first | assumption | (with_reducible refine List.mem_cons_of_mem _ ?_; walk_at "my tails"))
  (k_with "k_all" => first | with_reducible assumption | ((with_reducible refine ne_consG (by with_reducible assumption) ?_); k_all))
  (k_with "@newTuple" => (k_here; (rename BagAt _ => hB9); (rename RestAt _ => hR9); k_dflt (refine' kup_newTuple ?w9tF ?w9tN ?_ ?w9tz; (case w9tF => k_asm); (case w9tN => k_asm); (case w9tz => kmk_size)); intro D' h' F' N' l1; (have hb := bag_lt hB9 l1 (by k_dflt k_mem)); (have hc := hR9.lt l1 (by (intro p9 hp9; walk_at "my tails"))); clear l1; (try k_sweep)))
  (k_with "@newList" => (k_here; (rename BagAt _ => hB9); (rename RestAt _ => hR9); k_dflt (refine' newList_K ?w9tF ?w9tN ?_; (case w9tF => k_asm); (case w9tN => k_asm); k_whole); intro l' h' F' N' l1; (have hb := bag_lt hB9 l1 (by k_dflt k_mem)); (have hc := hR9.lt l1 (by (intro p9 hp9; walk_at "my tails"))); clear l1; (try k_sweep)))
  trivial

theorem words_23003 : True := by
  (k_with "@call ref" => (k_here; (with_reducible show wpAny _ _ (call (Value.ref 412) _) _ _ _); k_dflt (refine' Ctr.usePick ?w9uN ?w9uB ?w9uF ?w9uX ?w9uT ?w9uK ?w9uD ?w9uU (c_pick _ ?w9uP) ?_; (case w9uN => walk_at "use led"); (case w9uB => k_asm); (case w9uF => k_asm); (case w9uX => k_asm); (case w9uT => k_asm); (case w9uK => first | exact rfl | assumption); (case w9uD => ktr_room); (case w9uU => ktr_units); (case w9uP => walk_at "use pre")); intro k9 t9 a9 b9 ta9 tb9 k1 k2 k3 k4 k5 h9 tk9 F9 N9; (try k_sweep); (try k_fold)))
  (k_with "@call ref" => (k_here; (with_reducible show wpAny _ _ (call (Value.ref 419) _) _ _ _); k_dflt (refine' Ctr.useOne ?w9uN ?w9uB ?w9uF ?w9uX ?w9uT ?w9uK ?w9uD ?w9uU (c_one _ ?w9uP) ?_; (case w9uN => walk_at "use led"); (case w9uB => k_asm); (case w9uF => k_asm); (case w9uX => k_asm); (case w9uT => k_asm); (case w9uK => first | exact rfl | assumption); (case w9uD => ktr_room); (case w9uU => ktr_units); (case w9uP => walk_at "one pre")); intro r9 k9 a9 b9 ta9 tb9 k2 k3 k4 k5 h9 tk9 F9 N9; (try k_sweep); (try k_fold)))
  (k_with "@one pre" => (refine And.intro (by walk_at "use pre") (and3 (by k_mem) (by k_all) (by exact ⟨Nat.zero_lt_succ _, Nat.le_of_ble_eq_true rfl⟩))))
  trivial

theorem c_numF (w : World) {rest : Led} {bag : Addr} {n : Nat} {a b : Int} {ta tb : Tok} (hp : (0 ≤ a ∧ 0 ≤ b ∧ b < 2147483647) ∧ (∀ p ∈ rest, p.1 ≠ bag)) :
    Ctr w 426 3 ((bag, bagO a b ta tb n) :: rest) [.ref bag] (EntryPostF numMenu bag n rest) := by
  obtain ⟨⟨ha, hb0, hb1⟩, hne⟩ := hp
  have hB := BagAt.mk (b := bag)
  have hR := RestAt.mk (rest := rest)
  unfold Ctr
  k_fill
  intro mean mg mb dp un gd cn cs aa ccd cl outer A₀ base h₀ L m s Q E B F X N T hk hdp hun hret
  refine wpAny_call ?_
  k_dflt (walk_at "my enter")
  k_steps
  all_goals (refine' fin_entryF hret ?zf ?z1 ?z2 ?z3 ?z4 ?z6 ?z7 ?z8 ?z9)
  case z1 => k_asm
  case z2 => k_asm
  case zf => (repeat (first | exact Grow.refl _ | (apply Grow.cons (by assumption))))
  case z3 => assumption
  case z4 =>
    (refine' forall_cons ?g ?_; (case g => exact ⟨_, _, _, .n (0) (1), some (0), rfl, by k_mem, ⟨_, _, _, rfl, .inl (by k_mem)⟩, ⟨_, rfl⟩, by decide⟩); (refine' forall_cons ?g ?_; (case g => exact ⟨_, _, _, .n (1) (1), some (2), rfl, by k_mem, ⟨_, _, _, rfl, .inl (by k_mem)⟩, ⟨_, rfl⟩, by decide⟩); (refine' forall_cons ?g ?_; (case g => exact ⟨_, _, _, .n (1) (2), some (1), rfl, by k_mem, ⟨_, _, _, rfl, .inl (by k_mem)⟩, ⟨_, rfl⟩, by decide⟩); (refine' forall_cons ?g ?_; (case g => exact ⟨_, _, _, .n (-3) (2), some (-3), rfl, by k_mem, ⟨_, _, _, rfl, .inl (by k_mem)⟩, ⟨_, rfl⟩, by decide⟩); (refine' forall_cons ?g ?_; (case g => exact ⟨_, _, _, .n (2) (1), some (4), rfl, by k_mem, ⟨_, _, _, rfl, .inl (by k_mem)⟩, ⟨_, rfl⟩, by decide⟩); (refine' forall_cons ?g ?_; (case g => exact ⟨_, _, _, .n (1) (0), some (99), rfl, by k_mem, ⟨_, _, _, rfl, .inl (by k_mem)⟩, ⟨_, rfl⟩, by decide⟩); (refine' forall_cons ?g ?_; (case g => exact ⟨_, _, _, .n (-1) (0), some (-99), rfl, by k_mem, ⟨_, _, _, rfl, .inl (by k_mem)⟩, ⟨_, rfl⟩, by decide⟩); (refine' forall_cons ?g ?_; (case g => exact ⟨_, _, _, .n (0) (0), none, rfl, by k_mem, ⟨_, _, _, rfl, .inl (by k_mem)⟩, rfl, by decide⟩); exact forall_nil))))))))
  case z6 => k_all
  all_goals assumption
end
theorem words_23004 : True := by
  k_with_none
  (k_with "@my enter" => (refine' code_def ?w9k1 ?w9k2 ?w9k3 ?w9k4 ?w9k5 ?w9kA ?w9kF ?w9kK ?w9k6 ?w9k7 ?w9k8 ?w9k9 ?w9kB ?_ ?w9c2 ?w9c3 ?w9c4 ?w9c5; (case w9kA => exact rfl); (case w9kF => exact rfl); (case w9kK => first | exact rfl | assumption); (case w9k1 => k_asm); (case w9k2 => k_asm); (case w9k3 => k_asm); (case w9k4 => k_asm); (case w9k5 => k_asm); (case w9k6 => k_is); (case w9k7 => k_is); (case w9k8 => ktr_room); (case w9k9 => first | exact BindsTo.of_eq rfl | exact binds_K (by k_in) rfl (by k_is) rfl rfl rfl); (case w9c5 => decide); (case w9kB => exact locs rfl); (case w9c2 => exact rfl); (case w9c3 => exact rfl); (case w9c4 => exact rfl); k_whole; intro g' L' h' FG' F' N' B' X' T'; (try dsimp only); (try k_lift B'); (try k_fold)))
  (k_with "@my enterC" => (refine' code_defC ?w9k1 ?w9k2 ?w9k3 ?w9k4 ?w9k5 ?w9kA ?w9kF ?w9kK ?w9k6 ?w9k7 ?w9k8 ?w9k9 ?w9kB ?w9kD ?_ ?w9c2 ?w9c3 ?w9c4; (case w9kA => exact rfl); (case w9kF => exact rfl); (case w9kK => first | exact rfl | assumption); (case w9k1 => k_asm); (case w9k2 => k_asm); (case w9k3 => k_asm); (case w9k4 => k_asm); (case w9k5 => k_asm); (case w9k6 => k_is); (case w9k7 => k_is); (case w9k8 => ktr_room); (case w9k9 => exact BindsTo.of_eq rfl); (case w9kB => exact rfl); (case w9kD => decide +kernel); (case w9c2 => exact rfl); (case w9c3 => exact rfl); (case w9c4 => exact rfl); k_whole; intro g' L' h' tk' cells' FG' F' N' Y' B' X' T' l1; k_cells Y'; (try simp only [List.cons_append, List.nil_append] at N'); (try dsimp only); (try k_lift B'); (try k_fold)))
  (k_with "@use led" => first | k_asm | exact News.sw1 (by k_asm) | exact News.sw2 (by k_asm) | exact News.sw3 (by k_asm) | exact News.sw4 (by k_asm) | exact News.sw5 (by k_asm) | exact News.sw6 (by k_asm) | exact News.sw7 (by k_asm) | exact News.sw8 (by k_asm) | exact News.sw9 (by k_asm) | exact News.sw10 (by k_asm) | exact News.sw11 (by k_asm) | exact News.sw12 (by k_asm) | exact News.sw13 (by k_asm) | exact News.sw14 (by k_asm) | exact News.sw15 (by k_asm) | exact News.sw16 (by k_asm) | exact News.sw17 (by k_asm) | exact News.sw18 (by k_asm) | exact News.sw19 (by k_asm) | exact News.sw20 (by k_asm) | exact News.sw21 (by k_asm) | exact News.sw22 (by k_asm) | exact News.sw23 (by k_asm) | exact News.sw24 (by k_asm) | exact News.sw25 (by k_asm) | exact News.sw26 (by k_asm))
  (k_with "k_all" => assumption)
  (k_with "@use pre 1" => first | assumption | omega | k_mem | k_all | rfl)
  (k_with "@use pre" => ((repeat' (first | (with_reducible refine And.intro ?_ ?_) | fail)); all_goals (walk_at "use pre 1")))
  (k_with "k_mem" => assumption)
  (k_with "@eval Call" => ((with_reducible show wpAny _ _ (eval (Expr.Call (Expr.Name _ _) _ [] _) _) _ _ _); k_dflt (refine Call_ ?_)))
  (k_with "@end led" => first | k_asm | exact News.d1 (by k_asm) | exact News.d2 (by k_asm) | exact News.d3 (by k_asm) | exact News.d4 (by k_asm) | exact News.d5 (by k_asm) | exact News.d6 (by k_asm) | exact News.d7 (by k_asm) | exact News.d8 (by k_asm) | exact News.d9 (by k_asm) | exact News.d10 (by k_asm) | exact News.d11 (by k_asm) | exact News.d12 (by k_asm))
  (k_with "@pyIter str" => k_extra "pyIter str")
  (k_with "@pyIter ref" => k_extra "pyIter ref")
  (k_with "@end led1" => first | k_asm | exact News.h1 (by k_asm) | exact News.h2 (by k_asm) | exact News.h3 (by k_asm) | exact News.h4 (by k_asm) | exact News.h5 (by k_asm) | exact News.h6 (by k_asm) | exact News.h7 (by k_asm) | exact News.h8 (by k_asm) | exact News.h9 (by k_asm))
  (k_with "@eval Name" => (k_here; k_dflt (first | (refine' nameX_L ?w9F ?w9v ?_ ?w9a ?w9b; (case w9F => k_asm); (case w9a => rfl); (case w9b => rfl); (case w9v => rfl); k_whole) | (refine' nameX_K ?w9F ?w9X ?w9T ?w9e ?_ ?w9a ?w9b; (case w9F => k_asm); (case w9X => k_asm); (case w9T => k_asm); (case w9a => rfl); (case w9b => rfl); (case w9e => k_is); k_whole) | (refine' nameX_B ?w9F ?w9X ?w9T ?w9e ?w9v ?w9n ?_ ?w9a ?w9b; (case w9F => k_asm); (case w9X => k_asm); (case w9T => k_asm); (case w9a => rfl); (case w9b => rfl); (case w9e => k_is); (case w9v => boot_fast); (case w9n => decide); k_whole))))
  (k_with "k_ne" => first | assumption | exact Nat.ne_of_gt (by assumption) | exact Nat.ne_of_lt (by assumption) | exact ne_p1 (by with_reducible assumption) | exact ne_p2 (by with_reducible assumption) | exact ne_p3 (by with_reducible assumption) | exact ne_p4 (by with_reducible assumption) | exact ne_p5 (by with_reducible assumption) | exact ne_p6 (by with_reducible assumption) | exact ne_p7 (by with_reducible assumption) | exact ne_p8 (by with_reducible assumption) | exact ne_q1 (by with_reducible assumption) | exact ne_q2 (by with_reducible assumption) | exact ne_q3 (by with_reducible assumption) | exact ne_q4 (by with_reducible assumption) | exact ne_q5 (by with_reducible assumption) | exact ne_q6 (by with_reducible assumption) | exact ne_q7 (by with_reducible assumption) | exact ne_q8 (by with_reducible assumption))
  trivial
theorem c_number (w : World) {rest : Led} {bag : Addr} {n : Nat} {a b : Int} {ta tb : Tok} (hp : (0 ≤ a ∧ 0 ≤ b ∧ b < 2147483647) ∧ (∀ p ∈ rest, p.1 ≠ bag)) :
    Ctr w 426 3 ((bag, bagO a b ta tb n) :: rest) [.ref bag] (EntryPost numMenu bag n rest) := (c_numF w hp).mono (by
  rintro r led' ⟨a', b', ta', tb', new, rfl, k, ⟨q, v, rv, P, rk, rfl, hm, V, R, M⟩, B, _⟩
  have hs : ∀ p ∈ new, p ∈ new ++ rest := fun p h => List.mem_append.mpr (.inl h)
  exact ⟨a', b', ta', tb', new ++ rest, rfl, k, ⟨q, v, rv, P, rk, rfl, hs _ hm, V.mono hs, R, M⟩, fun p h => List.mem_append.mpr (.inr h), fun p h => (List.mem_append.mp h).elim (B p) (hp.2 p)⟩)

end
section
theorem words_24001 : True := by
  k_with_none
  (k_with "@my enter" => (refine' code_def ?w9k1 ?w9k2 ?w9k3 ?w9k4 ?w9k5 ?w9kA ?w9kF ?w9kK ?w9k6 ?w9k7 ?w9k8 ?w9k9 ?w9kB ?_ ?w9c2 ?w9c3 ?w9c4 ?w9c5; (case w9kA => exact rfl); (case w9kF => exact rfl); (case w9kK => first | exact rfl | assumption); (case w9k1 => k_asm); (case w9k2 => k_asm); (case w9k3 => k_asm); (case w9k4 => k_asm); (case w9k5 => k_asm); (case w9k6 => k_is); (case w9k7 => k_is); (case w9k8 => ktr_room); (case w9k9 => first | exact BindsTo.of_eq rfl | exact binds_K (by k_in) rfl (by k_is) rfl rfl rfl); (case w9c5 => decide); (case w9kB => exact locs rfl); (case w9c2 => exact rfl); (case w9c3 => exact rfl); (case w9c4 => exact rfl); k_whole; intro g' L' h' FG' F' N' B' X' T'; (try dsimp only); (try k_lift B'); (try k_fold)))
  (k_with "@my enterC" => (refine' code_defC ?w9k1 ?w9k2 ?w9k3 ?w9k4 ?w9k5 ?w9kA ?w9kF ?w9kK ?w9k6 ?w9k7 ?w9k8 ?w9k9 ?w9kB ?w9kD ?_ ?w9c2 ?w9c3 ?w9c4; (case w9kA => exact rfl); (case w9kF => exact rfl); (case w9kK => first | exact rfl | assumption); (case w9k1 => k_asm); (case w9k2 => k_asm); (case w9k3 => k_asm); (case w9k4 => k_asm); (case w9k5 => k_asm); (case w9k6 => k_is); (case w9k7 => k_is); (case w9k8 => ktr_room); (case w9k9 => exact BindsTo.of_eq rfl); (case w9kB => exact rfl); (case w9kD => decide +kernel); (case w9c2 => exact rfl); (case w9c3 => exact rfl); (case w9c4 => exact rfl); k_whole; intro g' L' h' tk' cells' FG' F' N' Y' B' X' T' l1; k_cells Y'; (try simp only [List.cons_append, List.nil_append] at N'); (try dsimp only); (try k_lift B'); (try k_fold)))
  (k_with "@use led" => first | k_asm | exact News.sw1 (by k_asm) | exact News.sw2 (by k_asm) | exact News.sw3 (by k_asm) | exact News.sw4 (by k_asm) | exact News.sw5 (by k_asm) | exact News.sw6 (by k_asm) | exact News.sw7 (by k_asm) | exact News.sw8 (by k_asm) | exact News.sw9 (by k_asm) | exact News.sw10 (by k_asm) | exact News.sw11 (by k_asm) | exact News.sw12 (by k_asm) | exact News.sw13 (by k_asm) | exact News.sw14 (by k_asm) | exact News.sw15 (by k_asm) | exact News.sw16 (by k_asm) | exact News.sw17 (by k_asm) | exact News.sw18 (by k_asm) | exact News.sw19 (by k_asm) | exact News.sw20 (by k_asm) | exact News.sw21 (by k_asm) | exact News.sw22 (by k_asm) | exact News.sw23 (by k_asm) | exact News.sw24 (by k_asm) | exact News.sw25 (by k_asm) | exact News.sw26 (by k_asm))
  (k_with "k_all" => assumption)
  (k_with "@use pre 1" => first | assumption | omega | k_mem | k_all | rfl)
  (k_with "@use pre" => ((repeat' (first | (with_reducible refine And.intro ?_ ?_) | fail)); all_goals (walk_at "use pre 1")))
  (k_with "k_mem" => assumption)
  (k_with "@eval Call" => ((with_reducible show wpAny _ _ (eval (Expr.Call (Expr.Name _ _) _ [] _) _) _ _ _); k_dflt (refine Call_ ?_)))
  (k_with "@end led" => first | k_asm | exact News.d1 (by k_asm) | exact News.d2 (by k_asm) | exact News.d3 (by k_asm) | exact News.d4 (by k_asm) | exact News.d5 (by k_asm) | exact News.d6 (by k_asm) | exact News.d7 (by k_asm) | exact News.d8 (by k_asm) | exact News.d9 (by k_asm) | exact News.d10 (by k_asm) | exact News.d11 (by k_asm) | exact News.d12 (by k_asm))
  (k_with "@pyIter str" => k_extra "pyIter str")
  (k_with "@pyIter ref" => k_extra "pyIter ref")
  (k_with "@end led1" => first | k_asm | exact News.h1 (by k_asm) | exact News.h2 (by k_asm) | exact News.h3 (by k_asm) | exact News.h4 (by k_asm) | exact News.h5 (by k_asm) | exact News.h6 (by k_asm) | exact News.h7 (by k_asm) | exact News.h8 (by k_asm) | exact News.h9 (by k_asm))
  (k_with "@eval Name" => (k_here; k_dflt (first | (refine' nameX_L ?w9F ?w9v ?_ ?w9a ?w9b; (case w9F => k_asm); (case w9a => rfl); (case w9b => rfl); (case w9v => rfl); k_whole) | (refine' nameX_K ?w9F ?w9X ?w9T ?w9e ?_ ?w9a ?w9b; (case w9F => k_asm); (case w9X => k_asm); (case w9T => k_asm); (case w9a => rfl); (case w9b => rfl); (case w9e => k_is); k_whole) | (refine' nameX_B ?w9F ?w9X ?w9T ?w9e ?w9v ?w9n ?_ ?w9a ?w9b; (case w9F => k_asm); (case w9X => k_asm); (case w9T => k_asm); (case w9a => rfl); (case w9b => rfl); (case w9e => k_is); (case w9v => boot_fast); (case w9n => decide); k_whole))))
  (k_with "k_ne" => first | assumption | exact Nat.ne_of_gt (by assumption) | exact Nat.ne_of_lt (by assumption) | exact ne_p1 (by with_reducible assumption) | exact ne_p2 (by with_reducible assumption) | exact ne_p3 (by with_reducible assumption) | exact ne_p4 (by with_reducible assumption) | exact ne_p5 (by with_reducible assumption) | exact ne_p6 (by with_reducible assumption) | exact ne_p7 (by with_reducible assumption) | exact ne_p8 (by with_reducible assumption) | exact ne_q1 (by with_reducible assumption) | exact ne_q2 (by with_reducible assumption) | exact ne_q3 (by with_reducible assumption) | exact ne_q4 (by with_reducible assumption) | exact ne_q5 (by with_reducible assumption) | exact ne_q6 (by with_reducible assumption) | exact ne_q7 (by with_reducible assumption) | exact ne_q8 (by with_reducible assumption))
  trivial
theorem words_24002 : True := by
  (k_with "@my ranks" => first | assumption | exact rank_nil | (refine rank_consI ?_; walk_at "my ranks") | (refine rank_consN ?_; walk_at "my ranks"))
  (k_with "@my rankv" => first | assumption | exact RankV.int | exact RankV.none | exact RVal.rankV (by assumption))
  (k_with "@compareOp NotIn" => (k_here; (with_reducible show wpAny _ _ (compareOp CmpOp.NotIn _ (Value.ref _)) _ _ _); k_dflt (refine' notin_ranks ?w9rN ?w9rm ?w9rv ?w9rx ?_; (case w9rN => k_asm); (case w9rm => k_mem); (case w9rv => walk_at "my ranks"); (case w9rx => walk_at "my rankv"))))
  (k_with "@compareOp In" => (k_here; (with_reducible show wpAny _ _ (compareOp CmpOp.In _ (Value.ref _)) _ _ _); k_dflt (refine' in_ranks ?w9rN ?w9rm ?w9rv ?w9rx ?_; (case w9rN => k_asm); (case w9rm => k_mem); (case w9rv => walk_at "my ranks"); (case w9rx => walk_at "my rankv"))))
  trivial
theorem num_n : ∀ {P : PV} {rk : Option Int}, (P, rk) ∈ numMenu → ∃ x y, P = .n x y
  | .n x y, _, _ => ⟨x, y, rfl⟩
  | .b c, rk, h => by simp [numMenu] at h
  | .s x, rk, h => by simp [numMenu] at h
theorem txt_s : ∀ {P : PV} {rk : Option Int}, (P, rk) ∈ txtMenu → ∃ x, P = .s x
  | .s x, _, _ => ⟨x, rfl⟩
  | .b c, rk, h => by simp [txtMenu] at h
  | .n x y, rk, h => by simp [txtMenu] at h
def valMenu : List (PV × Option Int) := (.b true, some 2) :: (.b false, some 0) :: (numMenu ++ txtMenu)
def GoodV (big : Led) (r : Value) : Prop := ∃ q v rv P rk, r = .ref q ∧ (q, tupO [v, .bool (truthOf P), rv]) ∈ big ∧ PVal big v P ∧ RVal rv rk ∧ (P, rk) ∈ valMenu
def ValPost (bag : Addr) (n : Nat) (rest : Led) (r : Value) (led' : Led) : Prop :=
  ∃ a' b' ta' tb' rest', led' = (bag, bagO a' b' ta' tb' n) :: rest' ∧ (0 ≤ a' ∧ 0 ≤ b' ∧ b' < 2147483647) ∧ GoodV rest' r ∧ (∀ p ∈ rest, p ∈ rest') ∧ (∀ p ∈ rest', p.1 ≠ bag)
theorem num_truth : ∀ {P : PV} {rk : Option Int}, (P, rk) ∈ numMenu → truthOf P = !(rk == some 0 || rk == none) := by
  have all : ∀ p ∈ numMenu, truthOf p.1 = !(p.2 == some 0 || p.2 == none) := by decide
  exact fun {P rk} h => all (P, rk) h
theorem num_val {e : PV × Option Int} (h : e ∈ numMenu) : e ∈ valMenu := .tail _ (.tail _ (List.mem_append.mpr (.inl h)))
theorem txt_val {e : PV × Option Int} (h : e ∈ txtMenu) : e ∈ valMenu := .tail _ (.tail _ (List.mem_append.mpr (.inr h)))
theorem sub_cons {a b : Led} {x : Addr × Obj} (h : ∀ p ∈ a, p ∈ b) : ∀ p ∈ a, p ∈ x :: b := fun p hp => .tail _ (h p hp)
theorem val_t {k : Int} (h : k = 0) : (PV.b (k == 0), some 2) ∈ valMenu := by subst h; decide
theorem val_f {k : Int} (h : ¬ k = 0) : (PV.b (k == 0), some 0) ∈ valMenu := by
  have e : (k == 0) = false := by simpa using h
  rw [e]; decide
theorem any_n {t : Tok} : (!([Value.int 0 t, Value.none].any fun y => rkOf y == rkOf Value.none)) = !((none : Option Int) == some 0 || (none : Option Int) == none) := by simp [rkOf]
theorem any_i {t u : Tok} {i : Int} : (!([Value.int 0 t, Value.none].any fun y => rkOf y == rkOf (Value.int i u))) = !(some i == some 0 || some i == none) := by
  have e : ((0 : Int) == i) = (i == 0) := by
    by_cases h : i = 0
    · rw [h]
    · rw [beq_eq_false_iff_ne.mpr h, beq_eq_false_iff_ne.mpr (fun e => h e.symm)]
  simp [rkOf, e]
theorem pval_b {led : Led} {c : Bool} : PVal led (.bool c) (.b c) := rfl
theorem pval_n {led : Led} {p : Addr} {x y : Int} {t u : Tok} (V : NumV led p x y t u) : PVal led (.ref p) (.n x y) := ⟨p, t, u, rfl, V⟩
theorem pval_s {led : Led} {x : Str} {t : Tok} : PVal led (.str x t) (.s x) := ⟨t, rfl⟩
theorem rval_n : RVal .none none := rfl
theorem rval_i {i : Int} {t : Tok} : RVal (.int i t) (some i) := ⟨t, rfl⟩
theorem fin_val {bag : Addr} {n : Nat} {rest big : Led} {a' b' : Int} {ta' tb' : Tok} {Q : Value → Shared → Prop} {s : Shared} {h₀ : Heap} {L : Addr} {m : Str → Option Value}
    (hret : ∀ (r : Value) (led' : Led) (h' : Heap) (tk' : Nat), ValPost bag n rest r led' → Fr h₀ L h' m → News h₀ L h' led' → Q r { s with heap := h', toks := tk' })
    {q : Addr} {h' : Heap} {tk' : Nat} {v rv : Value} {P : PV} {rk : Option Int} {tr : Bool} (F : Fr h₀ L h' m) (N : News h₀ L h' ((bag, bagO a' b' ta' tb' n) :: big)) (hm : (q, tupO [v, .bool tr, rv]) ∈ big)
    (V : PVal big v P) (R : RVal rv rk) (M : (P, rk) ∈ valMenu) (ht : tr = truthOf P) (hsub : ∀ p ∈ rest, p ∈ big) (hne : ∀ p ∈ big, p.1 ≠ bag) (ha : 0 ≤ a') (hb : 0 ≤ b') (hb1 : b' < 2147483647) : Q (.ref q) { s with heap := h', toks := tk' } :=
  hret _ _ h' tk' ⟨_, _, _, _, big, rfl, ⟨ha, hb, hb1⟩, ⟨q, v, rv, P, rk, rfl, ht ▸ hm, V, R, M⟩, hsub, hne⟩ F N
section
variable {w : World} {f : Addr} {dep : Nat} {led : Led} {vs : List Value} {mean : ExcName → Option Value} {mg mb : Str → Option Value} {dp un : Nat} {gd : Option (List Code)} {cn : Str} {cs : Scope} {a : Addr} {ccd : Value} {cl : List (Str × Addr)} {outer : List Env} {A₀ : Around} {base h₀ : Heap} {L : Addr} {m : Str → Option Value} {Q E : Value → Shared → Prop} {hp : Heap} {gn : Array GenState} {dr : Drawn} {tk : Nat} {os : OsState}
theorem Ctr.useNum {bag : Addr} {n : Nat} {rest : Led}
  (N : News h₀ L hp led) (B : Below A₀ base outer h₀) (F : Fr h₀ L hp m) (X : (k0.heap_1 w.params).In h₀)
  (T : Top k0.view_1 (looseW k0.view_1 [Str.ofString "MOST", Str.ofString "number_of", Str.ofString "write_number"]) mean mg mb h₀) (hk : cs.kind = .function)
  (hdp : dp + dep < recursionLimit) (hun : un + 8 * dep < cLine)
  (C : Ctr w f dep led vs (EntryPost numMenu bag n rest))
  (ret1 : ∀ a' b' ta' tb' rest', 0 ≤ a' → 0 ≤ b' → b' < 2147483647 → ∀ q p t u x y, (q, tupO [.ref p, .none]) ∈ rest' → NumV rest' p x y t u → (PV.n x y, none) ∈ numMenu → (∀ p ∈ rest, p ∈ rest') → (∀ p ∈ rest', p.1 ≠ bag) → ∀ (h' : Heap) (tk' : Nat), Fr h₀ L h' m → News h₀ L h' ((bag, bagO a' b' ta' tb' n) :: rest') → Q (.ref q) ⟨h', gn, dr, tk', os⟩)  (ret0 : ∀ a' b' ta' tb' rest', 0 ≤ a' → 0 ≤ b' → b' < 2147483647 → ∀ q p t u x y i w, (q, tupO [.ref p, .int i w]) ∈ rest' → NumV rest' p x y t u → (PV.n x y, some i) ∈ numMenu → (∀ p ∈ rest, p ∈ rest') → (∀ p ∈ rest', p.1 ≠ bag) → ∀ (h' : Heap) (tk' : Nat), Fr h₀ L h' m → News h₀ L h' ((bag, bagO a' b' ta' tb' n) :: rest') → Q (.ref q) ⟨h', gn, dr, tk', os⟩) :
    wpAny (model PySem.Challenge.rw_xm0672_01.row.prog w) (ktrTop dp un gd cn cs L a ccd cl outer) (call (.ref f) vs) Q E ⟨hp, gn, dr, tk, os⟩ :=
  C.use B F X N T hk hdp hun (by rintro _ _ h' tk' ⟨a', b', ta', tb', rest', rfl, ⟨k1, k2, k3⟩, ⟨q, v, rv, P, rk, rfl, m9, V9, R9, M9⟩, S, H⟩ F N; obtain ⟨x, y, rfl⟩ := num_n M9; obtain ⟨p, t, u, rfl, W9⟩ := V9; rcases rk with _ | i; (· have e : rv = Value.none := R9; subst e; exact ret1 _ _ _ _ _ k1 k2 k3 _ _ _ _ _ _ m9 W9 M9 S H h' tk' F N); (· obtain ⟨w, rfl⟩ := R9; exact ret0 _ _ _ _ _ k1 k2 k3 _ _ _ _ _ _ _ _ m9 W9 M9 S H h' tk' F N))
theorem Ctr.useText {bag : Addr} {n : Nat} {rest : Led}
  (N : News h₀ L hp led) (B : Below A₀ base outer h₀) (F : Fr h₀ L hp m) (X : (k0.heap_1 w.params).In h₀)
  (T : Top k0.view_1 (looseW k0.view_1 [Str.ofString "MOST", Str.ofString "number_of", Str.ofString "write_number"]) mean mg mb h₀) (hk : cs.kind = .function)
  (hdp : dp + dep < recursionLimit) (hun : un + 8 * dep < cLine)
  (C : Ctr w f dep led vs (EntryPost txtMenu bag n rest))
  (ret0 : ∀ a' b' ta' tb' rest', 0 ≤ a' → 0 ≤ b' → b' < 2147483647 → ∀ q x t rv rk, (q, tupO [.str x t, rv]) ∈ rest' → RVal rv rk → (PV.s x, rk) ∈ txtMenu → (∀ p ∈ rest, p ∈ rest') → (∀ p ∈ rest', p.1 ≠ bag) → ∀ (h' : Heap) (tk' : Nat), Fr h₀ L h' m → News h₀ L h' ((bag, bagO a' b' ta' tb' n) :: rest') → Q (.ref q) ⟨h', gn, dr, tk', os⟩) :
    wpAny (model PySem.Challenge.rw_xm0672_01.row.prog w) (ktrTop dp un gd cn cs L a ccd cl outer) (call (.ref f) vs) Q E ⟨hp, gn, dr, tk, os⟩ :=
  C.use B F X N T hk hdp hun (by rintro _ _ h' tk' ⟨a', b', ta', tb', rest', rfl, ⟨k1, k2, k3⟩, ⟨q, v, rv, P, rk, rfl, m9, V9, R9, M9⟩, S, H⟩ F N; obtain ⟨x, rfl⟩ := txt_s M9; obtain ⟨t, rfl⟩ := V9; exact ret0 _ _ _ _ _ k1 k2 k3 _ _ _ _ _ m9 R9 M9 S H h' tk' F N)
theorem Ctr.useVal {bag : Addr} {n : Nat} {rest : Led}
  (N : News h₀ L hp led) (B : Below A₀ base outer h₀) (F : Fr h₀ L hp m) (X : (k0.heap_1 w.params).In h₀)
  (T : Top k0.view_1 (looseW k0.view_1 [Str.ofString "MOST", Str.ofString "number_of", Str.ofString "write_number"]) mean mg mb h₀) (hk : cs.kind = .function)
  (hdp : dp + dep < recursionLimit) (hun : un + 8 * dep < cLine)
  (C : Ctr w f dep led vs (ValPost bag n rest))
  (ret0 : ∀ a' b' ta' tb' rest', 0 ≤ a' → 0 ≤ b' → b' < 2147483647 → ∀ q v rv P rk, (q, tupO [v, .bool (truthOf P), rv]) ∈ rest' → PVal rest' v P → RVal rv rk → (P, rk) ∈ valMenu → (∀ p ∈ rest, p ∈ rest') → (∀ p ∈ rest', p.1 ≠ bag) → ∀ (h' : Heap) (tk' : Nat), Fr h₀ L h' m → News h₀ L h' ((bag, bagO a' b' ta' tb' n) :: rest') → Q (.ref q) ⟨h', gn, dr, tk', os⟩) :
    wpAny (model PySem.Challenge.rw_xm0672_01.row.prog w) (ktrTop dp un gd cn cs L a ccd cl outer) (call (.ref f) vs) Q E ⟨hp, gn, dr, tk, os⟩ :=
  C.use B F X N T hk hdp hun (by rintro _ _ h' tk' ⟨a', b', ta', tb', rest', rfl, ⟨k1, k2, k3⟩, ⟨q, v, rv, P, rk, rfl, m9, V9, R9, M9⟩, S, H⟩ F N; exact ret0 _ _ _ _ _ k1 k2 k3 _ _ _ _ _ m9 V9 R9 M9 S H h' tk' F N)
end
section
theorem words_24003 : True := by
  (k_with "k_all" => first | with_reducible assumption | ((with_reducible refine ne_consG (by with_reducible assumption) ?_); k_all))
  (k_with "@newTuple" => (k_here; (rename BagAt _ => hB9); k_dflt (refine' kup_newTuple ?w9tF ?w9tN ?_ ?w9tz; (case w9tF => k_asm); (case w9tN => k_asm); (case w9tz => kmk_size)); intro D' h' F' N' l1; (have hb := bag_lt hB9 l1 (by k_dflt k_mem)); clear l1; (try k_sweep)))
  (k_with "@newList" => (k_here; (rename BagAt _ => hB9); k_dflt (refine' newList_K ?w9tF ?w9tN ?_; (case w9tF => k_asm); (case w9tN => k_asm); k_whole); intro l' h' F' N' l1; (have hb := bag_lt hB9 l1 (by k_dflt k_mem)); clear l1; (try k_sweep)))
  trivial

theorem words_24004 : True := by
  (k_with "@call ref" => (k_here; (with_reducible show wpAny _ _ (call (Value.ref 412) _) _ _ _); k_dflt (refine' Ctr.usePick ?w9uN ?w9uB ?w9uF ?w9uX ?w9uT ?w9uK ?w9uD ?w9uU (c_pick _ ?w9uP) ?_; (case w9uN => walk_at "use led"); (case w9uB => k_asm); (case w9uF => k_asm); (case w9uX => k_asm); (case w9uT => k_asm); (case w9uK => first | exact rfl | assumption); (case w9uD => ktr_room); (case w9uU => ktr_units); (case w9uP => walk_at "use pre")); intro k9 t9 a9 b9 ta9 tb9 k1 k2 k3 k4 k5 h9 tk9 F9 N9; (try k_sweep); (try k_fold)))
  (k_with "@call ref" => (k_here; (with_reducible show wpAny _ _ (call (Value.ref 419) _) _ _ _); k_dflt (refine' Ctr.useOne ?w9uN ?w9uB ?w9uF ?w9uX ?w9uT ?w9uK ?w9uD ?w9uU (c_one _ ?w9uP) ?_; (case w9uN => walk_at "use led"); (case w9uB => k_asm); (case w9uF => k_asm); (case w9uX => k_asm); (case w9uT => k_asm); (case w9uK => first | exact rfl | assumption); (case w9uD => ktr_room); (case w9uU => ktr_units); (case w9uP => walk_at "one pre")); intro r9 k9 a9 b9 ta9 tb9 k2 k3 k4 k5 h9 tk9 F9 N9; (try k_sweep); (try k_fold)))
  (k_with "@one pre" => (refine And.intro (by walk_at "use pre") (and3 (by k_mem) (by k_all) (by exact ⟨Nat.zero_lt_succ _, Nat.le_of_ble_eq_true rfl⟩))))
  trivial

theorem words_24005 : True := by
  (k_with "@call ref" => (k_here; (with_reducible show wpAny _ _ (call (Value.ref 426) _) _ _ _); k_dflt (refine' Ctr.useNum ?w9uN ?w9uB ?w9uF ?w9uX ?w9uT ?w9uK ?w9uD ?w9uU (c_number _ ?w9uP) ?_ ?_; (case w9uN => walk_at "use led"); (case w9uB => k_asm); (case w9uF => k_asm); (case w9uX => k_asm); (case w9uT => k_asm); (case w9uK => first | exact rfl | assumption); (case w9uD => ktr_room); (case w9uU => ktr_units); (case w9uP => walk_at "use pre")); (all_goals ((first | intro a9 b9 ta9 tb9 rest9 k1 k2 k3 q9 p9 t9 u9 x9 y9 i9 w9 m9 W9 M9 S9 H9 h9 tk9 F9 N9 | intro a9 b9 ta9 tb9 rest9 k1 k2 k3 q9 p9 t9 u9 x9 y9 m9 W9 M9 S9 H9 h9 tk9 F9 N9); (try k_sweep); (try k_fold)))))
  (k_with "@call ref" => (k_here; (with_reducible show wpAny _ _ (call (Value.ref 433) _) _ _ _); k_dflt (refine' Ctr.useText ?w9uN ?w9uB ?w9uF ?w9uX ?w9uT ?w9uK ?w9uD ?w9uU (c_text _ ?w9uP) ?_; (case w9uN => walk_at "use led"); (case w9uB => k_asm); (case w9uF => k_asm); (case w9uX => k_asm); (case w9uT => k_asm); (case w9uK => first | exact rfl | assumption); (case w9uD => ktr_room); (case w9uU => ktr_units); (case w9uP => walk_at "use pre")); intro a9 b9 ta9 tb9 rest9 k1 k2 k3 q9 x9 t9 rv9 rk9 m9 R9 M9 S9 H9 h9 tk9 F9 N9; (try k_sweep); (try k_fold)))
  trivial
theorem c_value (w : World) {rest : Led} {bag : Addr} {n : Nat} {a b : Int} {ta tb : Tok} (hp : (0 ≤ a ∧ 0 ≤ b ∧ b < 2147483647) ∧ (∀ p ∈ rest, p.1 ≠ bag)) :
    Ctr w 440 4 ((bag, bagO a b ta tb n) :: rest) [.ref bag] (ValPost bag n rest) := by
  obtain ⟨⟨ha, hb0, hb1⟩, hne⟩ := hp
  have hB := BagAt.mk (b := bag)
  unfold Ctr
  k_fill
  intro mean mg mb dp un gd cn cs aa ccd cl outer A₀ base h₀ L m s Q E B F X N T hk hdp hun hret
  refine wpAny_call ?_
  k_dflt (walk_at "my enter")
  k_steps
  · refine' fin_val hret ?ya1 ?ya2 ?ya3 ?ya4 ?ya5 ?ya6 ?ya7 ?ya8 ?ya9 ?ya10 ?ya11 ?ya12
    case ya1 => k_asm
    case ya2 => walk_at "use led"
    case ya3 => k_mem
    case ya4 => exact pval_b
    case ya5 => exact rval_i
    case ya6 => exact val_t (by assumption)
    case ya7 => rfl
    case ya8 => ((repeat' (first | (with_reducible refine sub_cons ?_) | fail)); first | assumption | exact fun _ h => h)
    case ya9 => k_all
    all_goals assumption
  · refine' fin_val hret ?yb1 ?yb2 ?yb3 ?yb4 ?yb5 ?yb6 ?yb7 ?yb8 ?yb9 ?yb10 ?yb11 ?yb12
    case yb1 => k_asm
    case yb2 => walk_at "use led"
    case yb3 => k_mem
    case yb4 => exact pval_b
    case yb5 => exact rval_i
    case yb6 => exact val_f (by assumption)
    case yb7 => rfl
    case yb8 => ((repeat' (first | (with_reducible refine sub_cons ?_) | fail)); first | assumption | exact fun _ h => h)
    case yb9 => k_all
    all_goals assumption
  · refine' fin_val hret ?yc1 ?yc2 ?yc3 ?yc4 ?yc5 ?yc6 ?yc7 ?yc8 ?yc9 ?yc10 ?yc11 ?yc12
    case yc1 => k_asm
    case yc2 => walk_at "use led"
    case yc3 => k_mem
    case yc4 => exact pval_n (NumV.cons (NumV.cons (by assumption)))
    case yc5 => exact rval_n
    case yc6 => exact num_val (by assumption)
    case yc7 => exact any_n.trans (num_truth (by assumption)).symm
    case yc8 => ((repeat' (first | (with_reducible refine sub_cons ?_) | fail)); first | assumption | exact fun _ h => h)
    case yc9 => k_all
    all_goals assumption
  · refine' fin_val hret ?yd1 ?yd2 ?yd3 ?yd4 ?yd5 ?yd6 ?yd7 ?yd8 ?yd9 ?yd10 ?yd11 ?yd12
    case yd1 => k_asm
    case yd2 => walk_at "use led"
    case yd3 => k_mem
    case yd4 => exact pval_n (NumV.cons (NumV.cons (by assumption)))
    case yd5 => exact rval_i
    case yd6 => exact num_val (by assumption)
    case yd7 => exact any_i.trans (num_truth (by assumption)).symm
    case yd8 => ((repeat' (first | (with_reducible refine sub_cons ?_) | fail)); first | assumption | exact fun _ h => h)
    case yd9 => k_all
    all_goals assumption
  · refine' fin_val hret ?ye1 ?ye2 ?ye3 ?ye4 ?ye5 ?ye6 ?ye7 ?ye8 ?ye9 ?ye10 ?ye11 ?ye12
    case ye1 => k_asm
    case ye2 => walk_at "use led"
    case ye3 => k_mem
    case ye4 => exact pval_s
    case ye5 => assumption
    case ye6 => exact txt_val (by assumption)
    case ye7 => rfl
    case ye8 => ((repeat' (first | (with_reducible refine sub_cons ?_) | fail)); first | assumption | exact fun _ h => h)
    case ye9 => k_all
    all_goals assumption
end
theorem words_24006 : True := by
  k_with_none
  (k_with "@my enter" => (refine' code_def ?w9k1 ?w9k2 ?w9k3 ?w9k4 ?w9k5 ?w9kA ?w9kF ?w9kK ?w9k6 ?w9k7 ?w9k8 ?w9k9 ?w9kB ?_ ?w9c2 ?w9c3 ?w9c4 ?w9c5; (case w9kA => exact rfl); (case w9kF => exact rfl); (case w9kK => first | exact rfl | assumption); (case w9k1 => k_asm); (case w9k2 => k_asm); (case w9k3 => k_asm); (case w9k4 => k_asm); (case w9k5 => k_asm); (case w9k6 => k_is); (case w9k7 => k_is); (case w9k8 => ktr_room); (case w9k9 => first | exact BindsTo.of_eq rfl | exact binds_K (by k_in) rfl (by k_is) rfl rfl rfl); (case w9c5 => decide); (case w9kB => exact locs rfl); (case w9c2 => exact rfl); (case w9c3 => exact rfl); (case w9c4 => exact rfl); k_whole; intro g' L' h' FG' F' N' B' X' T'; (try dsimp only); (try k_lift B'); (try k_fold)))
  (k_with "@my enterC" => (refine' code_defC ?w9k1 ?w9k2 ?w9k3 ?w9k4 ?w9k5 ?w9kA ?w9kF ?w9kK ?w9k6 ?w9k7 ?w9k8 ?w9k9 ?w9kB ?w9kD ?_ ?w9c2 ?w9c3 ?w9c4; (case w9kA => exact rfl); (case w9kF => exact rfl); (case w9kK => first | exact rfl | assumption); (case w9k1 => k_asm); (case w9k2 => k_asm); (case w9k3 => k_asm); (case w9k4 => k_asm); (case w9k5 => k_asm); (case w9k6 => k_is); (case w9k7 => k_is); (case w9k8 => ktr_room); (case w9k9 => exact BindsTo.of_eq rfl); (case w9kB => exact rfl); (case w9kD => decide +kernel); (case w9c2 => exact rfl); (case w9c3 => exact rfl); (case w9c4 => exact rfl); k_whole; intro g' L' h' tk' cells' FG' F' N' Y' B' X' T' l1; k_cells Y'; (try simp only [List.cons_append, List.nil_append] at N'); (try dsimp only); (try k_lift B'); (try k_fold)))
  (k_with "@use led" => first | k_asm | exact News.sw1 (by k_asm) | exact News.sw2 (by k_asm) | exact News.sw3 (by k_asm) | exact News.sw4 (by k_asm) | exact News.sw5 (by k_asm) | exact News.sw6 (by k_asm) | exact News.sw7 (by k_asm) | exact News.sw8 (by k_asm) | exact News.sw9 (by k_asm) | exact News.sw10 (by k_asm) | exact News.sw11 (by k_asm) | exact News.sw12 (by k_asm) | exact News.sw13 (by k_asm) | exact News.sw14 (by k_asm) | exact News.sw15 (by k_asm) | exact News.sw16 (by k_asm) | exact News.sw17 (by k_asm) | exact News.sw18 (by k_asm) | exact News.sw19 (by k_asm) | exact News.sw20 (by k_asm) | exact News.sw21 (by k_asm) | exact News.sw22 (by k_asm) | exact News.sw23 (by k_asm) | exact News.sw24 (by k_asm) | exact News.sw25 (by k_asm) | exact News.sw26 (by k_asm))
  (k_with "k_all" => assumption)
  (k_with "@use pre 1" => first | assumption | omega | k_mem | k_all | rfl)
  (k_with "@use pre" => ((repeat' (first | (with_reducible refine And.intro ?_ ?_) | fail)); all_goals (walk_at "use pre 1")))
  (k_with "k_mem" => assumption)
  (k_with "@eval Call" => ((with_reducible show wpAny _ _ (eval (Expr.Call (Expr.Name _ _) _ [] _) _) _ _ _); k_dflt (refine Call_ ?_)))
  (k_with "@end led" => first | k_asm | exact News.d1 (by k_asm) | exact News.d2 (by k_asm) | exact News.d3 (by k_asm) | exact News.d4 (by k_asm) | exact News.d5 (by k_asm) | exact News.d6 (by k_asm) | exact News.d7 (by k_asm) | exact News.d8 (by k_asm) | exact News.d9 (by k_asm) | exact News.d10 (by k_asm) | exact News.d11 (by k_asm) | exact News.d12 (by k_asm))
  (k_with "@pyIter str" => k_extra "pyIter str")
  (k_with "@pyIter ref" => k_extra "pyIter ref")
  (k_with "@end led1" => first | k_asm | exact News.h1 (by k_asm) | exact News.h2 (by k_asm) | exact News.h3 (by k_asm) | exact News.h4 (by k_asm) | exact News.h5 (by k_asm) | exact News.h6 (by k_asm) | exact News.h7 (by k_asm) | exact News.h8 (by k_asm) | exact News.h9 (by k_asm))
  (k_with "@eval Name" => (k_here; k_dflt (first | (refine' nameX_L ?w9F ?w9v ?_ ?w9a ?w9b; (case w9F => k_asm); (case w9a => rfl); (case w9b => rfl); (case w9v => rfl); k_whole) | (refine' nameX_K ?w9F ?w9X ?w9T ?w9e ?_ ?w9a ?w9b; (case w9F => k_asm); (case w9X => k_asm); (case w9T => k_asm); (case w9a => rfl); (case w9b => rfl); (case w9e => k_is); k_whole) | (refine' nameX_B ?w9F ?w9X ?w9T ?w9e ?w9v ?w9n ?_ ?w9a ?w9b; (case w9F => k_asm); (case w9X => k_asm); (case w9T => k_asm); (case w9a => rfl); (case w9b => rfl); (case w9e => k_is); (case w9v => boot_fast); (case w9n => decide); k_whole))))
  (k_with "k_ne" => first | assumption | exact Nat.ne_of_gt (by assumption) | exact Nat.ne_of_lt (by assumption) | exact ne_p1 (by with_reducible assumption) | exact ne_p2 (by with_reducible assumption) | exact ne_p3 (by with_reducible assumption) | exact ne_p4 (by with_reducible assumption) | exact ne_p5 (by with_reducible assumption) | exact ne_p6 (by with_reducible assumption) | exact ne_p7 (by with_reducible assumption) | exact ne_p8 (by with_reducible assumption) | exact ne_q1 (by with_reducible assumption) | exact ne_q2 (by with_reducible assumption) | exact ne_q3 (by with_reducible assumption) | exact ne_q4 (by with_reducible assumption) | exact ne_q5 (by with_reducible assumption) | exact ne_q6 (by with_reducible assumption) | exact ne_q7 (by with_reducible assumption) | exact ne_q8 (by with_reducible assumption))
  (k_with "@my ranks" => first | assumption | exact rank_nil | (refine rank_consI ?_; walk_at "my ranks") | (refine rank_consN ?_; walk_at "my ranks"))
  (k_with "@my rankv" => first | assumption | exact RankV.int | exact RankV.none | exact RVal.rankV (by assumption))
  (k_with "@compareOp NotIn" => (k_here; (with_reducible show wpAny _ _ (compareOp CmpOp.NotIn _ (Value.ref _)) _ _ _); k_dflt (refine' notin_ranks ?w9rN ?w9rm ?w9rv ?w9rx ?_; (case w9rN => k_asm); (case w9rm => k_mem); (case w9rv => walk_at "my ranks"); (case w9rx => walk_at "my rankv"))))
  (k_with "@compareOp In" => (k_here; (with_reducible show wpAny _ _ (compareOp CmpOp.In _ (Value.ref _)) _ _ _); k_dflt (refine' in_ranks ?w9rN ?w9rm ?w9rv ?w9rx ?_; (case w9rN => k_asm); (case w9rm => k_mem); (case w9rv => walk_at "my ranks"); (case w9rx => walk_at "my rankv"))))
  trivial

end
section
theorem words_25001 : True := by
  k_with_none
  (k_with "@my enter" => (refine' code_def ?w9k1 ?w9k2 ?w9k3 ?w9k4 ?w9k5 ?w9kA ?w9kF ?w9kK ?w9k6 ?w9k7 ?w9k8 ?w9k9 ?w9kB ?_ ?w9c2 ?w9c3 ?w9c4 ?w9c5; (case w9kA => exact rfl); (case w9kF => exact rfl); (case w9kK => first | exact rfl | assumption); (case w9k1 => k_asm); (case w9k2 => k_asm); (case w9k3 => k_asm); (case w9k4 => k_asm); (case w9k5 => k_asm); (case w9k6 => k_is); (case w9k7 => k_is); (case w9k8 => ktr_room); (case w9k9 => first | exact BindsTo.of_eq rfl | exact binds_K (by k_in) rfl (by k_is) rfl rfl rfl); (case w9c5 => decide); (case w9kB => exact locs rfl); (case w9c2 => exact rfl); (case w9c3 => exact rfl); (case w9c4 => exact rfl); k_whole; intro g' L' h' FG' F' N' B' X' T'; (try dsimp only); (try k_lift B'); (try k_fold)))
  (k_with "@my enterC" => (refine' code_defC ?w9k1 ?w9k2 ?w9k3 ?w9k4 ?w9k5 ?w9kA ?w9kF ?w9kK ?w9k6 ?w9k7 ?w9k8 ?w9k9 ?w9kB ?w9kD ?_ ?w9c2 ?w9c3 ?w9c4; (case w9kA => exact rfl); (case w9kF => exact rfl); (case w9kK => first | exact rfl | assumption); (case w9k1 => k_asm); (case w9k2 => k_asm); (case w9k3 => k_asm); (case w9k4 => k_asm); (case w9k5 => k_asm); (case w9k6 => k_is); (case w9k7 => k_is); (case w9k8 => ktr_room); (case w9k9 => exact BindsTo.of_eq rfl); (case w9kB => exact rfl); (case w9kD => decide +kernel); (case w9c2 => exact rfl); (case w9c3 => exact rfl); (case w9c4 => exact rfl); k_whole; intro g' L' h' tk' cells' FG' F' N' Y' B' X' T' l1; k_cells Y'; (try simp only [List.cons_append, List.nil_append] at N'); (try dsimp only); (try k_lift B'); (try k_fold)))
  (k_with "@use led" => first | k_asm | exact News.sw1 (by k_asm) | exact News.sw2 (by k_asm) | exact News.sw3 (by k_asm) | exact News.sw4 (by k_asm) | exact News.sw5 (by k_asm) | exact News.sw6 (by k_asm) | exact News.sw7 (by k_asm) | exact News.sw8 (by k_asm) | exact News.sw9 (by k_asm) | exact News.sw10 (by k_asm) | exact News.sw11 (by k_asm) | exact News.sw12 (by k_asm) | exact News.sw13 (by k_asm) | exact News.sw14 (by k_asm) | exact News.sw15 (by k_asm) | exact News.sw16 (by k_asm) | exact News.sw17 (by k_asm) | exact News.sw18 (by k_asm) | exact News.sw19 (by k_asm) | exact News.sw20 (by k_asm) | exact News.sw21 (by k_asm) | exact News.sw22 (by k_asm) | exact News.sw23 (by k_asm) | exact News.sw24 (by k_asm) | exact News.sw25 (by k_asm) | exact News.sw26 (by k_asm))
  (k_with "k_all" => assumption)
  (k_with "@use pre 1" => first | assumption | omega | k_mem | k_all | rfl)
  (k_with "@use pre" => ((repeat' (first | (with_reducible refine And.intro ?_ ?_) | fail)); all_goals (walk_at "use pre 1")))
  (k_with "k_mem" => assumption)
  (k_with "@eval Call" => ((with_reducible show wpAny _ _ (eval (Expr.Call (Expr.Name _ _) _ [] _) _) _ _ _); k_dflt (refine Call_ ?_)))
  (k_with "@end led" => first | k_asm | exact News.d1 (by k_asm) | exact News.d2 (by k_asm) | exact News.d3 (by k_asm) | exact News.d4 (by k_asm) | exact News.d5 (by k_asm) | exact News.d6 (by k_asm) | exact News.d7 (by k_asm) | exact News.d8 (by k_asm) | exact News.d9 (by k_asm) | exact News.d10 (by k_asm) | exact News.d11 (by k_asm) | exact News.d12 (by k_asm))
  (k_with "@pyIter str" => k_extra "pyIter str")
  (k_with "@pyIter ref" => k_extra "pyIter ref")
  (k_with "@end led1" => first | k_asm | exact News.h1 (by k_asm) | exact News.h2 (by k_asm) | exact News.h3 (by k_asm) | exact News.h4 (by k_asm) | exact News.h5 (by k_asm) | exact News.h6 (by k_asm) | exact News.h7 (by k_asm) | exact News.h8 (by k_asm) | exact News.h9 (by k_asm))
  (k_with "@eval Name" => (k_here; k_dflt (first | (refine' nameX_L ?w9F ?w9v ?_ ?w9a ?w9b; (case w9F => k_asm); (case w9a => rfl); (case w9b => rfl); (case w9v => rfl); k_whole) | (refine' nameX_K ?w9F ?w9X ?w9T ?w9e ?_ ?w9a ?w9b; (case w9F => k_asm); (case w9X => k_asm); (case w9T => k_asm); (case w9a => rfl); (case w9b => rfl); (case w9e => k_is); k_whole) | (refine' nameX_B ?w9F ?w9X ?w9T ?w9e ?w9v ?w9n ?_ ?w9a ?w9b; (case w9F => k_asm); (case w9X => k_asm); (case w9T => k_asm); (case w9a => rfl); (case w9b => rfl); (case w9e => k_is); (case w9v => boot_fast); (case w9n => decide); k_whole))))
  (k_with "k_ne" => first | assumption | exact Nat.ne_of_gt (by assumption) | exact Nat.ne_of_lt (by assumption) | exact ne_p1 (by with_reducible assumption) | exact ne_p2 (by with_reducible assumption) | exact ne_p3 (by with_reducible assumption) | exact ne_p4 (by with_reducible assumption) | exact ne_p5 (by with_reducible assumption) | exact ne_p6 (by with_reducible assumption) | exact ne_p7 (by with_reducible assumption) | exact ne_p8 (by with_reducible assumption) | exact ne_q1 (by with_reducible assumption) | exact ne_q2 (by with_reducible assumption) | exact ne_q3 (by with_reducible assumption) | exact ne_q4 (by with_reducible assumption) | exact ne_q5 (by with_reducible assumption) | exact ne_q6 (by with_reducible assumption) | exact ne_q7 (by with_reducible assumption) | exact ne_q8 (by with_reducible assumption))
  trivial
def strOf : Value → Option Str
  | .str a _ => some a
  | _ => none
def StrV (v : Value) : Prop := ∃ a t, v = .str a t
theorem str_nil : ∀ y ∈ ([] : List Value), StrV y := fun _ h => nomatch h
theorem str_cons {a : Str} {t : Tok} {vs : List Value} (h : ∀ y ∈ vs, StrV y) : ∀ y ∈ .str a t :: vs, StrV y := fun y hy => by
  rcases List.mem_cons.mp hy with rfl | hy
  · exact ⟨_, _, rfl⟩
  · exact h y hy
theorem eqAt_str {A : Around} {s : Shared} {y : Value} {a : Str} {t : Tok} (hy : StrV y) : SeqAt.EqAt A s y (.str a t) (strOf y == some a) := by
  obtain ⟨b, u, rfl⟩ := hy
  have e : (strOf (.str b u) == some a) = (b == a) := rfl
  rw [e]
  exact SeqAt.EqAt.str_str _ _ _ _
section
variable {prog : Program} {w : World} {A : Around} {E : Value → Shared → Prop} {s : Shared} {h₀ : Heap} {L l : Addr} {news : Led} {vs : List Value} {n : Nat} {a : Str} {t : Tok} {Q : Value → Shared → Prop}
theorem in_strs (N : News h₀ L s.heap news) (hm : (l, listOf vs.toArray n) ∈ news) (hv : ∀ y ∈ vs, StrV y) (h : Q (.bool (vs.any fun y => strOf y == some a)) s) :
    wpAny (model prog w) A (compareOp .In (.str a t) (.ref l)) Q E s := by
  have hl : s.heap.IsList l vs.toArray := ⟨_, (N _ hm).1, rfl, _, rfl⟩
  refine SeqAt.in_listAt (fun y => strOf y == some a) hl (fun y hy => eqAt_str (hv y (by simpa using hy))) ?_
  rw [List.any_toArray]; exact h
end
def ranksF (op : Str) : Option Int → Option Int → Bool
  | some i, some j => if op == Str.ofString "=" then (i == j) == (op == Str.ofString "=") else if op == Str.ofString "!=" then (i == j) == (op == Str.ofString "=") else if i = j then [Str.ofString "<=", Str.ofString ">="].any (fun x => x == op) else decide (i < j) == (Txt.item op 0 == Str.ofString "<")
  | _, _ => op == Str.ofString "!="
def OpOk (op : Str) : Prop := 0 < op.length ∧ op.length ≤ 2
theorem item_op {prog : Program} {w : World} {A : Around} {E : Value → Shared → Prop} {s : Shared} {value slice : PySem.Expr} {x : PySem.Str} {t u : Tok} {Q : Value → Shared → Prop}
    (h0 : OpOk x) (h : Q (.str (Txt.item x 0) s.toks) { s with toks := s.toks + 1 })
    (hs : subscripted slice false (.str x t) (.int 0 u) = operate [.str x t, .int 0 u] (getItem (.str x t) (.int 0 u)))
    (ht : ∀ r, letTemporaryGo value (.str x t) r = pure ()) :
    wpAny (model prog w) A (subscriptTail value slice (.str x t) (.int 0 u)) Q E s :=
  item_lit ⟨⟨Int.le_refl _, by have := h0.1; omega⟩, by have := h0.2; omega⟩ h hs ht

end
section
theorem words_26001 : True := by
  k_with_none
  (k_with "@my enter" => (refine' code_def ?w9k1 ?w9k2 ?w9k3 ?w9k4 ?w9k5 ?w9kA ?w9kF ?w9kK ?w9k6 ?w9k7 ?w9k8 ?w9k9 ?w9kB ?_ ?w9c2 ?w9c3 ?w9c4 ?w9c5; (case w9kA => exact rfl); (case w9kF => exact rfl); (case w9kK => first | exact rfl | assumption); (case w9k1 => k_asm); (case w9k2 => k_asm); (case w9k3 => k_asm); (case w9k4 => k_asm); (case w9k5 => k_asm); (case w9k6 => k_is); (case w9k7 => k_is); (case w9k8 => ktr_room); (case w9k9 => first | exact BindsTo.of_eq rfl | exact binds_K (by k_in) rfl (by k_is) rfl rfl rfl); (case w9c5 => decide); (case w9kB => exact locs rfl); (case w9c2 => exact rfl); (case w9c3 => exact rfl); (case w9c4 => exact rfl); k_whole; intro g' L' h' FG' F' N' B' X' T'; (try dsimp only); (try k_lift B'); (try k_fold)))
  (k_with "@my enterC" => (refine' code_defC ?w9k1 ?w9k2 ?w9k3 ?w9k4 ?w9k5 ?w9kA ?w9kF ?w9kK ?w9k6 ?w9k7 ?w9k8 ?w9k9 ?w9kB ?w9kD ?_ ?w9c2 ?w9c3 ?w9c4; (case w9kA => exact rfl); (case w9kF => exact rfl); (case w9kK => first | exact rfl | assumption); (case w9k1 => k_asm); (case w9k2 => k_asm); (case w9k3 => k_asm); (case w9k4 => k_asm); (case w9k5 => k_asm); (case w9k6 => k_is); (case w9k7 => k_is); (case w9k8 => ktr_room); (case w9k9 => exact BindsTo.of_eq rfl); (case w9kB => exact rfl); (case w9kD => decide +kernel); (case w9c2 => exact rfl); (case w9c3 => exact rfl); (case w9c4 => exact rfl); k_whole; intro g' L' h' tk' cells' FG' F' N' Y' B' X' T' l1; k_cells Y'; (try simp only [List.cons_append, List.nil_append] at N'); (try dsimp only); (try k_lift B'); (try k_fold)))
  (k_with "@use led" => first | k_asm | exact News.sw1 (by k_asm) | exact News.sw2 (by k_asm) | exact News.sw3 (by k_asm) | exact News.sw4 (by k_asm) | exact News.sw5 (by k_asm) | exact News.sw6 (by k_asm) | exact News.sw7 (by k_asm) | exact News.sw8 (by k_asm) | exact News.sw9 (by k_asm) | exact News.sw10 (by k_asm) | exact News.sw11 (by k_asm) | exact News.sw12 (by k_asm) | exact News.sw13 (by k_asm) | exact News.sw14 (by k_asm) | exact News.sw15 (by k_asm) | exact News.sw16 (by k_asm) | exact News.sw17 (by k_asm) | exact News.sw18 (by k_asm) | exact News.sw19 (by k_asm) | exact News.sw20 (by k_asm) | exact News.sw21 (by k_asm) | exact News.sw22 (by k_asm) | exact News.sw23 (by k_asm) | exact News.sw24 (by k_asm) | exact News.sw25 (by k_asm) | exact News.sw26 (by k_asm))
  (k_with "k_all" => assumption)
  (k_with "@use pre 1" => first | assumption | omega | k_mem | k_all | rfl)
  (k_with "@use pre" => ((repeat' (first | (with_reducible refine And.intro ?_ ?_) | fail)); all_goals (walk_at "use pre 1")))
  (k_with "k_mem" => assumption)
  (k_with "@eval Call" => ((with_reducible show wpAny _ _ (eval (Expr.Call (Expr.Name _ _) _ [] _) _) _ _ _); k_dflt (refine Call_ ?_)))
  (k_with "@end led" => first | k_asm | exact News.d1 (by k_asm) | exact News.d2 (by k_asm) | exact News.d3 (by k_asm) | exact News.d4 (by k_asm) | exact News.d5 (by k_asm) | exact News.d6 (by k_asm) | exact News.d7 (by k_asm) | exact News.d8 (by k_asm) | exact News.d9 (by k_asm) | exact News.d10 (by k_asm) | exact News.d11 (by k_asm) | exact News.d12 (by k_asm))
  (k_with "@pyIter str" => k_extra "pyIter str")
  (k_with "@pyIter ref" => k_extra "pyIter ref")
  (k_with "@end led1" => first | k_asm | exact News.h1 (by k_asm) | exact News.h2 (by k_asm) | exact News.h3 (by k_asm) | exact News.h4 (by k_asm) | exact News.h5 (by k_asm) | exact News.h6 (by k_asm) | exact News.h7 (by k_asm) | exact News.h8 (by k_asm) | exact News.h9 (by k_asm))
  (k_with "@eval Name" => (k_here; k_dflt (first | (refine' nameX_L ?w9F ?w9v ?_ ?w9a ?w9b; (case w9F => k_asm); (case w9a => rfl); (case w9b => rfl); (case w9v => rfl); k_whole) | (refine' nameX_K ?w9F ?w9X ?w9T ?w9e ?_ ?w9a ?w9b; (case w9F => k_asm); (case w9X => k_asm); (case w9T => k_asm); (case w9a => rfl); (case w9b => rfl); (case w9e => k_is); k_whole) | (refine' nameX_B ?w9F ?w9X ?w9T ?w9e ?w9v ?w9n ?_ ?w9a ?w9b; (case w9F => k_asm); (case w9X => k_asm); (case w9T => k_asm); (case w9a => rfl); (case w9b => rfl); (case w9e => k_is); (case w9v => boot_fast); (case w9n => decide); k_whole))))
  (k_with "k_ne" => first | assumption | exact Nat.ne_of_gt (by assumption) | exact Nat.ne_of_lt (by assumption) | exact ne_p1 (by with_reducible assumption) | exact ne_p2 (by with_reducible assumption) | exact ne_p3 (by with_reducible assumption) | exact ne_p4 (by with_reducible assumption) | exact ne_p5 (by with_reducible assumption) | exact ne_p6 (by with_reducible assumption) | exact ne_p7 (by with_reducible assumption) | exact ne_p8 (by with_reducible assumption) | exact ne_q1 (by with_reducible assumption) | exact ne_q2 (by with_reducible assumption) | exact ne_q3 (by with_reducible assumption) | exact ne_q4 (by with_reducible assumption) | exact ne_q5 (by with_reducible assumption) | exact ne_q6 (by with_reducible assumption) | exact ne_q7 (by with_reducible assumption) | exact ne_q8 (by with_reducible assumption))
  trivial
theorem words_26002 : True := by
  (k_with "@my strs" => first | assumption | exact str_nil | (refine str_cons ?_; walk_at "my strs"))
  (k_with "@compareOp In" => (k_here; (with_reducible show wpAny _ _ (compareOp CmpOp.In (Value.str _ _) (Value.ref _)) _ _ _); k_dflt (refine' in_strs ?w9sN ?w9sm ?w9sv ?_; (case w9sN => k_asm); (case w9sm => k_mem); (case w9sv => walk_at "my strs"))))
  (k_with "@subscriptTail Name Constant str int" => (k_here; (with_reducible show wpAny _ _ (subscriptTail _ _ (Value.str _ _) (Value.int 0 _)) _ _ _); k_dflt (refine' item_op ?w9i0 ?_ ?w9i1 ?w9i2; (case w9i0 => assumption); (case w9i1 => with_unfolding_all rfl); (case w9i2 => (intro _; with_unfolding_all rfl)))))
  trivial
theorem c_ranks (w : World) {led : Led} {op : Str} {tk : Tok} {v1 v2 : Value} {r1 r2 : Option Int} (hp : OpOk op ∧ RVal v1 r1 ∧ RVal v2 r2) :
    Ctr w 447 1 led [.str op tk, v1, v2] (fun r led' => led' = led ∧ r = .bool (ranksF op r1 r2)) := by
  obtain ⟨ho, R1, R2⟩ := hp
  unfold Ctr
  k_fill
  intro mean mg mb dp un gd cn cs aa ccd cl outer A₀ base h₀ L m s Q E B F X N T hk hdp hun hret
  refine wpAny_call ?_
  rcases r1 with _ | i1
  · have R1 : v1 = .none := R1
    subst R1
    k_dflt (walk_at "my enter")
    k_steps
    all_goals exact fin hret (by k_asm) (by walk_at "end led") ⟨rfl, rfl⟩
  · obtain ⟨t1, rfl⟩ := R1
    rcases r2 with _ | i2
    · have R2 : v2 = .none := R2
      subst R2
      k_dflt (walk_at "my enter")
      k_steps
      all_goals exact fin hret (by k_asm) (by walk_at "end led") ⟨rfl, rfl⟩
    · obtain ⟨t2, rfl⟩ := R2
      k_dflt (walk_at "my enter")
      k_steps
      all_goals exact fin hret (by k_asm) (by walk_at "end led") ⟨rfl, congrArg Value.bool (by simp only [ranksF, Bool.false_eq_true, if_true, if_false, *])⟩

end
section
theorem words_27001 : True := by
  k_with_none
  (k_with "@my enter" => (refine' code_def ?w9k1 ?w9k2 ?w9k3 ?w9k4 ?w9k5 ?w9kA ?w9kF ?w9kK ?w9k6 ?w9k7 ?w9k8 ?w9k9 ?w9kB ?_ ?w9c2 ?w9c3 ?w9c4 ?w9c5; (case w9kA => exact rfl); (case w9kF => exact rfl); (case w9kK => first | exact rfl | assumption); (case w9k1 => k_asm); (case w9k2 => k_asm); (case w9k3 => k_asm); (case w9k4 => k_asm); (case w9k5 => k_asm); (case w9k6 => k_is); (case w9k7 => k_is); (case w9k8 => ktr_room); (case w9k9 => first | exact BindsTo.of_eq rfl | exact binds_K (by k_in) rfl (by k_is) rfl rfl rfl); (case w9c5 => decide); (case w9kB => exact locs rfl); (case w9c2 => exact rfl); (case w9c3 => exact rfl); (case w9c4 => exact rfl); k_whole; intro g' L' h' FG' F' N' B' X' T'; (try dsimp only); (try k_lift B'); (try k_fold)))
  (k_with "@my enterC" => (refine' code_defC ?w9k1 ?w9k2 ?w9k3 ?w9k4 ?w9k5 ?w9kA ?w9kF ?w9kK ?w9k6 ?w9k7 ?w9k8 ?w9k9 ?w9kB ?w9kD ?_ ?w9c2 ?w9c3 ?w9c4; (case w9kA => exact rfl); (case w9kF => exact rfl); (case w9kK => first | exact rfl | assumption); (case w9k1 => k_asm); (case w9k2 => k_asm); (case w9k3 => k_asm); (case w9k4 => k_asm); (case w9k5 => k_asm); (case w9k6 => k_is); (case w9k7 => k_is); (case w9k8 => ktr_room); (case w9k9 => exact BindsTo.of_eq rfl); (case w9kB => exact rfl); (case w9kD => decide +kernel); (case w9c2 => exact rfl); (case w9c3 => exact rfl); (case w9c4 => exact rfl); k_whole; intro g' L' h' tk' cells' FG' F' N' Y' B' X' T' l1; k_cells Y'; (try simp only [List.cons_append, List.nil_append] at N'); (try dsimp only); (try k_lift B'); (try k_fold)))
  (k_with "@use led" => first | k_asm | exact News.sw1 (by k_asm) | exact News.sw2 (by k_asm) | exact News.sw3 (by k_asm) | exact News.sw4 (by k_asm) | exact News.sw5 (by k_asm) | exact News.sw6 (by k_asm) | exact News.sw7 (by k_asm) | exact News.sw8 (by k_asm) | exact News.sw9 (by k_asm) | exact News.sw10 (by k_asm) | exact News.sw11 (by k_asm) | exact News.sw12 (by k_asm) | exact News.sw13 (by k_asm) | exact News.sw14 (by k_asm) | exact News.sw15 (by k_asm) | exact News.sw16 (by k_asm) | exact News.sw17 (by k_asm) | exact News.sw18 (by k_asm) | exact News.sw19 (by k_asm) | exact News.sw20 (by k_asm) | exact News.sw21 (by k_asm) | exact News.sw22 (by k_asm) | exact News.sw23 (by k_asm) | exact News.sw24 (by k_asm) | exact News.sw25 (by k_asm) | exact News.sw26 (by k_asm))
  (k_with "k_all" => assumption)
  (k_with "@use pre 1" => first | assumption | omega | k_mem | k_all | rfl)
  (k_with "@use pre" => ((repeat' (first | (with_reducible refine And.intro ?_ ?_) | fail)); all_goals (walk_at "use pre 1")))
  (k_with "k_mem" => assumption)
  (k_with "@eval Call" => ((with_reducible show wpAny _ _ (eval (Expr.Call (Expr.Name _ _) _ [] _) _) _ _ _); k_dflt (refine Call_ ?_)))
  (k_with "@end led" => first | k_asm | exact News.d1 (by k_asm) | exact News.d2 (by k_asm) | exact News.d3 (by k_asm) | exact News.d4 (by k_asm) | exact News.d5 (by k_asm) | exact News.d6 (by k_asm) | exact News.d7 (by k_asm) | exact News.d8 (by k_asm) | exact News.d9 (by k_asm) | exact News.d10 (by k_asm) | exact News.d11 (by k_asm) | exact News.d12 (by k_asm))
  (k_with "@pyIter str" => k_extra "pyIter str")
  (k_with "@pyIter ref" => k_extra "pyIter ref")
  (k_with "@end led1" => first | k_asm | exact News.h1 (by k_asm) | exact News.h2 (by k_asm) | exact News.h3 (by k_asm) | exact News.h4 (by k_asm) | exact News.h5 (by k_asm) | exact News.h6 (by k_asm) | exact News.h7 (by k_asm) | exact News.h8 (by k_asm) | exact News.h9 (by k_asm))
  (k_with "@eval Name" => (k_here; k_dflt (first | (refine' nameX_L ?w9F ?w9v ?_ ?w9a ?w9b; (case w9F => k_asm); (case w9a => rfl); (case w9b => rfl); (case w9v => rfl); k_whole) | (refine' nameX_K ?w9F ?w9X ?w9T ?w9e ?_ ?w9a ?w9b; (case w9F => k_asm); (case w9X => k_asm); (case w9T => k_asm); (case w9a => rfl); (case w9b => rfl); (case w9e => k_is); k_whole) | (refine' nameX_B ?w9F ?w9X ?w9T ?w9e ?w9v ?w9n ?_ ?w9a ?w9b; (case w9F => k_asm); (case w9X => k_asm); (case w9T => k_asm); (case w9a => rfl); (case w9b => rfl); (case w9e => k_is); (case w9v => boot_fast); (case w9n => decide); k_whole))))
  (k_with "k_ne" => first | assumption | exact Nat.ne_of_gt (by assumption) | exact Nat.ne_of_lt (by assumption) | exact ne_p1 (by with_reducible assumption) | exact ne_p2 (by with_reducible assumption) | exact ne_p3 (by with_reducible assumption) | exact ne_p4 (by with_reducible assumption) | exact ne_p5 (by with_reducible assumption) | exact ne_p6 (by with_reducible assumption) | exact ne_p7 (by with_reducible assumption) | exact ne_p8 (by with_reducible assumption) | exact ne_q1 (by with_reducible assumption) | exact ne_q2 (by with_reducible assumption) | exact ne_q3 (by with_reducible assumption) | exact ne_q4 (by with_reducible assumption) | exact ne_q5 (by with_reducible assumption) | exact ne_q6 (by with_reducible assumption) | exact ne_q7 (by with_reducible assumption) | exact ne_q8 (by with_reducible assumption))
  trivial
def inEq (op : Str) : Bool := [Str.ofString "=", Str.ofString "!="].any (fun x => x == op)
def plainF (op : Str) (P1 : PV) (b1 : Bool) (r1 : Option Int) (P2 : PV) (b2 : Bool) (r2 : Option Int) : Bool :=
  if inEq op && (P1.isB || P2.isB) then (b1 == b2) == (op == Str.ofString "=")
  else if inEq op && (P1.isS && P2.isS) then decide (P1 = P2) == (op == Str.ofString "=")
  else ranksF op r1 r2
theorem PVal.cons {led : Led} {q : Addr × Obj} {v : Value} {P : PV} (V : PVal led v P) : PVal (q :: led) v P := V.mono fun _ h => .tail _ h
section
variable {op : Str} {P P2 : PV} {b b2 : Bool} {r r2 : Option Int}
theorem pl1 (h : inEq op = true) (h1 : P.isB = true) : ((b == b2) == (op == Str.ofString "=")) = plainF op P b r P2 b2 r2 := by rw [plainF, h, h1]; rfl
theorem pl2 (h : inEq op = true) (h1 : P.isB = false) (h2 : P2.isB = true) : ((b == b2) == (op == Str.ofString "=")) = plainF op P b r P2 b2 r2 := by rw [plainF, h, h1, h2]; rfl
theorem pl3 (h : inEq op = true) (h1 : P.isB = false) (h2 : P2.isB = false) (h3 : P.isS = true) (h4 : P2.isS = true) : (decide (P = P2) == (op == Str.ofString "=")) = plainF op P b r P2 b2 r2 := by rw [plainF, h, h1, h2, h3, h4]; rfl
theorem pl4 (h : inEq op = true) (h1 : P.isB = false) (h2 : P2.isB = false) (h3 : P.isS = false) : ranksF op r r2 = plainF op P b r P2 b2 r2 := by rw [plainF, h, h1, h2, h3]; rfl
theorem pl5 (h : inEq op = true) (h1 : P.isB = false) (h2 : P2.isB = false) (h3 : P.isS = true) (h4 : P2.isS = false) : ranksF op r r2 = plainF op P b r P2 b2 r2 := by rw [plainF, h, h1, h2, h3, h4]; rfl
theorem pl6 (h : inEq op = false) : ranksF op r r2 = plainF op P b r P2 b2 r2 := by rw [plainF, h]; rfl
end
section
theorem words_27002 : True := by
  (k_with "@my numv" => first | assumption | exact NumV.cons (by assumption) | exact NumV.cons (NumV.cons (by assumption)))
  (k_with "@subscriptTail" => (k_here; (with_reducible show wpAny _ _ (subscriptTail _ _ (Value.ref _) (Value.int 0 _)) _ _ _); k_dflt (refine' item_num0 ?w9nF ?w9nX ?w9nN ?w9nV ?_ ?w9ns; (case w9nF => k_asm); (case w9nX => k_asm); (case w9nN => k_asm); (case w9nV => walk_at "my numv"); (case w9ns => with_unfolding_all rfl))))
  (k_with "@subscriptTail" => (k_here; (with_reducible show wpAny _ _ (subscriptTail _ _ (Value.ref _) (Value.int 1 _)) _ _ _); k_dflt (refine' item_num1 ?w9nF ?w9nX ?w9nN ?w9nV ?_ ?w9ns; (case w9nF => k_asm); (case w9nX => k_asm); (case w9nN => k_asm); (case w9nV => walk_at "my numv"); (case w9ns => with_unfolding_all rfl))))
  (k_with "@subscriptTail" => (k_here; (with_reducible show wpAny _ _ (subscriptTail _ _ (Value.ref _) (Value.int _ _)) _ _ _); k_dflt (refine item_tupleT (News.isTup (by k_asm) (by k_mem)) (by decide) (by decide) rfl rfl ?_)))
  (k_with "@call builtin:isinstance" => (k_here; (with_reducible show wpAny _ _ (call (Value.builtin "isinstance") [Value.ref _, Value.type "tuple"]) _ _ _); k_dflt (refine' isi_num_tuple ?w9nF ?w9nX ?w9nN ?w9nV ?_; (case w9nF => k_asm); (case w9nX => k_asm); (case w9nN => k_asm); (case w9nV => walk_at "my numv"))))
  (k_with "@call builtin:isinstance" => (k_here; (with_reducible show wpAny _ _ (call (Value.builtin "isinstance") [Value.ref _, Value.type "bool"]) _ _ _); k_dflt (refine' isi_num_bool ?w9nF ?w9nX ?w9nN ?w9nV ?_; (case w9nF => k_asm); (case w9nX => k_asm); (case w9nN => k_asm); (case w9nV => walk_at "my numv"))))
  (k_with "@call builtin:isinstance" => (k_here; (with_reducible show wpAny _ _ (call (Value.builtin "isinstance") [Value.ref _, Value.type "str"]) _ _ _); k_dflt (refine' isi_num_str ?w9nF ?w9nX ?w9nN ?w9nV ?_; (case w9nF => k_asm); (case w9nX => k_asm); (case w9nN => k_asm); (case w9nV => walk_at "my numv"))))
  (k_with "@my strs" => first | assumption | exact str_nil | (refine str_cons ?_; walk_at "my strs"))
  (k_with "@compareOp In" => (k_here; (with_reducible show wpAny _ _ (compareOp CmpOp.In (Value.str _ _) (Value.ref _)) _ _ _); k_dflt (refine' in_strs ?w9sN ?w9sm ?w9sv ?_; (case w9sN => k_asm); (case w9sm => k_mem); (case w9sv => walk_at "my strs"))))
  (k_with "@subscriptTail Name Constant str int" => (k_here; (with_reducible show wpAny _ _ (subscriptTail _ _ (Value.str _ _) (Value.int 0 _)) _ _ _); k_dflt (refine' item_op ?w9i0 ?_ ?w9i1 ?w9i2; (case w9i0 => assumption); (case w9i1 => with_unfolding_all rfl); (case w9i2 => (intro _; with_unfolding_all rfl)))))
  trivial

theorem words_27003 : True := by
  (k_with "@my pv" => first | assumption | exact PVal.cons (by assumption))
  (k_with "@call builtin:isinstance" => (k_here; (with_reducible show wpAny _ _ (call (Value.builtin "isinstance") [_, Value.type "bool"]) _ _ _); k_dflt (refine' isi_pvB ?w9iF ?w9iX ?w9iN ?w9iV ?_; (case w9iF => k_asm); (case w9iX => k_asm); (case w9iN => k_asm); (case w9iV => walk_at "my pv")); intro tk9))
  (k_with "@call builtin:isinstance" => (k_here; (with_reducible show wpAny _ _ (call (Value.builtin "isinstance") [_, Value.type "str"]) _ _ _); k_dflt (refine' isi_pvS ?w9iF ?w9iX ?w9iN ?w9iV ?_; (case w9iF => k_asm); (case w9iX => k_asm); (case w9iN => k_asm); (case w9iV => walk_at "my pv")); intro tk9))
  (k_with "@compareOp Eq" => (k_here; (with_reducible show wpAny _ _ (compareOp CmpOp.Eq _ _) _ _ _); k_dflt (refine' eq_pv ?w9eV ?w9eW ?w9eh ?w9ei ?_; (case w9eV => with_reducible assumption); (case w9eW => with_reducible assumption); (case w9eh => with_reducible assumption); (case w9ei => with_reducible assumption))))
  (k_with "@pl eq" => first | exact pl6 (by assumption) | exact pl1 (by assumption) (by assumption) | exact pl2 (by assumption) (by assumption) (by assumption) | exact pl3 (by assumption) (by assumption) (by assumption) (by assumption) (by assumption) | exact pl4 (by assumption) (by assumption) (by assumption) (by assumption) | exact pl5 (by assumption) (by assumption) (by assumption) (by assumption) (by assumption))
  (k_with "@call ref" => (k_here; (with_reducible show wpAny _ _ (call (Value.ref 447) _) _ _ _); k_dflt (refine' Ctr.useA ?w9uN ?w9uB ?w9uF ?w9uX ?w9uT ?w9uK ?w9uD ?w9uU (c_ranks _ ?w9uP) ?_; (case w9uN => walk_at "use led"); (case w9uB => k_asm); (case w9uF => k_asm); (case w9uX => k_asm); (case w9uT => k_asm); (case w9uK => first | exact rfl | assumption); (case w9uD => ktr_room); (case w9uU => ktr_units); (case w9uP => exact ⟨by assumption, by assumption, by assumption⟩)); intro h9 tk9 F9 N9; (try k_sweep); (try k_fold)))
  trivial
theorem c_plain (w : World) {led : Led} {op : Str} {tk : Tok} {q1 q2 : Addr} {v1 v2 rv1 rv2 : Value} {b1 b2 : Bool} {P1 P2 : PV} {r1 r2 : Option Int} (hp : OpOk op ∧ ((q1, tupO [v1, .bool b1, rv1]) ∈ led ∧ PVal led v1 P1 ∧ RVal rv1 r1) ∧ ((q2, tupO [v2, .bool b2, rv2]) ∈ led ∧ PVal led v2 P2 ∧ RVal rv2 r2)) :
    Ctr w 454 2 led [.str op tk, .ref q1, .ref q2] (fun r led' => led' = led ∧ r = .bool (plainF op P1 b1 r1 P2 b2 r2)) := by
  obtain ⟨ho, ⟨hm1, V1, R1⟩, hm2, V2, R2⟩ := hp
  unfold Ctr
  k_fill
  intro mean mg mb dp un gd cn cs a ccd cl outer A₀ base h₀ L m s Q E B F X N T hk hdp hun hret
  refine wpAny_call ?_
  k_dflt (walk_at "my enter")
  k_steps
  all_goals exact fin hret (by k_asm) (by walk_at "end led") ⟨rfl, congrArg Value.bool (by walk_at "pl eq")⟩
end
theorem words_27004 : True := by
  k_with_none
  (k_with "@my enter" => (refine' code_def ?w9k1 ?w9k2 ?w9k3 ?w9k4 ?w9k5 ?w9kA ?w9kF ?w9kK ?w9k6 ?w9k7 ?w9k8 ?w9k9 ?w9kB ?_ ?w9c2 ?w9c3 ?w9c4 ?w9c5; (case w9kA => exact rfl); (case w9kF => exact rfl); (case w9kK => first | exact rfl | assumption); (case w9k1 => k_asm); (case w9k2 => k_asm); (case w9k3 => k_asm); (case w9k4 => k_asm); (case w9k5 => k_asm); (case w9k6 => k_is); (case w9k7 => k_is); (case w9k8 => ktr_room); (case w9k9 => first | exact BindsTo.of_eq rfl | exact binds_K (by k_in) rfl (by k_is) rfl rfl rfl); (case w9c5 => decide); (case w9kB => exact locs rfl); (case w9c2 => exact rfl); (case w9c3 => exact rfl); (case w9c4 => exact rfl); k_whole; intro g' L' h' FG' F' N' B' X' T'; (try dsimp only); (try k_lift B'); (try k_fold)))
  (k_with "@my enterC" => (refine' code_defC ?w9k1 ?w9k2 ?w9k3 ?w9k4 ?w9k5 ?w9kA ?w9kF ?w9kK ?w9k6 ?w9k7 ?w9k8 ?w9k9 ?w9kB ?w9kD ?_ ?w9c2 ?w9c3 ?w9c4; (case w9kA => exact rfl); (case w9kF => exact rfl); (case w9kK => first | exact rfl | assumption); (case w9k1 => k_asm); (case w9k2 => k_asm); (case w9k3 => k_asm); (case w9k4 => k_asm); (case w9k5 => k_asm); (case w9k6 => k_is); (case w9k7 => k_is); (case w9k8 => ktr_room); (case w9k9 => exact BindsTo.of_eq rfl); (case w9kB => exact rfl); (case w9kD => decide +kernel); (case w9c2 => exact rfl); (case w9c3 => exact rfl); (case w9c4 => exact rfl); k_whole; intro g' L' h' tk' cells' FG' F' N' Y' B' X' T' l1; k_cells Y'; (try simp only [List.cons_append, List.nil_append] at N'); (try dsimp only); (try k_lift B'); (try k_fold)))
  (k_with "@use led" => first | k_asm | exact News.sw1 (by k_asm) | exact News.sw2 (by k_asm) | exact News.sw3 (by k_asm) | exact News.sw4 (by k_asm) | exact News.sw5 (by k_asm) | exact News.sw6 (by k_asm) | exact News.sw7 (by k_asm) | exact News.sw8 (by k_asm) | exact News.sw9 (by k_asm) | exact News.sw10 (by k_asm) | exact News.sw11 (by k_asm) | exact News.sw12 (by k_asm) | exact News.sw13 (by k_asm) | exact News.sw14 (by k_asm) | exact News.sw15 (by k_asm) | exact News.sw16 (by k_asm) | exact News.sw17 (by k_asm) | exact News.sw18 (by k_asm) | exact News.sw19 (by k_asm) | exact News.sw20 (by k_asm) | exact News.sw21 (by k_asm) | exact News.sw22 (by k_asm) | exact News.sw23 (by k_asm) | exact News.sw24 (by k_asm) | exact News.sw25 (by k_asm) | exact News.sw26 (by k_asm))
  (k_with "k_all" => assumption)
  (k_with "@use pre 1" => first | assumption | omega | k_mem | k_all | rfl)
  (k_with "@use pre" => ((repeat' (first | (with_reducible refine And.intro ?_ ?_) | fail)); all_goals (walk_at "use pre 1")))
  (k_with "k_mem" => assumption)
  (k_with "@eval Call" => ((with_reducible show wpAny _ _ (eval (Expr.Call (Expr.Name _ _) _ [] _) _) _ _ _); k_dflt (refine Call_ ?_)))
  (k_with "@end led" => first | k_asm | exact News.d1 (by k_asm) | exact News.d2 (by k_asm) | exact News.d3 (by k_asm) | exact News.d4 (by k_asm) | exact News.d5 (by k_asm) | exact News.d6 (by k_asm) | exact News.d7 (by k_asm) | exact News.d8 (by k_asm) | exact News.d9 (by k_asm) | exact News.d10 (by k_asm) | exact News.d11 (by k_asm) | exact News.d12 (by k_asm))
  (k_with "@pyIter str" => k_extra "pyIter str")
  (k_with "@pyIter ref" => k_extra "pyIter ref")
  (k_with "@end led1" => first | k_asm | exact News.h1 (by k_asm) | exact News.h2 (by k_asm) | exact News.h3 (by k_asm) | exact News.h4 (by k_asm) | exact News.h5 (by k_asm) | exact News.h6 (by k_asm) | exact News.h7 (by k_asm) | exact News.h8 (by k_asm) | exact News.h9 (by k_asm))
  (k_with "@eval Name" => (k_here; k_dflt (first | (refine' nameX_L ?w9F ?w9v ?_ ?w9a ?w9b; (case w9F => k_asm); (case w9a => rfl); (case w9b => rfl); (case w9v => rfl); k_whole) | (refine' nameX_K ?w9F ?w9X ?w9T ?w9e ?_ ?w9a ?w9b; (case w9F => k_asm); (case w9X => k_asm); (case w9T => k_asm); (case w9a => rfl); (case w9b => rfl); (case w9e => k_is); k_whole) | (refine' nameX_B ?w9F ?w9X ?w9T ?w9e ?w9v ?w9n ?_ ?w9a ?w9b; (case w9F => k_asm); (case w9X => k_asm); (case w9T => k_asm); (case w9a => rfl); (case w9b => rfl); (case w9e => k_is); (case w9v => boot_fast); (case w9n => decide); k_whole))))
  (k_with "k_ne" => first | assumption | exact Nat.ne_of_gt (by assumption) | exact Nat.ne_of_lt (by assumption) | exact ne_p1 (by with_reducible assumption) | exact ne_p2 (by with_reducible assumption) | exact ne_p3 (by with_reducible assumption) | exact ne_p4 (by with_reducible assumption) | exact ne_p5 (by with_reducible assumption) | exact ne_p6 (by with_reducible assumption) | exact ne_p7 (by with_reducible assumption) | exact ne_p8 (by with_reducible assumption) | exact ne_q1 (by with_reducible assumption) | exact ne_q2 (by with_reducible assumption) | exact ne_q3 (by with_reducible assumption) | exact ne_q4 (by with_reducible assumption) | exact ne_q5 (by with_reducible assumption) | exact ne_q6 (by with_reducible assumption) | exact ne_q7 (by with_reducible assumption) | exact ne_q8 (by with_reducible assumption))
  trivial

end
section
theorem words_28001 : True := by
  k_with_none
  (k_with "@my enter" => (refine' code_def ?w9k1 ?w9k2 ?w9k3 ?w9k4 ?w9k5 ?w9kA ?w9kF ?w9kK ?w9k6 ?w9k7 ?w9k8 ?w9k9 ?w9kB ?_ ?w9c2 ?w9c3 ?w9c4 ?w9c5; (case w9kA => exact rfl); (case w9kF => exact rfl); (case w9kK => first | exact rfl | assumption); (case w9k1 => k_asm); (case w9k2 => k_asm); (case w9k3 => k_asm); (case w9k4 => k_asm); (case w9k5 => k_asm); (case w9k6 => k_is); (case w9k7 => k_is); (case w9k8 => ktr_room); (case w9k9 => first | exact BindsTo.of_eq rfl | exact binds_K (by k_in) rfl (by k_is) rfl rfl rfl); (case w9c5 => decide); (case w9kB => exact locs rfl); (case w9c2 => exact rfl); (case w9c3 => exact rfl); (case w9c4 => exact rfl); k_whole; intro g' L' h' FG' F' N' B' X' T'; (try dsimp only); (try k_lift B'); (try k_fold)))
  (k_with "@my enterC" => (refine' code_defC ?w9k1 ?w9k2 ?w9k3 ?w9k4 ?w9k5 ?w9kA ?w9kF ?w9kK ?w9k6 ?w9k7 ?w9k8 ?w9k9 ?w9kB ?w9kD ?_ ?w9c2 ?w9c3 ?w9c4; (case w9kA => exact rfl); (case w9kF => exact rfl); (case w9kK => first | exact rfl | assumption); (case w9k1 => k_asm); (case w9k2 => k_asm); (case w9k3 => k_asm); (case w9k4 => k_asm); (case w9k5 => k_asm); (case w9k6 => k_is); (case w9k7 => k_is); (case w9k8 => ktr_room); (case w9k9 => exact BindsTo.of_eq rfl); (case w9kB => exact rfl); (case w9kD => decide +kernel); (case w9c2 => exact rfl); (case w9c3 => exact rfl); (case w9c4 => exact rfl); k_whole; intro g' L' h' tk' cells' FG' F' N' Y' B' X' T' l1; k_cells Y'; (try simp only [List.cons_append, List.nil_append] at N'); (try dsimp only); (try k_lift B'); (try k_fold)))
  (k_with "@use led" => first | k_asm | exact News.sw1 (by k_asm) | exact News.sw2 (by k_asm) | exact News.sw3 (by k_asm) | exact News.sw4 (by k_asm) | exact News.sw5 (by k_asm) | exact News.sw6 (by k_asm) | exact News.sw7 (by k_asm) | exact News.sw8 (by k_asm) | exact News.sw9 (by k_asm) | exact News.sw10 (by k_asm) | exact News.sw11 (by k_asm) | exact News.sw12 (by k_asm) | exact News.sw13 (by k_asm) | exact News.sw14 (by k_asm) | exact News.sw15 (by k_asm) | exact News.sw16 (by k_asm) | exact News.sw17 (by k_asm) | exact News.sw18 (by k_asm) | exact News.sw19 (by k_asm) | exact News.sw20 (by k_asm) | exact News.sw21 (by k_asm) | exact News.sw22 (by k_asm) | exact News.sw23 (by k_asm) | exact News.sw24 (by k_asm) | exact News.sw25 (by k_asm) | exact News.sw26 (by k_asm))
  (k_with "k_all" => assumption)
  (k_with "@use pre 1" => first | assumption | omega | k_mem | k_all | rfl)
  (k_with "@use pre" => ((repeat' (first | (with_reducible refine And.intro ?_ ?_) | fail)); all_goals (walk_at "use pre 1")))
  (k_with "k_mem" => assumption)
  (k_with "@eval Call" => ((with_reducible show wpAny _ _ (eval (Expr.Call (Expr.Name _ _) _ [] _) _) _ _ _); k_dflt (refine Call_ ?_)))
  (k_with "@end led" => first | k_asm | exact News.d1 (by k_asm) | exact News.d2 (by k_asm) | exact News.d3 (by k_asm) | exact News.d4 (by k_asm) | exact News.d5 (by k_asm) | exact News.d6 (by k_asm) | exact News.d7 (by k_asm) | exact News.d8 (by k_asm) | exact News.d9 (by k_asm) | exact News.d10 (by k_asm) | exact News.d11 (by k_asm) | exact News.d12 (by k_asm))
  (k_with "@pyIter str" => k_extra "pyIter str")
  (k_with "@pyIter ref" => k_extra "pyIter ref")
  (k_with "@end led1" => first | k_asm | exact News.h1 (by k_asm) | exact News.h2 (by k_asm) | exact News.h3 (by k_asm) | exact News.h4 (by k_asm) | exact News.h5 (by k_asm) | exact News.h6 (by k_asm) | exact News.h7 (by k_asm) | exact News.h8 (by k_asm) | exact News.h9 (by k_asm))
  (k_with "@eval Name" => (k_here; k_dflt (first | (refine' nameX_L ?w9F ?w9v ?_ ?w9a ?w9b; (case w9F => k_asm); (case w9a => rfl); (case w9b => rfl); (case w9v => rfl); k_whole) | (refine' nameX_K ?w9F ?w9X ?w9T ?w9e ?_ ?w9a ?w9b; (case w9F => k_asm); (case w9X => k_asm); (case w9T => k_asm); (case w9a => rfl); (case w9b => rfl); (case w9e => k_is); k_whole) | (refine' nameX_B ?w9F ?w9X ?w9T ?w9e ?w9v ?w9n ?_ ?w9a ?w9b; (case w9F => k_asm); (case w9X => k_asm); (case w9T => k_asm); (case w9a => rfl); (case w9b => rfl); (case w9e => k_is); (case w9v => boot_fast); (case w9n => decide); k_whole))))
  (k_with "k_ne" => first | assumption | exact Nat.ne_of_gt (by assumption) | exact Nat.ne_of_lt (by assumption) | exact ne_p1 (by with_reducible assumption) | exact ne_p2 (by with_reducible assumption) | exact ne_p3 (by with_reducible assumption) | exact ne_p4 (by with_reducible assumption) | exact ne_p5 (by with_reducible assumption) | exact ne_p6 (by with_reducible assumption) | exact ne_p7 (by with_reducible assumption) | exact ne_p8 (by with_reducible assumption) | exact ne_q1 (by with_reducible assumption) | exact ne_q2 (by with_reducible assumption) | exact ne_q3 (by with_reducible assumption) | exact ne_q4 (by with_reducible assumption) | exact ne_q5 (by with_reducible assumption) | exact ne_q6 (by with_reducible assumption) | exact ne_q7 (by with_reducible assumption) | exact ne_q8 (by with_reducible assumption))
  trivial
def ops6 : List Str := [(Str.ofString "="), (Str.ofString "!="), (Str.ofString "<"), (Str.ofString "<="), (Str.ofString ">"), (Str.ofString ">=")]
def turnF (op : Str) : Str := if op = Str.ofString "<" then Str.ofString ">" else if op = Str.ofString ">" then Str.ofString "<" else if op = Str.ofString "<=" then Str.ofString ">=" else if op = Str.ofString ">=" then Str.ofString "<=" else op
theorem c_turn0 (w : World) {led : Led} {tk : Tok} (_ : True) : Ctr w 461 1 led [.str (Str.ofString "=") tk] (fun r led' => led' = led ∧ ∃ t, r = .str (Str.ofString "=") t) := by
  unfold Ctr
  k_fill
  intro mean mg mb dp un gd cn cs a ccd cl outer A₀ base h₀ L m s Q E B F X N T hk hdp hun hret
  refine wpAny_call ?_
  k_dflt (walk_at "my enter")
  k_steps
  all_goals exact fin hret (by k_asm) (by walk_at "end led") ⟨rfl, _, rfl⟩
theorem c_turn1 (w : World) {led : Led} {tk : Tok} (_ : True) : Ctr w 461 1 led [.str (Str.ofString "!=") tk] (fun r led' => led' = led ∧ ∃ t, r = .str (Str.ofString "!=") t) := by
  unfold Ctr
  k_fill
  intro mean mg mb dp un gd cn cs a ccd cl outer A₀ base h₀ L m s Q E B F X N T hk hdp hun hret
  refine wpAny_call ?_
  k_dflt (walk_at "my enter")
  k_steps
  all_goals exact fin hret (by k_asm) (by walk_at "end led") ⟨rfl, _, rfl⟩
theorem c_turn2 (w : World) {led : Led} {tk : Tok} (_ : True) : Ctr w 461 1 led [.str (Str.ofString "<") tk] (fun r led' => led' = led ∧ ∃ t, r = .str (Str.ofString ">") t) := by
  unfold Ctr
  k_fill
  intro mean mg mb dp un gd cn cs a ccd cl outer A₀ base h₀ L m s Q E B F X N T hk hdp hun hret
  refine wpAny_call ?_
  k_dflt (walk_at "my enter")
  k_steps
  all_goals exact fin hret (by k_asm) (by walk_at "end led") ⟨rfl, _, rfl⟩
theorem c_turn3 (w : World) {led : Led} {tk : Tok} (_ : True) : Ctr w 461 1 led [.str (Str.ofString "<=") tk] (fun r led' => led' = led ∧ ∃ t, r = .str (Str.ofString ">=") t) := by
  unfold Ctr
  k_fill
  intro mean mg mb dp un gd cn cs a ccd cl outer A₀ base h₀ L m s Q E B F X N T hk hdp hun hret
  refine wpAny_call ?_
  k_dflt (walk_at "my enter")
  k_steps
  all_goals exact fin hret (by k_asm) (by walk_at "end led") ⟨rfl, _, rfl⟩
theorem c_turn4 (w : World) {led : Led} {tk : Tok} (_ : True) : Ctr w 461 1 led [.str (Str.ofString ">") tk] (fun r led' => led' = led ∧ ∃ t, r = .str (Str.ofString "<") t) := by
  unfold Ctr
  k_fill
  intro mean mg mb dp un gd cn cs a ccd cl outer A₀ base h₀ L m s Q E B F X N T hk hdp hun hret
  refine wpAny_call ?_
  k_dflt (walk_at "my enter")
  k_steps
  all_goals exact fin hret (by k_asm) (by walk_at "end led") ⟨rfl, _, rfl⟩
theorem c_turn5 (w : World) {led : Led} {tk : Tok} (_ : True) : Ctr w 461 1 led [.str (Str.ofString ">=") tk] (fun r led' => led' = led ∧ ∃ t, r = .str (Str.ofString "<=") t) := by
  unfold Ctr
  k_fill
  intro mean mg mb dp un gd cn cs a ccd cl outer A₀ base h₀ L m s Q E B F X N T hk hdp hun hret
  refine wpAny_call ?_
  k_dflt (walk_at "my enter")
  k_steps
  all_goals exact fin hret (by k_asm) (by walk_at "end led") ⟨rfl, _, rfl⟩
theorem c_turned (w : World) {led : Led} {op : Str} {tk : Tok} (h : op ∈ ops6) : Ctr w 461 1 led [.str op tk] (fun r led' => led' = led ∧ ∃ t, r = .str (turnF op) t) := by
  simp only [ops6, List.mem_cons, List.not_mem_nil, or_false] at h
  rcases h with rfl | rfl | rfl | rfl | rfl | rfl
  · exact (by decide : turnF (Str.ofString "=") = (Str.ofString "=")) ▸ c_turn0 w trivial
  · exact (by decide : turnF (Str.ofString "!=") = (Str.ofString "!=")) ▸ c_turn1 w trivial
  · exact (by decide : turnF (Str.ofString "<") = (Str.ofString ">")) ▸ c_turn2 w trivial
  · exact (by decide : turnF (Str.ofString "<=") = (Str.ofString ">=")) ▸ c_turn3 w trivial
  · exact (by decide : turnF (Str.ofString ">") = (Str.ofString "<")) ▸ c_turn4 w trivial
  · exact (by decide : turnF (Str.ofString ">=") = (Str.ofString "<=")) ▸ c_turn5 w trivial

end
section
theorem words_29001 : True := by
  k_with_none
  (k_with "@my enter" => (refine' code_def ?w9k1 ?w9k2 ?w9k3 ?w9k4 ?w9k5 ?w9kA ?w9kF ?w9kK ?w9k6 ?w9k7 ?w9k8 ?w9k9 ?w9kB ?_ ?w9c2 ?w9c3 ?w9c4 ?w9c5; (case w9kA => exact rfl); (case w9kF => exact rfl); (case w9kK => first | exact rfl | assumption); (case w9k1 => k_asm); (case w9k2 => k_asm); (case w9k3 => k_asm); (case w9k4 => k_asm); (case w9k5 => k_asm); (case w9k6 => k_is); (case w9k7 => k_is); (case w9k8 => ktr_room); (case w9k9 => first | exact BindsTo.of_eq rfl | exact binds_K (by k_in) rfl (by k_is) rfl rfl rfl); (case w9c5 => decide); (case w9kB => exact locs rfl); (case w9c2 => exact rfl); (case w9c3 => exact rfl); (case w9c4 => exact rfl); k_whole; intro g' L' h' FG' F' N' B' X' T'; (try dsimp only); (try k_lift B'); (try k_fold)))
  (k_with "@my enterC" => (refine' code_defC ?w9k1 ?w9k2 ?w9k3 ?w9k4 ?w9k5 ?w9kA ?w9kF ?w9kK ?w9k6 ?w9k7 ?w9k8 ?w9k9 ?w9kB ?w9kD ?_ ?w9c2 ?w9c3 ?w9c4; (case w9kA => exact rfl); (case w9kF => exact rfl); (case w9kK => first | exact rfl | assumption); (case w9k1 => k_asm); (case w9k2 => k_asm); (case w9k3 => k_asm); (case w9k4 => k_asm); (case w9k5 => k_asm); (case w9k6 => k_is); (case w9k7 => k_is); (case w9k8 => ktr_room); (case w9k9 => exact BindsTo.of_eq rfl); (case w9kB => exact rfl); (case w9kD => decide +kernel); (case w9c2 => exact rfl); (case w9c3 => exact rfl); (case w9c4 => exact rfl); k_whole; intro g' L' h' tk' cells' FG' F' N' Y' B' X' T' l1; k_cells Y'; (try simp only [List.cons_append, List.nil_append] at N'); (try dsimp only); (try k_lift B'); (try k_fold)))
  (k_with "@use led" => first | k_asm | exact News.sw1 (by k_asm) | exact News.sw2 (by k_asm) | exact News.sw3 (by k_asm) | exact News.sw4 (by k_asm) | exact News.sw5 (by k_asm) | exact News.sw6 (by k_asm) | exact News.sw7 (by k_asm) | exact News.sw8 (by k_asm) | exact News.sw9 (by k_asm) | exact News.sw10 (by k_asm) | exact News.sw11 (by k_asm) | exact News.sw12 (by k_asm) | exact News.sw13 (by k_asm) | exact News.sw14 (by k_asm) | exact News.sw15 (by k_asm) | exact News.sw16 (by k_asm) | exact News.sw17 (by k_asm) | exact News.sw18 (by k_asm) | exact News.sw19 (by k_asm) | exact News.sw20 (by k_asm) | exact News.sw21 (by k_asm) | exact News.sw22 (by k_asm) | exact News.sw23 (by k_asm) | exact News.sw24 (by k_asm) | exact News.sw25 (by k_asm) | exact News.sw26 (by k_asm))
  (k_with "k_all" => assumption)
  (k_with "@use pre 1" => first | assumption | omega | k_mem | k_all | rfl)
  (k_with "@use pre" => ((repeat' (first | (with_reducible refine And.intro ?_ ?_) | fail)); all_goals (walk_at "use pre 1")))
  (k_with "k_mem" => assumption)
  (k_with "@eval Call" => ((with_reducible show wpAny _ _ (eval (Expr.Call (Expr.Name _ _) _ [] _) _) _ _ _); k_dflt (refine Call_ ?_)))
  (k_with "@end led" => first | k_asm | exact News.d1 (by k_asm) | exact News.d2 (by k_asm) | exact News.d3 (by k_asm) | exact News.d4 (by k_asm) | exact News.d5 (by k_asm) | exact News.d6 (by k_asm) | exact News.d7 (by k_asm) | exact News.d8 (by k_asm) | exact News.d9 (by k_asm) | exact News.d10 (by k_asm) | exact News.d11 (by k_asm) | exact News.d12 (by k_asm))
  (k_with "@pyIter str" => k_extra "pyIter str")
  (k_with "@pyIter ref" => k_extra "pyIter ref")
  (k_with "@end led1" => first | k_asm | exact News.h1 (by k_asm) | exact News.h2 (by k_asm) | exact News.h3 (by k_asm) | exact News.h4 (by k_asm) | exact News.h5 (by k_asm) | exact News.h6 (by k_asm) | exact News.h7 (by k_asm) | exact News.h8 (by k_asm) | exact News.h9 (by k_asm))
  (k_with "@eval Name" => (k_here; k_dflt (first | (refine' nameX_L ?w9F ?w9v ?_ ?w9a ?w9b; (case w9F => k_asm); (case w9a => rfl); (case w9b => rfl); (case w9v => rfl); k_whole) | (refine' nameX_K ?w9F ?w9X ?w9T ?w9e ?_ ?w9a ?w9b; (case w9F => k_asm); (case w9X => k_asm); (case w9T => k_asm); (case w9a => rfl); (case w9b => rfl); (case w9e => k_is); k_whole) | (refine' nameX_B ?w9F ?w9X ?w9T ?w9e ?w9v ?w9n ?_ ?w9a ?w9b; (case w9F => k_asm); (case w9X => k_asm); (case w9T => k_asm); (case w9a => rfl); (case w9b => rfl); (case w9e => k_is); (case w9v => boot_fast); (case w9n => decide); k_whole))))
  (k_with "k_ne" => first | assumption | exact Nat.ne_of_gt (by assumption) | exact Nat.ne_of_lt (by assumption) | exact ne_p1 (by with_reducible assumption) | exact ne_p2 (by with_reducible assumption) | exact ne_p3 (by with_reducible assumption) | exact ne_p4 (by with_reducible assumption) | exact ne_p5 (by with_reducible assumption) | exact ne_p6 (by with_reducible assumption) | exact ne_p7 (by with_reducible assumption) | exact ne_p8 (by with_reducible assumption) | exact ne_q1 (by with_reducible assumption) | exact ne_q2 (by with_reducible assumption) | exact ne_q3 (by with_reducible assumption) | exact ne_q4 (by with_reducible assumption) | exact ne_q5 (by with_reducible assumption) | exact ne_q6 (by with_reducible assumption) | exact ne_q7 (by with_reducible assumption) | exact ne_q8 (by with_reducible assumption))
  trivial
theorem ne_of_all {l : Led} {d : Addr} (h : ∀ p ∈ l, p.1 < d) : ∀ p ∈ l, p.1 ≠ d := fun p hp => Nat.ne_of_lt (h p hp)
section
theorem words_29002 : True := by
  (k_with "k_all" => exact ne_of_all (by assumption))
  trivial
theorem c_tree (w : World) {led : Led} (_ : True) : Ctr w 394 3 led [] (fun r led' => led' = led ∧ ∃ x, r = .ref x) := by
  unfold Ctr
  k_fill
  intro mean mg mb dp un gd cn cs a ccd cl outer A₀ base h₀ L m s Q E B F X N T hk hdp hun hret
  refine' call_cls ?k1 ?k2 ?k3 ?k4 ?k5 ?k6 ?_
  case k1 => k_asm
  case k2 => k_asm
  case k3 => k_asm
  case k4 => k_is
  case k5 => k_is
  case k6 => k_is
  k_whole
  intro x' d' h' F' N' l1 l2
  k_lt2 l2
  k_dflt (walk_at "my enter")
  k_steps
  all_goals exact fin hret (by k_asm) (by walk_at "end led") ⟨rfl, _, rfl⟩
end
theorem words_29003 : True := by
  k_with_none
  (k_with "@my enter" => (refine' code_def ?w9k1 ?w9k2 ?w9k3 ?w9k4 ?w9k5 ?w9kA ?w9kF ?w9kK ?w9k6 ?w9k7 ?w9k8 ?w9k9 ?w9kB ?_ ?w9c2 ?w9c3 ?w9c4 ?w9c5; (case w9kA => exact rfl); (case w9kF => exact rfl); (case w9kK => first | exact rfl | assumption); (case w9k1 => k_asm); (case w9k2 => k_asm); (case w9k3 => k_asm); (case w9k4 => k_asm); (case w9k5 => k_asm); (case w9k6 => k_is); (case w9k7 => k_is); (case w9k8 => ktr_room); (case w9k9 => first | exact BindsTo.of_eq rfl | exact binds_K (by k_in) rfl (by k_is) rfl rfl rfl); (case w9c5 => decide); (case w9kB => exact locs rfl); (case w9c2 => exact rfl); (case w9c3 => exact rfl); (case w9c4 => exact rfl); k_whole; intro g' L' h' FG' F' N' B' X' T'; (try dsimp only); (try k_lift B'); (try k_fold)))
  (k_with "@my enterC" => (refine' code_defC ?w9k1 ?w9k2 ?w9k3 ?w9k4 ?w9k5 ?w9kA ?w9kF ?w9kK ?w9k6 ?w9k7 ?w9k8 ?w9k9 ?w9kB ?w9kD ?_ ?w9c2 ?w9c3 ?w9c4; (case w9kA => exact rfl); (case w9kF => exact rfl); (case w9kK => first | exact rfl | assumption); (case w9k1 => k_asm); (case w9k2 => k_asm); (case w9k3 => k_asm); (case w9k4 => k_asm); (case w9k5 => k_asm); (case w9k6 => k_is); (case w9k7 => k_is); (case w9k8 => ktr_room); (case w9k9 => exact BindsTo.of_eq rfl); (case w9kB => exact rfl); (case w9kD => decide +kernel); (case w9c2 => exact rfl); (case w9c3 => exact rfl); (case w9c4 => exact rfl); k_whole; intro g' L' h' tk' cells' FG' F' N' Y' B' X' T' l1; k_cells Y'; (try simp only [List.cons_append, List.nil_append] at N'); (try dsimp only); (try k_lift B'); (try k_fold)))
  (k_with "@use led" => first | k_asm | exact News.sw1 (by k_asm) | exact News.sw2 (by k_asm) | exact News.sw3 (by k_asm) | exact News.sw4 (by k_asm) | exact News.sw5 (by k_asm) | exact News.sw6 (by k_asm) | exact News.sw7 (by k_asm) | exact News.sw8 (by k_asm) | exact News.sw9 (by k_asm) | exact News.sw10 (by k_asm) | exact News.sw11 (by k_asm) | exact News.sw12 (by k_asm) | exact News.sw13 (by k_asm) | exact News.sw14 (by k_asm) | exact News.sw15 (by k_asm) | exact News.sw16 (by k_asm) | exact News.sw17 (by k_asm) | exact News.sw18 (by k_asm) | exact News.sw19 (by k_asm) | exact News.sw20 (by k_asm) | exact News.sw21 (by k_asm) | exact News.sw22 (by k_asm) | exact News.sw23 (by k_asm) | exact News.sw24 (by k_asm) | exact News.sw25 (by k_asm) | exact News.sw26 (by k_asm))
  (k_with "k_all" => assumption)
  (k_with "@use pre 1" => first | assumption | omega | k_mem | k_all | rfl)
  (k_with "@use pre" => ((repeat' (first | (with_reducible refine And.intro ?_ ?_) | fail)); all_goals (walk_at "use pre 1")))
  (k_with "k_mem" => assumption)
  (k_with "@eval Call" => ((with_reducible show wpAny _ _ (eval (Expr.Call (Expr.Name _ _) _ [] _) _) _ _ _); k_dflt (refine Call_ ?_)))
  (k_with "@end led" => first | k_asm | exact News.d1 (by k_asm) | exact News.d2 (by k_asm) | exact News.d3 (by k_asm) | exact News.d4 (by k_asm) | exact News.d5 (by k_asm) | exact News.d6 (by k_asm) | exact News.d7 (by k_asm) | exact News.d8 (by k_asm) | exact News.d9 (by k_asm) | exact News.d10 (by k_asm) | exact News.d11 (by k_asm) | exact News.d12 (by k_asm))
  (k_with "@pyIter str" => k_extra "pyIter str")
  (k_with "@pyIter ref" => k_extra "pyIter ref")
  (k_with "@end led1" => first | k_asm | exact News.h1 (by k_asm) | exact News.h2 (by k_asm) | exact News.h3 (by k_asm) | exact News.h4 (by k_asm) | exact News.h5 (by k_asm) | exact News.h6 (by k_asm) | exact News.h7 (by k_asm) | exact News.h8 (by k_asm) | exact News.h9 (by k_asm))
  (k_with "@eval Name" => (k_here; k_dflt (first | (refine' nameX_L ?w9F ?w9v ?_ ?w9a ?w9b; (case w9F => k_asm); (case w9a => rfl); (case w9b => rfl); (case w9v => rfl); k_whole) | (refine' nameX_K ?w9F ?w9X ?w9T ?w9e ?_ ?w9a ?w9b; (case w9F => k_asm); (case w9X => k_asm); (case w9T => k_asm); (case w9a => rfl); (case w9b => rfl); (case w9e => k_is); k_whole) | (refine' nameX_B ?w9F ?w9X ?w9T ?w9e ?w9v ?w9n ?_ ?w9a ?w9b; (case w9F => k_asm); (case w9X => k_asm); (case w9T => k_asm); (case w9a => rfl); (case w9b => rfl); (case w9e => k_is); (case w9v => boot_fast); (case w9n => decide); k_whole))))
  (k_with "k_ne" => first | assumption | exact Nat.ne_of_gt (by assumption) | exact Nat.ne_of_lt (by assumption) | exact ne_p1 (by with_reducible assumption) | exact ne_p2 (by with_reducible assumption) | exact ne_p3 (by with_reducible assumption) | exact ne_p4 (by with_reducible assumption) | exact ne_p5 (by with_reducible assumption) | exact ne_p6 (by with_reducible assumption) | exact ne_p7 (by with_reducible assumption) | exact ne_p8 (by with_reducible assumption) | exact ne_q1 (by with_reducible assumption) | exact ne_q2 (by with_reducible assumption) | exact ne_q3 (by with_reducible assumption) | exact ne_q4 (by with_reducible assumption) | exact ne_q5 (by with_reducible assumption) | exact ne_q6 (by with_reducible assumption) | exact ne_q7 (by with_reducible assumption) | exact ne_q8 (by with_reducible assumption))
  trivial

end
section
theorem words_30001 : True := by
  k_with_none
  (k_with "@my enter" => (refine' code_def ?w9k1 ?w9k2 ?w9k3 ?w9k4 ?w9k5 ?w9kA ?w9kF ?w9kK ?w9k6 ?w9k7 ?w9k8 ?w9k9 ?w9kB ?_ ?w9c2 ?w9c3 ?w9c4 ?w9c5; (case w9kA => exact rfl); (case w9kF => exact rfl); (case w9kK => first | exact rfl | assumption); (case w9k1 => k_asm); (case w9k2 => k_asm); (case w9k3 => k_asm); (case w9k4 => k_asm); (case w9k5 => k_asm); (case w9k6 => k_is); (case w9k7 => k_is); (case w9k8 => ktr_room); (case w9k9 => first | exact BindsTo.of_eq rfl | exact binds_K (by k_in) rfl (by k_is) rfl rfl rfl); (case w9c5 => decide); (case w9kB => exact locs rfl); (case w9c2 => exact rfl); (case w9c3 => exact rfl); (case w9c4 => exact rfl); k_whole; intro g' L' h' FG' F' N' B' X' T'; (try dsimp only); (try k_lift B'); (try k_fold)))
  (k_with "@my enterC" => (refine' code_defC ?w9k1 ?w9k2 ?w9k3 ?w9k4 ?w9k5 ?w9kA ?w9kF ?w9kK ?w9k6 ?w9k7 ?w9k8 ?w9k9 ?w9kB ?w9kD ?_ ?w9c2 ?w9c3 ?w9c4; (case w9kA => exact rfl); (case w9kF => exact rfl); (case w9kK => first | exact rfl | assumption); (case w9k1 => k_asm); (case w9k2 => k_asm); (case w9k3 => k_asm); (case w9k4 => k_asm); (case w9k5 => k_asm); (case w9k6 => k_is); (case w9k7 => k_is); (case w9k8 => ktr_room); (case w9k9 => exact BindsTo.of_eq rfl); (case w9kB => exact rfl); (case w9kD => decide +kernel); (case w9c2 => exact rfl); (case w9c3 => exact rfl); (case w9c4 => exact rfl); k_whole; intro g' L' h' tk' cells' FG' F' N' Y' B' X' T' l1; k_cells Y'; (try simp only [List.cons_append, List.nil_append] at N'); (try dsimp only); (try k_lift B'); (try k_fold)))
  (k_with "@use led" => first | k_asm | exact News.sw1 (by k_asm) | exact News.sw2 (by k_asm) | exact News.sw3 (by k_asm) | exact News.sw4 (by k_asm) | exact News.sw5 (by k_asm) | exact News.sw6 (by k_asm) | exact News.sw7 (by k_asm) | exact News.sw8 (by k_asm) | exact News.sw9 (by k_asm) | exact News.sw10 (by k_asm) | exact News.sw11 (by k_asm) | exact News.sw12 (by k_asm) | exact News.sw13 (by k_asm) | exact News.sw14 (by k_asm) | exact News.sw15 (by k_asm) | exact News.sw16 (by k_asm) | exact News.sw17 (by k_asm) | exact News.sw18 (by k_asm) | exact News.sw19 (by k_asm) | exact News.sw20 (by k_asm) | exact News.sw21 (by k_asm) | exact News.sw22 (by k_asm) | exact News.sw23 (by k_asm) | exact News.sw24 (by k_asm) | exact News.sw25 (by k_asm) | exact News.sw26 (by k_asm))
  (k_with "k_all" => assumption)
  (k_with "@use pre 1" => first | assumption | omega | k_mem | k_all | rfl)
  (k_with "@use pre" => ((repeat' (first | (with_reducible refine And.intro ?_ ?_) | fail)); all_goals (walk_at "use pre 1")))
  (k_with "k_mem" => assumption)
  (k_with "@eval Call" => ((with_reducible show wpAny _ _ (eval (Expr.Call (Expr.Name _ _) _ [] _) _) _ _ _); k_dflt (refine Call_ ?_)))
  (k_with "@end led" => first | k_asm | exact News.d1 (by k_asm) | exact News.d2 (by k_asm) | exact News.d3 (by k_asm) | exact News.d4 (by k_asm) | exact News.d5 (by k_asm) | exact News.d6 (by k_asm) | exact News.d7 (by k_asm) | exact News.d8 (by k_asm) | exact News.d9 (by k_asm) | exact News.d10 (by k_asm) | exact News.d11 (by k_asm) | exact News.d12 (by k_asm))
  (k_with "@pyIter str" => k_extra "pyIter str")
  (k_with "@pyIter ref" => k_extra "pyIter ref")
  (k_with "@end led1" => first | k_asm | exact News.h1 (by k_asm) | exact News.h2 (by k_asm) | exact News.h3 (by k_asm) | exact News.h4 (by k_asm) | exact News.h5 (by k_asm) | exact News.h6 (by k_asm) | exact News.h7 (by k_asm) | exact News.h8 (by k_asm) | exact News.h9 (by k_asm))
  (k_with "@eval Name" => (k_here; k_dflt (first | (refine' nameX_L ?w9F ?w9v ?_ ?w9a ?w9b; (case w9F => k_asm); (case w9a => rfl); (case w9b => rfl); (case w9v => rfl); k_whole) | (refine' nameX_K ?w9F ?w9X ?w9T ?w9e ?_ ?w9a ?w9b; (case w9F => k_asm); (case w9X => k_asm); (case w9T => k_asm); (case w9a => rfl); (case w9b => rfl); (case w9e => k_is); k_whole) | (refine' nameX_B ?w9F ?w9X ?w9T ?w9e ?w9v ?w9n ?_ ?w9a ?w9b; (case w9F => k_asm); (case w9X => k_asm); (case w9T => k_asm); (case w9a => rfl); (case w9b => rfl); (case w9e => k_is); (case w9v => boot_fast); (case w9n => decide); k_whole))))
  (k_with "k_ne" => first | assumption | exact Nat.ne_of_gt (by assumption) | exact Nat.ne_of_lt (by assumption) | exact ne_p1 (by with_reducible assumption) | exact ne_p2 (by with_reducible assumption) | exact ne_p3 (by with_reducible assumption) | exact ne_p4 (by with_reducible assumption) | exact ne_p5 (by with_reducible assumption) | exact ne_p6 (by with_reducible assumption) | exact ne_p7 (by with_reducible assumption) | exact ne_p8 (by with_reducible assumption) | exact ne_q1 (by with_reducible assumption) | exact ne_q2 (by with_reducible assumption) | exact ne_q3 (by with_reducible assumption) | exact ne_q4 (by with_reducible assumption) | exact ne_q5 (by with_reducible assumption) | exact ne_q6 (by with_reducible assumption) | exact ne_q7 (by with_reducible assumption) | exact ne_q8 (by with_reducible assumption))
  trivial
def lawAll : Bool := ops6.all fun op => valMenu.all fun a => valMenu.all fun b =>
  (cplF op a.1 b.1 == plainF op a.1 (truthOf a.1) a.2 b.1 (truthOf b.1) b.2) && (cplF (turnF op) b.1 a.1 == plainF op a.1 (truthOf a.1) a.2 b.1 (truthOf b.1) b.2)
theorem lawAll_ok : lawAll = true := by decide +kernel
theorem law_pl {op : Str} {P1 P2 : PV} {r1 r2 : Option Int} (ho : op ∈ ops6) (h1 : (P1, r1) ∈ valMenu) (h2 : (P2, r2) ∈ valMenu) :
    cplF op P1 P2 = plainF op P1 (truthOf P1) r1 P2 (truthOf P2) r2 ∧ cplF (turnF op) P2 P1 = plainF op P1 (truthOf P1) r1 P2 (truthOf P2) r2 := by
  have h := List.all_eq_true.mp (List.all_eq_true.mp (List.all_eq_true.mp lawAll_ok op ho) _ h1) _ h2
  simpa [Bool.and_eq_true] using h
theorem val_ok : ∀ {P : PV} {rk : Option Int}, (P, rk) ∈ valMenu → P.okB = true := by
  have all : ∀ p ∈ valMenu, p.1.okB = true := by decide +kernel
  exact fun {P rk} h => all (P, rk) h
theorem op_ok : ∀ {op : Str}, op ∈ ops6 → OpOk op := by
  have all : ∀ op ∈ ops6, 0 < op.length ∧ op.length ≤ 2 := by decide +kernel
  exact fun {op} h => all op h
theorem turn_in : ∀ {op : Str}, op ∈ ops6 → turnF op ∈ ops6 := by
  have all : ∀ op ∈ ops6, turnF op ∈ ops6 := by decide +kernel
  exact fun {op} h => all op h
theorem ops_of {t1 t2 t3 t4 t5 t6 : Tok} {k : Nat} {r : Value} (h : [Value.str (Str.ofString "=") t1, .str (Str.ofString "!=") t2, .str (Str.ofString "<") t3, .str (Str.ofString "<=") t4, .str (Str.ofString ">") t5, .str (Str.ofString ">=") t6][k]? = some r) : ∃ op t, r = .str op t ∧ op ∈ ops6 := by
  have hm := List.mem_of_getElem? h
  simp only [List.mem_cons, List.not_mem_nil, or_false] at hm
  rcases hm with rfl | rfl | rfl | rfl | rfl | rfl
  all_goals exact ⟨_, _, rfl, by decide⟩
theorem Ctr.shrink {w : World} {f : Addr} {dep : Nat} {led : Led} {vs : List Value} {Post : Value → Led → Prop} {P : Value → Prop} (C : Ctr w f dep led vs Post) (h : ∀ r led', Post r led' → (∀ q ∈ led, q ∈ led') ∧ P r) : Ctr w f dep led vs (fun r led' => led' = led ∧ P r) := by
  unfold Ctr
  intro mean mg mb dp un gd cn cs a ccd cl outer A₀ base h₀ L m s Q E B F X N T hk hdp hun hret
  exact Ctr.use C B F X N T hk hdp hun fun r led' h' tk' p F' N' => hret r led h' tk' ⟨rfl, (h _ _ p).2⟩ F' (N'.perm (h _ _ p).1)
theorem c_cpl2 (w : World) {led : Led} {op : Str} {tk : Tok} {v1 v2 tr : Value} {P1 P2 : PV} (hp : (PVal led v1 P1 ∧ P1.okB = true) ∧ (PVal led v2 P2 ∧ P2.okB = true)) : Ctr w 170 6 led [.str op tk, v1, v2, tr] (fun r led' => led' = led ∧ r = .bool (cplF op P1 P2)) :=
  (c_cpl w hp).shrink fun _ _ h => h
theorem pval_cons {led : Led} {v : Value} {P : PV} {x : Addr × Obj} (V : PVal led v P) : PVal (x :: led) v P := V.mono fun _ h => .tail _ h
theorem sub_head {a b : Led} {x : Addr × Obj} (h : ∀ p ∈ x :: a, p ∈ b) : ∀ p ∈ a, p ∈ b := fun p hp => h p (.tail _ hp)
theorem neq_absurd {x y : Bool} (h : (x != y) = true) (e : x = y) : False := by subst e; cases x <;> cases h
theorem beq_of {x y : Bool} (e : x = y) : (x == y) = true := by subst e; cases x <;> rfl
def RightPost (bag : Addr) (n : Nat) (rest : Led) (r : Value) (led' : Led) : Prop :=
  r = .bool true ∧ ∃ a' b' ta' tb' rest', led' = (bag, bagO a' b' ta' tb' n) :: rest' ∧ (0 ≤ a' ∧ 0 ≤ b' ∧ b' < 2147483647) ∧ (∀ p ∈ rest, p ∈ rest') ∧ (∀ p ∈ rest', p.1 ≠ bag)
theorem fin_right {bag : Addr} {n : Nat} {rest big : Led} {a' b' : Int} {ta' tb' : Tok} {Q : Value → Shared → Prop} {s : Shared} {h₀ : Heap} {L : Addr} {m : Str → Option Value}
    (hret : ∀ (r : Value) (led' : Led) (h' : Heap) (tk' : Nat), RightPost bag n rest r led' → Fr h₀ L h' m → News h₀ L h' led' → Q r { s with heap := h', toks := tk' })
    {r : Value} {h' : Heap} {tk' : Nat} (F : Fr h₀ L h' m) (N : News h₀ L h' ((bag, bagO a' b' ta' tb' n) :: big)) (hr : r = .bool true) (hsub : ∀ p ∈ rest, p ∈ big) (hne : ∀ p ∈ big, p.1 ≠ bag) (ha : 0 ≤ a') (hb : 0 ≤ b') (hb1 : b' < 2147483647) : Q r { s with heap := h', toks := tk' } :=
  hret _ _ h' tk' ⟨hr, _, _, _, _, big, rfl, ⟨ha, hb, hb1⟩, hsub, hne⟩ F N
section
theorem words_30002 : True := by
  (k_with "k_all" => first | with_reducible assumption | ((with_reducible refine ne_consG (by with_reducible assumption) ?_); k_all))
  (k_with "@newTuple" => (k_here; (rename BagAt _ => hB9); k_dflt (refine' kup_newTuple ?w9tF ?w9tN ?_ ?w9tz; (case w9tF => k_asm); (case w9tN => k_asm); (case w9tz => kmk_size)); intro D' h' F' N' l1; (have hb := bag_lt hB9 l1 (by k_dflt k_mem)); clear l1; (try k_sweep)))
  (k_with "@newList" => (k_here; (rename BagAt _ => hB9); k_dflt (refine' newList_K ?w9tF ?w9tN ?_; (case w9tF => k_asm); (case w9tN => k_asm); k_whole); intro l' h' F' N' l1; (have hb := bag_lt hB9 l1 (by k_dflt k_mem)); clear l1; (try k_sweep)))
  trivial

theorem words_30003 : True := by
  (k_with "@call ref" => (k_here; (with_reducible show wpAny _ _ (call (Value.ref 412) _) _ _ _); k_dflt (refine' Ctr.usePick ?w9uN ?w9uB ?w9uF ?w9uX ?w9uT ?w9uK ?w9uD ?w9uU (c_pick _ ?w9uP) ?_; (case w9uN => walk_at "use led"); (case w9uB => k_asm); (case w9uF => k_asm); (case w9uX => k_asm); (case w9uT => k_asm); (case w9uK => first | exact rfl | assumption); (case w9uD => ktr_room); (case w9uU => ktr_units); (case w9uP => walk_at "use pre")); intro k9 t9 a9 b9 ta9 tb9 k1 k2 k3 k4 k5 h9 tk9 F9 N9; (try k_sweep); (try k_fold)))
  (k_with "@one pre" => (refine And.intro (by walk_at "use pre") (and3 (by k_mem) (by k_all) (by exact ⟨Nat.zero_lt_succ _, Nat.le_of_ble_eq_true rfl⟩))))
  trivial

theorem words_30004 : True := by
  (k_with "@call ref" => (k_here; (with_reducible show wpAny _ _ (call (Value.ref 419) _) _ _ _); k_dflt (refine' Ctr.useOps ?w9uN ?w9uB ?w9uF ?w9uX ?w9uT ?w9uK ?w9uD ?w9uU (c_one _ ?w9uP) ?w9hv ?_; (case w9uN => walk_at "use led"); (case w9uB => k_asm); (case w9uF => k_asm); (case w9uX => k_asm); (case w9uT => k_asm); (case w9uK => first | exact rfl | assumption); (case w9uD => ktr_room); (case w9uU => ktr_units); (case w9uP => walk_at "one pre"); (case w9hv => exact fun k9 r9 h9 => ops_of h9)); intro op9 t9 a9 b9 ta9 tb9 m9 k3 k4 k5 h9 tk9 F9 N9; (try k_sweep); (try k_fold)))
  (k_with "@call ref" => (k_here; (with_reducible show wpAny _ _ (call (Value.ref 440) _) _ _ _); k_dflt (refine' Ctr.useVal ?w9uN ?w9uB ?w9uF ?w9uX ?w9uT ?w9uK ?w9uD ?w9uU (c_value _ ?w9uP) ?_; (case w9uN => walk_at "use led"); (case w9uB => k_asm); (case w9uF => k_asm); (case w9uX => k_asm); (case w9uT => k_asm); (case w9uK => first | exact rfl | assumption); (case w9uD => ktr_room); (case w9uU => ktr_units); (case w9uP => walk_at "use pre")); intro a9 b9 ta9 tb9 rest9 k1 k2 k3 q9 v9 rv9 P9 rk9 m9 V9 R9 M9 S9 H9 h9 tk9 F9 N9; (try (have m8 := S9 _ (by assumption : (_, tupO [_, Value.bool _, _]) ∈ _))); (try (have V8 := PVal.mono (by assumption : PVal _ _ _) S9)); (try (have S8 := sub_trans (by assumption) S9)); (try k_sweep); (try k_fold)))
  (k_with "@my pv" => first | assumption | exact pval_cons (by assumption) | exact pval_cons (pval_cons (by assumption)) | exact pval_cons (pval_cons (pval_cons (by assumption))))
  (k_with "@my tm" => first | assumption | exact List.mem_cons_of_mem _ (by assumption) | exact List.mem_cons_of_mem _ (List.mem_cons_of_mem _ (by assumption)) | exact List.mem_cons_of_mem _ (List.mem_cons_of_mem _ (List.mem_cons_of_mem _ (by assumption))))
  (k_with "@call ref" => (k_here; (with_reducible show wpAny _ _ (call (Value.ref 170) _) _ _ _); k_dflt (refine' Ctr.useA ?w9uN ?w9uB ?w9uF ?w9uX ?w9uT ?w9uK ?w9uD ?w9uU (c_cpl2 _ ?w9uP) ?_; (case w9uN => k_asm); (case w9uB => k_asm); (case w9uF => k_asm); (case w9uX => k_asm); (case w9uT => k_asm); (case w9uK => first | exact rfl | assumption); (case w9uD => ktr_room); (case w9uU => ktr_units); (case w9uP => (refine' And.intro (And.intro ?w9v1 ?w9v2) (And.intro ?w9v3 ?w9v4); (case w9v1 => walk_at "my pv"); (case w9v3 => walk_at "my pv"); (case w9v2 => exact val_ok (by assumption)); (case w9v4 => exact val_ok (by assumption))))); intro h9 tk9 F9 N9; (try k_sweep); (try k_fold)))
  (k_with "@call ref" => (k_here; (with_reducible show wpAny _ _ (call (Value.ref 454) _) _ _ _); k_dflt (refine' Ctr.useA ?w9uN ?w9uB ?w9uF ?w9uX ?w9uT ?w9uK ?w9uD ?w9uU (c_plain _ ?w9uP) ?_; (case w9uN => k_asm); (case w9uB => k_asm); (case w9uF => k_asm); (case w9uX => k_asm); (case w9uT => k_asm); (case w9uK => first | exact rfl | assumption); (case w9uD => ktr_room); (case w9uU => ktr_units); (case w9uP => (refine' And.intro ?w9v0 (And.intro (And.intro ?w9v1 (And.intro ?w9v2 ?w9v3)) (And.intro ?w9v4 (And.intro ?w9v5 ?w9v6))); (case w9v0 => exact op_ok (by assumption)); (case w9v1 => walk_at "my tm"); (case w9v4 => walk_at "my tm"); (case w9v2 => walk_at "my pv"); (case w9v5 => walk_at "my pv"); (case w9v3 => assumption); (case w9v6 => assumption)))); intro h9 tk9 F9 N9; (try k_sweep); (try k_fold)))
  (k_with "@call ref" => (k_here; (with_reducible show wpAny _ _ (call (Value.ref 394) _) _ _ _); k_dflt (refine' Ctr.useD ?w9uN ?w9uB ?w9uF ?w9uX ?w9uT ?w9uK ?w9uD ?w9uU (c_tree _ ?w9uP) ?_; (case w9uN => k_asm); (case w9uB => k_asm); (case w9uF => k_asm); (case w9uX => k_asm); (case w9uT => k_asm); (case w9uK => first | exact rfl | assumption); (case w9uD => ktr_room); (case w9uU => ktr_units); (case w9uP => trivial)); intro x9 h9 tk9 F9 N9; (try k_sweep); (try k_fold)))
  (k_with "@call ref" => (k_here; (with_reducible show wpAny _ _ (call (Value.ref 461) _) _ _ _); k_dflt (refine' Ctr.useD ?w9uN ?w9uB ?w9uF ?w9uX ?w9uT ?w9uK ?w9uD ?w9uU (c_turned _ ?w9uP) ?_; (case w9uN => k_asm); (case w9uB => k_asm); (case w9uF => k_asm); (case w9uX => k_asm); (case w9uT => k_asm); (case w9uK => first | exact rfl | assumption); (case w9uD => ktr_room); (case w9uU => ktr_units); (case w9uP => assumption)); intro t9 h9 tk9 F9 N9; (try k_sweep); (try k_fold)))
  trivial
theorem c_plr (w : World) {rest : Led} {bag : Addr} {n : Nat} {a b : Int} {ta tb : Tok} (hp : (0 ≤ a ∧ 0 ≤ b ∧ b < 2147483647) ∧ (∀ p ∈ rest, p.1 ≠ bag)) :
    Ctr w 468 8 ((bag, bagO a b ta tb n) :: rest) [.ref bag] (RightPost bag n rest) := by
  obtain ⟨⟨ha, hb0, hb1⟩, hne⟩ := hp
  have hB := BagAt.mk (b := bag)
  unfold Ctr
  k_fill
  intro mean mg mb dp un gd cn cs aa ccd cl outer A₀ base h₀ L m s Q E B F X N T hk hdp hun hret
  refine wpAny_call ?_
  k_dflt (walk_at "my enter")
  k_steps
  · exact (neq_absurd (by assumption) (law_pl (by assumption) (by assumption) (by assumption)).1).elim
  · refine' fin_right hret ?z1 ?z2 ?z3 ?z4 ?z5 ?z6 ?z7 ?z8
    case z1 => k_asm
    case z2 => walk_at "use led"
    case z3 => exact congrArg Value.bool (beq_of (law_pl (by assumption) (by assumption) (by assumption)).2)
    case z4 => ((repeat' (first | (with_reducible refine sub_cons ?_) | fail)); first | assumption | exact sub_head (by assumption) | exact fun _ h => h)
    case z5 => k_all
    all_goals assumption
end
theorem words_30005 : True := by
  k_with_none
  (k_with "@my enter" => (refine' code_def ?w9k1 ?w9k2 ?w9k3 ?w9k4 ?w9k5 ?w9kA ?w9kF ?w9kK ?w9k6 ?w9k7 ?w9k8 ?w9k9 ?w9kB ?_ ?w9c2 ?w9c3 ?w9c4 ?w9c5; (case w9kA => exact rfl); (case w9kF => exact rfl); (case w9kK => first | exact rfl | assumption); (case w9k1 => k_asm); (case w9k2 => k_asm); (case w9k3 => k_asm); (case w9k4 => k_asm); (case w9k5 => k_asm); (case w9k6 => k_is); (case w9k7 => k_is); (case w9k8 => ktr_room); (case w9k9 => first | exact BindsTo.of_eq rfl | exact binds_K (by k_in) rfl (by k_is) rfl rfl rfl); (case w9c5 => decide); (case w9kB => exact locs rfl); (case w9c2 => exact rfl); (case w9c3 => exact rfl); (case w9c4 => exact rfl); k_whole; intro g' L' h' FG' F' N' B' X' T'; (try dsimp only); (try k_lift B'); (try k_fold)))
  (k_with "@my enterC" => (refine' code_defC ?w9k1 ?w9k2 ?w9k3 ?w9k4 ?w9k5 ?w9kA ?w9kF ?w9kK ?w9k6 ?w9k7 ?w9k8 ?w9k9 ?w9kB ?w9kD ?_ ?w9c2 ?w9c3 ?w9c4; (case w9kA => exact rfl); (case w9kF => exact rfl); (case w9kK => first | exact rfl | assumption); (case w9k1 => k_asm); (case w9k2 => k_asm); (case w9k3 => k_asm); (case w9k4 => k_asm); (case w9k5 => k_asm); (case w9k6 => k_is); (case w9k7 => k_is); (case w9k8 => ktr_room); (case w9k9 => exact BindsTo.of_eq rfl); (case w9kB => exact rfl); (case w9kD => decide +kernel); (case w9c2 => exact rfl); (case w9c3 => exact rfl); (case w9c4 => exact rfl); k_whole; intro g' L' h' tk' cells' FG' F' N' Y' B' X' T' l1; k_cells Y'; (try simp only [List.cons_append, List.nil_append] at N'); (try dsimp only); (try k_lift B'); (try k_fold)))
  (k_with "@use led" => first | k_asm | exact News.sw1 (by k_asm) | exact News.sw2 (by k_asm) | exact News.sw3 (by k_asm) | exact News.sw4 (by k_asm) | exact News.sw5 (by k_asm) | exact News.sw6 (by k_asm) | exact News.sw7 (by k_asm) | exact News.sw8 (by k_asm) | exact News.sw9 (by k_asm) | exact News.sw10 (by k_asm) | exact News.sw11 (by k_asm) | exact News.sw12 (by k_asm) | exact News.sw13 (by k_asm) | exact News.sw14 (by k_asm) | exact News.sw15 (by k_asm) | exact News.sw16 (by k_asm) | exact News.sw17 (by k_asm) | exact News.sw18 (by k_asm) | exact News.sw19 (by k_asm) | exact News.sw20 (by k_asm) | exact News.sw21 (by k_asm) | exact News.sw22 (by k_asm) | exact News.sw23 (by k_asm) | exact News.sw24 (by k_asm) | exact News.sw25 (by k_asm) | exact News.sw26 (by k_asm))
  (k_with "k_all" => assumption)
  (k_with "@use pre 1" => first | assumption | omega | k_mem | k_all | rfl)
  (k_with "@use pre" => ((repeat' (first | (with_reducible refine And.intro ?_ ?_) | fail)); all_goals (walk_at "use pre 1")))
  (k_with "k_mem" => assumption)
  (k_with "@eval Call" => ((with_reducible show wpAny _ _ (eval (Expr.Call (Expr.Name _ _) _ [] _) _) _ _ _); k_dflt (refine Call_ ?_)))
  (k_with "@end led" => first | k_asm | exact News.d1 (by k_asm) | exact News.d2 (by k_asm) | exact News.d3 (by k_asm) | exact News.d4 (by k_asm) | exact News.d5 (by k_asm) | exact News.d6 (by k_asm) | exact News.d7 (by k_asm) | exact News.d8 (by k_asm) | exact News.d9 (by k_asm) | exact News.d10 (by k_asm) | exact News.d11 (by k_asm) | exact News.d12 (by k_asm))
  (k_with "@pyIter str" => k_extra "pyIter str")
  (k_with "@pyIter ref" => k_extra "pyIter ref")
  (k_with "@end led1" => first | k_asm | exact News.h1 (by k_asm) | exact News.h2 (by k_asm) | exact News.h3 (by k_asm) | exact News.h4 (by k_asm) | exact News.h5 (by k_asm) | exact News.h6 (by k_asm) | exact News.h7 (by k_asm) | exact News.h8 (by k_asm) | exact News.h9 (by k_asm))
  (k_with "@eval Name" => (k_here; k_dflt (first | (refine' nameX_L ?w9F ?w9v ?_ ?w9a ?w9b; (case w9F => k_asm); (case w9a => rfl); (case w9b => rfl); (case w9v => rfl); k_whole) | (refine' nameX_K ?w9F ?w9X ?w9T ?w9e ?_ ?w9a ?w9b; (case w9F => k_asm); (case w9X => k_asm); (case w9T => k_asm); (case w9a => rfl); (case w9b => rfl); (case w9e => k_is); k_whole) | (refine' nameX_B ?w9F ?w9X ?w9T ?w9e ?w9v ?w9n ?_ ?w9a ?w9b; (case w9F => k_asm); (case w9X => k_asm); (case w9T => k_asm); (case w9a => rfl); (case w9b => rfl); (case w9e => k_is); (case w9v => boot_fast); (case w9n => decide); k_whole))))
  (k_with "k_ne" => first | assumption | exact Nat.ne_of_gt (by assumption) | exact Nat.ne_of_lt (by assumption) | exact ne_p1 (by with_reducible assumption) | exact ne_p2 (by with_reducible assumption) | exact ne_p3 (by with_reducible assumption) | exact ne_p4 (by with_reducible assumption) | exact ne_p5 (by with_reducible assumption) | exact ne_p6 (by with_reducible assumption) | exact ne_p7 (by with_reducible assumption) | exact ne_p8 (by with_reducible assumption) | exact ne_q1 (by with_reducible assumption) | exact ne_q2 (by with_reducible assumption) | exact ne_q3 (by with_reducible assumption) | exact ne_q4 (by with_reducible assumption) | exact ne_q5 (by with_reducible assumption) | exact ne_q6 (by with_reducible assumption) | exact ne_q7 (by with_reducible assumption) | exact ne_q8 (by with_reducible assumption))
  trivial

end
section
theorem words_31001 : True := by
  k_with_none
  (k_with "@my enter" => (refine' code_def ?w9k1 ?w9k2 ?w9k3 ?w9k4 ?w9k5 ?w9kA ?w9kF ?w9kK ?w9k6 ?w9k7 ?w9k8 ?w9k9 ?w9kB ?_ ?w9c2 ?w9c3 ?w9c4 ?w9c5; (case w9kA => exact rfl); (case w9kF => exact rfl); (case w9kK => first | exact rfl | assumption); (case w9k1 => k_asm); (case w9k2 => k_asm); (case w9k3 => k_asm); (case w9k4 => k_asm); (case w9k5 => k_asm); (case w9k6 => k_is); (case w9k7 => k_is); (case w9k8 => ktr_room); (case w9k9 => first | exact BindsTo.of_eq rfl | exact binds_K (by k_in) rfl (by k_is) rfl rfl rfl); (case w9c5 => decide); (case w9kB => exact locs rfl); (case w9c2 => exact rfl); (case w9c3 => exact rfl); (case w9c4 => exact rfl); k_whole; intro g' L' h' FG' F' N' B' X' T'; (try dsimp only); (try k_lift B'); (try k_fold)))
  (k_with "@my enterC" => (refine' code_defC ?w9k1 ?w9k2 ?w9k3 ?w9k4 ?w9k5 ?w9kA ?w9kF ?w9kK ?w9k6 ?w9k7 ?w9k8 ?w9k9 ?w9kB ?w9kD ?_ ?w9c2 ?w9c3 ?w9c4; (case w9kA => exact rfl); (case w9kF => exact rfl); (case w9kK => first | exact rfl | assumption); (case w9k1 => k_asm); (case w9k2 => k_asm); (case w9k3 => k_asm); (case w9k4 => k_asm); (case w9k5 => k_asm); (case w9k6 => k_is); (case w9k7 => k_is); (case w9k8 => ktr_room); (case w9k9 => exact BindsTo.of_eq rfl); (case w9kB => exact rfl); (case w9kD => decide +kernel); (case w9c2 => exact rfl); (case w9c3 => exact rfl); (case w9c4 => exact rfl); k_whole; intro g' L' h' tk' cells' FG' F' N' Y' B' X' T' l1; k_cells Y'; (try simp only [List.cons_append, List.nil_append] at N'); (try dsimp only); (try k_lift B'); (try k_fold)))
  (k_with "@use led" => first | k_asm | exact News.sw1 (by k_asm) | exact News.sw2 (by k_asm) | exact News.sw3 (by k_asm) | exact News.sw4 (by k_asm) | exact News.sw5 (by k_asm) | exact News.sw6 (by k_asm) | exact News.sw7 (by k_asm) | exact News.sw8 (by k_asm) | exact News.sw9 (by k_asm) | exact News.sw10 (by k_asm) | exact News.sw11 (by k_asm) | exact News.sw12 (by k_asm) | exact News.sw13 (by k_asm) | exact News.sw14 (by k_asm) | exact News.sw15 (by k_asm) | exact News.sw16 (by k_asm) | exact News.sw17 (by k_asm) | exact News.sw18 (by k_asm) | exact News.sw19 (by k_asm) | exact News.sw20 (by k_asm) | exact News.sw21 (by k_asm) | exact News.sw22 (by k_asm) | exact News.sw23 (by k_asm) | exact News.sw24 (by k_asm) | exact News.sw25 (by k_asm) | exact News.sw26 (by k_asm))
  (k_with "k_all" => assumption)
  (k_with "@use pre 1" => first | assumption | omega | k_mem | k_all | rfl)
  (k_with "@use pre" => ((repeat' (first | (with_reducible refine And.intro ?_ ?_) | fail)); all_goals (walk_at "use pre 1")))
  (k_with "k_mem" => assumption)
  (k_with "@eval Call" => ((with_reducible show wpAny _ _ (eval (Expr.Call (Expr.Name _ _) _ [] _) _) _ _ _); k_dflt (refine Call_ ?_)))
  (k_with "@end led" => first | k_asm | exact News.d1 (by k_asm) | exact News.d2 (by k_asm) | exact News.d3 (by k_asm) | exact News.d4 (by k_asm) | exact News.d5 (by k_asm) | exact News.d6 (by k_asm) | exact News.d7 (by k_asm) | exact News.d8 (by k_asm) | exact News.d9 (by k_asm) | exact News.d10 (by k_asm) | exact News.d11 (by k_asm) | exact News.d12 (by k_asm))
  (k_with "@pyIter str" => k_extra "pyIter str")
  (k_with "@pyIter ref" => k_extra "pyIter ref")
  (k_with "@end led1" => first | k_asm | exact News.h1 (by k_asm) | exact News.h2 (by k_asm) | exact News.h3 (by k_asm) | exact News.h4 (by k_asm) | exact News.h5 (by k_asm) | exact News.h6 (by k_asm) | exact News.h7 (by k_asm) | exact News.h8 (by k_asm) | exact News.h9 (by k_asm))
  (k_with "@eval Name" => (k_here; k_dflt (first | (refine' nameX_L ?w9F ?w9v ?_ ?w9a ?w9b; (case w9F => k_asm); (case w9a => rfl); (case w9b => rfl); (case w9v => rfl); k_whole) | (refine' nameX_K ?w9F ?w9X ?w9T ?w9e ?_ ?w9a ?w9b; (case w9F => k_asm); (case w9X => k_asm); (case w9T => k_asm); (case w9a => rfl); (case w9b => rfl); (case w9e => k_is); k_whole) | (refine' nameX_B ?w9F ?w9X ?w9T ?w9e ?w9v ?w9n ?_ ?w9a ?w9b; (case w9F => k_asm); (case w9X => k_asm); (case w9T => k_asm); (case w9a => rfl); (case w9b => rfl); (case w9e => k_is); (case w9v => boot_fast); (case w9n => decide); k_whole))))
  (k_with "k_ne" => first | assumption | exact Nat.ne_of_gt (by assumption) | exact Nat.ne_of_lt (by assumption) | exact ne_p1 (by with_reducible assumption) | exact ne_p2 (by with_reducible assumption) | exact ne_p3 (by with_reducible assumption) | exact ne_p4 (by with_reducible assumption) | exact ne_p5 (by with_reducible assumption) | exact ne_p6 (by with_reducible assumption) | exact ne_p7 (by with_reducible assumption) | exact ne_p8 (by with_reducible assumption) | exact ne_q1 (by with_reducible assumption) | exact ne_q2 (by with_reducible assumption) | exact ne_q3 (by with_reducible assumption) | exact ne_q4 (by with_reducible assumption) | exact ne_q5 (by with_reducible assumption) | exact ne_q6 (by with_reducible assumption) | exact ne_q7 (by with_reducible assumption) | exact ne_q8 (by with_reducible assumption))
  trivial
section
variable {prog : Program} {w : World} {A : Around} {E : Value → Shared → Prop} {s : Shared} {env : Env} {h₀ : Heap} {x y2 : Str} {body : List Stmt} {Q : Flow → Shared → Prop} {m₀ : Str → Option Value} {news : Led}
theorem my_iter_list {l : Addr} {vs : List Value} {n : Nat} (J : Nat → Prop) (hh : A.handled = none) (hm : (l, listOf vs.toArray n) ∈ news) (F : Fr h₀ env.locals s.heap m₀) (N : News h₀ env.locals s.heap news) (hj : J 0)
    (turn : ∀ i v (u : Option Value) h tk own, vs[i]? = some v → J i → Fr h₀ env.locals h (fun z => if z = x then some v else if z = y2 then u else m₀ z) → News h₀ env.locals h (own ++ news) →
      wpAny (model prog w) A (execs body env) (InvPost h₀ env.locals (fun m' => J (i + 1) ∧ ∀ z, z ≠ x → z ≠ y2 → m' z = m₀ z) (own ++ news) { s with heap := h, toks := tk } Q) E { s with heap := h, toks := tk })
    (done : ∀ (ux u : Option Value) h tk, J vs.length → Fr h₀ env.locals h (fun z => if z = x then ux else if z = y2 then u else m₀ z) → News h₀ env.locals h news → Q .next { s with heap := h, toks := tk }) :
    wpAny (model prog w) A (pyIter (.ref l)) (fun it s₂ => LoopAtV prog w A h₀ env x body Q E it s₂) E s := by
  have hls : s.heap.IsList l vs.toArray := ⟨_, (N _ hm).1, rfl, _, rfl⟩
  have hlt : l < s.heap.objs.size := Heap.lt_size (N _ hm).1
  have hne : l ≠ s.heap.objs.size := Nat.ne_of_lt hlt
  have shape : ∀ (m₁ : Str → Option Value) (ux : Option Value), (∀ z, z ≠ x → z ≠ y2 → m₁ z = m₀ z) → (fun z => if z = x then ux else m₁ z) = fun z => if z = x then ux else if z = y2 then m₁ y2 else m₀ z := by
    intro m₁ ux hm₁
    funext z
    by_cases h1 : z = x
    · rw [if_pos h1, if_pos h1]
    · rw [if_neg h1, if_neg h1]
      by_cases h2 : z = y2
      · rw [if_pos h2, h2]
      · rw [if_neg h2]; exact hm₁ z h1 h2
  refine wpAny_pyIter_list hls ?_
  have W := Walks.list (prog := prog) (w := w) hh s.heap.objs.size l hne vs.toArray
  refine my_iter (s₂ := { s with heap := s.heap.push { cls := .type "list_iterator", data := .fields #[.ref l, .int 0 0] } }) W ?_ ?_ ?_ ⟨⟨_, Heap.get?_push_size _ rfl, rfl, rfl⟩, hls.at fun o e => Heap.get?_push_of_some _ e⟩ (F.push _) (fun p hp => ⟨Heap.get?_push_of_some _ (N p hp).1, (N p hp).2⟩)
    (fun i m => J i ∧ ∀ z, z ≠ x → z ≠ y2 → m z = m₀ z) ⟨hj, fun _ _ _ => rfl⟩ ?_ ?_
  · intro hm'
    rcases List.mem_cons.mp hm' with e | hm'
    · exact absurd F.ns.lt (e ▸ Nat.lt_irrefl _)
    · exact (N _ hm).2.1 (List.mem_singleton.mp hm').symm
  · intro b hb
    rw [List.mem_singleton.mp hb]
    exact next_is_new F
  · intro p hp hI
    exact absurd (Heap.lt_size (N p hp).1) ((List.mem_singleton.mp hI) ▸ Nat.lt_irrefl _)
  · rintro i v m₁ h tk own hin hP ⟨hJ, hm₁⟩ F₁ N₁
    rw [shape m₁ _ hm₁] at F₁
    exact turn i v _ h tk own (by simpa using hP) hJ F₁ N₁
  · rintro m₁ h tk ⟨hJ, hm₁⟩ F₁ N₁
    have e : m₁ = fun z => if z = x then m₁ x else m₁ z := by
      funext z
      by_cases h1 : z = x
      · rw [if_pos h1, h1]
      · rw [if_neg h1]
    rw [e, shape m₁ _ hm₁] at F₁
    rw [List.size_toArray] at hJ
    exact done _ _ h tk hJ F₁ N₁
end
inductive NumsAre (led : Led) : List Value → List (Int × Int) → Prop
  | nil : NumsAre led [] []
  | cons {p : Addr} {x y : Int} {t u : Tok} {vs : List Value} {xs : List (Int × Int)} : NumV led p x y t u → (-100 < y ∧ y < 100) → NumsAre led vs xs → NumsAre led (.ref p :: vs) ((x, y) :: xs)
theorem NumsAre.length {led : Led} : ∀ {vs : List Value} {xs : List (Int × Int)}, NumsAre led vs xs → vs.length = xs.length
  | _, _, .nil => rfl
  | _, _, .cons _ _ h => congrArg (· + 1) h.length
theorem NumsAre.mono {led led' : Led} (hs : ∀ q ∈ led, q ∈ led') : ∀ {vs : List Value} {xs : List (Int × Int)}, NumsAre led vs xs → NumsAre led' vs xs
  | _, _, .nil => .nil
  | _, _, .cons V b h => .cons (V.mono hs) b (h.mono hs)
theorem NumsAre.get {led : Led} : ∀ {vs : List Value} {xs : List (Int × Int)}, NumsAre led vs xs → ∀ {i : Nat} {v : Value}, vs[i]? = some v → ∃ p t u a, v = .ref p ∧ xs[i]? = some a ∧ NumV led p a.1 a.2 t u ∧ (-100 < a.2 ∧ a.2 < 100)
  | _, _, .nil, i, v, h => by simp at h
  | _, _, .cons V b r, 0, v, h => by
    simp only [List.getElem?_cons_zero, Option.some.injEq] at h
    subst h
    exact ⟨_, _, _, _, rfl, rfl, V, b⟩
  | _, _, .cons V b r, i + 1, v, h => by
    simp only [List.getElem?_cons_succ] at h ⊢
    exact r.get h
theorem any_take {α : Type} {xs : List α} {f : α → Bool} {i : Nat} {a : α} (h : xs[i]? = some a) : (xs.take (i + 1)).any f = ((xs.take i).any f || f a) := by
  rw [List.take_add_one, h, Option.toList_some, List.any_append]
  simp
theorem NumV.app {own led : Led} {p : Addr} {x y : Int} {t u : Tok} (V : NumV led p x y t u) : NumV (own ++ led) p x y t u := V.mono fun _ h => List.mem_append.mpr (.inr h)
theorem any_next {α : Type} {xs : List α} {f : α → Bool} {i : Nat} {a : α} (h : xs[i]? = some a) (hj : ((xs.take i).any f) = false) (hf : f a = false) : ((xs.take (i + 1)).any f) = false := by
  rw [any_take h, hj, hf]; rfl
theorem any_full {α : Type} {xs : List α} {f : α → Bool} {n : Nat} (h : n = xs.length) (hj : ((xs.take n).any f) = false) : xs.any f = false := by
  rwa [h, List.take_length] at hj
theorem any_any {α : Type} {xs ys : List α} {f : α → α → Bool} {i j : Nat} {a b : α} (h1 : xs[i]? = some a) (h2 : ys[j]? = some b) (hf : f a b = true) : true = xs.any fun a => ys.any fun b => f a b := by
  symm
  exact List.any_eq_true.mpr ⟨a, List.mem_of_getElem? h1, List.any_eq_true.mpr ⟨b, List.mem_of_getElem? h2, hf⟩⟩
theorem News.app {h₀ h : Heap} {L : Addr} {a b : Led} (N : News h₀ L h (a ++ b)) : News h₀ L h b := fun p hp => N p (List.mem_append.mpr (.inr hp))
theorem News.app2 {h₀ h : Heap} {L : Addr} {a b c : Led} (N : News h₀ L h (a ++ (b ++ c))) : News h₀ L h c := News.app (News.app N)

end
section
theorem words_32001 : True := by
  k_with_none
  (k_with "@my enter" => (refine' code_def ?w9k1 ?w9k2 ?w9k3 ?w9k4 ?w9k5 ?w9kA ?w9kF ?w9kK ?w9k6 ?w9k7 ?w9k8 ?w9k9 ?w9kB ?_ ?w9c2 ?w9c3 ?w9c4 ?w9c5; (case w9kA => exact rfl); (case w9kF => exact rfl); (case w9kK => first | exact rfl | assumption); (case w9k1 => k_asm); (case w9k2 => k_asm); (case w9k3 => k_asm); (case w9k4 => k_asm); (case w9k5 => k_asm); (case w9k6 => k_is); (case w9k7 => k_is); (case w9k8 => ktr_room); (case w9k9 => first | exact BindsTo.of_eq rfl | exact binds_K (by k_in) rfl (by k_is) rfl rfl rfl); (case w9c5 => decide); (case w9kB => exact locs rfl); (case w9c2 => exact rfl); (case w9c3 => exact rfl); (case w9c4 => exact rfl); k_whole; intro g' L' h' FG' F' N' B' X' T'; (try dsimp only); (try k_lift B'); (try k_fold)))
  (k_with "@my enterC" => (refine' code_defC ?w9k1 ?w9k2 ?w9k3 ?w9k4 ?w9k5 ?w9kA ?w9kF ?w9kK ?w9k6 ?w9k7 ?w9k8 ?w9k9 ?w9kB ?w9kD ?_ ?w9c2 ?w9c3 ?w9c4; (case w9kA => exact rfl); (case w9kF => exact rfl); (case w9kK => first | exact rfl | assumption); (case w9k1 => k_asm); (case w9k2 => k_asm); (case w9k3 => k_asm); (case w9k4 => k_asm); (case w9k5 => k_asm); (case w9k6 => k_is); (case w9k7 => k_is); (case w9k8 => ktr_room); (case w9k9 => exact BindsTo.of_eq rfl); (case w9kB => exact rfl); (case w9kD => decide +kernel); (case w9c2 => exact rfl); (case w9c3 => exact rfl); (case w9c4 => exact rfl); k_whole; intro g' L' h' tk' cells' FG' F' N' Y' B' X' T' l1; k_cells Y'; (try simp only [List.cons_append, List.nil_append] at N'); (try dsimp only); (try k_lift B'); (try k_fold)))
  (k_with "@use led" => first | k_asm | exact News.sw1 (by k_asm) | exact News.sw2 (by k_asm) | exact News.sw3 (by k_asm) | exact News.sw4 (by k_asm) | exact News.sw5 (by k_asm) | exact News.sw6 (by k_asm) | exact News.sw7 (by k_asm) | exact News.sw8 (by k_asm) | exact News.sw9 (by k_asm) | exact News.sw10 (by k_asm) | exact News.sw11 (by k_asm) | exact News.sw12 (by k_asm) | exact News.sw13 (by k_asm) | exact News.sw14 (by k_asm) | exact News.sw15 (by k_asm) | exact News.sw16 (by k_asm) | exact News.sw17 (by k_asm) | exact News.sw18 (by k_asm) | exact News.sw19 (by k_asm) | exact News.sw20 (by k_asm) | exact News.sw21 (by k_asm) | exact News.sw22 (by k_asm) | exact News.sw23 (by k_asm) | exact News.sw24 (by k_asm) | exact News.sw25 (by k_asm) | exact News.sw26 (by k_asm))
  (k_with "k_all" => assumption)
  (k_with "@use pre 1" => first | assumption | omega | k_mem | k_all | rfl)
  (k_with "@use pre" => ((repeat' (first | (with_reducible refine And.intro ?_ ?_) | fail)); all_goals (walk_at "use pre 1")))
  (k_with "k_mem" => assumption)
  (k_with "@eval Call" => ((with_reducible show wpAny _ _ (eval (Expr.Call (Expr.Name _ _) _ [] _) _) _ _ _); k_dflt (refine Call_ ?_)))
  (k_with "@end led" => first | k_asm | exact News.d1 (by k_asm) | exact News.d2 (by k_asm) | exact News.d3 (by k_asm) | exact News.d4 (by k_asm) | exact News.d5 (by k_asm) | exact News.d6 (by k_asm) | exact News.d7 (by k_asm) | exact News.d8 (by k_asm) | exact News.d9 (by k_asm) | exact News.d10 (by k_asm) | exact News.d11 (by k_asm) | exact News.d12 (by k_asm))
  (k_with "@pyIter str" => k_extra "pyIter str")
  (k_with "@pyIter ref" => k_extra "pyIter ref")
  (k_with "@end led1" => first | k_asm | exact News.h1 (by k_asm) | exact News.h2 (by k_asm) | exact News.h3 (by k_asm) | exact News.h4 (by k_asm) | exact News.h5 (by k_asm) | exact News.h6 (by k_asm) | exact News.h7 (by k_asm) | exact News.h8 (by k_asm) | exact News.h9 (by k_asm))
  (k_with "@eval Name" => (k_here; k_dflt (first | (refine' nameX_L ?w9F ?w9v ?_ ?w9a ?w9b; (case w9F => k_asm); (case w9a => rfl); (case w9b => rfl); (case w9v => rfl); k_whole) | (refine' nameX_K ?w9F ?w9X ?w9T ?w9e ?_ ?w9a ?w9b; (case w9F => k_asm); (case w9X => k_asm); (case w9T => k_asm); (case w9a => rfl); (case w9b => rfl); (case w9e => k_is); k_whole) | (refine' nameX_B ?w9F ?w9X ?w9T ?w9e ?w9v ?w9n ?_ ?w9a ?w9b; (case w9F => k_asm); (case w9X => k_asm); (case w9T => k_asm); (case w9a => rfl); (case w9b => rfl); (case w9e => k_is); (case w9v => boot_fast); (case w9n => decide); k_whole))))
  (k_with "k_ne" => first | assumption | exact Nat.ne_of_gt (by assumption) | exact Nat.ne_of_lt (by assumption) | exact ne_p1 (by with_reducible assumption) | exact ne_p2 (by with_reducible assumption) | exact ne_p3 (by with_reducible assumption) | exact ne_p4 (by with_reducible assumption) | exact ne_p5 (by with_reducible assumption) | exact ne_p6 (by with_reducible assumption) | exact ne_p7 (by with_reducible assumption) | exact ne_p8 (by with_reducible assumption) | exact ne_q1 (by with_reducible assumption) | exact ne_q2 (by with_reducible assumption) | exact ne_q3 (by with_reducible assumption) | exact ne_q4 (by with_reducible assumption) | exact ne_q5 (by with_reducible assumption) | exact ne_q6 (by with_reducible assumption) | exact ne_q7 (by with_reducible assumption) | exact ne_q8 (by with_reducible assumption))
  trivial
section
theorem words_32002 : True := by
  (k_with "@my numv" => first | assumption | exact NumV.cons (by assumption) | exact NumV.cons (NumV.cons (by assumption)))
  (k_with "@subscriptTail" => (k_here; (with_reducible show wpAny _ _ (subscriptTail _ _ (Value.ref _) (Value.int 0 _)) _ _ _); k_dflt (refine' item_num0 ?w9nF ?w9nX ?w9nN ?w9nV ?_ ?w9ns; (case w9nF => k_asm); (case w9nX => k_asm); (case w9nN => k_asm); (case w9nV => walk_at "my numv"); (case w9ns => with_unfolding_all rfl))))
  (k_with "@subscriptTail" => (k_here; (with_reducible show wpAny _ _ (subscriptTail _ _ (Value.ref _) (Value.int 1 _)) _ _ _); k_dflt (refine' item_num1 ?w9nF ?w9nX ?w9nN ?w9nV ?_ ?w9ns; (case w9nF => k_asm); (case w9nX => k_asm); (case w9nN => k_asm); (case w9nV => walk_at "my numv"); (case w9ns => with_unfolding_all rfl))))
  (k_with "@call builtin:isinstance" => (k_here; (with_reducible show wpAny _ _ (call (Value.builtin "isinstance") [Value.ref _, Value.type "tuple"]) _ _ _); k_dflt (refine' isi_num_tuple ?w9nF ?w9nX ?w9nN ?w9nV ?_; (case w9nF => k_asm); (case w9nX => k_asm); (case w9nN => k_asm); (case w9nV => walk_at "my numv"))))
  (k_with "@call builtin:isinstance" => (k_here; (with_reducible show wpAny _ _ (call (Value.builtin "isinstance") [Value.ref _, Value.type "bool"]) _ _ _); k_dflt (refine' isi_num_bool ?w9nF ?w9nX ?w9nN ?w9nV ?_; (case w9nF => k_asm); (case w9nX => k_asm); (case w9nN => k_asm); (case w9nV => walk_at "my numv"))))
  (k_with "@call builtin:isinstance" => (k_here; (with_reducible show wpAny _ _ (call (Value.builtin "isinstance") [Value.ref _, Value.type "str"]) _ _ _); k_dflt (refine' isi_num_str ?w9nF ?w9nX ?w9nN ?w9nV ?_; (case w9nF => k_asm); (case w9nX => k_asm); (case w9nN => k_asm); (case w9nV => walk_at "my numv"))))
  trivial

theorem words_32003 : True := by
  (k_with "@exec For Name Name cons nil" => (k_here; (rename Fr _ _ _ _ => lF'); (with_unfolding_all refine' For_invVF lF' ?w9k1 ?w9k2 ?_; (case w9k1 => exact rfl); (case w9k2 => exact rfl); k_whole)))
  (k_with "@call ref" => (k_here; (with_reducible show wpAny _ _ (call (Value.ref 73) _) _ _ _); k_dflt (refine' Ctr.useA ?w9uN ?w9uB ?w9uF ?w9uX ?w9uT ?w9uK ?w9uD ?w9uU (c_cnum _ ?w9uP) ?_; (case w9uN => k_asm); (case w9uB => k_asm); (case w9uF => k_asm); (case w9uX => k_asm); (case w9uT => k_asm); (case w9uK => first | exact rfl | assumption); (case w9uD => ktr_room); (case w9uU => ktr_units); (case w9uP => exact ⟨by assumption, by assumption, by assumption, by assumption⟩)); intro h9 tk9 F9 N9; (try k_sweep); (try k_fold)))
  trivial
theorem c_pairN (w : World) {led : Led} {op : Str} {tk : Tok} {l1 l2 : Addr} {vs1 vs2 : List Value} {n1 n2 : Nat} {xs ys : List (Int × Int)} (hp : ((l1, listOf vs1.toArray n1) ∈ led ∧ NumsAre led vs1 xs) ∧ ((l2, listOf vs2.toArray n2) ∈ led ∧ NumsAre led vs2 ys)) :
    Ctr w 177 5 led [.str op tk, .ref l1, .ref l2] (fun r led' => led' = led ∧ r = .bool (xs.any fun a => ys.any fun b => cnumF op a.1 a.2 b.1 b.2)) := by
  obtain ⟨⟨hm1, A1⟩, hm2, A2⟩ := hp
  unfold Ctr
  k_fill
  intro mean mg mb dp un gd cn cs aa ccd cl outer A₀ base h₀ L m s Q E B F X N T hk hdp hun hret
  refine wpAny_call ?_
  k_dflt (walk_at "my enter")
  (k_with "pyIter ref" => ((with_reducible show wpAny _ _ (pyIter _) (fun it s₂ => LoopAtV _ _ _ _ _ (Str.ofString "left") _ _ _ it s₂) _ _); (rename Fr _ _ _ _ => lF); (rename News _ _ _ _ => lN); (with_unfolding_all refine my_iter_list (y2 := Str.ofString "right") (fun i => ((xs.take i).any fun a => ys.any fun b => cnumF op a.1 a.2 b.1 b.2) = false) rfl hm1 lF lN rfl (fun i v u h9 tk9 own hv hJ F9 N9 => ?_) (fun ux u h9 tk9 hJ F9 N9 => ?_)) <;> clear lF lN <;> (try obtain ⟨p1, t1, u1, a1, rfl, ha1, V1, bd1⟩ := A1.get hv) <;> (try have W1 := NumV.app (own := own) V1) <;> try k_fold))
  (k_with "pyIter ref" => ((with_reducible show wpAny _ _ (pyIter _) (fun it s₂ => LoopAtV _ _ _ _ _ (Str.ofString "right") _ _ _ it s₂) _ _); (rename Fr _ _ _ _ => lF); (rename News _ _ _ _ => lN); (with_unfolding_all refine my_iter_list (y2 := Str.ofString "right") (fun j => ((ys.take j).any fun b => cnumF op a1.1 a1.2 b.1 b.2) = false) rfl (List.mem_append.mpr (.inr hm2)) lF lN rfl (fun j v2 u2 h8 tk8 own2 hv2 hJ2 F8 N8 => ?_) (fun ux2 u2 h8 tk8 hJ2 F8 N8 => ?_)) <;> clear lF lN <;> (try obtain ⟨p2, t2, u2', a2, rfl, ha2, V2, bd2⟩ := A2.get hv2) <;> (try have W2 := NumV.app (own := own2) (NumV.app (own := own) V2)) <;> (try have W3 := NumV.app (own := own2) W1) <;> try k_fold))
  k_steps
  · refine fin hret (by k_asm) (N := News.app2 (by k_asm)) ⟨rfl, congrArg Value.bool ?_⟩
    exact any_any ha1 ha2 (by assumption)
  · refine' InvEnd.intro ?eF ?eN ?eS ?eJ
    case eF => assumption
    case eN => assumption
    case eS => exact fun _ hp => hp
    case eJ => exact ⟨any_next ha2 hJ2 (by assumption), by k_same2⟩
  · refine' InvEnd.intro ?fF ?fN ?fS ?fJ
    case fF => assumption
    case fN => assumption
    case fS => exact fun _ hp => hp
    case fJ => exact ⟨any_next ha1 hJ (any_full A2.length hJ2), by k_same2⟩
  · exact fin hret (by k_asm) (by k_asm) ⟨rfl, congrArg Value.bool (any_full A1.length hJ).symm⟩
end
theorem words_32004 : True := by
  k_with_none
  (k_with "@my enter" => (refine' code_def ?w9k1 ?w9k2 ?w9k3 ?w9k4 ?w9k5 ?w9kA ?w9kF ?w9kK ?w9k6 ?w9k7 ?w9k8 ?w9k9 ?w9kB ?_ ?w9c2 ?w9c3 ?w9c4 ?w9c5; (case w9kA => exact rfl); (case w9kF => exact rfl); (case w9kK => first | exact rfl | assumption); (case w9k1 => k_asm); (case w9k2 => k_asm); (case w9k3 => k_asm); (case w9k4 => k_asm); (case w9k5 => k_asm); (case w9k6 => k_is); (case w9k7 => k_is); (case w9k8 => ktr_room); (case w9k9 => first | exact BindsTo.of_eq rfl | exact binds_K (by k_in) rfl (by k_is) rfl rfl rfl); (case w9c5 => decide); (case w9kB => exact locs rfl); (case w9c2 => exact rfl); (case w9c3 => exact rfl); (case w9c4 => exact rfl); k_whole; intro g' L' h' FG' F' N' B' X' T'; (try dsimp only); (try k_lift B'); (try k_fold)))
  (k_with "@my enterC" => (refine' code_defC ?w9k1 ?w9k2 ?w9k3 ?w9k4 ?w9k5 ?w9kA ?w9kF ?w9kK ?w9k6 ?w9k7 ?w9k8 ?w9k9 ?w9kB ?w9kD ?_ ?w9c2 ?w9c3 ?w9c4; (case w9kA => exact rfl); (case w9kF => exact rfl); (case w9kK => first | exact rfl | assumption); (case w9k1 => k_asm); (case w9k2 => k_asm); (case w9k3 => k_asm); (case w9k4 => k_asm); (case w9k5 => k_asm); (case w9k6 => k_is); (case w9k7 => k_is); (case w9k8 => ktr_room); (case w9k9 => exact BindsTo.of_eq rfl); (case w9kB => exact rfl); (case w9kD => decide +kernel); (case w9c2 => exact rfl); (case w9c3 => exact rfl); (case w9c4 => exact rfl); k_whole; intro g' L' h' tk' cells' FG' F' N' Y' B' X' T' l1; k_cells Y'; (try simp only [List.cons_append, List.nil_append] at N'); (try dsimp only); (try k_lift B'); (try k_fold)))
  (k_with "@use led" => first | k_asm | exact News.sw1 (by k_asm) | exact News.sw2 (by k_asm) | exact News.sw3 (by k_asm) | exact News.sw4 (by k_asm) | exact News.sw5 (by k_asm) | exact News.sw6 (by k_asm) | exact News.sw7 (by k_asm) | exact News.sw8 (by k_asm) | exact News.sw9 (by k_asm) | exact News.sw10 (by k_asm) | exact News.sw11 (by k_asm) | exact News.sw12 (by k_asm) | exact News.sw13 (by k_asm) | exact News.sw14 (by k_asm) | exact News.sw15 (by k_asm) | exact News.sw16 (by k_asm) | exact News.sw17 (by k_asm) | exact News.sw18 (by k_asm) | exact News.sw19 (by k_asm) | exact News.sw20 (by k_asm) | exact News.sw21 (by k_asm) | exact News.sw22 (by k_asm) | exact News.sw23 (by k_asm) | exact News.sw24 (by k_asm) | exact News.sw25 (by k_asm) | exact News.sw26 (by k_asm))
  (k_with "k_all" => assumption)
  (k_with "@use pre 1" => first | assumption | omega | k_mem | k_all | rfl)
  (k_with "@use pre" => ((repeat' (first | (with_reducible refine And.intro ?_ ?_) | fail)); all_goals (walk_at "use pre 1")))
  (k_with "k_mem" => assumption)
  (k_with "@eval Call" => ((with_reducible show wpAny _ _ (eval (Expr.Call (Expr.Name _ _) _ [] _) _) _ _ _); k_dflt (refine Call_ ?_)))
  (k_with "@end led" => first | k_asm | exact News.d1 (by k_asm) | exact News.d2 (by k_asm) | exact News.d3 (by k_asm) | exact News.d4 (by k_asm) | exact News.d5 (by k_asm) | exact News.d6 (by k_asm) | exact News.d7 (by k_asm) | exact News.d8 (by k_asm) | exact News.d9 (by k_asm) | exact News.d10 (by k_asm) | exact News.d11 (by k_asm) | exact News.d12 (by k_asm))
  (k_with "@pyIter str" => k_extra "pyIter str")
  (k_with "@pyIter ref" => k_extra "pyIter ref")
  (k_with "@end led1" => first | k_asm | exact News.h1 (by k_asm) | exact News.h2 (by k_asm) | exact News.h3 (by k_asm) | exact News.h4 (by k_asm) | exact News.h5 (by k_asm) | exact News.h6 (by k_asm) | exact News.h7 (by k_asm) | exact News.h8 (by k_asm) | exact News.h9 (by k_asm))
  (k_with "@eval Name" => (k_here; k_dflt (first | (refine' nameX_L ?w9F ?w9v ?_ ?w9a ?w9b; (case w9F => k_asm); (case w9a => rfl); (case w9b => rfl); (case w9v => rfl); k_whole) | (refine' nameX_K ?w9F ?w9X ?w9T ?w9e ?_ ?w9a ?w9b; (case w9F => k_asm); (case w9X => k_asm); (case w9T => k_asm); (case w9a => rfl); (case w9b => rfl); (case w9e => k_is); k_whole) | (refine' nameX_B ?w9F ?w9X ?w9T ?w9e ?w9v ?w9n ?_ ?w9a ?w9b; (case w9F => k_asm); (case w9X => k_asm); (case w9T => k_asm); (case w9a => rfl); (case w9b => rfl); (case w9e => k_is); (case w9v => boot_fast); (case w9n => decide); k_whole))))
  (k_with "k_ne" => first | assumption | exact Nat.ne_of_gt (by assumption) | exact Nat.ne_of_lt (by assumption) | exact ne_p1 (by with_reducible assumption) | exact ne_p2 (by with_reducible assumption) | exact ne_p3 (by with_reducible assumption) | exact ne_p4 (by with_reducible assumption) | exact ne_p5 (by with_reducible assumption) | exact ne_p6 (by with_reducible assumption) | exact ne_p7 (by with_reducible assumption) | exact ne_p8 (by with_reducible assumption) | exact ne_q1 (by with_reducible assumption) | exact ne_q2 (by with_reducible assumption) | exact ne_q3 (by with_reducible assumption) | exact ne_q4 (by with_reducible assumption) | exact ne_q5 (by with_reducible assumption) | exact ne_q6 (by with_reducible assumption) | exact ne_q7 (by with_reducible assumption) | exact ne_q8 (by with_reducible assumption))
  trivial

end
section
theorem words_33001 : True := by
  k_with_none
  (k_with "@my enter" => (refine' code_def ?w9k1 ?w9k2 ?w9k3 ?w9k4 ?w9k5 ?w9kA ?w9kF ?w9kK ?w9k6 ?w9k7 ?w9k8 ?w9k9 ?w9kB ?_ ?w9c2 ?w9c3 ?w9c4 ?w9c5; (case w9kA => exact rfl); (case w9kF => exact rfl); (case w9kK => first | exact rfl | assumption); (case w9k1 => k_asm); (case w9k2 => k_asm); (case w9k3 => k_asm); (case w9k4 => k_asm); (case w9k5 => k_asm); (case w9k6 => k_is); (case w9k7 => k_is); (case w9k8 => ktr_room); (case w9k9 => first | exact BindsTo.of_eq rfl | exact binds_K (by k_in) rfl (by k_is) rfl rfl rfl); (case w9c5 => decide); (case w9kB => exact locs rfl); (case w9c2 => exact rfl); (case w9c3 => exact rfl); (case w9c4 => exact rfl); k_whole; intro g' L' h' FG' F' N' B' X' T'; (try dsimp only); (try k_lift B'); (try k_fold)))
  (k_with "@my enterC" => (refine' code_defC ?w9k1 ?w9k2 ?w9k3 ?w9k4 ?w9k5 ?w9kA ?w9kF ?w9kK ?w9k6 ?w9k7 ?w9k8 ?w9k9 ?w9kB ?w9kD ?_ ?w9c2 ?w9c3 ?w9c4; (case w9kA => exact rfl); (case w9kF => exact rfl); (case w9kK => first | exact rfl | assumption); (case w9k1 => k_asm); (case w9k2 => k_asm); (case w9k3 => k_asm); (case w9k4 => k_asm); (case w9k5 => k_asm); (case w9k6 => k_is); (case w9k7 => k_is); (case w9k8 => ktr_room); (case w9k9 => exact BindsTo.of_eq rfl); (case w9kB => exact rfl); (case w9kD => decide +kernel); (case w9c2 => exact rfl); (case w9c3 => exact rfl); (case w9c4 => exact rfl); k_whole; intro g' L' h' tk' cells' FG' F' N' Y' B' X' T' l1; k_cells Y'; (try simp only [List.cons_append, List.nil_append] at N'); (try dsimp only); (try k_lift B'); (try k_fold)))
  (k_with "@use led" => first | k_asm | exact News.sw1 (by k_asm) | exact News.sw2 (by k_asm) | exact News.sw3 (by k_asm) | exact News.sw4 (by k_asm) | exact News.sw5 (by k_asm) | exact News.sw6 (by k_asm) | exact News.sw7 (by k_asm) | exact News.sw8 (by k_asm) | exact News.sw9 (by k_asm) | exact News.sw10 (by k_asm) | exact News.sw11 (by k_asm) | exact News.sw12 (by k_asm) | exact News.sw13 (by k_asm) | exact News.sw14 (by k_asm) | exact News.sw15 (by k_asm) | exact News.sw16 (by k_asm) | exact News.sw17 (by k_asm) | exact News.sw18 (by k_asm) | exact News.sw19 (by k_asm) | exact News.sw20 (by k_asm) | exact News.sw21 (by k_asm) | exact News.sw22 (by k_asm) | exact News.sw23 (by k_asm) | exact News.sw24 (by k_asm) | exact News.sw25 (by k_asm) | exact News.sw26 (by k_asm))
  (k_with "k_all" => assumption)
  (k_with "@use pre 1" => first | assumption | omega | k_mem | k_all | rfl)
  (k_with "@use pre" => ((repeat' (first | (with_reducible refine And.intro ?_ ?_) | fail)); all_goals (walk_at "use pre 1")))
  (k_with "k_mem" => assumption)
  (k_with "@eval Call" => ((with_reducible show wpAny _ _ (eval (Expr.Call (Expr.Name _ _) _ [] _) _) _ _ _); k_dflt (refine Call_ ?_)))
  (k_with "@end led" => first | k_asm | exact News.d1 (by k_asm) | exact News.d2 (by k_asm) | exact News.d3 (by k_asm) | exact News.d4 (by k_asm) | exact News.d5 (by k_asm) | exact News.d6 (by k_asm) | exact News.d7 (by k_asm) | exact News.d8 (by k_asm) | exact News.d9 (by k_asm) | exact News.d10 (by k_asm) | exact News.d11 (by k_asm) | exact News.d12 (by k_asm))
  (k_with "@pyIter str" => k_extra "pyIter str")
  (k_with "@pyIter ref" => k_extra "pyIter ref")
  (k_with "@end led1" => first | k_asm | exact News.h1 (by k_asm) | exact News.h2 (by k_asm) | exact News.h3 (by k_asm) | exact News.h4 (by k_asm) | exact News.h5 (by k_asm) | exact News.h6 (by k_asm) | exact News.h7 (by k_asm) | exact News.h8 (by k_asm) | exact News.h9 (by k_asm))
  (k_with "@eval Name" => (k_here; k_dflt (first | (refine' nameX_L ?w9F ?w9v ?_ ?w9a ?w9b; (case w9F => k_asm); (case w9a => rfl); (case w9b => rfl); (case w9v => rfl); k_whole) | (refine' nameX_K ?w9F ?w9X ?w9T ?w9e ?_ ?w9a ?w9b; (case w9F => k_asm); (case w9X => k_asm); (case w9T => k_asm); (case w9a => rfl); (case w9b => rfl); (case w9e => k_is); k_whole) | (refine' nameX_B ?w9F ?w9X ?w9T ?w9e ?w9v ?w9n ?_ ?w9a ?w9b; (case w9F => k_asm); (case w9X => k_asm); (case w9T => k_asm); (case w9a => rfl); (case w9b => rfl); (case w9e => k_is); (case w9v => boot_fast); (case w9n => decide); k_whole))))
  (k_with "k_ne" => first | assumption | exact Nat.ne_of_gt (by assumption) | exact Nat.ne_of_lt (by assumption) | exact ne_p1 (by with_reducible assumption) | exact ne_p2 (by with_reducible assumption) | exact ne_p3 (by with_reducible assumption) | exact ne_p4 (by with_reducible assumption) | exact ne_p5 (by with_reducible assumption) | exact ne_p6 (by with_reducible assumption) | exact ne_p7 (by with_reducible assumption) | exact ne_p8 (by with_reducible assumption) | exact ne_q1 (by with_reducible assumption) | exact ne_q2 (by with_reducible assumption) | exact ne_q3 (by with_reducible assumption) | exact ne_q4 (by with_reducible assumption) | exact ne_q5 (by with_reducible assumption) | exact ne_q6 (by with_reducible assumption) | exact ne_q7 (by with_reducible assumption) | exact ne_q8 (by with_reducible assumption))
  trivial
inductive TxtAre : List Value → List Str → Prop
  | nil : TxtAre [] []
  | cons {x : Str} {t : Tok} {vs : List Value} {xs : List Str} : TxtAre vs xs → TxtAre (.str x t :: vs) (x :: xs)
theorem TxtAre.length : ∀ {vs : List Value} {xs : List Str}, TxtAre vs xs → vs.length = xs.length
  | _, _, .nil => rfl
  | _, _, .cons h => congrArg (· + 1) h.length
theorem TxtAre.get : ∀ {vs : List Value} {xs : List Str}, TxtAre vs xs → ∀ {i : Nat} {v : Value}, vs[i]? = some v → ∃ t a, v = .str a t ∧ xs[i]? = some a
  | _, _, .nil, i, v, h => by simp at h
  | _, _, .cons r, 0, v, h => by
    simp only [List.getElem?_cons_zero, Option.some.injEq] at h
    subst h
    exact ⟨_, _, rfl, rfl⟩
  | _, _, .cons r, i + 1, v, h => by
    simp only [List.getElem?_cons_succ] at h ⊢
    exact r.get h
section
theorem words_33002 : True := by
  (k_with "@exec For Name Name cons nil" => (k_here; (rename Fr _ _ _ _ => lF'); (with_unfolding_all refine' For_invVF lF' ?w9k1 ?w9k2 ?_; (case w9k1 => exact rfl); (case w9k2 => exact rfl); k_whole)))
  (k_with "@call ref" => (k_here; (with_reducible show wpAny _ _ (call (Value.ref 163) _) _ _ _); k_dflt (refine' Ctr.useA ?w9uN ?w9uB ?w9uF ?w9uX ?w9uT ?w9uK ?w9uD ?w9uU (c_ctexts _ ?w9uP) ?_; (case w9uN => k_asm); (case w9uB => k_asm); (case w9uF => k_asm); (case w9uX => k_asm); (case w9uT => k_asm); (case w9uK => first | exact rfl | assumption); (case w9uD => ktr_room); (case w9uU => ktr_units); (case w9uP => trivial)); intro h9 tk9 F9 N9; (try k_sweep); (try k_fold)))
  trivial
theorem c_pairS (w : World) {led : Led} {op : Str} {tk : Tok} {l1 l2 : Addr} {vs1 vs2 : List Value} {n1 n2 : Nat} {xs ys : List Str} (hp : ((l1, listOf vs1.toArray n1) ∈ led ∧ TxtAre vs1 xs) ∧ ((l2, listOf vs2.toArray n2) ∈ led ∧ TxtAre vs2 ys)) :
    Ctr w 177 5 led [.str op tk, .ref l1, .ref l2] (fun r led' => led' = led ∧ r = .bool (xs.any fun a => ys.any fun b => ((a == b) == (op == Str.ofString "=")))) := by
  obtain ⟨⟨hm1, A1⟩, hm2, A2⟩ := hp
  unfold Ctr
  k_fill
  intro mean mg mb dp un gd cn cs aa ccd cl outer A₀ base h₀ L m s Q E B F X N T hk hdp hun hret
  refine wpAny_call ?_
  k_dflt (walk_at "my enter")
  (k_with "pyIter ref" => ((with_reducible show wpAny _ _ (pyIter _) (fun it s₂ => LoopAtV _ _ _ _ _ (Str.ofString "left") _ _ _ it s₂) _ _); (rename Fr _ _ _ _ => lF); (rename News _ _ _ _ => lN); (with_unfolding_all refine my_iter_list (y2 := Str.ofString "right") (fun i => ((xs.take i).any fun a => ys.any fun b => ((a == b) == (op == Str.ofString "="))) = false) rfl hm1 lF lN rfl (fun i v u h9 tk9 own hv hJ F9 N9 => ?_) (fun ux u h9 tk9 hJ F9 N9 => ?_)) <;> clear lF lN <;> (try obtain ⟨t1, a1, rfl, ha1⟩ := A1.get hv) <;> try k_fold))
  (k_with "pyIter ref" => ((with_reducible show wpAny _ _ (pyIter _) (fun it s₂ => LoopAtV _ _ _ _ _ (Str.ofString "right") _ _ _ it s₂) _ _); (rename Fr _ _ _ _ => lF); (rename News _ _ _ _ => lN); (with_unfolding_all refine my_iter_list (y2 := Str.ofString "right") (fun j => ((ys.take j).any fun b => ((a1 == b) == (op == Str.ofString "="))) = false) rfl (List.mem_append.mpr (.inr hm2)) lF lN rfl (fun j v2 u2 h8 tk8 own2 hv2 hJ2 F8 N8 => ?_) (fun ux2 u2 h8 tk8 hJ2 F8 N8 => ?_)) <;> clear lF lN <;> (try obtain ⟨t2, a2, rfl, ha2⟩ := A2.get hv2) <;> try k_fold))
  k_steps
  · refine fin hret (by k_asm) (N := News.app2 (by k_asm)) ⟨rfl, congrArg Value.bool ?_⟩
    exact any_any ha1 ha2 (by assumption)
  · refine' InvEnd.intro ?eF ?eN ?eS ?eJ
    case eF => assumption
    case eN => assumption
    case eS => exact fun _ hp => hp
    case eJ => exact ⟨any_next ha2 hJ2 (by assumption), by k_same2⟩
  · refine' InvEnd.intro ?fF ?fN ?fS ?fJ
    case fF => assumption
    case fN => assumption
    case fS => exact fun _ hp => hp
    case fJ => exact ⟨any_next ha1 hJ (any_full A2.length hJ2), by k_same2⟩
  · exact fin hret (by k_asm) (by k_asm) ⟨rfl, congrArg Value.bool (any_full A1.length hJ).symm⟩
end
theorem words_33003 : True := by
  k_with_none
  (k_with "@my enter" => (refine' code_def ?w9k1 ?w9k2 ?w9k3 ?w9k4 ?w9k5 ?w9kA ?w9kF ?w9kK ?w9k6 ?w9k7 ?w9k8 ?w9k9 ?w9kB ?_ ?w9c2 ?w9c3 ?w9c4 ?w9c5; (case w9kA => exact rfl); (case w9kF => exact rfl); (case w9kK => first | exact rfl | assumption); (case w9k1 => k_asm); (case w9k2 => k_asm); (case w9k3 => k_asm); (case w9k4 => k_asm); (case w9k5 => k_asm); (case w9k6 => k_is); (case w9k7 => k_is); (case w9k8 => ktr_room); (case w9k9 => first | exact BindsTo.of_eq rfl | exact binds_K (by k_in) rfl (by k_is) rfl rfl rfl); (case w9c5 => decide); (case w9kB => exact locs rfl); (case w9c2 => exact rfl); (case w9c3 => exact rfl); (case w9c4 => exact rfl); k_whole; intro g' L' h' FG' F' N' B' X' T'; (try dsimp only); (try k_lift B'); (try k_fold)))
  (k_with "@my enterC" => (refine' code_defC ?w9k1 ?w9k2 ?w9k3 ?w9k4 ?w9k5 ?w9kA ?w9kF ?w9kK ?w9k6 ?w9k7 ?w9k8 ?w9k9 ?w9kB ?w9kD ?_ ?w9c2 ?w9c3 ?w9c4; (case w9kA => exact rfl); (case w9kF => exact rfl); (case w9kK => first | exact rfl | assumption); (case w9k1 => k_asm); (case w9k2 => k_asm); (case w9k3 => k_asm); (case w9k4 => k_asm); (case w9k5 => k_asm); (case w9k6 => k_is); (case w9k7 => k_is); (case w9k8 => ktr_room); (case w9k9 => exact BindsTo.of_eq rfl); (case w9kB => exact rfl); (case w9kD => decide +kernel); (case w9c2 => exact rfl); (case w9c3 => exact rfl); (case w9c4 => exact rfl); k_whole; intro g' L' h' tk' cells' FG' F' N' Y' B' X' T' l1; k_cells Y'; (try simp only [List.cons_append, List.nil_append] at N'); (try dsimp only); (try k_lift B'); (try k_fold)))
  (k_with "@use led" => first | k_asm | exact News.sw1 (by k_asm) | exact News.sw2 (by k_asm) | exact News.sw3 (by k_asm) | exact News.sw4 (by k_asm) | exact News.sw5 (by k_asm) | exact News.sw6 (by k_asm) | exact News.sw7 (by k_asm) | exact News.sw8 (by k_asm) | exact News.sw9 (by k_asm) | exact News.sw10 (by k_asm) | exact News.sw11 (by k_asm) | exact News.sw12 (by k_asm) | exact News.sw13 (by k_asm) | exact News.sw14 (by k_asm) | exact News.sw15 (by k_asm) | exact News.sw16 (by k_asm) | exact News.sw17 (by k_asm) | exact News.sw18 (by k_asm) | exact News.sw19 (by k_asm) | exact News.sw20 (by k_asm) | exact News.sw21 (by k_asm) | exact News.sw22 (by k_asm) | exact News.sw23 (by k_asm) | exact News.sw24 (by k_asm) | exact News.sw25 (by k_asm) | exact News.sw26 (by k_asm))
  (k_with "k_all" => assumption)
  (k_with "@use pre 1" => first | assumption | omega | k_mem | k_all | rfl)
  (k_with "@use pre" => ((repeat' (first | (with_reducible refine And.intro ?_ ?_) | fail)); all_goals (walk_at "use pre 1")))
  (k_with "k_mem" => assumption)
  (k_with "@eval Call" => ((with_reducible show wpAny _ _ (eval (Expr.Call (Expr.Name _ _) _ [] _) _) _ _ _); k_dflt (refine Call_ ?_)))
  (k_with "@end led" => first | k_asm | exact News.d1 (by k_asm) | exact News.d2 (by k_asm) | exact News.d3 (by k_asm) | exact News.d4 (by k_asm) | exact News.d5 (by k_asm) | exact News.d6 (by k_asm) | exact News.d7 (by k_asm) | exact News.d8 (by k_asm) | exact News.d9 (by k_asm) | exact News.d10 (by k_asm) | exact News.d11 (by k_asm) | exact News.d12 (by k_asm))
  (k_with "@pyIter str" => k_extra "pyIter str")
  (k_with "@pyIter ref" => k_extra "pyIter ref")
  (k_with "@end led1" => first | k_asm | exact News.h1 (by k_asm) | exact News.h2 (by k_asm) | exact News.h3 (by k_asm) | exact News.h4 (by k_asm) | exact News.h5 (by k_asm) | exact News.h6 (by k_asm) | exact News.h7 (by k_asm) | exact News.h8 (by k_asm) | exact News.h9 (by k_asm))
  (k_with "@eval Name" => (k_here; k_dflt (first | (refine' nameX_L ?w9F ?w9v ?_ ?w9a ?w9b; (case w9F => k_asm); (case w9a => rfl); (case w9b => rfl); (case w9v => rfl); k_whole) | (refine' nameX_K ?w9F ?w9X ?w9T ?w9e ?_ ?w9a ?w9b; (case w9F => k_asm); (case w9X => k_asm); (case w9T => k_asm); (case w9a => rfl); (case w9b => rfl); (case w9e => k_is); k_whole) | (refine' nameX_B ?w9F ?w9X ?w9T ?w9e ?w9v ?w9n ?_ ?w9a ?w9b; (case w9F => k_asm); (case w9X => k_asm); (case w9T => k_asm); (case w9a => rfl); (case w9b => rfl); (case w9e => k_is); (case w9v => boot_fast); (case w9n => decide); k_whole))))
  (k_with "k_ne" => first | assumption | exact Nat.ne_of_gt (by assumption) | exact Nat.ne_of_lt (by assumption) | exact ne_p1 (by with_reducible assumption) | exact ne_p2 (by with_reducible assumption) | exact ne_p3 (by with_reducible assumption) | exact ne_p4 (by with_reducible assumption) | exact ne_p5 (by with_reducible assumption) | exact ne_p6 (by with_reducible assumption) | exact ne_p7 (by with_reducible assumption) | exact ne_p8 (by with_reducible assumption) | exact ne_q1 (by with_reducible assumption) | exact ne_q2 (by with_reducible assumption) | exact ne_q3 (by with_reducible assumption) | exact ne_q4 (by with_reducible assumption) | exact ne_q5 (by with_reducible assumption) | exact ne_q6 (by with_reducible assumption) | exact ne_q7 (by with_reducible assumption) | exact ne_q8 (by with_reducible assumption))
  trivial

end
section
theorem words_34001 : True := by
  k_with_none
  (k_with "@my enter" => (refine' code_def ?w9k1 ?w9k2 ?w9k3 ?w9k4 ?w9k5 ?w9kA ?w9kF ?w9kK ?w9k6 ?w9k7 ?w9k8 ?w9k9 ?w9kB ?_ ?w9c2 ?w9c3 ?w9c4 ?w9c5; (case w9kA => exact rfl); (case w9kF => exact rfl); (case w9kK => first | exact rfl | assumption); (case w9k1 => k_asm); (case w9k2 => k_asm); (case w9k3 => k_asm); (case w9k4 => k_asm); (case w9k5 => k_asm); (case w9k6 => k_is); (case w9k7 => k_is); (case w9k8 => ktr_room); (case w9k9 => first | exact BindsTo.of_eq rfl | exact binds_K (by k_in) rfl (by k_is) rfl rfl rfl); (case w9c5 => decide); (case w9kB => exact locs rfl); (case w9c2 => exact rfl); (case w9c3 => exact rfl); (case w9c4 => exact rfl); k_whole; intro g' L' h' FG' F' N' B' X' T'; (try dsimp only); (try k_lift B'); (try k_fold)))
  (k_with "@my enterC" => (refine' code_defC ?w9k1 ?w9k2 ?w9k3 ?w9k4 ?w9k5 ?w9kA ?w9kF ?w9kK ?w9k6 ?w9k7 ?w9k8 ?w9k9 ?w9kB ?w9kD ?_ ?w9c2 ?w9c3 ?w9c4; (case w9kA => exact rfl); (case w9kF => exact rfl); (case w9kK => first | exact rfl | assumption); (case w9k1 => k_asm); (case w9k2 => k_asm); (case w9k3 => k_asm); (case w9k4 => k_asm); (case w9k5 => k_asm); (case w9k6 => k_is); (case w9k7 => k_is); (case w9k8 => ktr_room); (case w9k9 => exact BindsTo.of_eq rfl); (case w9kB => exact rfl); (case w9kD => decide +kernel); (case w9c2 => exact rfl); (case w9c3 => exact rfl); (case w9c4 => exact rfl); k_whole; intro g' L' h' tk' cells' FG' F' N' Y' B' X' T' l1; k_cells Y'; (try simp only [List.cons_append, List.nil_append] at N'); (try dsimp only); (try k_lift B'); (try k_fold)))
  (k_with "@use led" => first | k_asm | exact News.sw1 (by k_asm) | exact News.sw2 (by k_asm) | exact News.sw3 (by k_asm) | exact News.sw4 (by k_asm) | exact News.sw5 (by k_asm) | exact News.sw6 (by k_asm) | exact News.sw7 (by k_asm) | exact News.sw8 (by k_asm) | exact News.sw9 (by k_asm) | exact News.sw10 (by k_asm) | exact News.sw11 (by k_asm) | exact News.sw12 (by k_asm) | exact News.sw13 (by k_asm) | exact News.sw14 (by k_asm) | exact News.sw15 (by k_asm) | exact News.sw16 (by k_asm) | exact News.sw17 (by k_asm) | exact News.sw18 (by k_asm) | exact News.sw19 (by k_asm) | exact News.sw20 (by k_asm) | exact News.sw21 (by k_asm) | exact News.sw22 (by k_asm) | exact News.sw23 (by k_asm) | exact News.sw24 (by k_asm) | exact News.sw25 (by k_asm) | exact News.sw26 (by k_asm))
  (k_with "k_all" => assumption)
  (k_with "@use pre 1" => first | assumption | omega | k_mem | k_all | rfl)
  (k_with "@use pre" => ((repeat' (first | (with_reducible refine And.intro ?_ ?_) | fail)); all_goals (walk_at "use pre 1")))
  (k_with "k_mem" => assumption)
  (k_with "@eval Call" => ((with_reducible show wpAny _ _ (eval (Expr.Call (Expr.Name _ _) _ [] _) _) _ _ _); k_dflt (refine Call_ ?_)))
  (k_with "@end led" => first | k_asm | exact News.d1 (by k_asm) | exact News.d2 (by k_asm) | exact News.d3 (by k_asm) | exact News.d4 (by k_asm) | exact News.d5 (by k_asm) | exact News.d6 (by k_asm) | exact News.d7 (by k_asm) | exact News.d8 (by k_asm) | exact News.d9 (by k_asm) | exact News.d10 (by k_asm) | exact News.d11 (by k_asm) | exact News.d12 (by k_asm))
  (k_with "@pyIter str" => k_extra "pyIter str")
  (k_with "@pyIter ref" => k_extra "pyIter ref")
  (k_with "@end led1" => first | k_asm | exact News.h1 (by k_asm) | exact News.h2 (by k_asm) | exact News.h3 (by k_asm) | exact News.h4 (by k_asm) | exact News.h5 (by k_asm) | exact News.h6 (by k_asm) | exact News.h7 (by k_asm) | exact News.h8 (by k_asm) | exact News.h9 (by k_asm))
  (k_with "@eval Name" => (k_here; k_dflt (first | (refine' nameX_L ?w9F ?w9v ?_ ?w9a ?w9b; (case w9F => k_asm); (case w9a => rfl); (case w9b => rfl); (case w9v => rfl); k_whole) | (refine' nameX_K ?w9F ?w9X ?w9T ?w9e ?_ ?w9a ?w9b; (case w9F => k_asm); (case w9X => k_asm); (case w9T => k_asm); (case w9a => rfl); (case w9b => rfl); (case w9e => k_is); k_whole) | (refine' nameX_B ?w9F ?w9X ?w9T ?w9e ?w9v ?w9n ?_ ?w9a ?w9b; (case w9F => k_asm); (case w9X => k_asm); (case w9T => k_asm); (case w9a => rfl); (case w9b => rfl); (case w9e => k_is); (case w9v => boot_fast); (case w9n => decide); k_whole))))
  (k_with "k_ne" => first | assumption | exact Nat.ne_of_gt (by assumption) | exact Nat.ne_of_lt (by assumption) | exact ne_p1 (by with_reducible assumption) | exact ne_p2 (by with_reducible assumption) | exact ne_p3 (by with_reducible assumption) | exact ne_p4 (by with_reducible assumption) | exact ne_p5 (by with_reducible assumption) | exact ne_p6 (by with_reducible assumption) | exact ne_p7 (by with_reducible assumption) | exact ne_p8 (by with_reducible assumption) | exact ne_q1 (by with_reducible assumption) | exact ne_q2 (by with_reducible assumption) | exact ne_q3 (by with_reducible assumption) | exact ne_q4 (by with_reducible assumption) | exact ne_q5 (by with_reducible assumption) | exact ne_q6 (by with_reducible assumption) | exact ne_q7 (by with_reducible assumption) | exact ne_q8 (by with_reducible assumption))
  trivial
open PyProof.Rows.LCg PyProof.Rows.LCt
def FilPost (h₀ : Heap) (L : Addr) (m : Str → Option Value) (s₁ : Shared) (led : Led) (P : Value → Prop) (y : Value) (s₂ : Shared) : Prop :=
  ∃ h' tk, s₂ = { s₁ with heap := h', toks := tk } ∧ Fr h₀ L h' m ∧ News h₀ L h' led ∧ P y
section
variable {prog : Program} {w : World} {A : Around} {h₀ : Heap} {L : Addr} {m : Str → Option Value} {env : Env} {ct elt : Expr} {x : Str} {scope : Scope} {cl : List (Str × Addr)} {s : Shared} {Fin : List Value → Led → Prop} {ax : Addr} {vs : List Value} {news : Led}
theorem restT_filter (p : Value → Bool) (hS : SrcAt h₀ ax vs.toArray news)
    (turn : ∀ v I oI C oC D ys m₂ h tk (E' : Value → Shared → Prop), v ∈ vs → NsObj oC m₂ → m₂ x = some v → Fr h₀ L h m → News h₀ L h ((I, oI) :: (C, oC) :: (D, lst ys) :: news) →
      wpAny (model prog w) A (isTrue ct (compEnvC scope cl C env) (eval ct (compEnvC scope cl C env))) (fun ok s' => if ok = true then
        wpAny (model prog w) A (eval elt (compEnvC scope cl C env)) (FilPost h₀ L m { s with heap := h, toks := tk } ((I, oI) :: (C, oC) :: (D, lst ys) :: news) (fun y => y = v ∧ p v = true)) E' s'
        else FilPost h₀ L m { s with heap := h, toks := tk } ((I, oI) :: (C, oC) :: (D, lst ys) :: news) (fun _ => p v = false) Value.none s') E' { s with heap := h, toks := tk })
    (fin : Fin (vs.filter p) news) : CompRestT prog w A h₀ L m env ct elt x scope cl s (SrcAt h₀ ax vs.toArray) (fun i v => vs.toArray[i]? = some v) Fin vs.toArray.size 0 [] news := by
  have all : ∀ k i ys, k + i = vs.length → ys = (vs.take i).filter p → CompRestT prog w A h₀ L m env ct elt x scope cl s (SrcAt h₀ ax vs.toArray) (fun i v => vs.toArray[i]? = some v) Fin k i ys news := by
    intro k
    induction k with
    | zero =>
      intro i ys hi hy
      refine CompRestT.zero ?_
      rw [hy, show i = vs.length by omega, List.take_length]
      exact fin
    | succ k ih =>
      intro i ys hi hy
      refine CompRestT.succ fun v I oI C oC D m₂ h tk E' hv hC hx F N off ne => ?_
      have hv' : vs[i]? = some v := by simpa using hv
      refine wpAny_mono (turn v I oI C oC D ys m₂ h tk E' (List.mem_of_getElem? hv') hC hx F N) (fun ok s' q => ?_) fun _ _ e => e
      cases ok with
      | true =>
        rw [if_pos rfl] at q ⊢
        refine wpAny_mono q (fun y s₂ q => ?_) fun _ _ e => e
        obtain ⟨h', tk', rfl, F', N', rfl, hp⟩ := q
        refine CompEnd.intro F' N' news (fun _ hx => hx) off hS (ih (i + 1) _ (by omega) ?_)
        rw [List.take_add_one, hv', Option.toList_some, List.filter_append, ← hy]
        simp [hp]
      | false =>
        rw [if_neg Bool.false_ne_true] at q ⊢
        obtain ⟨h', tk', rfl, F', N', hp⟩ := q
        refine CompEnd.intro F' N' news (fun _ hx => hx) off hS (ih (i + 1) _ (by omega) ?_)
        rw [List.take_add_one, hv', Option.toList_some, List.filter_append, ← hy]
        simp [hp]
  rw [List.size_toArray]
  exact all _ _ _ (Nat.add_zero _) (by simp)
end
section
variable {prog : Program} {w : World} {A : Around} {E : Value → Shared → Prop} {s : Shared} {h₀ : Heap} {L l d : Addr} {m : Str → Option Value} {news : Led} {vs ws : List Value} {ns : List Int} {n n2 : Nat} {Q : Value → Shared → Prop}
theorem eq_nil (N : News h₀ L s.heap news) (hm : (l, listOf vs.toArray n) ∈ news) (hd : (d, listOf #[] n2) ∈ news) (hu : A.units < cLine) (h : Q (.bool vs.isEmpty) s) : wpAny (model prog w) A (compareOp .Eq (.ref l) (.ref d)) Q E s := by
  have hl : s.heap.IsList l vs.toArray := ⟨_, (N _ hm).1, rfl, _, rfl⟩
  have hl2 : s.heap.IsList d #[] := ⟨_, (N _ hd).1, rfl, _, rfl⟩
  cases vs with
  | nil => exact SeqAt.RcAt.lists (e := fun _ => true) hl hl2 rfl hu (fun j h1 _ => absurd h1 (Nat.not_lt_zero _)) prog w E Q h
  | cons v r => exact SeqAt.RcAt.lists_lengths hl hl2 (by simp) hu prog w E Q h
theorem ne_nil (N : News h₀ L s.heap news) (hm : (l, listOf vs.toArray n) ∈ news) (hd : (d, listOf #[] n2) ∈ news) (hu : A.units < cLine) (h : Q (.bool (!vs.isEmpty)) s) : wpAny (model prog w) A (compareOp .NotEq (.ref l) (.ref d)) Q E s := by
  have hl : s.heap.IsList l vs.toArray := ⟨_, (N _ hm).1, rfl, _, rfl⟩
  have hl2 : s.heap.IsList d #[] := ⟨_, (N _ hd).1, rfl, _, rfl⟩
  cases vs with
  | nil => exact SeqAt.RcNeAt.lists (e := fun _ => true) hl hl2 rfl hu (fun j h1 _ => absurd h1 (Nat.not_lt_zero _)) prog w E Q h
  | cons v r => exact SeqAt.RcNeAt.lists_lengths hl hl2 (by simp) hu prog w E Q h
theorem add_l (F : Fr h₀ L s.heap m) (N : News h₀ L s.heap news) (hm : (l, listOf vs.toArray n) ∈ news) (hd : (d, listOf ws.toArray n2) ∈ news) (hsz : vs.length + ws.length ≤ 100)
    (h : ∀ D h', Fr h₀ L h' m → News h₀ L h' ((D, listOf (vs ++ ws).toArray 0) :: news) → (∀ p ∈ news, p.1 < D) → Q (.ref D) { s with heap := h' }) : wpAny (model prog w) A (binaryOp .Add (.ref l) (.ref d)) Q E s := by
  have hl : s.heap.IsList l vs.toArray := ⟨_, (N _ hm).1, rfl, _, rfl⟩
  have hl2 : s.heap.IsList d ws.toArray := ⟨_, (N _ hd).1, rfl, _, rfl⟩
  refine add_arrays F N hl hl2 (fun h' F' N' => h _ h' F' N' fun p hp => Heap.lt_size (N p hp).1) ?_
  rw [List.size_toArray, List.size_toArray]
  exact Nat.le_trans hsz (by decide)
theorem my_set (F : Fr h₀ L s.heap m) (N : News h₀ L s.heap news) (hh : A.handled = none) (hm : (l, listOf vs.toArray n) ∈ news) (hi : IntsAre vs ns) (hb : vs.length ≤ 100)
    (h : ∀ D h' tk o, Fr h₀ L h' m → News h₀ L h' ((D, o) :: news) → o.SetObjOf (intKind prog w) (fun k' => (firstMet (fun i => ns.getD i 0) vs.length).any (· == k')) (firstMet (fun i => ns.getD i 0) vs.length).length → (∀ p ∈ news, p.1 < D) → Q (.ref D) { s with heap := h', toks := tk }) :
    wpAny (model prog w) A (call (.type "set") [.ref l]) Q E s := by
  have hl : s.heap.IsList l vs.toArray := ⟨_, (N _ hm).1, rfl, _, rfl⟩
  have hLlt : L < s.heap.objs.size := F.ns.lt
  refine PySem.call_set_list (ns := ns) hh hl (by simpa using hi) (by rw [List.size_toArray]; unfold scanBound; omega) fun h' tk hS hk => ?_
  rw [List.size_toArray] at hS
  obtain ⟨o, ho, hso⟩ := hS.objOf
  refine h _ h' tk o ⟨F.ns.at' fun o' e => hk L o' hLlt e, fun b o' e => hk b o' (Heap.lt_size (F.keep b o' e)) (F.keep b o' e), F.above⟩ (fun p hp => ?_) hso fun p hp => Heap.lt_size (N p hp).1
  rcases List.mem_cons.mp hp with rfl | hp
  · exact ⟨ho, Nat.ne_of_gt hLlt, next_is_new F⟩
  · exact ⟨hk _ _ (Heap.lt_size (N p hp).1) (N p hp).1, (N p hp).2⟩
theorem my_setlen {K : Type} [DecidableEq K] [BEq K] [LawfulBEq K] {knd : KeyKind prog w K} {S : K → Bool} {k : Nat} {D : Addr} {o : Obj} (N : News h₀ L s.heap ((D, o) :: news)) (hso : o.SetObjOf knd S k) (hk : k < 2 ^ 62) (h : Q (.int k (s.toks + 1)) { s with toks := s.toks + 1 + 1 }) : wpAny (model prog w) A (call (.builtin "len") [.ref D]) Q E s :=
  len_sl1 (own := []) N hso (by omega) h
end
theorem rank_app {a b : List Value} (h : ∀ y ∈ a, RankV y) (k : ∀ y ∈ b, RankV y) : ∀ y ∈ a ++ b, RankV y := fun y hy => (List.mem_append.mp hy).elim (h y) (k y)
theorem rank_cases {v : Value} (h : RankV v) : v = .none ∨ ∃ i t, v = .int i t := h
theorem ne_of_all1 {l : Led} {d : Addr} (h : ∀ p ∈ l, p.1 < d) : ∀ p ∈ l, p.1 ≠ d + 1 := fun p hp => Nat.ne_of_lt (Nat.lt_succ_of_lt (h p hp))
theorem ints_filter : ∀ {vs : List Value}, (∀ y ∈ vs, RankV y) → IntsAre (vs.filter fun v => (rkOf v).isSome) (vs.filterMap rkOf)
  | [], _ => .nil
  | v :: vs, h => by
    have ih := ints_filter fun y hy => h y (.tail _ hy)
    rcases h v (.head _) with rfl | ⟨i, t, rfl⟩
    · exact ih
    · exact .cons i t ih
theorem ints_of : ∀ {vs : List Value}, (∀ y ∈ vs, RankV y) → (vs.any fun y => rkOf y == rkOf Value.none) = false → IntsAre vs (vs.filterMap rkOf)
  | [], _, _ => .nil
  | v :: vs, h, e => by
    rw [List.any_cons, Bool.or_eq_false_iff] at e
    have ih := ints_of (fun y hy => h y (.tail _ hy)) e.2
    rcases h v (.head _) with rfl | ⟨i, t, rfl⟩
    · exact absurd e.1 (by decide)
    · exact .cons i t ih
theorem pos_of {vs : List Value} {ns : List Int} (h : IntsAre vs ns) (e : vs.isEmpty = false) : 0 < ns.length := by
  rw [← h.length]
  cases vs with
  | nil => cases e
  | cons v r => exact Nat.succ_pos _
section
variable {prog : Program} {w : World} {A : Around} {E : Value → Shared → Prop} {s : Shared} {h₀ : Heap} {L l : Addr} {m : Str → Option Value} {news : Led} {vs : List Value} {ns : List Int} {n : Nat} {Q : Value → Shared → Prop}
theorem my_min (F : Fr h₀ L s.heap m) (N : News h₀ L s.heap news) (hm : (l, listOf vs.toArray n) ∈ news) (hi : IntsAre vs ns) (hne : vs.isEmpty = false) (hh : A.handled = none)
    (h : ∀ h' M (t : Tok) tk, Fr h₀ L h' m → News h₀ L h' news → M ∈ ns → (∀ a, a ∈ ns → M ≤ a) → Q (.int M t) { s with heap := h', toks := tk }) : wpAny (model prog w) A (call (.builtin "min") [.ref l]) Q E s :=
  kso_min F N ⟨_, (N _ hm).1, rfl, _, rfl⟩ hi (pos_of hi hne) hh h
theorem my_max (F : Fr h₀ L s.heap m) (N : News h₀ L s.heap news) (hm : (l, listOf vs.toArray n) ∈ news) (hi : IntsAre vs ns) (hne : vs.isEmpty = false) (hh : A.handled = none)
    (h : ∀ h' M (t : Tok) tk, Fr h₀ L h' m → News h₀ L h' news → M ∈ ns → (∀ a, a ∈ ns → a ≤ M) → Q (.int M t) { s with heap := h', toks := tk }) : wpAny (model prog w) A (call (.builtin "max") [.ref l]) Q E s :=
  kso_max F N ⟨_, (N _ hm).1, rfl, _, rfl⟩ hi (pos_of hi hne) hh h
theorem my_setlen2 {knd : KeyKind prog w Int} {S : Int → Bool} {f : Nat → Int} {k : Nat} {D : Addr} {o : Obj} (N : News h₀ L s.heap ((D, o) :: news)) (hso : o.SetObjOf knd S (firstMet f k).length) (hk : k < 2 ^ 62) (h : Q (.int ((firstMet f k).length : Nat) (s.toks + 1)) { s with toks := s.toks + 1 + 1 }) : wpAny (model prog w) A (call (.builtin "len") [.ref D]) Q E s :=
  my_setlen N hso (Nat.lt_of_le_of_lt (firstMet_length_le _ _) hk) h
end
theorem isI_cases {vs : List Value} (hv : ∀ y ∈ vs, RankV y) {v : Value} (h : v ∈ vs.filter fun v => (rkOf v).isSome) : ∃ i t, v = .int i t := by
  obtain ⟨h1, h2⟩ := List.mem_filter.mp h
  rcases hv v h1 with rfl | e
  · cases h2
  · exact e
theorem rank_filter {vs : List Value} {p : Value → Bool} (hv : ∀ y ∈ vs, RankV y) : ∀ y ∈ vs.filter p, RankV y := fun y hy => hv y (List.mem_filter.mp hy).1

end
section
theorem words_35001 : True := by
  k_with_none
  (k_with "@my enter" => (refine' code_def ?w9k1 ?w9k2 ?w9k3 ?w9k4 ?w9k5 ?w9kA ?w9kF ?w9kK ?w9k6 ?w9k7 ?w9k8 ?w9k9 ?w9kB ?_ ?w9c2 ?w9c3 ?w9c4 ?w9c5; (case w9kA => exact rfl); (case w9kF => exact rfl); (case w9kK => first | exact rfl | assumption); (case w9k1 => k_asm); (case w9k2 => k_asm); (case w9k3 => k_asm); (case w9k4 => k_asm); (case w9k5 => k_asm); (case w9k6 => k_is); (case w9k7 => k_is); (case w9k8 => ktr_room); (case w9k9 => first | exact BindsTo.of_eq rfl | exact binds_K (by k_in) rfl (by k_is) rfl rfl rfl); (case w9c5 => decide); (case w9kB => exact locs rfl); (case w9c2 => exact rfl); (case w9c3 => exact rfl); (case w9c4 => exact rfl); k_whole; intro g' L' h' FG' F' N' B' X' T'; (try dsimp only); (try k_lift B'); (try k_fold)))
  (k_with "@my enterC" => (refine' code_defC ?w9k1 ?w9k2 ?w9k3 ?w9k4 ?w9k5 ?w9kA ?w9kF ?w9kK ?w9k6 ?w9k7 ?w9k8 ?w9k9 ?w9kB ?w9kD ?_ ?w9c2 ?w9c3 ?w9c4; (case w9kA => exact rfl); (case w9kF => exact rfl); (case w9kK => first | exact rfl | assumption); (case w9k1 => k_asm); (case w9k2 => k_asm); (case w9k3 => k_asm); (case w9k4 => k_asm); (case w9k5 => k_asm); (case w9k6 => k_is); (case w9k7 => k_is); (case w9k8 => ktr_room); (case w9k9 => exact BindsTo.of_eq rfl); (case w9kB => exact rfl); (case w9kD => decide +kernel); (case w9c2 => exact rfl); (case w9c3 => exact rfl); (case w9c4 => exact rfl); k_whole; intro g' L' h' tk' cells' FG' F' N' Y' B' X' T' l1; k_cells Y'; (try simp only [List.cons_append, List.nil_append] at N'); (try dsimp only); (try k_lift B'); (try k_fold)))
  (k_with "@use led" => first | k_asm | exact News.sw1 (by k_asm) | exact News.sw2 (by k_asm) | exact News.sw3 (by k_asm) | exact News.sw4 (by k_asm) | exact News.sw5 (by k_asm) | exact News.sw6 (by k_asm) | exact News.sw7 (by k_asm) | exact News.sw8 (by k_asm) | exact News.sw9 (by k_asm) | exact News.sw10 (by k_asm) | exact News.sw11 (by k_asm) | exact News.sw12 (by k_asm) | exact News.sw13 (by k_asm) | exact News.sw14 (by k_asm) | exact News.sw15 (by k_asm) | exact News.sw16 (by k_asm) | exact News.sw17 (by k_asm) | exact News.sw18 (by k_asm) | exact News.sw19 (by k_asm) | exact News.sw20 (by k_asm) | exact News.sw21 (by k_asm) | exact News.sw22 (by k_asm) | exact News.sw23 (by k_asm) | exact News.sw24 (by k_asm) | exact News.sw25 (by k_asm) | exact News.sw26 (by k_asm))
  (k_with "k_all" => assumption)
  (k_with "@use pre 1" => first | assumption | omega | k_mem | k_all | rfl)
  (k_with "@use pre" => ((repeat' (first | (with_reducible refine And.intro ?_ ?_) | fail)); all_goals (walk_at "use pre 1")))
  (k_with "k_mem" => assumption)
  (k_with "@eval Call" => ((with_reducible show wpAny _ _ (eval (Expr.Call (Expr.Name _ _) _ [] _) _) _ _ _); k_dflt (refine Call_ ?_)))
  (k_with "@end led" => first | k_asm | exact News.d1 (by k_asm) | exact News.d2 (by k_asm) | exact News.d3 (by k_asm) | exact News.d4 (by k_asm) | exact News.d5 (by k_asm) | exact News.d6 (by k_asm) | exact News.d7 (by k_asm) | exact News.d8 (by k_asm) | exact News.d9 (by k_asm) | exact News.d10 (by k_asm) | exact News.d11 (by k_asm) | exact News.d12 (by k_asm))
  (k_with "@pyIter str" => k_extra "pyIter str")
  (k_with "@pyIter ref" => k_extra "pyIter ref")
  (k_with "@end led1" => first | k_asm | exact News.h1 (by k_asm) | exact News.h2 (by k_asm) | exact News.h3 (by k_asm) | exact News.h4 (by k_asm) | exact News.h5 (by k_asm) | exact News.h6 (by k_asm) | exact News.h7 (by k_asm) | exact News.h8 (by k_asm) | exact News.h9 (by k_asm))
  (k_with "@eval Name" => (k_here; k_dflt (first | (refine' nameX_L ?w9F ?w9v ?_ ?w9a ?w9b; (case w9F => k_asm); (case w9a => rfl); (case w9b => rfl); (case w9v => rfl); k_whole) | (refine' nameX_K ?w9F ?w9X ?w9T ?w9e ?_ ?w9a ?w9b; (case w9F => k_asm); (case w9X => k_asm); (case w9T => k_asm); (case w9a => rfl); (case w9b => rfl); (case w9e => k_is); k_whole) | (refine' nameX_B ?w9F ?w9X ?w9T ?w9e ?w9v ?w9n ?_ ?w9a ?w9b; (case w9F => k_asm); (case w9X => k_asm); (case w9T => k_asm); (case w9a => rfl); (case w9b => rfl); (case w9e => k_is); (case w9v => boot_fast); (case w9n => decide); k_whole))))
  (k_with "k_ne" => first | assumption | exact Nat.ne_of_gt (by assumption) | exact Nat.ne_of_lt (by assumption) | exact ne_p1 (by with_reducible assumption) | exact ne_p2 (by with_reducible assumption) | exact ne_p3 (by with_reducible assumption) | exact ne_p4 (by with_reducible assumption) | exact ne_p5 (by with_reducible assumption) | exact ne_p6 (by with_reducible assumption) | exact ne_p7 (by with_reducible assumption) | exact ne_p8 (by with_reducible assumption) | exact ne_q1 (by with_reducible assumption) | exact ne_q2 (by with_reducible assumption) | exact ne_q3 (by with_reducible assumption) | exact ne_q4 (by with_reducible assumption) | exact ne_q5 (by with_reducible assumption) | exact ne_q6 (by with_reducible assumption) | exact ne_q7 (by with_reducible assumption) | exact ne_q8 (by with_reducible assumption))
  trivial
def prI (op : Str) (i j : Int) : Bool := if op == Str.ofString "=" then i == j else if op == Str.ofString "!=" then i != j else if op == Str.ofString "<" then decide (i < j) else if op == Str.ofString "<=" then decide (i ≤ j) else if op == Str.ofString ">" then decide (j < i) else decide (j ≤ i)
def prF (op : Str) : Option Int → Option Int → Bool
  | some i, some j => prI op i j
  | _, _ => op == Str.ofString "!="
def dueV (op : Str) (vs1 vs2 : List Value) : Bool := vs1.any fun x => vs2.any fun y => prF op (rkOf x) (rkOf y)
theorem dueV_true {op : Str} {vs1 vs2 : List Value} {x y : Value} (hx : x ∈ vs1) (hy : y ∈ vs2) (h : prF op (rkOf x) (rkOf y) = true) : dueV op vs1 vs2 = true :=
  List.any_eq_true.mpr ⟨x, hx, List.any_eq_true.mpr ⟨y, hy, h⟩⟩
theorem dueV_elim {op : Str} {vs1 vs2 : List Value} (h : dueV op vs1 vs2 = true) : ∃ x ∈ vs1, ∃ y ∈ vs2, prF op (rkOf x) (rkOf y) = true := by
  obtain ⟨x, hx, h⟩ := List.any_eq_true.mp h
  obtain ⟨y, hy, h⟩ := List.any_eq_true.mp h
  exact ⟨x, hx, y, hy, h⟩
theorem mem_ns {vs : List Value} {i : Int} : i ∈ vs.filterMap rkOf ↔ ∃ x ∈ vs, rkOf x = some i := List.mem_filterMap
theorem due_iff {op : Str} {vs1 vs2 : List Value} (ho : (op == Str.ofString "!=") = false) : dueV op vs1 vs2 = true ↔ ∃ i ∈ vs1.filterMap rkOf, ∃ j ∈ vs2.filterMap rkOf, prI op i j = true := by
  constructor
  · intro h
    obtain ⟨x, hx, y, hy, h⟩ := dueV_elim h
    cases ex : rkOf x with
    | none => rw [ex, prF.eq_2 _ _ _ (by intro i j e; cases e)] at h; rw [ho] at h; cases h
    | some i =>
      cases ey : rkOf y with
      | none => rw [ex, ey, prF.eq_2 _ _ _ (by intro i j _ e; cases e)] at h; rw [ho] at h; cases h
      | some j => rw [ex, ey] at h; exact ⟨i, mem_ns.mpr ⟨x, hx, ex⟩, j, mem_ns.mpr ⟨y, hy, ey⟩, h⟩
  · rintro ⟨i, hi, j, hj, h⟩
    obtain ⟨x, hx, ex⟩ := mem_ns.mp hi
    obtain ⟨y, hy, ey⟩ := mem_ns.mp hj
    exact dueV_true hx hy (by rw [ex, ey]; exact h)
theorem bool_ext {a b : Bool} (h : a = true ↔ b = true) : a = b := by cases a <;> cases b <;> simp_all
theorem prI_eq (i j : Int) : prI (Str.ofString "=") i j = (i == j) := by unfold prI; rw [if_pos (by decide)]
theorem prI_ne (i j : Int) : prI (Str.ofString "!=") i j = (i != j) := by unfold prI; rw [if_neg (by decide), if_pos (by decide)]
theorem prI_lt (i j : Int) : prI (Str.ofString "<") i j = decide (i < j) := by unfold prI; rw [if_neg (by decide), if_neg (by decide), if_pos (by decide)]
theorem prI_le (i j : Int) : prI (Str.ofString "<=") i j = decide (i ≤ j) := by unfold prI; rw [if_neg (by decide), if_neg (by decide), if_neg (by decide), if_pos (by decide)]
theorem prI_gt (i j : Int) : prI (Str.ofString ">") i j = decide (j < i) := by unfold prI; rw [if_neg (by decide), if_neg (by decide), if_neg (by decide), if_neg (by decide), if_pos (by decide)]
theorem prI_ge (i j : Int) : prI (Str.ofString ">=") i j = decide (j ≤ i) := by unfold prI; rw [if_neg (by decide), if_neg (by decide), if_neg (by decide), if_neg (by decide), if_neg (by decide)]
section
variable {op : Str} {vs1 vs2 : List Value}
theorem due_nil1 (h : vs1.isEmpty = true) : false = dueV op vs1 vs2 := by
  rw [List.isEmpty_iff.mp h]; rfl
theorem due_nil2 (h : vs2.isEmpty = true) : false = dueV op vs1 vs2 := by
  rw [List.isEmpty_iff.mp h]
  refine bool_ext ⟨(fun h => nomatch h), fun h => ?_⟩
  obtain ⟨_, _, y, hy, _⟩ := dueV_elim h
  cases hy
theorem filter_nil {vs : List Value} (h : (vs.filter fun v => (rkOf v).isSome).isEmpty = true) {i : Int} (hi : i ∈ vs.filterMap rkOf) : False := by
  obtain ⟨x, hx, ex⟩ := mem_ns.mp hi
  have : x ∈ vs.filter fun v => (rkOf v).isSome := List.mem_filter.mpr ⟨hx, by rw [ex]; rfl⟩
  rw [List.isEmpty_iff.mp h] at this
  cases this
theorem due_low1 (ho : (op == Str.ofString "!=") = false) (h : (vs1.filter fun v => (rkOf v).isSome).isEmpty = true) : false = dueV op vs1 vs2 := by
  refine bool_ext ⟨(fun h => nomatch h), fun e => ?_⟩
  obtain ⟨i, hi, _⟩ := (due_iff ho).mp e
  exact (filter_nil h hi).elim
theorem due_low2 (ho : (op == Str.ofString "!=") = false) (h : (vs2.filter fun v => (rkOf v).isSome).isEmpty = true) : false = dueV op vs1 vs2 := by
  refine bool_ext ⟨(fun h => nomatch h), fun e => ?_⟩
  obtain ⟨i, hi, j, hj, _⟩ := (due_iff ho).mp e
  exact (filter_nil h hj).elim
theorem ne_empty {vs : List Value} (h : vs.isEmpty = false) : ∃ x, x ∈ vs := by
  cases vs with
  | nil => cases h
  | cons v r => exact ⟨v, .head _⟩
theorem due_none (h1 : vs1.isEmpty = false) (h2 : vs2.isEmpty = false) (ho : (op == Str.ofString "!=") = true) (h : ((vs1 ++ vs2).any fun y => rkOf y == rkOf Value.none) = true) : ((vs1 ++ vs2).any fun y => rkOf y == rkOf Value.none) = dueV op vs1 vs2 := by
  rw [h]
  symm
  obtain ⟨a, ha⟩ := ne_empty h1
  obtain ⟨b, hb⟩ := ne_empty h2
  obtain ⟨y, hy, ey⟩ := List.any_eq_true.mp h
  have ey : rkOf y = none := eq_of_beq ey
  rcases List.mem_append.mp hy with hy | hy
  · exact dueV_true hy hb (by rw [ey]; exact ho)
  · refine dueV_true ha hy ?_
    rw [ey]
    cases rkOf a <;> exact ho
theorem firstMet_nodup (val : Nat → Int) : ∀ i, (firstMet val i).Nodup
  | 0 => by rw [firstMet_zero]; exact List.nodup_nil
  | i + 1 => by
    rw [firstMet_succ]; unfold step_dedup
    have ih := firstMet_nodup val i
    split
    · exact ih
    · rename_i h
      refine List.nodup_append.mpr ⟨ih, List.nodup_cons.mpr ⟨(fun h => nomatch h), List.nodup_nil⟩, ?_⟩
      intro a ha b hb e
      rw [List.mem_singleton.mp hb] at e
      exact h (List.any_eq_true.mpr ⟨a, ha, by simpa using e⟩)
theorem range_getD (ns : List Int) : (List.range ns.length).map (fun i => ns.getD i 0) = ns := by
  apply List.ext_getElem
  · simp
  · intro i h1 h2
    simp at h1
    simp [h1]
theorem firstMet_mem {ns : List Int} {k : Int} : k ∈ firstMet (fun i => ns.getD i 0) ns.length ↔ k ∈ ns := by
  have h := firstMet_any (fun i => ns.getD i 0) ns.length k
  rw [range_getD] at h
  have q : ∀ l : List Int, l.any (fun x => x == k) = true ↔ k ∈ l := fun l => by
    rw [List.any_eq_true]
    exact ⟨fun ⟨x, hx, e⟩ => eq_of_beq e ▸ hx, fun hk => ⟨k, hk, beq_self_eq_true k⟩⟩
  rw [← q, ← q, h]
theorem firstMet_gt {ns : List Int} : 1 < (firstMet (fun i => ns.getD i 0) ns.length).length ↔ ∃ a ∈ ns, ∃ b ∈ ns, a ≠ b := by
  have hn := firstMet_nodup (fun i => ns.getD i 0) ns.length
  have hm : ∀ k, k ∈ firstMet (fun i => ns.getD i 0) ns.length ↔ k ∈ ns := fun k => firstMet_mem
  revert hn hm
  generalize firstMet (fun i => ns.getD i 0) ns.length = D
  intro hn hm
  constructor
  · intro h
    match D, hn, hm, h with
    | a :: b :: r, hn, hm, _ =>
      refine ⟨a, (hm a).mp (.head _), b, (hm b).mp (.tail _ (.head _)), fun e => ?_⟩
      exact (List.nodup_cons.mp hn).1 (e ▸ .head _)
  · rintro ⟨a, ha, b, hb, hab⟩
    have h1 := (hm a).mpr ha
    have h2 := (hm b).mpr hb
    match D, h1, h2 with
    | [c], h1, h2 => exact absurd ((List.mem_singleton.mp h1).trans (List.mem_singleton.mp h2).symm) hab
    | _ :: _ :: _, _, _ => simp
theorem all_some (h : ((vs1 ++ vs2).any fun y => rkOf y == rkOf Value.none) = false) {x : Value} (hx : x ∈ vs1 ++ vs2) : ∃ i, rkOf x = some i := by
  have := List.any_eq_false.mp h x hx
  cases e : rkOf x with
  | none => rw [e] at this; exact absurd rfl this
  | some i => exact ⟨i, rfl⟩
theorem due_set (hv1 : ∀ y ∈ vs1, RankV y) (hv2 : ∀ y ∈ vs2, RankV y) (h1 : vs1.isEmpty = false) (h2 : vs2.isEmpty = false) (ho : (op == Str.ofString "!=") = true) (h : ((vs1 ++ vs2).any fun y => rkOf y == rkOf Value.none) = false) :
    decide (1 < (((firstMet (fun i => ((vs1 ++ vs2).filterMap rkOf).getD i 0) (vs1 ++ vs2).length).length : Nat) : Int)) = dueV op vs1 vs2 := by
  have hlen : (vs1 ++ vs2).length = ((vs1 ++ vs2).filterMap rkOf).length := (ints_of (rank_app hv1 hv2) h).length
  have hop : op = Str.ofString "!=" := by simpa using ho
  subst hop
  obtain ⟨a, ha⟩ := ne_empty h1
  obtain ⟨b, hb⟩ := ne_empty h2
  obtain ⟨p, ep⟩ := all_some h (List.mem_append.mpr (.inl ha))
  obtain ⟨q, eq⟩ := all_some h (List.mem_append.mpr (.inr hb))
  refine bool_ext ⟨fun e => ?_, fun e => ?_⟩
  · have e : 1 < (firstMet (fun i => ((vs1 ++ vs2).filterMap rkOf).getD i 0) (vs1 ++ vs2).length).length := by
      have := of_decide_eq_true e
      omega
    rw [hlen] at e
    obtain ⟨c, hc, d, hd, hcd⟩ := firstMet_gt.mp e
    obtain ⟨x, hx, ex⟩ := mem_ns.mp hc
    obtain ⟨y, hy, ey⟩ := mem_ns.mp hd
    have pick : ∀ z k, z ∈ vs1 ++ vs2 → rkOf z = some k → k ≠ p → dueV (Str.ofString "!=") vs1 vs2 = true ∨ p = q := by
      intro z k hz ez hk
      by_cases hpq : p = q
      · exact .inr hpq
      · exact .inl (dueV_true ha hb (by rw [ep, eq]; show prI _ _ _ = true; rw [prI_ne]; simpa using hpq))
    by_cases hpq : p = q
    · by_cases hcp : c = p
      · have hdp : d ≠ p := fun e => hcd (hcp.trans e.symm)
        rcases List.mem_append.mp hy with hy | hy
        · exact dueV_true hy hb (by rw [ey, eq]; show prI _ _ _ = true; rw [prI_ne, ← hpq]; simpa using hdp)
        · exact dueV_true ha hy (by rw [ep, ey]; show prI _ _ _ = true; rw [prI_ne]; simpa using fun e : p = d => hdp e.symm)
      · rcases List.mem_append.mp hx with hx | hx
        · exact dueV_true hx hb (by rw [ex, eq]; show prI _ _ _ = true; rw [prI_ne, ← hpq]; simpa using hcp)
        · exact dueV_true ha hx (by rw [ep, ex]; show prI _ _ _ = true; rw [prI_ne]; simpa using fun e : p = c => hcp e.symm)
    · exact dueV_true ha hb (by rw [ep, eq]; show prI _ _ _ = true; rw [prI_ne]; simpa using hpq)
  · obtain ⟨x, hx, y, hy, e⟩ := dueV_elim e
    obtain ⟨i, ex⟩ := all_some h (List.mem_append.mpr (.inl hx))
    obtain ⟨j, ey⟩ := all_some h (List.mem_append.mpr (.inr hy))
    rw [ex, ey] at e
    have e : prI (Str.ofString "!=") i j = true := e
    rw [prI_ne] at e
    have hij : i ≠ j := by simpa using e
    have := firstMet_gt.mpr ⟨i, mem_ns.mpr ⟨x, List.mem_append.mpr (.inl hx), ex⟩, j, mem_ns.mpr ⟨y, List.mem_append.mpr (.inr hy), ey⟩, hij⟩
    rw [hlen]
    exact decide_eq_true (by omega)
theorem due_eqs (ho : (op == Str.ofString "=") = true) : (!(List.filter (fun v => (List.filter (fun v => (rkOf v).isSome) vs2).any fun y => rkOf y == rkOf v) (List.filter (fun v => (rkOf v).isSome) vs1)).isEmpty) = dueV op vs1 vs2 := by
  have hop : op = Str.ofString "=" := by simpa using ho
  subst hop
  refine bool_ext ⟨fun e => ?_, fun e => ?_⟩
  · have e : (List.filter (fun v => (List.filter (fun v => (rkOf v).isSome) vs2).any fun y => rkOf y == rkOf v) (List.filter (fun v => (rkOf v).isSome) vs1)).isEmpty = false := by simpa using e
    obtain ⟨x, hx⟩ := ne_empty e
    obtain ⟨hx, hy⟩ := List.mem_filter.mp hx
    obtain ⟨hx, sx⟩ := List.mem_filter.mp hx
    obtain ⟨y, hy, exy⟩ := List.any_eq_true.mp hy
    obtain ⟨hy, sy⟩ := List.mem_filter.mp hy
    have exy : rkOf y = rkOf x := by simpa using exy
    obtain ⟨i, ei⟩ := Option.isSome_iff_exists.mp sx
    refine dueV_true hx hy ?_
    rw [exy, ei]
    show prI _ i i = true
    rw [prI_eq]; simp
  · obtain ⟨i, hi, j, hj, e⟩ := (due_iff (by decide)).mp e
    rw [prI_eq] at e
    have e : i = j := by simpa using e
    subst e
    obtain ⟨x, hx, ex⟩ := mem_ns.mp hi
    obtain ⟨y, hy, ey⟩ := mem_ns.mp hj
    have : x ∈ List.filter (fun v => (List.filter (fun v => (rkOf v).isSome) vs2).any fun y => rkOf y == rkOf v) (List.filter (fun v => (rkOf v).isSome) vs1) :=
      List.mem_filter.mpr ⟨List.mem_filter.mpr ⟨hx, by rw [ex]; rfl⟩, List.any_eq_true.mpr ⟨y, List.mem_filter.mpr ⟨hy, by rw [ey]; rfl⟩, by rw [ex, ey]; simp⟩⟩
    cases hq : (List.filter (fun v => (List.filter (fun v => (rkOf v).isSome) vs2).any fun y => rkOf y == rkOf v) (List.filter (fun v => (rkOf v).isSome) vs1)) with
    | nil => rw [hq] at this; cases this
    | cons _ _ => rfl
theorem op_lt (h6 : op ∈ ops6) (h1 : (op == Str.ofString "!=") = false) (h2 : (op == Str.ofString "=") = false) (h3 : (Txt.item op 0 == Str.ofString "<") = true) : op = Str.ofString "<" ∨ op = Str.ofString "<=" := by
  simp only [ops6, List.mem_cons, List.not_mem_nil, or_false] at h6
  rcases h6 with rfl | rfl | rfl | rfl | rfl | rfl
  · exact absurd h2 (by decide)
  · exact absurd h1 (by decide)
  · exact .inl rfl
  · exact .inr rfl
  · exact absurd h3 (by decide +kernel)
  · exact absurd h3 (by decide +kernel)
theorem op_gt (h6 : op ∈ ops6) (h1 : (op == Str.ofString "!=") = false) (h2 : (op == Str.ofString "=") = false) (h3 : (Txt.item op 0 == Str.ofString "<") = false) : op = Str.ofString ">" ∨ op = Str.ofString ">=" := by
  simp only [ops6, List.mem_cons, List.not_mem_nil, or_false] at h6
  rcases h6 with rfl | rfl | rfl | rfl | rfl | rfl
  · exact absurd h2 (by decide)
  · exact absurd h1 (by decide)
  · exact absurd h3 (by decide +kernel)
  · exact absurd h3 (by decide +kernel)
  · exact .inl rfl
  · exact .inr rfl
theorem due_lt1 {M1 M2 : Int} (ho : op = Str.ofString "<" ∨ op = Str.ofString "<=") (m1 : M1 ∈ vs1.filterMap rkOf) (m2 : M2 ∈ vs2.filterMap rkOf) (h : M1 < M2) : decide (M1 < M2) = dueV op vs1 vs2 := by
  rw [decide_eq_true h]
  symm
  rcases ho with rfl | rfl
  · exact (due_iff (by decide)).mpr ⟨M1, m1, M2, m2, by rw [prI_lt]; exact decide_eq_true h⟩
  · exact (due_iff (by decide)).mpr ⟨M1, m1, M2, m2, by rw [prI_le]; exact decide_eq_true (Int.le_of_lt h)⟩
theorem due_lt2 {M1 M2 : Int} (h : M1 = M2) (ho : op = Str.ofString "<" ∨ op = Str.ofString "<=") (m1 : M1 ∈ vs1.filterMap rkOf) (l1 : ∀ a ∈ vs1.filterMap rkOf, M1 ≤ a) (m2 : M2 ∈ vs2.filterMap rkOf) (l2 : ∀ a ∈ vs2.filterMap rkOf, a ≤ M2) : (op == Str.ofString "<=") = dueV op vs1 vs2 := by
  rcases ho with rfl | rfl
  · refine bool_ext ⟨fun e => absurd e (by decide), fun e => ?_⟩
    obtain ⟨i, hi, j, hj, e⟩ := (due_iff (by decide)).mp e
    rw [prI_lt] at e
    have := of_decide_eq_true e
    have := l1 i hi
    have := l2 j hj
    omega
  · symm
    exact (due_iff (by decide)).mpr ⟨M1, m1, M2, m2, by rw [prI_le]; exact decide_eq_true (Int.le_of_eq h)⟩
theorem due_lt3 {M1 M2 M3 M4 : Int} (hn : ¬ M1 < M2) (h : M3 ≠ M4) (ho : op = Str.ofString "<" ∨ op = Str.ofString "<=") (l1 : ∀ a ∈ vs1.filterMap rkOf, M1 ≤ a) (l2 : ∀ a ∈ vs2.filterMap rkOf, a ≤ M2) (m1 : M3 ∈ vs1.filterMap rkOf) (l3 : ∀ a ∈ vs1.filterMap rkOf, M3 ≤ a) (m2 : M4 ∈ vs2.filterMap rkOf) (l4 : ∀ a ∈ vs2.filterMap rkOf, a ≤ M4) : (M3 == M4) = dueV op vs1 vs2 := by
  refine bool_ext ⟨fun e => absurd (by simpa using e) h, fun e => ?_⟩
  have a1 := l1 M3 m1
  have a2 := l2 M4 m2
  rcases ho with rfl | rfl
  · obtain ⟨i, hi, j, hj, e⟩ := (due_iff (by decide)).mp e
    rw [prI_lt] at e
    have := of_decide_eq_true e
    have := l3 i hi
    have := l4 j hj
    omega
  · obtain ⟨i, hi, j, hj, e⟩ := (due_iff (by decide)).mp e
    rw [prI_le] at e
    have := of_decide_eq_true e
    have := l3 i hi
    have := l4 j hj
    omega
theorem due_gt1 {M1 M2 : Int} (ho : op = Str.ofString ">" ∨ op = Str.ofString ">=") (m1 : M1 ∈ vs1.filterMap rkOf) (m2 : M2 ∈ vs2.filterMap rkOf) (h : M2 < M1) : decide (M2 < M1) = dueV op vs1 vs2 := by
  rw [decide_eq_true h]
  symm
  rcases ho with rfl | rfl
  · exact (due_iff (by decide)).mpr ⟨M1, m1, M2, m2, by rw [prI_gt]; exact decide_eq_true h⟩
  · exact (due_iff (by decide)).mpr ⟨M1, m1, M2, m2, by rw [prI_ge]; exact decide_eq_true (Int.le_of_lt h)⟩
theorem due_gt2 {M1 M2 : Int} (h : M1 = M2) (ho : op = Str.ofString ">" ∨ op = Str.ofString ">=") (m1 : M1 ∈ vs1.filterMap rkOf) (l1 : ∀ a ∈ vs1.filterMap rkOf, a ≤ M1) (m2 : M2 ∈ vs2.filterMap rkOf) (l2 : ∀ a ∈ vs2.filterMap rkOf, M2 ≤ a) : (op == Str.ofString ">=") = dueV op vs1 vs2 := by
  rcases ho with rfl | rfl
  · refine bool_ext ⟨fun e => absurd e (by decide), fun e => ?_⟩
    obtain ⟨i, hi, j, hj, e⟩ := (due_iff (by decide)).mp e
    rw [prI_gt] at e
    have := of_decide_eq_true e
    have := l1 i hi
    have := l2 j hj
    omega
  · symm
    exact (due_iff (by decide)).mpr ⟨M1, m1, M2, m2, by rw [prI_ge]; exact decide_eq_true (Int.le_of_eq h.symm)⟩
theorem due_gt3 {M1 M2 M3 M4 : Int} (hn : ¬ M2 < M1) (h : M3 ≠ M4) (ho : op = Str.ofString ">" ∨ op = Str.ofString ">=") (l1 : ∀ a ∈ vs1.filterMap rkOf, a ≤ M1) (l2 : ∀ a ∈ vs2.filterMap rkOf, M2 ≤ a) (m1 : M3 ∈ vs1.filterMap rkOf) (l3 : ∀ a ∈ vs1.filterMap rkOf, a ≤ M3) (m2 : M4 ∈ vs2.filterMap rkOf) (l4 : ∀ a ∈ vs2.filterMap rkOf, M4 ≤ a) : (M3 == M4) = dueV op vs1 vs2 := by
  refine bool_ext ⟨fun e => absurd (by simpa using e) h, fun e => ?_⟩
  have a1 := l1 M3 m1
  have a2 := l2 M4 m2
  rcases ho with rfl | rfl
  · obtain ⟨i, hi, j, hj, e⟩ := (due_iff (by decide)).mp e
    rw [prI_gt] at e
    have := of_decide_eq_true e
    have := l3 i hi
    have := l4 j hj
    omega
  · obtain ⟨i, hi, j, hj, e⟩ := (due_iff (by decide)).mp e
    rw [prI_ge] at e
    have := of_decide_eq_true e
    have := l3 i hi
    have := l4 j hj
    omega
end
theorem in_conv {i : Int} {t : Tok} : ∀ {vs : List Value} {ns : List Int}, IntsAre vs ns → (vs.any fun y => rkOf y == rkOf (Value.int i t)) = ns.any fun x => x == i
  | _, _, .nil => rfl
  | _, _, .cons j u h => by
    rw [List.any_cons, List.any_cons, in_conv h]
    rfl
theorem op6_ok : ∀ {op : Str}, op ∈ ops6 → OpOk op := by
  have all : ∀ op ∈ ops6, 0 < op.length ∧ op.length ≤ 2 := by decide +kernel
  exact fun {op} h => all op h

end
section
theorem words_36001 : True := by
  k_with_none
  (k_with "@my enter" => (refine' code_def ?w9k1 ?w9k2 ?w9k3 ?w9k4 ?w9k5 ?w9kA ?w9kF ?w9kK ?w9k6 ?w9k7 ?w9k8 ?w9k9 ?w9kB ?_ ?w9c2 ?w9c3 ?w9c4 ?w9c5; (case w9kA => exact rfl); (case w9kF => exact rfl); (case w9kK => first | exact rfl | assumption); (case w9k1 => k_asm); (case w9k2 => k_asm); (case w9k3 => k_asm); (case w9k4 => k_asm); (case w9k5 => k_asm); (case w9k6 => k_is); (case w9k7 => k_is); (case w9k8 => ktr_room); (case w9k9 => first | exact BindsTo.of_eq rfl | exact binds_K (by k_in) rfl (by k_is) rfl rfl rfl); (case w9c5 => decide); (case w9kB => exact locs rfl); (case w9c2 => exact rfl); (case w9c3 => exact rfl); (case w9c4 => exact rfl); k_whole; intro g' L' h' FG' F' N' B' X' T'; (try dsimp only); (try k_lift B'); (try k_fold)))
  (k_with "@my enterC" => (refine' code_defC ?w9k1 ?w9k2 ?w9k3 ?w9k4 ?w9k5 ?w9kA ?w9kF ?w9kK ?w9k6 ?w9k7 ?w9k8 ?w9k9 ?w9kB ?w9kD ?_ ?w9c2 ?w9c3 ?w9c4; (case w9kA => exact rfl); (case w9kF => exact rfl); (case w9kK => first | exact rfl | assumption); (case w9k1 => k_asm); (case w9k2 => k_asm); (case w9k3 => k_asm); (case w9k4 => k_asm); (case w9k5 => k_asm); (case w9k6 => k_is); (case w9k7 => k_is); (case w9k8 => ktr_room); (case w9k9 => exact BindsTo.of_eq rfl); (case w9kB => exact rfl); (case w9kD => decide +kernel); (case w9c2 => exact rfl); (case w9c3 => exact rfl); (case w9c4 => exact rfl); k_whole; intro g' L' h' tk' cells' FG' F' N' Y' B' X' T' l1; k_cells Y'; (try simp only [List.cons_append, List.nil_append] at N'); (try dsimp only); (try k_lift B'); (try k_fold)))
  (k_with "@use led" => first | k_asm | exact News.sw1 (by k_asm) | exact News.sw2 (by k_asm) | exact News.sw3 (by k_asm) | exact News.sw4 (by k_asm) | exact News.sw5 (by k_asm) | exact News.sw6 (by k_asm) | exact News.sw7 (by k_asm) | exact News.sw8 (by k_asm) | exact News.sw9 (by k_asm) | exact News.sw10 (by k_asm) | exact News.sw11 (by k_asm) | exact News.sw12 (by k_asm) | exact News.sw13 (by k_asm) | exact News.sw14 (by k_asm) | exact News.sw15 (by k_asm) | exact News.sw16 (by k_asm) | exact News.sw17 (by k_asm) | exact News.sw18 (by k_asm) | exact News.sw19 (by k_asm) | exact News.sw20 (by k_asm) | exact News.sw21 (by k_asm) | exact News.sw22 (by k_asm) | exact News.sw23 (by k_asm) | exact News.sw24 (by k_asm) | exact News.sw25 (by k_asm) | exact News.sw26 (by k_asm))
  (k_with "k_all" => assumption)
  (k_with "@use pre 1" => first | assumption | omega | k_mem | k_all | rfl)
  (k_with "@use pre" => ((repeat' (first | (with_reducible refine And.intro ?_ ?_) | fail)); all_goals (walk_at "use pre 1")))
  (k_with "k_mem" => assumption)
  (k_with "@eval Call" => ((with_reducible show wpAny _ _ (eval (Expr.Call (Expr.Name _ _) _ [] _) _) _ _ _); k_dflt (refine Call_ ?_)))
  (k_with "@end led" => first | k_asm | exact News.d1 (by k_asm) | exact News.d2 (by k_asm) | exact News.d3 (by k_asm) | exact News.d4 (by k_asm) | exact News.d5 (by k_asm) | exact News.d6 (by k_asm) | exact News.d7 (by k_asm) | exact News.d8 (by k_asm) | exact News.d9 (by k_asm) | exact News.d10 (by k_asm) | exact News.d11 (by k_asm) | exact News.d12 (by k_asm))
  (k_with "@pyIter str" => k_extra "pyIter str")
  (k_with "@pyIter ref" => k_extra "pyIter ref")
  (k_with "@end led1" => first | k_asm | exact News.h1 (by k_asm) | exact News.h2 (by k_asm) | exact News.h3 (by k_asm) | exact News.h4 (by k_asm) | exact News.h5 (by k_asm) | exact News.h6 (by k_asm) | exact News.h7 (by k_asm) | exact News.h8 (by k_asm) | exact News.h9 (by k_asm))
  (k_with "@eval Name" => (k_here; k_dflt (first | (refine' nameX_L ?w9F ?w9v ?_ ?w9a ?w9b; (case w9F => k_asm); (case w9a => rfl); (case w9b => rfl); (case w9v => rfl); k_whole) | (refine' nameX_K ?w9F ?w9X ?w9T ?w9e ?_ ?w9a ?w9b; (case w9F => k_asm); (case w9X => k_asm); (case w9T => k_asm); (case w9a => rfl); (case w9b => rfl); (case w9e => k_is); k_whole) | (refine' nameX_B ?w9F ?w9X ?w9T ?w9e ?w9v ?w9n ?_ ?w9a ?w9b; (case w9F => k_asm); (case w9X => k_asm); (case w9T => k_asm); (case w9a => rfl); (case w9b => rfl); (case w9e => k_is); (case w9v => boot_fast); (case w9n => decide); k_whole))))
  (k_with "k_ne" => first | assumption | exact Nat.ne_of_gt (by assumption) | exact Nat.ne_of_lt (by assumption) | exact ne_p1 (by with_reducible assumption) | exact ne_p2 (by with_reducible assumption) | exact ne_p3 (by with_reducible assumption) | exact ne_p4 (by with_reducible assumption) | exact ne_p5 (by with_reducible assumption) | exact ne_p6 (by with_reducible assumption) | exact ne_p7 (by with_reducible assumption) | exact ne_p8 (by with_reducible assumption) | exact ne_q1 (by with_reducible assumption) | exact ne_q2 (by with_reducible assumption) | exact ne_q3 (by with_reducible assumption) | exact ne_q4 (by with_reducible assumption) | exact ne_q5 (by with_reducible assumption) | exact ne_q6 (by with_reducible assumption) | exact ne_q7 (by with_reducible assumption) | exact ne_q8 (by with_reducible assumption))
  trivial
section
theorem words_36002 : True := by
  (k_with "@my ranks" => first | assumption | exact rank_nil | (refine rank_consI ?_; walk_at "my ranks") | (refine rank_consN ?_; walk_at "my ranks"))
  (k_with "@my rankv" => first | assumption | exact RankV.int | exact RankV.none | exact RVal.rankV (by assumption))
  (k_with "@compareOp NotIn" => (k_here; (with_reducible show wpAny _ _ (compareOp CmpOp.NotIn _ (Value.ref _)) _ _ _); k_dflt (refine' notin_ranks ?w9rN ?w9rm ?w9rv ?w9rx ?_; (case w9rN => k_asm); (case w9rm => k_mem); (case w9rv => walk_at "my ranks"); (case w9rx => walk_at "my rankv"))))
  (k_with "@compareOp In" => (k_here; (with_reducible show wpAny _ _ (compareOp CmpOp.In _ (Value.ref _)) _ _ _); k_dflt (refine' in_ranks ?w9rN ?w9rm ?w9rv ?w9rx ?_; (case w9rN => k_asm); (case w9rm => k_mem); (case w9rv => walk_at "my ranks"); (case w9rx => walk_at "my rankv"))))
  (k_with "@my strs" => first | assumption | exact str_nil | (refine str_cons ?_; walk_at "my strs"))
  (k_with "@compareOp In" => (k_here; (with_reducible show wpAny _ _ (compareOp CmpOp.In (Value.str _ _) (Value.ref _)) _ _ _); k_dflt (refine' in_strs ?w9sN ?w9sm ?w9sv ?_; (case w9sN => k_asm); (case w9sm => k_mem); (case w9sv => walk_at "my strs"))))
  (k_with "@subscriptTail Name Constant str int" => (k_here; (with_reducible show wpAny _ _ (subscriptTail _ _ (Value.str _ _) (Value.int 0 _)) _ _ _); k_dflt (refine' item_op ?w9i0 ?_ ?w9i1 ?w9i2; (case w9i0 => assumption); (case w9i1 => with_unfolding_all rfl); (case w9i2 => (intro _; with_unfolding_all rfl)))))
  trivial

theorem words_36003 : True := by
  (k_with "@compareOp Eq ref ref" => (k_here; (with_reducible show wpAny _ _ (compareOp CmpOp.Eq (Value.ref _) (Value.ref _)) _ _ _); k_dflt (refine' eq_nil ?w9rN ?w9rm ?w9rd ?w9ru ?_; (case w9rN => k_asm); (case w9rm => k_mem); (case w9rd => k_mem); (case w9ru => ktr_units))))
  (k_with "@compareOp NotEq ref ref" => (k_here; (with_reducible show wpAny _ _ (compareOp CmpOp.NotEq (Value.ref _) (Value.ref _)) _ _ _); k_dflt (refine' ne_nil ?w9rN ?w9rm ?w9rd ?w9ru ?_; (case w9rN => k_asm); (case w9rm => k_mem); (case w9rd => k_mem); (case w9ru => ktr_units))))
  (k_with "@binaryOp Add ref ref" => (k_here; (with_reducible show wpAny _ _ (binaryOp _ (Value.ref _) (Value.ref _)) _ _ _); k_dflt (refine' add_l ?w9rF ?w9rN ?w9rm ?w9rd ?w9ru ?_; (case w9rF => k_asm); (case w9rN => k_asm); (case w9rm => k_mem); (case w9rd => k_mem); (case w9ru => omega)); intro D' h' F' N' l1; (try k_sweep)))
  (k_with "@CompSrcT" => (k_here; k_dflt (refine LCt.CompSrcT.ledger (by rfl) (by k_asm) (by k_asm) (by k_mem) (by (rw [List.size_toArray]; exact Nat.le_trans (by first | assumption | omega) (by decide : 100 ≤ sizeLine))) ?_; intro g')))
  (k_with "@CompRestT" => k_extra "CompRestT")
  (k_with "k_all" => exact ne_of_all1 (by assumption))
  (k_with "@call builtin:min" => (k_here; (with_reducible show wpAny _ _ (call (Value.builtin _) [Value.ref _]) _ _ _); k_dflt (refine' my_min ?w9mF ?w9mN ?w9mm ?w9mi ?w9mn ?w9mh ?_; (case w9mF => k_asm); (case w9mN => k_asm); (case w9mm => k_mem); (case w9mi => assumption); (case w9mn => assumption); (case w9mh => with_unfolding_all rfl)); intro h' M' t' k' F' N' a' b'; (try k_sweep)))
  (k_with "@call builtin:max" => (k_here; (with_reducible show wpAny _ _ (call (Value.builtin _) [Value.ref _]) _ _ _); k_dflt (refine' my_max ?w9mF ?w9mN ?w9mm ?w9mi ?w9mn ?w9mh ?_; (case w9mF => k_asm); (case w9mN => k_asm); (case w9mm => k_mem); (case w9mi => assumption); (case w9mn => assumption); (case w9mh => with_unfolding_all rfl)); intro h' M' t' k' F' N' a' b'; (try k_sweep)))
  (k_with "@call type:set" => (k_here; (with_reducible show wpAny _ _ (call (Value.type "set") [Value.ref _]) _ _ _); k_dflt (refine' my_set ?w9mF ?w9mN ?w9mh ?w9mm ?w9mi ?w9mb ?_; (case w9mF => k_asm); (case w9mN => k_asm); (case w9mh => with_unfolding_all rfl); (case w9mm => k_mem); (case w9mi => exact ints_of (rank_app (by assumption) (by assumption)) (by assumption)); (case w9mb => (rw [List.length_append]; omega))); intro D' h' tk' o' F' N' hso' l1; (try k_sweep)))
  (k_with "@call builtin:len" => (k_here; (with_reducible show wpAny _ _ (call (Value.builtin "len") [Value.ref _]) _ _ _); k_dflt (refine' my_setlen2 ?w9mN ?w9ms ?w9mk ?_; (case w9mN => k_asm); (case w9ms => assumption); (case w9mk => (rw [List.length_append]; omega)))))
  (k_with "@eval ListComp" => (k_here; lct_look; k_dflt (refine LCt.ListComp_T (F₀ := by k_asm) (by with_unfolding_all rfl) (by decide) (by rfl) (by decide) (by rfl) ?_); k_dflt lct_toSrc))
  (k_with "@my ranks" => (refine rank_app ?_ ?_ <;> assumption))
  trivial
theorem c_due (w : World) {led : Led} {op : Str} {tk : Tok} {l1 l2 : Addr} {vs1 vs2 : List Value} {n1 n2 : Nat} (hp : op ∈ ops6 ∧ ((l1, listOf vs1.toArray n1) ∈ led ∧ (∀ y ∈ vs1, RankV y) ∧ vs1.length ≤ 4) ∧ ((l2, listOf vs2.toArray n2) ∈ led ∧ (∀ y ∈ vs2, RankV y) ∧ vs2.length ≤ 4)) :
    Ctr w 473 2 led [.str op tk, .ref l1, .ref l2] (fun r led' => led' = led ∧ r = .bool (dueV op vs1 vs2)) := by
  obtain ⟨h6, ⟨hm1, hv1, hl1⟩, hm2, hv2, hl2⟩ := hp
  have ho : OpOk op := op6_ok h6
  unfold Ctr
  k_fill
  intro mean mg mb dp un gd cn cs aa ccd cl outer A₀ base h₀ L m s Q E B F X N T hk hdp hun hret
  refine wpAny_call ?_
  k_dflt (first | walk_at "my enter" | walk_at "my enterC")
  have hF1 : IntsAre _ _ := ints_filter hv1
  have hF2 : IntsAre _ _ := ints_filter hv2
  have hlf1 : (vs1.filter fun v => (rkOf v).isSome).length ≤ 100 := Nat.le_trans (List.length_filter_le _ vs1) (Nat.le_trans hl1 (by decide))
  have hR2 : ∀ y ∈ vs2.filter fun v => (rkOf v).isSome, RankV y := rank_filter hv2
  (k_with "CompRestT" => ((with_unfolding_all refine restT_filter (fun v => (rkOf v).isSome) (.inr ⟨_, by k_mem, rfl, _, rfl⟩) (fun v I oI C oC D ys9 m9 h9 tk9 E9 hv9 hC9 hx9 F9 N9 => ?_) ?_) <;> (try obtain rfl | ⟨i9, t9, rfl⟩ := rank_cases (hv1 _ hv9)) <;> (try obtain rfl | ⟨i9, t9, rfl⟩ := rank_cases (hv2 _ hv9))))
  (k_with "CompRestT" => ((with_reducible show LCt.CompRestT _ _ _ _ _ _ _ (Expr.Compare _ [CmpOp.In] _ _) _ _ _ _ _ _ _ _ _ _ _ _); (with_unfolding_all refine restT_filter (fun v => (vs2.filter fun v => (rkOf v).isSome).any fun y => rkOf y == rkOf v) (.inr ⟨_, by k_mem, rfl, _, rfl⟩) (fun v I oI C oC D ys9 m9 h9 tk9 E9 hv9 hC9 hx9 F9 N9 => ?_) ?_) <;> (try obtain ⟨i9, t9, rfl⟩ := isI_cases hv1 hv9)))
  k_steps
  · exact fin hret (by k_asm) (by walk_at "end led") ⟨rfl, congrArg Value.bool (due_nil1 (by assumption))⟩
  · exact fin hret (by k_asm) (by walk_at "end led") ⟨rfl, congrArg Value.bool (due_nil2 (by assumption))⟩
  · exact fin hret (by k_asm) (by walk_at "end led") ⟨rfl, congrArg Value.bool (due_none (by assumption) (by assumption) (by assumption) (by assumption))⟩
  · exact fin hret (by k_asm) (by walk_at "end led") ⟨rfl, congrArg Value.bool (due_set hv1 hv2 (by assumption) (by assumption) (by assumption) (by assumption))⟩
  · exact ⟨_, _, rfl, by k_asm, by k_asm, rfl⟩
  · exact ⟨_, _, rfl, by k_asm, by k_asm, rfl, rfl⟩
  · exact ⟨_, _, rfl, by k_asm, by k_asm, rfl⟩
  · exact ⟨_, _, rfl, by k_asm, by k_asm, rfl, rfl⟩
  · exact fin hret (by k_asm) (by walk_at "end led") ⟨rfl, congrArg Value.bool (due_low1 (by assumption) (by assumption))⟩
  · exact fin hret (by k_asm) (by walk_at "end led") ⟨rfl, congrArg Value.bool (due_low2 (by assumption) (by assumption))⟩
  · exact ⟨_, _, rfl, by k_asm, by k_asm, rfl, (in_conv hF2).trans (by assumption)⟩
  · exact ⟨_, _, rfl, by k_asm, by k_asm, (in_conv hF2).trans (by assumption)⟩
  · exact fin hret (by k_asm) (by walk_at "end led") ⟨rfl, congrArg Value.bool (due_eqs (by assumption))⟩
  · exact fin hret (by k_asm) (by walk_at "end led") ⟨rfl, congrArg Value.bool (due_lt1 (op_lt h6 (by assumption) (by assumption) (by assumption)) (by assumption) (by assumption) (by assumption))⟩
  · exact fin hret (by k_asm) (by walk_at "end led") ⟨rfl, congrArg Value.bool (due_lt2 (by assumption) (op_lt h6 (by assumption) (by assumption) (by assumption)) (by assumption) (by assumption) (by assumption) (by assumption))⟩
  · exact fin hret (by k_asm) (by walk_at "end led") ⟨rfl, congrArg Value.bool (due_lt3 (by assumption) (by assumption) (op_lt h6 (by assumption) (by assumption) (by assumption)) (by assumption) (by assumption) (by assumption) (by assumption) (by assumption) (by assumption))⟩
  · exact fin hret (by k_asm) (by walk_at "end led") ⟨rfl, congrArg Value.bool (due_gt1 (op_gt h6 (by assumption) (by assumption) (by assumption)) (by assumption) (by assumption) (by assumption))⟩
  · exact fin hret (by k_asm) (by walk_at "end led") ⟨rfl, congrArg Value.bool (due_gt2 (by assumption) (op_gt h6 (by assumption) (by assumption) (by assumption)) (by assumption) (by assumption) (by assumption) (by assumption))⟩
  · exact fin hret (by k_asm) (by walk_at "end led") ⟨rfl, congrArg Value.bool (due_gt3 (by assumption) (by assumption) (op_gt h6 (by assumption) (by assumption) (by assumption)) (by assumption) (by assumption) (by assumption) (by assumption) (by assumption) (by assumption))⟩

end
theorem words_36004 : True := by
  k_with_none
  (k_with "@my enter" => (refine' code_def ?w9k1 ?w9k2 ?w9k3 ?w9k4 ?w9k5 ?w9kA ?w9kF ?w9kK ?w9k6 ?w9k7 ?w9k8 ?w9k9 ?w9kB ?_ ?w9c2 ?w9c3 ?w9c4 ?w9c5; (case w9kA => exact rfl); (case w9kF => exact rfl); (case w9kK => first | exact rfl | assumption); (case w9k1 => k_asm); (case w9k2 => k_asm); (case w9k3 => k_asm); (case w9k4 => k_asm); (case w9k5 => k_asm); (case w9k6 => k_is); (case w9k7 => k_is); (case w9k8 => ktr_room); (case w9k9 => first | exact BindsTo.of_eq rfl | exact binds_K (by k_in) rfl (by k_is) rfl rfl rfl); (case w9c5 => decide); (case w9kB => exact locs rfl); (case w9c2 => exact rfl); (case w9c3 => exact rfl); (case w9c4 => exact rfl); k_whole; intro g' L' h' FG' F' N' B' X' T'; (try dsimp only); (try k_lift B'); (try k_fold)))
  (k_with "@my enterC" => (refine' code_defC ?w9k1 ?w9k2 ?w9k3 ?w9k4 ?w9k5 ?w9kA ?w9kF ?w9kK ?w9k6 ?w9k7 ?w9k8 ?w9k9 ?w9kB ?w9kD ?_ ?w9c2 ?w9c3 ?w9c4; (case w9kA => exact rfl); (case w9kF => exact rfl); (case w9kK => first | exact rfl | assumption); (case w9k1 => k_asm); (case w9k2 => k_asm); (case w9k3 => k_asm); (case w9k4 => k_asm); (case w9k5 => k_asm); (case w9k6 => k_is); (case w9k7 => k_is); (case w9k8 => ktr_room); (case w9k9 => exact BindsTo.of_eq rfl); (case w9kB => exact rfl); (case w9kD => decide +kernel); (case w9c2 => exact rfl); (case w9c3 => exact rfl); (case w9c4 => exact rfl); k_whole; intro g' L' h' tk' cells' FG' F' N' Y' B' X' T' l1; k_cells Y'; (try simp only [List.cons_append, List.nil_append] at N'); (try dsimp only); (try k_lift B'); (try k_fold)))
  (k_with "@use led" => first | k_asm | exact News.sw1 (by k_asm) | exact News.sw2 (by k_asm) | exact News.sw3 (by k_asm) | exact News.sw4 (by k_asm) | exact News.sw5 (by k_asm) | exact News.sw6 (by k_asm) | exact News.sw7 (by k_asm) | exact News.sw8 (by k_asm) | exact News.sw9 (by k_asm) | exact News.sw10 (by k_asm) | exact News.sw11 (by k_asm) | exact News.sw12 (by k_asm) | exact News.sw13 (by k_asm) | exact News.sw14 (by k_asm) | exact News.sw15 (by k_asm) | exact News.sw16 (by k_asm) | exact News.sw17 (by k_asm) | exact News.sw18 (by k_asm) | exact News.sw19 (by k_asm) | exact News.sw20 (by k_asm) | exact News.sw21 (by k_asm) | exact News.sw22 (by k_asm) | exact News.sw23 (by k_asm) | exact News.sw24 (by k_asm) | exact News.sw25 (by k_asm) | exact News.sw26 (by k_asm))
  (k_with "k_all" => assumption)
  (k_with "@use pre 1" => first | assumption | omega | k_mem | k_all | rfl)
  (k_with "@use pre" => ((repeat' (first | (with_reducible refine And.intro ?_ ?_) | fail)); all_goals (walk_at "use pre 1")))
  (k_with "k_mem" => assumption)
  (k_with "@eval Call" => ((with_reducible show wpAny _ _ (eval (Expr.Call (Expr.Name _ _) _ [] _) _) _ _ _); k_dflt (refine Call_ ?_)))
  (k_with "@end led" => first | k_asm | exact News.d1 (by k_asm) | exact News.d2 (by k_asm) | exact News.d3 (by k_asm) | exact News.d4 (by k_asm) | exact News.d5 (by k_asm) | exact News.d6 (by k_asm) | exact News.d7 (by k_asm) | exact News.d8 (by k_asm) | exact News.d9 (by k_asm) | exact News.d10 (by k_asm) | exact News.d11 (by k_asm) | exact News.d12 (by k_asm))
  (k_with "@pyIter str" => k_extra "pyIter str")
  (k_with "@pyIter ref" => k_extra "pyIter ref")
  (k_with "@end led1" => first | k_asm | exact News.h1 (by k_asm) | exact News.h2 (by k_asm) | exact News.h3 (by k_asm) | exact News.h4 (by k_asm) | exact News.h5 (by k_asm) | exact News.h6 (by k_asm) | exact News.h7 (by k_asm) | exact News.h8 (by k_asm) | exact News.h9 (by k_asm))
  (k_with "@eval Name" => (k_here; k_dflt (first | (refine' nameX_L ?w9F ?w9v ?_ ?w9a ?w9b; (case w9F => k_asm); (case w9a => rfl); (case w9b => rfl); (case w9v => rfl); k_whole) | (refine' nameX_K ?w9F ?w9X ?w9T ?w9e ?_ ?w9a ?w9b; (case w9F => k_asm); (case w9X => k_asm); (case w9T => k_asm); (case w9a => rfl); (case w9b => rfl); (case w9e => k_is); k_whole) | (refine' nameX_B ?w9F ?w9X ?w9T ?w9e ?w9v ?w9n ?_ ?w9a ?w9b; (case w9F => k_asm); (case w9X => k_asm); (case w9T => k_asm); (case w9a => rfl); (case w9b => rfl); (case w9e => k_is); (case w9v => boot_fast); (case w9n => decide); k_whole))))
  (k_with "k_ne" => first | assumption | exact Nat.ne_of_gt (by assumption) | exact Nat.ne_of_lt (by assumption) | exact ne_p1 (by with_reducible assumption) | exact ne_p2 (by with_reducible assumption) | exact ne_p3 (by with_reducible assumption) | exact ne_p4 (by with_reducible assumption) | exact ne_p5 (by with_reducible assumption) | exact ne_p6 (by with_reducible assumption) | exact ne_p7 (by with_reducible assumption) | exact ne_p8 (by with_reducible assumption) | exact ne_q1 (by with_reducible assumption) | exact ne_q2 (by with_reducible assumption) | exact ne_q3 (by with_reducible assumption) | exact ne_q4 (by with_reducible assumption) | exact ne_q5 (by with_reducible assumption) | exact ne_q6 (by with_reducible assumption) | exact ne_q7 (by with_reducible assumption) | exact ne_q8 (by with_reducible assumption))
  trivial

end
section
theorem words_37001 : True := by
  k_with_none
  (k_with "@my enter" => (refine' code_def ?w9k1 ?w9k2 ?w9k3 ?w9k4 ?w9k5 ?w9kA ?w9kF ?w9kK ?w9k6 ?w9k7 ?w9k8 ?w9k9 ?w9kB ?_ ?w9c2 ?w9c3 ?w9c4 ?w9c5; (case w9kA => exact rfl); (case w9kF => exact rfl); (case w9kK => first | exact rfl | assumption); (case w9k1 => k_asm); (case w9k2 => k_asm); (case w9k3 => k_asm); (case w9k4 => k_asm); (case w9k5 => k_asm); (case w9k6 => k_is); (case w9k7 => k_is); (case w9k8 => ktr_room); (case w9k9 => first | exact BindsTo.of_eq rfl | exact binds_K (by k_in) rfl (by k_is) rfl rfl rfl); (case w9c5 => decide); (case w9kB => exact locs rfl); (case w9c2 => exact rfl); (case w9c3 => exact rfl); (case w9c4 => exact rfl); k_whole; intro g' L' h' FG' F' N' B' X' T'; (try dsimp only); (try k_lift B'); (try k_fold)))
  (k_with "@my enterC" => (refine' code_defC ?w9k1 ?w9k2 ?w9k3 ?w9k4 ?w9k5 ?w9kA ?w9kF ?w9kK ?w9k6 ?w9k7 ?w9k8 ?w9k9 ?w9kB ?w9kD ?_ ?w9c2 ?w9c3 ?w9c4; (case w9kA => exact rfl); (case w9kF => exact rfl); (case w9kK => first | exact rfl | assumption); (case w9k1 => k_asm); (case w9k2 => k_asm); (case w9k3 => k_asm); (case w9k4 => k_asm); (case w9k5 => k_asm); (case w9k6 => k_is); (case w9k7 => k_is); (case w9k8 => ktr_room); (case w9k9 => exact BindsTo.of_eq rfl); (case w9kB => exact rfl); (case w9kD => decide +kernel); (case w9c2 => exact rfl); (case w9c3 => exact rfl); (case w9c4 => exact rfl); k_whole; intro g' L' h' tk' cells' FG' F' N' Y' B' X' T' l1; k_cells Y'; (try simp only [List.cons_append, List.nil_append] at N'); (try dsimp only); (try k_lift B'); (try k_fold)))
  (k_with "@use led" => first | k_asm | exact News.sw1 (by k_asm) | exact News.sw2 (by k_asm) | exact News.sw3 (by k_asm) | exact News.sw4 (by k_asm) | exact News.sw5 (by k_asm) | exact News.sw6 (by k_asm) | exact News.sw7 (by k_asm) | exact News.sw8 (by k_asm) | exact News.sw9 (by k_asm) | exact News.sw10 (by k_asm) | exact News.sw11 (by k_asm) | exact News.sw12 (by k_asm) | exact News.sw13 (by k_asm) | exact News.sw14 (by k_asm) | exact News.sw15 (by k_asm) | exact News.sw16 (by k_asm) | exact News.sw17 (by k_asm) | exact News.sw18 (by k_asm) | exact News.sw19 (by k_asm) | exact News.sw20 (by k_asm) | exact News.sw21 (by k_asm) | exact News.sw22 (by k_asm) | exact News.sw23 (by k_asm) | exact News.sw24 (by k_asm) | exact News.sw25 (by k_asm) | exact News.sw26 (by k_asm))
  (k_with "k_all" => assumption)
  (k_with "@use pre 1" => first | assumption | omega | k_mem | k_all | rfl)
  (k_with "@use pre" => ((repeat' (first | (with_reducible refine And.intro ?_ ?_) | fail)); all_goals (walk_at "use pre 1")))
  (k_with "k_mem" => assumption)
  (k_with "@eval Call" => ((with_reducible show wpAny _ _ (eval (Expr.Call (Expr.Name _ _) _ [] _) _) _ _ _); k_dflt (refine Call_ ?_)))
  (k_with "@end led" => first | k_asm | exact News.d1 (by k_asm) | exact News.d2 (by k_asm) | exact News.d3 (by k_asm) | exact News.d4 (by k_asm) | exact News.d5 (by k_asm) | exact News.d6 (by k_asm) | exact News.d7 (by k_asm) | exact News.d8 (by k_asm) | exact News.d9 (by k_asm) | exact News.d10 (by k_asm) | exact News.d11 (by k_asm) | exact News.d12 (by k_asm))
  (k_with "@pyIter str" => k_extra "pyIter str")
  (k_with "@pyIter ref" => k_extra "pyIter ref")
  (k_with "@end led1" => first | k_asm | exact News.h1 (by k_asm) | exact News.h2 (by k_asm) | exact News.h3 (by k_asm) | exact News.h4 (by k_asm) | exact News.h5 (by k_asm) | exact News.h6 (by k_asm) | exact News.h7 (by k_asm) | exact News.h8 (by k_asm) | exact News.h9 (by k_asm))
  (k_with "@eval Name" => (k_here; k_dflt (first | (refine' nameX_L ?w9F ?w9v ?_ ?w9a ?w9b; (case w9F => k_asm); (case w9a => rfl); (case w9b => rfl); (case w9v => rfl); k_whole) | (refine' nameX_K ?w9F ?w9X ?w9T ?w9e ?_ ?w9a ?w9b; (case w9F => k_asm); (case w9X => k_asm); (case w9T => k_asm); (case w9a => rfl); (case w9b => rfl); (case w9e => k_is); k_whole) | (refine' nameX_B ?w9F ?w9X ?w9T ?w9e ?w9v ?w9n ?_ ?w9a ?w9b; (case w9F => k_asm); (case w9X => k_asm); (case w9T => k_asm); (case w9a => rfl); (case w9b => rfl); (case w9e => k_is); (case w9v => boot_fast); (case w9n => decide); k_whole))))
  (k_with "k_ne" => first | assumption | exact Nat.ne_of_gt (by assumption) | exact Nat.ne_of_lt (by assumption) | exact ne_p1 (by with_reducible assumption) | exact ne_p2 (by with_reducible assumption) | exact ne_p3 (by with_reducible assumption) | exact ne_p4 (by with_reducible assumption) | exact ne_p5 (by with_reducible assumption) | exact ne_p6 (by with_reducible assumption) | exact ne_p7 (by with_reducible assumption) | exact ne_p8 (by with_reducible assumption) | exact ne_q1 (by with_reducible assumption) | exact ne_q2 (by with_reducible assumption) | exact ne_q3 (by with_reducible assumption) | exact ne_q4 (by with_reducible assumption) | exact ne_q5 (by with_reducible assumption) | exact ne_q6 (by with_reducible assumption) | exact ne_q7 (by with_reducible assumption) | exact ne_q8 (by with_reducible assumption))
  trivial
open PyProof.Rows.LCg
def GEnd (h₀ : Heap) (L : Addr) (m : Str → Option Value) (s₁ : Shared) (bag : Addr) (n : Nat) (big : Led) (Qv : Led → Value → Prop) (y : Value) (s₂ : Shared) : Prop :=
  ∃ h' tk a' b' ta' tb' new', s₂ = { s₁ with heap := h', toks := tk } ∧ Fr h₀ L h' m ∧ News h₀ L h' ((bag, bagO a' b' ta' tb' n) :: (new' ++ big)) ∧ (0 ≤ a' ∧ 0 ≤ b' ∧ b' < 2147483647) ∧ Qv new' y ∧ (∀ p ∈ new', p.1 ≠ bag) ∧ (∀ p ∈ new', ∀ q ∈ big, q.1 ≠ p.1)
section
variable {prog : Program} {w : World} {A : Around} {h₀ : Heap} {L : Addr} {m : Str → Option Value} {env : Env} {elt : Expr} {x : Str} {scope : Scope} {cl : List (Str × Addr)} {s : Shared} {Fin : List Value → Led → Prop} {bag : Addr} {n N : Nat} {R : Led} {a : Int}
theorem rest_grow (Qv : Led → Value → Prop) (mono : ∀ l k v, (∀ p ∈ l, p ∈ k) → Qv l v → Qv k v) (hne : ∀ p ∈ R, p.1 ≠ bag)
    (turn : ∀ v I oI C oC D ys a b ta tb new m₂ h tk (E' : Value → Shared → Prop), (0 ≤ a ∧ 0 ≤ b ∧ b < 2147483647) → (∀ p ∈ (I, oI) :: (C, oC) :: (D, lst ys) :: (new ++ R), p.1 ≠ bag) → NsObj oC m₂ → m₂ x = some v → Fr h₀ L h m →
      News h₀ L h ((bag, bagO a b ta tb n) :: (I, oI) :: (C, oC) :: (D, lst ys) :: (new ++ R)) →
      wpAny (model prog w) A (eval elt (compEnvC scope cl C env)) (GEnd h₀ L m { s with heap := h, toks := tk } bag n ((I, oI) :: (C, oC) :: (D, lst ys) :: (new ++ R)) Qv) E' { s with heap := h, toks := tk })
    (fin : ∀ ys a b ta tb new, ys.length = N → (0 ≤ a ∧ 0 ≤ b ∧ b < 2147483647) → (∀ y ∈ ys, Qv new y) → (∀ p ∈ new, p.1 ≠ bag) → (∀ p ∈ new, ∀ q ∈ R, q.1 ≠ p.1) → Fin ys ((bag, bagO a b ta tb n) :: (new ++ R)))
    {a₀ b₀ : Int} {ta₀ tb₀ : Tok} (h0 : 0 ≤ a₀ ∧ 0 ≤ b₀ ∧ b₀ < 2147483647) :
    CompRest prog w A h₀ L m env elt x scope cl s (fun _ => True) (fun i v => ∃ t, v = .int (a + (i : Int)) t) Fin N 0 [] ((bag, bagO a₀ b₀ ta₀ tb₀ n) :: R) := by
  have all : ∀ k i ys a₁ b₁ ta₁ tb₁ new, k + i = N → ys.length = i → (0 ≤ a₁ ∧ 0 ≤ b₁ ∧ b₁ < 2147483647) → (∀ p ∈ new, p.1 ≠ bag) → (∀ p ∈ new, ∀ q ∈ R, q.1 ≠ p.1) → (∀ y ∈ ys, Qv new y) →
      CompRest prog w A h₀ L m env elt x scope cl s (fun _ => True) (fun i v => ∃ t, v = .int (a + (i : Int)) t) Fin k i ys ((bag, bagO a₁ b₁ ta₁ tb₁ n) :: (new ++ R)) := by
    intro k
    induction k with
    | zero =>
      intro i ys a₁ b₁ ta₁ tb₁ new hi hy hab hnb hoff hq
      exact CompRest.zero (fin ys a₁ b₁ ta₁ tb₁ new (by omega) hab hq hnb hoff)
    | succ k ih =>
      intro i ys a₁ b₁ ta₁ tb₁ new hi hy hab hnb hoff hq
      refine CompRest.succ fun v I oI C oC D m₂ h tk E' hv hC hx F NN off ne => ?_
      have om := off.mem
      have hb := om _ (List.mem_cons_self (a := (bag, bagO a₁ b₁ ta₁ tb₁ n)))
      have hbig : ∀ p ∈ (I, oI) :: (C, oC) :: (D, lst ys) :: (new ++ R), p.1 ≠ bag := by
        intro p hp
        simp only [List.mem_cons, List.mem_append] at hp
        rcases hp with rfl | rfl | rfl | hp | hp
        · exact fun e => hb.1 e.symm
        · exact fun e => hb.2.1 e.symm
        · exact fun e => hb.2.2 e.symm
        · exact hnb p hp
        · exact hne p hp
      refine wpAny_mono (turn v I oI C oC D ys a₁ b₁ ta₁ tb₁ new m₂ h tk E' hab hbig hC hx F (NN.perm ?_)) (fun y s₂ q => ?_) fun _ _ e => e
      · intro p hp
        simp only [List.mem_cons] at hp ⊢
        rcases hp with h | h | h | h | h <;> simp [h]
      · obtain ⟨h', tk', a', b', ta', tb', new', rfl, F', N', hab', hqy, hnb', hoff'⟩ := q
        have big : (bag, bagO a' b' ta' tb' n) :: ((new' ++ new) ++ R) = (bag, bagO a' b' ta' tb' n) :: (new' ++ (new ++ R)) := by rw [List.append_assoc]
        refine CompEnd.intro F' N' ((bag, bagO a' b' ta' tb' n) :: ((new' ++ new) ++ R)) ?_ (Off3.of fun p hp => ?_) trivial (ih (i + 1) (ys ++ [y]) a' b' ta' tb' (new' ++ new) (by omega) (by rw [List.length_append, List.length_singleton, hy]) hab' (fun p hp => ?_) (fun p hp q hq => ?_) (fun z hz => ?_))
        · intro p hp
          simp only [List.mem_cons, List.mem_append] at hp ⊢
          rcases hp with h | h | h | h | (h | h) | h <;> simp [h]
        · simp only [List.mem_cons, List.mem_append] at hp
          rcases hp with rfl | (hp | hp) | hp
          · exact hb
          · exact ⟨fun e => hoff' p hp (I, oI) (.head _) e.symm, fun e => hoff' p hp (C, oC) (.tail _ (.head _)) e.symm, fun e => hoff' p hp (D, lst ys) (.tail _ (.tail _ (.head _))) e.symm⟩
          · exact om p (.tail _ (List.mem_append.mpr (.inl hp)))
          · exact om p (.tail _ (List.mem_append.mpr (.inr hp)))
        · exact (List.mem_append.mp hp).elim (hnb' p) (hnb p)
        · exact (List.mem_append.mp hp).elim (fun hp => hoff' p hp q (.tail _ (.tail _ (.tail _ (List.mem_append.mpr (.inr hq)))))) fun hp => hoff p hp q hq
        · rcases List.mem_append.mp hz with hz | hz
          · exact mono _ _ _ (fun p hp => List.mem_append.mpr (.inr hp)) (hq z hz)
          · rw [List.mem_singleton.mp hz]
            exact mono _ _ _ (fun p hp => List.mem_append.mpr (.inl hp)) hqy
  exact all N 0 [] a₀ b₀ ta₀ tb₀ [] (by omega) rfl h0 (fun _ h => nomatch h) (fun _ h => nomatch h) (fun _ h => nomatch h)
end
theorem small5 {k : Int} (h0 : 0 ≤ k) (h1 : k < 5) : Builtin.Range.small 0 k 1 = true := by
  obtain rfl | rfl | rfl | rfl | rfl : k = 0 ∨ k = 1 ∨ k = 2 ∨ k = 3 ∨ k = 4 := by omega
  all_goals decide
theorem rsize5 {k : Int} (h0 : 0 ≤ k) (h1 : k < 5) : Builtin.Range.rangeSize 0 k 1 = ((k.toNat : Nat) : Int) := by
  obtain rfl | rfl | rfl | rfl | rfl : k = 0 ∨ k = 1 ∨ k = 2 ∨ k = 3 ∨ k = 4 := by omega
  all_goals decide
theorem nsize5 {k : Int} (h0 : 0 ≤ k) (h1 : k < 5) : k.toNat ≤ sizeLine := Nat.le_trans (show k.toNat ≤ 4 by omega) (by decide)
def TQ (_ : Led) (v : Value) : Prop := ∃ x t, v = .str x t
theorem TQ.mono (l k : Led) (v : Value) (_ : ∀ p ∈ l, p ∈ k) (h : TQ l v) : TQ k v := h
def LQ (Qin : Led → Value → Prop) (new : Led) (y : Value) : Prop := ∃ (D : Addr) (vs : List Value), y = .ref D ∧ (D, listOf vs.toArray vs.length) ∈ new ∧ vs.length ≤ 4 ∧ ∀ v ∈ vs, Qin new v
theorem LQ.mono {Qin : Led → Value → Prop} (hm : ∀ l k v, (∀ p ∈ l, p ∈ k) → Qin l v → Qin k v) (l k : Led) (v : Value) (hs : ∀ p ∈ l, p ∈ k) (h : LQ Qin l v) : LQ Qin k v := by
  obtain ⟨D, vs, rfl, h1, h2, h3⟩ := h
  exact ⟨D, vs, rfl, hs _ h1, h2, fun v hv => hm _ _ _ hs (h3 v hv)⟩
theorem off1_mem {D : Addr} : ∀ {l : Led}, Off1 D l → ∀ p ∈ l, p.1 ≠ D
  | [], _, _, h => nomatch h
  | q :: l, o, p, h => by
    rcases List.mem_cons.mp h with rfl | h
    · exact o.1
    · exact off1_mem o.2 p h
theorem fin_inner {h₀ : Heap} {L : Addr} {m : Str → Option Value} {s s₁ : Shared} {bag : Addr} {n : Nat} {big new : Led} {Qin : Led → Value → Prop} {ys : List Value} {a b : Int} {ta tb : Tok} {k : Int}
    (hm : ∀ l k v, (∀ p ∈ l, p ∈ k) → Qin l v → Qin k v) (hs : ∃ h tk, s = { s₁ with heap := h, toks := tk }) (hl : ys.length = k.toNat) (hk : k < 5) (hab : 0 ≤ a ∧ 0 ≤ b ∧ b < 2147483647) (hq : ∀ y ∈ ys, Qin new y) (hnb : ∀ p ∈ new, p.1 ≠ bag) (hoff : ∀ p ∈ new, ∀ q ∈ big, q.1 ≠ p.1) :
    FinE h₀ L m s (GEnd h₀ L m s₁ bag n big (LQ Qin)) ys ((bag, bagO a b ta tb n) :: (new ++ big)) := by
  intro D h tk F N o1
  have om := off1_mem o1
  obtain ⟨h2, tk2, rfl⟩ := hs
  refine ⟨h, tk, a, b, ta, tb, (D, lst ys) :: new, rfl, F, N.perm ?_, hab, ⟨D, ys, rfl, List.mem_cons_self .., by omega, fun v hv => hm _ _ _ (fun _ h => List.mem_cons_of_mem _ h) (hq v hv)⟩, ?_, ?_⟩
  · intro p hp
    simp only [List.cons_append, List.mem_cons, List.mem_append] at hp ⊢
    rcases hp with h | h | h | h <;> simp [h]
  · intro p hp
    rcases List.mem_cons.mp hp with rfl | hp
    · exact fun e => om _ (List.mem_cons_self ..) e.symm
    · exact hnb p hp
  · intro p hp q hq
    rcases List.mem_cons.mp hp with rfl | hp
    · exact om q (.tail _ (List.mem_append.mpr (.inr hq)))
    · exact hoff p hp q hq
theorem two_of {ys : List Value} (h : ys.length = 2) : ∃ y z, ys = [y, z] := by
  match ys, h with
  | [y, z], _ => exact ⟨y, z, rfl⟩
theorem txt_of {l : Led} : ∀ {vs : List Value}, (∀ v ∈ vs, TQ l v) → ∃ xs, TxtAre vs xs
  | [], _ => ⟨[], .nil⟩
  | v :: vs, h => by
    obtain ⟨xs, hx⟩ := txt_of fun z hz => h z (.tail _ hz)
    obtain ⟨x, t, rfl⟩ := h v (.head _)
    exact ⟨x :: xs, .cons hx⟩
theorem fin_gen {h₀ h : Heap} {L D bag : Addr} {ys : List Value} {n : Nat} {a b : Int} {ta tb : Tok} {new rest : Led} (cells : Led) (N : News h₀ L h ((D, lst ys) :: (bag, bagO a b ta tb n) :: (new ++ (cells ++ rest)))) (o1 : Off1 D ((bag, bagO a b ta tb n) :: (new ++ (cells ++ rest))))
    (hnb : ∀ p ∈ new, p.1 ≠ bag) (hoff : ∀ p ∈ new, ∀ q ∈ cells ++ rest, q.1 ≠ p.1) (hne : ∀ p ∈ rest, p.1 ≠ bag) (hc : ∀ c ∈ cells, ∀ p ∈ rest, p.1 ≠ c.1) :
    ∃ T, News h₀ L h ((D, lst ys) :: (cells ++ ((bag, bagO a b ta tb n) :: T))) ∧ (∀ p ∈ new, p ∈ T) ∧ (∀ p ∈ rest, p ∈ T) ∧ (∀ p ∈ T, p.1 ≠ bag) ∧ (∀ c ∈ cells, ∀ p ∈ T, p.1 ≠ c.1) ∧ D ≠ bag ∧ (∀ c ∈ cells, D ≠ c.1) := by
  have om := off1_mem o1
  refine ⟨new ++ rest, N.perm ?_, fun p hp => List.mem_append.mpr (.inl hp), fun p hp => List.mem_append.mpr (.inr hp), fun p hp => ?_, fun c hcm p hp => ?_, fun e => om _ (List.mem_cons_self ..) e.symm, fun c hcm e => om c (.tail _ (List.mem_append.mpr (.inr (List.mem_append.mpr (.inl hcm))))) e.symm⟩
  · intro p hp
    simp only [List.mem_cons, List.mem_append] at hp ⊢
    rcases hp with h | h | h | h | h <;> simp [h]
  · exact (List.mem_append.mp hp).elim (hnb p) (hne p)
  · exact (List.mem_append.mp hp).elim (fun hp e => hoff p hp c (List.mem_append.mpr (.inl hcm)) e.symm) (fun hp => hc c hcm p hp)
theorem src_range {prog : Program} {w : World} {A : Around} {h₀ : Heap} {L : Addr} {m : Str → Option Value} {env : Env} {elt : Expr} {x : Str} {scope : Scope} {cl : List (Str × Addr)} {Fin : Shared → List Value → List (Addr × Obj) → Prop} {r bag : Addr} {k : Int} {t u v : Tok} {n n2 : Nat} {a b : Int} {ta tb : Tok} {R : Led} {s₁ : Shared}
    (hh : A.handled = none) (F : Fr h₀ L s₁.heap m) (N : News h₀ L s₁.heap ((bag, bagO a b ta tb n) :: R)) (hr : IsRange s₁.heap r 0 k 1 t u v) (hsm : Builtin.Range.small 0 k 1 = true) (hn : Builtin.Range.rangeSize 0 k 1 = ((n2 : Nat) : Int)) (hsz : n2 ≤ sizeLine)
    (h : ∀ g, CompRest prog w A h₀ L m env elt x scope cl { s₁ with heap := g } (fun _ => True) (fun i v => ∃ t, v = .int (0 + (i : Int)) t) (Fin { s₁ with heap := g }) n2 0 [] ((bag, bagO a b ta tb n) :: R)) :
    CompSrc prog w A h₀ L m env elt x scope cl Fin (.ref r) s₁ := CompSrc.range hh F N hr hsm hn hsz h
theorem cell_lt {bag L : Addr} {o : Obj} {rest : Led} (l1 : ∀ p ∈ (bag, o) :: rest, p.1 < L) (k : Nat) : bag < L + k := Nat.lt_of_lt_of_le (l1 _ (List.mem_cons_self ..)) (Nat.le_add_right _ _)
theorem cell_off {bag L : Addr} {o : Obj} {rest : Led} (l1 : ∀ p ∈ (bag, o) :: rest, p.1 < L) (k : Nat) : ∀ p ∈ rest, p.1 ≠ L + k := fun p hp => Nat.ne_of_lt (Nat.lt_of_lt_of_le (l1 p (.tail _ hp)) (Nat.le_add_right _ _))
theorem news_drop2 {h₀ h : Heap} {L : Addr} {x y : Addr × Obj} {r : Led} (N : News h₀ L h (x :: y :: r)) : News h₀ L h (x :: ([] ++ r)) := N.perm fun p hp => by
  rcases List.mem_cons.mp hp with e | hp
  · exact e ▸ .head _
  · exact .tail _ (.tail _ hp)
theorem txt_str {l : Led} {vs : List Value} (h : ∀ v ∈ vs, TQ l v) : ∀ y ∈ vs, StrV y := h
theorem app_mem3 {x a b c : Addr × Obj} {new R : Led} (h : x ∈ R) : x ∈ new ++ (a :: b :: c :: R) := List.mem_append.mpr (.inr (.tail _ (.tail _ (.tail _ h))))
theorem app_mem {x : Addr × Obj} {new R : Led} (h : x ∈ R) : x ∈ new ++ R := List.mem_append.mpr (.inr h)
section
variable {prog : Program} {w : World} {A : Around} {h₀ : Heap} {L : Addr} {m : Str → Option Value} {env : Env} {elt : Expr} {x : Str} {scope : Scope} {cl : List (Str × Addr)} {s : Shared} {Q : Value → Shared → Prop} {bag : Addr} {n : Nat} {a : Int}
theorem rest_outer (Qin : Led → Value → Prop) (mono : ∀ l k v, (∀ p ∈ l, p ∈ k) → Qin l v → Qin k v) {cells rest R : Led} (hR : R = cells ++ rest) (hne : ∀ p ∈ rest, p.1 ≠ bag) (hcb : ∀ c ∈ cells, c.1 ≠ bag) (hc : ∀ c ∈ cells, ∀ p ∈ rest, p.1 ≠ c.1)
    (turn : ∀ v I oI C oC D ys a b ta tb new m₂ h tk (E' : Value → Shared → Prop), 0 ≤ a → 0 ≤ b → b < 2147483647 → (∀ p ∈ (I, oI) :: (C, oC) :: (D, lst ys) :: (new ++ R), p.1 ≠ bag) → NsObj oC m₂ → m₂ x = some v → Fr h₀ L h m →
      News h₀ L h ((bag, bagO a b ta tb n) :: (I, oI) :: (C, oC) :: (D, lst ys) :: (new ++ R)) →
      wpAny (model prog w) A (eval elt (compEnvC scope cl C env)) (GEnd h₀ L m { s with heap := h, toks := tk } bag n ((I, oI) :: (C, oC) :: (D, lst ys) :: (new ++ R)) (LQ Qin)) E' { s with heap := h, toks := tk })
    (fin : ∀ (D1 D2 : Addr) (vs1 vs2 : List Value) a b ta tb T D h tk, 0 ≤ a → 0 ≤ b → b < 2147483647 → (D1, listOf vs1.toArray vs1.length) ∈ T → (D2, listOf vs2.toArray vs2.length) ∈ T → vs1.length ≤ 4 → vs2.length ≤ 4 → (∀ v ∈ vs1, Qin T v) → (∀ v ∈ vs2, Qin T v) →
      (∀ p ∈ rest, p ∈ T) → (∀ p ∈ T, p.1 ≠ bag) → (∀ c ∈ cells, ∀ p ∈ T, p.1 ≠ c.1) → D ≠ bag → (∀ c ∈ cells, D ≠ c.1) → Fr h₀ L h m → News h₀ L h ((D, listOf #[.ref D1, .ref D2] 2) :: (cells ++ ((bag, bagO a b ta tb n) :: T))) → Q (.ref D) { s with heap := h, toks := tk })
    {a₀ b₀ : Int} {ta₀ tb₀ : Tok} (h0 : 0 ≤ a₀ ∧ 0 ≤ b₀ ∧ b₀ < 2147483647) :
    CompRest prog w A h₀ L m env elt x scope cl s (fun _ => True) (fun i v => ∃ t, v = .int (a + (i : Int)) t) (FinE h₀ L m s Q) 2 0 [] ((bag, bagO a₀ b₀ ta₀ tb₀ n) :: R) := by
  subst hR
  refine rest_grow (LQ Qin) (LQ.mono mono) (fun p hp => (List.mem_append.mp hp).elim (hcb p) (hne p)) (fun v I oI C oC D ys a b ta tb new m₂ h tk E' hab hbig hC hx F N => turn v I oI C oC D ys a b ta tb new m₂ h tk E' hab.1 hab.2.1 hab.2.2 hbig hC hx F N) (fun ys a b ta tb new hl hab hq hnb hoff => ?_) h0
  obtain ⟨y1, y2, rfl⟩ := two_of hl
  obtain ⟨D1, vs1, rfl, m1, l1, q1⟩ := hq y1 (.head _)
  obtain ⟨D2, vs2, rfl, m2, l2, q2⟩ := hq y2 (.tail _ (.head _))
  intro D h tk F N o1
  obtain ⟨T, N2, T1, T2, T3, T4, T5, T6⟩ := fin_gen cells N o1 hnb hoff hne hc
  exact fin D1 D2 vs1 vs2 a b ta tb T D h tk hab.1 hab.2.1 hab.2.2 (T1 _ m1) (T1 _ m2) l1 l2 (fun v hv => mono _ _ _ T1 (q1 v hv)) (fun v hv => mono _ _ _ T1 (q2 v hv)) T2 T3 T4 T5 T6 F N2
end
theorem split3 {x y z : Addr × Obj} {r : Led} : x :: y :: z :: r = [x, y, z] ++ r := rfl
theorem split1 {x : Addr × Obj} {r : Led} : x :: r = [x] ++ r := rfl
theorem cell_lt1 {bag L : Nat} {o : Obj} {rest : Led} (l1 : ∀ p ∈ (bag, o) :: rest, p.1 < L) : bag < L + 1 := Nat.lt_succ_of_lt (l1 _ (List.mem_cons_self ..))
theorem cell_off1 {bag L : Nat} {o : Obj} {rest : Led} (l1 : ∀ p ∈ (bag, o) :: rest, p.1 < L) : ∀ p ∈ rest, p.1 ≠ L + 1 := fun p hp => Nat.ne_of_lt (Nat.lt_succ_of_lt (l1 p (.tail _ hp)))
theorem led_lt1 {L : Nat} {l : Led} (l1 : ∀ p ∈ l, p.1 < L) : ∀ p ∈ l, p.1 < L + 1 := fun p hp => Nat.lt_succ_of_lt (l1 p hp)
theorem all3 {P : Addr × Obj → Prop} {x y z : Addr × Obj} (h1 : P x) (h2 : P y) (h3 : P z) : ∀ c ∈ [x, y, z], P c := by
  intro c hc
  simp only [List.mem_cons, List.not_mem_nil, or_false] at hc
  rcases hc with rfl | rfl | rfl <;> assumption
theorem all1 {P : Addr × Obj → Prop} {x : Addr × Obj} (h1 : P x) : ∀ c ∈ [x], P c := by
  intro c hc
  rw [List.mem_singleton.mp hc]; assumption
theorem third_mem {h₀ h : Heap} {L : Addr} {x y z v : Addr × Obj} {r : Led} (_ : News h₀ L h (x :: y :: z :: v :: r)) : z ∈ x :: y :: z :: r := .tail _ (.tail _ (.head _))
theorem first_mem {h₀ h : Heap} {L : Addr} {x v : Addr × Obj} {r : Led} (_ : News h₀ L h (x :: v :: r)) : x ∈ x :: r := .head _
theorem from3 {P : Addr × Obj → Prop} {x y z : Addr × Obj} (h : ∀ c ∈ [x, y, z], P c) : P x ∧ P y ∧ P z := ⟨h _ (.head _), h _ (.tail _ (.head _)), h _ (.tail _ (.tail _ (.head _)))⟩
theorem from1 {P : Addr × Obj → Prop} {x : Addr × Obj} (h : ∀ c ∈ [x], P c) : P x := h _ (.head _)
theorem app3 {h₀ h : Heap} {L : Addr} {d x y z : Addr × Obj} {r : Led} (N : News h₀ L h (d :: ([x, y, z] ++ r))) : News h₀ L h (d :: x :: y :: z :: r) := N
theorem app1 {h₀ h : Heap} {L : Addr} {d x : Addr × Obj} {r : Led} (N : News h₀ L h (d :: ([x] ++ r))) : News h₀ L h (d :: x :: r) := N
theorem txt_good {big : Led} {r : Value} (h : Good txtMenu big r) : ∃ q x t rv, r = .ref q ∧ (q, tupO [.str x t, rv]) ∈ big := by
  obtain ⟨q, v, rv, P, rk, rfl, hm, V, R, M⟩ := h
  have all : ∀ p ∈ txtMenu, ∃ x, p.1 = PV.s x := by
    intro p hp
    simp only [txtMenu, List.mem_cons, List.not_mem_nil, or_false] at hp
    rcases hp with h | h | h | h | h | h | h | h | h | h | h | h <;> subst h <;> exact ⟨_, rfl⟩
  obtain ⟨x, e⟩ := all _ M
  dsimp only at e
  subst e
  obtain ⟨t, rfl⟩ := V
  exact ⟨q, x, t, rv, rfl, hm⟩
theorem cell_keep {a b big : Led} {x : Addr × Obj} (_ : x ∈ a) (S : ∀ p ∈ b, p ∈ big) (hm : x ∈ b) : x ∈ big := S x hm
theorem str_cases {vs : List Value} (h : ∀ y ∈ vs, StrV y) {v : Value} (hv : v ∈ vs) : ∃ x t, v = .str x t := h v hv
theorem str_app {vs ws : List Value} (h : ∀ y ∈ vs, StrV y) (k : ∀ y ∈ ws, StrV y) : ∀ y ∈ vs ++ ws, StrV y := fun y hy => (List.mem_append.mp hy).elim (h y) (k y)
theorem str_head {vs : List Value} (h : ∀ y ∈ vs, StrV y) (e : (!vs.isEmpty) = true) : ∃ x t r, vs = .str x t :: r := by
  cases vs with
  | nil => cases e
  | cons v r =>
    obtain ⟨x, t, rfl⟩ := h v (.head _)
    exact ⟨x, t, r, rfl⟩
theorem gend_intro {h₀ h' : Heap} {L bag : Addr} {m : Str → Option Value} {s₁ : Shared} {n tk : Nat} {a' b' : Int} {ta' tb' : Tok} {big new' : Led} {Qv : Led → Value → Prop} {y : Value} (F : Fr h₀ L h' m) (N : News h₀ L h' ((bag, bagO a' b' ta' tb' n) :: (new' ++ big))) (h1 : 0 ≤ a') (h2 : 0 ≤ b') (h3 : b' < 2147483647)
    (hq : Qv new' y) (hnb : ∀ p ∈ new', p.1 ≠ bag) (hoff : ∀ p ∈ new', ∀ q ∈ big, q.1 ≠ p.1) : GEnd h₀ L m s₁ bag n big Qv y { s₁ with heap := h', toks := tk } := ⟨h', tk, a', b', ta', tb', new', rfl, F, N, ⟨h1, h2, h3⟩, hq, hnb, hoff⟩

end
section
theorem words_38001 : True := by
  k_with_none
  (k_with "@my enter" => (refine' code_def ?w9k1 ?w9k2 ?w9k3 ?w9k4 ?w9k5 ?w9kA ?w9kF ?w9kK ?w9k6 ?w9k7 ?w9k8 ?w9k9 ?w9kB ?_ ?w9c2 ?w9c3 ?w9c4 ?w9c5; (case w9kA => exact rfl); (case w9kF => exact rfl); (case w9kK => first | exact rfl | assumption); (case w9k1 => k_asm); (case w9k2 => k_asm); (case w9k3 => k_asm); (case w9k4 => k_asm); (case w9k5 => k_asm); (case w9k6 => k_is); (case w9k7 => k_is); (case w9k8 => ktr_room); (case w9k9 => first | exact BindsTo.of_eq rfl | exact binds_K (by k_in) rfl (by k_is) rfl rfl rfl); (case w9c5 => decide); (case w9kB => exact locs rfl); (case w9c2 => exact rfl); (case w9c3 => exact rfl); (case w9c4 => exact rfl); k_whole; intro g' L' h' FG' F' N' B' X' T'; (try dsimp only); (try k_lift B'); (try k_fold)))
  (k_with "@my enterC" => (refine' code_defC ?w9k1 ?w9k2 ?w9k3 ?w9k4 ?w9k5 ?w9kA ?w9kF ?w9kK ?w9k6 ?w9k7 ?w9k8 ?w9k9 ?w9kB ?w9kD ?_ ?w9c2 ?w9c3 ?w9c4; (case w9kA => exact rfl); (case w9kF => exact rfl); (case w9kK => first | exact rfl | assumption); (case w9k1 => k_asm); (case w9k2 => k_asm); (case w9k3 => k_asm); (case w9k4 => k_asm); (case w9k5 => k_asm); (case w9k6 => k_is); (case w9k7 => k_is); (case w9k8 => ktr_room); (case w9k9 => exact BindsTo.of_eq rfl); (case w9kB => exact rfl); (case w9kD => decide +kernel); (case w9c2 => exact rfl); (case w9c3 => exact rfl); (case w9c4 => exact rfl); k_whole; intro g' L' h' tk' cells' FG' F' N' Y' B' X' T' l1; k_cells Y'; (try simp only [List.cons_append, List.nil_append] at N'); (try dsimp only); (try k_lift B'); (try k_fold)))
  (k_with "@use led" => first | k_asm | exact News.sw1 (by k_asm) | exact News.sw2 (by k_asm) | exact News.sw3 (by k_asm) | exact News.sw4 (by k_asm) | exact News.sw5 (by k_asm) | exact News.sw6 (by k_asm) | exact News.sw7 (by k_asm) | exact News.sw8 (by k_asm) | exact News.sw9 (by k_asm) | exact News.sw10 (by k_asm) | exact News.sw11 (by k_asm) | exact News.sw12 (by k_asm) | exact News.sw13 (by k_asm) | exact News.sw14 (by k_asm) | exact News.sw15 (by k_asm) | exact News.sw16 (by k_asm) | exact News.sw17 (by k_asm) | exact News.sw18 (by k_asm) | exact News.sw19 (by k_asm) | exact News.sw20 (by k_asm) | exact News.sw21 (by k_asm) | exact News.sw22 (by k_asm) | exact News.sw23 (by k_asm) | exact News.sw24 (by k_asm) | exact News.sw25 (by k_asm) | exact News.sw26 (by k_asm))
  (k_with "k_all" => assumption)
  (k_with "@use pre 1" => first | assumption | omega | k_mem | k_all | rfl)
  (k_with "@use pre" => ((repeat' (first | (with_reducible refine And.intro ?_ ?_) | fail)); all_goals (walk_at "use pre 1")))
  (k_with "k_mem" => assumption)
  (k_with "@eval Call" => ((with_reducible show wpAny _ _ (eval (Expr.Call (Expr.Name _ _) _ [] _) _) _ _ _); k_dflt (refine Call_ ?_)))
  (k_with "@end led" => first | k_asm | exact News.d1 (by k_asm) | exact News.d2 (by k_asm) | exact News.d3 (by k_asm) | exact News.d4 (by k_asm) | exact News.d5 (by k_asm) | exact News.d6 (by k_asm) | exact News.d7 (by k_asm) | exact News.d8 (by k_asm) | exact News.d9 (by k_asm) | exact News.d10 (by k_asm) | exact News.d11 (by k_asm) | exact News.d12 (by k_asm))
  (k_with "@pyIter str" => k_extra "pyIter str")
  (k_with "@pyIter ref" => k_extra "pyIter ref")
  (k_with "@end led1" => first | k_asm | exact News.h1 (by k_asm) | exact News.h2 (by k_asm) | exact News.h3 (by k_asm) | exact News.h4 (by k_asm) | exact News.h5 (by k_asm) | exact News.h6 (by k_asm) | exact News.h7 (by k_asm) | exact News.h8 (by k_asm) | exact News.h9 (by k_asm))
  (k_with "@eval Name" => (k_here; k_dflt (first | (refine' nameX_L ?w9F ?w9v ?_ ?w9a ?w9b; (case w9F => k_asm); (case w9a => rfl); (case w9b => rfl); (case w9v => rfl); k_whole) | (refine' nameX_K ?w9F ?w9X ?w9T ?w9e ?_ ?w9a ?w9b; (case w9F => k_asm); (case w9X => k_asm); (case w9T => k_asm); (case w9a => rfl); (case w9b => rfl); (case w9e => k_is); k_whole) | (refine' nameX_B ?w9F ?w9X ?w9T ?w9e ?w9v ?w9n ?_ ?w9a ?w9b; (case w9F => k_asm); (case w9X => k_asm); (case w9T => k_asm); (case w9a => rfl); (case w9b => rfl); (case w9e => k_is); (case w9v => boot_fast); (case w9n => decide); k_whole))))
  (k_with "k_ne" => first | assumption | exact Nat.ne_of_gt (by assumption) | exact Nat.ne_of_lt (by assumption) | exact ne_p1 (by with_reducible assumption) | exact ne_p2 (by with_reducible assumption) | exact ne_p3 (by with_reducible assumption) | exact ne_p4 (by with_reducible assumption) | exact ne_p5 (by with_reducible assumption) | exact ne_p6 (by with_reducible assumption) | exact ne_p7 (by with_reducible assumption) | exact ne_p8 (by with_reducible assumption) | exact ne_q1 (by with_reducible assumption) | exact ne_q2 (by with_reducible assumption) | exact ne_q3 (by with_reducible assumption) | exact ne_q4 (by with_reducible assumption) | exact ne_q5 (by with_reducible assumption) | exact ne_q6 (by with_reducible assumption) | exact ne_q7 (by with_reducible assumption) | exact ne_q8 (by with_reducible assumption))
  trivial
open PyProof.Rows.LCg PyProof.Rows.LCp
theorem Good.mono {menu : List (PV × Option Int)} (l k : Led) (v : Value) (hs : ∀ p ∈ l, p ∈ k) (h : Good menu l v) : Good menu k v := by
  obtain ⟨q, v, rv, P, rk, e, hm, V, R, M⟩ := h
  exact ⟨q, v, rv, P, rk, e, hs _ hm, V.mono hs, R, M⟩
inductive PairsAre (led : Led) : List Value → List Value → List Value → List ((Int × Int) × Option Int) → Prop
  | nil : PairsAre led [] [] [] []
  | cons {q p : Addr} {x y : Int} {t u : Tok} {rv : Value} {rk : Option Int} {vs ns rs : List Value} {es : List ((Int × Int) × Option Int)} :
      (q, tupO [.ref p, rv]) ∈ led → NumV led p x y t u → RVal rv rk → (PV.n x y, rk) ∈ numMenu → PairsAre led vs ns rs es → PairsAre led (.ref q :: vs) (.ref p :: ns) (rv :: rs) (((x, y), rk) :: es)
theorem num_of : ∀ {P : PV} {rk : Option Int}, (P, rk) ∈ numMenu → ∃ x y, P = .n x y := by
  have all : ∀ p ∈ numMenu, ∃ x y, p.1 = PV.n x y := by
    intro p hp
    simp only [numMenu, List.mem_cons, List.not_mem_nil, or_false] at hp
    rcases hp with h | h | h | h | h | h | h | h <;> subst h <;> exact ⟨_, _, rfl⟩
  exact fun {P rk} h => all (P, rk) h
theorem pairs_of {led : Led} : ∀ {vs : List Value}, (∀ v ∈ vs, Good numMenu led v) → ∃ ns rs es, PairsAre led vs ns rs es
  | [], _ => ⟨[], [], [], .nil⟩
  | v :: vs, h => by
    obtain ⟨ns, rs, es, A⟩ := pairs_of fun z hz => h z (.tail _ hz)
    obtain ⟨q, v1, rv, P, rk, rfl, hm, V, R, M⟩ := h v (.head _)
    obtain ⟨x, y, rfl⟩ := num_of M
    obtain ⟨p, t, u, rfl, V⟩ := V
    exact ⟨_, _, _, .cons hm V R M A⟩
theorem PairsAre.get {led : Led} : ∀ {vs ns rs : List Value} {es : List ((Int × Int) × Option Int)}, PairsAre led vs ns rs es → ∀ (i : Nat) (v : Value), vs[i]? = some v → ∃ q v1 v2, v = .ref q ∧ (q, tupO [v1, v2]) ∈ led ∧ ns[i]? = some v1 ∧ rs[i]? = some v2
  | _, _, _, _, .nil, i, v, h => by simp at h
  | _, _, _, _, .cons hm V R M A, 0, v, h => by
    simp only [List.getElem?_cons_zero, Option.some.injEq] at h
    subst h
    exact ⟨_, _, _, rfl, hm, rfl, rfl⟩
  | _, _, _, _, .cons hm V R M A, i + 1, v, h => by
    simp only [List.getElem?_cons_succ] at h ⊢
    exact A.get i v h
theorem PairsAre.getN {led : Led} {vs ns rs : List Value} {es : List ((Int × Int) × Option Int)} (A : PairsAre led vs ns rs es) (i : Nat) (v : Value) (h : vs[i]? = some v) : ∃ q v1 v2, v = .ref q ∧ (q, tupO [v1, v2]) ∈ led ∧ ns[i]? = some v1 := by
  obtain ⟨q, v1, v2, e, hm, h1, _⟩ := A.get i v h
  exact ⟨q, v1, v2, e, hm, h1⟩
theorem PairsAre.getR {led : Led} {vs ns rs : List Value} {es : List ((Int × Int) × Option Int)} (A : PairsAre led vs ns rs es) (i : Nat) (v : Value) (h : vs[i]? = some v) : ∃ q v1 v2, v = .ref q ∧ (q, tupO [v1, v2]) ∈ led ∧ rs[i]? = some v2 := by
  obtain ⟨q, v1, v2, e, hm, _, h1⟩ := A.get i v h
  exact ⟨q, v1, v2, e, hm, h1⟩
theorem PairsAre.lenN {led : Led} : ∀ {vs ns rs : List Value} {es : List ((Int × Int) × Option Int)}, PairsAre led vs ns rs es → ns.length = vs.length
  | _, _, _, _, .nil => rfl
  | _, _, _, _, .cons _ _ _ _ A => congrArg (· + 1) A.lenN
theorem PairsAre.lenR {led : Led} : ∀ {vs ns rs : List Value} {es : List ((Int × Int) × Option Int)}, PairsAre led vs ns rs es → rs.length = vs.length
  | _, _, _, _, .nil => rfl
  | _, _, _, _, .cons _ _ _ _ A => congrArg (· + 1) A.lenR
theorem PairsAre.rank {led : Led} : ∀ {vs ns rs : List Value} {es : List ((Int × Int) × Option Int)}, PairsAre led vs ns rs es → ∀ y ∈ rs, RankV y
  | _, _, _, _, .nil => fun _ h => nomatch h
  | _, _, _, _, .cons _ _ R _ A => fun y hy => by
    rcases List.mem_cons.mp hy with rfl | hy
    · exact R.rankV
    · exact A.rank y hy
theorem menu_b : ∀ {x y : Int} {rk : Option Int}, (PV.n x y, rk) ∈ numMenu → -100 < y ∧ y < 100 := by
  intro x y rk h
  simp only [numMenu, List.mem_cons, List.not_mem_nil, or_false, Prod.mk.injEq, PV.n.injEq] at h
  omega
theorem PairsAre.nums {led : Led} : ∀ {vs ns rs : List Value} {es : List ((Int × Int) × Option Int)}, PairsAre led vs ns rs es → NumsAre led ns (es.map (·.1))
  | _, _, _, _, .nil => .nil
  | _, _, _, _, .cons _ V _ M A => .cons V (menu_b M) A.nums
theorem PairsAre.rks {led : Led} : ∀ {vs ns rs : List Value} {es : List ((Int × Int) × Option Int)}, PairsAre led vs ns rs es → rs.map rkOf = es.map (·.2)
  | _, _, _, _, .nil => rfl
  | _, _, _, _, .cons _ _ R _ A => by rw [List.map_cons, List.map_cons, A.rks, R.rk]
theorem PairsAre.menu {led : Led} : ∀ {vs ns rs : List Value} {es : List ((Int × Int) × Option Int)}, PairsAre led vs ns rs es → ∀ e ∈ es, (PV.n e.1.1 e.1.2, e.2) ∈ numMenu
  | _, _, _, _, .nil => fun _ h => nomatch h
  | _, _, _, _, .cons _ _ _ M A => fun e he => by
    rcases List.mem_cons.mp he with rfl | he
    · exact M
    · exact A.menu e he
def nrB : Bool := ops6.all fun op => numMenu.all fun a => numMenu.all fun b => match a, b with
  | (.n x y, r), (.n z u, k) => (cnumF op x y z u == prF op r k) && (cnumF (turnF op) z u x y == prF op r k)
  | _, _ => true
theorem nrB_ok : nrB = true := by decide +kernel
theorem nr_pair {op : Str} {x y z u : Int} {r k : Option Int} (ho : op ∈ ops6) (h1 : (PV.n x y, r) ∈ numMenu) (h2 : (PV.n z u, k) ∈ numMenu) : cnumF op x y z u = prF op r k ∧ cnumF (turnF op) z u x y = prF op r k := by
  have h := List.all_eq_true.mp (List.all_eq_true.mp (List.all_eq_true.mp nrB_ok op ho) _ h1) _ h2
  simpa [Bool.and_eq_true] using h
theorem any_mem {α : Type} {f g : α → Bool} {xs : List α} (h : ∀ a ∈ xs, f a = g a) : xs.any f = xs.any g := by
  induction xs with
  | nil => rfl
  | cons a r ih => rw [List.any_cons, List.any_cons, h a (.head _), ih fun b hb => h b (.tail _ hb)]
theorem due_es {led : Led} {op : Str} {vs1 vs2 ns1 ns2 rs1 rs2 : List Value} {es1 es2 : List ((Int × Int) × Option Int)} (A1 : PairsAre led vs1 ns1 rs1 es1) (A2 : PairsAre led vs2 ns2 rs2 es2) :
    dueV op rs1 rs2 = es1.any fun a => es2.any fun b => prF op a.2 b.2 := by
  have e : dueV op rs1 rs2 = (rs1.map rkOf).any fun a => (rs2.map rkOf).any fun b => prF op a b := by
    rw [dueV, List.any_map]
    refine any_mem fun a _ => ?_
    rw [Function.comp_apply, List.any_map]
    rfl
  rw [e, A1.rks, A2.rks, List.any_map]
  refine any_mem fun a _ => ?_
  rw [Function.comp_apply, List.any_map]
  rfl
theorem nr1 {led : Led} {op : Str} {vs1 vs2 ns1 ns2 rs1 rs2 : List Value} {es1 es2 : List ((Int × Int) × Option Int)} (ho : op ∈ ops6) (A1 : PairsAre led vs1 ns1 rs1 es1) (A2 : PairsAre led vs2 ns2 rs2 es2) :
    ((es1.map (·.1)).any fun a => (es2.map (·.1)).any fun b => cnumF op a.1 a.2 b.1 b.2) = dueV op rs1 rs2 := by
  rw [due_es A1 A2, List.any_map]
  refine any_mem fun a ha => ?_
  rw [Function.comp_apply, List.any_map]
  refine any_mem fun b hb => ?_
  exact (nr_pair ho (A1.menu a ha) (A2.menu b hb)).1
theorem any_swap2 {α β : Type} {f : α → β → Bool} {xs : List α} {ys : List β} : (xs.any fun a => ys.any fun b => f a b) = (ys.any fun b => xs.any fun a => f a b) := by
  rw [Bool.eq_iff_iff]
  simp only [List.any_eq_true]
  exact ⟨fun ⟨a, ha, b, hb, h⟩ => ⟨b, hb, a, ha, h⟩, fun ⟨b, hb, a, ha, h⟩ => ⟨a, ha, b, hb, h⟩⟩
theorem nr2 {led : Led} {op : Str} {vs1 vs2 ns1 ns2 rs1 rs2 : List Value} {es1 es2 : List ((Int × Int) × Option Int)} (ho : op ∈ ops6) (A1 : PairsAre led vs1 ns1 rs1 es1) (A2 : PairsAre led vs2 ns2 rs2 es2) :
    ((es2.map (·.1)).any fun a => (es1.map (·.1)).any fun b => cnumF (turnF op) a.1 a.2 b.1 b.2) = dueV op rs1 rs2 := by
  rw [any_swap2, due_es A1 A2, List.any_map]
  refine any_mem fun a ha => ?_
  rw [Function.comp_apply, List.any_map]
  refine any_mem fun b hb => ?_
  exact (nr_pair ho (A1.menu a ha) (A2.menu b hb)).2
section
variable {prog : Program} {w : World} {A : Around} {h₀ : Heap} {L : Addr} {m : Str → Option Value} {env : Env} {elt : Expr} {x x₂ : Str} {scope : Scope} {cl : List (Str × Addr)} {s : Shared} {Fin : List Value → Led → Prop} {ax : Addr} {vs : List Value} {news : Led}
theorem restP_map (outs : List Value) (sel : Value → Value → Value) (hS : SrcAt h₀ ax vs.toArray news) (hl : outs.length = vs.length)
    (get : ∀ (i : Nat) (v : Value), vs[i]? = some v → ∃ q v1 v2, v = .ref q ∧ (q, tupO [v1, v2]) ∈ news ∧ outs[i]? = some (sel v1 v2))
    (turn : ∀ v1 v2 I oI C oC D ys m₂ h tk (E' : Value → Shared → Prop), NsObj oC m₂ → m₂ x = some v1 → m₂ x₂ = some v2 → Fr h₀ L h m → News h₀ L h ((I, oI) :: (C, oC) :: (D, lst ys) :: news) →
      wpAny (model prog w) A (eval elt (compEnvC scope cl C env)) (FilPost h₀ L m { s with heap := h, toks := tk } ((I, oI) :: (C, oC) :: (D, lst ys) :: news) (fun y => y = sel v1 v2)) E' { s with heap := h, toks := tk })
    (fin : Fin outs news) : CompRestP prog w A h₀ L m env elt x x₂ scope cl s (SrcAt h₀ ax vs.toArray) (fun i v => vs.toArray[i]? = some v) Fin vs.toArray.size 0 [] news := by
  have all : ∀ k i ys, k + i = vs.length → ys = outs.take i → CompRestP prog w A h₀ L m env elt x x₂ scope cl s (SrcAt h₀ ax vs.toArray) (fun i v => vs.toArray[i]? = some v) Fin k i ys news := by
    intro k
    induction k with
    | zero =>
      intro i ys hi hy
      refine CompRestP.zero ?_
      rw [hy, show i = outs.length by omega, List.take_length]
      exact fin
    | succ k ih =>
      intro i ys hi hy
      refine CompRestP.succ fun v hv => ?_
      have hv' : vs[i]? = some v := by simpa using hv
      obtain ⟨q, v1, v2, rfl, hm, ho⟩ := get i v hv'
      refine ⟨q, _, v1, v2, _, rfl, hm, rfl, rfl, fun I oI C oC D m₂ h tk E' hC hx hx2 F N off ne => ?_⟩
      refine wpAny_mono (turn v1 v2 I oI C oC D ys m₂ h tk E' hC hx hx2 F N) (fun y s₂ q => ?_) fun _ _ e => e
      obtain ⟨h', tk', rfl, F', N', rfl⟩ := q
      refine CompEnd.intro F' N' news (fun _ hx => hx) off hS (ih (i + 1) _ (by omega) ?_)
      rw [List.take_add_one, ho, Option.toList_some, ← hy]
  rw [List.size_toArray]
  exact all _ _ _ (Nat.add_zero _) (by simp)
end
theorem lift_get {T news : Led} {vs outs : List Value} {sel : Value → Value → Value} (hs : ∀ p ∈ T, p ∈ news) (g : ∀ (i : Nat) (v : Value), vs[i]? = some v → ∃ q v1 v2, v = .ref q ∧ (q, tupO [v1, v2]) ∈ T ∧ outs[i]? = some (sel v1 v2)) :
    ∀ (i : Nat) (v : Value), vs[i]? = some v → ∃ q v1 v2, v = .ref q ∧ (q, tupO [v1, v2]) ∈ news ∧ outs[i]? = some (sel v1 v2) := fun i v h => by
  obtain ⟨q, v1, v2, e, hm, ho⟩ := g i v h
  exact ⟨q, v1, v2, e, hs _ hm, ho⟩
theorem nr_end {x y z : Bool} (h1 : x = z) (h2 : y = z) (h : (x == z) = true) : (y == z) = true := by rw [h2]; cases z <;> rfl
theorem nr_false {x z : Bool} (h1 : x = z) (h : (x == z) = false) : False := by subst h1; cases x <;> cases h
theorem nums_up {T big : Led} {vs : List Value} {xs : List (Int × Int)} (A : NumsAre T vs xs) (hs : ∀ p ∈ T, p ∈ big) : NumsAre big vs xs := A.mono hs

end
section
theorem words_39001 : True := by
  k_with_none
  (k_with "@my enter" => (refine' code_def ?w9k1 ?w9k2 ?w9k3 ?w9k4 ?w9k5 ?w9kA ?w9kF ?w9kK ?w9k6 ?w9k7 ?w9k8 ?w9k9 ?w9kB ?_ ?w9c2 ?w9c3 ?w9c4 ?w9c5; (case w9kA => exact rfl); (case w9kF => exact rfl); (case w9kK => first | exact rfl | assumption); (case w9k1 => k_asm); (case w9k2 => k_asm); (case w9k3 => k_asm); (case w9k4 => k_asm); (case w9k5 => k_asm); (case w9k6 => k_is); (case w9k7 => k_is); (case w9k8 => ktr_room); (case w9k9 => first | exact BindsTo.of_eq rfl | exact binds_K (by k_in) rfl (by k_is) rfl rfl rfl); (case w9c5 => decide); (case w9kB => exact locs rfl); (case w9c2 => exact rfl); (case w9c3 => exact rfl); (case w9c4 => exact rfl); k_whole; intro g' L' h' FG' F' N' B' X' T'; (try dsimp only); (try k_lift B'); (try k_fold)))
  (k_with "@my enterC" => (refine' code_defC ?w9k1 ?w9k2 ?w9k3 ?w9k4 ?w9k5 ?w9kA ?w9kF ?w9kK ?w9k6 ?w9k7 ?w9k8 ?w9k9 ?w9kB ?w9kD ?_ ?w9c2 ?w9c3 ?w9c4; (case w9kA => exact rfl); (case w9kF => exact rfl); (case w9kK => first | exact rfl | assumption); (case w9k1 => k_asm); (case w9k2 => k_asm); (case w9k3 => k_asm); (case w9k4 => k_asm); (case w9k5 => k_asm); (case w9k6 => k_is); (case w9k7 => k_is); (case w9k8 => ktr_room); (case w9k9 => exact BindsTo.of_eq rfl); (case w9kB => exact rfl); (case w9kD => decide +kernel); (case w9c2 => exact rfl); (case w9c3 => exact rfl); (case w9c4 => exact rfl); k_whole; intro g' L' h' tk' cells' FG' F' N' Y' B' X' T' l1; k_cells Y'; (try simp only [List.cons_append, List.nil_append] at N'); (try dsimp only); (try k_lift B'); (try k_fold)))
  (k_with "@use led" => first | k_asm | exact News.sw1 (by k_asm) | exact News.sw2 (by k_asm) | exact News.sw3 (by k_asm) | exact News.sw4 (by k_asm) | exact News.sw5 (by k_asm) | exact News.sw6 (by k_asm) | exact News.sw7 (by k_asm) | exact News.sw8 (by k_asm) | exact News.sw9 (by k_asm) | exact News.sw10 (by k_asm) | exact News.sw11 (by k_asm) | exact News.sw12 (by k_asm) | exact News.sw13 (by k_asm) | exact News.sw14 (by k_asm) | exact News.sw15 (by k_asm) | exact News.sw16 (by k_asm) | exact News.sw17 (by k_asm) | exact News.sw18 (by k_asm) | exact News.sw19 (by k_asm) | exact News.sw20 (by k_asm) | exact News.sw21 (by k_asm) | exact News.sw22 (by k_asm) | exact News.sw23 (by k_asm) | exact News.sw24 (by k_asm) | exact News.sw25 (by k_asm) | exact News.sw26 (by k_asm))
  (k_with "k_all" => assumption)
  (k_with "@use pre 1" => first | assumption | omega | k_mem | k_all | rfl)
  (k_with "@use pre" => ((repeat' (first | (with_reducible refine And.intro ?_ ?_) | fail)); all_goals (walk_at "use pre 1")))
  (k_with "k_mem" => assumption)
  (k_with "@eval Call" => ((with_reducible show wpAny _ _ (eval (Expr.Call (Expr.Name _ _) _ [] _) _) _ _ _); k_dflt (refine Call_ ?_)))
  (k_with "@end led" => first | k_asm | exact News.d1 (by k_asm) | exact News.d2 (by k_asm) | exact News.d3 (by k_asm) | exact News.d4 (by k_asm) | exact News.d5 (by k_asm) | exact News.d6 (by k_asm) | exact News.d7 (by k_asm) | exact News.d8 (by k_asm) | exact News.d9 (by k_asm) | exact News.d10 (by k_asm) | exact News.d11 (by k_asm) | exact News.d12 (by k_asm))
  (k_with "@pyIter str" => k_extra "pyIter str")
  (k_with "@pyIter ref" => k_extra "pyIter ref")
  (k_with "@end led1" => first | k_asm | exact News.h1 (by k_asm) | exact News.h2 (by k_asm) | exact News.h3 (by k_asm) | exact News.h4 (by k_asm) | exact News.h5 (by k_asm) | exact News.h6 (by k_asm) | exact News.h7 (by k_asm) | exact News.h8 (by k_asm) | exact News.h9 (by k_asm))
  (k_with "@eval Name" => (k_here; k_dflt (first | (refine' nameX_L ?w9F ?w9v ?_ ?w9a ?w9b; (case w9F => k_asm); (case w9a => rfl); (case w9b => rfl); (case w9v => rfl); k_whole) | (refine' nameX_K ?w9F ?w9X ?w9T ?w9e ?_ ?w9a ?w9b; (case w9F => k_asm); (case w9X => k_asm); (case w9T => k_asm); (case w9a => rfl); (case w9b => rfl); (case w9e => k_is); k_whole) | (refine' nameX_B ?w9F ?w9X ?w9T ?w9e ?w9v ?w9n ?_ ?w9a ?w9b; (case w9F => k_asm); (case w9X => k_asm); (case w9T => k_asm); (case w9a => rfl); (case w9b => rfl); (case w9e => k_is); (case w9v => boot_fast); (case w9n => decide); k_whole))))
  (k_with "k_ne" => first | assumption | exact Nat.ne_of_gt (by assumption) | exact Nat.ne_of_lt (by assumption) | exact ne_p1 (by with_reducible assumption) | exact ne_p2 (by with_reducible assumption) | exact ne_p3 (by with_reducible assumption) | exact ne_p4 (by with_reducible assumption) | exact ne_p5 (by with_reducible assumption) | exact ne_p6 (by with_reducible assumption) | exact ne_p7 (by with_reducible assumption) | exact ne_p8 (by with_reducible assumption) | exact ne_q1 (by with_reducible assumption) | exact ne_q2 (by with_reducible assumption) | exact ne_q3 (by with_reducible assumption) | exact ne_q4 (by with_reducible assumption) | exact ne_q5 (by with_reducible assumption) | exact ne_q6 (by with_reducible assumption) | exact ne_q7 (by with_reducible assumption) | exact ne_q8 (by with_reducible assumption))
  trivial
theorem any_str {vs : List Value} {xs : List Str} (A : TxtAre vs xs) (f : Option Str → Bool) : (vs.any fun y => f (strOf y)) = xs.any fun a => f (some a) := by
  induction A with
  | nil => rfl
  | cons h ih => rw [List.any_cons, List.any_cons, ih]; rfl
theorem filter_any {α : Type} (p : α → Bool) (vs : List α) : (!(vs.filter p).isEmpty) = vs.any p := by
  induction vs with
  | nil => rfl
  | cons v r ih =>
    rw [List.any_cons, ← ih, List.filter_cons]
    cases p v <;> rfl
theorem any_swap {α : Type} {f : α → α → Bool} {xs ys : List α} : (xs.any fun a => ys.any fun b => f a b) = (ys.any fun b => xs.any fun a => f a b) := by
  rw [Bool.eq_iff_iff]
  simp only [List.any_eq_true]
  exact ⟨fun ⟨a, ha, b, hb, h⟩ => ⟨b, hb, a, ha, h⟩, fun ⟨b, hb, a, ha, h⟩ => ⟨a, ha, b, hb, h⟩⟩
theorem any_ext {α : Type} {f g : α → Bool} {xs : List α} (h : ∀ a, f a = g a) : xs.any f = xs.any g := by
  have : f = g := funext h
  rw [this]
theorem tr_eq1 {vs1 vs2 : List Value} {xs1 xs2 : List Str} {op : Str} (A1 : TxtAre vs1 xs1) (A2 : TxtAre vs2 xs2) (h : (op == Str.ofString "=") = true) :
    (xs1.any fun a => xs2.any fun b => (a == b) == (op == Str.ofString "=")) = !(List.filter (fun v => vs2.any fun y => strOf y == strOf v) vs1).isEmpty := by
  rw [filter_any, h]
  have e : ∀ v : Value, (vs2.any fun y => strOf y == strOf v) = xs2.any fun b => some b == strOf v := fun v => any_str A2 fun o => o == strOf v
  rw [any_ext e]
  rw [any_str A1 (fun o => xs2.any fun b => some b == o)]
  refine any_ext fun a => any_ext fun b => ?_
  show ((a == b) == true) = (b == a)
  rw [show (b == a) = (a == b) from BEq.comm]
  cases (a == b) <;> rfl
theorem tr_sym {xs1 xs2 : List Str} {c : Bool} : (xs2.any fun a => xs1.any fun b => (a == b) == c) = (xs1.any fun a => xs2.any fun b => (a == b) == c) := by
  rw [any_swap]
  refine any_ext fun a => any_ext fun b => ?_
  rw [show (b == a) = (a == b) from BEq.comm]
theorem tr_nil1 {vs1 : List Value} {xs1 xs2 : List Str} {c : Bool} (A1 : TxtAre vs1 xs1) (h : vs1.isEmpty = true) : (xs1.any fun a => xs2.any fun b => (a == b) == c) = !vs1.isEmpty := by
  cases A1 with
  | nil => rfl
  | cons _ => cases h
theorem tr_nil2 {vs2 : List Value} {xs1 xs2 : List Str} {c : Bool} (A2 : TxtAre vs2 xs2) (h : vs2.isEmpty = true) : (xs1.any fun a => xs2.any fun b => (a == b) == c) = !vs2.isEmpty := by
  rw [any_swap]
  cases A2 with
  | nil => rfl
  | cons _ => cases h
theorem tr_ne {vs1 vs2 : List Value} {xs1 xs2 : List Str} {op x0 : Str} {t0 : Tok} {r0 : List Value} (A1 : TxtAre vs1 xs1) (A2 : TxtAre vs2 xs2) (h : (op == Str.ofString "=") = false) (e0 : vs1 = .str x0 t0 :: r0) (hn : vs2.isEmpty = false) :
    (xs1.any fun a => xs2.any fun b => (a == b) == (op == Str.ofString "=")) = !(List.filter (fun v => !(strOf v == some x0)) (vs1 ++ vs2)).isEmpty := by
  rw [filter_any, h, List.any_append, any_str A1 (fun o => !(o == some x0)), any_str A2 (fun o => !(o == some x0))]
  subst e0
  cases A1 with
  | cons A1 =>
    rename_i xs
    cases A2 with
    | nil => cases hn
    | cons A2 =>
      rename_i y _ _ ys
      rw [Bool.eq_iff_iff]
      simp only [Bool.or_eq_true, List.any_eq_true]
      have key : ∀ a b : Str, (((a == b) == false) = true) ↔ a ≠ b := fun a b => by
        rw [beq_iff_eq]
        exact beq_eq_false_iff_ne
      have key2 : ∀ a : Str, ((!(some a == some x0)) = true) ↔ a ≠ x0 := fun a => by
        rw [Bool.not_eq_true', beq_eq_false_iff_ne]
        exact ⟨fun h e => h (e ▸ rfl), fun h e => h (Option.some.inj e)⟩
      simp only [key, key2]
      constructor
      · rintro ⟨a, ha, b, hb, hab⟩
        by_cases hax : a = x0
        · exact .inr ⟨b, hb, fun e => hab (hax.trans e.symm)⟩
        · exact .inl ⟨a, ha, hax⟩
      · rintro (⟨a, ha, hx⟩ | ⟨b, hb, hx⟩)
        · by_cases hy : y = x0
          · exact ⟨a, ha, y, .head _, fun e => hx (e.trans hy)⟩
          · exact ⟨x0, .head _, y, .head _, fun e => hy e.symm⟩
        · exact ⟨x0, .head _, b, hb, fun e => hx e.symm⟩
theorem tr_last1 {x y : Str} : (((x == y) == (Str.ofString "=" == Str.ofString "=")) == (x == y)) = true := by
  rw [show (Str.ofString "=" == Str.ofString "=") = true from by decide]
  cases (x == y) <;> rfl
theorem tr_last2 {x y : Str} : (((x == y) == (Str.ofString "!=" == Str.ofString "=")) == (x != y)) = true := by
  rw [show (Str.ofString "!=" == Str.ofString "=") = false from by decide]
  show (((x == y) == false) == (!(x == y))) = true
  cases (x == y) <;> rfl
theorem tr_sub {rest T b1 r1 r2 : Led} {x1 : Addr × Obj} (hT : ∀ p ∈ rest, p ∈ T) (S1 : ∀ p ∈ x1 :: b1, p ∈ r1) (S2 : ∀ p ∈ r1, p ∈ r2) (h : ∀ p ∈ T, p ∈ x1 :: b1) : ∀ p ∈ rest, p ∈ r2 := fun p hp => S2 p (S1 p (h p (hT p hp)))
theorem str_head2 {vs : List Value} (h : ∀ y ∈ vs, StrV y) (e : vs.isEmpty = false) : ∃ x t r, vs = .str x t :: r := str_head h (by rw [e]; rfl)
theorem item_head {prog : Program} {w : World} {A : Around} {E : Value → Shared → Prop} {s : Shared} {h₀ : Heap} {L l : Addr} {news : Led} {vs r : List Value} {v0 : Value} {n : Nat} {u : Tok} {value slice : PySem.Expr} {Q : Value → Shared → Prop} (N : News h₀ L s.heap news) (hm : (l, listOf vs.toArray n) ∈ news) (e : vs = v0 :: r) (h : Q v0 s)
    (hs : subscripted slice false (.ref l) (.int 0 u) = operate [.ref l, .int 0 u] (getItem (.ref l) (.int 0 u))) :
    wpAny (model prog w) A (subscriptTail value slice (.ref l) (.int 0 u)) Q E s :=
  item_listR (items := vs.toArray) ⟨_, (N _ hm).1, rfl, _, rfl⟩ (by decide) (by decide) (x := v0) (by subst e; simp) h hs
section
variable {w : World} {f : Addr} {dep : Nat} {led : Led} {vs : List Value} {mean : ExcName → Option Value} {mg mb : Str → Option Value} {dp un : Nat} {gd : Option (List Code)} {cn : Str} {cs : Scope} {a : Addr} {ccd : Value} {cl : List (Str × Addr)} {outer : List Env} {A₀ : Around} {base h₀ : Heap} {L : Addr} {m : Str → Option Value} {Q E : Value → Shared → Prop} {hp : Heap} {gn : Array GenState} {dr : Drawn} {tk : Nat} {os : OsState}
theorem Ctr.useTextG {bag : Addr} {n : Nat} {rest : Led}
  (N : News h₀ L hp led) (B : Below A₀ base outer h₀) (F : Fr h₀ L hp m) (X : (k0.heap_1 w.params).In h₀)
  (T : Top k0.view_1 (looseW k0.view_1 [Str.ofString "MOST", Str.ofString "number_of", Str.ofString "write_number"]) mean mg mb h₀) (hk : cs.kind = .function)
  (hdp : dp + dep < recursionLimit) (hun : un + 8 * dep < cLine)
  (C : Ctr w f dep led vs (EntryPost txtMenu bag n rest))
  (ret0 : ∀ a' b' ta' tb' rest', 0 ≤ a' → 0 ≤ b' → b' < 2147483647 → ∀ q x t rv, (q, tupO [.str x t, rv]) ∈ rest' → (∀ p ∈ rest, p ∈ rest') → (∀ p ∈ rest', p.1 ≠ bag) → ∀ (h' : Heap) (tk' : Nat), Fr h₀ L h' m → News h₀ L h' ((bag, bagO a' b' ta' tb' n) :: rest') → Q (.ref q) ⟨h', gn, dr, tk', os⟩) :
    wpAny (model PySem.Challenge.rw_xm0672_01.row.prog w) (ktrTop dp un gd cn cs L a ccd cl outer) (call (.ref f) vs) Q E ⟨hp, gn, dr, tk, os⟩ :=
  C.use B F X N T hk hdp hun (by rintro _ _ h' tk' ⟨a', b', ta', tb', rest', rfl, ⟨k1, k2, k3⟩, G9, S, H⟩ F N; obtain ⟨q, x, t, rv, rfl, m9⟩ := txt_good G9; exact ret0 _ _ _ _ _ k1 k2 k3 _ _ _ _ m9 S H h' tk' F N)
end
theorem tr_cut {w : World} {A : Around} {st : Sem Flow} {Q : Flow → Shared → Prop} {E : Value → Shared → Prop} {g' hp : Heap} {gn : Array GenState} {dr : Drawn} {tk : Nat} {os : OsState} {L' : Addr} {m : Str → Option Value} {led T : Led} {R : Bool} {bag c1 c2 c3 : Addr} {o1 o2 o3 : Obj} {n : Nat} {a b : Int} {ta tb : Tok}
    (_ : Fr g' L' hp m) (_ : News g' L' hp led) (_ : (bag, bagO a b ta tb n) ∈ led) (_ : (c1, o1) ∈ led) (_ : (c2, o2) ∈ led) (_ : (c3, o3) ∈ led)
    (h : ∀ (big : Led) (d : Bool) (h' : Heap) (tk' : Nat), (∀ p ∈ T, p ∈ big) → (∀ p ∈ big, p.1 ≠ bag) → (c1, o1) ∈ big → (c2, o2) ∈ big → (c3, o3) ∈ big → R = d → Fr g' L' h' (fun y => if y = Str.ofString "due" then some (Value.bool d) else m y) → News g' L' h' ((bag, bagO a b ta tb n) :: big) → Q .next ⟨h', gn, dr, tk', os⟩)
    (k : (∀ (big : Led) (d : Bool) (h' : Heap) (tk' : Nat), (∀ p ∈ T, p ∈ big) → (∀ p ∈ big, p.1 ≠ bag) → (c1, o1) ∈ big → (c2, o2) ∈ big → (c3, o3) ∈ big → R = d → Fr g' L' h' (fun y => if y = Str.ofString "due" then some (Value.bool d) else m y) → News g' L' h' ((bag, bagO a b ta tb n) :: big) → Q .next ⟨h', gn, dr, tk', os⟩) → wpAny (model PySem.Challenge.rw_xm0672_01.row.prog w) A st Q E ⟨hp, gn, dr, tk, os⟩) : wpAny (model PySem.Challenge.rw_xm0672_01.row.prog w) A st Q E ⟨hp, gn, dr, tk, os⟩ := k h
theorem tr_sub2 {rest T b1 r1 r2 : Led} (hT : ∀ p ∈ rest, p ∈ T) (hB : ∀ p ∈ T, p ∈ b1) (S1 : ∀ p ∈ b1, p ∈ r1) (S2 : ∀ p ∈ r1, p ∈ r2) : ∀ p ∈ rest, p ∈ r2 := fun p hp => S2 p (S1 p (hB p (hT p hp)))

end
section
theorem words_40001 : True := by
  k_with_none
  (k_with "@my enter" => (refine' code_def ?w9k1 ?w9k2 ?w9k3 ?w9k4 ?w9k5 ?w9kA ?w9kF ?w9kK ?w9k6 ?w9k7 ?w9k8 ?w9k9 ?w9kB ?_ ?w9c2 ?w9c3 ?w9c4 ?w9c5; (case w9kA => exact rfl); (case w9kF => exact rfl); (case w9kK => first | exact rfl | assumption); (case w9k1 => k_asm); (case w9k2 => k_asm); (case w9k3 => k_asm); (case w9k4 => k_asm); (case w9k5 => k_asm); (case w9k6 => k_is); (case w9k7 => k_is); (case w9k8 => ktr_room); (case w9k9 => first | exact BindsTo.of_eq rfl | exact binds_K (by k_in) rfl (by k_is) rfl rfl rfl); (case w9c5 => decide); (case w9kB => exact locs rfl); (case w9c2 => exact rfl); (case w9c3 => exact rfl); (case w9c4 => exact rfl); k_whole; intro g' L' h' FG' F' N' B' X' T'; (try dsimp only); (try k_lift B'); (try k_fold)))
  (k_with "@my enterC" => (refine' code_defC ?w9k1 ?w9k2 ?w9k3 ?w9k4 ?w9k5 ?w9kA ?w9kF ?w9kK ?w9k6 ?w9k7 ?w9k8 ?w9k9 ?w9kB ?w9kD ?_ ?w9c2 ?w9c3 ?w9c4; (case w9kA => exact rfl); (case w9kF => exact rfl); (case w9kK => first | exact rfl | assumption); (case w9k1 => k_asm); (case w9k2 => k_asm); (case w9k3 => k_asm); (case w9k4 => k_asm); (case w9k5 => k_asm); (case w9k6 => k_is); (case w9k7 => k_is); (case w9k8 => ktr_room); (case w9k9 => exact BindsTo.of_eq rfl); (case w9kB => exact rfl); (case w9kD => decide +kernel); (case w9c2 => exact rfl); (case w9c3 => exact rfl); (case w9c4 => exact rfl); k_whole; intro g' L' h' tk' cells' FG' F' N' Y' B' X' T' l1; k_cells Y'; (try simp only [List.cons_append, List.nil_append] at N'); (try dsimp only); (try k_lift B'); (try k_fold)))
  (k_with "@use led" => first | k_asm | exact News.sw1 (by k_asm) | exact News.sw2 (by k_asm) | exact News.sw3 (by k_asm) | exact News.sw4 (by k_asm) | exact News.sw5 (by k_asm) | exact News.sw6 (by k_asm) | exact News.sw7 (by k_asm) | exact News.sw8 (by k_asm) | exact News.sw9 (by k_asm) | exact News.sw10 (by k_asm) | exact News.sw11 (by k_asm) | exact News.sw12 (by k_asm) | exact News.sw13 (by k_asm) | exact News.sw14 (by k_asm) | exact News.sw15 (by k_asm) | exact News.sw16 (by k_asm) | exact News.sw17 (by k_asm) | exact News.sw18 (by k_asm) | exact News.sw19 (by k_asm) | exact News.sw20 (by k_asm) | exact News.sw21 (by k_asm) | exact News.sw22 (by k_asm) | exact News.sw23 (by k_asm) | exact News.sw24 (by k_asm) | exact News.sw25 (by k_asm) | exact News.sw26 (by k_asm))
  (k_with "k_all" => assumption)
  (k_with "@use pre 1" => first | assumption | omega | k_mem | k_all | rfl)
  (k_with "@use pre" => ((repeat' (first | (with_reducible refine And.intro ?_ ?_) | fail)); all_goals (walk_at "use pre 1")))
  (k_with "k_mem" => assumption)
  (k_with "@eval Call" => ((with_reducible show wpAny _ _ (eval (Expr.Call (Expr.Name _ _) _ [] _) _) _ _ _); k_dflt (refine Call_ ?_)))
  (k_with "@end led" => first | k_asm | exact News.d1 (by k_asm) | exact News.d2 (by k_asm) | exact News.d3 (by k_asm) | exact News.d4 (by k_asm) | exact News.d5 (by k_asm) | exact News.d6 (by k_asm) | exact News.d7 (by k_asm) | exact News.d8 (by k_asm) | exact News.d9 (by k_asm) | exact News.d10 (by k_asm) | exact News.d11 (by k_asm) | exact News.d12 (by k_asm))
  (k_with "@pyIter str" => k_extra "pyIter str")
  (k_with "@pyIter ref" => k_extra "pyIter ref")
  (k_with "@end led1" => first | k_asm | exact News.h1 (by k_asm) | exact News.h2 (by k_asm) | exact News.h3 (by k_asm) | exact News.h4 (by k_asm) | exact News.h5 (by k_asm) | exact News.h6 (by k_asm) | exact News.h7 (by k_asm) | exact News.h8 (by k_asm) | exact News.h9 (by k_asm))
  (k_with "@eval Name" => (k_here; k_dflt (first | (refine' nameX_L ?w9F ?w9v ?_ ?w9a ?w9b; (case w9F => k_asm); (case w9a => rfl); (case w9b => rfl); (case w9v => rfl); k_whole) | (refine' nameX_K ?w9F ?w9X ?w9T ?w9e ?_ ?w9a ?w9b; (case w9F => k_asm); (case w9X => k_asm); (case w9T => k_asm); (case w9a => rfl); (case w9b => rfl); (case w9e => k_is); k_whole) | (refine' nameX_B ?w9F ?w9X ?w9T ?w9e ?w9v ?w9n ?_ ?w9a ?w9b; (case w9F => k_asm); (case w9X => k_asm); (case w9T => k_asm); (case w9a => rfl); (case w9b => rfl); (case w9e => k_is); (case w9v => boot_fast); (case w9n => decide); k_whole))))
  (k_with "k_ne" => first | assumption | exact Nat.ne_of_gt (by assumption) | exact Nat.ne_of_lt (by assumption) | exact ne_p1 (by with_reducible assumption) | exact ne_p2 (by with_reducible assumption) | exact ne_p3 (by with_reducible assumption) | exact ne_p4 (by with_reducible assumption) | exact ne_p5 (by with_reducible assumption) | exact ne_p6 (by with_reducible assumption) | exact ne_p7 (by with_reducible assumption) | exact ne_p8 (by with_reducible assumption) | exact ne_q1 (by with_reducible assumption) | exact ne_q2 (by with_reducible assumption) | exact ne_q3 (by with_reducible assumption) | exact ne_q4 (by with_reducible assumption) | exact ne_q5 (by with_reducible assumption) | exact ne_q6 (by with_reducible assumption) | exact ne_q7 (by with_reducible assumption) | exact ne_q8 (by with_reducible assumption))
  trivial
open PyProof.Rows.LCg PyProof.Rows.LCp
section
theorem words_40002 : True := by
  (k_with "k_all" => first | with_reducible assumption | ((with_reducible refine ne_consG (by with_reducible assumption) ?_); k_all) | ((with_reducible refine ne_cons (by with_reducible assumption) ?_); k_all))
  (k_with "@my tails" => first | assumption | (with_reducible refine List.mem_cons_of_mem _ ?_; walk_at "my tails"))
  (k_with "@newTuple" => (k_here; (rename BagAt _ => hB9); k_dflt (refine' kup_newTuple ?w9tF ?w9tN ?_ ?w9tz; (case w9tF => k_asm); (case w9tN => k_asm); (case w9tz => kmk_size)); intro D' h' F' N' l1; (have hb := bag_lt hB9 l1 (by k_dflt k_mem)); clear l1; (try k_sweep)))
  (k_with "@newList" => (k_here; (rename BagAt _ => hB9); k_dflt (refine' newList_K ?w9tF ?w9tN ?_; (case w9tF => k_asm); (case w9tN => k_asm); k_whole); intro l' h' F' N' l1; (have hb := bag_lt hB9 l1 (by k_dflt k_mem)); clear l1; (try k_sweep)))
  trivial

theorem words_40003 : True := by
  (k_with "@call ref" => (k_here; (with_reducible show wpAny _ _ (call (Value.ref 412) _) _ _ _); k_dflt (refine' Ctr.usePick ?w9uN ?w9uB ?w9uF ?w9uX ?w9uT ?w9uK ?w9uD ?w9uU (c_pick _ ?w9uP) ?_; (case w9uN => walk_at "use led"); (case w9uB => k_asm); (case w9uF => k_asm); (case w9uX => k_asm); (case w9uT => k_asm); (case w9uK => first | exact rfl | assumption); (case w9uD => ktr_room); (case w9uU => ktr_units); (case w9uP => walk_at "use pre")); intro k9 t9 a9 b9 ta9 tb9 k1 k2 k3 k4 k5 h9 tk9 F9 N9; (try k_sweep); (try k_fold)))
  (k_with "@one pre" => (refine And.intro (by walk_at "use pre") (and3 (by k_mem) (by k_all) (by exact ⟨Nat.zero_lt_succ _, Nat.le_of_ble_eq_true rfl⟩))))
  trivial

theorem words_40004 : True := by
  (k_with "@my nums" => exact nums_up (by assumption) (by (intro p9 hp9; walk_at "my tails")))
  (k_with "@call ref" => (k_here; (with_reducible show wpAny _ _ (call (Value.ref 177) _) _ _ _); k_dflt (refine' Ctr.useA ?w9uN ?w9uB ?w9uF ?w9uX ?w9uT ?w9uK ?w9uD ?w9uU (c_pairN _ ?w9uP) ?_; (case w9uN => k_asm); (case w9uB => k_asm); (case w9uF => k_asm); (case w9uX => k_asm); (case w9uT => k_asm); (case w9uK => first | exact rfl | assumption); (case w9uD => ktr_room); (case w9uU => ktr_units); (case w9uP => (refine' And.intro (And.intro ?w9v1 ?w9v2) (And.intro ?w9v3 ?w9v4); (case w9v1 => k_mem); (case w9v3 => k_mem); (case w9v2 => walk_at "my nums"); (case w9v4 => walk_at "my nums")))); intro h9 tk9 F9 N9; (try k_sweep); (try k_fold)))
  (k_with "@call ref" => (k_here; (with_reducible show wpAny _ _ (call (Value.ref 473) _) _ _ _); k_dflt (refine' Ctr.useA ?w9uN ?w9uB ?w9uF ?w9uX ?w9uT ?w9uK ?w9uD ?w9uU (c_due _ ?w9uP) ?_; (case w9uN => k_asm); (case w9uB => k_asm); (case w9uF => k_asm); (case w9uX => k_asm); (case w9uT => k_asm); (case w9uK => first | exact rfl | assumption); (case w9uD => ktr_room); (case w9uU => ktr_units); (case w9uP => (refine' And.intro ?w9v0 (And.intro (And.intro ?w9v1 (And.intro ?w9v2 ?w9v3)) (And.intro ?w9v4 (And.intro ?w9v5 ?w9v6))); (case w9v0 => assumption); (case w9v1 => k_mem); (case w9v4 => k_mem); (case w9v2 => assumption); (case w9v5 => assumption); (case w9v3 => assumption); (case w9v6 => assumption)))); intro h9 tk9 F9 N9; (try k_sweep); (try k_fold)))
  (k_with "@call ref" => (k_here; (with_reducible show wpAny _ _ (call (Value.ref 461) _) _ _ _); k_dflt (refine' Ctr.useD ?w9uN ?w9uB ?w9uF ?w9uX ?w9uT ?w9uK ?w9uD ?w9uU (c_turned _ ?w9uP) ?_; (case w9uN => k_asm); (case w9uB => k_asm); (case w9uF => k_asm); (case w9uX => k_asm); (case w9uT => k_asm); (case w9uK => first | exact rfl | assumption); (case w9uD => ktr_room); (case w9uU => ktr_units); (case w9uP => assumption)); intro t9 h9 tk9 F9 N9; (try k_sweep); (try k_fold)))
  (k_with "@call ref" => (k_here; (with_reducible show wpAny _ _ (call (Value.ref 426) _) _ _ _); k_dflt (refine' Ctr.useF ?w9uN ?w9uB ?w9uF ?w9uX ?w9uT ?w9uK ?w9uD ?w9uU (c_numF _ ?w9uP) ?_; (case w9uN => walk_at "use led"); (case w9uB => k_asm); (case w9uF => k_asm); (case w9uX => k_asm); (case w9uT => k_asm); (case w9uK => first | exact rfl | assumption); (case w9uD => ktr_room); (case w9uU => ktr_units); (case w9uP => walk_at "use pre")); intro r9 a9 b9 ta9 tb9 new9 H91 H92 H93 G9 B9 O9 h9 tk9 F9 N9; (try k_sweep); (try k_fold)))
  (k_with "@call ref" => (k_here; (with_reducible show wpAny _ _ (call (Value.ref 419) _) _ _ _); k_dflt (refine' Ctr.useOps ?w9uN ?w9uB ?w9uF ?w9uX ?w9uT ?w9uK ?w9uD ?w9uU (c_one _ ?w9uP) ?w9hv ?_; (case w9uN => walk_at "use led"); (case w9uB => k_asm); (case w9uF => k_asm); (case w9uX => k_asm); (case w9uT => k_asm); (case w9uK => first | exact rfl | assumption); (case w9uD => ktr_room); (case w9uU => ktr_units); (case w9uP => walk_at "one pre"); (case w9hv => exact fun k9 r9 h9 => ops_of h9)); intro op9 t9 a9 b9 ta9 tb9 m9 k3 k4 k5 h9 tk9 F9 N9; (try k_sweep); (try k_fold)))
  (k_with "@eval ListComp" => (k_here; (with_reducible show wpAny _ _ (eval (Expr.ListComp _ [⟨Expr.Name _ _, _, [], _⟩] _ _) _) _ _ _); k_dflt (refine LCg.ListComp_U (F₀ := by k_asm) (by with_unfolding_all rfl) (by decide) (by rfl) (by decide) (by rfl) ?_); k_dflt lcg_toSrc))
  (k_with "@eval ListComp" => (k_here; (with_reducible show wpAny _ _ (eval (Expr.ListComp _ [⟨Expr.Tuple _ _ _, _, [], _⟩] _ _) _) _ _ _); k_dflt (refine LCp.ListComp_P (F₀ := by k_asm) (by with_unfolding_all rfl) (by decide) (by rfl) (by decide) (by rfl) (by rfl) (by decide) ?_); k_dflt lcp_toSrc))
  (k_with "@CompSrc" => (k_here; k_dflt (refine src_range (by rfl) (by k_asm) (by walk_at "use led") (by assumption) (small5 (by assumption) (by assumption)) (rsize5 (by assumption) (by assumption)) (nsize5 (by assumption) (by assumption)) ?_; intro g')))
  (k_with "@CompSrc" => (k_here; k_dflt (refine src_range (n2 := 2) (by rfl) (by k_asm) (by walk_at "use led") (by assumption) (by first | decide | rfl) (by first | rfl | decide) (by first | size_fits | exact Nat.le_of_ble_eq_true rfl) ?_; intro g')))
  (k_with "@SrcLP" => (k_here; k_dflt (refine LCp.SrcLP.ledger (by rfl) (by k_asm) (by k_asm) (by k_mem) (by (rw [List.size_toArray]; exact Nat.le_trans (by assumption) (by decide : 4 ≤ sizeLine))) ?_; intro g')))
  (k_with "@CompRestP" => k_extra "CompRestP")
  (k_with "@CompRest" => k_extra "CompRest")
  trivial
set_option maxHeartbeats 8000000 in
theorem c_nr (w : World) {rest : Led} {bag : Addr} {n : Nat} {a b : Int} {ta tb : Tok} (hp : (0 ≤ a ∧ 0 ≤ b ∧ b < 2147483647) ∧ (∀ p ∈ rest, p.1 ≠ bag)) :
    Ctr w 478 7 ((bag, bagO a b ta tb n) :: rest) [.ref bag] (RightPost bag n rest) := by
  obtain ⟨⟨ha, hb0, hb1⟩, hne⟩ := hp
  have hB := BagAt.mk (b := bag)
  unfold Ctr
  k_fill
  intro mean mg mb dp un gd cn cs aa ccd cl outer A₀ base h₀ L m s Q E B F X N T hk hdp hun hret
  refine wpAny_call ?_
  k_dflt (walk_at "my enterC")
  rename (∀ p ∈ _ :: rest, p.fst < _) => hl1
  have hm1 := first_mem (by assumption : News _ _ _ (_ :: (bag, _) :: rest))
  have hx1 := cell_lt1 hl1
  have hy1 := cell_off1 hl1
  (k_with "CompRest" => ((with_reducible show LCg.CompRest _ _ _ _ _ _ _ (Expr.ListComp _ _ _ _) _ _ _ _ _ _ _ _ _ _ _); (k_dflt (refine rest_outer (Good numMenu) Good.mono split1 hne (all1 (Nat.ne_of_gt hx1)) (all1 hy1) (fun v I8 oI8 C8 oC8 D8 ys8 a7 b7 ta7 tb7 new8 m₂ h9 tk9 E9 hab1 hab2 hab3 hbig hC hx F9 N9 => ?_) (fun D1 D2 vs1 vs2 a7 b7 ta7 tb7 T D h9 tk9 hab1 hab2 hab3 m1 m2 len1 len2 q1 q2 hrT hTb hTc hDb hDc F9 N9 => ?_) ⟨by assumption, by assumption, by assumption⟩)) <;> (try (k_dflt (replace N9 := app1 N9); k_dflt (have hTc1 := from1 hTc); k_dflt (have hDc1 := from1 hDc); clear hTc hDc; dsimp only at hTc1 hDc1; (have hd1 := Ne.symm hDc1); (have hd4 := Ne.symm hDb); (obtain ⟨ns1, rs1, es1, A1⟩ := pairs_of q1); (obtain ⟨ns2, rs2, es2, A2⟩ := pairs_of q2); (have hA1 := A1.nums); (have hA2 := A2.nums); (have hR1 := A1.rank); (have hR2 := A2.rank); (have hL1 : rs1.length ≤ 4 := Nat.le_trans (Nat.le_of_eq A1.lenR) len1); (have hL2 : rs2.length ≤ 4 := Nat.le_trans (Nat.le_of_eq A2.lenR) len2))) <;> (try (have hmt := app_mem (new := new8) hm1))))
  (k_with "CompRest" => ((with_reducible show LCg.CompRest _ _ _ _ _ _ _ (Expr.Call _ _ _ _) _ _ _ _ _ _ _ _ _ _ _); (k_dflt (refine rest_grow (Good numMenu) Good.mono (by k_all) (fun v I oI C oC D ys a7 b7 ta7 tb7 new m₂ h9 tk9 E9 hab hbig hC hx F9 N9 => ?_) (fun ys a b ta tb new hl hab hq hnb hoff => fin_inner Good.mono ⟨_, _, rfl⟩ hl (by assumption) hab hq hnb hoff) ⟨by assumption, by assumption, by assumption⟩)); (obtain ⟨hab1, hab2, hab3⟩ := hab); (have hmt2 := app_mem3 (new := new) (a := (I8, oI8)) (b := (C8, oC8)) (c := (D8, lst ys8)) hmt)))
  (k_with "CompRestP" => ((with_reducible show LCp.CompRestP _ _ _ _ _ _ _ (Expr.Name (Str.ofString "rank") _) _ _ _ _ _ _ _ _ _ _ _ _); (with_unfolding_all refine restP_map (vs := vs1) rs1 (fun v1 v2 => v2) (.inr ⟨_, by k_mem, rfl, _, rfl⟩) A1.lenR (lift_get (by (intro p9 hp9; walk_at "my tails")) A1.getR) (fun v1 v2 I oI C oC D ys9 m9 h9 tk9 E9 hC9 hx9 hy9 F9 N9 => ?_) ?_)))
  (k_with "CompRestP" => ((with_reducible show LCp.CompRestP _ _ _ _ _ _ _ (Expr.Name (Str.ofString "rank") _) _ _ _ _ _ _ _ _ _ _ _ _); (with_unfolding_all refine restP_map (vs := vs2) rs2 (fun v1 v2 => v2) (.inr ⟨_, by k_mem, rfl, _, rfl⟩) A2.lenR (lift_get (by (intro p9 hp9; walk_at "my tails")) A2.getR) (fun v1 v2 I oI C oC D ys9 m9 h9 tk9 E9 hC9 hx9 hy9 F9 N9 => ?_) ?_)))
  (k_with "CompRestP" => ((with_reducible show LCp.CompRestP _ _ _ _ _ _ _ (Expr.Name (Str.ofString "number") _) _ _ _ _ _ _ _ _ _ _ _ _); (with_unfolding_all refine restP_map (vs := vs1) ns1 (fun v1 v2 => v1) (.inr ⟨_, by k_mem, rfl, _, rfl⟩) A1.lenN (lift_get (by (intro p9 hp9; walk_at "my tails")) A1.getN) (fun v1 v2 I oI C oC D ys9 m9 h9 tk9 E9 hC9 hx9 hy9 F9 N9 => ?_) ?_)))
  (k_with "CompRestP" => ((with_reducible show LCp.CompRestP _ _ _ _ _ _ _ (Expr.Name (Str.ofString "number") _) _ _ _ _ _ _ _ _ _ _ _ _); (with_unfolding_all refine restP_map (vs := vs2) ns2 (fun v1 v2 => v1) (.inr ⟨_, by k_mem, rfl, _, rfl⟩) A2.lenN (lift_get (by (intro p9 hp9; walk_at "my tails")) A2.getN) (fun v1 v2 I oI C oC D ys9 m9 h9 tk9 E9 hC9 hx9 hy9 F9 N9 => ?_) ?_)))
  k_steps
  · exact gend_intro (by k_asm) (by k_asm) (by assumption) (by assumption) (by assumption) (by assumption) (by assumption) (by assumption)
  · exact ⟨_, _, rfl, by k_asm, by k_asm, rfl⟩
  · exact ⟨_, _, rfl, by k_asm, by k_asm, rfl⟩
  · exact ⟨_, _, rfl, by k_asm, by k_asm, rfl⟩
  · exact ⟨_, _, rfl, by k_asm, by k_asm, rfl⟩
  · exact fin_right hret (by k_asm) (by walk_at "use led") (congrArg Value.bool (beq_of (nr2 (by assumption) A1 A2))) (by ((repeat' (first | (with_reducible refine sub_cons ?_) | fail)); assumption)) (by k_all) (by assumption) (by assumption) (by assumption)
  · exact fin_right hret (by k_asm) (by walk_at "use led") (congrArg Value.bool (beq_of (nr1 (by assumption) A1 A2))) (by ((repeat' (first | (with_reducible refine sub_cons ?_) | fail)); assumption)) (by k_all) (by assumption) (by assumption) (by assumption)
end
theorem words_40005 : True := by
  k_with_none
  (k_with "@my enter" => (refine' code_def ?w9k1 ?w9k2 ?w9k3 ?w9k4 ?w9k5 ?w9kA ?w9kF ?w9kK ?w9k6 ?w9k7 ?w9k8 ?w9k9 ?w9kB ?_ ?w9c2 ?w9c3 ?w9c4 ?w9c5; (case w9kA => exact rfl); (case w9kF => exact rfl); (case w9kK => first | exact rfl | assumption); (case w9k1 => k_asm); (case w9k2 => k_asm); (case w9k3 => k_asm); (case w9k4 => k_asm); (case w9k5 => k_asm); (case w9k6 => k_is); (case w9k7 => k_is); (case w9k8 => ktr_room); (case w9k9 => first | exact BindsTo.of_eq rfl | exact binds_K (by k_in) rfl (by k_is) rfl rfl rfl); (case w9c5 => decide); (case w9kB => exact locs rfl); (case w9c2 => exact rfl); (case w9c3 => exact rfl); (case w9c4 => exact rfl); k_whole; intro g' L' h' FG' F' N' B' X' T'; (try dsimp only); (try k_lift B'); (try k_fold)))
  (k_with "@my enterC" => (refine' code_defC ?w9k1 ?w9k2 ?w9k3 ?w9k4 ?w9k5 ?w9kA ?w9kF ?w9kK ?w9k6 ?w9k7 ?w9k8 ?w9k9 ?w9kB ?w9kD ?_ ?w9c2 ?w9c3 ?w9c4; (case w9kA => exact rfl); (case w9kF => exact rfl); (case w9kK => first | exact rfl | assumption); (case w9k1 => k_asm); (case w9k2 => k_asm); (case w9k3 => k_asm); (case w9k4 => k_asm); (case w9k5 => k_asm); (case w9k6 => k_is); (case w9k7 => k_is); (case w9k8 => ktr_room); (case w9k9 => exact BindsTo.of_eq rfl); (case w9kB => exact rfl); (case w9kD => decide +kernel); (case w9c2 => exact rfl); (case w9c3 => exact rfl); (case w9c4 => exact rfl); k_whole; intro g' L' h' tk' cells' FG' F' N' Y' B' X' T' l1; k_cells Y'; (try simp only [List.cons_append, List.nil_append] at N'); (try dsimp only); (try k_lift B'); (try k_fold)))
  (k_with "@use led" => first | k_asm | exact News.sw1 (by k_asm) | exact News.sw2 (by k_asm) | exact News.sw3 (by k_asm) | exact News.sw4 (by k_asm) | exact News.sw5 (by k_asm) | exact News.sw6 (by k_asm) | exact News.sw7 (by k_asm) | exact News.sw8 (by k_asm) | exact News.sw9 (by k_asm) | exact News.sw10 (by k_asm) | exact News.sw11 (by k_asm) | exact News.sw12 (by k_asm) | exact News.sw13 (by k_asm) | exact News.sw14 (by k_asm) | exact News.sw15 (by k_asm) | exact News.sw16 (by k_asm) | exact News.sw17 (by k_asm) | exact News.sw18 (by k_asm) | exact News.sw19 (by k_asm) | exact News.sw20 (by k_asm) | exact News.sw21 (by k_asm) | exact News.sw22 (by k_asm) | exact News.sw23 (by k_asm) | exact News.sw24 (by k_asm) | exact News.sw25 (by k_asm) | exact News.sw26 (by k_asm))
  (k_with "k_all" => assumption)
  (k_with "@use pre 1" => first | assumption | omega | k_mem | k_all | rfl)
  (k_with "@use pre" => ((repeat' (first | (with_reducible refine And.intro ?_ ?_) | fail)); all_goals (walk_at "use pre 1")))
  (k_with "k_mem" => assumption)
  (k_with "@eval Call" => ((with_reducible show wpAny _ _ (eval (Expr.Call (Expr.Name _ _) _ [] _) _) _ _ _); k_dflt (refine Call_ ?_)))
  (k_with "@end led" => first | k_asm | exact News.d1 (by k_asm) | exact News.d2 (by k_asm) | exact News.d3 (by k_asm) | exact News.d4 (by k_asm) | exact News.d5 (by k_asm) | exact News.d6 (by k_asm) | exact News.d7 (by k_asm) | exact News.d8 (by k_asm) | exact News.d9 (by k_asm) | exact News.d10 (by k_asm) | exact News.d11 (by k_asm) | exact News.d12 (by k_asm))
  (k_with "@pyIter str" => k_extra "pyIter str")
  (k_with "@pyIter ref" => k_extra "pyIter ref")
  (k_with "@end led1" => first | k_asm | exact News.h1 (by k_asm) | exact News.h2 (by k_asm) | exact News.h3 (by k_asm) | exact News.h4 (by k_asm) | exact News.h5 (by k_asm) | exact News.h6 (by k_asm) | exact News.h7 (by k_asm) | exact News.h8 (by k_asm) | exact News.h9 (by k_asm))
  (k_with "@eval Name" => (k_here; k_dflt (first | (refine' nameX_L ?w9F ?w9v ?_ ?w9a ?w9b; (case w9F => k_asm); (case w9a => rfl); (case w9b => rfl); (case w9v => rfl); k_whole) | (refine' nameX_K ?w9F ?w9X ?w9T ?w9e ?_ ?w9a ?w9b; (case w9F => k_asm); (case w9X => k_asm); (case w9T => k_asm); (case w9a => rfl); (case w9b => rfl); (case w9e => k_is); k_whole) | (refine' nameX_B ?w9F ?w9X ?w9T ?w9e ?w9v ?w9n ?_ ?w9a ?w9b; (case w9F => k_asm); (case w9X => k_asm); (case w9T => k_asm); (case w9a => rfl); (case w9b => rfl); (case w9e => k_is); (case w9v => boot_fast); (case w9n => decide); k_whole))))
  (k_with "k_ne" => first | assumption | exact Nat.ne_of_gt (by assumption) | exact Nat.ne_of_lt (by assumption) | exact ne_p1 (by with_reducible assumption) | exact ne_p2 (by with_reducible assumption) | exact ne_p3 (by with_reducible assumption) | exact ne_p4 (by with_reducible assumption) | exact ne_p5 (by with_reducible assumption) | exact ne_p6 (by with_reducible assumption) | exact ne_p7 (by with_reducible assumption) | exact ne_p8 (by with_reducible assumption) | exact ne_q1 (by with_reducible assumption) | exact ne_q2 (by with_reducible assumption) | exact ne_q3 (by with_reducible assumption) | exact ne_q4 (by with_reducible assumption) | exact ne_q5 (by with_reducible assumption) | exact ne_q6 (by with_reducible assumption) | exact ne_q7 (by with_reducible assumption) | exact ne_q8 (by with_reducible assumption))
  trivial

end
section
theorem words_41001 : True := by
  k_with_none
  (k_with "@my enter" => (refine' code_def ?w9k1 ?w9k2 ?w9k3 ?w9k4 ?w9k5 ?w9kA ?w9kF ?w9kK ?w9k6 ?w9k7 ?w9k8 ?w9k9 ?w9kB ?_ ?w9c2 ?w9c3 ?w9c4 ?w9c5; (case w9kA => exact rfl); (case w9kF => exact rfl); (case w9kK => first | exact rfl | assumption); (case w9k1 => k_asm); (case w9k2 => k_asm); (case w9k3 => k_asm); (case w9k4 => k_asm); (case w9k5 => k_asm); (case w9k6 => k_is); (case w9k7 => k_is); (case w9k8 => ktr_room); (case w9k9 => first | exact BindsTo.of_eq rfl | exact binds_K (by k_in) rfl (by k_is) rfl rfl rfl); (case w9c5 => decide); (case w9kB => exact locs rfl); (case w9c2 => exact rfl); (case w9c3 => exact rfl); (case w9c4 => exact rfl); k_whole; intro g' L' h' FG' F' N' B' X' T'; (try dsimp only); (try k_lift B'); (try k_fold)))
  (k_with "@my enterC" => (refine' code_defC ?w9k1 ?w9k2 ?w9k3 ?w9k4 ?w9k5 ?w9kA ?w9kF ?w9kK ?w9k6 ?w9k7 ?w9k8 ?w9k9 ?w9kB ?w9kD ?_ ?w9c2 ?w9c3 ?w9c4; (case w9kA => exact rfl); (case w9kF => exact rfl); (case w9kK => first | exact rfl | assumption); (case w9k1 => k_asm); (case w9k2 => k_asm); (case w9k3 => k_asm); (case w9k4 => k_asm); (case w9k5 => k_asm); (case w9k6 => k_is); (case w9k7 => k_is); (case w9k8 => ktr_room); (case w9k9 => exact BindsTo.of_eq rfl); (case w9kB => exact rfl); (case w9kD => decide +kernel); (case w9c2 => exact rfl); (case w9c3 => exact rfl); (case w9c4 => exact rfl); k_whole; intro g' L' h' tk' cells' FG' F' N' Y' B' X' T' l1; k_cells Y'; (try simp only [List.cons_append, List.nil_append] at N'); (try dsimp only); (try k_lift B'); (try k_fold)))
  (k_with "@use led" => first | k_asm | exact News.sw1 (by k_asm) | exact News.sw2 (by k_asm) | exact News.sw3 (by k_asm) | exact News.sw4 (by k_asm) | exact News.sw5 (by k_asm) | exact News.sw6 (by k_asm) | exact News.sw7 (by k_asm) | exact News.sw8 (by k_asm) | exact News.sw9 (by k_asm) | exact News.sw10 (by k_asm) | exact News.sw11 (by k_asm) | exact News.sw12 (by k_asm) | exact News.sw13 (by k_asm) | exact News.sw14 (by k_asm) | exact News.sw15 (by k_asm) | exact News.sw16 (by k_asm) | exact News.sw17 (by k_asm) | exact News.sw18 (by k_asm) | exact News.sw19 (by k_asm) | exact News.sw20 (by k_asm) | exact News.sw21 (by k_asm) | exact News.sw22 (by k_asm) | exact News.sw23 (by k_asm) | exact News.sw24 (by k_asm) | exact News.sw25 (by k_asm) | exact News.sw26 (by k_asm))
  (k_with "k_all" => assumption)
  (k_with "@use pre 1" => first | assumption | omega | k_mem | k_all | rfl)
  (k_with "@use pre" => ((repeat' (first | (with_reducible refine And.intro ?_ ?_) | fail)); all_goals (walk_at "use pre 1")))
  (k_with "k_mem" => assumption)
  (k_with "@eval Call" => ((with_reducible show wpAny _ _ (eval (Expr.Call (Expr.Name _ _) _ [] _) _) _ _ _); k_dflt (refine Call_ ?_)))
  (k_with "@end led" => first | k_asm | exact News.d1 (by k_asm) | exact News.d2 (by k_asm) | exact News.d3 (by k_asm) | exact News.d4 (by k_asm) | exact News.d5 (by k_asm) | exact News.d6 (by k_asm) | exact News.d7 (by k_asm) | exact News.d8 (by k_asm) | exact News.d9 (by k_asm) | exact News.d10 (by k_asm) | exact News.d11 (by k_asm) | exact News.d12 (by k_asm))
  (k_with "@pyIter str" => k_extra "pyIter str")
  (k_with "@pyIter ref" => k_extra "pyIter ref")
  (k_with "@end led1" => first | k_asm | exact News.h1 (by k_asm) | exact News.h2 (by k_asm) | exact News.h3 (by k_asm) | exact News.h4 (by k_asm) | exact News.h5 (by k_asm) | exact News.h6 (by k_asm) | exact News.h7 (by k_asm) | exact News.h8 (by k_asm) | exact News.h9 (by k_asm))
  (k_with "@eval Name" => (k_here; k_dflt (first | (refine' nameX_L ?w9F ?w9v ?_ ?w9a ?w9b; (case w9F => k_asm); (case w9a => rfl); (case w9b => rfl); (case w9v => rfl); k_whole) | (refine' nameX_K ?w9F ?w9X ?w9T ?w9e ?_ ?w9a ?w9b; (case w9F => k_asm); (case w9X => k_asm); (case w9T => k_asm); (case w9a => rfl); (case w9b => rfl); (case w9e => k_is); k_whole) | (refine' nameX_B ?w9F ?w9X ?w9T ?w9e ?w9v ?w9n ?_ ?w9a ?w9b; (case w9F => k_asm); (case w9X => k_asm); (case w9T => k_asm); (case w9a => rfl); (case w9b => rfl); (case w9e => k_is); (case w9v => boot_fast); (case w9n => decide); k_whole))))
  (k_with "k_ne" => first | assumption | exact Nat.ne_of_gt (by assumption) | exact Nat.ne_of_lt (by assumption) | exact ne_p1 (by with_reducible assumption) | exact ne_p2 (by with_reducible assumption) | exact ne_p3 (by with_reducible assumption) | exact ne_p4 (by with_reducible assumption) | exact ne_p5 (by with_reducible assumption) | exact ne_p6 (by with_reducible assumption) | exact ne_p7 (by with_reducible assumption) | exact ne_p8 (by with_reducible assumption) | exact ne_q1 (by with_reducible assumption) | exact ne_q2 (by with_reducible assumption) | exact ne_q3 (by with_reducible assumption) | exact ne_q4 (by with_reducible assumption) | exact ne_q5 (by with_reducible assumption) | exact ne_q6 (by with_reducible assumption) | exact ne_q7 (by with_reducible assumption) | exact ne_q8 (by with_reducible assumption))
  trivial
theorem txts_of {t1 t2 t3 t4 : Tok} {k : Nat} {r : Value} (h : [Value.str (Str.ofString "a") t1, .str (Str.ofString "b") t2, .str (Str.ofString "c") t3, .str (Str.ofString "") t4][k]? = some r) : ∃ x t, r = .str x t := by
  have hm := List.mem_of_getElem? h
  simp only [List.mem_cons, List.not_mem_nil, or_false] at hm
  rcases hm with rfl | rfl | rfl | rfl
  all_goals exact ⟨_, _, rfl⟩
theorem txts_ofT {t1 t2 t3 t4 : Tok} {k : Nat} {r : Value} (h : [Value.str (Str.ofString "a") t1, .str (Str.ofString "b") t2, .str (Str.ofString "c") t3, .str (Str.ofString "") t4][k]? = some r) : ∃ x t, r = Value.str x t ∧ True := by
  obtain ⟨x, t, e⟩ := txts_of h
  exact ⟨x, t, e, trivial⟩
theorem ops2_of {t1 t2 : Tok} {k : Nat} {r : Value} (h : [Value.str (Str.ofString "=") t1, .str (Str.ofString "!=") t2][k]? = some r) : ∃ op t, r = .str op t ∧ op ∈ [Str.ofString "=", Str.ofString "!="] := by
  have hm := List.mem_of_getElem? h
  simp only [List.mem_cons, List.not_mem_nil, or_false] at hm
  rcases hm with rfl | rfl
  all_goals exact ⟨_, _, rfl, by decide⟩
open PyProof.Rows.LCg
section
theorem words_41002 : True := by
  (k_with "k_all" => first | with_reducible assumption | ((with_reducible refine ne_consG (by with_reducible assumption) ?_); k_all) | ((with_reducible refine ne_cons (by with_reducible assumption) ?_); k_all))
  (k_with "@newTuple" => (k_here; (rename BagAt _ => hB9); k_dflt (refine' kup_newTuple ?w9tF ?w9tN ?_ ?w9tz; (case w9tF => k_asm); (case w9tN => k_asm); (case w9tz => kmk_size)); intro D' h' F' N' l1; (have hb := bag_lt hB9 l1 (by k_dflt k_mem)); clear l1; (try k_sweep)))
  (k_with "@newList" => (k_here; (rename BagAt _ => hB9); k_dflt (refine' newList_K ?w9tF ?w9tN ?_; (case w9tF => k_asm); (case w9tN => k_asm); k_whole); intro l' h' F' N' l1; (have hb := bag_lt hB9 l1 (by k_dflt k_mem)); clear l1; (try k_sweep)))
  trivial

theorem words_41003 : True := by
  (k_with "@call ref" => (k_here; (with_reducible show wpAny _ _ (call (Value.ref 412) _) _ _ _); k_dflt (refine' Ctr.usePick ?w9uN ?w9uB ?w9uF ?w9uX ?w9uT ?w9uK ?w9uD ?w9uU (c_pick _ ?w9uP) ?_; (case w9uN => walk_at "use led"); (case w9uB => k_asm); (case w9uF => k_asm); (case w9uX => k_asm); (case w9uT => k_asm); (case w9uK => first | exact rfl | assumption); (case w9uD => ktr_room); (case w9uU => ktr_units); (case w9uP => walk_at "use pre")); intro k9 t9 a9 b9 ta9 tb9 k1 k2 k3 k4 k5 h9 tk9 F9 N9; (try k_sweep); (try k_fold)))
  (k_with "@one pre" => (refine And.intro (by walk_at "use pre") (and3 (by k_mem) (by k_all) (by exact ⟨Nat.zero_lt_succ _, Nat.le_of_ble_eq_true rfl⟩))))
  trivial

theorem words_41004 : True := by
  (k_with "@my strs" => first | assumption | exact str_nil | (refine str_cons ?_; walk_at "my strs"))
  (k_with "@compareOp In" => (k_here; (with_reducible show wpAny _ _ (compareOp CmpOp.In (Value.str _ _) (Value.ref _)) _ _ _); k_dflt (refine' in_strs ?w9sN ?w9sm ?w9sv ?_; (case w9sN => k_asm); (case w9sm => k_mem); (case w9sv => walk_at "my strs"))))
  (k_with "@subscriptTail Name Constant str int" => (k_here; (with_reducible show wpAny _ _ (subscriptTail _ _ (Value.str _ _) (Value.int 0 _)) _ _ _); k_dflt (refine' item_op ?w9i0 ?_ ?w9i1 ?w9i2; (case w9i0 => assumption); (case w9i1 => with_unfolding_all rfl); (case w9i2 => (intro _; with_unfolding_all rfl)))))
  trivial

theorem words_41005 : True := by
  (k_with "@call ref" => (k_here; (with_reducible show wpAny _ _ (call (Value.ref 177) _) _ _ _); k_dflt (refine' Ctr.useA ?w9uN ?w9uB ?w9uF ?w9uX ?w9uT ?w9uK ?w9uD ?w9uU (c_pairS _ ?w9uP) ?_; (case w9uN => k_asm); (case w9uB => k_asm); (case w9uF => k_asm); (case w9uX => k_asm); (case w9uT => k_asm); (case w9uK => first | exact rfl | assumption); (case w9uD => ktr_room); (case w9uU => ktr_units); (case w9uP => walk_at "use pre")); intro h9 tk9 F9 N9; (try k_sweep); (try k_fold)))
  (k_with "@call ref" => (k_here; (with_reducible show wpAny _ _ (call (Value.ref 163) _) _ _ _); k_dflt (refine' Ctr.useA ?w9uN ?w9uB ?w9uF ?w9uX ?w9uT ?w9uK ?w9uD ?w9uU (c_ctexts _ ?w9uP) ?_; (case w9uN => k_asm); (case w9uB => k_asm); (case w9uF => k_asm); (case w9uX => k_asm); (case w9uT => k_asm); (case w9uK => first | exact rfl | assumption); (case w9uD => ktr_room); (case w9uU => ktr_units); (case w9uP => trivial)); intro h9 tk9 F9 N9; (try k_sweep); (try k_fold)))
  (k_with "@call ref" => (k_here; (with_reducible show wpAny _ _ (call (Value.ref 433) _) _ _ _); k_dflt (refine' Ctr.useTextG ?w9uN ?w9uB ?w9uF ?w9uX ?w9uT ?w9uK ?w9uD ?w9uU (c_text _ ?w9uP) ?_; (case w9uN => walk_at "use led"); (case w9uB => k_asm); (case w9uF => k_asm); (case w9uX => k_asm); (case w9uT => k_asm); (case w9uK => first | exact rfl | assumption); (case w9uD => ktr_room); (case w9uU => ktr_units); (case w9uP => walk_at "use pre")); intro a9 b9 ta9 tb9 rest9 k1 k2 k3 q9 x9 t9 rv9 m9 S9 H9 h9 tk9 F9 N9; (try (k_dflt (have m8 := cell_keep (by assumption : _ ∈ _ :: _ :: _ :: _) S9 (by k_mem)))); (try k_sweep); (try k_fold)))
  (k_with "@call ref" => (k_here; (with_reducible show wpAny _ _ (call (Value.ref 419) _) _ _ _); k_dflt (refine' Ctr.useOps ?w9uN ?w9uB ?w9uF ?w9uX ?w9uT ?w9uK ?w9uD ?w9uU (c_one _ ?w9uP) ?w9hv ?_; (case w9uN => walk_at "use led"); (case w9uB => k_asm); (case w9uF => k_asm); (case w9uX => k_asm); (case w9uT => k_asm); (case w9uK => first | exact rfl | assumption); (case w9uD => ktr_room); (case w9uU => ktr_units); (case w9uP => walk_at "one pre"); (case w9hv => first | exact fun k9 r9 h9 => ops2_of h9 | exact fun k9 r9 h9 => txts_ofT h9)); intro op9 t9 a9 b9 ta9 tb9 m9 k3 k4 k5 h9 tk9 F9 N9; (try k_sweep); (try k_fold)))
  (k_with "@eval ListComp" => (k_here; (with_reducible show wpAny _ _ (eval (Expr.ListComp _ [⟨_, _, [], _⟩] _ _) _) _ _ _); k_dflt (refine LCg.ListComp_U (F₀ := by k_asm) (by with_unfolding_all rfl) (by decide) (by rfl) (by decide) (by rfl) ?_); k_dflt lcg_toSrc))
  (k_with "@CompSrc" => (k_here; k_dflt (refine src_range (by rfl) (by k_asm) (by walk_at "use led") (by assumption) (small5 (by assumption) (by assumption)) (rsize5 (by assumption) (by assumption)) (nsize5 (by assumption) (by assumption)) ?_; intro g')))
  (k_with "@CompSrc" => (k_here; k_dflt (refine src_range (n2 := 2) (by rfl) (by k_asm) (by walk_at "use led") (by assumption) (by first | decide | rfl) (by first | rfl | decide) (by first | size_fits | exact Nat.le_of_ble_eq_true rfl) ?_; intro g')))
  (k_with "@compareOp Eq ref ref" => (k_here; (with_reducible show wpAny _ _ (compareOp CmpOp.Eq (Value.ref _) (Value.ref _)) _ _ _); k_dflt (refine' eq_nil ?w9rN ?w9rm ?w9rd ?w9ru ?_; (case w9rN => k_asm); (case w9rm => k_mem); (case w9rd => k_mem); (case w9ru => ktr_units))))
  (k_with "@compareOp NotEq ref ref" => (k_here; (with_reducible show wpAny _ _ (compareOp CmpOp.NotEq (Value.ref _) (Value.ref _)) _ _ _); k_dflt (refine' ne_nil ?w9rN ?w9rm ?w9rd ?w9ru ?_; (case w9rN => k_asm); (case w9rm => k_mem); (case w9rd => k_mem); (case w9ru => ktr_units))))
  (k_with "@binaryOp Add ref ref" => (k_here; (with_reducible show wpAny _ _ (binaryOp _ (Value.ref _) (Value.ref _)) _ _ _); k_dflt (refine' add_l ?w9rF ?w9rN ?w9rm ?w9rd ?w9ru ?_; (case w9rF => k_asm); (case w9rN => k_asm); (case w9rm => k_mem); (case w9rd => k_mem); (case w9ru => omega)); intro D' h' F' N' l1; (rename BagAt _ => hB9); (have hb := bag_lt hB9 l1 (by k_dflt k_mem)); (try k_sweep)))
  (k_with "@CompSrcT" => (k_here; k_dflt (refine LCt.CompSrcT.ledger (by rfl) (by k_asm) (by k_asm) (by k_mem) (by (rw [List.size_toArray]; exact Nat.le_trans (by first | assumption | omega | (rw [List.length_append]; omega)) (by decide : 100 ≤ sizeLine))) ?_; intro g')))
  (k_with "@my tails" => first | assumption | (with_reducible refine List.mem_cons_of_mem _ ?_; walk_at "my tails"))
  (k_with "@subscriptTail" => (k_here; (with_reducible show wpAny _ _ (subscriptTail _ _ (Value.ref _) (Value.int 0 _)) _ _ _); k_dflt (refine' item_head ?w9nN ?w9nm ?w9ne ?_ ?w9ns; (case w9nN => k_asm); (case w9nm => k_mem); (case w9ne => assumption); (case w9ns => with_unfolding_all rfl))))
  (k_with "@CompRestT" => k_extra "CompRestT")
  (k_with "@eval ListComp" => (k_here; (with_reducible show wpAny _ _ (eval (Expr.ListComp _ [⟨_, _, [_], _⟩] _ _) _) _ _ _); k_dflt (refine LCt.ListComp_T (F₀ := by k_asm) (by with_unfolding_all rfl) (by decide) (by rfl) (by decide) (by rfl) ?_); k_dflt lct_toSrc))
  (k_with "@CompRest" => k_extra "CompRest")
  trivial
set_option maxHeartbeats 8000000 in
theorem c_tr (w : World) {rest : Led} {bag : Addr} {n : Nat} {a b : Int} {ta tb : Tok} (hp : (0 ≤ a ∧ 0 ≤ b ∧ b < 2147483647) ∧ (∀ p ∈ rest, p.1 ≠ bag)) :
    Ctr w 483 7 ((bag, bagO a b ta tb n) :: rest) [.ref bag] (RightPost bag n rest) := by
  obtain ⟨⟨ha, hb0, hb1⟩, hne⟩ := hp
  have hB := BagAt.mk (b := bag)
  unfold Ctr
  k_fill
  intro mean mg mb dp un gd cn cs aa ccd cl outer A₀ base h₀ L m s Q E B F X N T hk hdp hun hret
  refine wpAny_call ?_
  k_dflt (walk_at "my enterC")
  rename (∀ p ∈ _ :: rest, p.fst < _) => hl1
  have hm1 := third_mem (by assumption : News _ _ _ (_ :: _ :: _ :: (bag, _) :: rest))
  have hx1 := cell_lt1 hl1
  have hy1 := cell_off1 hl1
  have hx2 := cell_lt1 (led_lt1 hl1)
  have hy2 := cell_off1 (led_lt1 hl1)
  have hx3 := cell_lt1 (led_lt1 (led_lt1 hl1))
  have hy3 := cell_off1 (led_lt1 (led_lt1 hl1))
  (k_with "CompRest" => ((with_reducible show LCg.CompRest _ _ _ _ _ _ _ (Expr.ListComp _ _ _ _) _ _ _ _ _ _ _ _ _ _ _); (k_dflt (refine rest_outer TQ TQ.mono split3 hne (all3 (Nat.ne_of_gt hx3) (Nat.ne_of_gt hx2) (Nat.ne_of_gt hx1)) (all3 hy3 hy2 hy1) (fun v I8 oI8 C8 oC8 D8 ys8 a7 b7 ta7 tb7 new8 m₂ h9 tk9 E9 hab1 hab2 hab3 hbig hC hx F9 N9 => ?_) (fun D1 D2 vs1 vs2 a7 b7 ta7 tb7 T D h9 tk9 hab1 hab2 hab3 m1 m2 len1 len2 q1 q2 hrT hTb hTc hDb hDc F9 N9 => ?_) ⟨by assumption, by assumption, by assumption⟩)) <;> (try (k_dflt (replace N9 := app3 N9); k_dflt (obtain ⟨hTc3, hTc2, hTc1⟩ := from3 hTc); k_dflt (obtain ⟨hDc3, hDc2, hDc1⟩ := from3 hDc); clear hTc hDc; dsimp only at hTc1 hTc2 hTc3 hDc1 hDc2 hDc3; (have hd1 := Ne.symm hDc1); (have hd2 := Ne.symm hDc2); (have hd3 := Ne.symm hDc3); (have hd4 := Ne.symm hDb); (obtain ⟨xs1, A1⟩ := txt_of q1); (obtain ⟨xs2, A2⟩ := txt_of q2); (have hs1 := txt_str q1); (have hs2 := txt_str q2))) <;> (try (have hmt := app_mem (new := new8) hm1))))
  (k_with "CompRest" => ((with_reducible show LCg.CompRest _ _ _ _ _ _ _ (Expr.Call _ _ _ _) _ _ _ _ _ _ _ _ _ _ _); (k_dflt (refine rest_grow TQ TQ.mono (by k_all) (fun v I oI C oC D ys a7 b7 ta7 tb7 new m₂ h9 tk9 E9 hab hbig hC hx F9 N9 => ?_) (fun ys a b ta tb new hl hab hq hnb hoff => fin_inner TQ.mono ⟨_, _, rfl⟩ hl (by assumption) hab hq hnb hoff) ⟨by assumption, by assumption, by assumption⟩)); (obtain ⟨hab1, hab2, hab3⟩ := hab); (have hmt2 := app_mem3 (new := new) (a := (I8, oI8)) (b := (C8, oC8)) (c := (D8, lst ys8)) hmt)))
  (k_with "CompRestT" => ((with_reducible show LCt.CompRestT _ _ _ _ _ _ _ (Expr.Compare _ [CmpOp.In] _ _) _ _ _ _ _ _ _ _ _ _ _ _); (with_unfolding_all refine restT_filter (fun v => vs2.any fun y => strOf y == strOf v) (.inr ⟨_, by k_mem, rfl, _, rfl⟩) (fun v I oI C oC D ys9 m9 h9 tk9 E9 hv9 hC9 hx9 F9 N9 => ?_) ?_) <;> (try obtain ⟨x9, t9, rfl⟩ := str_cases hs1 hv9)))
  (k_with "CompRestT" => ((with_reducible show LCt.CompRestT _ _ _ _ _ _ _ (Expr.Compare _ [CmpOp.NotEq] _ _) _ _ _ _ _ _ _ _ _ _ _ _); (obtain ⟨x0, t0, r0, e0⟩ := str_head2 hs1 (by assumption)); (with_unfolding_all refine restT_filter (fun v => !(strOf v == some x0)) (.inr ⟨_, by k_mem, rfl, _, rfl⟩) (fun v I oI C oC D ys9 m9 h9 tk9 E9 hv9 hC9 hx9 F9 N9 => ?_) ?_) <;> (try obtain ⟨x9, t9, rfl⟩ := str_cases (str_app hs1 hs2) hv9)))
  (k_with "@exec If" => ((fail_if_success (have e9 := tail9)); (with_reducible show wpAny _ _ (exec (Stmt.If (Expr.Compare (Expr.Name (Str.ofString "op") _) [CmpOp.Eq] _ _) _ _ _) _) _ _ _); k_dflt (refine' tr_cut (T := T) (bag := bag) (n := n) (c1 := L' + 1) (c2 := L' + 1 + 1) (c3 := L' + 1 + 1 + 1) (R := xs1.any fun a => xs2.any fun b => ((a == b) == (op9 == Str.ofString "="))) ?tcF ?tcN ?tc0 ?tc1 ?tc2 ?tc3 ?_ ?_; (case tcF => k_asm); (case tcN => k_asm); (case tc0 => k_mem); (case tc1 => k_mem); (case tc2 => k_mem); (case tc3 => k_mem)); (all_goals first | (intro big9 d9 h9 tk9 T9 H9 i1 i2 i3 e9 F9 N9; (have j1 := T9 _ m1); (have j2 := T9 _ m2); (try k_sweep); (try dsimp only)) | intro tail9)))
  (k_with "@execs cons" => ((with_reducible show wpAny _ _ (execs (Stmt.If (Expr.BoolOp _ _ _) _ _ _ :: _) _) _ _ _); k_dflt (refine' tail9 _ _ _ _ ?uT ?uH ?u1 ?u2 ?u3 ?uE ?uF ?uN; (case uN => walk_at "use led"); (case uF => k_asm); (case uT => (intro p9 hp9; walk_at "my tails")); (case uH => k_all); (case u1 => k_mem); (case u2 => k_mem); (case u3 => k_mem); (case uE => first | exact tr_eq1 A1 A2 (by assumption) | exact tr_nil1 A1 (by assumption) | exact tr_nil2 A2 (by assumption) | exact tr_ne A1 A2 (by assumption) e0 (by assumption)))))
  k_steps
  · exact gend_intro (new' := []) (by k_asm) (news_drop2 (by k_asm)) (by assumption) (by assumption) (by assumption) ⟨_, _, rfl⟩ (fun _ h => (nomatch h)) (fun _ h => (nomatch h))
  · exact (neq_absurd (by assumption) (by assumption)).elim
  · exact (neq_absurd (by assumption) (tr_sym.trans (by assumption))).elim
  · exact fin_right hret (by k_asm) (by walk_at "use led") (congrArg Value.bool tr_last2) (by ((repeat' (first | (with_reducible refine sub_cons ?_) | fail)); exact tr_sub2 hrT T9 (by assumption) (by assumption))) (by k_all) (by assumption) (by assumption) (by assumption)
  · exact fin_right hret (by k_asm) (by walk_at "use led") (congrArg Value.bool tr_last1) (by ((repeat' (first | (with_reducible refine sub_cons ?_) | fail)); exact tr_sub2 hrT T9 (by assumption) (by assumption))) (by k_all) (by assumption) (by assumption) (by assumption)
  · exact ⟨_, _, rfl, by k_asm, by k_asm, rfl, by assumption⟩
  · exact ⟨_, _, rfl, by k_asm, by k_asm, by assumption⟩
  · exact ⟨_, _, rfl, by k_asm, by k_asm, rfl, by assumption⟩
  · exact ⟨_, _, rfl, by k_asm, by k_asm, by assumption⟩
end
theorem words_41006 : True := by
  k_with_none
  (k_with "@my enter" => (refine' code_def ?w9k1 ?w9k2 ?w9k3 ?w9k4 ?w9k5 ?w9kA ?w9kF ?w9kK ?w9k6 ?w9k7 ?w9k8 ?w9k9 ?w9kB ?_ ?w9c2 ?w9c3 ?w9c4 ?w9c5; (case w9kA => exact rfl); (case w9kF => exact rfl); (case w9kK => first | exact rfl | assumption); (case w9k1 => k_asm); (case w9k2 => k_asm); (case w9k3 => k_asm); (case w9k4 => k_asm); (case w9k5 => k_asm); (case w9k6 => k_is); (case w9k7 => k_is); (case w9k8 => ktr_room); (case w9k9 => first | exact BindsTo.of_eq rfl | exact binds_K (by k_in) rfl (by k_is) rfl rfl rfl); (case w9c5 => decide); (case w9kB => exact locs rfl); (case w9c2 => exact rfl); (case w9c3 => exact rfl); (case w9c4 => exact rfl); k_whole; intro g' L' h' FG' F' N' B' X' T'; (try dsimp only); (try k_lift B'); (try k_fold)))
  (k_with "@my enterC" => (refine' code_defC ?w9k1 ?w9k2 ?w9k3 ?w9k4 ?w9k5 ?w9kA ?w9kF ?w9kK ?w9k6 ?w9k7 ?w9k8 ?w9k9 ?w9kB ?w9kD ?_ ?w9c2 ?w9c3 ?w9c4; (case w9kA => exact rfl); (case w9kF => exact rfl); (case w9kK => first | exact rfl | assumption); (case w9k1 => k_asm); (case w9k2 => k_asm); (case w9k3 => k_asm); (case w9k4 => k_asm); (case w9k5 => k_asm); (case w9k6 => k_is); (case w9k7 => k_is); (case w9k8 => ktr_room); (case w9k9 => exact BindsTo.of_eq rfl); (case w9kB => exact rfl); (case w9kD => decide +kernel); (case w9c2 => exact rfl); (case w9c3 => exact rfl); (case w9c4 => exact rfl); k_whole; intro g' L' h' tk' cells' FG' F' N' Y' B' X' T' l1; k_cells Y'; (try simp only [List.cons_append, List.nil_append] at N'); (try dsimp only); (try k_lift B'); (try k_fold)))
  (k_with "@use led" => first | k_asm | exact News.sw1 (by k_asm) | exact News.sw2 (by k_asm) | exact News.sw3 (by k_asm) | exact News.sw4 (by k_asm) | exact News.sw5 (by k_asm) | exact News.sw6 (by k_asm) | exact News.sw7 (by k_asm) | exact News.sw8 (by k_asm) | exact News.sw9 (by k_asm) | exact News.sw10 (by k_asm) | exact News.sw11 (by k_asm) | exact News.sw12 (by k_asm) | exact News.sw13 (by k_asm) | exact News.sw14 (by k_asm) | exact News.sw15 (by k_asm) | exact News.sw16 (by k_asm) | exact News.sw17 (by k_asm) | exact News.sw18 (by k_asm) | exact News.sw19 (by k_asm) | exact News.sw20 (by k_asm) | exact News.sw21 (by k_asm) | exact News.sw22 (by k_asm) | exact News.sw23 (by k_asm) | exact News.sw24 (by k_asm) | exact News.sw25 (by k_asm) | exact News.sw26 (by k_asm))
  (k_with "k_all" => assumption)
  (k_with "@use pre 1" => first | assumption | omega | k_mem | k_all | rfl)
  (k_with "@use pre" => ((repeat' (first | (with_reducible refine And.intro ?_ ?_) | fail)); all_goals (walk_at "use pre 1")))
  (k_with "k_mem" => assumption)
  (k_with "@eval Call" => ((with_reducible show wpAny _ _ (eval (Expr.Call (Expr.Name _ _) _ [] _) _) _ _ _); k_dflt (refine Call_ ?_)))
  (k_with "@end led" => first | k_asm | exact News.d1 (by k_asm) | exact News.d2 (by k_asm) | exact News.d3 (by k_asm) | exact News.d4 (by k_asm) | exact News.d5 (by k_asm) | exact News.d6 (by k_asm) | exact News.d7 (by k_asm) | exact News.d8 (by k_asm) | exact News.d9 (by k_asm) | exact News.d10 (by k_asm) | exact News.d11 (by k_asm) | exact News.d12 (by k_asm))
  (k_with "@pyIter str" => k_extra "pyIter str")
  (k_with "@pyIter ref" => k_extra "pyIter ref")
  (k_with "@end led1" => first | k_asm | exact News.h1 (by k_asm) | exact News.h2 (by k_asm) | exact News.h3 (by k_asm) | exact News.h4 (by k_asm) | exact News.h5 (by k_asm) | exact News.h6 (by k_asm) | exact News.h7 (by k_asm) | exact News.h8 (by k_asm) | exact News.h9 (by k_asm))
  (k_with "@eval Name" => (k_here; k_dflt (first | (refine' nameX_L ?w9F ?w9v ?_ ?w9a ?w9b; (case w9F => k_asm); (case w9a => rfl); (case w9b => rfl); (case w9v => rfl); k_whole) | (refine' nameX_K ?w9F ?w9X ?w9T ?w9e ?_ ?w9a ?w9b; (case w9F => k_asm); (case w9X => k_asm); (case w9T => k_asm); (case w9a => rfl); (case w9b => rfl); (case w9e => k_is); k_whole) | (refine' nameX_B ?w9F ?w9X ?w9T ?w9e ?w9v ?w9n ?_ ?w9a ?w9b; (case w9F => k_asm); (case w9X => k_asm); (case w9T => k_asm); (case w9a => rfl); (case w9b => rfl); (case w9e => k_is); (case w9v => boot_fast); (case w9n => decide); k_whole))))
  (k_with "k_ne" => first | assumption | exact Nat.ne_of_gt (by assumption) | exact Nat.ne_of_lt (by assumption) | exact ne_p1 (by with_reducible assumption) | exact ne_p2 (by with_reducible assumption) | exact ne_p3 (by with_reducible assumption) | exact ne_p4 (by with_reducible assumption) | exact ne_p5 (by with_reducible assumption) | exact ne_p6 (by with_reducible assumption) | exact ne_p7 (by with_reducible assumption) | exact ne_p8 (by with_reducible assumption) | exact ne_q1 (by with_reducible assumption) | exact ne_q2 (by with_reducible assumption) | exact ne_q3 (by with_reducible assumption) | exact ne_q4 (by with_reducible assumption) | exact ne_q5 (by with_reducible assumption) | exact ne_q6 (by with_reducible assumption) | exact ne_q7 (by with_reducible assumption) | exact ne_q8 (by with_reducible assumption))
  trivial

end
section
theorem words_42001 : True := by
  k_with_none
  (k_with "@my enter" => (refine' code_def ?w9k1 ?w9k2 ?w9k3 ?w9k4 ?w9k5 ?w9kA ?w9kF ?w9kK ?w9k6 ?w9k7 ?w9k8 ?w9k9 ?w9kB ?_ ?w9c2 ?w9c3 ?w9c4 ?w9c5; (case w9kA => exact rfl); (case w9kF => exact rfl); (case w9kK => first | exact rfl | assumption); (case w9k1 => k_asm); (case w9k2 => k_asm); (case w9k3 => k_asm); (case w9k4 => k_asm); (case w9k5 => k_asm); (case w9k6 => k_is); (case w9k7 => k_is); (case w9k8 => ktr_room); (case w9k9 => first | exact BindsTo.of_eq rfl | exact binds_K (by k_in) rfl (by k_is) rfl rfl rfl); (case w9c5 => decide); (case w9kB => exact locs rfl); (case w9c2 => exact rfl); (case w9c3 => exact rfl); (case w9c4 => exact rfl); k_whole; intro g' L' h' FG' F' N' B' X' T'; (try dsimp only); (try k_lift B'); (try k_fold)))
  (k_with "@my enterC" => (refine' code_defC ?w9k1 ?w9k2 ?w9k3 ?w9k4 ?w9k5 ?w9kA ?w9kF ?w9kK ?w9k6 ?w9k7 ?w9k8 ?w9k9 ?w9kB ?w9kD ?_ ?w9c2 ?w9c3 ?w9c4; (case w9kA => exact rfl); (case w9kF => exact rfl); (case w9kK => first | exact rfl | assumption); (case w9k1 => k_asm); (case w9k2 => k_asm); (case w9k3 => k_asm); (case w9k4 => k_asm); (case w9k5 => k_asm); (case w9k6 => k_is); (case w9k7 => k_is); (case w9k8 => ktr_room); (case w9k9 => exact BindsTo.of_eq rfl); (case w9kB => exact rfl); (case w9kD => decide +kernel); (case w9c2 => exact rfl); (case w9c3 => exact rfl); (case w9c4 => exact rfl); k_whole; intro g' L' h' tk' cells' FG' F' N' Y' B' X' T' l1; k_cells Y'; (try simp only [List.cons_append, List.nil_append] at N'); (try dsimp only); (try k_lift B'); (try k_fold)))
  (k_with "@use led" => first | k_asm | exact News.sw1 (by k_asm) | exact News.sw2 (by k_asm) | exact News.sw3 (by k_asm) | exact News.sw4 (by k_asm) | exact News.sw5 (by k_asm) | exact News.sw6 (by k_asm) | exact News.sw7 (by k_asm) | exact News.sw8 (by k_asm) | exact News.sw9 (by k_asm) | exact News.sw10 (by k_asm) | exact News.sw11 (by k_asm) | exact News.sw12 (by k_asm) | exact News.sw13 (by k_asm) | exact News.sw14 (by k_asm) | exact News.sw15 (by k_asm) | exact News.sw16 (by k_asm) | exact News.sw17 (by k_asm) | exact News.sw18 (by k_asm) | exact News.sw19 (by k_asm) | exact News.sw20 (by k_asm) | exact News.sw21 (by k_asm) | exact News.sw22 (by k_asm) | exact News.sw23 (by k_asm) | exact News.sw24 (by k_asm) | exact News.sw25 (by k_asm) | exact News.sw26 (by k_asm))
  (k_with "k_all" => assumption)
  (k_with "@use pre 1" => first | assumption | omega | k_mem | k_all | rfl)
  (k_with "@use pre" => ((repeat' (first | (with_reducible refine And.intro ?_ ?_) | fail)); all_goals (walk_at "use pre 1")))
  (k_with "k_mem" => assumption)
  (k_with "@eval Call" => ((with_reducible show wpAny _ _ (eval (Expr.Call (Expr.Name _ _) _ [] _) _) _ _ _); k_dflt (refine Call_ ?_)))
  (k_with "@end led" => first | k_asm | exact News.d1 (by k_asm) | exact News.d2 (by k_asm) | exact News.d3 (by k_asm) | exact News.d4 (by k_asm) | exact News.d5 (by k_asm) | exact News.d6 (by k_asm) | exact News.d7 (by k_asm) | exact News.d8 (by k_asm) | exact News.d9 (by k_asm) | exact News.d10 (by k_asm) | exact News.d11 (by k_asm) | exact News.d12 (by k_asm))
  (k_with "@pyIter str" => k_extra "pyIter str")
  (k_with "@pyIter ref" => k_extra "pyIter ref")
  (k_with "@end led1" => first | k_asm | exact News.h1 (by k_asm) | exact News.h2 (by k_asm) | exact News.h3 (by k_asm) | exact News.h4 (by k_asm) | exact News.h5 (by k_asm) | exact News.h6 (by k_asm) | exact News.h7 (by k_asm) | exact News.h8 (by k_asm) | exact News.h9 (by k_asm))
  (k_with "@eval Name" => (k_here; k_dflt (first | (refine' nameX_L ?w9F ?w9v ?_ ?w9a ?w9b; (case w9F => k_asm); (case w9a => rfl); (case w9b => rfl); (case w9v => rfl); k_whole) | (refine' nameX_K ?w9F ?w9X ?w9T ?w9e ?_ ?w9a ?w9b; (case w9F => k_asm); (case w9X => k_asm); (case w9T => k_asm); (case w9a => rfl); (case w9b => rfl); (case w9e => k_is); k_whole) | (refine' nameX_B ?w9F ?w9X ?w9T ?w9e ?w9v ?w9n ?_ ?w9a ?w9b; (case w9F => k_asm); (case w9X => k_asm); (case w9T => k_asm); (case w9a => rfl); (case w9b => rfl); (case w9e => k_is); (case w9v => boot_fast); (case w9n => decide); k_whole))))
  (k_with "k_ne" => first | assumption | exact Nat.ne_of_gt (by assumption) | exact Nat.ne_of_lt (by assumption) | exact ne_p1 (by with_reducible assumption) | exact ne_p2 (by with_reducible assumption) | exact ne_p3 (by with_reducible assumption) | exact ne_p4 (by with_reducible assumption) | exact ne_p5 (by with_reducible assumption) | exact ne_p6 (by with_reducible assumption) | exact ne_p7 (by with_reducible assumption) | exact ne_p8 (by with_reducible assumption) | exact ne_q1 (by with_reducible assumption) | exact ne_q2 (by with_reducible assumption) | exact ne_q3 (by with_reducible assumption) | exact ne_q4 (by with_reducible assumption) | exact ne_q5 (by with_reducible assumption) | exact ne_q6 (by with_reducible assumption) | exact ne_q7 (by with_reducible assumption) | exact ne_q8 (by with_reducible assumption))
  trivial
open PyProof.Rows.LCg PyProof.Rows.LCp PyProof.Rows.LCt
section
variable {prog : Program} {w : World} {A : Around} {h₀ : Heap} {L : Addr} {m : Str → Option Value} {env : Env} {ct elt : Expr} {x : Str} {scope : Scope} {cl : List (Str × Addr)} {s : Shared} {Fin : List Value → Led → Prop} {bag : Addr} {n N : Nat} {R : Led} {a : Int}
def TEnd (h₀ : Heap) (L : Addr) (m : Str → Option Value) (s₁ : Shared) (bag : Addr) (n : Nat) (big : Led) (ok : Bool) (s₂ : Shared) : Prop :=
  ok = false ∧ ∃ h' tk a' b' ta' tb' R', s₂ = { s₁ with heap := h', toks := tk } ∧ Fr h₀ L h' m ∧ News h₀ L h' ((bag, bagO a' b' ta' tb' n) :: R') ∧ (0 ≤ a' ∧ 0 ≤ b' ∧ b' < 2147483647) ∧ (∀ p ∈ big, p ∈ R')
theorem tend_intro {h' : Heap} {s₁ : Shared} {tk : Nat} {a' b' : Int} {ta' tb' : Tok} {big R' : Led} (F : Fr h₀ L h' m) (N : News h₀ L h' ((bag, bagO a' b' ta' tb' n) :: R')) (h1 : 0 ≤ a') (h2 : 0 ≤ b') (h3 : b' < 2147483647) (S : ∀ p ∈ big, p ∈ R') : TEnd h₀ L m s₁ bag n big false { s₁ with heap := h', toks := tk } :=
  ⟨rfl, h', tk, a', b', ta', tb', R', rfl, F, N, ⟨h1, h2, h3⟩, S⟩
theorem rest_turns (hne : ∀ p ∈ R, p.1 ≠ bag)
    (turn : ∀ v I oI C oC D ys a b ta tb m₂ h tk (E' : Value → Shared → Prop), 0 ≤ a → 0 ≤ b → b < 2147483647 → (∀ p ∈ (I, oI) :: (C, oC) :: (D, lst ys) :: R, p.1 ≠ bag) → NsObj oC m₂ → m₂ x = some v → Fr h₀ L h m →
      News h₀ L h ((bag, bagO a b ta tb n) :: (I, oI) :: (C, oC) :: (D, lst ys) :: R) →
      wpAny (model prog w) A (isTrue ct (compEnvC scope cl C env) (eval ct (compEnvC scope cl C env))) (TEnd h₀ L m { s with heap := h, toks := tk } bag n ((I, oI) :: (C, oC) :: (D, lst ys) :: R)) E' { s with heap := h, toks := tk })
    (fin : ∀ a b ta tb, 0 ≤ a → 0 ≤ b → b < 2147483647 → Fin [] ((bag, bagO a b ta tb n) :: R))
    {a₀ b₀ : Int} {ta₀ tb₀ : Tok} (h0 : 0 ≤ a₀ ∧ 0 ≤ b₀ ∧ b₀ < 2147483647) :
    CompRestT prog w A h₀ L m env ct elt x scope cl s (fun _ => True) (fun i v => ∃ t, v = .int (a + (i : Int)) t) Fin N 0 [] ((bag, bagO a₀ b₀ ta₀ tb₀ n) :: R) := by
  have all : ∀ k i a₁ b₁ ta₁ tb₁, (0 ≤ a₁ ∧ 0 ≤ b₁ ∧ b₁ < 2147483647) →
      CompRestT prog w A h₀ L m env ct elt x scope cl s (fun _ => True) (fun i v => ∃ t, v = .int (a + (i : Int)) t) Fin k i [] ((bag, bagO a₁ b₁ ta₁ tb₁ n) :: R) := by
    intro k
    induction k with
    | zero =>
      intro i a₁ b₁ ta₁ tb₁ hab
      exact CompRestT.zero (fin a₁ b₁ ta₁ tb₁ hab.1 hab.2.1 hab.2.2)
    | succ k ih =>
      intro i a₁ b₁ ta₁ tb₁ hab
      refine CompRestT.succ fun v I oI C oC D m₂ h tk E' hv hC hx F NN off ne => ?_
      have om := off.mem
      have hb := om _ (List.mem_cons_self (a := (bag, bagO a₁ b₁ ta₁ tb₁ n)))
      have hbig : ∀ p ∈ (I, oI) :: (C, oC) :: (D, lst []) :: R, p.1 ≠ bag := by
        intro p hp
        simp only [List.mem_cons] at hp
        rcases hp with rfl | rfl | rfl | hp
        · exact fun e => hb.1 e.symm
        · exact fun e => hb.2.1 e.symm
        · exact fun e => hb.2.2 e.symm
        · exact hne p hp
      refine wpAny_mono (turn v I oI C oC D [] a₁ b₁ ta₁ tb₁ m₂ h tk E' hab.1 hab.2.1 hab.2.2 hbig hC hx F (NN.perm ?_)) (fun ok s₂ q => ?_) fun _ _ e => e
      · intro p hp
        simp only [List.mem_cons] at hp ⊢
        rcases hp with h | h | h | h | h <;> simp [h]
      · obtain ⟨rfl, h', tk', a', b', ta', tb', R', rfl, F', N', hab', S⟩ := q
        rw [if_neg Bool.false_ne_true]
        refine CompEnd.intro F' N' ((bag, bagO a' b' ta' tb' n) :: R) ?_ (Off3.of fun p hp => ?_) trivial (ih (i + 1) a' b' ta' tb' hab')
        · intro p hp
          simp only [List.mem_cons] at hp ⊢
          rcases hp with h | h | h | h | h
          · exact .inr (S p (h ▸ .head _))
          · exact .inr (S p (h ▸ .tail _ (.head _)))
          · exact .inr (S p (h ▸ .tail _ (.tail _ (.head _))))
          · exact .inl h
          · exact .inr (S p (.tail _ (.tail _ (.tail _ h))))
        · rcases List.mem_cons.mp hp with rfl | hp
          · exact hb
          · exact om p (.tail _ hp)
  exact all N 0 a₀ b₀ ta₀ tb₀ h0
theorem srcT_range {Fin : Shared → List Value → List (Addr × Obj) → Prop} {r : Addr} {t u v : Tok} {b : Int} {ta tb : Tok} {s₁ : Shared}
    (hh : A.handled = none) (F : Fr h₀ L s₁.heap m) (N : News h₀ L s₁.heap ((bag, bagO a b ta tb n) :: R)) (hr : IsRange s₁.heap r 0 3 1 t u v)
    (h : ∀ g, CompRestT prog w A h₀ L m env ct elt x scope cl { s₁ with heap := g } (fun _ => True) (fun i v => ∃ t, v = .int (0 + (i : Int)) t) (Fin { s₁ with heap := g }) 3 0 [] ((bag, bagO a b ta tb n) :: R)) :
    CompSrcT prog w A h₀ L m env ct elt x scope cl Fin (.ref r) s₁ := CompSrcT.range hh F N hr (by decide) (by decide) (by decide) h
end
theorem bag_ok {z y : Int} {d : Bool} (hz : 0 ≤ z) : 0 ≤ z * (if d = true then 1 else 0) ∧ 0 ≤ Int.fmod y 2147483647 ∧ Int.fmod y 2147483647 < 2147483647 := by
  refine ⟨Int.mul_nonneg hz (by split <;> decide), Int.fmod_nonneg_of_pos _ (by decide), Int.fmod_lt_of_pos _ (by decide)⟩
theorem keep_cell {bag c : Addr} {o : Obj} {b big : Led} (_ : o.data = .cell (some (.ref bag))) (S : ∀ p ∈ b, p ∈ big) (hm : (c, o) ∈ b) : (c, o) ∈ big := S _ hm
theorem noIndex {w : List Int} (h : decide (w = []) = false) (k : 0 < -(w.length : Int) ∨ (w.length : Int) ≤ 0) : False := by
  cases w with
  | nil => simp at h
  | cons a r =>
    simp only [List.length_cons] at k
    omega
theorem c_plr2 (w : World) {rest : Led} {bag : Addr} {n : Nat} {a b : Int} {ta tb : Tok} (hp : (0 ≤ a ∧ 0 ≤ b ∧ b < 2147483647) ∧ (∀ p ∈ rest, p.1 ≠ bag)) :
    Ctr w 468 8 ((bag, bagO a b ta tb n) :: rest) [.ref bag] (fun r led' => r = .bool true ∧ ∃ a' b' ta' tb' rest', led' = (bag, bagO a' b' ta' tb' n) :: rest' ∧ (0 ≤ a' ∧ 0 ≤ b' ∧ b' < 2147483647) ∧ (∀ p ∈ rest, p ∈ rest') ∧ (∀ p ∈ rest', p.1 ≠ bag)) := c_plr w hp
theorem c_nr2 (w : World) {rest : Led} {bag : Addr} {n : Nat} {a b : Int} {ta tb : Tok} (hp : (0 ≤ a ∧ 0 ≤ b ∧ b < 2147483647) ∧ (∀ p ∈ rest, p.1 ≠ bag)) :
    Ctr w 478 7 ((bag, bagO a b ta tb n) :: rest) [.ref bag] (fun r led' => r = .bool true ∧ ∃ a' b' ta' tb' rest', led' = (bag, bagO a' b' ta' tb' n) :: rest' ∧ (0 ≤ a' ∧ 0 ≤ b' ∧ b' < 2147483647) ∧ (∀ p ∈ rest, p ∈ rest') ∧ (∀ p ∈ rest', p.1 ≠ bag)) := c_nr w hp
theorem c_tr2 (w : World) {rest : Led} {bag : Addr} {n : Nat} {a b : Int} {ta tb : Tok} (hp : (0 ≤ a ∧ 0 ≤ b ∧ b < 2147483647) ∧ (∀ p ∈ rest, p.1 ≠ bag)) :
    Ctr w 483 7 ((bag, bagO a b ta tb n) :: rest) [.ref bag] (fun r led' => r = .bool true ∧ ∃ a' b' ta' tb' rest', led' = (bag, bagO a' b' ta' tb' n) :: rest' ∧ (0 ≤ a' ∧ 0 ≤ b' ∧ b' < 2147483647) ∧ (∀ p ∈ rest, p ∈ rest') ∧ (∀ p ∈ rest', p.1 ≠ bag)) := c_tr w hp

end
section
theorem words_43001 : True := by
  k_with_none
  (k_with "@my enter" => (refine' code_def ?w9k1 ?w9k2 ?w9k3 ?w9k4 ?w9k5 ?w9kA ?w9kF ?w9kK ?w9k6 ?w9k7 ?w9k8 ?w9k9 ?w9kB ?_ ?w9c2 ?w9c3 ?w9c4 ?w9c5; (case w9kA => exact rfl); (case w9kF => exact rfl); (case w9kK => first | exact rfl | assumption); (case w9k1 => k_asm); (case w9k2 => k_asm); (case w9k3 => k_asm); (case w9k4 => k_asm); (case w9k5 => k_asm); (case w9k6 => k_is); (case w9k7 => k_is); (case w9k8 => ktr_room); (case w9k9 => first | exact BindsTo.of_eq rfl | exact binds_K (by k_in) rfl (by k_is) rfl rfl rfl); (case w9c5 => decide); (case w9kB => exact locs rfl); (case w9c2 => exact rfl); (case w9c3 => exact rfl); (case w9c4 => exact rfl); k_whole; intro g' L' h' FG' F' N' B' X' T'; (try dsimp only); (try k_lift B'); (try k_fold)))
  (k_with "@my enterC" => (refine' code_defC ?w9k1 ?w9k2 ?w9k3 ?w9k4 ?w9k5 ?w9kA ?w9kF ?w9kK ?w9k6 ?w9k7 ?w9k8 ?w9k9 ?w9kB ?w9kD ?_ ?w9c2 ?w9c3 ?w9c4; (case w9kA => exact rfl); (case w9kF => exact rfl); (case w9kK => first | exact rfl | assumption); (case w9k1 => k_asm); (case w9k2 => k_asm); (case w9k3 => k_asm); (case w9k4 => k_asm); (case w9k5 => k_asm); (case w9k6 => k_is); (case w9k7 => k_is); (case w9k8 => ktr_room); (case w9k9 => exact BindsTo.of_eq rfl); (case w9kB => exact rfl); (case w9kD => decide +kernel); (case w9c2 => exact rfl); (case w9c3 => exact rfl); (case w9c4 => exact rfl); k_whole; intro g' L' h' tk' cells' FG' F' N' Y' B' X' T' l1; k_cells Y'; (try simp only [List.cons_append, List.nil_append] at N'); (try dsimp only); (try k_lift B'); (try k_fold)))
  (k_with "@use led" => first | k_asm | exact News.sw1 (by k_asm) | exact News.sw2 (by k_asm) | exact News.sw3 (by k_asm) | exact News.sw4 (by k_asm) | exact News.sw5 (by k_asm) | exact News.sw6 (by k_asm) | exact News.sw7 (by k_asm) | exact News.sw8 (by k_asm) | exact News.sw9 (by k_asm) | exact News.sw10 (by k_asm) | exact News.sw11 (by k_asm) | exact News.sw12 (by k_asm) | exact News.sw13 (by k_asm) | exact News.sw14 (by k_asm) | exact News.sw15 (by k_asm) | exact News.sw16 (by k_asm) | exact News.sw17 (by k_asm) | exact News.sw18 (by k_asm) | exact News.sw19 (by k_asm) | exact News.sw20 (by k_asm) | exact News.sw21 (by k_asm) | exact News.sw22 (by k_asm) | exact News.sw23 (by k_asm) | exact News.sw24 (by k_asm) | exact News.sw25 (by k_asm) | exact News.sw26 (by k_asm))
  (k_with "k_all" => assumption)
  (k_with "@use pre 1" => first | assumption | omega | k_mem | k_all | rfl)
  (k_with "@use pre" => ((repeat' (first | (with_reducible refine And.intro ?_ ?_) | fail)); all_goals (walk_at "use pre 1")))
  (k_with "k_mem" => assumption)
  (k_with "@eval Call" => ((with_reducible show wpAny _ _ (eval (Expr.Call (Expr.Name _ _) _ [] _) _) _ _ _); k_dflt (refine Call_ ?_)))
  (k_with "@end led" => first | k_asm | exact News.d1 (by k_asm) | exact News.d2 (by k_asm) | exact News.d3 (by k_asm) | exact News.d4 (by k_asm) | exact News.d5 (by k_asm) | exact News.d6 (by k_asm) | exact News.d7 (by k_asm) | exact News.d8 (by k_asm) | exact News.d9 (by k_asm) | exact News.d10 (by k_asm) | exact News.d11 (by k_asm) | exact News.d12 (by k_asm))
  (k_with "@pyIter str" => k_extra "pyIter str")
  (k_with "@pyIter ref" => k_extra "pyIter ref")
  (k_with "@end led1" => first | k_asm | exact News.h1 (by k_asm) | exact News.h2 (by k_asm) | exact News.h3 (by k_asm) | exact News.h4 (by k_asm) | exact News.h5 (by k_asm) | exact News.h6 (by k_asm) | exact News.h7 (by k_asm) | exact News.h8 (by k_asm) | exact News.h9 (by k_asm))
  (k_with "@eval Name" => (k_here; k_dflt (first | (refine' nameX_L ?w9F ?w9v ?_ ?w9a ?w9b; (case w9F => k_asm); (case w9a => rfl); (case w9b => rfl); (case w9v => rfl); k_whole) | (refine' nameX_K ?w9F ?w9X ?w9T ?w9e ?_ ?w9a ?w9b; (case w9F => k_asm); (case w9X => k_asm); (case w9T => k_asm); (case w9a => rfl); (case w9b => rfl); (case w9e => k_is); k_whole) | (refine' nameX_B ?w9F ?w9X ?w9T ?w9e ?w9v ?w9n ?_ ?w9a ?w9b; (case w9F => k_asm); (case w9X => k_asm); (case w9T => k_asm); (case w9a => rfl); (case w9b => rfl); (case w9e => k_is); (case w9v => boot_fast); (case w9n => decide); k_whole))))
  (k_with "k_ne" => first | assumption | exact Nat.ne_of_gt (by assumption) | exact Nat.ne_of_lt (by assumption) | exact ne_p1 (by with_reducible assumption) | exact ne_p2 (by with_reducible assumption) | exact ne_p3 (by with_reducible assumption) | exact ne_p4 (by with_reducible assumption) | exact ne_p5 (by with_reducible assumption) | exact ne_p6 (by with_reducible assumption) | exact ne_p7 (by with_reducible assumption) | exact ne_p8 (by with_reducible assumption) | exact ne_q1 (by with_reducible assumption) | exact ne_q2 (by with_reducible assumption) | exact ne_q3 (by with_reducible assumption) | exact ne_q4 (by with_reducible assumption) | exact ne_q5 (by with_reducible assumption) | exact ne_q6 (by with_reducible assumption) | exact ne_q7 (by with_reducible assumption) | exact ne_q8 (by with_reducible assumption))
  trivial
open PyProof.Rows.LCg PyProof.Rows.LCp PyProof.Rows.LCt
theorem pv_b {led : Led} {c : Bool} : PVal led (.bool c) (.b c) := rfl
theorem pv_s {led : Led} {x : Str} {t : Tok} : PVal led (.str x t) (.s x) := ⟨t, rfl⟩
theorem cp1_v : cplF (Str.ofString "=") (.b true) (.s (Str.ofString "x")) = true := by decide +kernel
theorem cp2_v : cplF (Str.ofString "=") (.s (Str.ofString "x")) (.b false) = false := by decide +kernel
theorem c_cp1 (w : World) {led : Led} {tr : Value} {tk tk' : Tok} (_ : True) : Ctr w 170 6 led [.str (Str.ofString "=") tk, .bool true, .str (Str.ofString "x") tk', tr] (fun r led' => led' = led ∧ r = .bool true) :=
  (c_cpl2 w (P1 := .b true) (P2 := .s (Str.ofString "x")) ⟨⟨pv_b, rfl⟩, ⟨pv_s, by decide⟩⟩).shrink fun r led' h => ⟨by rw [h.1]; exact fun _ h => h, by rw [h.2, cp1_v]⟩
theorem c_cp2 (w : World) {led : Led} {tr : Value} {tk tk' : Tok} (_ : True) : Ctr w 170 6 led [.str (Str.ofString "=") tk, .str (Str.ofString "x") tk', .bool false, tr] (fun r led' => led' = led ∧ r = .bool false) :=
  (c_cpl2 w (P1 := .s (Str.ofString "x")) (P2 := .b false) ⟨⟨pv_s, by decide⟩, ⟨pv_b, rfl⟩⟩).shrink fun r led' h => ⟨by rw [h.1]; exact fun _ h => h, by rw [h.2, cp2_v]⟩
section
theorem words_43002 : True := by
  (k_with "k_all" => first | with_reducible assumption | exact List.forall_mem_nil _ | ((with_reducible refine ne_consG (by with_reducible assumption) ?_); k_all) | ((with_reducible refine ne_cons (by with_reducible assumption) ?_); k_all))
  (k_with "@call ref" => (k_here; (with_reducible show wpAny _ _ (call (Value.ref 483) _) _ _ _); k_dflt (refine' Ctr.useRest ?w9uN ?w9uB ?w9uF ?w9uX ?w9uT ?w9uK ?w9uD ?w9uU (c_tr2 _ ?w9uP) ?_; (case w9uN => walk_at "use led"); (case w9uB => k_asm); (case w9uF => k_asm); (case w9uX => k_asm); (case w9uT => k_asm); (case w9uK => first | exact rfl | assumption); (case w9uD => ktr_room); (case w9uU => ktr_units); (case w9uP => walk_at "use pre")); intro a9 b9 ta9 tb9 rest9 k1 k2 k3 S9 H9 h9 tk9 F9 N9; (try k_sweep); (try k_fold)))
  (k_with "@call ref" => (k_here; (with_reducible show wpAny _ _ (call (Value.ref 478) _) _ _ _); k_dflt (refine' Ctr.useRest ?w9uN ?w9uB ?w9uF ?w9uX ?w9uT ?w9uK ?w9uD ?w9uU (c_nr2 _ ?w9uP) ?_; (case w9uN => walk_at "use led"); (case w9uB => k_asm); (case w9uF => k_asm); (case w9uX => k_asm); (case w9uT => k_asm); (case w9uK => first | exact rfl | assumption); (case w9uD => ktr_room); (case w9uU => ktr_units); (case w9uP => walk_at "use pre")); intro a9 b9 ta9 tb9 rest9 k1 k2 k3 S9 H9 h9 tk9 F9 N9; (try (k_dflt (have m8 := keep_cell (by assumption) S9 (by k_mem)))); (try k_sweep); (try k_fold)))
  (k_with "@call ref" => (k_here; (with_reducible show wpAny _ _ (call (Value.ref 468) _) _ _ _); k_dflt (refine' Ctr.useRest ?w9uN ?w9uB ?w9uF ?w9uX ?w9uT ?w9uK ?w9uD ?w9uU (c_plr2 _ ?w9uP) ?_; (case w9uN => walk_at "use led"); (case w9uB => k_asm); (case w9uF => k_asm); (case w9uX => k_asm); (case w9uT => k_asm); (case w9uK => first | exact rfl | assumption); (case w9uD => ktr_room); (case w9uU => ktr_units); (case w9uP => walk_at "use pre")); intro a9 b9 ta9 tb9 rest9 k1 k2 k3 S9 H9 h9 tk9 F9 N9; (try k_sweep); (try k_fold)))
  (k_with "@call ref" => (k_here; (with_reducible show wpAny _ _ (call (Value.ref 170) _) _ _ _); k_dflt (refine' Ctr.useA ?w9uN ?w9uB ?w9uF ?w9uX ?w9uT ?w9uK ?w9uD ?w9uU (c_cp1 _ ?w9uP) ?_; (case w9uN => k_asm); (case w9uB => k_asm); (case w9uF => k_asm); (case w9uX => k_asm); (case w9uT => k_asm); (case w9uK => first | exact rfl | assumption); (case w9uD => ktr_room); (case w9uU => ktr_units); (case w9uP => trivial)); intro h9 tk9 F9 N9; (try k_sweep); (try k_fold)))
  (k_with "@call ref" => (k_here; (with_reducible show wpAny _ _ (call (Value.ref 170) _) _ _ _); k_dflt (refine' Ctr.useA ?w9uN ?w9uB ?w9uF ?w9uX ?w9uT ?w9uK ?w9uD ?w9uU (c_cp2 _ ?w9uP) ?_; (case w9uN => k_asm); (case w9uB => k_asm); (case w9uF => k_asm); (case w9uX => k_asm); (case w9uT => k_asm); (case w9uK => first | exact rfl | assumption); (case w9uD => ktr_room); (case w9uU => ktr_units); (case w9uP => trivial)); intro h9 tk9 F9 N9; (try k_sweep); (try k_fold)))
  (k_with "@call ref" => (k_here; (with_reducible show wpAny _ _ (call (Value.ref 394) _) _ _ _); k_dflt (refine' Ctr.useD ?w9uN ?w9uB ?w9uF ?w9uX ?w9uT ?w9uK ?w9uD ?w9uU (c_tree _ ?w9uP) ?_; (case w9uN => k_asm); (case w9uB => k_asm); (case w9uF => k_asm); (case w9uX => k_asm); (case w9uT => k_asm); (case w9uK => first | exact rfl | assumption); (case w9uD => ktr_room); (case w9uU => ktr_units); (case w9uP => trivial)); intro x9 h9 tk9 F9 N9; (try k_sweep); (try k_fold)))
  (k_with "@CompSrcT" => (k_here; k_dflt (refine srcT_range (by rfl) (by k_asm) (by walk_at "use led") (by assumption) ?_; intro g')))
  (k_with "@CompRestT" => k_extra "CompRestT")
  (k_with "@CompRest" => k_extra "CompRest")
  trivial
local macro_rules | `(tactic| k_qdec) => `(tactic| decide +kernel)
theorem top_walk {d : DefRec} {kwd : List (Str × PySem.Expr)} (hd : defOf k0.view_1 PySem.Challenge.rw_xm0672_01.row.name = some (d, kwd)) {as : List Addr} (has : ∀ P, as = (k0.heap_1 P).map (·.1)) :
    WalkO k0.view_1 [Str.ofString "MOST", Str.ofString "number_of", Str.ofString "write_number"] (XL k0.view_1 [(Str.ofString "MOST", WData.int 10000000000000000000000000000000000000000000000000000000000000000000000000000000000000000000000000000000000000000000000000000000000000000000000000000000000000000000000000000000000000000000000000000000000000000000000000000000000000000000000000000000000000000000000000000000000000000000000000000000000000000000000000000000000000000000000000000000000000000000000000000000000000000000000000000000000000000)]) (kHook k0.heap_1 as has).says PySem.Challenge.rw_xm0672_01.row.toRowW d kwd (fun f vs => PySem.call f vs) := by
  have e : defOf k0.view_1 PySem.Challenge.rw_xm0672_01.row.name = some (_, _) := rfl
  have e2 := hd.symm.trans e
  injection e2 with e2
  injection e2 with e3 e4
  subst e3
  subst e4
  clear e hd
  k_go0
  (all_goals try k_fold)
  (k_with "CompRestT" => (k_dflt (refine rest_turns (by k_all) (fun v I oI C oC D ys a7 b7 ta7 tb7 m₂ h9 tk9 E9 hab1 hab2 hab3 hbig hC hx F9 N9 => ?_) (fun a7 b7 ta7 tb7 hab1 hab2 hab3 => ?_) (bag_ok (by split <;> omega)))))
  k_steps
  · exact tend_intro (by k_asm) (by k_asm) (by assumption) (by assumption) (by assumption) (by assumption)
  · exact (noIndex (by assumption) (by assumption)).elim
  · exact tend_intro (by k_asm) (by k_asm) (by assumption) (by assumption) (by assumption) (by assumption)
end
theorem words_43003 : True := by
  k_with_none
  (k_with "@my enter" => (refine' code_def ?w9k1 ?w9k2 ?w9k3 ?w9k4 ?w9k5 ?w9kA ?w9kF ?w9kK ?w9k6 ?w9k7 ?w9k8 ?w9k9 ?w9kB ?_ ?w9c2 ?w9c3 ?w9c4 ?w9c5; (case w9kA => exact rfl); (case w9kF => exact rfl); (case w9kK => first | exact rfl | assumption); (case w9k1 => k_asm); (case w9k2 => k_asm); (case w9k3 => k_asm); (case w9k4 => k_asm); (case w9k5 => k_asm); (case w9k6 => k_is); (case w9k7 => k_is); (case w9k8 => ktr_room); (case w9k9 => first | exact BindsTo.of_eq rfl | exact binds_K (by k_in) rfl (by k_is) rfl rfl rfl); (case w9c5 => decide); (case w9kB => exact locs rfl); (case w9c2 => exact rfl); (case w9c3 => exact rfl); (case w9c4 => exact rfl); k_whole; intro g' L' h' FG' F' N' B' X' T'; (try dsimp only); (try k_lift B'); (try k_fold)))
  (k_with "@my enterC" => (refine' code_defC ?w9k1 ?w9k2 ?w9k3 ?w9k4 ?w9k5 ?w9kA ?w9kF ?w9kK ?w9k6 ?w9k7 ?w9k8 ?w9k9 ?w9kB ?w9kD ?_ ?w9c2 ?w9c3 ?w9c4; (case w9kA => exact rfl); (case w9kF => exact rfl); (case w9kK => first | exact rfl | assumption); (case w9k1 => k_asm); (case w9k2 => k_asm); (case w9k3 => k_asm); (case w9k4 => k_asm); (case w9k5 => k_asm); (case w9k6 => k_is); (case w9k7 => k_is); (case w9k8 => ktr_room); (case w9k9 => exact BindsTo.of_eq rfl); (case w9kB => exact rfl); (case w9kD => decide +kernel); (case w9c2 => exact rfl); (case w9c3 => exact rfl); (case w9c4 => exact rfl); k_whole; intro g' L' h' tk' cells' FG' F' N' Y' B' X' T' l1; k_cells Y'; (try simp only [List.cons_append, List.nil_append] at N'); (try dsimp only); (try k_lift B'); (try k_fold)))
  (k_with "@use led" => first | k_asm | exact News.sw1 (by k_asm) | exact News.sw2 (by k_asm) | exact News.sw3 (by k_asm) | exact News.sw4 (by k_asm) | exact News.sw5 (by k_asm) | exact News.sw6 (by k_asm) | exact News.sw7 (by k_asm) | exact News.sw8 (by k_asm) | exact News.sw9 (by k_asm) | exact News.sw10 (by k_asm) | exact News.sw11 (by k_asm) | exact News.sw12 (by k_asm) | exact News.sw13 (by k_asm) | exact News.sw14 (by k_asm) | exact News.sw15 (by k_asm) | exact News.sw16 (by k_asm) | exact News.sw17 (by k_asm) | exact News.sw18 (by k_asm) | exact News.sw19 (by k_asm) | exact News.sw20 (by k_asm) | exact News.sw21 (by k_asm) | exact News.sw22 (by k_asm) | exact News.sw23 (by k_asm) | exact News.sw24 (by k_asm) | exact News.sw25 (by k_asm) | exact News.sw26 (by k_asm))
  (k_with "k_all" => assumption)
  (k_with "@use pre 1" => first | assumption | omega | k_mem | k_all | rfl)
  (k_with "@use pre" => ((repeat' (first | (with_reducible refine And.intro ?_ ?_) | fail)); all_goals (walk_at "use pre 1")))
  (k_with "k_mem" => assumption)
  (k_with "@eval Call" => ((with_reducible show wpAny _ _ (eval (Expr.Call (Expr.Name _ _) _ [] _) _) _ _ _); k_dflt (refine Call_ ?_)))
  (k_with "@end led" => first | k_asm | exact News.d1 (by k_asm) | exact News.d2 (by k_asm) | exact News.d3 (by k_asm) | exact News.d4 (by k_asm) | exact News.d5 (by k_asm) | exact News.d6 (by k_asm) | exact News.d7 (by k_asm) | exact News.d8 (by k_asm) | exact News.d9 (by k_asm) | exact News.d10 (by k_asm) | exact News.d11 (by k_asm) | exact News.d12 (by k_asm))
  (k_with "@pyIter str" => k_extra "pyIter str")
  (k_with "@pyIter ref" => k_extra "pyIter ref")
  (k_with "@end led1" => first | k_asm | exact News.h1 (by k_asm) | exact News.h2 (by k_asm) | exact News.h3 (by k_asm) | exact News.h4 (by k_asm) | exact News.h5 (by k_asm) | exact News.h6 (by k_asm) | exact News.h7 (by k_asm) | exact News.h8 (by k_asm) | exact News.h9 (by k_asm))
  (k_with "@eval Name" => (k_here; k_dflt (first | (refine' nameX_L ?w9F ?w9v ?_ ?w9a ?w9b; (case w9F => k_asm); (case w9a => rfl); (case w9b => rfl); (case w9v => rfl); k_whole) | (refine' nameX_K ?w9F ?w9X ?w9T ?w9e ?_ ?w9a ?w9b; (case w9F => k_asm); (case w9X => k_asm); (case w9T => k_asm); (case w9a => rfl); (case w9b => rfl); (case w9e => k_is); k_whole) | (refine' nameX_B ?w9F ?w9X ?w9T ?w9e ?w9v ?w9n ?_ ?w9a ?w9b; (case w9F => k_asm); (case w9X => k_asm); (case w9T => k_asm); (case w9a => rfl); (case w9b => rfl); (case w9e => k_is); (case w9v => boot_fast); (case w9n => decide); k_whole))))
  (k_with "k_ne" => first | assumption | exact Nat.ne_of_gt (by assumption) | exact Nat.ne_of_lt (by assumption) | exact ne_p1 (by with_reducible assumption) | exact ne_p2 (by with_reducible assumption) | exact ne_p3 (by with_reducible assumption) | exact ne_p4 (by with_reducible assumption) | exact ne_p5 (by with_reducible assumption) | exact ne_p6 (by with_reducible assumption) | exact ne_p7 (by with_reducible assumption) | exact ne_p8 (by with_reducible assumption) | exact ne_q1 (by with_reducible assumption) | exact ne_q2 (by with_reducible assumption) | exact ne_q3 (by with_reducible assumption) | exact ne_q4 (by with_reducible assumption) | exact ne_q5 (by with_reducible assumption) | exact ne_q6 (by with_reducible assumption) | exact ne_q7 (by with_reducible assumption) | exact ne_q8 (by with_reducible assumption))
  trivial

end
end Mine
namespace Mine
def whole.tw6671419049177550353 : Nat := 0
def whole.tw17692944630003236201 : Nat := 0
def whole.tw12340616390702145808 : Nat := 0
def whole.tw15192727781054324610 : Nat := 0
def whole.tw5033959223826794972 : Nat := 0
def whole.tw3977645151081027153 : Nat := 0
def whole.tw8027313200959131896 : Nat := 0
def whole.tw1470681187219097129 : Nat := 0
def whole.tw7681585233975162668 : Nat := 0
def whole.tw699861846685808660 : Nat := 0
def whole.tw8785724651449461510 : Nat := 0
def whole.tw6708233057561879753 : Nat := 0
def whole.tw1788125545244323292 : Nat := 0
def whole.tw13194138843973143861 : Nat := 0
def whole.tw7964040446865994378 : Nat := 0
def whole.tw1242133270297695508 : Nat := 0
def whole.tw3117049408229778687 : Nat := 0
def whole.tw7728773200315073681 : Nat := 0
def whole.tw10344827342348678470 : Nat := 0
def whole.tw8434907980643823705 : Nat := 0
def whole.tw5405151241437436114 : Nat := 0
def whole.tw6711224856247384401 : Nat := 0
def whole.tw6187261993980536492 : Nat := 0
def whole.tw12442016628978143412 : Nat := 0
def whole.tw3369746551918469629 : Nat := 0
def whole.tw11988251369728918034 : Nat := 0
def whole.tw5159705281301196996 : Nat := 0
def whole.tw17945471581576359013 : Nat := 0
def whole.tw4977384430496418070 : Nat := 0
def whole.tw13018183266405097566 : Nat := 0
def whole.tw14661705875561194100 : Nat := 0
def whole.tw1266484639899004939 : Nat := 0
def whole.tw12098860561503762481 : Nat := 0
def whole.tw5942346508108547180 : Nat := 0
def whole.tw15103685750691789098 : Nat := 0
def whole.tw2013318861076662011 : Nat := 0
def whole.tw5662987942479315956 : Nat := 0
def whole.tw10019450917411332427 : Nat := 0
def whole.tw14916202748087371944 : Nat := 0
def whole.tw13518702907885339924 : Nat := 0
def whole.tw9722750020625992282 : Nat := 0
def whole.tw7509650053966640704 : Nat := 0
def whole.tw14450635290435297814 : Nat := 0
def whole.tw15695161780090201225 : Nat := 0
def whole.tw15181447364051087158 : Nat := 0
def whole.tw1533094020690680647 : Nat := 0
def whole.tw13434065944014204811 : Nat := 0
def whole.tw8789054386453842027 : Nat := 0
def whole.tw17395194986337826024 : Nat := 0
def whole.tw1902754551582867561 : Nat := 0
def whole.tw18064330908789800840 : Nat := 0
def whole.tw7868544009499267292 : Nat := 0
def whole.tw18186416632783805872 : Nat := 0
def whole.tw11777355322855799659 : Nat := 0
def whole.tw10379991877525085312 : Nat := 0
def whole.tw12850242359631670003 : Nat := 0
def whole.tw16191896734375390133 : Nat := 0
def whole.tw2349701861695252166 : Nat := 0
def whole.tw3945383572190744343 : Nat := 0
def whole.tw8309436690622926411 : Nat := 0
def whole.tw9142887217227649140 : Nat := 0
def whole.tw1999433592531618509 : Nat := 0
def whole.tw7689902935678670512 : Nat := 0
def whole.tw11836910150536664915 : Nat := 0
def whole.tw340442491454447764 : Nat := 0
def whole.tw10472183733418339316 : Nat := 0
def whole.tw8109663874093803249 : Nat := 0
def whole.tw842793390314483620 : Nat := 0
def whole.tw2439357469168130064 : Nat := 0
def whole.tw17870853324313594786 : Nat := 0
def whole.tw10616696396452150886 : Nat := 0
def whole.tw9189751539129569556 : Nat := 0
def whole.tw12598572606399187110 : Nat := 0
def whole.tw16442795661328238356 : Nat := 0
def whole.tw5879479702872096659 : Nat := 0
def whole.tw1273583120585336579 : Nat := 0
def whole.tw16845944245580146995 : Nat := 0
def whole.tw18056553881098321084 : Nat := 0
def whole.tw17700112632457955127 : Nat := 0
def whole.tw3687826684616867901 : Nat := 0
def whole.tw5001923725869043736 : Nat := 0
def whole.tw46433443316919834 : Nat := 0
def whole.tw7391549574342816922 : Nat := 0
def whole.tw16595449952281916149 : Nat := 0
def whole.tw11670040512431834200 : Nat := 0
def whole.tw7525632177321363660 : Nat := 0
def whole.tw6084657873442493111 : Nat := 0
def whole.tw14457598465852218886 : Nat := 0
def whole.tw13730376311393935369 : Nat := 0
def whole.tw6553984163096543158 : Nat := 0
def whole.tw13143666931850650640 : Nat := 0
def whole.tw13045181716907704641 : Nat := 0
def whole.tw13000713063990318526 : Nat := 0
def whole.tw5682345275169407818 : Nat := 0
def whole.tw12180422818723984309 : Nat := 0
def whole.tw17659150536888882668 : Nat := 0
def whole.tw5515949286892933951 : Nat := 0
def whole.tw12077107353733055826 : Nat := 0
def whole.tw1488662743745869538 : Nat := 0
def whole.tw16708263669468244151 : Nat := 0
def whole.tw8184708281838074206 : Nat := 0
def whole.tw5882343337706715899 : Nat := 0
def whole.tw6266228650988000492 : Nat := 0
def whole.tw5833760311655045577 : Nat := 0
def whole.tw6472696656209681604 : Nat := 0
def whole.tw12044105500090777872 : Nat := 0
def whole.tw14628220171574447489 : Nat := 0
def whole.tw11357175057958205107 : Nat := 0
def whole.tw482805393138593929 : Nat := 0
def whole.tw15469157617142141710 : Nat := 0
def whole.tw5462770333876777704 : Nat := 0
def whole.tw1353902047762577225 : Nat := 0
def whole.tw10832908153356258463 : Nat := 0
def whole.tw1897105925431849711 : Nat := 0
def whole.tw1975147037884041520 : Nat := 0
def whole.tw60084206612377972 : Nat := 0
def whole.tw1349178898306187914 : Nat := 0
def whole.tw14765760737338471991 : Nat := 0
def whole.tw14776171463994254414 : Nat := 0
def whole.tw9024608533772062355 : Nat := 0
def whole.tw7669669677095693358 : Nat := 0
def whole.tw5408107943391738 : Nat := 0
def whole.tw6612613915786651340 : Nat := 0
def whole.tw16505068655815891843 : Nat := 0
def whole.tw5078443471013023264 : Nat := 0
def whole.tw10084071824679271942 : Nat := 0
def whole.tw431044224361937856 : Nat := 0
def whole.tw2959683903145980101 : Nat := 0
def whole.tw6065093676875020208 : Nat := 0
def whole.tw675793542917168019 : Nat := 0
def whole.tw12294887724330564330 : Nat := 0
def whole.tw137721658169608169 : Nat := 0
def whole.tw3099174332690161747 : Nat := 0
def whole.tw13960669724093699300 : Nat := 0
def whole.tw1469495571348798126 : Nat := 0
def whole.tw7073311072910153293 : Nat := 0
def whole.tw536816803628104207 : Nat := 0
def whole.tw15761127226676153883 : Nat := 0
def whole.tw11966515284280811977 : Nat := 0
def whole.tw5349422690488739272 : Nat := 0
def whole.tw7582116766257987118 : Nat := 0
def whole.tw1217171336636241682 : Nat := 0
def whole.tw12066178620653064874 : Nat := 0
def whole.tw17022761755405916213 : Nat := 0
def whole.tw435229417069212923 : Nat := 0
def whole.tw12976933641374925533 : Nat := 0
def whole.tw4338333698743118245 : Nat := 0
def whole.tw4516712372641221423 : Nat := 0
def whole.tw697334722855355308 : Nat := 0
def whole.tw1934810232205804993 : Nat := 0
def whole.tw9046693723037758376 : Nat := 0
def whole.tw5081031077709457048 : Nat := 0
def whole.tw9170513070990267023 : Nat := 0
def whole.tw1371446737807839366 : Nat := 0
def whole.tw17991299263585117788 : Nat := 0
def whole.tw3742335343461010818 : Nat := 0
def whole.tw15848567645679474065 : Nat := 0
def whole.tw11476502588441444683 : Nat := 0
def whole.tw3168900989282067249 : Nat := 0
def whole.tw3306209509626126654 : Nat := 0
def whole.tw15930047269337530508 : Nat := 0
def whole.tw8868806382682364411 : Nat := 0
def whole.tw561600600097829391 : Nat := 0
def whole.tw427333557424167660 : Nat := 0
def whole.tw5099900934548537757 : Nat := 0
def whole.tw16151222146762293071 : Nat := 0
def whole.tw5297632933804744799 : Nat := 0
def whole.tw15013576625721048695 : Nat := 0
def whole.tw13110515450571257733 : Nat := 0
def whole.tw4163455835068889971 : Nat := 0
def whole.tw13962616709173656972 : Nat := 0
def whole.tw16607669324509118938 : Nat := 0
def whole.tw3028004478679740547 : Nat := 0
def whole.tw10461253832287612282 : Nat := 0
def whole.tw1579314106941295789 : Nat := 0
def whole.tw8351164730277109312 : Nat := 0
def whole.tw2989192609971925910 : Nat := 0
def whole.tw10951800313117414527 : Nat := 0
def whole.tw13478315594510353802 : Nat := 0
def whole.tw3869719713472690019 : Nat := 0
def whole.tw356215775963413058 : Nat := 0
def whole.tw16731332320388202666 : Nat := 0
def whole.tw10438997657263567297 : Nat := 0
def whole.tw2168223474955763204 : Nat := 0
def whole.tw2198523743367551842 : Nat := 0
def whole.tw4107823604484434990 : Nat := 0
def whole.tw2912573282932879776 : Nat := 0
def whole.tw3733203681221829434 : Nat := 0
def whole.tw17295703372945214271 : Nat := 0
def whole.tw17948893368442150300 : Nat := 0
def whole.tw17583434110615651305 : Nat := 0
def whole.tw127423454215802840 : Nat := 0
def whole.tw17992364426957274132 : Nat := 0
def whole.tw7276013540153241084 : Nat := 0
def whole.tw3388183141720772199 : Nat := 0
def whole.tw3390907139478361160 : Nat := 0
def whole.tw8615399842404961663 : Nat := 0
def whole.tw1633898876240874773 : Nat := 0
def whole.tw8719548228035378133 : Nat := 0
def whole.tw7280849871689594849 : Nat := 0
def whole.tw13061340530893119238 : Nat := 0
def whole.tw1601961968588287001 : Nat := 0
def whole.tw10838650209671834137 : Nat := 0
def whole.tw17037309529492816295 : Nat := 0
def whole.tw7576292583959916747 : Nat := 0
def whole.tw9838295914634562783 : Nat := 0
def whole.tw3016316376071577429 : Nat := 0
def whole.tw10219327507634694686 : Nat := 0
def whole.tw12111672374848980225 : Nat := 0
def whole.tw15652777202477211125 : Nat := 0
def whole.tw11018331769982298155 : Nat := 0
def whole.tw1420804666120810441 : Nat := 0
def whole.tw14877643965249282964 : Nat := 0
def whole.tw9406530864695525851 : Nat := 0
def whole.tw1640677438868554593 : Nat := 0
def whole.tw7925426705801168976 : Nat := 0
def whole.tw3127163415804763599 : Nat := 0
def whole.tw6095937858554715304 : Nat := 0
def whole.tw12381228794656768651 : Nat := 0
def whole.tw420889256603489644 : Nat := 0
def whole.tw2608646628457097981 : Nat := 0
def whole.tw13760198194640045919 : Nat := 0
def whole.tw10467399731503315703 : Nat := 0
def whole.tw11316320225543275868 : Nat := 0
def whole.tw772474843232632690 : Nat := 0
def whole.tw8341004590406740810 : Nat := 0
def whole.tw4221266100470226451 : Nat := 0
def whole.tw13155097880312403346 : Nat := 0
def whole.tw9464417701048127947 : Nat := 0
def whole.tw11975771152792504044 : Nat := 0
def whole.tw9625973628771424018 : Nat := 0
def whole.tw6396017553259284124 : Nat := 0
def whole.tw161632788893874429 : Nat := 0
def whole.tw14725644924352215136 : Nat := 0
def whole.tw17881794589497109145 : Nat := 0
def whole.tw7499365098147365621 : Nat := 0
def whole.tw17841917278309519415 : Nat := 0
def whole.tw2401531773124529735 : Nat := 0
def whole.tw2777902329107566167 : Nat := 0
def whole.tw12186894253409539890 : Nat := 0
def whole.tw1350920760672359567 : Nat := 0
def whole.tw6714927969197098277 : Nat := 0
def whole.tw3384858237140249800 : Nat := 0
def whole.tw15490696404161045352 : Nat := 0
def whole.tw2021854409746315462 : Nat := 0
def whole.tw5586392500970708615 : Nat := 0
def whole.tw2469003464257525574 : Nat := 0
def whole.tw9841425051670495895 : Nat := 0
def whole.tw5360207378560713126 : Nat := 0
def whole.tw12499812526503966003 : Nat := 0
def whole.tw18324492136986001645 : Nat := 0
def whole.tw13156973312945586846 : Nat := 0
def whole.tw1058133836064258550 : Nat := 0
def whole.tw9212966250080664162 : Nat := 0
def whole.tw5532809562029925614 : Nat := 0
def whole.tw1047630922221454212 : Nat := 0
def whole.tw1733744953317856445 : Nat := 0
def whole.tw16564990636065421569 : Nat := 0
def whole.tw10153838690179905649 : Nat := 0
def whole.tw5460680643579594377 : Nat := 0
def whole.tw17641713804859348092 : Nat := 0
def whole.tw843396670912023852 : Nat := 0
def whole.tw12852820008105578649 : Nat := 0
def whole.tw7545654013535254480 : Nat := 0
def whole.tw13463558215457259582 : Nat := 0
def whole.tw11896201609302106115 : Nat := 0
def whole.tw9200330197067421115 : Nat := 0
def whole.tw13468923340822585488 : Nat := 0
def whole.tw1393339623888494026 : Nat := 0
def whole.tw3724477965614018403 : Nat := 0
def whole.tw15462414832971340256 : Nat := 0
def whole.tw9033953771586226978 : Nat := 0
def whole.tw9951143050096045611 : Nat := 0
def whole.tw3336266095096057487 : Nat := 0
def whole.tw4234479992401935053 : Nat := 0
def whole.tw2047193779265307260 : Nat := 0
def whole.tw397210227534267232 : Nat := 0
def whole.tw18060336119277286115 : Nat := 0
def whole.tw10000958634945066235 : Nat := 0
def whole.tw17781206938751360472 : Nat := 0
def whole.tw8965215075514910880 : Nat := 0
def whole.tw1357757348178948127 : Nat := 0
def whole.tw5803101561360292368 : Nat := 0
def whole.tw13334927893685096626 : Nat := 0
def whole.tw16316554137538487329 : Nat := 0
def whole.tw10499325594661192776 : Nat := 0
def whole.tw14621228733418778453 : Nat := 0
def whole.tw12179455670472476543 : Nat := 0
def whole.tw14890280090424698046 : Nat := 0
def whole.tw5233578499609466721 : Nat := 0
def whole.tw1859146779660683823 : Nat := 0
def whole.tw6097748072631727781 : Nat := 0
def whole.tw3162264621223815677 : Nat := 0
def whole.tw29202618045891971 : Nat := 0
def whole.tw11030684522653666869 : Nat := 0
def whole.tw254780913952180833 : Nat := 0
def whole.tw15819564801051643881 : Nat := 0
def whole.tw16146633858663668739 : Nat := 0
def whole.tw7078629122812257199 : Nat := 0
def whole.tw7564407027854533171 : Nat := 0
def whole.tw6525215580464160042 : Nat := 0
def whole.tw11395692770084462984 : Nat := 0
def whole.tw9501391760213346845 : Nat := 0
def whole.tw9733464779038806419 : Nat := 0
def whole.tw10007520593648235073 : Nat := 0
def whole.tw2151346155558304222 : Nat := 0
def whole.tw11876454138822706389 : Nat := 0
def whole.tw5649241889958590350 : Nat := 0
def whole.tw12761472262123182041 : Nat := 0
def whole.tw15117479482001565679 : Nat := 0
def whole.tw17175008800681467811 : Nat := 0
def whole.tw14492196311604417308 : Nat := 0
def whole.tw17814491789457634051 : Nat := 0
def whole.tw2558861820686608913 : Nat := 0
def whole.tw6416634858453334624 : Nat := 0
def whole.tw17195952149560314771 : Nat := 0
def whole.tw14998389939795375158 : Nat := 0
def whole.tw8444963059077079450 : Nat := 0
def whole.tw8983667203327932493 : Nat := 0
def whole.tw13533835726952830686 : Nat := 0
def whole.tw10002100669626812175 : Nat := 0
def whole.tw17333791097184162534 : Nat := 0
def whole.tw3860174431591174066 : Nat := 0
def whole.tw10178181129370835086 : Nat := 0
def whole.tw3270133029678145397 : Nat := 0
set_option Elab.async true
theorem whole : PySem.Challenge.rw_xm0672_01.Holds := by
  w_on; o_law; k_head; (case hw => w_witness2)
  refine top_walk ?_ ?_
  all_goals rfl
end Mine
set_option Elab.async false
theorem PySem.Challenge.cw_xm0672_01_holds : PySem.Challenge.rw_xm0672_01.Holds :=
  Mine.whole
