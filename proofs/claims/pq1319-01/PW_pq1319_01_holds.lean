import PyProof.Rows.All
import Wide.All
import OpenK.AllK
import Wide.FinOn
import PySem.Challenge.RW_pq1319_01
open PySem PySem.W PySem.Calls PyProof.Rows PySem.Spec
set_option Elab.async false
set_option compiler.extract_closed false
set_option maxRecDepth 100000
set_option maxHeartbeats 4000000
set_option linter.unusedVariables false
set_option linter.unusedSimpArgs false
namespace Mine
section
local macro_rules | `(tactic| o_head $_) => `(tactic| (rename (∀ T : Prop, T) => hall; exact hall _))
/-- names the part of the heap that the law can come to: hd.heap_1 -/
theorem hd : (∀ T : Prop, T) → PySem.Challenge.rw_pq1319_01.row.Holds := by
  intro hall
  k_head
end
theorem top_off : True := by
  w_top off
  trivial
abbrev PR : Program := PySem.Challenge.rw_pq1319_01.row.prog
abbrev MM (w : World) : Model := model PR w
/-- the goal behind a letter, while facts are taken apart -/
theorem goal_var {P : Prop} (h : ∀ G : Prop, (P → G) → G) : P := h P id
/-- what is to hold at the end, as a letter -/
theorem post_var {M : Model} {α : Type} {A : Around} {E : Value → Shared → Prop} {s : Shared} {m : Sem α} {P : α → Shared → Prop} (h : ∀ Q' : α → Shared → Prop, (∀ a s', P a s' → Q' a s') → wpAny M A m Q' E s) : wpAny M A m P E s := h P fun _ _ x => x


/-- surroundings with nothing handled, to the eye -/
abbrev Ar (dp un : Nat) (fr : Option (List Env)) (gd : Option (List Code)) : Around := { handled := none, depth := dp, frames := fr, guards := gd, units := un }
/-- what every surrounding of ours has: nothing handled, room for n more calls -/
structure Room (A : Around) (n : Nat) : Prop where
  hh : A.handled = none
  dp : A.depth + n ≤ 900
  un : A.units + 10 * n ≤ 9000
theorem Room.deeper {A : Around} {n : Nat} {env : Env} (R : Room A (n + 1)) : Room (A.deeper env) n :=
  ⟨R.hh, by have := R.dp; simp only [Around.deeper]; omega, by have := R.un; simp only [Around.deeper]; omega⟩
theorem Room.in1 {A : Around} {n : Nat} (R : Room A (n + 1)) : Room A.in1 n :=
  ⟨R.hh, by have := R.dp; simp only [Around.in1]; omega, by have := R.un; simp only [Around.in1]; omega⟩
theorem Room.mono {A : Around} {n k : Nat} (R : Room A n) (h : k ≤ n) : Room A k :=
  ⟨R.hh, by have := R.dp; omega, by have := R.un; omega⟩
theorem Room.room {A : Around} {n : Nat} (R : Room A n) : A.depth < recursionLimit := by have := R.dp; show A.depth < 1000; omega
theorem Room.units {A : Around} {n : Nat} (R : Room A n) : A.units < cLine := by have := R.un; show A.units < 9900; omega

section
variable {w : World} {A : Around} {s : Shared} {g : Heap} {p : Program} {loose : List Str} {mean : ExcName → Option Value} {mg mb : Str → Option Value}
  {R : Result → Shared → Prop} {name qual : Str} {params : Arguments} {body : List Stmt} {scope : Scope} {dV kV doc pm cdv ct oc : Value} {an od : Option Addr} {osl : Array (Option Value)} {f : Addr} {args : Args} {binds : List (Str × Value)}
/-- entering a def: the base is any part g of the heap, hs the objects that may be turned -/
theorem enter_def {n : Nat} (g : Heap) (hs : List (Addr × Obj)) (X : (hd.heap_1 w.params).In g) (T : Top p loose mean mg mb g) (Rm : Room A (n + 1))
    (hg : ∀ b o, g.get? b = some o → s.heap.get? b = some o) (hz : g.objs.size ≤ s.heap.objs.size) (hN : ∀ q ∈ hs, s.heap.get? q.1 = some q.2 ∧ g.get? q.1 = none)
    (ho : (hd.heap_1 w.params).lookup f = some ⟨oc, od, .func (fnOf name qual params body scope dV kV doc pm an cdv ct), osl⟩) (hcd : codeIn (hd.heap_1 w.params) cdv qual = true)
    (hbind : BindsTo s (fnOf name qual params body scope dV kV doc pm an cdv ct) args binds) (hloc : ∀ y ∈ binds, scope.names.lookup y.1 = some .local)
    (h : ∀ L' h₁, Room (A.deeper (envOf qual scope L' f cdv)) n → Fr g L' h₁ (fun y => binds.reverse.lookup y) → News g L' h₁ hs → (∀ b o, s.heap.get? b = some o → h₁.get? b = some o) → s.heap.objs.size = L' →
      wpAny (MM w) (A.deeper (envOf qual scope L' f cdv)) (execs body (envOf qual scope L' f cdv))
        (fun fl s' => R (.ok (.ret (match fl with | .ret v => v | _ => .none))) s')
        (fun e s' => wpAny (MM w) (A.deeper (envOf qual scope L' f cdv)) (leaving (envOf qual scope L' f cdv) e) (fun _ s'' => R (.error e) s'') (fun e' s'' => R (.error e') s'') s')
        { s with heap := h₁, toks := s.toks + binds.length })
    (hco : scope.isCoroutine = false) (hgen : scope.isGenerator = false) (hk : scope.kind = .function)
    (hcell : ∀ x ∈ scope.names, x.2 ≠ .cell) : codeAny (MM w) A (.call (.ref f) args) R s := by
  refine codeAny_call_def (fd := fnOf name qual params body scope dV kV doc pm an cdv ct) (body := body) (binds := binds) Rm.room (hg _ _ (X _ _ ho)) rfl (T.nolimit.keeps hg) ((codeRec_of X hcd).keeps hg) rfl hbind hcell hloc (fun h₁ hns hk₁ => ?_) hco hgen hk
  exact h s.heap.objs.size h₁ Rm.deeper ⟨hns, fun b o e => hk₁ b o (hg b o e), hz⟩
    (fun q hq => ⟨hk₁ _ _ (hN q hq).1, Nat.ne_of_lt (Heap.lt_size (hN q hq).1), (hN q hq).2⟩) hk₁ rfl
end
abbrev tupO (vs : List Value) : Obj := { cls := .type "tuple", data := .seq vs.toArray }
section
variable {h₀ h h' : Heap} {L : Addr} {m : Str → Option Value} {news : List (Addr × Obj)}
theorem fr_st (F : Fr h₀ L h m) (st : h.StaysIn h') : Fr h₀ L h' m := ⟨F.ns.keeps st, fun b o e => st b o (F.keep b o e), F.above⟩
theorem news_st (N : News h₀ L h news) (st : h.StaysIn h') : News h₀ L h' news := fun p hp => ⟨st _ _ (N p hp).1, (N p hp).2⟩
theorem fr_new (F : Fr h₀ L h m) {q : Addr} (hq : h.get? q = none) : q ≠ L ∧ h₀.get? q = none := by
  obtain ⟨oL, _, _, hL, _⟩ := F.ns
  refine ⟨fun e => by rw [e, hL] at hq; (cases hq), ?_⟩
  cases e : h₀.get? q with
  | none => rfl
  | some o => rw [F.keep _ _ e] at hq; cases hq
theorem news_new (F : Fr h₀ L h m) (N : News h₀ L h news) (st : h.StaysIn h') {q : Addr} {o : Obj} (hq : h.get? q = none) (ho : h'.get? q = some o) : News h₀ L h' ((q, o) :: news) := fun p hp => by
  rcases List.mem_cons.mp hp with rfl | hp
  · exact ⟨ho, fr_new F hq⟩
  · exact news_st N st p hp
theorem news_lt (F : Fr h₀ L h m) (N : News h₀ L h news) {q : Addr} (hq : h.get? q = none) : ∀ p ∈ news, p.1 ≠ q := fun p hp e => by
  have := (N p hp).1; rw [e, hq] at this; cases this
end
def Two (_ : PySem.W.OpenLaw) (_ : Params → Frag) : Prop := True
theorem mulok_r {a b : Int} (h : b.natAbs < 2 ^ 60) : IntMulOk a b := by
  refine .of_right ?_
  unfold Builtin.Int.intBits
  have : ∀ n : Nat, n < 2 ^ 60 → Nat.log2 n < 60 := fun n hn => by
    by_cases h0 : n = 0
    · subst h0; decide +kernel
    · exact (Nat.log2_lt h0).mpr hn
  have := this b.natAbs h
  (try split) <;> omega
theorem Room.units64 {A : Around} {n : Nat} (R : Room A n) : A.units + 64 < cLine := by have := R.un; show A.units + 64 < 9900; omega
theorem Room.units64i {A : Around} {n : Nat} (R : Room A n) : A.in1.units + 64 < cLine := by have := R.un; show A.units + 1 + 64 < 9900; omega
theorem Room.unitsi {A : Around} {n : Nat} (R : Room A n) : A.in1.units < cLine := by have := R.un; show A.units + 1 < 9900; omega

set_option hygiene false in
local macro_rules | `(tactic| walk_at "MINE end") => `(tactic| (repeat (first | k_unfold | dsimp only)))
set_option hygiene false in
local macro_rules | `(tactic| walk_at "MINE room") => `(tactic| (first | assumption | exact Room.mono (by assumption) (by decide) | exact Room.mono (Room.in1 (by assumption)) (by decide)))
set_option hygiene false in
local macro_rules | `(tactic| walk_at "MINE tup") => `(tactic| (first | assumption | exact Fr.tup (by k_asm) (by assumption) | exact News.isTup (by k_asm) (by k_mem) | exact Fr.tup (by k_asm) (tupK (by k_asm) (by k_is))))
set_option hygiene false in
local macro_rules | `(tactic| walk_at "MINE in") => `(tactic| (first | assumption | exact Frag.In.keeps (by k_asm) (Fr.keep (by k_asm))))
set_option hygiene false in
local macro_rules | `(tactic| walk_at "MINE top") => `(tactic| (first | assumption | exact Top.keeps (by k_asm) (Fr.keep (by k_asm))))
local macro_rules | `(tactic| walk_at "MINE st") => `(tactic| ((rename Fr _ _ _ _ => kF); (rename News _ _ _ _ => kN); (rename Heap.StaysIn _ _ => kS); (have F' := fr_st kF kS); (have N' := news_st kN kS); (try k_sweep)))
local macro_rules | `(tactic| walk_at "MINE new") => `(tactic| ((rename Fr _ _ _ _ => kF); (rename News _ _ _ _ => kN); (rename Heap.StaysIn _ _ => kS); (have F' := fr_st kF kS); (have N' := news_new kF kN kS (by assumption) (by assumption)); (have hne' := news_lt kF kN (by assumption)); (try simp only [List.forall_mem_cons, List.forall_mem_append] at hne'); (try k_sweep)))
local macro_rules | `(tactic| walk_at "subscriptTail Name Constant ref int") => `(tactic| (k_here; k_dflt (refine' item_tupleT ?t ?a ?b ?c ?d ?_; (case t => walk_at "MINE tup"); (case a => decide); (case b => decide); (case c => rfl); (case d => rfl); k_whole)))
set_option hygiene false in
local macro_rules | `(tactic| walk_at "MINE dec") => `(tactic| (first | with_reducible assumption | lia | (simp only [decide_eq_true_eq, decide_eq_false_iff_not, Bool.and_eq_true, Bool.or_eq_true, Bool.not_eq_true', Bool.not_eq_true, Bool.not_eq_false, Bool.true_eq_false, Bool.false_eq_true, not_false_eq_true, Bool.and_false, Bool.false_and, Bool.and_self, bne_iff_ne, ne_eq, beq_iff_eq]; first | done | lia | omega) | (simp; done)))
set_option hygiene false in
local macro_rules | `(tactic| walk_at "ite") => `(tactic| (k_here; first | (refine ite_pos (by walk_at "MINE dec") ?_; walk_say "MY PRUNE") | (refine ite_neg (by walk_at "MINE dec") ?_; walk_say "MY PRUNE")))
set_option hygiene false in
local macro_rules | `(tactic| walk_at "MINE ar") => `(tactic| (first | with_reducible assumption | decide | lia | omega))
local macro_rules | `(tactic| walk_at "binaryOp FloorDiv int int") => `(tactic| ((with_reducible refine floordiv_int ?a ?_ (Or.inl (PyProof.noPylong_small ?c))); (case a => walk_at "MINE ar"); (case c => walk_at "MINE ar")))
local macro_rules | `(tactic| walk_at "binaryOp Mod int int") => `(tactic| ((with_reducible refine mod_int' ?a ?_); (case a => walk_at "MINE ar")))
local macro_rules | `(tactic| walk_at "binaryOp Mult int int") => `(tactic| ((with_reducible refine mul_int ?_ (mulok_r ?a)); (case a => walk_at "MINE ar")))
set_option hygiene false in
local macro_rules | `(tactic| units_room) => `(tactic| first | exact Room.units64 (by assumption) | exact Room.units64i (by assumption) | exact Room.units (by assumption) | exact Room.unitsi (by assumption))
set_option hygiene false in
local macro_rules | `(tactic| ke_room) => `(tactic| units_room)
set_option hygiene false in
local macro_rules | `(tactic| k_units) => `(tactic| units_room)
set_option hygiene false in
local macro_rules | `(tactic| k_room) => `(tactic| exact Room.room (by assumption))
local macro_rules | `(tactic| walk_at "MY For") => `(tactic| (k_here; (with_reducible show wpAny _ _ (exec (Stmt.For (Expr.Name _ _) _ _ [] _) _) _ _ _); (rename Fr _ _ _ _ => lF'); (with_unfolding_all refine' For_invVF lF' ?k1 ?k2 ?_; (case k1 => exact rfl); (case k2 => exact rfl); k_whole)))
set_option hygiene false in
local macro_rules | `(tactic| walk_at "exec For Name Name cons nil") => `(tactic| walk_at "MY For")
set_option hygiene false in
local macro_rules | `(tactic| walk_at "exec For Name Subscript cons nil") => `(tactic| walk_at "MY For")
set_option hygiene false in
local macro_rules | `(tactic| walk_at "exec For Name Attribute cons nil") => `(tactic| walk_at "MY For")
set_option hygiene false in
local macro_rules | `(tactic| walk_at "exec For Name Call cons nil") => `(tactic| walk_at "MY For")
local macro_rules | `(tactic| walk_at "MINE sub") => `(tactic| (intro q9 h9; (simp only [List.mem_cons, List.mem_append] at h9 ⊢); first | (simp only [h9, true_or, or_true]; done) | (rcases h9 with h9 | h9 | h9 | h9 <;> simp only [h9, true_or, or_true] <;> done) | (rcases h9 with h9 | h9 | h9 | h9 | h9 | h9 <;> simp only [h9, true_or, or_true] <;> done) | (simp_all; done)))
set_option hygiene false in
local macro_rules | `(tactic| walk_at "MINE tl") => `(tactic| first | with_reducible exact List.mem_cons_self | (with_reducible refine List.mem_cons_of_mem _ ?_; walk_at "MINE tl") | (with_reducible refine List.mem_append_right _ ?_; walk_at "MINE tl") | (with_reducible refine List.mem_append_left _ ?_; walk_at "MINE tl") | with_reducible assumption)
local macro_rules | `(tactic| walk_at "MINE sub") => `(tactic| first | with_reducible exact List.forall_mem_nil _ | (with_reducible refine List.forall_mem_cons.mpr ⟨?_, ?_⟩; (first | walk_at "MINE tl" | k_mem); walk_at "MINE sub") | (with_reducible refine List.forall_mem_append.mpr ⟨?_, ?_⟩ <;> walk_at "MINE sub") | (intro _ _; walk_at "MINE tl"))
local macro_rules | `(tactic| walk_at "MINE prem") => `(tactic| ((show (_ : Prop)); first | with_reducible assumption | walk_at "MINE prem1" | (intro _ _; (with_reducible show Upd _ _ _ _ _); k_upd)))
local macro_rules | `(tactic| walk_at "MINE prem1") => `(tactic| ((fail_if_success with_reducible intro _); first | ((with_reducible show Frag.In _ _); walk_at "MINE in") | ((with_reducible show Top _ _ _ _ _ _); walk_at "MINE top") | ((with_reducible show Room _ _); walk_at "MINE room") | ((with_reducible show Upd _ _ _ _ _); k_upd) | walk_at "MINE prem2"))
set_option hygiene false in
local macro_rules | `(tactic| walk_at "MINE prem2") => `(tactic| first | ((with_reducible show IsTup _ _ _); walk_at "MINE tup") | decide | lia | omega | assumption)
set_option hygiene false in
local macro_rules | `(tactic| walk_at "MINE bad") => `(tactic| with_reducible first | show Frag.In _ _ | show Top _ _ _ _ _ _ | show Room _ _ | show IsTup _ _ _ | show Heap.IsList _ _ _ | show _ = _ | show _ ≤ _ | show _ < _ | show _ ∈ _ | show Fr _ _ _ _ | show News _ _ _ _ | show Upd _ _ _ _ _)
set_option hygiene false in
local macro_rules | `(tactic| k_call_by "MT" $c $t) => `(tactic| (k_here; (with_reducible show wpAny _ _ $c _ _ _); k_dflt (refine' $t; (all_goals (try walk_at "MINE prem")); (all_goals (fail_if_success walk_at "MINE bad")); k_whole)))
set_option hygiene false in
local macro_rules | `(tactic| k_call_by "MC" $n $t) => `(tactic| k_call_by "MT" (call (Value.ref $n) _ _) $t)
set_option hygiene false in
local macro_rules | `(tactic| k_call_by "MN" $n $t) => `(tactic| (k_call_by "MC" $n $t; intros; walk_at "MINE new"))
set_option hygiene false in
local macro_rules | `(tactic| k_call_by "MU" $c $t) => `(tactic| (k_call_by "MT" $c $t; intros; (try k_sweep)))
set_option hygiene false in
local macro_rules | `(tactic| k_call_by "MS" $n $t) => `(tactic| (k_call_by "MC" $n $t; intros; walk_at "MINE st"))
theorem fill00 : Two PySem.Challenge.rw_pq1319_01 hd.heap_1 := by
  k_fill
  exact trivial
section
theorem gcd_turn {x y : Int} {G : Nat} (hg : Int.gcd x y = G) (hx : 0 ≤ x) (h0 : 0 ≤ y) (hy : 0 < y) : 0 ≤ y ∧ 0 ≤ Int.fmod x y ∧ Int.gcd y (Int.fmod x y) = G := by
  have e : Int.fmod x y = x % y := Int.fmod_eq_emod_of_nonneg x h0
  refine ⟨h0, by rw [e]; exact Int.emod_nonneg _ (by omega), ?_⟩
  rw [e, ← hg, Int.gcd_comm x y, Int.emod_def, Int.gcd_sub_mul_left_right]
theorem gcd_less {x y : Int} (hy : 0 < y) : (Int.fmod x y).toNat < y.toNat := by
  have e : Int.fmod x y = x % y := Int.fmod_eq_emod_of_nonneg x (by omega)
  have := Int.emod_lt_of_pos x hy
  rw [e]; omega
theorem gcd_done {x y : Int} {G : Nat} (hg : Int.gcd x y = G) (hx : 0 ≤ x) (h0 : 0 ≤ y) (hy : ¬ 0 < y) : x = (G : Int) := by
  have : y = 0 := by omega
  subst this
  rw [Int.gcd_zero] at hg
  omega
/-- the fraction n / d in lowest terms -/
def qn (n d : Int) : Int := n / (Int.gcd n d : Int)
def qd (n d : Int) : Int := d / (Int.gcd n d : Int)
theorem gcd_natAbs_left (n d : Int) : Int.gcd (n.natAbs : Int) d = Int.gcd n d := by simp [Int.gcd_eq_natAbs_gcd_natAbs]
end
section
variable {w : World} {dp un : Nat} {fr : Option (List Env)} {gd : Option (List Code)} {s : Shared} {p : Program} {loose : List Str} {mean : ExcName → Option Value} {mg mb : Str → Option Value} {Q : Value → Shared → Prop} {E : Value → Shared → Prop}

theorem gcd_spec {a b : Int} {t u : Tok} (X : (hd.heap_1 w.params).In s.heap) (T : Top p loose mean mg mb s.heap) (Rm : Room (Ar dp un fr gd) 3)
   (ha : 0 ≤ a) (hb : 0 < b)
   (h : ∀ h' tk t', s.heap.StaysIn h' → Q (.int (Int.gcd a b : Int) t') { s with heap := h', toks := tk }) :
   wpAny (MM w) (Ar dp un fr gd) (call (.ref 62) [.int a t, .int b u]) Q E s := by
  refine wpAny_call ?_
  refine' enter_def (binds := [("a", .int a t), ("b", .int b u)]) s.heap [] X T Rm (fun _ _ e => e) (Nat.le_refl _) (fun _ hq => nomatch hq) ?k6 ?k7 ?k9 ?kB ?_ ?c2 ?c3 ?c4 ?c5
  (case k6 => k_dflt k_is)
  (case k7 => k_dflt k_is)
  (case k9 => k_dflt exact BindsTo.of_eq rfl)
  (case kB => k_dflt exact locs rfl)
  (case c2 => k_dflt exact rfl)
  (case c3 => k_dflt exact rfl)
  (case c4 => k_dflt exact rfl)
  (case c5 => k_dflt decide)
  intro L h₁ Rm' F N k₁ hL
  (try dsimp only)
  (try k_fold)
  k_with "state" => exact gcd_turn (by assumption) (by assumption) (by assumption) (by assumption)
  k_with "measure" => exact gcd_less (by assumption)
  k_with "exec While Compare cons nil" => k_while (fun (_ : List Int) (a' b' : Int) => 0 ≤ a' ∧ 0 ≤ b' ∧ Int.gcd a' b' = Int.gcd a b) (fun (_ : List Int) (_ b' : Int) => b'.toNat) "a" "b"
  k_steps
  k_with_none
  all_goals walk_at "MINE end"
  have e := gcd_done (G := Int.gcd a b) (by assumption) (by assumption) (by assumption) (by assumption)
  rw [e]
  exact h _ _ _ (Fr.keep (by assumption))
end
--REG
set_option hygiene false in
local macro_rules | `(tactic| walk_at "call ref") => `(tactic| k_call_by "MS" 62 (gcd_spec _ _ _ _ _ _))
--END

theorem abs_is (n : Int) : (if n < 0 then -n else n) = (n.natAbs : Int) := by split <;> omega
theorem gcd_abs (n d : Int) : Int.gcd (if n < 0 then -n else n) d = Int.gcd n d := by rw [abs_is, gcd_natAbs_left]
theorem gcd_abs_ne {n d : Int} (hd0 : 0 < d) : ((Int.gcd (if n < 0 then -n else n) d : Nat) : Int) ≠ 0 := by
  rw [gcd_abs]
  have := Int.gcd_pos_of_ne_zero_right n (b := d) (by lia)
  lia
theorem gcd_abs_lt {n d : Int} (hd0 : 0 < d) (h1 : d < 1073741824) : ((Int.gcd (if n < 0 then -n else n) d : Nat) : Int).natAbs < 1073741824 := by
  rw [gcd_abs]
  have := Int.gcd_le_right n hd0
  omega
theorem qn_is (n d : Int) : Int.fdiv n ((Int.gcd (if n < 0 then -n else n) d : Nat) : Int) = qn n d := by rw [gcd_abs]; exact Int.fdiv_eq_ediv_of_nonneg _ (by lia)
theorem qd_is (n d : Int) : Int.fdiv d ((Int.gcd (if n < 0 then -n else n) d : Nat) : Int) = qd n d := by rw [gcd_abs]; exact Int.fdiv_eq_ediv_of_nonneg _ (by lia)
section
variable {w : World} {dp un : Nat} {fr : Option (List Env)} {gd : Option (List Code)} {s : Shared} {p : Program} {loose : List Str} {mean : ExcName → Option Value} {mg mb : Str → Option Value} {Q : Value → Shared → Prop} {E : Value → Shared → Prop}
theorem make_spec {n d : Int} {t u : Tok} (X : (hd.heap_1 w.params).In s.heap) (T : Top p loose mean mg mb s.heap) (Rm : Room (Ar dp un fr gd) 5)
   (hd0 : 0 < d) (hd1 : d < 1073741824)
   (h : ∀ h' tk q t' u', s.heap.StaysIn h' → s.heap.get? q = none → h'.get? q = some (tupO [.int (qn n d) t', .int (qd n d) u']) → Q (.ref q) { s with heap := h', toks := tk }) :
   wpAny (MM w) (Ar dp un fr gd) (call (.ref 69) [.int n t, .int d u]) Q E s := by
  refine wpAny_call ?_
  refine' enter_def (binds := [("n", .int n t), ("d", .int d u)]) s.heap [] X T Rm (fun _ _ e => e) (Nat.le_refl _) (fun _ hq => nomatch hq) ?k6 ?k7 ?k9 ?kB ?_ ?c2 ?c3 ?c4 ?c5
  (case k6 => k_dflt k_is)
  (case k7 => k_dflt k_is)
  (case k9 => k_dflt exact BindsTo.of_eq rfl)
  (case kB => k_dflt exact locs rfl)
  (case c2 => k_dflt exact rfl)
  (case c3 => k_dflt exact rfl)
  (case c4 => k_dflt exact rfl)
  (case c5 => k_dflt decide)
  intro L h₁ Rm' F N k₁ hL
  (try dsimp only)
  (try k_fold)
  have hg := gcd_abs_ne (n := n) hd0
  have hg2 := gcd_abs_lt (n := n) hd0 hd1
  k_steps
  all_goals walk_at "MINE end"
  simp only [qn_is, qd_is] at *
  exact h _ _ _ _ _ (Fr.keep (by assumption)) (News.fresh (by assumption) (.head _)) (News.get (by assumption) (.head _))
end
--REG
set_option hygiene false in
local macro_rules | `(tactic| walk_at "call ref") => `(tactic| k_call_by "MN" 69 (make_spec _ _ _ _ _ _))
--END

theorem mul_lo {a b : Int} (h0 : 0 < a) (h1 : a < 30000) (h2 : 0 < b) (h3 : b < 30000) : 0 < a * b ∧ a * b < 1073741824 := by
  refine ⟨Int.mul_pos h0 h2, ?_⟩
  have h4 : a * b ≤ 29999 * 29999 := Int.mul_le_mul (by lia) (by lia) (by lia) (by lia)
  lia
section
variable {w : World} {dp un : Nat} {fr : Option (List Env)} {gd : Option (List Code)} {s : Shared} {p : Program} {loose : List Str} {mean : ExcName → Option Value} {mg mb : Str → Option Value} {Q : Value → Shared → Prop} {E : Value → Shared → Prop}
theorem fromint_spec {n : Int} {t : Tok} (X : (hd.heap_1 w.params).In s.heap) (T : Top p loose mean mg mb s.heap) (Rm : Room (Ar dp un fr gd) 3)
   (h : ∀ h' tk q u, s.heap.StaysIn h' → s.heap.get? q = none → h'.get? q = some (tupO [.int n t, .int 1 u]) → Q (.ref q) { s with heap := h', toks := tk }) :
   wpAny (MM w) (Ar dp un fr gd) (call (.ref 76) [.int n t]) Q E s := by
  refine wpAny_call ?_
  refine' enter_def (binds := [("n", .int n t)]) s.heap [] X T Rm (fun _ _ e => e) (Nat.le_refl _) (fun _ hq => nomatch hq) ?k6 ?k7 ?k9 ?kB ?_ ?c2 ?c3 ?c4 ?c5
  (case k6 => k_dflt k_is)
  (case k7 => k_dflt k_is)
  (case k9 => k_dflt exact BindsTo.of_eq rfl)
  (case kB => k_dflt exact locs rfl)
  (case c2 => k_dflt exact rfl)
  (case c3 => k_dflt exact rfl)
  (case c4 => k_dflt exact rfl)
  (case c5 => k_dflt decide)
  intro L h₁ Rm' F N k₁ hL
  (try dsimp only)
  (try k_fold)
  k_steps
  all_goals walk_at "MINE end"
  all_goals exact h _ _ _ _ (Fr.keep (by assumption)) (News.fresh (by assumption) (.head _)) (News.get (by assumption) (.head _))
end
--REG
set_option hygiene false in
local macro_rules | `(tactic| walk_at "call ref") => `(tactic| k_call_by "MN" 76 (fromint_spec _ _ _ _))
--END
section
variable {w : World} {dp un : Nat} {fr : Option (List Env)} {gd : Option (List Code)} {s : Shared} {p : Program} {loose : List Str} {mean : ExcName → Option Value} {mg mb : Str → Option Value} {Q : Value → Shared → Prop} {E : Value → Shared → Prop}
theorem fromnone_spec  (X : (hd.heap_1 w.params).In s.heap) (T : Top p loose mean mg mb s.heap) (Rm : Room (Ar dp un fr gd) 3)
   (h : ∀ h' tk, s.heap.StaysIn h' → Q (.none) { s with heap := h', toks := tk }) :
   wpAny (MM w) (Ar dp un fr gd) (call (.ref 76) [.none]) Q E s := by
  refine wpAny_call ?_
  refine' enter_def (binds := [("n", .none)]) s.heap [] X T Rm (fun _ _ e => e) (Nat.le_refl _) (fun _ hq => nomatch hq) ?k6 ?k7 ?k9 ?kB ?_ ?c2 ?c3 ?c4 ?c5
  (case k6 => k_dflt k_is)
  (case k7 => k_dflt k_is)
  (case k9 => k_dflt exact BindsTo.of_eq rfl)
  (case kB => k_dflt exact locs rfl)
  (case c2 => k_dflt exact rfl)
  (case c3 => k_dflt exact rfl)
  (case c4 => k_dflt exact rfl)
  (case c5 => k_dflt decide)
  intro L h₁ Rm' F N k₁ hL
  (try dsimp only)
  (try k_fold)
  k_steps
  all_goals walk_at "MINE end"
  all_goals exact h _ _ (Fr.keep (by assumption))
end
--REG
set_option hygiene false in
local macro_rules | `(tactic| walk_at "call ref") => `(tactic| k_call_by "MS" 76 (fromnone_spec _ _ _ _))
--END
section
variable {w : World} {dp un : Nat} {fr : Option (List Env)} {gd : Option (List Code)} {s : Shared} {p : Program} {loose : List Str} {mean : ExcName → Option Value} {mg mb : Str → Option Value} {Q : Value → Shared → Prop} {E : Value → Shared → Prop}
theorem isnanone_spec  (X : (hd.heap_1 w.params).In s.heap) (T : Top p loose mean mg mb s.heap) (Rm : Room (Ar dp un fr gd) 3)
   (h : ∀ h' tk, s.heap.StaysIn h' → Q (.bool true) { s with heap := h', toks := tk }) :
   wpAny (MM w) (Ar dp un fr gd) (call (.ref 83) [.none]) Q E s := by
  refine wpAny_call ?_
  refine' enter_def (binds := [("x", .none)]) s.heap [] X T Rm (fun _ _ e => e) (Nat.le_refl _) (fun _ hq => nomatch hq) ?k6 ?k7 ?k9 ?kB ?_ ?c2 ?c3 ?c4 ?c5
  (case k6 => k_dflt k_is)
  (case k7 => k_dflt k_is)
  (case k9 => k_dflt exact BindsTo.of_eq rfl)
  (case kB => k_dflt exact locs rfl)
  (case c2 => k_dflt exact rfl)
  (case c3 => k_dflt exact rfl)
  (case c4 => k_dflt exact rfl)
  (case c5 => k_dflt decide)
  intro L h₁ Rm' F N k₁ hL
  (try dsimp only)
  (try k_fold)
  k_steps
  all_goals walk_at "MINE end"
  all_goals exact h _ _ (Fr.keep (by assumption))
end
--REG
set_option hygiene false in
local macro_rules | `(tactic| walk_at "call ref") => `(tactic| k_call_by "MS" 83 (isnanone_spec _ _ _ _))
--END
section
variable {w : World} {dp un : Nat} {fr : Option (List Env)} {gd : Option (List Code)} {s : Shared} {p : Program} {loose : List Str} {mean : ExcName → Option Value} {mg mb : Str → Option Value} {Q : Value → Shared → Prop} {E : Value → Shared → Prop}
theorem isnafin_spec {a : Addr} {n d : Int} {t u : Tok} (X : (hd.heap_1 w.params).In s.heap) (T : Top p loose mean mg mb s.heap) (Rm : Room (Ar dp un fr gd) 3)
   (ha : IsTup s.heap a #[.int n t, .int d u])
   (h0 : 0 < d)
   (h : ∀ h' tk, s.heap.StaysIn h' → Q (.bool false) { s with heap := h', toks := tk }) :
   wpAny (MM w) (Ar dp un fr gd) (call (.ref 83) [.ref a]) Q E s := by
  refine wpAny_call ?_
  refine' enter_def (binds := [("x", .ref a)]) s.heap [] X T Rm (fun _ _ e => e) (Nat.le_refl _) (fun _ hq => nomatch hq) ?k6 ?k7 ?k9 ?kB ?_ ?c2 ?c3 ?c4 ?c5
  (case k6 => k_dflt k_is)
  (case k7 => k_dflt k_is)
  (case k9 => k_dflt exact BindsTo.of_eq rfl)
  (case kB => k_dflt exact locs rfl)
  (case c2 => k_dflt exact rfl)
  (case c3 => k_dflt exact rfl)
  (case c4 => k_dflt exact rfl)
  (case c5 => k_dflt decide)
  intro L h₁ Rm' F N k₁ hL
  (try dsimp only)
  (try k_fold)
  k_steps
  all_goals walk_at "MINE end"
  all_goals first | rw [show (d == 0) = false from by simp; lia] | rw [show (n == 0) = false from by simp; lia]
  all_goals exact h _ _ (Fr.keep (by assumption))
end
--REG
set_option hygiene false in
local macro_rules | `(tactic| walk_at "call ref") => `(tactic| k_call_by "MS" 83 (isnafin_spec _ _ _ _ _ _))
--END
section
variable {w : World} {dp un : Nat} {fr : Option (List Env)} {gd : Option (List Code)} {s : Shared} {p : Program} {loose : List Str} {mean : ExcName → Option Value} {mg mb : Str → Option Value} {Q : Value → Shared → Prop} {E : Value → Shared → Prop}
theorem isnanan_spec {a : Addr} {t u : Tok} (X : (hd.heap_1 w.params).In s.heap) (T : Top p loose mean mg mb s.heap) (Rm : Room (Ar dp un fr gd) 3)
   (ha : IsTup s.heap a #[.int 0 t, .int 0 u])
   (h : ∀ h' tk, s.heap.StaysIn h' → Q (.bool true) { s with heap := h', toks := tk }) :
   wpAny (MM w) (Ar dp un fr gd) (call (.ref 83) [.ref a]) Q E s := by
  refine wpAny_call ?_
  refine' enter_def (binds := [("x", .ref a)]) s.heap [] X T Rm (fun _ _ e => e) (Nat.le_refl _) (fun _ hq => nomatch hq) ?k6 ?k7 ?k9 ?kB ?_ ?c2 ?c3 ?c4 ?c5
  (case k6 => k_dflt k_is)
  (case k7 => k_dflt k_is)
  (case k9 => k_dflt exact BindsTo.of_eq rfl)
  (case kB => k_dflt exact locs rfl)
  (case c2 => k_dflt exact rfl)
  (case c3 => k_dflt exact rfl)
  (case c4 => k_dflt exact rfl)
  (case c5 => k_dflt decide)
  intro L h₁ Rm' F N k₁ hL
  (try dsimp only)
  (try k_fold)
  k_steps
  all_goals walk_at "MINE end"
  all_goals exact h _ _ (Fr.keep (by assumption))
end
--REG
set_option hygiene false in
local macro_rules | `(tactic| walk_at "call ref") => `(tactic| k_call_by "MS" 83 (isnanan_spec _ _ _ _ _))
--END
section
variable {w : World} {dp un : Nat} {fr : Option (List Env)} {gd : Option (List Code)} {s : Shared} {p : Program} {loose : List Str} {mean : ExcName → Option Value} {mg mb : Str → Option Value} {Q : Value → Shared → Prop} {E : Value → Shared → Prop}
theorem isnan_spec {a : Addr} {n d : Int} {t u : Tok} (X : (hd.heap_1 w.params).In s.heap) (T : Top p loose mean mg mb s.heap) (Rm : Room (Ar dp un fr gd) 3)
   (ha : IsTup s.heap a #[.int n t, .int d u])
   (h0 : 0 < d)
   (h : ∀ h' tk, s.heap.StaysIn h' → Q (.bool false) { s with heap := h', toks := tk }) :
   wpAny (MM w) (Ar dp un fr gd) (call (.ref 90) [.ref a]) Q E s := by
  refine wpAny_call ?_
  refine' enter_def (binds := [("x", .ref a)]) s.heap [] X T Rm (fun _ _ e => e) (Nat.le_refl _) (fun _ hq => nomatch hq) ?k6 ?k7 ?k9 ?kB ?_ ?c2 ?c3 ?c4 ?c5
  (case k6 => k_dflt k_is)
  (case k7 => k_dflt k_is)
  (case k9 => k_dflt exact BindsTo.of_eq rfl)
  (case kB => k_dflt exact locs rfl)
  (case c2 => k_dflt exact rfl)
  (case c3 => k_dflt exact rfl)
  (case c4 => k_dflt exact rfl)
  (case c5 => k_dflt decide)
  intro L h₁ Rm' F N k₁ hL
  (try dsimp only)
  (try k_fold)
  k_steps
  all_goals walk_at "MINE end"
  all_goals first | rw [show (d == 0) = false from by simp; omega] | rw [show (n == 0) = false from by simp; omega]
  all_goals exact h _ _ (Fr.keep (by assumption))
end
--REG
set_option hygiene false in
local macro_rules | `(tactic| walk_at "call ref") => `(tactic| k_call_by "MS" 90 (isnan_spec _ _ _ _ _ _))
--END
section
variable {w : World} {dp un : Nat} {fr : Option (List Env)} {gd : Option (List Code)} {s : Shared} {p : Program} {loose : List Str} {mean : ExcName → Option Value} {mg mb : Str → Option Value} {Q : Value → Shared → Prop} {E : Value → Shared → Prop}
theorem isfin_spec {a : Addr} {n d : Int} {t u : Tok} (X : (hd.heap_1 w.params).In s.heap) (T : Top p loose mean mg mb s.heap) (Rm : Room (Ar dp un fr gd) 3)
   (ha : IsTup s.heap a #[.int n t, .int d u])
   (h0 : 0 < d)
   (h : ∀ h' tk, s.heap.StaysIn h' → Q (.bool true) { s with heap := h', toks := tk }) :
   wpAny (MM w) (Ar dp un fr gd) (call (.ref 97) [.ref a]) Q E s := by
  refine wpAny_call ?_
  refine' enter_def (binds := [("x", .ref a)]) s.heap [] X T Rm (fun _ _ e => e) (Nat.le_refl _) (fun _ hq => nomatch hq) ?k6 ?k7 ?k9 ?kB ?_ ?c2 ?c3 ?c4 ?c5
  (case k6 => k_dflt k_is)
  (case k7 => k_dflt k_is)
  (case k9 => k_dflt exact BindsTo.of_eq rfl)
  (case kB => k_dflt exact locs rfl)
  (case c2 => k_dflt exact rfl)
  (case c3 => k_dflt exact rfl)
  (case c4 => k_dflt exact rfl)
  (case c5 => k_dflt decide)
  intro L h₁ Rm' F N k₁ hL
  (try dsimp only)
  (try k_fold)
  k_steps
  all_goals walk_at "MINE end"
  all_goals rw [show decide (0 < d) = true from decide_eq_true h0]
  all_goals exact h _ _ (Fr.keep (by assumption))
end
--REG
set_option hygiene false in
local macro_rules | `(tactic| walk_at "call ref") => `(tactic| k_call_by "MS" 97 (isfin_spec _ _ _ _ _ _))
--END
section
variable {w : World} {dp un : Nat} {fr : Option (List Env)} {gd : Option (List Code)} {s : Shared} {p : Program} {loose : List Str} {mean : ExcName → Option Value} {mg mb : Str → Option Value} {Q : Value → Shared → Prop} {E : Value → Shared → Prop}
theorem neg_spec {a : Addr} {n d : Int} {t u : Tok} (X : (hd.heap_1 w.params).In s.heap) (T : Top p loose mean mg mb s.heap) (Rm : Room (Ar dp un fr gd) 3)
   (ha : IsTup s.heap a #[.int n t, .int d u])
   (h : ∀ h' tk q t1 u1, s.heap.StaysIn h' → s.heap.get? q = none → h'.get? q = some (tupO [.int (0 - n) t1, .int d u1]) → Q (.ref q) { s with heap := h', toks := tk }) :
   wpAny (MM w) (Ar dp un fr gd) (call (.ref 111) [.ref a]) Q E s := by
  refine wpAny_call ?_
  refine' enter_def (binds := [("x", .ref a)]) s.heap [] X T Rm (fun _ _ e => e) (Nat.le_refl _) (fun _ hq => nomatch hq) ?k6 ?k7 ?k9 ?kB ?_ ?c2 ?c3 ?c4 ?c5
  (case k6 => k_dflt k_is)
  (case k7 => k_dflt k_is)
  (case k9 => k_dflt exact BindsTo.of_eq rfl)
  (case kB => k_dflt exact locs rfl)
  (case c2 => k_dflt exact rfl)
  (case c3 => k_dflt exact rfl)
  (case c4 => k_dflt exact rfl)
  (case c5 => k_dflt decide)
  intro L h₁ Rm' F N k₁ hL
  (try dsimp only)
  (try k_fold)
  k_steps
  all_goals walk_at "MINE end"
  all_goals exact h _ _ _ _ _ (Fr.keep (by assumption)) (News.fresh (by assumption) (.head _)) (News.get (by assumption) (.head _))
end
--REG
set_option hygiene false in
local macro_rules | `(tactic| walk_at "call ref") => `(tactic| k_call_by "MN" 111 (neg_spec _ _ _ _ _))
--END
section
variable {w : World} {dp un : Nat} {fr : Option (List Env)} {gd : Option (List Code)} {s : Shared} {p : Program} {loose : List Str} {mean : ExcName → Option Value} {mg mb : Str → Option Value} {Q : Value → Shared → Prop} {E : Value → Shared → Prop}
theorem floor_spec {a : Addr} {n d : Int} {t u : Tok} (X : (hd.heap_1 w.params).In s.heap) (T : Top p loose mean mg mb s.heap) (Rm : Room (Ar dp un fr gd) 5)
   (ha : IsTup s.heap a #[.int n t, .int d u])
   (h0 : 0 < d)
   (h1 : d < 1073741824)
   (h : ∀ h' tk q t1 u1, s.heap.StaysIn h' → s.heap.get? q = none → h'.get? q = some (tupO [.int (Int.fdiv n d) t1, .int 1 u1]) → Q (.ref q) { s with heap := h', toks := tk }) :
   wpAny (MM w) (Ar dp un fr gd) (call (.ref 146) [.ref a]) Q E s := by
  refine wpAny_call ?_
  refine' enter_def (binds := [("x", .ref a)]) s.heap [] X T Rm (fun _ _ e => e) (Nat.le_refl _) (fun _ hq => nomatch hq) ?k6 ?k7 ?k9 ?kB ?_ ?c2 ?c3 ?c4 ?c5
  (case k6 => k_dflt k_is)
  (case k7 => k_dflt k_is)
  (case k9 => k_dflt exact BindsTo.of_eq rfl)
  (case kB => k_dflt exact locs rfl)
  (case c2 => k_dflt exact rfl)
  (case c3 => k_dflt exact rfl)
  (case c4 => k_dflt exact rfl)
  (case c5 => k_dflt decide)
  intro L h₁ Rm' F N k₁ hL
  (try dsimp only)
  (try k_fold)
  k_steps
  all_goals walk_at "MINE end"
  all_goals exact h _ _ _ _ _ (Fr.keep (by assumption)) (News.fresh (by assumption) (.head _)) (News.get (by assumption) (.head _))
end
--REG
set_option hygiene false in
local macro_rules | `(tactic| walk_at "call ref") => `(tactic| k_call_by "MN" 146 (floor_spec _ _ _ _ _ _ _))
--END
section
variable {w : World} {dp un : Nat} {fr : Option (List Env)} {gd : Option (List Code)} {s : Shared} {p : Program} {loose : List Str} {mean : ExcName → Option Value} {mg mb : Str → Option Value} {Q : Value → Shared → Prop} {E : Value → Shared → Prop}
theorem add_spec {a : Addr} {n d : Int} {t u : Tok} {b : Addr} {n2 d2 : Int} {t2 u2 : Tok} (X : (hd.heap_1 w.params).In s.heap) (T : Top p loose mean mg mb s.heap) (Rm : Room (Ar dp un fr gd) 7)
   (ha : IsTup s.heap a #[.int n t, .int d u])
   (hb : IsTup s.heap b #[.int n2 t2, .int d2 u2])
   (h0 : 0 < d)
   (h1 : d < 30000)
   (h2 : 0 < d2)
   (h3 : d2 < 30000)
   (h : ∀ h' tk q t1 u1, s.heap.StaysIn h' → s.heap.get? q = none → h'.get? q = some (tupO [.int (qn (n * d2 + n2 * d) (d * d2)) t1, .int (qd (n * d2 + n2 * d) (d * d2)) u1]) → Q (.ref q) { s with heap := h', toks := tk }) :
   wpAny (MM w) (Ar dp un fr gd) (call (.ref 118) [.ref a, .ref b]) Q E s := by
  refine wpAny_call ?_
  refine' enter_def (binds := [("x", .ref a), ("y", .ref b)]) s.heap [] X T Rm (fun _ _ e => e) (Nat.le_refl _) (fun _ hq => nomatch hq) ?k6 ?k7 ?k9 ?kB ?_ ?c2 ?c3 ?c4 ?c5
  (case k6 => k_dflt k_is)
  (case k7 => k_dflt k_is)
  (case k9 => k_dflt exact BindsTo.of_eq rfl)
  (case kB => k_dflt exact locs rfl)
  (case c2 => k_dflt exact rfl)
  (case c3 => k_dflt exact rfl)
  (case c4 => k_dflt exact rfl)
  (case c5 => k_dflt decide)
  intro L h₁ Rm' F N k₁ hL
  (try dsimp only)
  (try k_fold)
  have hm := mul_lo h0 h1 h2 h3
  k_steps
  all_goals walk_at "MINE end"
  all_goals exact h _ _ _ _ _ (Fr.keep (by assumption)) (News.fresh (by assumption) (.head _)) (News.get (by assumption) (.head _))
end
--REG
set_option hygiene false in
local macro_rules | `(tactic| walk_at "call ref") => `(tactic| k_call_by "MN" 118 (add_spec _ _ _ _ _ _ _ _ _ _))
--END
section
variable {w : World} {dp un : Nat} {fr : Option (List Env)} {gd : Option (List Code)} {s : Shared} {p : Program} {loose : List Str} {mean : ExcName → Option Value} {mg mb : Str → Option Value} {Q : Value → Shared → Prop} {E : Value → Shared → Prop}
theorem sub_spec {a : Addr} {n d : Int} {t u : Tok} {b : Addr} {n2 d2 : Int} {t2 u2 : Tok} (X : (hd.heap_1 w.params).In s.heap) (T : Top p loose mean mg mb s.heap) (Rm : Room (Ar dp un fr gd) 9)
   (ha : IsTup s.heap a #[.int n t, .int d u])
   (hb : IsTup s.heap b #[.int n2 t2, .int d2 u2])
   (h0 : 0 < d)
   (h1 : d < 30000)
   (h2 : 0 < d2)
   (h3 : d2 < 30000)
   (h : ∀ h' tk q t1 u1, s.heap.StaysIn h' → s.heap.get? q = none → h'.get? q = some (tupO [.int (qn (n * d2 + (0 - n2) * d) (d * d2)) t1, .int (qd (n * d2 + (0 - n2) * d) (d * d2)) u1]) → Q (.ref q) { s with heap := h', toks := tk }) :
   wpAny (MM w) (Ar dp un fr gd) (call (.ref 125) [.ref a, .ref b]) Q E s := by
  refine wpAny_call ?_
  refine' enter_def (binds := [("x", .ref a), ("y", .ref b)]) s.heap [] X T Rm (fun _ _ e => e) (Nat.le_refl _) (fun _ hq => nomatch hq) ?k6 ?k7 ?k9 ?kB ?_ ?c2 ?c3 ?c4 ?c5
  (case k6 => k_dflt k_is)
  (case k7 => k_dflt k_is)
  (case k9 => k_dflt exact BindsTo.of_eq rfl)
  (case kB => k_dflt exact locs rfl)
  (case c2 => k_dflt exact rfl)
  (case c3 => k_dflt exact rfl)
  (case c4 => k_dflt exact rfl)
  (case c5 => k_dflt decide)
  intro L h₁ Rm' F N k₁ hL
  (try dsimp only)
  (try k_fold)
  k_steps
  all_goals walk_at "MINE end"
  all_goals exact h _ _ _ _ _ (Fr.keep (by assumption)) (News.fresh (by assumption) (.head _)) (News.get (by assumption) (.head _))
end
--REG
set_option hygiene false in
local macro_rules | `(tactic| walk_at "call ref") => `(tactic| k_call_by "MN" 125 (sub_spec _ _ _ _ _ _ _ _ _ _))
--END
section
variable {w : World} {dp un : Nat} {fr : Option (List Env)} {gd : Option (List Code)} {s : Shared} {p : Program} {loose : List Str} {mean : ExcName → Option Value} {mg mb : Str → Option Value} {Q : Value → Shared → Prop} {E : Value → Shared → Prop}
theorem mul_spec {a : Addr} {n d : Int} {t u : Tok} {b : Addr} {n2 d2 : Int} {t2 u2 : Tok} (X : (hd.heap_1 w.params).In s.heap) (T : Top p loose mean mg mb s.heap) (Rm : Room (Ar dp un fr gd) 7)
   (ha : IsTup s.heap a #[.int n t, .int d u])
   (hb : IsTup s.heap b #[.int n2 t2, .int d2 u2])
   (h0 : 0 < d)
   (h1 : d < 30000)
   (h2 : 0 < d2)
   (h3 : d2 < 30000)
   (h4 : n2.natAbs < 2 ^ 60)
   (h : ∀ h' tk q t1 u1, s.heap.StaysIn h' → s.heap.get? q = none → h'.get? q = some (tupO [.int (qn (n * n2) (d * d2)) t1, .int (qd (n * n2) (d * d2)) u1]) → Q (.ref q) { s with heap := h', toks := tk }) :
   wpAny (MM w) (Ar dp un fr gd) (call (.ref 132) [.ref a, .ref b]) Q E s := by
  refine wpAny_call ?_
  refine' enter_def (binds := [("x", .ref a), ("y", .ref b)]) s.heap [] X T Rm (fun _ _ e => e) (Nat.le_refl _) (fun _ hq => nomatch hq) ?k6 ?k7 ?k9 ?kB ?_ ?c2 ?c3 ?c4 ?c5
  (case k6 => k_dflt k_is)
  (case k7 => k_dflt k_is)
  (case k9 => k_dflt exact BindsTo.of_eq rfl)
  (case kB => k_dflt exact locs rfl)
  (case c2 => k_dflt exact rfl)
  (case c3 => k_dflt exact rfl)
  (case c4 => k_dflt exact rfl)
  (case c5 => k_dflt decide)
  intro L h₁ Rm' F N k₁ hL
  (try dsimp only)
  (try k_fold)
  have hm := mul_lo h0 h1 h2 h3
  k_steps
  all_goals walk_at "MINE end"
  all_goals exact h _ _ _ _ _ (Fr.keep (by assumption)) (News.fresh (by assumption) (.head _)) (News.get (by assumption) (.head _))
end
--REG
set_option hygiene false in
local macro_rules | `(tactic| walk_at "call ref") => `(tactic| k_call_by "MN" 132 (mul_spec _ _ _ _ _ _ _ _ _ _ _))
--END
section
variable {w : World} {dp un : Nat} {fr : Option (List Env)} {gd : Option (List Code)} {s : Shared} {p : Program} {loose : List Str} {mean : ExcName → Option Value} {mg mb : Str → Option Value} {Q : Value → Shared → Prop} {E : Value → Shared → Prop}
theorem div_spec {a : Addr} {n d : Int} {t u : Tok} {b : Addr} {n2 d2 : Int} {t2 u2 : Tok} (X : (hd.heap_1 w.params).In s.heap) (T : Top p loose mean mg mb s.heap) (Rm : Room (Ar dp un fr gd) 7)
   (ha : IsTup s.heap a #[.int n t, .int d u])
   (hb : IsTup s.heap b #[.int n2 t2, .int d2 u2])
   (h0 : 0 < d)
   (h1 : d < 30000)
   (h2 : 0 < d2)
   (h3 : d2 < 30000)
   (h4 : 0 < n2)
   (h5 : n2 < 30000)
   (h : ∀ h' tk q t1 u1, s.heap.StaysIn h' → s.heap.get? q = none → h'.get? q = some (tupO [.int (qn (n * d2) (d * n2)) t1, .int (qd (n * d2) (d * n2)) u1]) → Q (.ref q) { s with heap := h', toks := tk }) :
   wpAny (MM w) (Ar dp un fr gd) (call (.ref 139) [.ref a, .ref b]) Q E s := by
  refine wpAny_call ?_
  refine' enter_def (binds := [("x", .ref a), ("y", .ref b)]) s.heap [] X T Rm (fun _ _ e => e) (Nat.le_refl _) (fun _ hq => nomatch hq) ?k6 ?k7 ?k9 ?kB ?_ ?c2 ?c3 ?c4 ?c5
  (case k6 => k_dflt k_is)
  (case k7 => k_dflt k_is)
  (case k9 => k_dflt exact BindsTo.of_eq rfl)
  (case kB => k_dflt exact locs rfl)
  (case c2 => k_dflt exact rfl)
  (case c3 => k_dflt exact rfl)
  (case c4 => k_dflt exact rfl)
  (case c5 => k_dflt decide)
  intro L h₁ Rm' F N k₁ hL
  (try dsimp only)
  (try k_fold)
  have hm := mul_lo h0 h1 h4 h5
  k_steps
  all_goals walk_at "MINE end"
  all_goals exact h _ _ _ _ _ (Fr.keep (by assumption)) (News.fresh (by assumption) (.head _)) (News.get (by assumption) (.head _))
end
--REG
set_option hygiene false in
local macro_rules | `(tactic| walk_at "call ref") => `(tactic| k_call_by "MN" 139 (div_spec _ _ _ _ _ _ _ _ _ _ _ _))
--END

theorem plain_turn {x y : Int} {G : Nat} (hg : Int.gcd x y = G) (hx : 0 ≤ x) (h0 : 0 ≤ y) (hy : y ≠ 0) : 0 ≤ y ∧ 0 ≤ Int.fmod x y ∧ Int.gcd y (Int.fmod x y) = G := gcd_turn hg hx h0 (by lia)
section
variable {w : World} {dp un : Nat} {fr : Option (List Env)} {gd : Option (List Code)} {s : Shared} {p : Program} {loose : List Str} {mean : ExcName → Option Value} {mg mb : Str → Option Value} {Q : Value → Shared → Prop} {E : Value → Shared → Prop}
theorem less_spec {a b : Addr} {n d n2 d2 : Int} {t u t2 u2 : Tok} (X : (hd.heap_1 w.params).In s.heap) (T : Top p loose mean mg mb s.heap) (Rm : Room (Ar dp un fr gd) 3)
   (ha : IsTup s.heap a #[.int n t, .int d u]) (hb : IsTup s.heap b #[.int n2 t2, .int d2 u2])
   (b1 : d.natAbs < 2 ^ 60) (b2 : d2.natAbs < 2 ^ 60)
   (h : ∀ h' tk, s.heap.StaysIn h' → Q (.bool (decide (n * d2 < n2 * d))) { s with heap := h', toks := tk }) :
   wpAny (MM w) (Ar dp un fr gd) (call (.ref 281) [.ref a, .ref b]) Q E s := by
  refine wpAny_call ?_
  refine' enter_def (binds := [("one", .ref a), ("two", .ref b)]) s.heap [] X T Rm (fun _ _ e => e) (Nat.le_refl _) (fun _ hq => nomatch hq) ?k6 ?k7 ?k9 ?kB ?_ ?c2 ?c3 ?c4 ?c5
  (case k6 => k_dflt k_is)
  (case k7 => k_dflt k_is)
  (case k9 => k_dflt exact BindsTo.of_eq rfl)
  (case kB => k_dflt exact locs rfl)
  (case c2 => k_dflt exact rfl)
  (case c3 => k_dflt exact rfl)
  (case c4 => k_dflt exact rfl)
  (case c5 => k_dflt decide)
  intro L h₁ Rm' F N k₁ hL
  (try dsimp only)
  (try k_fold)
  k_steps
  all_goals walk_at "MINE end"
  exact h _ _ (Fr.keep (by assumption))
end
--REG
set_option hygiene false in
local macro_rules | `(tactic| walk_at "call ref") => `(tactic| k_call_by "MS" 281 (less_spec _ _ _ _ _ _ _ _))
--END
section
variable {w : World} {dp un : Nat} {fr : Option (List Env)} {gd : Option (List Code)} {s : Shared} {p : Program} {loose : List Str} {mean : ExcName → Option Value} {mg mb : Str → Option Value} {Q : Value → Shared → Prop} {E : Value → Shared → Prop}
theorem plain_spec {n d : Int} {t u : Tok} (X : (hd.heap_1 w.params).In s.heap) (T : Top p loose mean mg mb s.heap) (Rm : Room (Ar dp un fr gd) 4)
   (hd0 : 0 < d) (hd1 : d < 1073741824)
   (h : ∀ h' tk q t' u', s.heap.StaysIn h' → s.heap.get? q = none → h'.get? q = some (tupO [.int (qn n d) t', .int (qd n d) u']) → Q (.ref q) { s with heap := h', toks := tk }) :
   wpAny (MM w) (Ar dp un fr gd) (call (.ref 260) [.int n t, .int d u]) Q E s := by
  refine wpAny_call ?_
  refine' enter_def (binds := [("n", .int n t), ("d", .int d u)]) s.heap [] X T Rm (fun _ _ e => e) (Nat.le_refl _) (fun _ hq => nomatch hq) ?k6 ?k7 ?k9 ?kB ?_ ?c2 ?c3 ?c4 ?c5
  (case k6 => k_dflt k_is)
  (case k7 => k_dflt k_is)
  (case k9 => k_dflt exact BindsTo.of_eq rfl)
  (case kB => k_dflt exact locs rfl)
  (case c2 => k_dflt exact rfl)
  (case c3 => k_dflt exact rfl)
  (case c4 => k_dflt exact rfl)
  (case c5 => k_dflt decide)
  intro L h₁ Rm' F N k₁ hL
  (try dsimp only)
  (try k_fold)
  have hg := gcd_abs_ne (n := n) hd0
  have hg2 := gcd_abs_lt (n := n) hd0 hd1
  have hi : 0 ≤ (if n < 0 then -n else n) := by rw [abs_is]; lia
  have hi2 : 0 ≤ d := by lia
  k_with "state" => first | exact ⟨hi, hi2, rfl⟩ | exact plain_turn (by assumption) (by assumption) (by assumption) (by assumption)
  k_with "measure" => exact gcd_less (by lia)
  k_with "exec While Compare cons nil" => k_while (fun (_ : List Int) (a' b' : Int) => 0 ≤ a' ∧ 0 ≤ b' ∧ Int.gcd a' b' = Int.gcd (if n < 0 then -n else n) d) (fun (_ : List Int) (_ b' : Int) => b'.toNat) "a" "b"
  k_steps
  k_with_none
  have e := gcd_done (G := Int.gcd (if n < 0 then -n else n) d) (by assumption) (by assumption) (by assumption) (by lia)
  subst e
  k_steps
  all_goals walk_at "MINE end"
  simp only [qn_is, qd_is] at *
  exact h _ _ _ _ _ (Fr.keep (by assumption)) (News.fresh (by assumption) (.head _)) (News.get (by assumption) (.head _))
end
--REG
set_option hygiene false in
local macro_rules | `(tactic| walk_at "call ref") => `(tactic| k_call_by "MN" 260 (plain_spec _ _ _ _ _ _))
--END

section
variable {w : World} {dp un : Nat} {fr : Option (List Env)} {gd : Option (List Code)} {s : Shared} {p : Program} {loose : List Str} {mean : ExcName → Option Value} {mg mb : Str → Option Value} {Q : Value → Shared → Prop} {E : Value → Shared → Prop}
theorem in_hide {K : Frag} {g h : Heap} {c : Addr} (X : K.In g) (st : g.StaysIn h) (hc : g.get? c = none) : K.In (h.hide c) := fun a o e => by
  have h1 := X a o e
  exact (Heap.hide_ne h (fun q : a = c => by rw [q, hc] at h1; cases h1)).trans (st a o h1)
theorem stays_hide {g h : Heap} {c : Addr} (st : g.StaysIn h) (hc : g.get? c = none) : g.StaysIn (h.hide c) := fun a o e =>
  (Heap.hide_ne h (fun q : a = c => by rw [q, hc] at e; cases e)).trans (st a o e)
theorem pop0 {h₀ : Heap} {A : Around} {L D : Addr} {m : Str → Option Value} {news news' : List (Addr × Obj)} {v : Value} {r : List Value} {n : Nat} {u : Tok} (F : Fr h₀ L s.heap m) (N : News h₀ L s.heap news) (U : Upd D (listOf (v :: r).toArray n) (listOf r.toArray (n + 1)) news news')
    (hz : r.length < 1000) (h : ∀ h', Fr h₀ L h' m → News h₀ L h' news' → Q v { s with heap := h' }) : wpAny (MM w) A (call (.builtin "list.pop") [.ref D, .int 0 u]) Q E s :=
  kl_popAt (k := 0) (p := []) (q := r) (y := v) F N (by decide) (by simp [seqIndex?]) rfl U (by simp only [List.length_cons]; unfold sizeLine; lia) h
end
--REG
set_option hygiene false in
local macro_rules | `(tactic| walk_at "call builtin:list.pop") => `(tactic| k_call_by "MU" (call _ _ _) (pop0 _ _ _ _ _))
--END
section
variable {w : World} {dp un : Nat} {fr : Option (List Env)} {gd : Option (List Code)} {s : Shared} {p : Program} {loose : List Str} {mean : ExcName → Option Value} {mg mb : Str → Option Value} {Q : Value → Shared → Prop} {E : Value → Shared → Prop}
/-- the number that a tick gives -/
def tickv (ns : List Int) (most : Int) : Int := Int.fmod (ns.headD 0) most
theorem tick_spec {g : Heap} {c : Addr} {vs : List Value} {ns : List Int} {nn : Nat} {most : Int} {u : Tok} (X : (hd.heap_1 w.params).In g) (T : Top p loose mean mg mb g) (st : g.StaysIn s.heap) (hgc : g.get? c = none) (Rm : Room (Ar dp un fr gd) 3)
   (hc : s.heap.get? c = some (listOf vs.toArray nn)) (hi : IntsAre vs ns) (hl : ns.length < 100) (hm : 0 < most)
   (h : ∀ h' tk t n', (∀ b o, b ≠ c → s.heap.get? b = some o → h'.get? b = some o) → h'.get? c = some (listOf vs.tail.toArray n') → Q (.int (tickv ns most) t) { s with heap := h', toks := tk }) :
   wpAny (MM w) (Ar dp un fr gd) (call (.ref 253) [.ref c, .int most u]) Q E s := by
  refine wpAny_call ?_
  refine' enter_def (binds := [("clock", .ref c), ("most", .int most u)]) (s.heap.hide c) [(c, listOf vs.toArray nn)] (in_hide X st hgc) (T.keeps (stays_hide st hgc)) Rm (fun _ _ e => Heap.of_hide e) (Nat.le_of_eq (Heap.hide_size _ _)) (fun q hq => by rw [List.mem_singleton.mp hq]; exact ⟨hc, Heap.hide_self _ _⟩) ?k6 ?k7 ?k9 ?kB ?_ ?c2 ?c3 ?c4 ?c5
  (case k6 => k_dflt k_is)
  (case k7 => k_dflt k_is)
  (case k9 => k_dflt exact BindsTo.of_eq rfl)
  (case kB => k_dflt exact locs rfl)
  (case c2 => k_dflt exact rfl)
  (case c3 => k_dflt exact rfl)
  (case c4 => k_dflt exact rfl)
  (case c5 => k_dflt decide)
  intro L h₁ Rm' F N k₁ hL
  (try dsimp only)
  (try k_fold)
  have hIn : (hd.heap_1 w.params).In (s.heap.hide c) := in_hide X st hgc
  have hTop : Top p loose mean mg mb (s.heap.hide c) := T.keeps (stays_hide st hgc)
  have keep : ∀ {L : Addr} {h' : Heap} {m : Str → Option Value}, Fr (s.heap.hide c) L h' m → ∀ b o, b ≠ c → s.heap.get? b = some o → h'.get? b = some o := fun F b o hb e => F.keep b o ((Heap.hide_ne _ hb).trans e)
  have hlen := hi.length
  cases hi with
  | nil =>
    k_steps
    all_goals walk_at "MINE end"
    exact h _ _ _ _ (keep (by assumption)) (News.get (by assumption) (.tail _ (.head _)))
  | cons =>
    simp only [List.length_cons] at hl hlen
    k_steps
    all_goals walk_at "MINE end"
    exact h _ _ _ _ (keep (by assumption)) (News.get (by assumption) (.tail _ (.head _)))
end
section
variable {w : World} {dp un : Nat} {fr : Option (List Env)} {gd : Option (List Code)} {s : Shared} {p : Program} {loose : List Str} {mean : ExcName → Option Value} {mg mb : Str → Option Value} {Q : Value → Shared → Prop} {E : Value → Shared → Prop}
theorem tick_call {h₀ : Heap} {L c : Addr} {m : Str → Option Value} {news : List (Addr × Obj)} {news' : List Value → Nat → List (Addr × Obj)} {vs : List Value} {ns : List Int} {nn : Nat} {most : Int} {u : Tok}
   (F : Fr h₀ L s.heap m) (N : News h₀ L s.heap news) (X : (hd.heap_1 w.params).In h₀) (T : Top p loose mean mg mb h₀) (Rm : Room (Ar dp un fr gd) 3)
   (U : ∀ vs' n', Upd c (listOf vs.toArray nn) (listOf vs'.toArray n') news (news' vs' n')) (hi : IntsAre vs ns) (hl : ns.length < 100) (hm : 0 < most)
   (h : ∀ h' tk t vs' n', IntsAre vs' ns.tail → ns.tail.length < 100 → Fr h₀ L h' m → News h₀ L h' (news' vs' n') → Q (.int (tickv ns most) t) { s with heap := h', toks := tk }) :
   wpAny (MM w) (Ar dp un fr gd) (call (.ref 253) [.ref c, .int most u]) Q E s := by
  refine goal_var fun G9 hG9 => ?_
  obtain ⟨pre, post, e1, e2, a, b⟩ := (U vs.tail 0).split
  refine hG9 ?_
  clear hG9 G9
  have Nc := N (c, listOf vs.toArray nn) (by rw [e1]; simp)
  refine tick_spec X T F.keep Nc.2.2 Rm Nc.1 hi hl hm fun h' tk t n' hk hc => ?_
  have F' : Fr h₀ L h' m := by
    obtain ⟨oL, es, ep, hL, r⟩ := F.ns
    exact ⟨⟨oL, es, ep, hk _ _ (Ne.symm Nc.2.1) hL, r⟩, fun b o e => hk b o (fun q => by rw [q, Nc.2.2] at e; cases e) (F.keep b o e), F.above⟩
  refine h h' tk t vs.tail n' ?_ ?_ F' ?_
  · cases hi with
    | nil => exact .nil
    | cons => assumption
  · rw [List.length_tail]; omega
  · refine goal_var fun G9 hG9 => ?_
    obtain ⟨pre', post', e3, e4, a', b'⟩ := (U vs.tail n').split
    refine hG9 ?_
    clear hG9 G9
    rw [e4]
    intro q hq
    rcases List.mem_append.mp hq with hq | hq
    · have := N q (by rw [e3]; exact List.mem_append_left _ hq)
      exact ⟨hk _ _ (a' q hq) this.1, this.2⟩
    · rcases List.mem_cons.mp hq with rfl | hq
      · exact ⟨hc, Nc.2⟩
      · have := N q (by rw [e3]; exact List.mem_append_right _ (.tail _ hq))
        exact ⟨hk _ _ (b' q hq) this.1, this.2⟩
end
--REG
set_option hygiene false in
local macro_rules | `(tactic| walk_at "call ref") => `(tactic| k_call_by "MU" (call (Value.ref 253) _ _) (tick_call _ _ _ _ _ _ _ _ _ _))
--END

/-- an item of a list handed: None, a whole number, a pair -/
inductive En where
  | no
  | i (k : Int)
  | q (n d : Int)
  deriving DecidableEq
def enP : En → PyData
  | .no => .none
  | .i k => .int k
  | .q n d => .tuple [.int n, .int d]
inductive Kd where
  | lo
  | it
  | db
  deriving DecidableEq
def kS : Kd → Str
  | .lo => "logical"
  | .it => "integer"
  | .db => "double"
/-- a value made since h that shows e -/
def NewEn (h h' : Heap) (v : Value) : En → Prop
  | .no => v = .none
  | .i k => ∃ t, v = .int k t
  | .q n d => ∃ a t u, v = .ref a ∧ h.get? a = none ∧ h'.get? a = some (tupO [.int n t, .int d u])
/-- the entry that the clock gives, and the clock behind it -/
def entryv : Kd → List Int → En × List Int
  | .lo, ns => if tickv ns 9 = 8 then (.no, ns.tail) else (.i (tickv ns.tail 2), ns.tail.tail)
  | .it, ns => if tickv ns 9 = 8 then (.no, ns.tail) else (.i (tickv ns.tail 30 - 11), ns.tail.tail)
  | .db, ns => if tickv ns 9 = 8 then (if tickv ns.tail 2 = 0 then (.no, ns.tail.tail) else (.q 0 0, ns.tail.tail))
      else (.q (qn (tickv ns.tail 50 - 20) (1 + tickv ns.tail.tail 6)) (qd (tickv ns.tail 50 - 20) (1 + tickv ns.tail.tail 6)), ns.tail.tail.tail)
theorem en_lo1 {ns : List Int} (h : tickv ns 9 = 8) : entryv .lo ns = (.no, ns.tail) := if_pos h
theorem en_lo2 {ns : List Int} (h : ¬ tickv ns 9 = 8) : entryv .lo ns = (.i (tickv ns.tail 2), ns.tail.tail) := if_neg h
theorem en_it1 {ns : List Int} (h : tickv ns 9 = 8) : entryv .it ns = (.no, ns.tail) := if_pos h
theorem en_it2 {ns : List Int} (h : ¬ tickv ns 9 = 8) : entryv .it ns = (.i (tickv ns.tail 30 - 11), ns.tail.tail) := if_neg h
theorem en_db1 {ns : List Int} (h : tickv ns 9 = 8) (h2 : tickv ns.tail 2 = 0) : entryv .db ns = (.no, ns.tail.tail) := (if_pos h).trans (if_pos h2)
theorem en_db2 {ns : List Int} (h : tickv ns 9 = 8) (h2 : ¬ tickv ns.tail 2 = 0) : entryv .db ns = (.q 0 0, ns.tail.tail) := (if_pos h).trans (if_neg h2)
theorem en_db3 {ns : List Int} (h : ¬ tickv ns 9 = 8) : entryv .db ns = (.q (qn (tickv ns.tail 50 - 20) (1 + tickv ns.tail.tail 6)) (qd (tickv ns.tail 50 - 20) (1 + tickv ns.tail.tail 6)), ns.tail.tail.tail) := if_neg h
theorem new_hide {h h' : Heap} {q c : Addr} {vs ws : List Value} {n : Nat} (h1 : (h.hide c).get? q = none) (hq : h'.get? q = some (tupO vs)) (hc : h'.get? c = some (listOf ws.toArray n)) : h.get? q = none := by
  rw [Heap.hide_ne h (fun e : q = c => by rw [e, hc] at hq; exact absurd (congrArg Obj.cls (Option.some.inj hq)) (show Value.type "list" ≠ Value.type "tuple" by decide))] at h1
  exact h1
theorem tickv_bd (ns : List Int) {m : Int} (h : 0 < m) : 0 ≤ tickv ns m ∧ tickv ns m < m := by
  unfold tickv
  rw [Int.fmod_eq_emod_of_nonneg _ (by lia)]
  exact ⟨Int.emod_nonneg _ (by lia), Int.emod_lt_of_pos _ h⟩
section
variable {w : World} {dp un : Nat} {fr : Option (List Env)} {gd : Option (List Code)} {s : Shared} {p : Program} {loose : List Str} {mean : ExcName → Option Value} {mg mb : Str → Option Value} {Q : Value → Shared → Prop} {E : Value → Shared → Prop}
theorem entry_spec {g : Heap} {c : Addr} {vs : List Value} {ns : List Int} {nn : Nat} {kd : Kd} {u : Tok} (X : (hd.heap_1 w.params).In g) (T : Top p loose mean mg mb g) (st : g.StaysIn s.heap) (hgc : g.get? c = none) (Rm : Room (Ar dp un fr gd) 6)
   (hc : s.heap.get? c = some (listOf vs.toArray nn)) (hi : IntsAre vs ns) (hl : ns.length < 100)
   (h : ∀ h' tk v vs' n', (∀ b o, b ≠ c → s.heap.get? b = some o → h'.get? b = some o) → IntsAre vs' (entryv kd ns).2 → (entryv kd ns).2.length < 100 → h'.get? c = some (listOf vs'.toArray n') → NewEn s.heap h' v (entryv kd ns).1 → Q v { s with heap := h', toks := tk }) :
   wpAny (MM w) (Ar dp un fr gd) (call (.ref 267) [.ref c, .str (kS kd) u]) Q E s := by
  refine wpAny_call ?_
  refine' enter_def (binds := [("clock", .ref c), ("kind", .str (kS kd) u)]) (s.heap.hide c) [(c, listOf vs.toArray nn)] (in_hide X st hgc) (T.keeps (stays_hide st hgc)) Rm (fun _ _ e => Heap.of_hide e) (Nat.le_of_eq (Heap.hide_size _ _)) (fun q hq => by rw [List.mem_singleton.mp hq]; exact ⟨hc, Heap.hide_self _ _⟩) ?k6 ?k7 ?k9 ?kB ?_ ?c2 ?c3 ?c4 ?c5
  (case k6 => k_dflt k_is)
  (case k7 => k_dflt k_is)
  (case k9 => k_dflt exact BindsTo.of_eq rfl)
  (case kB => k_dflt exact locs rfl)
  (case c2 => k_dflt exact rfl)
  (case c3 => k_dflt exact rfl)
  (case c4 => k_dflt exact rfl)
  (case c5 => k_dflt decide)
  intro L h₁ Rm' F N k₁ hL
  (try dsimp only)
  (try k_fold)
  have hIn : (hd.heap_1 w.params).In (s.heap.hide c) := in_hide X st hgc
  have hTop : Top p loose mean mg mb (s.heap.hide c) := T.keeps (stays_hide st hgc)
  have keep : ∀ {L : Addr} {h' : Heap} {m : Str → Option Value}, Fr (s.heap.hide c) L h' m → ∀ b o, b ≠ c → s.heap.get? b = some o → h'.get? b = some o := fun F b o hb e => F.keep b o ((Heap.hide_ne _ hb).trans e)
  have b6 := tickv_bd ns.tail.tail (m := 6) (by decide)
  cases kd with
  | lo =>
    simp only [kS] at *
    k_steps
    all_goals walk_at "MINE end"
    · rw [en_lo1 (by assumption)] at h
      exact h _ _ _ _ _ (keep (by assumption)) (by assumption) (by assumption) (News.get (by assumption) (by k_mem)) rfl
    · rw [en_lo2 (by assumption)] at h
      exact h _ _ _ _ _ (keep (by assumption)) (by assumption) (by assumption) (News.get (by assumption) (by k_mem)) ⟨_, rfl⟩
  | it =>
    simp only [kS] at *
    k_steps
    all_goals walk_at "MINE end"
    · rw [en_it1 (by assumption)] at h
      exact h _ _ _ _ _ (keep (by assumption)) (by assumption) (by assumption) (News.get (by assumption) (by k_mem)) rfl
    · rw [en_it2 (by assumption)] at h
      exact h _ _ _ _ _ (keep (by assumption)) (by assumption) (by assumption) (News.get (by assumption) (by k_mem)) ⟨_, rfl⟩
  | db =>
    simp only [kS] at *
    k_steps
    all_goals walk_at "MINE end"
    · rw [en_db1 (by assumption) (by lia)] at h
      exact h _ _ _ _ _ (keep (by assumption)) (by assumption) (by assumption) (News.get (by assumption) (by k_mem)) rfl
    · rw [en_db2 (by assumption) (by lia)] at h
      exact h _ _ _ _ _ (keep (by assumption)) (by assumption) (by assumption) (News.get (by assumption) (by k_mem)) ⟨_, _, _, rfl, new_hide (News.fresh (by assumption) (by k_mem)) (News.get (by assumption) (by k_mem)) (News.get (by assumption) (by k_mem)), News.get (by assumption) (by k_mem)⟩
    · rw [en_db3 (by assumption)] at h
      exact h _ _ _ _ _ (keep (by assumption)) (by assumption) (by assumption) (News.get (by assumption) (by k_mem)) ⟨_, _, _, rfl, new_hide (News.fresh (by assumption) (by k_mem)) (News.get (by assumption) (by k_mem)) (News.get (by assumption) (by k_mem)), News.get (by assumption) (by k_mem)⟩
end

section sortpure
/-- the tree of questions answered by lt; every question asks places below n -/
def kasTo {α : Type} (lt : Nat → Nat → Bool) (n : Nat) : KasT α → (α → Prop) → Prop
  | .ret a, Q => Q a
  | .ask i j k, Q => i < n ∧ j < n ∧ kasTo lt n (k (lt i j)) Q
theorem kasTo_bind {α β : Type} {lt : Nat → Nat → Bool} {n : Nat} {f : α → KasT β} {Q : β → Prop} : ∀ {t : KasT α}, kasTo lt n t (fun a => kasTo lt n (f a) Q) → kasTo lt n (t.bind f) Q
  | .ret _, h => h
  | .ask i j k, h => ⟨h.1, h.2.1, kasTo_bind (t := k (lt i j)) h.2.2⟩
theorem kasTo_mono {α : Type} {lt : Nat → Nat → Bool} {n : Nat} {Q Q' : α → Prop} (hq : ∀ a, Q a → Q' a) : ∀ {t : KasT α}, kasTo lt n t Q → kasTo lt n t Q'
  | .ret _, h => hq _ h
  | .ask i j k, h => ⟨h.1, h.2.1, kasTo_mono hq (t := k (lt i j)) h.2.2⟩
/-- from the pure answers to the walk's questions: I holds between the questions -/
theorem kasTo_wp {α : Type} {lt : Nat → Nat → Bool} {n : Nat} {cmp : Nat → Nat → (Bool → Shared → Prop) → Shared → Prop} (I : Shared → Prop)
    (hc : ∀ i j C s, i < n → j < n → I s → (∀ s', I s' → C (lt i j) s') → cmp i j C s) {Q : α → Shared → Prop} {P : α → Prop} (hq : ∀ a s, P a → I s → Q a s) :
    ∀ {t : KasT α} {s : Shared}, kasTo lt n t P → I s → t.kasWp cmp Q s
  | .ret a, s, h, hI => hq a s h hI
  | .ask i j k, s, h, hI => hc i j _ s h.1 h.2.1 hI fun s' hI' => kasTo_wp I hc hq (t := k (lt i j)) h.2.2 hI'

variable {x : Nat → Int} {N : Nat}
def Kx (x : Nat → Int) (p : Array Nat) (i : Nat) : Int := x (p.getD i 0)
def ltx (x : Nat → Int) (i j : Nat) : Bool := decide (x i < x j)
structure PermN (N : Nat) (p : Array Nat) : Prop where
  size : p.size = N
  perm : p.toList.Perm (List.range N)
theorem PermN.lt {p : Array Nat} (h : PermN N p) {i : Nat} (hi : i < N) : p.getD i 0 < N := by
  have h1 : i < p.size := by rw [h.size]; exact hi
  have e : p.getD i 0 = p[i] := by simp [Array.getD, h1]
  have hm : p[i] ∈ p.toList := by simp
  have := h.perm.mem_iff.mp hm
  rw [e]; simpa using this
theorem Kx_congr {p q : Array Nat} {i j : Nat} (h : p[i]? = q[j]?) : Kx x p i = Kx x q j := by
  unfold Kx; rw [Array.getD_eq_getD_getElem?, Array.getD_eq_getD_getElem?, h]
theorem PermN.rev {p : Array Nat} (h : PermN N p) (i j : Nat) : PermN N (kas_rev p i j) :=
  ⟨by unfold kas_rev; rw [mirror_size]; exact h.size, (Array.perm_iff_toList_perm.mp (mirror_perm p i j _)).trans h.perm⟩
theorem Kx_rev {p : Array Nat} (h : PermN N p) {i j : Nat} (hj : j ≤ N) (k : Nat) : Kx x (kas_rev p i j) k = if i ≤ k ∧ k < j then Kx x p (i + j - 1 - k) else Kx x p k := by
  have e := getElem?_mirror_all (xs := p) (i := i) (j := j) (by rw [h.size]; exact hj) k
  by_cases hc : i ≤ k ∧ k < j
  · rw [if_pos hc] at e ⊢; exact Kx_congr e
  · rw [if_neg hc] at e ⊢; exact Kx_congr e
theorem PermN.bub {p : Array Nat} (h : PermN N p) (s d : Nat) : PermN N (bubble p s d) :=
  ⟨by rw [bubble_size]; exact h.size, (Array.perm_iff_toList_perm.mp (bubble_perm p s d)).trans h.perm⟩
theorem Kx_bub {p : Array Nat} (h : PermN N p) {s d : Nat} (hs : s < N) (hd : d ≤ s) (k : Nat) :
    Kx x (bubble p s d) k = if k = s - d then Kx x p s else if s - d < k ∧ k ≤ s then Kx x p (k - 1) else Kx x p k := by
  have e := getElem?_bubble (xs := p) (src := s) (by rw [h.size]; exact hs) d hd k
  by_cases h1 : k = s - d
  · rw [if_pos h1] at e ⊢; exact Kx_congr e
  · rw [if_neg h1] at e ⊢
    by_cases h2 : s - d < k ∧ k ≤ s
    · rw [if_pos h2] at e ⊢; exact Kx_congr e
    · rw [if_neg h2] at e ⊢; exact Kx_congr e
def Asc (x : Nat → Int) (p : Array Nat) (n : Nat) : Prop := ∀ i j, i ≤ j → j < n → Kx x p i ≤ Kx x p j
def Dsc (x : Nat → Int) (p : Array Nat) (n : Nat) : Prop := ∀ i j, i ≤ j → j < n → Kx x p j ≤ Kx x p i
theorem Asc.snoc {p : Array Nat} {n : Nat} (h : Asc x p n) (h1 : 1 ≤ n) (h2 : Kx x p (n - 1) ≤ Kx x p n) : Asc x p (n + 1) := fun i j hij hj => by
  by_cases e : j = n
  · subst e
    by_cases e2 : i = j
    · subst e2; exact Int.le_refl _
    · exact Int.le_trans (h i (j - 1) (by lia) (by lia)) h2
  · exact h i j hij (by lia)
theorem Dsc.snoc {p : Array Nat} {n : Nat} (h : Dsc x p n) (h1 : 1 ≤ n) (h2 : Kx x p n ≤ Kx x p (n - 1)) : Dsc x p (n + 1) := fun i j hij hj => by
  by_cases e : j = n
  · subst e
    by_cases e2 : i = j
    · subst e2; exact Int.le_refl _
    · exact Int.le_trans h2 (h i (j - 1) (by lia) (by lia))
  · exact h i j hij (by lia)
theorem asc_ok {p : Array Nat} (hp : PermN N p) {Q : Nat → Prop} : ∀ (f n : Nat), 1 ≤ n → n + f ≤ N → Asc x p n →
    (∀ m, n ≤ m → m ≤ n + f → Asc x p m → (m < n + f → Kx x p m < Kx x p (m - 1)) → Q m) → kasTo (ltx x) N (kas_asc p f n) Q
  | 0, n, h1, hn, ha, hq => hq n (Nat.le_refl _) (Nat.le_refl _) ha (fun h => absurd h (Nat.lt_irrefl _))
  | f + 1, n, h1, hn, ha, hq => by
    refine ⟨hp.lt (by lia), hp.lt (by lia), ?_⟩
    by_cases hc : Kx x p n < Kx x p (n - 1)
    · have e : ltx x (p.getD n 0) (p.getD (n - 1) 0) = true := decide_eq_true hc
      simp only [e, eq_self, if_true]
      exact hq n (Nat.le_refl _) (by lia) ha fun _ => hc
    · have e : ltx x (p.getD n 0) (p.getD (n - 1) 0) = false := decide_eq_false hc
      simp only [e, Bool.false_eq_true, if_false]
      exact asc_ok hp f (n + 1) (by lia) (by lia) (ha.snoc h1 (by lia)) fun m a b c d => hq m (by lia) (by lia) c fun h => d (by lia)
/-- the last q + 1 of n are alike -/
def Eqs (x : Nat → Int) (p : Array Nat) (n q : Nat) : Prop := ∀ i, n - (q + 1) ≤ i → i < n → Kx x p i = Kx x p (n - 1)
theorem rev_eqs {p : Array Nat} (hp : PermN N p) {n q : Nat} (hn : n ≤ N) (hq : q < n) (h : Eqs x p n q) (k : Nat) : Kx x (kas_rev p (n - (q + 1)) n) k = Kx x p k := by
  rw [Kx_rev hp hn]
  by_cases hc : n - (q + 1) ≤ k ∧ k < n
  · rw [if_pos hc, h _ (by omega) (by omega), h k hc.1 hc.2]
  · rw [if_neg hc]
theorem desc_ok {Q : Array Nat × Nat × Nat → Prop} : ∀ (f : Nat) (p : Array Nat) (n q : Nat), PermN N p → 1 ≤ n → n + f ≤ N → q < n → Dsc x p n → Eqs x p n q →
    (∀ p' n' q', PermN N p' → n ≤ n' → n' ≤ n + f → q' < n' → Dsc x p' n' → Eqs x p' n' q' → Q (p', n', q')) → kasTo (ltx x) N (kas_desc f p n q) Q
  | 0, p, n, q, hp, h1, hn, hq, hd, he, k => k p n q hp (Nat.le_refl _) (Nat.le_refl _) hq hd he
  | f + 1, p, n, q, hp, h1, hn, hq, hd, he, k => by
    refine ⟨hp.lt (by lia), hp.lt (by lia), ?_⟩
    by_cases hc : Kx x p n < Kx x p (n - 1)
    · have e : ltx x (p.getD n 0) (p.getD (n - 1) 0) = true := decide_eq_true hc
      simp only [e, eq_self, if_true]
      by_cases h0 : q > 0
      · rw [if_pos h0]
        have r := rev_eqs hp (by lia) hq he
        refine desc_ok f _ (n + 1) 0 (hp.rev _ _) (by lia) (by lia) (by lia) ?_ ?_ fun p' n' q' a b c => k p' n' q' a (by lia) (by lia)
        · refine Dsc.snoc (fun i j a b => by rw [r, r]; exact hd i j a b) h1 (by rw [r, r]; lia)
        · intro i a b; rw [show i = n by lia]; rfl
      · rw [if_neg h0]
        refine desc_ok f _ (n + 1) 0 hp (by lia) (by lia) (by lia) (hd.snoc h1 (by lia)) ?_ fun p' n' q' a b c => k p' n' q' a (by lia) (by lia)
        intro i a b; rw [show i = n by lia]; rfl
    · have e : ltx x (p.getD n 0) (p.getD (n - 1) 0) = false := decide_eq_false hc
      simp only [e, Bool.false_eq_true, if_false]
      refine ⟨hp.lt (by lia), hp.lt (by lia), ?_⟩
      by_cases hc2 : Kx x p (n - 1) < Kx x p n
      · have e : ltx x (p.getD (n - 1) 0) (p.getD n 0) = true := decide_eq_true hc2
        simp only [e, eq_self, if_true]
        exact k p n q hp (Nat.le_refl _) (by lia) hq hd he
      · have e : ltx x (p.getD (n - 1) 0) (p.getD n 0) = false := decide_eq_false hc2
        simp only [e, Bool.false_eq_true, if_false]
        refine desc_ok f p (n + 1) (q + 1) hp (by lia) (by lia) (by lia) (hd.snoc h1 (by lia)) ?_ fun p' n' q' a b c => k p' n' q' a (by lia) (by lia)
        intro i a b
        by_cases hi : i = n
        · subst hi; rfl
        · rw [he i (by lia) (by lia), show n + 1 - 1 = n by lia]; lia
theorem tail3_ok {p : Array Nat} {n nrem : Nat} {Q : Nat × Array Nat → Prop} (hp : PermN N p) (h1 : 1 ≤ n) (hn : n ≤ nrem) (hr : nrem ≤ N) (hd : Dsc x p n)
    (k : ∀ m p', PermN N p' → 1 ≤ m → m ≤ nrem → Asc x p' m → Q (m, p')) : kasTo (ltx x) N (kas_tail3 n nrem p) Q := by
  have ha : Asc x (kas_rev p 0 n) n := fun i j hij hj => by
    rw [Kx_rev hp (by omega), Kx_rev hp (by omega), if_pos (by omega), if_pos (by omega)]
    exact hd _ _ (by omega) (by omega)
  exact kasTo_bind (asc_ok (hp.rev 0 n) _ _ h1 (by omega) ha fun m a b c _ => k m _ (hp.rev 0 n) (by omega) (by omega) c)
theorem descPart_ok {p : Array Nat} {n nrem : Nat} {Q : Nat × Array Nat → Prop} (hp : PermN N p) (hn : n + 1 ≤ nrem) (hr : nrem ≤ N) (hd : Dsc x p (n + 1))
    (k : ∀ m p', PermN N p' → 1 ≤ m → m ≤ nrem → Asc x p' m → Q (m, p')) : kasTo (ltx x) N (kas_descPart n nrem p) Q := by
  refine kasTo_bind (desc_ok _ p (n + 1) 0 hp (by lia) (by lia) (by lia) hd (fun i a b => by rw [show i = n by lia]; rfl) fun p' n' q' a b c d e f => ?_)
  dsimp only
  by_cases h0 : q' > 0
  · rw [if_pos h0]
    have r := rev_eqs a (by lia) d f
    exact tail3_ok (a.rev _ _) (by lia) (by lia) hr (fun i j x y => by rw [r, r]; exact e i j x y) k
  · rw [if_neg h0]
    exact tail3_ok a (by lia) (by lia) hr e k
theorem count_ok {p : Array Nat} {nrem : Nat} {Q : Nat × Array Nat → Prop} (hp : PermN N p) (h1 : 1 ≤ nrem) (hr : nrem ≤ N)
    (k : ∀ m p', PermN N p' → 1 ≤ m → m ≤ nrem → Asc x p' m → Q (m, p')) : kasTo (ltx x) N (kas_count nrem p) Q := by
  refine kasTo_bind (asc_ok hp _ _ (Nat.le_refl _) (by lia) (fun i j a b => by rw [show i = j by lia]; exact Int.le_refl _) fun n a b c d => ?_)
  by_cases e : n = nrem
  · rw [if_pos (by simpa using e)]
    exact k n p hp (by lia) (by lia) c
  · rw [if_neg (by simpa using e)]
    have hlt := d (by lia)
    by_cases h2 : n > 1
    · rw [if_pos h2]
      refine ⟨hp.lt (by lia), hp.lt (by lia), ?_⟩
      by_cases hc : Kx x p 0 < Kx x p (n - 1)
      · have e : ltx x (p.getD 0 0) (p.getD (n - 1) 0) = true := decide_eq_true hc
        simp only [e, eq_self, if_true]
        exact k n p hp (by lia) (by lia) c
      · have e : ltx x (p.getD 0 0) (p.getD (n - 1) 0) = false := decide_eq_false hc
        simp only [e, Bool.false_eq_true, if_false]
        have all : ∀ i, i < n → Kx x p i = Kx x p (n - 1) := fun i hi => by
          have q1 := c 0 i (by lia) hi
          have q2 := c i (n - 1) (by lia) (by lia)
          lia
        refine descPart_ok (hp.rev 0 n) (by lia) hr (Dsc.snoc (fun i j y z => ?_) (by lia) ?_) k
        · rw [Kx_rev hp (by lia), Kx_rev hp (by lia), if_pos (by lia), if_pos (by lia), all _ (by lia), all (0 + n - 1 - i) (by lia)]; exact Int.le_refl _
        · rw [Kx_rev hp (by lia), Kx_rev hp (by lia), if_neg (by lia), if_pos (by lia), all (0 + n - 1 - (n - 1)) (by lia)]; lia
    · rw [if_neg h2]
      refine descPart_ok hp (by lia) hr (Dsc.snoc (fun i j y z => by rw [show i = j by lia]; exact Int.le_refl _) (by lia) (by lia)) k
theorem place_ok {p : Array Nat} (hp : PermN N p) {k : Nat} (hk : k < N) (ha : Asc x p k) {Q : Nat → Prop} : ∀ (f l r : Nat), l ≤ r → r ≤ k → r - l ≤ f → (∀ i, i < l → Kx x p i ≤ Kx x p k) → (∀ i, r ≤ i → i < k → Kx x p k < Kx x p i) →
    (∀ l, l ≤ k → (∀ i, i < l → Kx x p i ≤ Kx x p k) → (∀ i, l ≤ i → i < k → Kx x p k < Kx x p i) → Q l) → kasTo (ltx x) N (kas_place p k f l r) Q
  | 0, l, r, h1, h2, h3, h4, h5, q => q l (by lia) h4 (fun i a b => h5 i (by lia) b)
  | f + 1, l, r, h1, h2, h3, h4, h5, q => by
    unfold kas_place
    by_cases hlr : l ≥ r
    · rw [if_pos hlr]
      exact q l (by lia) h4 (fun i a b => h5 i (by lia) b)
    · rw [if_neg hlr]
      refine ⟨hp.lt hk, hp.lt (by lia), ?_⟩
      by_cases hc : Kx x p k < Kx x p ((l + r) / 2)
      · have e : ltx x (p.getD k 0) (p.getD ((l + r) / 2) 0) = true := decide_eq_true hc
        simp only [e, eq_self, if_true]
        exact place_ok hp hk ha f l ((l + r) / 2) (by lia) (by lia) (by lia) h4 (fun i a b => Int.lt_of_lt_of_le hc (ha _ i a b)) q
      · have e : ltx x (p.getD k 0) (p.getD ((l + r) / 2) 0) = false := decide_eq_false hc
        simp only [e, Bool.false_eq_true, if_false]
        exact place_ok hp hk ha f ((l + r) / 2 + 1) r (by lia) (by lia) (by lia) (fun i a => Int.le_trans (ha i ((l + r) / 2) (by lia) (by lia)) (by lia)) h5 q
theorem bin_ok {Q : Array Nat → Prop} : ∀ (f : Nat) (p : Array Nat) (k : Nat), PermN N p → k + f = N → Asc x p k → (∀ p', PermN N p' → Asc x p' N → Q p') → kasTo (ltx x) N (kas_bin f p k) Q
  | 0, p, k, hp, hk, ha, q => q p hp (by rw [← hk]; exact ha)
  | f + 1, p, k, hp, hk, ha, q => by
    refine kasTo_bind (place_ok hp (by lia) ha k 0 k (by lia) (by lia) (by lia) (fun i hi => absurd hi (by lia)) (fun i a b => absurd b (by lia)) fun l hl h1 h2 => ?_)
    refine bin_ok f _ (k + 1) (hp.bub k (k - l)) (by lia) (fun i j hij hj => ?_) q
    rw [Kx_bub hp (by lia) (by lia), Kx_bub hp (by lia) (by lia), show k - (k - l) = l by lia]
    by_cases i1 : i = l
    · rw [if_pos i1]
      by_cases j1 : j = l
      · rw [if_pos j1]; exact Int.le_refl _
      · rw [if_neg j1, if_pos (by lia)]; exact Int.le_of_lt (h2 _ (by lia) (by lia))
    · rw [if_neg i1]
      by_cases i2 : l < i ∧ i ≤ k
      · rw [if_pos i2, if_neg (by lia), if_pos (by lia)]; exact ha _ _ (by lia) (by lia)
      · rw [if_neg i2]
        by_cases j1 : j = l
        · rw [if_pos j1]; exact h1 i (by lia)
        · rw [if_neg j1]
          by_cases j2 : l < j ∧ j ≤ k
          · rw [if_pos j2]; exact ha _ _ (by lia) (by lia)
          · rw [if_neg j2]; exact ha _ _ hij (by lia)
theorem permN_range (n : Nat) : PermN n (List.toArray (List.range n)) := ⟨by simp, by simp⟩
theorem sort_ok (x : Nat → Int) (n : Nat) (h1 : 1 ≤ n) : kasTo (ltx x) n (kas_sort n) (fun p => PermN n p ∧ Asc x p n) := by
  refine kasTo_bind (count_ok (permN_range n) h1 (Nat.le_refl _) fun m p' hp hm hmn ha => ?_)
  show kasTo (ltx x) n (if m < n then _ else _) _
  by_cases h : m < n
  · rw [if_pos h, show max m 1 = m by lia]
    exact bin_ok _ p' m hp (by lia) ha fun p'' a b => ⟨a, b⟩
  · rw [if_neg h]
    exact ⟨hp, by rw [show n = m by lia]; exact ha⟩
end sortpure

section
variable {w : World} {A : Around} {s : Shared} {g : Heap} {p : Program} {loose : List Str} {mean : ExcName → Option Value} {mg mb : Str → Option Value}
  {R : Result → Shared → Prop} {name qual : Str} {params : Arguments} {body : List Stmt} {scope : Scope} {dV kV doc pm cdv ct oc : Value} {an od : Option Addr} {osl : Array (Option Value)} {f : Addr} {args : Args} {binds : List (Str × Value)}
theorem sub_none {g h : Heap} (hg : ∀ b o, g.get? b = some o → h.get? b = some o) {b : Addr} (e : h.get? b = none) : g.get? b = none := by
  cases q : g.get? b with
  | none => rfl
  | some o => rw [hg _ _ q] at e; cases e
/-- entering a def some of whose names are cells -/
theorem enter_defC {n : Nat} (g : Heap) (hs : List (Addr × Obj)) (X : (hd.heap_1 w.params).In g) (T : Top p loose mean mg mb g) (Rm : Room A (n + 1))
    (hg : ∀ b o, g.get? b = some o → s.heap.get? b = some o) (hz : g.objs.size ≤ s.heap.objs.size) (hN : ∀ q ∈ hs, s.heap.get? q.1 = some q.2 ∧ g.get? q.1 = none)
    (ho : (hd.heap_1 w.params).lookup f = some ⟨oc, od, .func (fnOf name qual params body scope dV kV doc pm an cdv ct), osl⟩) (hcd : codeIn (hd.heap_1 w.params) cdv qual = true)
    (hbind : BindsTo s (fnOf name qual params body scope dV kV doc pm an cdv ct) args binds) (hkind : (binds.all fun y => scope.names.lookup y.1 == some .local || scope.names.lookup y.1 == some .cell) = true)
    (hnd : ((cellsFrom 0 scope.names []).map (·.1)).Nodup)
    (h : ∀ L' h₁ tk cells, Room (A.deeper (envOfC qual scope L' f cdv)) n → Fr g L' h₁ (bindL (envOfC qual scope L' f cdv).kindOf binds fun _ => none) → News g L' h₁ (cells ++ hs) →
      CellsAre (bindC (envOfC qual scope L' f cdv).kindOf binds fun _ => none) (cellsFrom (L' + 1) scope.names []) cells → (∀ b o, s.heap.get? b = some o → h₁.get? b = some o) → s.heap.objs.size = L' → (∀ q ∈ hs, q.1 < L') →
      wpAny (MM w) (A.deeper (envOfC qual scope L' f cdv)) (execs body (envOfC qual scope L' f cdv))
        (fun fl s' => R (.ok (.ret (match fl with | .ret v => v | _ => .none))) s')
        (fun e s' => wpAny (MM w) (A.deeper (envOfC qual scope L' f cdv)) (leaving (envOfC qual scope L' f cdv) e) (fun _ s'' => R (.error e) s'') (fun e' s'' => R (.error e') s'') s')
        { s with heap := h₁, toks := tk })
    (hco : scope.isCoroutine = false) (hgen : scope.isGenerator = false) (hk : scope.kind = .function) : codeAny (MM w) A (.call (.ref f) args) R s := by
  refine codeAny_call_function (fd := fnOf name qual params body scope dV kV doc pm an cdv ct) Rm.room (hg _ _ (X _ _ ho)) rfl hco hgen rfl ((codeRec_of X hcd).keeps hg) (hbind _ _ _ _ ?_)
  refine wpAny_newFunctionEnv_cells hk (kindsX hkind _) fun env' he s' x => ?_
  subst he
  refine ⟨(T.nolimit.keeps hg).keeps x.toInCall.keep, codeAny_func ?_⟩
  refine goal_var fun G9 hG9 => ?_
  obtain ⟨h₁, tk, rfl, _⟩ := x.done
  refine hG9 ?_
  clear hG9 G9
  have hk₁ := x.toInCall.keep
  refine goal_var fun G9 hG9 => ?_
  obtain ⟨cells, NC, Y⟩ := Cl.news (h₀ := s.heap) (Nat.le_refl _) fun n c hm => ⟨x.cell n c (lookup_of_mem_nodup (cellsFrom_names scope.names 0 (s.heap.objs.size + 1) [] [] rfl ▸ hnd) hm), x.above n c hm⟩
  refine hG9 ?_
  clear hG9 G9
  refine h _ h₁ tk cells Rm.deeper ⟨x.toInCall.ns, fun b o e => hk₁ b o (hg b o e), hz⟩ (fun q hq => ?_) Y hk₁ rfl fun q hq => Heap.lt_size (hN q hq).1
  rcases List.mem_append.mp hq with hq | hq
  · exact ⟨(NC q hq).1, (NC q hq).2.1, sub_none hg (NC q hq).2.2⟩
  · exact ⟨hk₁ _ _ (hN q hq).1, Nat.ne_of_lt (Heap.lt_size (hN q hq).1), (hN q hq).2⟩
end

/-- a turn's end: the iterator I lies still beside what the turn leaves -/
def TurnTo (h₀ : Heap) (L I : Addr) (oI : Obj) (J : (Str → Option Value) → List (Addr × Obj) → Prop) (s₁ s₂ : Shared) : Prop :=
  ∃ h' tk m' nx, s₂ = { s₁ with heap := h', toks := tk } ∧ Fr h₀ L h' m' ∧ News h₀ L h' ((I, oI) :: nx) ∧ (∀ q ∈ nx, q.1 ≠ I) ∧ J m' nx
def TurnPost (h₀ : Heap) (L I : Addr) (oI : Obj) (J : (Str → Option Value) → List (Addr × Obj) → Prop) (s₁ : Shared) (Q : Flow → Shared → Prop) (f : Flow) (s₂ : Shared) : Prop :=
  match f with
  | .ret v => Q (.ret v) s₂
  | .brk => Q .next s₂
  | _ => TurnTo h₀ L I oI J s₁ s₂
def updm (x : Str) (u : Option Value) (m : Str → Option Value) : Str → Option Value := fun y => if y = x then u else m y
section
variable {w : World} {A : Around} {E : Value → Shared → Prop} {s : Shared} {env : Env} {h₀ : Heap} {x : Str} {body : List Stmt} {Q : Flow → Shared → Prop}
/-- a loop over values that an iterator gives, the iterator alone being turned -/
theorem loop_walks {I : Addr} {fp : List Addr} {n : Nat} {P : Nat → Value → Prop} {St : Nat → Heap → Prop} {m₀ : Str → Option Value} {news : List (Addr × Obj)} (J : Nat → (Str → Option Value) → List (Addr × Obj) → Prop)
    (W : Walks PR w A I fp [I] n P St) (hfp : I ∈ fp) (hst0 : ∀ i h, St i h → ∃ o, h.get? I = some o) (hLf : env.locals ∉ fp) (hI : h₀.get? I = none) (hnI : ∀ q ∈ news, q.1 ≠ I) (hst : St 0 s.heap)
    (hother : ∀ b ∈ fp, b ≠ I → (∃ o, h₀.get? b = some o) ∨ (∃ o, ∀ i m nx, J i m nx → (b, o) ∈ nx))
    (F : Fr h₀ env.locals s.heap m₀) (N : News h₀ env.locals s.heap news) (hj : J 0 m₀ news)
    (turn : ∀ i v m₁ nx h tk oI, i < n → P i v → (∀ q ∈ nx, q.1 ≠ I) → J i m₁ nx → Fr h₀ env.locals h (updm x (some v) m₁) → News h₀ env.locals h ((I, oI) :: nx) →
      wpAny (MM w) A (execs body env) (TurnPost h₀ env.locals I oI (J (i + 1)) { s with heap := h, toks := tk } Q) E { s with heap := h, toks := tk })
    (done : ∀ m₁ nx h tk, J n m₁ nx → Fr h₀ env.locals h m₁ → News h₀ env.locals h nx → Q .next { s with heap := h, toks := tk }) :
    LoopAtV PR w A h₀ env x body Q E (.ref I) s := by
  refine ⟨I, fp, [I], n, P, St, m₀, news, J, rfl, W, hLf, fun b hb => by rw [List.mem_singleton.mp hb]; exact hI, fun q hq hm => hnI q hq (List.mem_singleton.mp hm), hst, F, N, hj, ?_, ?_⟩
  · rintro i v m₁ nx s₁ own ⟨h, tk, rfl⟩ hi hP hJ hoff hown hget hall hst₁ F₁ N₁
    obtain ⟨oI, hoI⟩ := hst0 _ _ hst₁
    have hIown : (I, oI) ∈ own := hall I hfp hI oI hoI
    have hx : ∀ q ∈ nx, q.1 ≠ I := fun q hq e => hoff q hq (List.mem_singleton.mpr e)
    have N₂ : News h₀ env.locals h ((I, oI) :: nx) := fun q hq => by
      rcases List.mem_cons.mp hq with rfl | hq
      · exact N₁ _ (List.mem_append_left _ hIown)
      · exact N₁ _ (List.mem_append_right _ hq)
    refine wpAny_mono (turn i v m₁ nx h tk oI hi hP hx hJ F₁ N₂) (fun f s₂ hp => ?_) fun _ _ e => e
    have fin : TurnTo h₀ env.locals I oI (J (i + 1)) { s with heap := h, toks := tk } s₂ → LoopStepU h₀ env.locals [I] own (J (i + 1)) { s with heap := h, toks := tk } .next s₂ := by
      rintro ⟨h', tk', m', nx', e, F', N', ha, hJ'⟩
      refine ⟨rfl, h', tk', m', nx', e, F', fun q hq => ?_, fun q hq hm => ha q hq (List.mem_singleton.mp hm), hJ'⟩
      rcases List.mem_append.mp hq with hq | hq
      · have hqf := hown q hq
        by_cases hqI : q.1 = I
        · have e1 := hget q hq
          rw [hqI] at e1
          have e2 : q = (I, oI) := Prod.ext hqI (Option.some.inj (e1.symm.trans hoI))
          rw [e2]
          exact N' _ (.head _)
        · rcases hother q.1 hqf hqI with ⟨o, ho⟩ | ⟨o, ho⟩
          · have := (N₁ q (List.mem_append_left _ hq)).2.2
            rw [ho] at this; cases this
          · have e1 := (N₂ _ (.tail _ (ho i m₁ nx hJ))).1
            have e2 := hget q hq
            have e3 : q = (q.1, o) := Prod.ext rfl (Option.some.inj (e2.symm.trans e1))
            rw [e3]
            exact N' _ (.tail _ (ho _ _ _ hJ'))
      · exact N' _ (.tail _ hq)
    cases f with
    | ret v => exact .ret hp
    | brk => exact .brk hp
    | next => exact .next (fin hp)
    | cont => exact .cont (fin hp)
  · rintro h' tk m' nx F' N' _ hJ
    exact done m' nx h' tk hJ F' N'
/-- over a list of the base -/
theorem loop_base {l L : Addr} {vs : List Value} {m₀ : Str → Option Value} {news : List (Addr × Obj)} (J : Nat → (Str → Option Value) → List (Addr × Obj) → Prop)
    (hL : env.locals = L) (hh : A.handled = none) (hl : h₀.IsList l vs.toArray) (F : Fr h₀ L s.heap m₀) (N : News h₀ L s.heap news) (hj : J 0 m₀ news)
    (turn : ∀ i v m₁ nx h tk I oI, vs[i]? = some v → (∀ q ∈ nx, q.1 ≠ I) → J i m₁ nx → Fr h₀ L h (updm x (some v) m₁) → News h₀ L h ((I, oI) :: nx) →
      wpAny (MM w) A (execs body env) (TurnPost h₀ L I oI (J (i + 1)) { s with heap := h, toks := tk } Q) E { s with heap := h, toks := tk })
    (done : ∀ m₁ nx h tk, J vs.length m₁ nx → Fr h₀ L h m₁ → News h₀ L h nx → Q .next { s with heap := h, toks := tk }) :
    wpAny (MM w) A (pyIter (.ref l)) (fun it s₂ => LoopAtV PR w A h₀ env x body Q E it s₂) E s := by
  subst hL
  refine goal_var fun G9 hG9 => ?_
  obtain ⟨ol, hol, _⟩ := id hl
  refine hG9 ?_
  clear hG9 G9
  have hls : s.heap.IsList l vs.toArray := hl.at fun o e => F.keep l o e
  have hne : l ≠ s.heap.objs.size := Nat.ne_of_lt (Heap.lt_size (F.keep _ _ hol))
  have hlL : env.locals ≠ l := fun e => absurd (Heap.lt_size hol) (Nat.not_lt.mpr (e ▸ F.above))
  have W := Walks.list (prog := PR) (w := w) hh s.heap.objs.size l hne vs.toArray
  rw [show vs.toArray.size = vs.length by simp] at W
  refine wpAny_pyIter_list hls ?_
  refine loop_walks J W (.head _) (fun i h hst => let ⟨⟨o, e, _⟩, _⟩ := hst; ⟨o, e⟩) ?_ (next_is_new F) (fun q hq => Nat.ne_of_lt (Heap.lt_size (N q hq).1))
    ⟨⟨_, Heap.get?_push_size _ rfl, rfl, rfl⟩, hls.at fun o e => Heap.get?_push_of_some _ e⟩ ?_ (F.push _) (fun q hq => ⟨Heap.get?_push_of_some _ (N q hq).1, (N q hq).2⟩) hj ?_ done
  · intro hm
    rcases List.mem_cons.mp hm with e | hm
    · exact absurd F.ns.lt (e ▸ Nat.lt_irrefl _)
    · exact hlL (List.mem_singleton.mp hm)
  · intro b hb hne
    rcases List.mem_cons.mp hb with rfl | hb
    · exact absurd rfl hne
    · rw [List.mem_singleton.mp hb]; exact .inl ⟨_, hol⟩
  · intro i v m₁ nx h tk oI hi hP hx hJ F₁ N₁
    exact turn i v m₁ nx h tk _ oI (by simpa using hP) hx hJ F₁ N₁
/-- over a list of the ledger that no turn changes -/
theorem loop_led {l L : Addr} {vs : List Value} {nn : Nat} {m₀ : Str → Option Value} {news : List (Addr × Obj)} (J : Nat → (Str → Option Value) → List (Addr × Obj) → Prop)
    (hL : env.locals = L) (hh : A.handled = none) (hl : ∀ i m nx, J i m nx → (l, listOf vs.toArray nn) ∈ nx) (F : Fr h₀ L s.heap m₀) (N : News h₀ L s.heap news) (hj : J 0 m₀ news)
    (turn : ∀ i v m₁ nx h tk I oI, vs[i]? = some v → (∀ q ∈ nx, q.1 ≠ I) → J i m₁ nx → Fr h₀ L h (updm x (some v) m₁) → News h₀ L h ((I, oI) :: nx) →
      wpAny (MM w) A (execs body env) (TurnPost h₀ L I oI (J (i + 1)) { s with heap := h, toks := tk } Q) E { s with heap := h, toks := tk })
    (done : ∀ m₁ nx h tk, J vs.length m₁ nx → Fr h₀ L h m₁ → News h₀ L h nx → Q .next { s with heap := h, toks := tk }) :
    wpAny (MM w) A (pyIter (.ref l)) (fun it s₂ => LoopAtV PR w A h₀ env x body Q E it s₂) E s := by
  subst hL
  have hol := N _ (hl _ _ _ hj)
  have hls : s.heap.IsList l vs.toArray := ⟨_, hol.1, rfl, nn, rfl⟩
  have hne : l ≠ s.heap.objs.size := Nat.ne_of_lt (Heap.lt_size hol.1)
  have W := Walks.list (prog := PR) (w := w) hh s.heap.objs.size l hne vs.toArray
  rw [show vs.toArray.size = vs.length by simp] at W
  refine wpAny_pyIter_list hls ?_
  refine loop_walks J W (.head _) (fun i h hst => let ⟨⟨o, e, _⟩, _⟩ := hst; ⟨o, e⟩) ?_ (next_is_new F) (fun q hq => Nat.ne_of_lt (Heap.lt_size (N q hq).1))
    ⟨⟨_, Heap.get?_push_size _ rfl, rfl, rfl⟩, hls.at fun o e => Heap.get?_push_of_some _ e⟩ ?_ (F.push _) (fun q hq => ⟨Heap.get?_push_of_some _ (N q hq).1, (N q hq).2⟩) hj ?_ done
  · intro hm
    rcases List.mem_cons.mp hm with e | hm
    · exact absurd F.ns.lt (e ▸ Nat.lt_irrefl _)
    · exact hol.2.1 (List.mem_singleton.mp hm).symm
  · intro b hb hne
    rcases List.mem_cons.mp hb with rfl | hb
    · exact absurd rfl hne
    · rw [List.mem_singleton.mp hb]; exact .inr ⟨_, hl⟩
  · intro i v m₁ nx h tk oI hi hP hx hJ F₁ N₁
    exact turn i v m₁ nx h tk _ oI (by simpa using hP) hx hJ F₁ N₁
end

section
variable {h₀ h h₁ h' h'' : Heap} {L C : Addr} {m mc : Str → Option Value} {news : List (Addr × Obj)} {oL o0 : Obj}
/-- the object that bears the names m -/
def Bears (L : Addr) (m : Str → Option Value) (oL : Obj) : Prop := ∀ h' : Heap, h'.get? L = some oL → h'.Ns L m
theorem cframe_in (F : Fr h₀ L h m) (N : News h₀ L h news) (hn : h₁.Ns h.objs.size mc) (hs : Heap.SameBut h.objs.size (h.push o0) h₁) :
    ∃ oL, Bears L m oL ∧ Fr h₀ h.objs.size h₁ mc ∧ News h₀ h.objs.size h₁ ((L, oL) :: news) := by
  refine goal_var fun G9 hG9 => ?_
  obtain ⟨oL, es, ep, hL, hd, hk, hf⟩ := F.ns
  refine hG9 ?_
  clear hG9 G9
  have old : ∀ b o, h.get? b = some o → h₁.get? b = some o := fun b o e => (hs.2 b (Nat.ne_of_lt (Heap.lt_size e))).trans (Heap.get?_push_of_some _ e)
  have hL0 : h₀.get? L = none := by
    cases e : h₀.get? L with
    | none => rfl
    | some o => exact absurd (Heap.lt_size e) (Nat.not_lt.mpr F.above)
  refine ⟨oL, fun h' e => ⟨oL, es, ep, e, hd, hk, hf⟩, ⟨hn, fun b o e => old b o (F.keep b o e), Nat.le_trans F.above (Nat.le_of_lt (Heap.lt_size hL))⟩, fun q hq => ?_⟩
  rcases List.mem_cons.mp hq with rfl | hq
  · exact ⟨old _ _ hL, Nat.ne_of_lt (Heap.lt_size hL), hL0⟩
  · exact ⟨old _ _ (N q hq).1, Nat.ne_of_lt (Heap.lt_size (N q hq).1), (N q hq).2.2⟩
theorem cframe_out (hab : h₀.objs.size ≤ L) (hB : Bears L m oL) (F : Fr h₀ C h' mc) (N : News h₀ C h' ((L, oL) :: news)) (hne : ∀ q ∈ news, q.1 ≠ L) (hs : Heap.SameBut C h' h'') (hC0 : h₀.get? C = none) :
    Fr h₀ L h'' m ∧ News h₀ L h'' news := by
  have nL := N _ (.head _)
  refine ⟨⟨hB h'' ((hs.2 L nL.2.1).trans nL.1), fun b o e => (hs.2 b (fun q => by rw [q, hC0] at e; cases e)).trans (F.keep b o e), hab⟩, fun q hq => ?_⟩
  have nq := N q (.tail _ hq)
  exact ⟨(hs.2 _ nq.2.1).trans nq.1, hne q hq, nq.2.2⟩
end
/-- an element's end -/
def EltTo (h₀ : Heap) (C I D L : Addr) (oI oL : Obj) (mv : Str → Option Value) (ys : List Value) (nD : Nat) (J : List (Addr × Obj) → Prop) (s₁ s₂ : Shared) : Prop :=
  ∃ h' tk nx, s₂ = { s₁ with heap := h', toks := tk } ∧ Fr h₀ C h' mv ∧ News h₀ C h' ((I, oI) :: (D, listOf ys.toArray nD) :: (L, oL) :: nx) ∧ (∀ q ∈ nx, q.1 ≠ I ∧ q.1 ≠ D ∧ q.1 ≠ L) ∧ J nx
def EltPost (h₀ : Heap) (C I D L : Addr) (oI oL : Obj) (mv : Str → Option Value) (ys : List Value) (nD : Nat) (J : List Value → List (Addr × Obj) → Prop) (s₁ : Shared) (y : Value) (s₂ : Shared) : Prop :=
  EltTo h₀ C I D L oI oL mv ys nD (J (ys ++ [y])) s₁ s₂
theorem elt_end {h₀ h' : Heap} {C I D L : Addr} {oI oL : Obj} {mv : Str → Option Value} {ys : List Value} {nD : Nat} {J : List Value → List (Addr × Obj) → Prop} {s₁ : Shared} {y : Value} {tk : Nat} {news' : List (Addr × Obj)} (nx : List (Addr × Obj))
    (F : Fr h₀ C h' mv) (N : News h₀ C h' news') (hs : ∀ q ∈ (I, oI) :: (D, listOf ys.toArray nD) :: (L, oL) :: nx, q ∈ news') (off : ∀ q ∈ nx, q.1 ≠ I ∧ q.1 ≠ D ∧ q.1 ≠ L) (hJ : J (ys ++ [y]) nx) :
    EltPost h₀ C I D L oI oL mv ys nD J s₁ y { s₁ with heap := h', toks := tk } := ⟨h', tk, nx, rfl, F, fun q hq => N q (hs q hq), off, hJ⟩
theorem elt_new {h₀ h' : Heap} {C I D L q : Addr} {o oI oL : Obj} {mv : Str → Option Value} {ys : List Value} {nD : Nat} {J : List Value → List (Addr × Obj) → Prop} {s₁ : Shared} {tk : Nat} {nx : List (Addr × Obj)}
    (F : Fr h₀ C h' mv) (N : News h₀ C h' ((q, o) :: (I, oI) :: (D, listOf ys.toArray nD) :: (L, oL) :: nx)) (hne : I ≠ q ∧ D ≠ q ∧ L ≠ q ∧ ∀ p ∈ nx, p.1 ≠ q) (off : ∀ q ∈ nx, q.1 ≠ I ∧ q.1 ≠ D ∧ q.1 ≠ L) (hJ : J (ys ++ [.ref q]) ((q, o) :: nx)) :
    EltPost h₀ C I D L oI oL mv ys nD J s₁ (.ref q) { s₁ with heap := h', toks := tk } := by
  refine elt_end ((q, o) :: nx) F N (fun p hp => ?_) (List.forall_mem_cons.mpr ⟨⟨Ne.symm hne.1, Ne.symm hne.2.1, Ne.symm hne.2.2.1⟩, off⟩) hJ
  revert p
  walk_at "MINE sub"
theorem elt_skip {h₀ h' : Heap} {C I D L : Addr} {oI oL : Obj} {mv : Str → Option Value} {ys : List Value} {nD : Nat} {J : List (Addr × Obj) → Prop} {s₁ : Shared} {tk : Nat} {news' : List (Addr × Obj)} (nx : List (Addr × Obj))
    (F : Fr h₀ C h' mv) (N : News h₀ C h' news') (hs : ∀ q ∈ (I, oI) :: (D, listOf ys.toArray nD) :: (L, oL) :: nx, q ∈ news') (off : ∀ q ∈ nx, q.1 ≠ I ∧ q.1 ≠ D ∧ q.1 ≠ L) (hJ : J nx) :
    EltTo h₀ C I D L oI oL mv ys nD J s₁ { s₁ with heap := h', toks := tk } := ⟨h', tk, nx, rfl, F, fun q hq => N q (hs q hq), off, hJ⟩
section
variable {w : World} {A : Around} {E : Value → Shared → Prop} {s : Shared} {env : Env} {h₀ : Heap} {x : Str} {px : Pos} {elt iter : Expr} {ifs : List Expr} {scope : Scope} {pos : Pos} {cl : List (Str × Addr)} {RR : Value → Addr → Result → Shared → Prop}
theorem comp_core {I : Addr} {fp : List Addr} {n : Nat} {P : Nat → Value → Prop} {St : Nat → Heap → Prop} {m₀ : Str → Option Value} {news : List (Addr × Obj)} (J : Nat → List Value → List (Addr × Obj) → Prop)
    (W : Walks PR w A I fp [I] n P St) (hfp : I ∈ fp) (hst0 : ∀ i h, St i h → ∃ o, h.get? I = some o) (hLf : env.locals ∉ fp) (hI : h₀.get? I = none) (hnI : ∀ q ∈ news, q.1 ≠ I) (hst : St 0 s.heap)
    (hother : ∀ b ∈ fp, b ≠ I → (∃ o, h₀.get? b = some o) ∨ (∃ o, ∀ i ys nx, J i ys nx → (b, o) ∈ nx))
    (hbelow : ∀ b ∈ fp, b < s.heap.objs.size)
    (F : Fr h₀ env.locals s.heap m₀) (N : News h₀ env.locals s.heap news) (hj : J 0 [] news) (hsz : n ≤ 1000)
    (hcell : ∀ y ∈ scope.names, y.2 ≠ .cell) (hkind : scope.kind = .function) (hx : scope.names.lookup x = some .local)
    (turn : ∀ i v ys nx h tk C D oI oL mv nD, i < n → P i v → ys.length ≤ i → (∀ q ∈ nx, q.1 ≠ I ∧ q.1 ≠ D ∧ q.1 ≠ env.locals) → J i ys nx → mv x = some v → (compEnvC scope cl C env).locals = C →
      Fr h₀ C h mv → News h₀ C h ((I, oI) :: (D, listOf ys.toArray nD) :: (env.locals, oL) :: nx) → (∀ vs, oL.data ≠ .fields vs) →
      wpAny (MM w) A (forIn ifs true fun c r => if r = true then do let ok ← isTrue c (compEnvC scope cl C env) (eval c (compEnvC scope cl C env)); pure (ForInStep.yield ok) else pure (ForInStep.yield r))
        (fun ok s₃ => if ok = true then wpAny (MM w) A (eval elt (compEnvC scope cl C env)) (EltPost h₀ C I D env.locals oI oL mv ys nD (J (i + 1)) { s with heap := h, toks := tk }) (notedBy (MM w) A (compEnvC scope cl C env) fun e s₃ => RR (.ref D) C (.error e) s₃) s₃
          else EltTo h₀ C I D env.locals oI oL mv ys nD (J (i + 1) ys) { s with heap := h, toks := tk } s₃) (notedBy (MM w) A (compEnvC scope cl C env) fun e s₃ => RR (.ref D) C (.error e) s₃) { s with heap := h, toks := tk })
    (done : ∀ D C h tk ys nx nD oL mv, ys.length ≤ n → J n ys nx → h₀.get? C = none → Bears env.locals m₀ oL → h₀.objs.size ≤ env.locals → Fr h₀ C h mv → News h₀ C h ((D, listOf ys.toArray nD) :: (env.locals, oL) :: nx) → (∀ q ∈ nx, q.1 ≠ D ∧ q.1 ≠ env.locals) → D ≠ env.locals →
      RR (.ref D) C (.ok .next) { s with heap := h, toks := tk }) :
    wpAny (MM w) A (newList []) (fun acc s₃ => wpAny (MM w) A (newFunctionEnv scope env.globals cl [] env.qual none .none (some env)) (fun cenv s₄ =>
      codeAny (MM w) A (.compStart (.ListComp elt [⟨.Name x px, iter, ifs, 0⟩] scope pos) 0 (.ref I) acc { cenv with scope := relabel scope env }) (RR acc cenv.locals) s₄) E s₃) E s := by
  refine wpAny_newObj_type ?_ (Nat.zero_le _)
  have F1 := F.push (listOf #[] 0)
  have N1 := N.push F (listOf #[] 0)
  have hIs : I < s.heap.objs.size := hbelow I hfp
  have hDI : s.heap.objs.size ≠ I := Nat.ne_of_gt hIs
  refine wpAny_newFunctionEnv hcell (by intro y hy; simp at hy) (fun h₁ hns₁ hsb₁ => ?_) hkind
  have hC : (s.heap.push (listOf #[] 0)).objs.size = s.heap.objs.size + 1 := Heap.size_push ..
  refine goal_var fun G9 hG9 => ?_
  obtain ⟨oL, hB, F2, N2⟩ := cframe_in F1 N1 hns₁ hsb₁
  refine hG9 ?_
  clear hG9 G9
  have hC0 : h₀.get? (s.heap.push (listOf #[] 0)).objs.size = none := Heap.get?_none_of_le (Nat.le_trans F1.above (Nat.le_of_lt F1.ns.lt))
  have hCs : ∀ b ∈ fp, b ≠ (s.heap.push (listOf #[] 0)).objs.size := fun b hb e => by
    have := hbelow b hb
    rw [e, hC] at this
    exact absurd this (Nat.not_lt.mpr (Nat.le_succ _))
  have old : ∀ b o, s.heap.get? b = some o → h₁.get? b = some o := fun b o e =>
    (hsb₁.2 b (by rw [hC]; exact Nat.ne_of_lt (Nat.lt_succ_of_lt (Heap.lt_size e)))).trans (Heap.get?_push_of_some _ (Heap.get?_push_of_some _ e))
  have hst₁ : St 0 h₁ := W.frame _ _ _ hst fun b _ o e => old b o e
  have hDL : s.heap.objs.size ≠ env.locals := Nat.ne_of_gt F.ns.lt
  obtain ⟨oI, hoI⟩ := hst0 _ _ hst₁
  have hloc : (compEnvC scope cl (s.heap.push (listOf #[] 0)).objs.size env).kindOf x = some .local := lookup_relabel_local hx
  -- the state between the turns
  let Inv : Nat → Shared → Prop := fun k s' => ∃ i ys nx h tk nD mv oI, s' = { s with heap := h, toks := tk } ∧ k = n + 1 - i ∧ i ≤ n ∧ ys.length ≤ i ∧ J i ys nx ∧ St i h ∧ h.get? I = some oI ∧
    Fr h₀ (s.heap.push (listOf #[] 0)).objs.size h mv ∧ News h₀ (s.heap.push (listOf #[] 0)).objs.size h ((s.heap.objs.size, listOf ys.toArray nD) :: (env.locals, oL) :: nx) ∧ (∀ q ∈ nx, q.1 ≠ I ∧ q.1 ≠ s.heap.objs.size ∧ q.1 ≠ env.locals)
  have loop : ∀ s₃, Inv (n + 1) s₃ → codeAny (MM w) A (.compLoop (.ListComp elt [⟨.Name x px, iter, ifs, 0⟩] scope pos) 0 (.ref I) (.ref s.heap.objs.size) (compEnvC scope cl (s.heap.push (listOf #[] 0)).objs.size env))
      (RR (.ref s.heap.objs.size) (s.heap.push (listOf #[] 0)).objs.size) s₃ := by
    intro s₃ h₃
    refine codeAny_compLoop_tests Inv ?_ (n + 1) h₃
    rintro k s' ⟨i, ys, nx, h, tk, nD, mv, oI, rfl, rfl, hin, hys, hJ, hsti, hoI, F', N', hoff⟩
    have hLne : env.locals ≠ I := fun e => hLf (e ▸ hfp)
    have hIC : I ≠ (s.heap.push (listOf #[] 0)).objs.size := hCs I hfp
    -- what one step of the iterator leaves
    have stepped : ∀ h₂, (∀ b o, b ∉ [I] → h.get? b = some o → h₂.get? b = some o) → Fr h₀ (s.heap.push (listOf #[] 0)).objs.size h₂ mv ∧
        News h₀ (s.heap.push (listOf #[] 0)).objs.size h₂ ((s.heap.objs.size, listOf ys.toArray nD) :: (env.locals, oL) :: nx) := fun h₂ hk => by
      have nI : ∀ b, b ≠ I → b ∉ [I] := fun b hb hm => hb (List.mem_singleton.mp hm)
      refine ⟨⟨F'.ns.at fun o e => hk _ o (nI _ (Ne.symm hIC)) e, fun b o e => hk b o (nI b (fun q => by rw [q, hI] at e; cases e)) (F'.keep b o e), F'.above⟩, fun q hq => ?_⟩
      have nq := N' q hq
      refine ⟨hk _ _ (nI _ ?_) nq.1, nq.2⟩
      rcases List.mem_cons.mp hq with rfl | hq
      · exact hDI
      · rcases List.mem_cons.mp hq with rfl | hq
        · exact hLne
        · exact (hoff q hq).1
    by_cases hlt : i < n
    · refine W.item i _ _ _ hlt hsti fun v h₂ tk₂ hP hst₂ hk₂ => ?_
      refine goal_var fun G9 hG9 => ?_
      obtain ⟨F₂, N₂⟩ := stepped h₂ hk₂
      obtain ⟨oI₂, hoI₂⟩ := hst0 _ _ hst₂
      refine hG9 ?_
      clear hG9 G9
      refine wpAny_assign_Name (wpAny_storeName_local (env := compEnvC scope cl (s.heap.push (listOf #[] 0)).objs.size env) hloc F₂.ns (fun h₃ hn₃ hs₃ => ?_) (by simp [compEnvC, relabel, hkind]))
      have F₃ := F₂.set hn₃ hs₃
      have N₃ : News h₀ (s.heap.push (listOf #[] 0)).objs.size h₃ ((I, oI₂) :: (s.heap.objs.size, listOf ys.toArray nD) :: (env.locals, oL) :: nx) := fun q hq => by
        rcases List.mem_cons.mp hq with rfl | hq
        · exact ⟨(hs₃.2 _ hIC).trans hoI₂, hIC, hI⟩
        · exact N₂.set hs₃ q hq
      have hst₃ : St (i + 1) h₃ := W.frame _ _ _ hst₂ fun b hb o e => (hs₃.2 b (hCs b hb)).trans e
      -- from an element's end to the next turn
      have next : ∀ (ys' : List Value) (nx' : List (Addr × Obj)) (h₅ : Heap) (mv' : Str → Option Value) (nD' : Nat) (tk₅ : Nat), ys'.length ≤ i + 1 → J (i + 1) ys' nx' → Fr h₀ (s.heap.push (listOf #[] 0)).objs.size h₅ mv' →
          News h₀ (s.heap.push (listOf #[] 0)).objs.size h₅ ((I, oI₂) :: (s.heap.objs.size, listOf ys'.toArray nD') :: (env.locals, oL) :: nx') → (∀ q ∈ nx', q.1 ≠ I ∧ q.1 ≠ s.heap.objs.size ∧ q.1 ≠ env.locals) →
          ∃ k, k < n + 1 - i ∧ Inv k { s with heap := h₅, toks := tk₅ } := fun ys' nx' h₅ mv' nD' tk₅ a b c d e => by
        refine ⟨n + 1 - (i + 1), by lia, i + 1, ys', nx', h₅, tk₅, nD', mv', oI₂, rfl, rfl, hlt, a, b, ?_, (d _ (.head _)).1, c, fun q hq => d q (.tail _ hq), e⟩
        refine W.frame _ _ _ hst₃ fun b' hb' o' e' => ?_
        by_cases hbI : b' = I
        · subst hbI
          have e1 := (N₃ _ (.head _)).1
          rw [e'] at e1
          cases e1
          exact (d _ (.head _)).1
        · rcases hother b' hb' hbI with ⟨o, ho⟩ | ⟨o, ho⟩
          · have e1 := F₃.keep _ _ ho
            rw [e'] at e1
            cases e1
            exact c.keep _ _ ho
          · have e1 := (N₃ _ (.tail _ (.tail _ (.tail _ (ho _ _ _ hJ))))).1
            rw [e'] at e1
            cases e1
            exact (d _ (.tail _ (.tail _ (.tail _ (ho _ _ _ b))))).1
      refine wpAny_mono (turn i v ys nx h₃ (tk₂ + 1) _ s.heap.objs.size oI₂ oL _ nD hlt hP hys hoff hJ (if_pos rfl) rfl F₃ N₃ (by obtain ⟨o, es, ep, e, hd', _⟩ := hB h₃ (N₃ _ (.tail _ (.tail _ (.head _)))).1; rw [(N₃ _ (.tail _ (.tail _ (.head _)))).1] at e; cases e; intro vs q; rw [hd'] at q; cases q)) (fun ok s₄ h₄ => ?_) fun _ _ e => e
      cases ok with
      | false =>
        simp only [Bool.false_eq_true, if_false] at h₄ ⊢
        refine goal_var fun G9 hG9 => ?_
        obtain ⟨h₅, tk₅, nx', rfl, F₅, N₅, ha, hJ'⟩ := h₄
        refine hG9 ?_
        clear hG9 G9
        exact next ys nx' h₅ _ nD tk₅ (by lia) hJ' F₅ N₅ ha
      | true =>
        simp only [if_true] at h₄ ⊢
        refine wpAny_mono h₄ (fun y s₅ h₅ => ?_) fun _ _ e => e
        refine goal_var fun G9 hG9 => ?_
        obtain ⟨h₆, tk₆, nx', rfl, F₆, N₆, ha, hJ'⟩ := h₅
        refine hG9 ?_
        clear hG9 G9
        refine append_K F₆ N₆ (Upd.tail (Ne.symm hDI) (Upd.head fun q hq => ?_)) (fun h₇ F₇ N₇ => ?_) (by rw [List.size_toArray]; unfold sizeLine; lia)
        · rcases List.mem_cons.mp hq with rfl | hq
          · exact Ne.symm hDL
          · exact (ha q hq).2.1
        · rw [show ys.toArray.push y = (ys ++ [y]).toArray by simp] at N₇
          exact next (ys ++ [y]) nx' h₇ _ (nD + 1) tk₆ (by rw [List.length_append, List.length_singleton]; lia) hJ' F₇ N₇ ha
    · have hii : i = n := by lia
      subst hii
      refine W.done _ _ _ hsti fun h₂ tk₂ hk₂ => ?_
      obtain ⟨F₂, N₂⟩ := stepped h₂ hk₂
      exact done _ _ h₂ tk₂ ys nx nD oL mv hys hJ hC0 hB F.above F₂ N₂ (fun q hq => (hoff q hq).2) hDL
  have start : Inv (n + 1) { s with heap := h₁, toks := s.toks + ([] : List (Str × Value)).length } := by
    refine ⟨0, [], news, h₁, _, 0, _, oI, rfl, by lia, by lia, by simp, hj, hst₁, hoI, F2, fun q hq => ?_, fun q hq => ⟨hnI q hq, Nat.ne_of_lt (Heap.lt_size (N q hq).1), (N q hq).2.1⟩⟩
    rcases List.mem_cons.mp hq with rfl | hq
    · exact N2 _ (.tail _ (.head _))
    · rcases List.mem_cons.mp hq with rfl | hq
      · exact N2 _ (.head _)
      · exact N2 _ (.tail _ (.tail _ hq))
  exact codeAny_compStart_list (loop _ start) (W.self 0 _ _ _ hst₁ (loop _ start))
end
/-- what a comprehension asks of its iterator -/
def CompAt (w : World) (A : Around) (h₀ : Heap) (env : Env) (x : Str) (elt : Expr) (ifs : List Expr) (scope : Scope) (cl : List (Str × Addr)) (m₀ : Str → Option Value) (RR : Value → Addr → Result → Shared → Prop) (Qd : Addr → List Value → Nat → List (Addr × Obj) → Heap → Nat → Prop) (it : Value) (s : Shared) : Prop :=
  ∃ (I : Addr) (fp : List Addr) (n : Nat) (P : Nat → Value → Prop) (St : Nat → Heap → Prop) (news : List (Addr × Obj)) (J : Nat → List Value → List (Addr × Obj) → Prop),
    it = .ref I ∧ Walks PR w A I fp [I] n P St ∧ I ∈ fp ∧ (∀ i h, St i h → ∃ o, h.get? I = some o) ∧ env.locals ∉ fp ∧ h₀.get? I = none ∧ (∀ q ∈ news, q.1 ≠ I) ∧ St 0 s.heap ∧
    (∀ b ∈ fp, b ≠ I → (∃ o, h₀.get? b = some o) ∨ (∃ o, ∀ i ys nx, J i ys nx → (b, o) ∈ nx)) ∧ (∀ b ∈ fp, b < s.heap.objs.size) ∧
    Fr h₀ env.locals s.heap m₀ ∧ News h₀ env.locals s.heap news ∧ J 0 [] news ∧ n ≤ 1000 ∧
    (∀ i v ys nx h tk C D oI oL mv nD, i < n → P i v → ys.length ≤ i → (∀ q ∈ nx, q.1 ≠ I ∧ q.1 ≠ D ∧ q.1 ≠ env.locals) → J i ys nx → mv x = some v → (compEnvC scope cl C env).locals = C →
      Fr h₀ C h mv → News h₀ C h ((I, oI) :: (D, listOf ys.toArray nD) :: (env.locals, oL) :: nx) → (∀ vs, oL.data ≠ .fields vs) →
      wpAny (MM w) A (forIn ifs true fun c r => if r = true then do let ok ← isTrue c (compEnvC scope cl C env) (eval c (compEnvC scope cl C env)); pure (ForInStep.yield ok) else pure (ForInStep.yield r))
        (fun ok s₃ => if ok = true then wpAny (MM w) A (eval elt (compEnvC scope cl C env)) (EltPost h₀ C I D env.locals oI oL mv ys nD (J (i + 1)) { s with heap := h, toks := tk }) (notedBy (MM w) A (compEnvC scope cl C env) fun e s₃ => RR (.ref D) C (.error e) s₃) s₃
          else EltTo h₀ C I D env.locals oI oL mv ys nD (J (i + 1) ys) { s with heap := h, toks := tk } s₃) (notedBy (MM w) A (compEnvC scope cl C env) fun e s₃ => RR (.ref D) C (.error e) s₃) { s with heap := h, toks := tk }) ∧
    ∀ D ys nD nx h tk, ys.length ≤ n → J n ys nx → (∀ q ∈ nx, q.1 ≠ D ∧ q.1 ≠ env.locals) → News h₀ env.locals h ((D, listOf ys.toArray nD) :: nx) → Qd D ys nD nx h tk
section
variable {w : World} {A : Around} {E : Value → Shared → Prop} {s : Shared} {env : Env} {h₀ : Heap} {x : Str} {px : Pos} {elt iter : Expr} {ifs : List Expr} {scope : Scope} {pos : Pos} {cl : List (Str × Addr)}
theorem comp_eval {L : Addr} {m₀ : Str → Option Value} {Q : Value → Shared → Prop}
    (F₀ : Fr h₀ L s.heap m₀) (hL : env.locals = L) (hclos : closureFor scope env = pure cl) (hcell : ∀ y ∈ scope.names, y.2 ≠ .cell) (hkind : scope.kind = .function)
    (hnames : ∀ y ∈ scope.names, y.2 = .local → scope.names.lookup y.1 = some .local) (hx : scope.names.lookup x = some .local) (hs : ∀ x, foldedSetIterable iter env x = pure x)
    (h : wpAny (MM w) A (eval iter env) (fun xv s₁ => wpAny (MM w) A (pyIter xv) (fun it s₂ => CompAt w A h₀ env x elt ifs scope cl m₀ (fun acc C => compPost (MM w) A E none Q acc C)
      (fun D ys nD nx h tk => Fr h₀ L h m₀ → News h₀ L h ((D, listOf ys.toArray nD) :: nx) → Q (.ref D) { s₂ with heap := h, toks := tk }) it s₂) E s₁) E s) :
    wpAny (MM w) A (eval (.ListComp elt [⟨.Name x px, iter, ifs, 0⟩] scope pos) env) Q E s := by
  subst hL
  rw [eval_ListComp]
  refine wpAny_comprehension_free (use := none) rfl hs hclos hkind hnames (wpAny_mono h (fun xv s₁ h₁ => wpAny_mono h₁ (fun it s₂ h₂ => ?_) fun _ _ e => e) fun _ _ e => e)
  refine goal_var fun G9 hG9 => ?_
  obtain ⟨I, fp, n, P, St, news, J, rfl, W, hfp, hst0, hLf, hI, hnI, hst, hother, hbelow, F, N, hj, hsz, turn, done⟩ := h₂
  refine hG9 ?_
  clear hG9 G9
  refine comp_core (RR := fun acc C => compPost (MM w) A E none Q acc C) J W hfp hst0 hLf hI hnI hst hother hbelow F N hj hsz hcell hkind hx turn ?_
  intro D C h tk ys nx nD oL mv hys hJ hC0 hB hab F' N' hoff hDL
  have N2 : News h₀ C h ((env.locals, oL) :: (D, listOf ys.toArray nD) :: nx) := fun q hq => by
    rcases List.mem_cons.mp hq with rfl | hq
    · exact N' _ (.tail _ (.head _))
    · rcases List.mem_cons.mp hq with rfl | hq
      · exact N' _ (.head _)
      · exact N' _ (.tail _ (.tail _ hq))
  refine ⟨mv, F'.ns, fun h' hs' => ?_⟩
  obtain ⟨F3, N3⟩ := cframe_out hab hB F' N2 (fun q hq => by
    rcases List.mem_cons.mp hq with rfl | hq
    · exact hDL
    · exact (hoff q hq).2) hs' hC0
  exact done D ys nD nx h' tk hys hJ hoff N3 F3 N3
theorem comp_assign {L : Addr} {m₀ : Str → Option Value} {y : Str} {py spos : Pos} {Q : Flow → Shared → Prop}
    (F₀ : Fr h₀ L s.heap m₀) (hL : env.locals = L) (hsw : swapsWith (.ListComp elt [⟨.Name x px, iter, ifs, 0⟩] scope pos) (some (.Name y py)) spos.line env = pure true)
    (hclos : closureFor scope env = pure cl) (hcell : ∀ y ∈ scope.names, y.2 ≠ .cell) (hkind : scope.kind = .function)
    (hnames : ∀ y ∈ scope.names, y.2 = .local → scope.names.lookup y.1 = some .local) (hx : scope.names.lookup x = some .local) (hs : ∀ x, foldedSetIterable iter env x = pure x)
    (hy : env.kindOf y = some .local) (hp : (env.scope.kind == .class || (env.scope.kind == .module && L != env.globals)) = false)
    (h : wpAny (MM w) A (eval iter env) (fun xv s₁ => wpAny (MM w) A (pyIter xv) (fun it s₂ => CompAt w A h₀ env x elt ifs scope cl m₀ (fun acc C => compPost (MM w) A E (some (assign (.Name y py) env)) (fun _ s' => Q .next s') acc C)
      (fun D ys nD nx h tk => Fr h₀ L h (fun z => if z = y then some (.ref D) else m₀ z) → News h₀ L h ((D, listOf ys.toArray nD) :: nx) → Q .next { s₂ with heap := h, toks := tk }) it s₂) E s₁) E s) :
    wpAny (MM w) A (exec (.Assign [.Name y py] (.ListComp elt [⟨.Name x px, iter, ifs, 0⟩] scope pos) spos) env) Q E s := by
  subst hL
  rw [exec_Assign_Name_used _ _ _ _ hsw]
  refine wpAny_bind (wpAny_standAt (wpAny_bind ?_))
  show wpAny _ A (do let _ ← comprehension (.ListComp elt [⟨.Name x px, iter, ifs, 0⟩] scope pos) scope env _ (newList []) false (eval iter env) (some (assign (.Name y py) env))) _ _ s
  refine wpAny_bind (wpAny_mono (wpAny_comprehension_free (use := some (assign (.Name y py) env)) (Q := fun _ s' => Q .next s') rfl hs hclos hkind hnames
    (wpAny_mono h (fun xv s₁ h₁ => wpAny_mono h₁ (fun it s₂ h₂ => ?_) fun _ _ e => e) fun _ _ e => e)) (fun _ s' hq => wpAny_pure (wpAny_pure hq)) fun _ _ e => e)
  refine goal_var fun G9 hG9 => ?_
  obtain ⟨I, fp, n, P, St, news, J, rfl, W, hfp, hst0, hLf, hI, hnI, hst, hother, hbelow, F, N, hj, hsz, turn, done⟩ := h₂
  refine hG9 ?_
  clear hG9 G9
  refine comp_core (RR := fun acc C => compPost (MM w) A E (some (assign (.Name y py) env)) (fun _ s' => Q .next s') acc C) J W hfp hst0 hLf hI hnI hst hother hbelow F N hj hsz hcell hkind hx turn ?_
  intro D C h tk ys nx nD oL mv hys hJ hC0 hB hab F' N' hoff hDL
  have nL := N' _ (.tail _ (.head _))
  show wpAny _ A (assign (.Name y py) env (.ref D)) _ _ _
  refine wpAny_assign_Name (wpAny_storeName_local hy (hB _ nL.1) (fun h₂ hn₂ hs₂ => ?_) hp)
  refine goal_var fun G9 hG9 => ?_
  obtain ⟨oL2, es, ep, hL2, hd, hk, hf⟩ := hn₂
  refine hG9 ?_
  clear hG9 G9
  have hB2 : Bears env.locals (fun z => if z = y then some (.ref D) else m₀ z) oL2 := fun h' e => ⟨oL2, es, ep, e, hd, hk, hf⟩
  have hLC : env.locals ≠ C := nL.2.1
  have F2 : Fr h₀ C h₂ mv := ⟨F'.ns.sameBut hs₂ (Ne.symm hLC), fun b o e => (hs₂.2 b (fun q => by rw [q, nL.2.2] at e; cases e)).trans (F'.keep b o e), F'.above⟩
  have N2 : News h₀ C h₂ ((env.locals, oL2) :: (D, listOf ys.toArray nD) :: nx) := fun q hq => by
    rcases List.mem_cons.mp hq with rfl | hq
    · exact ⟨hL2, nL.2⟩
    · rcases List.mem_cons.mp hq with rfl | hq
      · have n1 := N' _ (.head _)
        exact ⟨(hs₂.2 _ hDL).trans n1.1, n1.2⟩
      · have n1 := N' _ (.tail _ (.tail _ hq))
        exact ⟨(hs₂.2 _ (hoff q hq).2).trans n1.1, n1.2⟩
  refine ⟨mv, F2.ns, fun h' hs' => ?_⟩
  obtain ⟨F3, N3⟩ := cframe_out hab hB2 F2 N2 (fun q hq => by
    rcases List.mem_cons.mp hq with rfl | hq
    · exact hDL
    · exact (hoff q hq).2) hs' hC0
  exact done D ys nD nx h' _ hys hJ hoff N3 F3 N3
variable {RR : Value → Addr → Result → Shared → Prop} {m₀ : Str → Option Value} {Qd : Shared → Addr → List Value → Nat → List (Addr × Obj) → Heap → Nat → Prop} {news : List (Addr × Obj)}
theorem comp_base {l L : Addr} {vs : List Value} (J : Nat → List Value → List (Addr × Obj) → Prop)
    (hL : env.locals = L) (hh : A.handled = none) (hl : h₀.IsList l vs.toArray) (F : Fr h₀ L s.heap m₀) (N : News h₀ L s.heap news) (hj : J 0 [] news) (hsz : vs.length ≤ 1000)
    (turn : ∀ i v ys nx h tk I C D oI oL mv nD, vs[i]? = some v → ys.length ≤ i → (∀ q ∈ nx, q.1 ≠ I ∧ q.1 ≠ D ∧ q.1 ≠ L) → J i ys nx → mv x = some v → (compEnvC scope cl C env).locals = C →
      Fr h₀ C h mv → News h₀ C h ((I, oI) :: (D, listOf ys.toArray nD) :: (L, oL) :: nx) → (∀ vs, oL.data ≠ .fields vs) →
      wpAny (MM w) A (forIn ifs true fun c r => if r = true then do let ok ← isTrue c (compEnvC scope cl C env) (eval c (compEnvC scope cl C env)); pure (ForInStep.yield ok) else pure (ForInStep.yield r))
        (fun ok s₃ => if ok = true then wpAny (MM w) A (eval elt (compEnvC scope cl C env)) (EltPost h₀ C I D L oI oL mv ys nD (J (i + 1)) { s with heap := h, toks := tk }) (notedBy (MM w) A (compEnvC scope cl C env) fun e s₃ => RR (.ref D) C (.error e) s₃) s₃
          else EltTo h₀ C I D L oI oL mv ys nD (J (i + 1) ys) { s with heap := h, toks := tk } s₃) (notedBy (MM w) A (compEnvC scope cl C env) fun e s₃ => RR (.ref D) C (.error e) s₃) { s with heap := h, toks := tk })
    (done : ∀ hp D ys nD nx h tk, ys.length ≤ vs.length → J vs.length ys nx → (∀ q ∈ nx, q.1 ≠ D ∧ q.1 ≠ L) → News h₀ L h ((D, listOf ys.toArray nD) :: nx) → Qd { s with heap := hp } D ys nD nx h tk) :
    wpAny (MM w) A (pyIter (.ref l)) (fun it s₂ => CompAt w A h₀ env x elt ifs scope cl m₀ RR (Qd s₂) it s₂) E s := by
  subst hL
  refine goal_var fun G9 hG9 => ?_
  obtain ⟨ol, hol, _⟩ := id hl
  refine hG9 ?_
  clear hG9 G9
  have hls : s.heap.IsList l vs.toArray := hl.at fun o e => F.keep l o e
  have hlt : l < s.heap.objs.size := Heap.lt_size (F.keep _ _ hol)
  have hne : l ≠ s.heap.objs.size := Nat.ne_of_lt hlt
  have hlL : env.locals ≠ l := fun e => absurd (Heap.lt_size hol) (Nat.not_lt.mpr (e ▸ F.above))
  have W := Walks.list (prog := PR) (w := w) hh s.heap.objs.size l hne vs.toArray
  rw [show vs.toArray.size = vs.length by simp] at W
  refine wpAny_pyIter_list hls ?_
  refine ⟨_, _, vs.length, _, _, news, J, rfl, W, .head _, (fun i h hst => let ⟨⟨o, e, _⟩, _⟩ := hst; ⟨o, e⟩), ?_, next_is_new F, (fun q hq => Nat.ne_of_lt (Heap.lt_size (N q hq).1)),
    ⟨⟨_, Heap.get?_push_size _ rfl, rfl, rfl⟩, hls.at fun o e => Heap.get?_push_of_some _ e⟩, ?_, ?_, (F.push _), (fun q hq => ⟨Heap.get?_push_of_some _ (N q hq).1, (N q hq).2⟩), hj, hsz, ?_, done _⟩
  · intro hm
    rcases List.mem_cons.mp hm with e | hm
    · exact absurd F.ns.lt (e ▸ Nat.lt_irrefl _)
    · exact hlL (List.mem_singleton.mp hm)
  · intro b hb hne
    rcases List.mem_cons.mp hb with rfl | hb
    · exact absurd rfl hne
    · rw [List.mem_singleton.mp hb]; exact .inl ⟨_, hol⟩
  · intro b hb
    rw [Heap.size_push]
    rcases List.mem_cons.mp hb with rfl | hb
    · exact Nat.lt_succ_self _
    · rw [List.mem_singleton.mp hb]; exact Nat.lt_succ_of_lt hlt
  · intro i v ys nx h tk C D oI oL mv nD hi hP hys hoff hJ hm hC F₁ N₁ hoL
    exact turn i v ys nx h tk _ C D oI oL mv nD (by simpa using hP) hys hoff hJ hm hC F₁ N₁ hoL
theorem comp_led {l L : Addr} {vs : List Value} {nn : Nat} (J : Nat → List Value → List (Addr × Obj) → Prop)
    (hL : env.locals = L) (hh : A.handled = none) (hl : ∀ i ys nx, J i ys nx → (l, listOf vs.toArray nn) ∈ nx) (F : Fr h₀ L s.heap m₀) (N : News h₀ L s.heap news) (hj : J 0 [] news) (hsz : vs.length ≤ 1000)
    (turn : ∀ i v ys nx h tk I C D oI oL mv nD, vs[i]? = some v → ys.length ≤ i → (∀ q ∈ nx, q.1 ≠ I ∧ q.1 ≠ D ∧ q.1 ≠ L) → J i ys nx → mv x = some v → (compEnvC scope cl C env).locals = C →
      Fr h₀ C h mv → News h₀ C h ((I, oI) :: (D, listOf ys.toArray nD) :: (L, oL) :: nx) → (∀ vs, oL.data ≠ .fields vs) →
      wpAny (MM w) A (forIn ifs true fun c r => if r = true then do let ok ← isTrue c (compEnvC scope cl C env) (eval c (compEnvC scope cl C env)); pure (ForInStep.yield ok) else pure (ForInStep.yield r))
        (fun ok s₃ => if ok = true then wpAny (MM w) A (eval elt (compEnvC scope cl C env)) (EltPost h₀ C I D L oI oL mv ys nD (J (i + 1)) { s with heap := h, toks := tk }) (notedBy (MM w) A (compEnvC scope cl C env) fun e s₃ => RR (.ref D) C (.error e) s₃) s₃
          else EltTo h₀ C I D L oI oL mv ys nD (J (i + 1) ys) { s with heap := h, toks := tk } s₃) (notedBy (MM w) A (compEnvC scope cl C env) fun e s₃ => RR (.ref D) C (.error e) s₃) { s with heap := h, toks := tk })
    (done : ∀ hp D ys nD nx h tk, ys.length ≤ vs.length → J vs.length ys nx → (∀ q ∈ nx, q.1 ≠ D ∧ q.1 ≠ L) → News h₀ L h ((D, listOf ys.toArray nD) :: nx) → Qd { s with heap := hp } D ys nD nx h tk) :
    wpAny (MM w) A (pyIter (.ref l)) (fun it s₂ => CompAt w A h₀ env x elt ifs scope cl m₀ RR (Qd s₂) it s₂) E s := by
  subst hL
  have hol := N _ (hl _ _ _ hj)
  have hls : s.heap.IsList l vs.toArray := ⟨_, hol.1, rfl, nn, rfl⟩
  have hlt : l < s.heap.objs.size := Heap.lt_size hol.1
  have hne : l ≠ s.heap.objs.size := Nat.ne_of_lt hlt
  have W := Walks.list (prog := PR) (w := w) hh s.heap.objs.size l hne vs.toArray
  rw [show vs.toArray.size = vs.length by simp] at W
  refine wpAny_pyIter_list hls ?_
  refine ⟨_, _, vs.length, _, _, news, J, rfl, W, .head _, (fun i h hst => let ⟨⟨o, e, _⟩, _⟩ := hst; ⟨o, e⟩), ?_, next_is_new F, (fun q hq => Nat.ne_of_lt (Heap.lt_size (N q hq).1)),
    ⟨⟨_, Heap.get?_push_size _ rfl, rfl, rfl⟩, hls.at fun o e => Heap.get?_push_of_some _ e⟩, ?_, ?_, (F.push _), (fun q hq => ⟨Heap.get?_push_of_some _ (N q hq).1, (N q hq).2⟩), hj, hsz, ?_, done _⟩
  · intro hm
    rcases List.mem_cons.mp hm with e | hm
    · exact absurd F.ns.lt (e ▸ Nat.lt_irrefl _)
    · exact hol.2.1 (List.mem_singleton.mp hm).symm
  · intro b hb hne
    rcases List.mem_cons.mp hb with rfl | hb
    · exact absurd rfl hne
    · rw [List.mem_singleton.mp hb]; exact .inr ⟨_, hl⟩
  · intro b hb
    rw [Heap.size_push]
    rcases List.mem_cons.mp hb with rfl | hb
    · exact Nat.lt_succ_self _
    · rw [List.mem_singleton.mp hb]; exact Nat.lt_succ_of_lt hlt
  · intro i v ys nx h tk C D oI oL mv nD hi hP hys hoff hJ hm hC F₁ N₁ hoL
    exact turn i v ys nx h tk _ C D oI oL mv nD (by simpa using hP) hys hoff hJ hm hC F₁ N₁ hoL
/-- a name of a comprehension's block: its own -/
theorem cname_L {M : Model} {C : Addr} {h₁ : Heap} {m : Str → Option Value} {n : Str} {np : Pos} {v : Value} {Q : Value → Shared → Prop} (F : Fr h₁ C s.heap m) (hv : m n = some v) (h : Q v s)
    (hk : (compEnvC scope cl C env).scope.kind = .function) (hl : (compEnvC scope cl C env).kindOf n = some .local) (hd : (n == ("__debug__" : Str)) = false) :
    wpAny M A (eval (.Name n np) (compEnvC scope cl C env)) Q E s := wpAny_Name (wpAny_loadName_local hk hl F.ns hv h) hd
/-- one that the def around it holds in a cell -/
theorem cname_C {M : Model} {C L c : Addr} {h₁ : Heap} {o : Obj} {n : Str} {np : Pos} {v : Value} {Q : Value → Shared → Prop} (N : News h₁ L s.heap news) (hc : (compEnvC scope cl C env).cells.lookup n = some c) (hm : (c, o) ∈ news) (ho : o.data = .cell (some v)) (h : Q v s)
    (hk : (compEnvC scope cl C env).scope.kind = .function) (hx : (compEnvC scope cl C env).kindOf n = some .cell) (hd : (n == ("__debug__" : Str)) = false) :
    wpAny M A (eval (.Name n np) (compEnvC scope cl C env)) Q E s := wpAny_Name (wpAny_loadName_cell hk hx hc ⟨o, N.get hm, ho⟩ h) hd
end
--REG
local macro_rules | `(tactic| walk_at "MINE rf") => `(tactic| ((show (_ : Prop)); first | with_reducible assumption | ((with_reducible show Fr _ _ _ _); assumption) | ((with_reducible show News _ _ _ _); assumption) | ((with_reducible show _ ∈ _); k_mem) | exact rfl | decide | (intro _; exact rfl)))
set_option hygiene false in
local macro_rules | `(tactic| walk_at "MINE rw") => `(tactic| ((all_goals (try walk_at "MINE rf")); (all_goals (show (_ : Prop))); (all_goals (fail_if_success walk_at "MINE bad")); k_whole))
local macro_rules | `(tactic| walk_at "eval Name") => `(tactic| (k_here; k_dflt (first
  | (refine' cname_L ?F ?hv ?_ ?k ?l ?d; (case k => rfl); (case l => rfl); (case d => decide); (case F => k_asm); (case hv => first | with_reducible assumption | rfl); k_whole)
  | (refine' cname_C ?N ?c ?m ?o ?_ ?k ?l ?d; (case k => rfl); (case l => rfl); (case d => decide); (case N => k_asm); (case c => rfl); (case m => k_mem); (case o => k_asm); k_whole))))
set_option hygiene false in
local macro_rules | `(tactic| walk_at "eval ListComp") => `(tactic| (k_here; k_dflt (refine' comp_eval _ _ _ _ _ _ _ _ _; walk_at "MINE rw")))
set_option hygiene false in
local macro_rules | `(tactic| walk_at "exec Assign cons ListComp") => `(tactic| (k_here; k_dflt (refine' comp_assign _ _ _ _ _ _ _ _ _ _ _ _; walk_at "MINE rw")))
--END

/-- the value shows e -/
def EnAt (h : Heap) (v : Value) : En → Prop
  | .no => v = .none
  | .i k => ∃ t, v = .int k t
  | .q n d => ∃ a t u, v = .ref a ∧ IsTup h a #[.int n t, .int d u]
def EnsAt (h : Heap) (vs : List Value) (es : List En) : Prop := Paired (EnAt h) vs es
def lack : En → Bool
  | .no => true
  | .i _ => false
  | .q n d => decide (n = 0 ∧ d = 0)
/-- an item is NA, NaN, or small -/
def OkE : En → Prop
  | .no => True
  | .i k => k.natAbs ≤ 100
  | .q n d => (0 < d ∧ d ≤ 6 ∧ n.natAbs ≤ 100) ∨ (n = 0 ∧ d = 0)
def KdE : Kd → En → Prop
  | _, .no => True
  | .db, .q _ _ => True
  | .db, .i _ => False
  | _, .i _ => True
  | _, .q _ _ => False
theorem EnAt.keeps {h h' : Heap} (st : h.StaysIn h') {v : Value} : ∀ {e : En}, EnAt h v e → EnAt h' v e
  | .no, x => x
  | .i _, x => x
  | .q _ _, ⟨a, t, u, e, x⟩ => ⟨a, t, u, e, x.keeps st⟩
theorem pd_get {α β : Type} {F : α → β → Prop} : ∀ {l₁ : List α} {l₂ : List β}, Paired F l₁ l₂ → ∀ {i : Nat} {a : α}, l₁[i]? = some a → ∃ b, l₂[i]? = some b ∧ F a b
  | _, _, .nil, i, a, e => by simp at e
  | _, _, .cons h r, 0, a, e => by cases e; exact ⟨_, rfl, h⟩
  | _, _, .cons h r, i + 1, a, e => pd_get r e
theorem pd_getR {α β : Type} {F : α → β → Prop} : ∀ {l₁ : List α} {l₂ : List β}, Paired F l₁ l₂ → ∀ {i : Nat} {b : β}, l₂[i]? = some b → ∃ a, l₁[i]? = some a ∧ F a b
  | _, _, .nil, i, a, e => by simp at e
  | _, _, .cons h r, 0, a, e => by cases e; exact ⟨_, rfl, h⟩
  | _, _, .cons h r, i + 1, a, e => pd_getR r e
theorem pd_len {α β : Type} {F : α → β → Prop} : ∀ {l₁ : List α} {l₂ : List β}, Paired F l₁ l₂ → l₁.length = l₂.length
  | _, _, .nil => rfl
  | _, _, .cons _ r => congrArg (· + 1) (pd_len r)
theorem pd_imp {α β : Type} {F G : α → β → Prop} (hf : ∀ a b, F a b → G a b) : ∀ {l₁ : List α} {l₂ : List β}, Paired F l₁ l₂ → Paired G l₁ l₂
  | _, _, .nil => .nil
  | _, _, .cons h r => .cons (hf _ _ h) (pd_imp hf r)
theorem EnsAt.keeps {h h' : Heap} (st : h.StaysIn h') {vs : List Value} {es : List En} (x : EnsAt h vs es) : EnsAt h' vs es := pd_imp (fun _ _ y => y.keeps st) x
theorem any_take_succ {α : Type} (p : α → Bool) (l : List α) (i : Nat) (a : α) (h : l[i]? = some a) : (l.take (i + 1)).any p = ((l.take i).any p || p a) := by
  rw [List.take_add_one, h]; simp [List.any_append]
theorem any_of_get {α : Type} (p : α → Bool) (l : List α) (i : Nat) (a : α) (h : l[i]? = some a) (hp : p a = true) : l.any p = true :=
  List.any_eq_true.mpr ⟨a, List.mem_of_getElem? h, hp⟩
section
variable {w : World} {dp un : Nat} {fr : Option (List Env)} {gd : Option (List Code)} {s : Shared} {p : Program} {loose : List Str} {mean : ExcName → Option Value} {mg mb : Str → Option Value} {Q : Value → Shared → Prop} {E : Value → Shared → Prop}
theorem isna_spec {v : Value} {e : En} (X : (hd.heap_1 w.params).In s.heap) (T : Top p loose mean mg mb s.heap) (Rm : Room (Ar dp un fr gd) 3)
   (hv : EnAt s.heap v e) (ho : OkE e) (hk : KdE .db e)
   (h : ∀ h' tk, s.heap.StaysIn h' → Q (.bool (lack e)) { s with heap := h', toks := tk }) :
   wpAny (MM w) (Ar dp un fr gd) (call (.ref 83) [v]) Q E s := by
  cases e with
  | no => obtain rfl := hv; exact isnanone_spec X T Rm h
  | i k => exact hk.elim
  | q n d =>
    refine goal_var fun G9 hG9 => ?_
    obtain ⟨a, t, u, rfl, ht⟩ := hv
    refine hG9 ?_
    clear hG9 G9
    rcases ho with ⟨h1, _, _⟩ | ⟨rfl, rfl⟩
    · rw [show lack (.q n d) = false from decide_eq_false (by lia)] at h
      exact isnafin_spec X T Rm ht h1 h
    · exact isnanan_spec X T Rm ht h
end
--REG
set_option hygiene false in
local macro_rules | `(tactic| walk_at "MINE en") => `(tactic| (first | assumption | exact EnAt.keeps (Fr.keep (by assumption)) (by assumption)))
set_option hygiene false in
local macro_rules | `(tactic| walk_at "MINE prem2") => `(tactic| ((with_reducible show EnAt _ _ _); walk_at "MINE en"))
set_option hygiene false in
local macro_rules | `(tactic| walk_at "call ref") => `(tactic| k_call_by "MS" 83 (isna_spec _ _ _ _ _ _ _))
--END
section
variable {w : World} {dp un : Nat} {fr : Option (List Env)} {gd : Option (List Code)} {s : Shared} {p : Program} {loose : List Str} {mean : ExcName → Option Value} {mg mb : Str → Option Value} {Q : Value → Shared → Prop} {E : Value → Shared → Prop}
theorem islacking_spec {v : Value} {e : En} {kd : Kd} {u : Tok} (X : (hd.heap_1 w.params).In s.heap) (T : Top p loose mean mg mb s.heap) (Rm : Room (Ar dp un fr gd) 5)
   (hv : EnAt s.heap v e) (ho : OkE e) (hk : KdE kd e)
   (h : ∀ h' tk, s.heap.StaysIn h' → Q (.bool (lack e)) { s with heap := h', toks := tk }) :
   wpAny (MM w) (Ar dp un fr gd) (call (.ref 182) [.str (kS kd) u, v]) Q E s := by
  refine wpAny_call ?_
  refine' enter_def (binds := [("kind", .str (kS kd) u), ("item", v)]) s.heap [] X T Rm (fun _ _ e => e) (Nat.le_refl _) (fun _ hq => nomatch hq) ?k6 ?k7 ?k9 ?kB ?_ ?c2 ?c3 ?c4 ?c5
  (case k6 => k_dflt k_is)
  (case k7 => k_dflt k_is)
  (case k9 => k_dflt exact BindsTo.of_eq rfl)
  (case kB => k_dflt exact locs rfl)
  (case c2 => k_dflt exact rfl)
  (case c3 => k_dflt exact rfl)
  (case c4 => k_dflt exact rfl)
  (case c5 => k_dflt decide)
  intro L h₁ Rm' F N k₁ hL
  (try dsimp only)
  (try k_fold)
  cases kd with
  | db =>
    simp only [kS] at *
    k_steps
    all_goals walk_at "MINE end"
    exact h _ _ (Fr.keep (by assumption))
  | _ =>
    simp only [kS] at *
    cases e with
    | no =>
      obtain rfl := hv
      k_steps
      all_goals walk_at "MINE end"
      exact h _ _ (Fr.keep (by assumption))
    | i k =>
      obtain ⟨t, rfl⟩ := hv
      k_steps
      all_goals walk_at "MINE end"
      exact h _ _ (Fr.keep (by assumption))
    | q n d => exact hk.elim
end
theorem updm_self (x : Str) (m : Str → Option Value) : updm x (m x) m = m := by
  funext y; unfold updm; split
  · rename_i e; rw [e]
  · rfl
theorem updm_twice (x : Str) (u v : Option Value) (m : Str → Option Value) : updm x u (updm x v m) = updm x u m := by
  funext y; unfold updm; split <;> rfl
section
variable {w : World} {dp un : Nat} {fr : Option (List Env)} {gd : Option (List Code)} {s : Shared} {p : Program} {loose : List Str} {mean : ExcName → Option Value} {mg mb : Str → Option Value} {Q : Value → Shared → Prop} {E : Value → Shared → Prop}
theorem lackitem_spec {l : Addr} {vs : List Value} {es : List En} (X : (hd.heap_1 w.params).In s.heap) (T : Top p loose mean mg mb s.heap) (Rm : Room (Ar dp un fr gd) 5)
   (hl : s.heap.IsList l vs.toArray) (hv : EnsAt s.heap vs es) (ho : ∀ e ∈ es, OkE e ∧ KdE .db e)
   (h : ∀ h' tk, s.heap.StaysIn h' → Q (.bool (es.any lack)) { s with heap := h', toks := tk }) :
   wpAny (MM w) (Ar dp un fr gd) (call (.ref 215) [.ref l]) Q E s := by
  refine wpAny_call ?_
  refine' enter_def (binds := [("items", .ref l)]) s.heap [] X T Rm (fun _ _ e => e) (Nat.le_refl _) (fun _ hq => nomatch hq) ?k6 ?k7 ?k9 ?kB ?_ ?c2 ?c3 ?c4 ?c5
  (case k6 => k_dflt k_is)
  (case k7 => k_dflt k_is)
  (case k9 => k_dflt exact BindsTo.of_eq rfl)
  (case kB => k_dflt exact locs rfl)
  (case c2 => k_dflt exact rfl)
  (case c3 => k_dflt exact rfl)
  (case c4 => k_dflt exact rfl)
  (case c5 => k_dflt decide)
  intro L h₁ Rm' F N k₁ hL
  (try dsimp only)
  (try k_fold)
  k_steps
  refine' loop_base (J := fun i m nx => nx = [] ∧ (∃ u, m = updm "item" u (fun y => List.lookup y [(("items" : Str), Value.ref l)].reverse)) ∧ (es.take i).any lack = false) ?hL ?hh hl ?F ?N ?j ?turn ?done
  case F => assumption
  case N => assumption
  case hL => rfl
  case hh => rfl
  case j => exact ⟨rfl, ⟨_, (updm_self _ _).symm⟩, by simp⟩
  case turn =>
    intro i v m₁ nx h' tk I oI hi hne hJ F1 N1
    refine post_var fun Q8 hQ8 => ?_
    refine goal_var fun G9 hG9 => ?_
    obtain ⟨rfl, ⟨u, rfl⟩, hno⟩ := hJ
    obtain ⟨e, he, hve⟩ := pd_get hv hi
    refine hG9 ?_
    clear hG9 G9
    rw [updm_twice] at F1
    have hoe := (ho e (List.mem_of_getElem? he)).1
    have hke := (ho e (List.mem_of_getElem? he)).2
    have htk := any_take_succ lack es i e he
    k_steps
    all_goals refine hQ8 _ _ ?_
    all_goals walk_at "MINE end"
    · rw [any_of_get lack es i e he (by assumption)] at h
      exact h _ _ (Fr.keep (by assumption))
    · exact ⟨_, _, _, [], rfl, by assumption, by assumption, fun q hq => (by cases hq), rfl, ⟨_, rfl⟩, by rw [htk, hno]; simp_all⟩
  case done =>
    intro m₁ nx h' tk hJ F1 N1
    refine goal_var fun G9 hG9 => ?_
    obtain ⟨rfl, ⟨u, rfl⟩, hno⟩ := hJ
    refine hG9 ?_
    clear hG9 G9
    rw [pd_len hv, List.take_length] at hno
    k_steps
    all_goals walk_at "MINE end"
    rw [hno] at h
    exact h _ _ (Fr.keep (by assumption))
end
--REG
set_option hygiene false in
local macro_rules | `(tactic| walk_at "MINE lst") => `(tactic| (first | assumption | exact Heap.IsList.at (by assumption) (Fr.keep (by assumption) _) | exact News.isList (by k_asm) (by k_mem)))
set_option hygiene false in
local macro_rules | `(tactic| walk_at "MINE ens") => `(tactic| (first | assumption | exact EnsAt.keeps (Fr.keep (by assumption)) (by assumption)))
set_option hygiene false in
local macro_rules | `(tactic| walk_at "MINE prem2") => `(tactic| first | ((with_reducible show EnsAt _ _ _); walk_at "MINE ens") | ((with_reducible show Heap.IsList _ _ _); walk_at "MINE lst"))
set_option hygiene false in
local macro_rules | `(tactic| walk_at "call ref") => `(tactic| k_call_by "MS" 182 (islacking_spec _ _ _ _ _ _ _))
set_option hygiene false in
local macro_rules | `(tactic| walk_at "call ref") => `(tactic| k_call_by "MS" 215 (lackitem_spec _ _ _ _ _ _ _))
--END

/-- the five fields of a Vector -/
def vecES (P : Params) (kv iv : Value) (t1 t2 t3 t4 t5 : Tok) : List DictEntry :=
  [⟨PyData.keyHash P "kind", .str "kind" t1, kv⟩, ⟨PyData.keyHash P "items", .str "items" t2, iv⟩, ⟨PyData.keyHash P "attrs", .str "attrs" t3, .none⟩, ⟨PyData.keyHash P "shared", .str "shared" t4, .bool false⟩, ⟨PyData.keyHash P "loose", .str "loose" t5, .bool false⟩]
/-- a Vector lies at x -/
def VecAt (P : Params) (h : Heap) (x : Addr) (kv iv : Value) : Prop :=
  ∃ dx t1 t2 t3 t4 t5, h.get? x = some (instObj 171 dx) ∧ h.get? dx = some (dictOf (vecES P kv iv t1 t2 t3 t4 t5) 5)
theorem VecAt.keeps {P : Params} {h h' : Heap} (st : h.StaysIn h') {x : Addr} {kv iv : Value} (v : VecAt P h x kv iv) : VecAt P h' x kv iv :=
  let ⟨dx, t1, t2, t3, t4, t5, a, b⟩ := v; ⟨dx, t1, t2, t3, t4, t5, st _ _ a, st _ _ b⟩
section
variable {w : World} {dp un : Nat} {fr : Option (List Env)} {gd : Option (List Code)} {s : Shared} {p : Program} {loose : List Str} {mean : ExcName → Option Value} {mg mb : Str → Option Value} {Q : Value → Shared → Prop} {E : Value → Shared → Prop}
theorem init_spec {g : Heap} {x dx : Addr} {kv iv : Value} {A : Around} (X : (hd.heap_1 w.params).In g) (T : Top p loose mean mg mb g) (st : g.StaysIn s.heap) (hz : g.objs.size ≤ s.heap.objs.size) (Rm : Room A 3)
   (hx : s.heap.get? x = some (instObj 171 dx)) (hdx : s.heap.get? dx = some (dictOf [] 0)) (hgx : g.get? x = none) (hgd : g.get? dx = none) (hne : dx ≠ x) {R : Result → Shared → Prop}
   (h : ∀ h' tk t1 t2 t3 t4 t5, g.StaysIn h' → h'.get? x = some (instObj 171 dx) → h'.get? dx = some (dictOf (vecES w.params kv iv t1 t2 t3 t4 t5) 5) → R (.ok (.ret .none)) { s with heap := h', toks := tk }) :
   codeAny (MM w) A (.call (.ref 161) ⟨[.ref x, kv, iv], []⟩) R s := by
  refine' enter_def (binds := [("self", .ref x), ("kind", kv), ("items", iv), ("attrs", .none)]) g [(x, instObj 171 dx), (dx, dictOf [] 0)] X T Rm st hz ?hN ?k6 ?k7 ?k9 ?kB ?_ ?c2 ?c3 ?c4 ?c5
  case hN => exact List.forall_mem_cons.mpr ⟨⟨hx, hgx⟩, List.forall_mem_cons.mpr ⟨⟨hdx, hgd⟩, List.forall_mem_nil _⟩⟩
  case k6 => k_dflt k_is
  case k7 => k_dflt k_is
  case k9 => k_dflt exact binds_K (X.keeps st) rfl (by k_is) rfl rfl rfl
  case kB => exact locs rfl
  case c2 => exact rfl
  case c3 => exact rfl
  case c4 => exact rfl
  case c5 => decide
  intro L h₁ Rm' F N k₁ hL
  (try dsimp only)
  (try k_fold)
  have hne' : @Ne Nat x dx := fun e => hne e.symm
  k_steps
  all_goals walk_at "MINE end"
  exact h _ _ _ _ _ _ _ (Fr.keep (by assumption)) (News.get (by assumption) (by k_mem)) (News.get (by assumption) (by k_mem))
theorem room_make {A : Around} {n : Nat} {C : Addr} {pos : List Value} (R : Room A (n + 1)) : Room (A.under (.builtin "type.__call__" ⟨.ref C :: pos, []⟩)) n :=
  ⟨R.hh, by have := R.dp; rw [depth_under_make]; omega, by have := R.un; rw [units_under_make]; omega⟩
theorem vec_call {h₀ : Heap} {L : Addr} {m : Str → Option Value} {news : List (Addr × Obj)} {kv iv : Value} {A : Around} (F : Fr h₀ L s.heap m) (N : News h₀ L s.heap news) (X : (hd.heap_1 w.params).In h₀) (T : Top p loose mean mg mb h₀) (Rm : Room A 6)
   (h : ∀ x dx h' tk t1 t2 t3 t4 t5, Fr h₀ L h' m → News h₀ L h' ((x, instObj 171 dx) :: (dx, dictOf (vecES w.params kv iv t1 t2 t3 t4 t5) 5) :: news) → (∀ q ∈ news, q.1 < dx) → dx < x → Q (.ref x) { s with heap := h', toks := tk }) :
   wpAny (MM w) A (call (.ref 171) [kv, iv]) Q E s := by
  k_dflt (refine' call_cls F X N ?k4 ?k5 ?k6 ?_; (case k4 => k_is); (case k5 => k_is); (case k6 => k_is))
  intro x dx h' F' N' l1 l2
  have nx := N' _ (.head _)
  have nd := N' _ (.tail _ (.head _))
  have hxd : dx ≠ x := Nat.ne_of_lt l2
  have g1 : ∀ b o, h₀.get? b = some o → ((h'.hide x).hide dx).get? b = some o := fun b o e => by
    rw [Heap.hide_ne _ (fun q : b = dx => by rw [q, nd.2.2] at e; cases e), Heap.hide_ne _ (fun q : b = x => by rw [q, nx.2.2] at e; cases e)]
    exact F'.keep b o e
  have g2 : ((h'.hide x).hide dx).objs.size ≤ h'.objs.size := by rw [Heap.hide_size, Heap.hide_size]; exact Nat.le_refl _
  have g3 : ((h'.hide x).hide dx).get? x = none := by rw [Heap.hide_ne _ (Ne.symm hxd)]; exact Heap.hide_self _ _
  have Rm3 : Room (A.under (.builtin "type.__call__" ⟨.ref 171 :: [kv, iv], []⟩)) 3 := room_make (n := 3) (Rm.mono (by decide))
  have key := @init_spec w { s with heap := h' } p loose mean mg mb ((h'.hide x).hide dx) x dx kv iv (A.under (.builtin "type.__call__" ⟨.ref 171 :: [kv, iv], []⟩)) (X.keeps g1) (T.keeps g1) (fun b o e => Heap.of_hide (Heap.of_hide e)) g2 Rm3 nx.1 nd.1 g3 (Heap.hide_self _ _) hxd
  refine key ?_
  intro h'' tk t1 t2 t3 t4 t5 st hx hdx
  have old : ∀ b o, b ≠ x → b ≠ dx → h'.get? b = some o → h''.get? b = some o := fun b o e1 e2 e => st b o ((Heap.hide_ne _ e2).trans ((Heap.hide_ne _ e1).trans e))
  refine ⟨rfl, h x dx h'' tk t1 t2 t3 t4 t5 ?_ ?_ l1 l2⟩
  · obtain ⟨oL, es, ep, hL, r⟩ := F'.ns
    exact ⟨⟨oL, es, ep, old _ _ (Ne.symm nx.2.1) (Ne.symm nd.2.1) hL, r⟩, fun b o e => old b o (fun q => by rw [q, nx.2.2] at e; cases e) (fun q => by rw [q, nd.2.2] at e; cases e) (F'.keep b o e), F'.above⟩
  · intro q hq
    rcases List.mem_cons.mp hq with rfl | hq
    · exact ⟨hx, nx.2⟩
    · rcases List.mem_cons.mp hq with rfl | hq
      · exact ⟨hdx, nd.2⟩
      · have nq := N' q (.tail _ (.tail _ hq))
        exact ⟨old _ _ (Nat.ne_of_lt (Nat.lt_trans (l1 q hq) l2)) (Nat.ne_of_lt (l1 q hq)) nq.1, nq.2⟩
end
--REG
local macro_rules | `(tactic| walk_at "call ref") => `(tactic| (k_call_by "MC" 171 (vec_call _ _ _ _ _ _); intro _ _ _ _ _ _ _ _ _ _ _ l1 l2; (try k_lt l1); (try k_lt2 l2); (try k_sweep)))
--END

theorem inst_base {g h : Heap} {L x C dx : Addr} {m : Str → Option Value} {od : Obj} {sl : Array (Option Value)} (F : Fr g L h m) (h1 : g.get? x = some ⟨.ref C, some dx, .plain, sl⟩) (h2 : g.get? dx = some od) :
    InstAt h x ⟨.ref C, some dx, .plain, sl⟩ C (some od) := ⟨F.keep _ _ h1, rfl, rfl, F.keep _ _ h2⟩
--REG
set_option hygiene false in
local macro_rules | `(tactic| k_inst) => `(tactic| (exact inst_base (by k_asm) (by with_reducible assumption) (by assumption)))
--END
/-- a pair of ints -/
def TupOb (o : Obj) (n d : Int) : Prop := ∃ t u k, o.cls = .type "tuple" ∧ o.data = .seq #[.int n t, .int d u] k
/-- the value shows e by what g holds or what nx lists -/
def EnIn (g : Heap) (nx : List (Addr × Obj)) (v : Value) : En → Prop
  | .no => v = .none
  | .i k => ∃ t, v = .int k t
  | .q n d => ∃ a o, v = .ref a ∧ TupOb o n d ∧ (g.get? a = some o ∨ (a, o) ∈ nx)
theorem EnIn.at {g h : Heap} {L : Addr} {m : Str → Option Value} {news nx : List (Addr × Obj)} (F : Fr g L h m) (N : News g L h news) (hs : ∀ q ∈ nx, q ∈ news) {v : Value} : ∀ {e : En}, EnIn g nx v e → EnAt h v e
  | .no, x => x
  | .i _, x => x
  | .q _ _, ⟨a, o, e, ⟨t, u, k, hc, hd⟩, x⟩ => ⟨a, t, u, e, o, x.elim (F.keep a o) fun y => (N _ (hs _ y)).1, hc, k, hd⟩
theorem EnIn.mono {g : Heap} {nx nx' : List (Addr × Obj)} (hs : ∀ q ∈ nx, q ∈ nx') {v : Value} : ∀ {e : En}, EnIn g nx v e → EnIn g nx' v e
  | .no, x => x
  | .i _, x => x
  | .q _ _, ⟨a, o, e, t, x⟩ => ⟨a, o, e, t, x.imp id (hs _)⟩
theorem EnIn.new {g : Heap} {nx : List (Addr × Obj)} {a : Addr} {n d : Int} {t u : Tok} (h : (a, tupO [.int n t, .int d u]) ∈ nx) : EnIn g nx (.ref a) (.q n d) := ⟨a, _, rfl, ⟨t, u, 0, rfl, rfl⟩, .inr h⟩
theorem EnIn.base {g : Heap} {nx : List (Addr × Obj)} {v : Value} : ∀ {e : En}, EnAt g v e → EnIn g nx v e
  | .no, x => x
  | .i _, x => x
  | .q _ _, ⟨a, t, u, e, o, ho, hc, k, hd⟩ => ⟨a, o, e, ⟨t, u, k, hc, hd⟩, .inl ho⟩
def EnsIn (g : Heap) (nx : List (Addr × Obj)) (vs : List Value) (es : List En) : Prop := Paired (EnIn g nx) vs es
theorem EnsIn.at {g h : Heap} {L : Addr} {m : Str → Option Value} {news nx : List (Addr × Obj)} (F : Fr g L h m) (N : News g L h news) (hs : ∀ q ∈ nx, q ∈ news) {vs : List Value} {es : List En} (x : EnsIn g nx vs es) : EnsAt h vs es :=
  pd_imp (fun _ _ y => y.at F N hs) x
theorem EnsIn.mono {g : Heap} {nx nx' : List (Addr × Obj)} (hs : ∀ q ∈ nx, q ∈ nx') {vs : List Value} {es : List En} (x : EnsIn g nx vs es) : EnsIn g nx' vs es := pd_imp (fun _ _ y => y.mono hs) x
theorem EnsIn.base {g : Heap} {nx : List (Addr × Obj)} {vs : List Value} {es : List En} (x : EnsAt g vs es) : EnsIn g nx vs es := pd_imp (fun _ _ y => .base y) x
theorem take_map_succ {α β : Type} (f : α → β) (l : List α) (i : Nat) (a : α) (h : l[i]? = some a) : (l.take (i + 1)).map f = (l.take i).map f ++ [f a] := by
  rw [List.take_add_one, h]; simp
theorem pd_snoc {α β : Type} {F : α → β → Prop} {a : α} {b : β} : ∀ {l₁ : List α} {l₂ : List β}, Paired F l₁ l₂ → F a b → Paired F (l₁ ++ [a]) (l₂ ++ [b])
  | _, _, .nil, h => .cons h .nil
  | _, _, .cons x r, h => .cons x (pd_snoc r h)
def toQ : En → En
  | .i k => .q k 1
  | e => e
theorem map_toQ_db : ∀ {es : List En}, (∀ e ∈ es, KdE .db e) → es.map toQ = es
  | [], _ => rfl
  | e :: r, h => by
    rw [List.map_cons, map_toQ_db (fun x hx => h x (.tail _ hx))]
    have := h e (.head _)
    cases e with
    | i k => exact this.elim
    | _ => rfl
section
variable {w : World} {dp un : Nat} {fr : Option (List Env)} {gd : Option (List Code)} {s : Shared} {p : Program} {loose : List Str} {mean : ExcName → Option Value} {mg mb : Str → Option Value} {Q : Value → Shared → Prop} {E : Value → Shared → Prop}
theorem numitems_spec {x l : Addr} {kd : Kd} {u : Tok} {vs : List Value} {es : List En} (X : (hd.heap_1 w.params).In s.heap) (T : Top p loose mean mg mb s.heap) (Rm : Room (Ar dp un fr gd) 6)
   (hV : VecAt w.params s.heap x (.str (kS kd) u) (.ref l)) (hl : s.heap.IsList l vs.toArray) (hv : EnsAt s.heap vs es) (hk : ∀ e ∈ es, KdE kd e) (hz : es.length ≤ 100)
   (h : ∀ h' tk l' vs', s.heap.StaysIn h' → h'.IsList l' vs'.toArray → EnsAt h' vs' (es.map toQ) → Q (.ref l') { s with heap := h', toks := tk }) :
   wpAny (MM w) (Ar dp un fr gd) (call (.ref 194) [.ref x]) Q E s := by
  refine goal_var fun G9 hG9 => ?_
  obtain ⟨dx, t1, t2, t3, t4, t5, hx, hdx⟩ := hV
  refine hG9 ?_
  clear hG9 G9
  refine wpAny_call ?_
  refine' enter_def (binds := [("v", .ref x)]) s.heap [] X T Rm (fun _ _ e => e) (Nat.le_refl _) (fun _ hq => nomatch hq) ?k6 ?k7 ?k9 ?kB ?_ ?c2 ?c3 ?c4 ?c5
  (case k6 => k_dflt k_is)
  (case k7 => k_dflt k_is)
  (case k9 => k_dflt exact BindsTo.of_eq rfl)
  (case kB => k_dflt exact locs rfl)
  (case c2 => k_dflt exact rfl)
  (case c3 => k_dflt exact rfl)
  (case c4 => k_dflt exact rfl)
  (case c5 => k_dflt decide)
  intro L h₁ Rm' F N k₁ hL
  (try dsimp only)
  (try k_fold)
  unfold vecES at hdx
  have hlen := pd_len hv
  by_cases hdb : kd = .db
  · subst hdb
    simp only [kS] at *
    k_steps
    all_goals walk_at "MINE end"
    rw [map_toQ_db hk] at h
    exact h _ _ _ _ (Fr.keep (by assumption)) (hl.at fun o e => Fr.keep (by assumption) _ _ e) (hv.keeps (Fr.keep (by assumption)))
  · have hke : ∀ e ∈ es, e = .no ∨ ∃ k, e = .i k := fun e he => by
      have := hk e he
      cases e with
      | no => exact .inl rfl
      | i k => exact .inr ⟨k, rfl⟩
      | q n d => cases kd <;> first | exact absurd rfl hdb | exact this.elim
    have hks : kS kd = "logical" ∨ kS kd = "integer" := by cases kd <;> first | exact .inl rfl | exact .inr rfl | exact absurd rfl hdb
    generalize kS kd = ks at *
    rcases hks with rfl | rfl
    all_goals (
      k_steps
      refine' comp_base (J := fun i ys nx => EnsIn s.heap nx ys ((es.take i).map toQ)) ?hL ?hh hl ?F ?N ?j ?sz ?turn ?done
      case F => assumption
      case N => assumption
      case hL => rfl
      case hh => rfl
      case j => exact .nil
      case sz => omega
      case turn =>
        intro i v ys nx h' tk I C D oI oL mv nD hi hys hoff hJ hmv hC F1 N1 hoL
        refine wpAny_tests_nil ?_
        simp only [if_true]
        refine post_var fun Q8 hQ8 => ?_
        refine goal_var fun G9 hG9 => ?_
        obtain ⟨e, he, hve⟩ := pd_get hv hi
        refine hG9 ?_
        clear hG9 G9
        rcases hke e (List.mem_of_getElem? he) with rfl | ⟨k, rfl⟩
        · obtain rfl := hve
          k_steps
          refine hQ8 _ _ ?_
          refine elt_end nx (by assumption) (by assumption) ?_ hoff ?_
          · walk_at "MINE sub"
          · rw [take_map_succ _ _ _ _ he]; exact pd_snoc hJ rfl
        · obtain ⟨t, rfl⟩ := hve
          k_steps
          refine hQ8 _ _ ?_
          refine elt_new (by assumption) (by assumption) (by assumption) hoff ?_
          rw [take_map_succ _ _ _ _ he]
          exact pd_snoc (hJ.mono fun q hq => .tail _ hq) (.new (.head _))
      case done =>
        intro hp D ys nD nx h' tk hys hJ hoff N1 F2 N2
        k_steps
        all_goals walk_at "MINE end"
        rw [hlen, List.take_length] at hJ
        exact h _ _ _ _ (Fr.keep (by assumption)) ⟨_, News.get N1 (.head _), rfl, nD, rfl⟩ (hJ.at F2 N1 fun q hq => .tail _ hq))
end

section
variable {w : World} {A : Around} {E : Value → Shared → Prop} {s : Shared} {h₀ : Heap} {L l : Addr} {m : Str → Option Value} {news : List (Addr × Obj)} {vs : List Value} {Q : Value → Shared → Prop} {x : Nat → Int}
/-- a key's end: a new pair (0, z) -/
def KeyEnd (z : Int) (s : Shared) (k : Value) (s' : Shared) : Prop :=
  ∃ q h' tk t u, k = .ref q ∧ s' = { s with heap := h', toks := tk } ∧ s.heap.StaysIn h' ∧ s.heap.get? q = none ∧ h'.get? q = some (tupO [.int 0 t, .int z u])
/-- the pairs made are listed -/
def KeysIn (own : List (Addr × Obj)) (x : Nat → Int) (ks : List Value) : Prop := ∀ (j : Nat) (v : Value), ks[j]? = some v → ∃ q t u, v = .ref q ∧ (q, tupO [.int 0 t, .int (x j) u]) ∈ own
theorem KeysIn.snoc {own : List (Addr × Obj)} {ks : List Value} {q : Addr} {t u : Tok} {i : Nat} (h : KeysIn own x ks) (hi : ks.length = i) : KeysIn ((q, tupO [.int 0 t, .int (x i) u]) :: own) x (ks ++ [.ref q]) := fun j v e => by
  by_cases hj : j < ks.length
  · rw [List.getElem?_append_left hj] at e
    obtain ⟨q', t', u', e1, e2⟩ := h j v e
    exact ⟨q', t', u', e1, .tail _ e2⟩
  · rw [List.getElem?_append_right (by lia)] at e
    have hj0 : j - ks.length = 0 := by
      cases hd : j - ks.length with
      | zero => rfl
      | succ k => rw [hd] at e; simp at e
    rw [hj0] at e
    cases e
    have : j = i := by lia
    subst this
    exact ⟨q, t, u, rfl, .head _⟩
theorem keys_tups {h : Heap} {own : List (Addr × Obj)} : ∀ {ks : List Value} {x : Nat → Int}, (∀ p ∈ own, h.get? p.1 = some p.2) → KeysIn own x ks → ∃ fs : List Value, KatTups h ks fs ∧ fs.length = ks.length ∧ ∀ v ∈ fs, ∃ t, v = .int 0 t
  | [], _, _, _ => ⟨[], .nil, rfl, fun v hv => by cases hv⟩
  | k :: r, x, hg, hk => by
    refine goal_var fun G9 hG9 => ?_
    obtain ⟨q, t, u, e1, e2⟩ := hk 0 k rfl
    refine hG9 ?_
    clear hG9 G9
    subst e1
    refine goal_var fun G9 hG9 => ?_
    obtain ⟨fs, a, b, c⟩ := keys_tups (ks := r) (x := fun j => x (j + 1)) hg fun j v e => hk (j + 1) v e
    refine hG9 ?_
    clear hG9 G9
    refine ⟨.int 0 t :: fs, .cons (hg _ e2) rfl rfl rfl a, by rw [List.length_cons, List.length_cons, b], fun v hv => ?_⟩
    rcases List.mem_cons.mp hv with rfl | hv
    · exact ⟨t, rfl⟩
    · exact c v hv
theorem key_ask {own : List (Addr × Obj)} {ks : List Value} (hg : ∀ p ∈ own, s.heap.get? p.1 = some p.2) (hk : KeysIn own x ks) {i j : Nat} (hi : i < ks.length) (hj : j < ks.length) {C : Bool → Shared → Prop} (h : C (ltx x i j) s) :
    kas_ask PR w A (tuples' true) ks i j C s := by
  refine goal_var fun G9 hG9 => ?_
  obtain ⟨q, t, u, e1, m1⟩ := hk i _ (List.getElem?_eq_getElem hi)
  obtain ⟨q', t', u', e2, m2⟩ := hk j _ (List.getElem?_eq_getElem hj)
  refine hG9 ?_
  clear hG9 G9
  unfold kas_ask
  rw [List.getD_eq_getElem?_getD, List.getD_eq_getElem?_getD, List.getElem?_eq_getElem hi, List.getElem?_eq_getElem hj, Option.getD_some, Option.getD_some, e1, e2]
  refine kat_lt (hg _ m1) rfl (hg _ m2) rfl (kat_cons (wpAny_eqBool_int ?_))
  refine kat_yes (kat_cons (wpAny_eqBool_int ?_))
  by_cases he : x i = x j
  · rw [show (x i == x j) = true by simpa using he]
    refine kat_yes (kat_nil ?_)
    have e3 : ltx x i j = false := decide_eq_false (by lia)
    rw [e3] at h
    exact h
  · rw [show (x i == x j) = false by simpa using he]
    refine kat_no (kat_one _ _ (lt_int ?_))
    exact h
/-- sorted by keys that are pairs (0, x i) -/
theorem keys_run {f : Value} {kS D : Addr} {e1 : Nat} (turn : ∀ i v h tk own, vs[i]? = some v → Fr h₀ L h m → News h₀ L h (own ++ news) → wpAny (MM w) A (call f [v]) (KeyEnd (x i) { s with heap := h, toks := tk }) (fun _ _ => False) { s with heap := h, toks := tk })
    {Fin : List Value → Nat → Shared → Prop} (hkD : kS ≠ D) (hnk : ∀ q ∈ news, q.1 ≠ kS ∧ q.1 ≠ D)
    (fin : ∀ ks e h tk own, ks.length = vs.length → KeysIn own x ks → Fr h₀ L h m → News h₀ L h ((kS, seqObj "list" ks.toArray e) :: (D, seqObj "list" #[] e1) :: (own ++ news)) → (∀ q ∈ own, q.1 ≠ kS ∧ q.1 ≠ D) → Fin ks e { s with heap := h, toks := tk }) :
    ∀ (r ks : List Value) (e : Nat) (h : Heap) (tk : Nat) (own : List (Addr × Obj)), ks.length + r.length = vs.length → (∀ j, r[j]? = vs[ks.length + j]?) → KeysIn own x ks → Fr h₀ L h m →
      News h₀ L h ((kS, seqObj "list" ks.toArray e) :: (D, seqObj "list" #[] e1) :: (own ++ news)) → (∀ q ∈ own, q.1 ≠ kS ∧ q.1 ≠ D) → KatKeys PR w A h₀ L m kS f Fin r ks e { s with heap := h, toks := tk }
  | [], ks, e, h, tk, own, hl, hr, hk, F, N, ho => .nil (fin ks e h tk own (by simpa using hl) hk F N ho)
  | v :: r, ks, e, h, tk, own, hl, hr, hk, F, N, ho => by
    have hv : vs[ks.length]? = some v := (hr 0).symm
    refine .cons (wpAny_mono (turn ks.length v h tk ((kS, seqObj "list" ks.toArray e) :: (D, seqObj "list" #[] e1) :: own) hv F N) (fun k s' hk' => ?_) fun _ _ q => q)
    refine goal_var fun G9 hG9 => ?_
    obtain ⟨q, h', tk', t, u, rfl, rfl, st, hq, ho'⟩ := hk'
    refine hG9 ?_
    clear hG9 G9
    have F' := fr_st F st
    have N' := news_new F N st hq ho'
    have hne := news_lt F N hq
    have hqk : kS ≠ q := hne _ (.head _)
    have hqD : D ≠ q := hne _ (.tail _ (.head _))
    refine KatBack.intro F' (news := (kS, seqObj "list" ks.toArray e) :: (D, seqObj "list" #[] e1) :: ((q, tupO [.int 0 t, .int (x ks.length) u]) :: own ++ news)) (fun p hp => N' p ?_) (.head fun p hp => ?_) fun h2 c F2 N2 => ?_
    · revert p
      walk_at "MINE sub"
    · simp only [List.mem_cons, List.mem_append] at hp
      rcases hp with rfl | (rfl | hp) | hp
      · exact Ne.symm hkD
      · exact Ne.symm hqk
      · exact (ho p hp).1
      · exact (hnk p hp).1
    · refine keys_run turn hkD hnk fin r (ks ++ [.ref q]) c h2 tk' ((q, tupO [.int 0 t, .int (x ks.length) u]) :: own) ?_ (fun j => ?_) (hk.snoc rfl) F2 N2 fun p hp => ?_
      · rw [List.length_append, List.length_singleton]; rw [List.length_cons] at hl; lia
      · rw [List.length_append, List.length_singleton, show ks.length + 1 + j = ks.length + (j + 1) by lia, ← hr (j + 1)]; rfl
      · rcases List.mem_cons.mp hp with rfl | hp
        · exact ⟨Ne.symm hqk, Ne.symm hqD⟩
        · exact ho p hp
theorem int_looks {M : Model} {t : Tok} : Looks M s.heap (typeOf (.int 0 t)) (.type "int") := Looks.of_pure rfl
theorem map_range_getD (v : Value) : [v] = ((List.range 1).map fun i => [v].getD i Value.none) := rfl
/-- what sorted gives -/
def SortOut (x : Nat → Int) (vs out : List Value) : Prop := ∃ p : Array Nat, PermN vs.length p ∧ Asc x p vs.length ∧ out = p.toList.map fun i => vs.getD i Value.none
theorem sorted_one {f v : Value} (F : Fr h₀ L s.heap m) (N : News h₀ L s.heap news) (hl : s.heap.IsList l [v].toArray)
    (ha1 : argsOk "sorted" ⟨[.ref l], [(Str.ofString "key", f)]⟩) (ha2 : ∀ x, argsOk "list.sort" ⟨[.ref x], [(Str.ofString "key", f)]⟩) (ht : ∀ x, Builtin.«list.sort» ⟨[.ref x], [(Str.ofString "key", f)]⟩ = ksk_tree x f false)
    (turn : ∀ h tk own, Fr h₀ L h m → News h₀ L h (own ++ news) → wpAny (MM w) A.in1.in1 (call f [v]) (KeyEnd (x 0) { s with heap := h, toks := tk }) (fun _ _ => False) { s with heap := h, toks := tk })
    (h : ∀ D h' tk c, Fr h₀ L h' m → News h₀ L h' ((D, listOf [v].toArray c) :: news) → (∀ q ∈ news, q.1 < D) → Q (.ref D) { s with heap := h', toks := tk }) :
    wpAny (MM w) A (call (.builtin "sorted") [.ref l] [(Str.ofString "key", f)]) Q E s := by
  refine call_function_entry_kw kind_sorted plain_sorted entry_sorted ha1 ?_
  unfold Builtin.«sorted»
  refine wpAny_bind (m := checkCount "sorted" 1 1 _) (wpAny_pure ?_)
  refine wpAny_bind (collect_list hl ?_ (by rw [sizeLine_eq]; simp))
  refine wpAny_bind (wpAny_newList ?_ (by rw [sizeLine_eq]; simp))
  have F1 : Fr h₀ L ((s.heap.push (seqObj "list" #[] 0)).update s.heap.objs.size (Obj.mapSeq (· ++ [v].toArray))) m := by
    have nL : s.heap.objs.size ≠ L := Nat.ne_of_gt F.ns.lt
    exact kas_fr (F.push _) (Heap.SameBut.update ..) nL (Heap.get?_none_of_le (Nat.le_trans F.above (Nat.le_of_lt F.ns.lt)))
  have N1 : News h₀ L ((s.heap.push (seqObj "list" #[] 0)).update s.heap.objs.size (Obj.mapSeq (· ++ [v].toArray))) news :=
    kas_news (fun q hq => ⟨Heap.get?_push_of_some _ (N q hq).1, (N q hq).2⟩) (Heap.SameBut.update ..) fun q hq => Nat.ne_of_lt (Heap.lt_size (N q hq).1)
  have hz1 : s.heap.objs.size ≤ ((s.heap.push (seqObj "list" #[] 0)).update s.heap.objs.size (Obj.mapSeq (· ++ [v].toArray))).objs.size := by rw [Heap.size_update, Heap.size_push]; lia
  generalize ((s.heap.push (seqObj "list" #[] 0)).update s.heap.objs.size (Obj.mapSeq (· ++ [v].toArray))) = h1 at *
  have hoD : (h1.push (seqObj "list" [v].toArray 0)).get? h1.objs.size = some (seqObj "list" [v].toArray 0) := Heap.get?_push_size _ rfl
  have F2 := F1.push (seqObj "list" [v].toArray 0)
  have N2 : News h₀ L (h1.push (seqObj "list" [v].toArray 0)) news := fun q hq => ⟨Heap.get?_push_of_some _ (N1 q hq).1, (N1 q hq).2⟩
  have hDL : h1.objs.size ≠ L := Nat.ne_of_gt F1.ns.lt
  have hD0 : h₀.get? h1.objs.size = none := Heap.get?_none_of_le (Nat.le_trans F1.above (Nat.le_of_lt F1.ns.lt))
  have hlt : ∀ q ∈ news, q.1 < h1.objs.size := fun q hq => Heap.lt_size (N1 q hq).1
  show wpAny _ _ _ _ _ { s with heap := h1.push (seqObj "list" [v].toArray 0) }
  generalize (h1.push (seqObj "list" [v].toArray 0)) = h2 at *
  generalize h1.objs.size = D at *
  refine wpAny_bind (wpAny_holding (wpAny_call_entry_kw slot_list_sort ⟨_, hoD, rfl⟩ entry_list_sort ?body (ha2 _)))
  case body =>
    show wpAny (MM w) A.in1.in1 (Builtin.«list.sort» ⟨[.ref D], _⟩) _ _ _
    rw [ht]
    unfold ksk_tree
    have s1 := Heap.SameBut.update h2 D (Obj.mapSeq fun _ => (#[] : Array Value))
    obtain ⟨e1, ho1⟩ : ∃ e1, (h2.update D (Obj.mapSeq fun _ => (#[] : Array Value))).get? D = some (seqObj "list" #[] e1) := ⟨_, get?_update_seq hoD fun _ => #[]⟩
    refine wpAny_bind (listItems_at hoD rfl ?_)
    refine wpAny_bind (listUpdate_at hoD rfl ?_ (by rw [sizeLine_eq]; simp) (Nat.zero_le _))
    refine wpAny_bind (seqEpoch_at ho1 rfl ?_)
    refine wpAny_bind (wpAny_newTuple ?_ (by rw [sizeLine_eq]; simp))
    refine wpAny_bind (wpAny_newList ?_ (Nat.zero_le _))
    refine wpAny_holding ?_
    have F3 := kas_fr F2 s1 hDL hD0
    have N3 := kas_news N2 s1 fun q hq => Nat.ne_of_lt (hlt q hq)
    generalize (h2.update D (Obj.mapSeq fun _ => (#[] : Array Value))) = h3 at *
    have F4 := (F3.push (seqObj "tuple" [v].toArray 0)).push (seqObj "list" #[] 0)
    have hkS : (((h3.push (seqObj "tuple" [v].toArray 0)).push (seqObj "list" #[] 0))).get? (h3.push (seqObj "tuple" [v].toArray 0)).objs.size = some (seqObj "list" #[] 0) := Heap.get?_push_size _ rfl
    have hDk : D < (h3.push (seqObj "tuple" [v].toArray 0)).objs.size := by rw [Heap.size_push]; exact Nat.lt_succ_of_lt (Heap.lt_size ho1)
    have hLk : L < (h3.push (seqObj "tuple" [v].toArray 0)).objs.size := (F3.push _).ns.lt
    have N4 : News h₀ L ((h3.push (seqObj "tuple" [v].toArray 0)).push (seqObj "list" #[] 0)) (((h3.push (seqObj "tuple" [v].toArray 0)).objs.size, seqObj "list" #[] 0) :: (D, seqObj "list" #[] e1) :: news) := fun q hq => by
      rcases List.mem_cons.mp hq with rfl | hq
      · exact ⟨hkS, Nat.ne_of_gt hLk, Heap.get?_none_of_le (Nat.le_trans F.above (Nat.le_of_lt hLk))⟩
      · rcases List.mem_cons.mp hq with rfl | hq
        · exact ⟨Heap.get?_push_of_some _ (Heap.get?_push_of_some _ ho1), hDL, hD0⟩
        · exact ⟨Heap.get?_push_of_some _ (Heap.get?_push_of_some _ (N3 q hq).1), (N3 q hq).2⟩
    show wpAny _ _ _ _ _ { s with heap := ((h3.push (seqObj "tuple" [v].toArray 0)).push (seqObj "list" #[] 0)) }
    generalize ((h3.push (seqObj "tuple" [v].toArray 0)).push (seqObj "list" #[] 0)) = h4 at *
    generalize (h3.push (seqObj "tuple" [v].toArray 0)).objs.size = kS at *
    unfold ksk_rest
    refine wpAny_bind (wpAny_rule ?_)
    rw [← Array.forIn_toList]
    simp only [List.toList_toArray]
    rw [List.forIn_cons]
    refine wpAny_bind (wpAny_bind (wpAny_bind (wpAny_attempt (wpAny_mono (turn h4 s.toks [(kS, seqObj "list" #[] 0), (D, seqObj "list" #[] e1)] F4 N4) (fun k s' hk' => ?_) fun _ _ q => q.elim))))
    refine goal_var fun G9 hG9 => ?_
    obtain ⟨q, h', tk', t, u, rfl, rfl, st, hq, ho'⟩ := hk'
    refine hG9 ?_
    clear hG9 G9
    have F5 := fr_st F4 st
    have N5 := news_new F4 N4 st hq ho'
    try dsimp only
    have nk := N5 (kS, seqObj "list" #[] 0) (.tail _ (.head _))
    have hkq : q ≠ kS := fun e => by rw [e] at hq; have := (N4 _ (.head _)).1; rw [hq] at this; cases this
    have s2 := Heap.SameBut.update h' kS (Obj.mapSeq (·.push (.ref q)))
    obtain ⟨c2, hc2⟩ : ∃ c2, (h'.update kS (Obj.mapSeq (·.push (.ref q)))).get? kS = some (seqObj "list" [Value.ref q].toArray c2) := ⟨_, get?_update_seq nk.1 (·.push (.ref q))⟩
    refine wpAny_bind (listUpdate_at nk.1 rfl ?_ (by rw [sizeLine_eq]; simp) (by rw [sizeLine_eq]; simp))
    refine wpAny_pure (wpAny_pure ?_)
    refine wpAny_bind (listItems_at hc2 rfl ?_)
    unfold ksk_end
    simp only [Bool.false_eq_true, if_false]
    rw [if_pos (show [v].toArray.size < 2 from Nat.lt_succ_self 1), if_pos (show [v].toArray.size < 2 from Nat.lt_succ_self 1)]
    refine wpAny_bind (wpAny_pure ?_)
    refine wpAny_bind (wpAny_pure ?_)
    have F6 := kas_fr F5 s2 nk.2.1 nk.2.2
    have hDne : ∀ p ∈ news, p.1 ≠ kS := fun p hp e => absurd (hlt p hp) (by rw [e]; exact Nat.not_lt.mpr (Nat.le_of_lt hDk))
    have N6 : News h₀ L (h'.update kS (Obj.mapSeq (·.push (.ref q)))) ((kS, seqObj "list" [Value.ref q].toArray c2) :: (D, seqObj "list" #[] e1) :: news) := fun p hp => by
      rcases List.mem_cons.mp hp with rfl | hp
      · exact ⟨hc2, nk.2⟩
      · rcases List.mem_cons.mp hp with rfl | hp
        · have n1 := N5 (D, seqObj "list" #[] e1) (.tail _ (.tail _ (.head _)))
          exact ⟨(s2.2 _ (Nat.ne_of_lt hDk)).trans n1.1, n1.2⟩
        · have n1 := N5 p (.tail _ (.tail _ (.tail _ hp)))
          exact ⟨(s2.2 _ (hDne p hp)).trans n1.1, n1.2⟩
    refine kat_tail (ks := [Value.ref q]) (out := [v]) (e := c2) (e1 := e1) (h₀ := h₀) (L := L) (m := m) (by show (#[Value.ref q].zip #[v]).map (·.2) = #[v]; simp) (by simp) (by simp) rfl ?_
    refine KatFin.intro F6 N6 (.head fun p hp => ?_) fun h7 c7 F7 N7 => KasFin.intro F7 N7 (.tail (Nat.ne_of_gt hDk) (.head fun p hp => Nat.ne_of_lt (hlt p hp))) fun h8 c8 F8 N8 => ?_
    · rcases List.mem_cons.mp hp with rfl | hp
      · exact Nat.ne_of_lt hDk
      · exact hDne p hp
    · refine ⟨_, rfl, wpAny_pure ⟨_, rfl, ?_⟩⟩
      exact h D h8 tk' c8 F8 (fun p hp => N8 p (.tail _ hp)) hlt
theorem sorted_by {f : Value} (F : Fr h₀ L s.heap m) (N : News h₀ L s.heap news) (hl : s.heap.IsList l vs.toArray) (h64 : vs.length < 64)
    (ha1 : argsOk "sorted" ⟨[.ref l], [(Str.ofString "key", f)]⟩) (ha2 : ∀ x, argsOk "list.sort" ⟨[.ref x], [(Str.ofString "key", f)]⟩) (ht : ∀ x, Builtin.«list.sort» ⟨[.ref x], [(Str.ofString "key", f)]⟩ = ksk_tree x f false)
    (turn : ∀ i v h tk own, vs[i]? = some v → Fr h₀ L h m → News h₀ L h (own ++ news) → wpAny (MM w) A.in1.in1 (call f [v]) (KeyEnd (x i) { s with heap := h, toks := tk }) (fun _ _ => False) { s with heap := h, toks := tk })
    (h : ∀ D h' tk out c, Fr h₀ L h' m → News h₀ L h' ((D, listOf (List.toArray out) c) :: news) → (∀ q ∈ news, q.1 < D) → SortOut x vs out → Q (.ref D) { s with heap := h', toks := tk }) :
    wpAny (MM w) A (call (.builtin "sorted") [.ref l] [(Str.ofString "key", f)]) Q E s := by
  by_cases h2 : 2 ≤ vs.length
  · refine kat_sortedK F N hl h2 h64 ha1 ha2 ht fun D kS e1 h' F' N' lt1 lt2 => ?_
    have hkD : kS ≠ D := Nat.ne_of_gt lt1
    have hnk : ∀ q ∈ news, q.1 ≠ kS ∧ q.1 ≠ D := fun q hq => ⟨Nat.ne_of_lt (Nat.lt_trans (lt2 q hq) lt1), Nat.ne_of_lt (lt2 q hq)⟩
    refine keys_run (x := x) (news := news) turn hkD hnk (fun ks e h3 tk own hl3 hk3 F3 N3 ho3 => ?_) vs [] 0 h' _ [] (by simp) (fun j => by simp) (fun j v e => by simp at e) F' N' fun q hq => by cases hq
    have hg : ∀ p ∈ own, h3.get? p.1 = some p.2 := fun p hp => (N3 p (.tail _ (.tail _ (List.mem_append_left _ hp)))).1
    refine goal_var fun G9 hG9 => ?_
    obtain ⟨fs, hf1, hf2, hf3⟩ := keys_tups hg hk3
    refine hG9 ?_
    clear hG9 G9
    refine kat_kind (T := .type "int") hf1 (by lia) (fun v hv => by obtain ⟨t, rfl⟩ := hf3 v hv; exact Looks.of_pure rfl) rfl ?_
    show (kas_sort vs.length).kasWp (kas_ask PR w A.in1.in1 (tuples' true) ks) _ _
    refine kasTo_wp (lt := ltx x) (n := vs.length) (P := fun p => PermN vs.length p ∧ Asc x p vs.length) (fun s' => s' = { s with heap := h3, toks := tk }) (fun i j C s' hi hj hs hC => ?_) (fun p s' hp hs => ?_) (sort_ok x vs.length (by lia)) rfl
    · subst hs
      exact key_ask hg hk3 (by lia) (by lia) (hC _ rfl)
    · subst hs
      refine KatFin.intro F3 N3 (.head fun p hp => ?_) fun h7 c7 F7 N7 => KasFin.intro F7 N7 (.tail hkD (.head fun p hp => ?_)) fun h8 c8 F8 N8 => ?_
      · simp only [List.mem_cons, List.mem_append] at hp
        rcases hp with rfl | hp | hp
        · exact Nat.ne_of_lt lt1
        · exact (ho3 p hp).1
        · exact (hnk p hp).1
      · simp only [List.mem_append] at hp
        rcases hp with hp | hp
        · exact (ho3 p hp).2
        · exact (hnk p hp).2
      · refine h D h8 tk _ c8 F8 (fun p hp => ?_) lt2 ⟨p, hp.1, hp.2, rfl⟩
        rcases List.mem_cons.mp hp with rfl | hp
        · exact N8 _ (.tail _ (.head _))
        · exact N8 _ (.tail _ (.tail _ (List.mem_append_right _ hp)))
  · by_cases h1 : vs.length = 1
    · obtain ⟨v, rfl⟩ := List.length_eq_one_iff.mp h1
      refine sorted_one (x := x) F N hl ha1 ha2 ht (fun h3 tk own => turn 0 v h3 tk own rfl) fun D h' tk c F' N' lt => ?_
      refine h D h' tk [v] c F' N' lt ⟨#[0], ⟨rfl, List.Perm.refl _⟩, fun i j a b => ?_, rfl⟩
      have e1 : j = 0 := by have : j < 1 := b; lia
      have e2 : i = 0 := by lia
      subst e1; subst e2
      exact Int.le_refl _
    · have h0 : vs = [] := List.eq_nil_of_length_eq_zero (by lia)
      subst h0
      refine ksk_sorted (kz := []) F N hl rfl (by decide) ha1 ha2 ht (fun i v k e => by simp at e) fun D h' tk out c F' N' lt ko => ?_
      refine goal_var fun G9 hG9 => ?_
      obtain ⟨ps, hp, ho, _⟩ := ko
      refine hG9 ?_
      clear hG9 G9
      have e1 : ps = [] := by simpa using hp
      subst e1
      have e2 : out = #[] := by simpa using ho
      subst e2
      exact h D h' tk [] c F' N' lt ⟨#[], ⟨rfl, List.Perm.refl _⟩, fun i j a b => absurd b (Nat.not_lt_zero _), rfl⟩
end

section
variable {w : World} {A : Around} {s : Shared} {g : Heap} {p : Program} {loose : List Str} {mean : ExcName → Option Value} {mg mb : Str → Option Value}
  {R : Result → Shared → Prop} {name qual : Str} {params : Arguments} {body : List Stmt} {scope : Scope} {dV kV doc pm cdv ct oc : Value} {an od : Option Addr} {osl : Array (Option Value)} {f : Addr} {args : Args} {binds : List (Str × Value)} {cl : List (Str × Addr)}
/-- entering a closure -/
theorem enter_fn {n : Nat} (g : Heap) (hs : List (Addr × Obj)) (T : Top p loose mean mg mb g) (Rm : Room A (n + 1))
    (hg : ∀ b o, g.get? b = some o → s.heap.get? b = some o) (hz : g.objs.size ≤ s.heap.objs.size) (hN : ∀ q ∈ hs, s.heap.get? q.1 = some q.2 ∧ g.get? q.1 = none)
    (ho : s.heap.get? f = some ⟨oc, od, .func (fnX name qual params body scope cl dV kV doc pm an cdv ct), osl⟩) (hcd : s.heap.CodeRec cdv qual)
    (hbind : BindsTo s (fnX name qual params body scope cl dV kV doc pm an cdv ct) args binds) (hloc : ∀ y ∈ binds, scope.names.lookup y.1 = some .local)
    (h : ∀ L' h₁, Room (A.deeper (envX qual scope L' f cdv cl)) n → Fr g L' h₁ (fun y => binds.reverse.lookup y) → News g L' h₁ hs → (∀ b o, s.heap.get? b = some o → h₁.get? b = some o) → s.heap.objs.size = L' →
      wpAny (MM w) (A.deeper (envX qual scope L' f cdv cl)) (execs body (envX qual scope L' f cdv cl))
        (fun fl s' => R (.ok (.ret (match fl with | .ret v => v | _ => .none))) s')
        (fun e s' => wpAny (MM w) (A.deeper (envX qual scope L' f cdv cl)) (leaving (envX qual scope L' f cdv cl) e) (fun _ s'' => R (.error e) s'') (fun e' s'' => R (.error e') s'') s')
        { s with heap := h₁, toks := s.toks + binds.length })
    (hco : scope.isCoroutine = false) (hgen : scope.isGenerator = false) (hk : scope.kind = .function)
    (hcell : ∀ x ∈ scope.names, x.2 ≠ .cell) : codeAny (MM w) A (.call (.ref f) args) R s := by
  refine codeAny_call_def (fd := fnX name qual params body scope cl dV kV doc pm an cdv ct) (body := body) (binds := binds) Rm.room ho rfl (T.nolimit.keeps hg) hcd rfl hbind hcell hloc (fun h₁ hns hk₁ => ?_) hco hgen hk
  exact h s.heap.objs.size h₁ Rm.deeper ⟨hns, fun b o e => hk₁ b o (hg b o e), hz⟩
    (fun q hq => ⟨hk₁ _ _ (hN q hq).1, Nat.ne_of_lt (Heap.lt_size (hN q hq).1), (hN q hq).2⟩) hk₁ rfl
end
theorem nameX_FB {M : Model} {A : Around} {E : Value → Shared → Prop} {s : Shared} {h₀ : Heap} {L a c : Addr} {o : Obj} {m : Str → Option Value} {cn : Str} {cs : Scope} {ccd : Value} {cl : List (Str × Addr)} {x : Str} {pos : Pos} {v : Value} {Q : Value → Shared → Prop}
    (F : Fr h₀ L s.heap m) (hc : cl.lookup x = some c) (hm : h₀.get? c = some o) (hd : o.data = .cell (some v)) (h : Q v s)
    (hk : cs.kind = .function) (hx : (envX cn cs L a ccd cl).kindOf x = some .free) (hb : (x == ("__debug__" : Str)) = false) (hn : (x == ("__classdict__" : Str)) = false) :
    wpAny M A (eval (.Name x pos) (envX cn cs L a ccd cl)) Q E s := wpAny_Name (wpAny_loadName_free hk hx hc ⟨o, F.keep _ _ hm, hd⟩ h hn) hb
--REG
local macro_rules | `(tactic| walk_at "eval Name") => `(tactic| (k_here; k_dflt (refine' nameX_FB ?F ?c ?m ?d ?_ ?k ?l ?b ?n; (case k => rfl); (case l => rfl); (case b => decide); (case n => decide); (case F => k_asm); (case c => rfl); (case m => with_reducible assumption); (case d => k_asm); k_whole)))
set_option hygiene false in
local macro_rules | `(tactic| walk_at "exec FunctionDef") => `(tactic| (k_here; k_dflt (refine' nestDef_K _ _ _ _; walk_at "MINE rw")))
--END
/-- the table of places of ascending: bare, or the one code of place in it -/
def TabP (h : Heap) (ps : Array Value) : Prop := ps = #[] ∨ ∃ c', ps = #[rawInt 112, rawInt 4, .ref c'] ∧ h.CodeRec (.ref c') ("ascending.<locals>.place" : Str)
theorem tab_ne {h : Heap} {P : Addr} {ps : Array Value} (hc : h.get? P = some (tabObj ps)) {a : Addr} {o : Obj} (e : h.get? a = some o) (hn : o.cls ≠ .none) : a ≠ P := fun q => by
  rw [q, hc] at e; cases e; exact hn rfl
theorem list_hide {h : Heap} {P l : Addr} {ps : Array Value} (hc : h.get? P = some (tabObj ps)) {its : Array Value} (x : h.IsList l its) : (h.hide P).IsList l its := by
  obtain ⟨o, e, c, n, d⟩ := x
  exact ⟨o, (Heap.hide_ne _ (tab_ne hc e (by rw [c]; nofun))).trans e, c, n, d⟩
theorem en_hide {h : Heap} {P : Addr} {ps : Array Value} (hc : h.get? P = some (tabObj ps)) {v : Value} : ∀ {e : En}, EnAt h v e → EnAt (h.hide P) v e
  | .no, x => x
  | .i _, x => x
  | .q _ _, ⟨a, t, u, e, o, ho, hcl, r⟩ => ⟨a, t, u, e, o, (Heap.hide_ne _ (tab_ne hc ho (by rw [hcl]; nofun))).trans ho, hcl, r⟩
theorem ens_hide {h : Heap} {P : Addr} {ps : Array Value} (hc : h.get? P = some (tabObj ps)) {vs : List Value} {es : List En} (x : EnsAt h vs es) : EnsAt (h.hide P) vs es := pd_imp (fun _ _ y => en_hide hc y) x
theorem code_keep {h : Heap} {P : Addr} {c' : Value} (hc : h.get? P = some (tabObj #[rawInt 112, rawInt 4, c'])) {cd : Value} {q : Str} (x : h.CodeRec cd q) : (h.hide P).CodeRec cd q := by
  refine goal_var fun G9 hG9 => ?_
  obtain ⟨c, o, vs, t, e, ho, hd, hv⟩ := x
  refine hG9 ?_
  clear hG9 G9
  refine ⟨c, o, vs, t, e, (Heap.hide_ne _ fun q => ?_).trans ho, hd, hv⟩
  subst q
  rw [hc] at ho
  cases ho
  cases hd
  cases hv
def den : En → Int
  | .q _ d => d
  | _ => 1
def num : En → Int
  | .q n _ => n
  | _ => 0
def leE (a b : En) : Prop := num a * den b ≤ num b * den a
theorem le_of_keys {K na nb da db : Int} (hK : 0 < K) (ha : da ∣ K) (hb : db ∣ K) (ha0 : 0 < da) (hb0 : 0 < db) (h : na * (K / da) ≤ nb * (K / db)) : na * db ≤ nb * da := by
  refine goal_var fun G9 hG9 => ?_
  obtain ⟨ka, e1⟩ := ha
  obtain ⟨kb, e2⟩ := hb
  refine hG9 ?_
  clear hG9 G9
  rw [show K / da = ka by rw [e1]; exact Int.mul_ediv_cancel_left _ (by lia), show K / db = kb by rw [e2]; exact Int.mul_ediv_cancel_left _ (by lia)] at h
  have h2 : na * ka * (da * db) ≤ nb * kb * (da * db) := Int.mul_le_mul_of_nonneg_right h (Int.le_of_lt (Int.mul_pos ha0 hb0))
  have e3 : na * ka * (da * db) = (na * db) * K := by rw [e1]; ac_rfl
  have e4 : nb * kb * (da * db) = (nb * da) * K := by rw [e2]; ac_rfl
  rw [e3, e4] at h2
  exact Int.le_of_mul_le_mul_right h2 hK
theorem sort_out {x : Nat → Int} {K : Int} {h : Heap} {vs out : List Value} {es : List En} (hv : EnsAt h vs es) (hK : 0 < K) (hd : ∀ e ∈ es, den e ∣ K ∧ 0 < den e) (hx : ∀ j e, es[j]? = some e → x j = num e * (K / den e)) (so : SortOut x vs out) :
    ∃ es', EnsAt h out es' ∧ es'.Perm es ∧ es'.Pairwise leE := by
  refine goal_var fun G9 hG9 => ?_
  obtain ⟨p, hp, ha, rfl⟩ := so
  refine hG9 ?_
  clear hG9 G9
  have hlen := pd_len hv
  refine ⟨p.toList.map fun i => es.getD i .no, ?_, ?_, ?_⟩
  · have hm : ∀ i ∈ p.toList, EnAt h (vs.getD i Value.none) (es.getD i .no) := fun i hi => by
      have h1 : i < vs.length := by have := hp.perm.mem_iff.mp hi; simpa using this
      have h2 : vs[i]? = some vs[i] := List.getElem?_eq_getElem h1
      refine goal_var fun G9 hG9 => ?_
      obtain ⟨e, he, hve⟩ := pd_get hv h2
      refine hG9 ?_
      clear hG9 G9
      rw [List.getD_eq_getElem?_getD, List.getD_eq_getElem?_getD, h2, he]
      exact hve
    have : ∀ l : List Nat, (∀ i ∈ l, EnAt h (vs.getD i Value.none) (es.getD i .no)) → EnsAt h (l.map fun i => vs.getD i Value.none) (l.map fun i => es.getD i .no) := fun l => by
      induction l with
      | nil => intro _; exact .nil
      | cons a r ih => intro hm; exact .cons (hm a (.head _)) (ih fun i hi => hm i (.tail _ hi))
    exact this _ hm
  · have e : (List.range vs.length).map (fun i => es.getD i .no) = es := by
      refine List.ext_getElem (by simp [hlen]) fun i h1 h2 => ?_
      simp [List.getD_eq_getElem?_getD, List.getElem?_eq_getElem h2]
    have h3 := hp.perm.map (fun i => es.getD i .no)
    rw [e] at h3
    exact h3
  · rw [List.pairwise_iff_getElem]
    intro i j hi hj hij
    have hz : p.size = vs.length := hp.size
    simp only [List.length_map, Array.length_toList] at hi hj
    simp only [List.getElem_map, Array.getElem_toList]
    have hk := ha i j (Nat.le_of_lt hij) (by omega)
    have gi : p.getD i 0 = p[i] := by simp [Array.getD, hi]
    have gj : p.getD j 0 = p[j] := by simp [Array.getD, hj]
    have li := hp.lt (i := i) (by omega)
    have lj := hp.lt (i := j) (by omega)
    unfold Kx at hk
    rw [gi] at hk li
    rw [gj] at hk lj
    have ei : es[p[i]]? = some es[p[i]] := List.getElem?_eq_getElem (by omega)
    have ej : es[p[j]]? = some es[p[j]] := List.getElem?_eq_getElem (by omega)
    rw [hx _ _ ei, hx _ _ ej] at hk
    rw [List.getD_eq_getElem?_getD, List.getD_eq_getElem?_getD, ei, ej]
    have m1 := hd _ (List.mem_of_getElem? ei)
    have m2 := hd _ (List.mem_of_getElem? ej)
    exact le_of_keys hK m1.1 m2.1 m1.2 m2.2 hk
theorem den_pos {e : En} (h : OkE e) (hk : KdE .db e) (hl : lack e = false) : 0 < den e ∧ den e ≤ 6 ∧ (num e).natAbs ≤ 100 ∧ e = .q (num e) (den e) := by
  cases e with
  | no => cases hl
  | i k => exact hk.elim
  | q n d =>
    rcases h with h | h
    · exact ⟨h.1, h.2.1, h.2.2, rfl⟩
    · rw [h.1, h.2] at hl; exact absurd hl (by decide)
theorem scale_yes {K d : Int} {i : Nat} (h0 : 0 < K) (h1 : K ≤ 6 ^ i) (d0 : 0 < d) (d1 : d ≤ 6) : 0 < K * d ∧ K * d ≤ 6 ^ (i + 1) := by
  refine ⟨Int.mul_pos h0 d0, ?_⟩
  rw [Int.pow_succ]
  exact Int.mul_le_mul h1 d1 (by lia) (by lia)
theorem scale_up {K : Int} {i : Nat} (h1 : K ≤ 6 ^ i) : K ≤ 6 ^ (i + 1) := by
  rw [Int.pow_succ]
  have : (0 : Int) < 6 ^ i := Int.pow_pos (by decide)
  lia
theorem scale_top {K : Int} {i : Nat} (h1 : K ≤ 6 ^ i) (h : i ≤ 8) : K ≤ 1679616 := by
  have h2 : ∀ i : Fin 9, (6 : Int) ^ i.val ≤ 1679616 := by decide
  exact Int.le_trans h1 (h2 ⟨i, by lia⟩)
theorem forall_take_succ {α : Type} {P : α → Prop} {l : List α} {i : Nat} {a : α} (h : l[i]? = some a) (hp : ∀ x ∈ l.take i, P x) (ha : P a) : ∀ x ∈ l.take (i + 1), P x := by
  rw [List.take_add_one, h]
  intro x hx
  rcases List.mem_append.mp hx with hx | hx
  · exact hp x hx
  · simp at hx; rw [hx]; exact ha
section
variable {w : World} {dp un : Nat} {fr : Option (List Env)} {gd : Option (List Code)} {s : Shared} {p : Program} {loose : List Str} {mean : ExcName → Option Value} {mg mb : Str → Option Value} {Q : Value → Shared → Prop} {E : Value → Shared → Prop}
theorem asc_spec {g : Heap} {l : Addr} {vs : List Value} {es : List En} {ps : Array Value} (X : (hd.heap_1 w.params).In g) (T : Top p loose mean mg mb g) (st : g.StaysIn s.heap) (hgc : g.get? 203 = none) (Rm : Room (Ar dp un fr gd) 8)
   (hc : s.heap.get? 203 = some (tabObj ps)) (hps : TabP s.heap ps) (hl : s.heap.IsList l vs.toArray) (hv : EnsAt s.heap vs es) (ho : ∀ e ∈ es, OkE e ∧ KdE .db e ∧ lack e = false) (hz : es.length ≤ 8)
   (h : ∀ h' tk D vs' es' ps' nn, (∀ b o, b ≠ 203 → s.heap.get? b = some o → h'.get? b = some o) → h'.get? 203 = some (tabObj ps') → TabP h' ps' → s.heap.get? D = none → h'.get? D = some (listOf (List.toArray vs') nn) → EnsAt h' vs' es' → es'.Perm es → es'.Pairwise leE → Q (.ref D) { s with heap := h', toks := tk }) :
   wpAny (MM w) (Ar dp un fr gd) (call (.ref 208) [.ref l]) Q E s := by
  refine wpAny_call ?_
  refine' enter_defC (binds := [("items", .ref l)]) (s.heap.hide 203) [(203, tabObj ps)] (in_hide X st hgc) (T.keeps (stays_hide st hgc)) Rm (fun _ _ e => Heap.of_hide e) (Nat.le_of_eq (Heap.hide_size _ _)) (fun q hq => by rw [List.mem_singleton.mp hq]; exact ⟨hc, Heap.hide_self _ _⟩) ?k6 ?k7 ?k9 ?kB ?kN ?_ ?c2 ?c3 ?c4
  (case k6 => k_dflt k_is)
  (case k7 => k_dflt k_is)
  (case k9 => k_dflt exact BindsTo.of_eq rfl)
  (case kB => k_dflt exact rfl)
  (case kN => decide)
  (case c2 => k_dflt exact rfl)
  (case c3 => k_dflt exact rfl)
  (case c4 => k_dflt exact rfl)
  intro L h₁ tk cells Rm' F N Y k₁ hL hlt
  refine goal_var fun G9 hG9 => ?_
  obtain ⟨o', hE', d1'⟩ := CellsAre.one Y
  refine hG9 ?_
  clear hG9 G9
  subst hE'
  clear Y
  have F0 : Fr (s.heap.hide 203) L h₁ (fun y => if y = ("items" : Str) then some (.ref l) else none) := F
  clear F
  (try dsimp only)
  (try k_fold)
  have hIn : (hd.heap_1 w.params).In (s.heap.hide 203) := in_hide X st hgc
  have hTop : Top p loose mean mg mb (s.heap.hide 203) := T.keeps (stays_hide st hgc)
  have hlist := list_hide hc hl
  have hens := ens_hide hc hv
  have hC : CodeHd (s.heap.hide 203) 207 203 := codeHd_of_K hIn (by kernel_rfl)
  have h203 : (203 : Nat) < L := hlt _ (.head _)
  have hne1 : @Ne Nat (L + 1) 203 := by lia
  have hne2 : @Ne Nat 203 (L + 1) := by lia
  k_steps
  rename Fr _ _ _ _ => F1
  refine' loop_base (J := fun i m nx => (∃ u, m = updm "item" u (fun y => if y = ("items" : Str) then some (.ref l) else none)) ∧ ∃ oc K t, nx = [(L + 1, oc), (203, tabObj ps)] ∧ oc.data = .cell (some (.int K t)) ∧ 0 < K ∧ K ≤ 6 ^ i ∧ ∀ e ∈ es.take i, den e ∣ K) ?hL ?hh hlist ?F ?N ?j ?turn ?done
  case F => assumption
  case N => assumption
  case hL => rfl
  case hh => rfl
  case j => exact ⟨⟨_, (updm_self _ _).symm⟩, _, _, _, rfl, by assumption, by decide, by decide, fun e he => by simp at he⟩
  case turn =>
    intro i v m₁ nx h' tk I oI hi hne hJ F1 N1
    refine post_var fun Q8 hQ8 => ?_
    refine goal_var fun G9 hG9 => ?_
    obtain ⟨⟨u, rfl⟩, oc, K, t, rfl, hoc, hK0, hK1, hKd⟩ := hJ
    obtain ⟨e, he, hve⟩ := pd_get hens hi
    refine hG9 ?_
    clear hG9 G9
    rw [updm_twice] at F1
    obtain ⟨hoe, hke, hle⟩ := ho e (List.mem_of_getElem? he)
    cases e with
    | no => cases hle
    | i k => exact hke.elim
    | q n d =>
      refine goal_var fun G9 hG9 => ?_
      obtain ⟨a, t2, u2, rfl, ht⟩ := hve
      refine hG9 ?_
      clear hG9 G9
      have hd0 : 0 < d ∧ d ≤ 6 := by
        rcases hoe with h | h
        · exact ⟨h.1, h.2.1⟩
        · rw [h.1, h.2] at hle; exact absurd hle (by decide)
      obtain ⟨hd0, hd1⟩ := hd0
      have hup := scale_up hK1
      have hyes := scale_yes hK0 hK1 hd0 hd1
      have hnI : @Ne Nat (L + 1) I := hne _ (.head _)
      have hnI2 : @Ne Nat 203 I := hne _ (.tail _ (.head _))
      have hem : Int.fmod K d = K % d := Int.fmod_eq_emod_of_nonneg _ (by lia)
      k_steps
      all_goals refine hQ8 _ _ ?_
      · exact ⟨_, _, _, _, rfl, by assumption, by assumption, List.forall_mem_cons.mpr ⟨hnI, List.forall_mem_cons.mpr ⟨hnI2, List.forall_mem_nil _⟩⟩, ⟨_, rfl⟩, _, _, _, rfl, by assumption, hyes.1, hyes.2,
          forall_take_succ he (fun x hx => Int.dvd_trans (hKd x hx) (Int.dvd_mul_right K d)) (Int.dvd_mul_left K d)⟩
      · exact ⟨_, _, _, _, rfl, by assumption, by assumption, hne, ⟨_, rfl⟩, _, _, _, rfl, hoc, hK0, hup, forall_take_succ he hKd (show d ∣ K from Int.dvd_of_emod_eq_zero (by rw [← hem]; assumption))⟩
  case done => 
    intro m₁ nx h' tk hJ F1 N1
    refine goal_var fun G9 hG9 => ?_
    obtain ⟨⟨u, rfl⟩, oc, K, t, rfl, hoc, hK0, hK1, hKd⟩ := hJ
    refine hG9 ?_
    clear hG9 G9
    have hKt := scale_top hK1 (by rw [pd_len hv]; lia)
    rw [pd_len hv, List.take_length] at hKd
    have hds : ∀ e ∈ es, den e ∣ K ∧ 0 < den e := fun e he => ⟨hKd e he, (den_pos (ho e he).1 (ho e he).2.1 (ho e he).2.2).1⟩
    obtain ⟨xf, hx⟩ : ∃ xf : Nat → Int, ∀ (j : Nat) (e : En), es[j]? = some e → xf j = num e * (K / den e) := ⟨fun j : Nat => num (es.getD j .no) * (K / den (es.getD j .no)), fun j e he => by
      simp only [List.getD_eq_getElem?_getD, he, Option.getD_some]⟩
    have keep : ∀ {L : Addr} {h' : Heap} {m : Str → Option Value}, Fr (s.heap.hide 203) L h' m → ∀ b o, b ≠ 203 → s.heap.get? b = some o → h'.get? b = some o := fun F b o hb e => F.keep b o ((Heap.hide_ne _ hb).trans e)
    have hfresh : ∀ {q : Addr}, (s.heap.hide 203).get? q = none → q ≠ 203 → s.heap.get? q = none := fun {q} e hq => by rw [Heap.hide_ne _ hq] at e; exact e
    rcases hps with rfl | ⟨c', rfl, hcr⟩
    · k_steps
      refine' nest_K F1 N1 hTop hC rfl (.tail hne1 (.head (fun q hq => nomatch hq))) trivial rfl rfl ?_
      intro f c' oc' vs' t' ctv doc h2 tk2 F2 N2 hd2 hv2 l1 l2
      k_steps
      show wpAny _ _ (call (Value.builtin _) [Value.ref _] [(PySem.Str.ofString "key", _)]) _ _ _
      refine' sorted_by (x := xf) ?F ?N ?hl ?h64 (ksk_s1 _ _) (fun _ => ksk_l1 _ _) (fun _ => ksk_t1 _ _) ?turn ?h
      case F => assumption
      case N => assumption
      case hl => walk_at "MINE lst"
      case h64 => rw [pd_len hv]; lia
      case turn =>
        intro j v h3 tk3 own hj F3 N3
        refine goal_var fun G9 hG9 => ?_
        obtain ⟨e, he, hve⟩ := pd_get hens hj
        refine hG9 ?_
        clear hG9 G9
        rw [hx _ _ he]
        refine goal_var fun G9 hG9 => ?_
        obtain ⟨d0, d1, d2, d3⟩ := den_pos (ho e (List.mem_of_getElem? he)).1 (ho e (List.mem_of_getElem? he)).2.1 (ho e (List.mem_of_getElem? he)).2.2
        refine hG9 ?_
        clear hG9 G9
        rw [d3] at hve
        refine goal_var fun G9 hG9 => ?_
        obtain ⟨a, t3, u3, rfl, ht⟩ := hve
        refine hG9 ?_
        clear hG9 G9
        have ht3 := ht.keeps F3.keep
        generalize num e = n at *
        generalize den e = d at *
        have hfd : Int.fdiv K d = K / d := Int.fdiv_eq_ediv_of_nonneg _ (by lia)
        have hkd : 0 ≤ K / d ∧ K / d ≤ K := ⟨Int.ediv_nonneg (by lia) (by lia), Int.ediv_le_self _ (by lia)⟩
        rw [← hfd] at hkd ⊢
        have hcell := (News.get N3 (List.mem_append_right _ (by k_mem) : (L + 1, oc) ∈ _))
        have hTop3 := hTop.keeps F3.keep
        refine wpAny_call ?_
        refine' enter_fn (binds := [("item", .ref a)]) h3 [] hTop3 (Room.in1 (Room.in1 Rm')) (fun _ _ e => e) (Nat.le_refl _) (fun _ hq => nomatch hq) (News.get N3 (List.mem_append_right _ (.head _))) ?k7 ?k9 ?kB ?_ ?c2 ?c3 ?c4 ?c5
        (case k7 => first | exact codeRec_news N3 (List.mem_append_right _ (.tail _ (.head _))) hd2 hv2 | exact hcr2.keeps F3.keep)
        (case k9 => k_dflt exact BindsTo.of_eq rfl)
        (case kB => k_dflt exact locs rfl)
        (case c2 => k_dflt exact rfl)
        (case c3 => k_dflt exact rfl)
        (case c4 => k_dflt exact rfl)
        (case c5 => k_dflt decide)
        intro L3 h4 Rm4 F4 N4 k4 hL4
        (try dsimp only)
        (try k_fold)
        k_steps
        all_goals walk_at "MINE end"
        exact ⟨_, _, _, _, _, rfl, rfl, Fr.keep (by assumption), News.fresh (by assumption) (.head _), News.get (by assumption) (.head _)⟩
      case h =>
        intro D h' tk out c F' N' lt so
        refine goal_var fun G9 hG9 => ?_
        obtain ⟨es', r1, r2, r3⟩ := sort_out hens hK0 hds hx so
        refine hG9 ?_
        clear hG9 G9
        refine h h' tk D out es' _ c (keep F') (News.get N' (by k_mem)) (.inr ⟨c', rfl, codeRec_news N' (by k_mem) hd2 hv2⟩) (hfresh (News.fresh N' (.head _)) (Ne.symm (Nat.ne_of_lt (lt (203, _) (by k_mem))))) (News.get N' (.head _)) (r1.keeps F'.keep) r2 r3
    · have hcr2 := code_keep hc hcr
      k_steps
      refine' nestHit_K F1 N1 hTop hC rfl (.tail _ (.head _)) trivial rfl rfl ?_
      intro f ctv doc h2 tk2 F2 N2 l1
      k_steps
      show wpAny _ _ (call (Value.builtin _) [Value.ref _] [(PySem.Str.ofString "key", _)]) _ _ _
      refine' sorted_by (x := xf) ?F ?N ?hl ?h64 (ksk_s1 _ _) (fun _ => ksk_l1 _ _) (fun _ => ksk_t1 _ _) ?turn ?h
      case F => assumption
      case N => assumption
      case hl => walk_at "MINE lst"
      case h64 => rw [pd_len hv]; lia
      case turn =>
        intro j v h3 tk3 own hj F3 N3
        refine goal_var fun G9 hG9 => ?_
        obtain ⟨e, he, hve⟩ := pd_get hens hj
        refine hG9 ?_
        clear hG9 G9
        rw [hx _ _ he]
        refine goal_var fun G9 hG9 => ?_
        obtain ⟨d0, d1, d2, d3⟩ := den_pos (ho e (List.mem_of_getElem? he)).1 (ho e (List.mem_of_getElem? he)).2.1 (ho e (List.mem_of_getElem? he)).2.2
        refine hG9 ?_
        clear hG9 G9
        rw [d3] at hve
        refine goal_var fun G9 hG9 => ?_
        obtain ⟨a, t3, u3, rfl, ht⟩ := hve
        refine hG9 ?_
        clear hG9 G9
        have ht3 := ht.keeps F3.keep
        generalize num e = n at *
        generalize den e = d at *
        have hfd : Int.fdiv K d = K / d := Int.fdiv_eq_ediv_of_nonneg _ (by lia)
        have hkd : 0 ≤ K / d ∧ K / d ≤ K := ⟨Int.ediv_nonneg (by lia) (by lia), Int.ediv_le_self _ (by lia)⟩
        rw [← hfd] at hkd ⊢
        have hcell := (News.get N3 (List.mem_append_right _ (by k_mem) : (L + 1, oc) ∈ _))
        have hTop3 := hTop.keeps F3.keep
        refine wpAny_call ?_
        refine' enter_fn (binds := [("item", .ref a)]) h3 [] hTop3 (Room.in1 (Room.in1 Rm')) (fun _ _ e => e) (Nat.le_refl _) (fun _ hq => nomatch hq) (News.get N3 (List.mem_append_right _ (.head _))) ?k7 ?k9 ?kB ?_ ?c2 ?c3 ?c4 ?c5
        (case k7 => first | exact codeRec_news N3 (List.mem_append_right _ (.tail _ (.head _))) hd2 hv2 | exact hcr2.keeps F3.keep)
        (case k9 => k_dflt exact BindsTo.of_eq rfl)
        (case kB => k_dflt exact locs rfl)
        (case c2 => k_dflt exact rfl)
        (case c3 => k_dflt exact rfl)
        (case c4 => k_dflt exact rfl)
        (case c5 => k_dflt decide)
        intro L3 h4 Rm4 F4 N4 k4 hL4
        (try dsimp only)
        (try k_fold)
        k_steps
        all_goals walk_at "MINE end"
        exact ⟨_, _, _, _, _, rfl, rfl, Fr.keep (by assumption), News.fresh (by assumption) (.head _), News.get (by assumption) (.head _)⟩
      case h =>
        intro D h' tk out c F' N' lt so
        obtain ⟨es', r1, r2, r3⟩ := sort_out hens hK0 hds hx so
        exact h h' tk D out es' _ c (keep F') (News.get N' (by k_mem)) (.inr ⟨c', rfl, hcr2.keeps F'.keep⟩) (hfresh (News.fresh N' (.head _)) (Ne.symm (Nat.ne_of_lt (lt (203, _) (by k_mem))))) (News.get N' (.head _)) (r1.keeps F'.keep) r2 r3
end

section
variable {w : World} {A : Around} {s : Shared} {Q : Unit → Shared → Prop} {E : Value → Shared → Prop} {R : Result → Shared → Prop}
theorem refuse_exc (self : Value) : refuseLoop self "__setattr__" [.ref 51, .ref 31, .type "Exception", .type "BaseException", .type "object"] = pure () := by
  rw [refuseLoop_ref, refuseLoop_ref]
  exact PySem.F.store_Exception.passes self
theorem exc_osa {e : Addr} {vs : Array Value} {sl : Array (Option Value)} {v : Value} {tk : Tok} (X : (hd.heap_1 w.params).In s.heap) (he : s.heap.get? e = some ⟨.ref 51, none, .fields vs, sl⟩)
    (h : ∀ h' d od tk, s.heap.get? d = none → h'.get? d = some od → lookIn "message" od = some (some v) → h'.get? e = some ⟨.ref 51, some d, .fields vs, sl⟩ →
      (∀ b o, b ≠ e → s.heap.get? b = some o → h'.get? b = some o) → R (.ok (.ret .none)) { s with heap := h', toks := tk }) :
    codeAny (MM w) A (.call (.builtin "object.__setattr__") ⟨[.ref e, .str "message" tk, v], []⟩) R s := by
  have I : InstAt s.heap e ⟨.ref 51, none, .fields vs, sl⟩ 51 none := ⟨he, rfl, rfl, trivial⟩
  have SF := PySem.F.store_object
  refine goal_var fun G9 hG9 => ?_
  obtain ⟨cd, hc, hcd⟩ := any_some (x := clsIn (hd.heap_1 w.params) 51) (p := fun cd => cd.hasDict && cd.mro == [.ref 51, .ref 31, .type "Exception", .type "BaseException", .type "object"]) (by kernel_rfl)
  refine hG9 ?_
  clear hG9 G9
  simp only [Bool.and_eq_true, beq_iff_eq] at hcd
  obtain ⟨hdd, hmro⟩ := hcd
  have sub : Looks (MM w) s.heap (isInstance (.ref e) (.type "object")) true := I.type.andThen (looks_mroIn X (by unfold mroIn; rw [hc, Option.bind_some, hmro]; rfl))
  refine codeAny_call_builtin SF.slot.plain SF.entry (@check_slot (MM w) _ _ s "object.__setattr__" "object" "__setattr__" (.ref e) [.str "message" tk, v] [] _ SF.kind SF.split sub (SF.args (.ref e) (.str "message" tk) v) ?_)
  have ha : findIn (hd.heap_1 w.params) (.ref 51) "message" = some none := by k_is
  have hm : Looks (MM w) s.heap (mroOf (.ref 51)) cd.mro := (looks_clsIn X hc).andThen .now
  rw [osa_eq, refuse_eq]
  refine wpAny_bind (wpAny_bind (I.type.here (wpAny_bind (hm.here ?_))))
  rw [hmro, refuse_exc]
  refine wpAny_pure (wpAny_bind (I.type.here (wpAny_bind ((looks_findIn X ha).here (wpAny_bind (wpAny_pure ?_))))))
  dsimp only
  have hes : e ≠ s.heap.objs.size := Nat.ne_of_lt (Heap.lt_size he)
  have he₁ : (s.heap.push emptyDict).get? e = some ⟨.ref 51, none, .fields vs, sl⟩ := Heap.get?_push_of_some _ he
  refine wpAny_bind (wpAny_pure (wpAny_bind (wpAny_bind (wpAny_loadPart he (wpAny_bind ((looks_clsIn X hc).here ?_))))))
  rw [hdd]
  refine wpAny_bind (wpAny_alloc' ?_)
  refine wpAny_bind (wpAny_update' he₁ ?_)
  refine wpAny_pure ?_
  have hgd : ((s.heap.push emptyDict).update e fun o => { o with dict := some s.heap.objs.size }).get? s.heap.objs.size = some emptyDict :=
    (Heap.get?_update_ne _ _ _ _ hes.symm).trans (Heap.get?_push_at rfl rfl)
  have hns : ((s.heap.push emptyDict).update e fun o => { o with dict := some s.heap.objs.size }).Ns s.heap.objs.size (fun _ => none) :=
    ⟨_, #[], _, hgd, rfl, fun e he => absurd he (by simp), fun _ => rfl⟩
  show wpAny _ _ (Builtin.ObjectAttr.storeInDict s.heap.objs.size (.str "message" tk) "message" v) _ _ _
  unfold Builtin.ObjectAttr.storeInDict Builtin.ObjectAttr.newKeyGuard
  refine wpAny_bind (wpAny_pure (wpAny_bind (wpAny_nsSet1 (Heap.Ns1.of_empty hns) fun h' hn' hs => ?_)))
  refine goal_var fun G9 hG9 => ?_
  obtain ⟨oD, esD, epD, hoD, hdD, hcD⟩ := hn'.count (Within.cons "message" v Within.nil)
  refine hG9 ?_
  clear hG9 G9
  refine wpAny_bind (wpAny_lookBehind hoD (by rw [hdD]; exact pastItsLine_dict (Nat.le_trans hcD (by rw [List.length_cons, List.length_nil, sizeLine_eq]; lia))) ?_)
  refine wpAny_pure ?_
  refine goal_var fun G9 hG9 => ?_
  obtain ⟨oN, esN, epN, hoN, hdN, hkN, huN, hfN⟩ := hn'
  refine hG9 ?_
  clear hG9 G9
  refine h h' s.heap.objs.size oN _ (Heap.get?_none_of_le (Nat.le_refl _)) hoN ?_ ?_ ?_
  · unfold lookIn
    rw [hdN]
    dsimp only
    have hf : nsFind esN "message" = some v := (hfN "message").trans (if_pos rfl)
    unfold nsFind findBy at hf
    rw [← Array.find?_toList] at hf
    cases q : esN.toList.find? (·.key.isStr "message") with
    | none => rw [q] at hf; cases hf
    | some en => rw [q] at hf; exact congrArg some hf
  · exact (hs.2 e hes).trans (Heap.get?_update_self _ he₁ rfl)
  · intro b o hb ho
    exact (hs.2 b (Nat.ne_of_lt (Heap.lt_size ho))).trans ((Heap.get?_update_ne _ _ _ _ hb).trans (Heap.get?_push_of_some _ ho))
/-- the first attribute of an exception of class 51: its dict is made -/
theorem exc_set {e : Addr} {vs : Array Value} {sl : Array (Option Value)} {v : Value} (X : (hd.heap_1 w.params).In s.heap) (he : s.heap.get? e = some ⟨.ref 51, none, .fields vs, sl⟩)
    (h : ∀ h' d od tk, s.heap.get? d = none → h'.get? d = some od → lookIn "message" od = some (some v) → h'.get? e = some ⟨.ref 51, some d, .fields vs, sl⟩ →
      (∀ b o, b ≠ e → s.heap.get? b = some o → h'.get? b = some o) → Q () { s with heap := h', toks := tk }) :
    wpAny (MM w) A (setAttr (.ref e) "message" v) Q E s :=
  set_plain X (ox := ⟨.ref 51, none, .fields vs, sl⟩) (od := none) ⟨he, rfl, rfl, trivial⟩ (by k_is) (exc_osa (s := { s with toks := s.toks + 1 }) X he h)
end
section
abbrev bmE : List Value := [.type "Exception", .type "BaseException", .type "object"]
def isTyp (t : String) : Value → Bool | .type n => n == t | _ => false
def isRf (a : Addr) : Value → Bool | .ref b => b == a | _ => false
def isBl (n : String) : Option Value → Bool | some (.builtin m) => m == n | _ => false
def clsD : Data → Option ClassData | .cls c => some c | _ => none
def mro51 (K : Frag) : List Value → Bool | c :: bm => isRf 51 c && tailIn K bmE bm | [] => false
def exc51 (K : Frag) : Bool := (K.lookup 51).any fun o => isTyp "type" o.cls && (clsD o.data).any fun cd => mro51 K cd.mro && !cd.hasDel && o.slots.size == 6 && isBl "Exception.__new__" (o.slots.getD 4 none)
theorem isTyp_is {t : String} {v : Value} (h : isTyp t v = true) : v = .type t := by
  unfold isTyp at h
  split at h
  · rw [beq_iff_eq.mp h]
  · cases h
theorem isRf_is {a : Addr} {v : Value} (h : isRf a v = true) : v = .ref a := by
  unfold isRf at h
  split at h
  · rw [beq_iff_eq.mp h]
  · cases h
theorem isBl_is {t : String} {v : Option Value} (h : isBl t v = true) : v = some (.builtin t) := by
  unfold isBl at h
  split at h
  · rw [beq_iff_eq.mp h]
  · cases h
theorem clsD_is {d : Data} {c : ClassData} (h : clsD d = some c) : d = .cls c := by
  unfold clsD at h
  split at h
  · cases h; rfl
  · cases h
theorem six_is {α : Type} {a : Array α} {x : α} (h : a.size = 6) : ∃ k0 k1 k2 k3 k5, a = #[k0, k1, k2, k3, a.getD 4 x, k5] := by
  obtain ⟨l⟩ := a
  match l, h with
  | [k0, k1, k2, k3, k4, k5], _ => exact ⟨k0, k1, k2, k3, k5, rfl⟩
theorem exc51_of {K : Frag} {h : Heap} {G : Prop} (X : K.In h) (q : exc51 K = true) (k : ∀ bm N nm qn bs hdct sn sub ab col dd k0 k1 k2 k3 k5,
    h.get? 51 = some (excClassObj nm qn 51 N bs bm hdct sn sub ab col dd k0 k1 k2 k3 k5 "Exception.__new__") → OwnTail h bmE bm → G) : G := by
  refine goal_var fun G9 hG9 => ?_
  obtain ⟨o, ho, q⟩ := (Option.any_eq_true _ _).mp q
  obtain ⟨q1, q⟩ := (Bool.and_eq_true_iff).mp q
  obtain ⟨cd, hc, q⟩ := (Option.any_eq_true _ _).mp q
  refine hG9 ?_
  clear hG9 G9
  simp only [Bool.and_eq_true, beq_iff_eq, Bool.not_eq_true'] at q
  refine goal_var fun G9 hG9 => ?_
  obtain ⟨⟨⟨hm, hdel⟩, hz⟩, hb⟩ := q
  obtain ⟨cls, dd, data, sl⟩ := o
  obtain ⟨nm, bs, mro, ns, qn, hd, sn, sub, ab, col, del⟩ := cd
  refine hG9 ?_
  clear hG9 G9
  dsimp only at q1 hc hm hdel hz hb
  refine goal_var fun G9 hG9 => ?_
  obtain ⟨k0, k1, k2, k3, k5, e⟩ := six_is (x := none) hz
  refine hG9 ?_
  clear hG9 G9
  rw [isBl_is hb] at e
  have e1 := isTyp_is q1
  have e2 := clsD_is hc
  subst e e1 e2 hdel
  cases mro with
  | nil => cases hm
  | cons c bm =>
    obtain ⟨h1, h2⟩ := (Bool.and_eq_true_iff).mp hm
    have e3 := isRf_is h1
    subst e3
    exact k bm ns nm qn bs hd sn sub ab col dd k0 k1 k2 k3 k5 (X _ _ ho) (tail_of_in X h2)
variable {w : World} {A : Around} {s : Shared} {g : Heap} {p : Program} {loose : List Str} {mean : ExcName → Option Value} {mg mb : Str → Option Value} {R : Result → Shared → Prop}
theorem rinit_spec {e : Addr} {vs : Array Value} {sl : Array (Option Value)} {v : Value} (X : (hd.heap_1 w.params).In g) (T : Top p loose mean mg mb g) (st : g.StaysIn s.heap) (hz : g.objs.size ≤ s.heap.objs.size) (Rm : Room A 3)
    (he : s.heap.get? e = some ⟨.ref 51, none, .fields vs, sl⟩) (hge : g.get? e = none)
    (h : ∀ h' d od tk, g.StaysIn h' → g.get? d = none → h'.get? d = some od → lookIn "message" od = some (some v) → h'.get? e = some ⟨.ref 51, some d, .fields vs, sl⟩ → R (.ok (.ret .none)) { s with heap := h', toks := tk }) :
    codeAny (MM w) A (.call (.ref 48) ⟨[.ref e, v], []⟩) R s := by
  refine' enter_def (binds := [("self", .ref e), ("message", v)]) g [(e, ⟨.ref 51, none, .fields vs, sl⟩)] X T Rm st hz ?hN ?k6 ?k7 ?k9 ?kB ?_ ?c2 ?c3 ?c4 ?c5
  case hN => exact List.forall_mem_cons.mpr ⟨⟨he, hge⟩, List.forall_mem_nil _⟩
  (case k6 => k_dflt k_is)
  (case k7 => k_dflt k_is)
  (case k9 => k_dflt exact BindsTo.of_eq rfl)
  (case kB => k_dflt exact locs rfl)
  (case c2 => k_dflt exact rfl)
  (case c3 => k_dflt exact rfl)
  (case c4 => k_dflt exact rfl)
  (case c5 => k_dflt decide)
  intro L h₁ Rm' F N k₁ hL
  (try dsimp only)
  (try k_fold)
  k_steps
  rename Fr _ _ _ _ => F1
  rename News _ _ _ _ => N1
  have ne := N1 _ (.head _)
  refine exc_set (Frag.In.keeps X F1.keep) ne.1 ?_
  intro h' d od tk' hdn ho hl he' hk
  have hdg := (fr_new F1 hdn).2
  have F2 : Fr g _ h' _ := ⟨F1.ns.at fun o q => hk _ o (Ne.symm ne.2.1) q, fun b o q => hk b o (fun z => by rw [z, hge] at q; cases q) (F1.keep b o q), F1.above⟩
  clear F1 N1
  k_steps
  all_goals walk_at "MINE end"
  exact h _ _ _ _ (Fr.keep (by assumption)) hdg ho hl he'
end
section
variable {w : World} {A : Around} {E : Value → Shared → Prop} {s : Shared} {p : Program} {loose : List Str} {mean : ExcName → Option Value} {mg mb : Str → Option Value}
/-- an exception of class 51 with its message, made since h -/
structure Ref51 (h h' : Heap) (e d : Addr) (v : Value) : Prop where
  keeps : h.StaysIn h'
  new : h.get? e = none
  dnew : h.get? d = none
  there : ∃ t, h'.get? e = some ⟨.ref 51, some d, .fields #[.ref t, .none, .none, .none, .bool false, .none], #[]⟩
  dict : ∃ od, h'.get? d = some od ∧ lookIn "message" od = some (some v)
theorem exc_type {v : Value} {Q : Fin → Shared → Prop} (X : (hd.heap_1 w.params).In s.heap) (T : Top p loose mean mg mb s.heap) (Rm : Room A 3)
    (h : ∀ h' e d tk, Ref51 s.heap h' e d v → Q (.done (.ret (.ref e))) { s with heap := h', toks := tk }) :
    wpAny (MM w) A (Builtin.«type.__call__» ⟨[.ref 51, v], []⟩) Q E s := by
  have F := PySem.F.excBase_Exception
  refine exc51_of X (by kernel_rfl) fun bm N nm q bs hdct sn sub ab col dd k0 k1 k2 k3 k5 hC Tl => ?_
  refine goal_var fun G9 hG9 => ?_
  obtain ⟨hp, g, d, t, os⟩ := s
  refine hG9 ?_
  clear hG9 G9
  dsimp only at X T hC Tl h
  repeat (first | with_reducible refine wpAny_loadPart_at hC ?_ | with_reducible refine wpAny_madeBy_exc hC ?_ | wp_step)
  refine codeAny_call_builtin_code (Code.quiet_builtin _ F.quiet) (wpAny_check_new_subT F Tl hC ?_)
  refine codeAny_exc_new_subT F Tl hC ?_ (by size_fits)
  show wpAny _ _ _ _ _ _
  have k : ∀ b o, hp.get? b = some o → ((hp.push { cls := .type "tuple", data := .seq [v].toArray }).push { cls := .ref 51, data := .fields #[.ref hp.objs.size, .none, .none, .none, .bool false, .none] }).get? b = some o := fun b o e => Heap.get?_push_of_some _ (Heap.get?_push_of_some _ e)
  have hget : ((hp.push { cls := .type "tuple", data := .seq [v].toArray }).push
      { cls := .ref 51, data := .fields #[.ref hp.objs.size, .none, .none, .none, .bool false, .none] }).get? (hp.objs.size + 1) = some
      { cls := .ref 51, data := .fields #[.ref hp.objs.size, .none, .none, .none, .bool false, .none] } := by heap_get
  have hz : hp.objs.size ≤ ((hp.push { cls := .type "tuple", data := .seq [v].toArray }).push { cls := .ref 51, data := .fields #[.ref hp.objs.size, .none, .none, .none, .bool false, .none] }).objs.size := by
    rw [Heap.size_push, Heap.size_push]; lia
  generalize ((hp.push { cls := .type "tuple", data := .seq [v].toArray }).push { cls := .ref 51, data := .fields #[.ref hp.objs.size, .none, .none, .none, .bool false, .none] }) = h1 at *
  have hC₁ := k _ _ hC
  have hcC : (Value.ref 51 :: bm).contains (.ref 51) = true := by simp
  unfold isInstance
  repeat (first | with_reducible refine wpAny_loadPart_at hget ?_ | (with_reducible refine wpAny_isSubtype_exc hC₁ ?_; rw [hcC]) | wp_step)
  show wpAny _ _ (typeLookup (.ref 51) _) _ _ _
  have X1 : (Mine.hd.heap_1 w.params).In h1 := X.keeps k
  have hi : findIn (Mine.hd.heap_1 w.params) (.ref 51) "__init__" = some (some (.ref 48)) := by k_is
  have hf : typeIn (Mine.hd.heap_1 w.params) (.ref 48) = some (.type "function") := by kernel_rfl
  refine (looks_findIn X1 hi).here ?_
  refine wpAny_holding (wpAny_bind ((bind_fn X1 _ hf).here (wpAny_bind (wpAny_call ?_))))
  refine rinit_spec (g := hp) X T k hz Rm hget (Heap.get?_none_of_le (Nat.le_succ _)) ?_
  intro h' d' od tk st hdn ho hl he
  refine wpAny_pure (wpAny_pure ?_)
  exact h h' _ d' _ ⟨st, Heap.get?_none_of_le (Nat.le_succ _), hdn, ⟨_, he⟩, ⟨_, ho, hl⟩⟩
theorem exc_call {v : Value} {Q : Value → Shared → Prop} (X : (hd.heap_1 w.params).In s.heap) (T : Top p loose mean mg mb s.heap) (Rm : Room A 5)
    (h : ∀ h' e d tk, Ref51 s.heap h' e d v → Q (.ref e) { s with heap := h', toks := tk }) :
    wpAny (MM w) A (call (.ref 51) [v]) Q E s := by
  refine exc51_of X (by kernel_rfl) fun bm N nm q bs hdct sn sub ab col dd k0 k1 k2 k3 k5 hC Tl => ?_
  have Rm3 : Room (A.under (.builtin "type.__call__" ⟨.ref 51 :: [v], []⟩)) 3 := room_make (n := 3) (Rm.mono (by decide))
  have key := @exc_type w
  refine goal_var fun G9 hG9 => ?_
  obtain ⟨hp, g, d, t, os⟩ := s
  refine hG9 ?_
  clear hG9 G9
  have f1 := tc_lookup
  have f2 := tc_bind (.ref 51)
  have hT : (⟨hp, g, d, t, os⟩ : Shared).TypeIs (.ref 51) "type" := ⟨_, hC, rfl⟩
  refine wpAny_call (codeAny_of_tree ?_)
  show wpAny _ _ (callAny (.ref 51) _) _ _ _
  repeat (any_goals (first | assumption | with_reducible refine wpAny_loadPart_at hC ?_ | wp_step))
  refine ⟨rfl, ?_⟩
  refine codeAny_call_builtin_at (Code.quiet_builtin _ (by decide +kernel)) entry_typeCall (wpAny_check_type_call_sub hC (key X T Rm3 fun h' e d' tk hm => ?_))
  exact h h' e d' tk hm
end

/-- an exception of class 51 with its dict d, on its way through the frames l -/
structure Fl (base : Heap) (l : List Env) (e d : Addr) (fl : Value) (h : Heap) : Prop where
  stays : base.StaysIn h
  new : base.get? e = none
  fr : h.FunFrames base l
  tr : ∃ oe vs T oT ts, h.get? e = some oe ∧ oe.cls = .ref 51 ∧ oe.dict = some d ∧ oe.data = .fields vs ∧ vs[1]? = some (.ref T) ∧ base.get? T = none ∧ T ≠ e ∧ h.get? T = some oT ∧ oT.data = .fields ts ∧ ts[3]? = some fl
section
variable {M : Model} {A : Around} {E : Value → Shared → Prop} {s : Shared} {base : Heap} {env : Env} {outer l : List Env} {L e d : Addr} {Q : Unit → Shared → Prop}
theorem entry51 {oe : Obj} {vs : Array Value} {head : Value} {hadNext : Bool} (hfr : A.frames = some (env :: outer)) (hl : s.heap.FunFrames base (env :: outer)) (hf : env.frame = some L)
    (he : s.heap.get? e = some oe) (hcl : oe.cls = .ref 51) (hdt : oe.dict = some d) (hkb : base.StaysIn s.heap) (hen : base.get? e = none) (hda : oe.data = .fields vs) (hsz : 1 < vs.size)
    (h : ∀ h', Fl base (env :: outer) e d (rawInt L) h' → s.heap.UpToSlots h' → Q () { s with heap := h' }) :
    wpAny M A (do let a ← frameOf env; let pl ← entryPlaceOf L hadNext; let b ← EntryCells.newEntry head a .none (rawInt L) .none pl; setField (.ref e) 1 b) Q E s := by
  have hene : e ∉ (env :: outer).filterMap (·.frame) := fun hm => by
    refine goal_var fun G9 hG9 => ?_
    obtain ⟨_, o, ho, hnf⟩ := hl.mem hm
    refine hG9 ?_
    clear hG9 G9
    rw [he] at ho; cases ho; exact hnf vs hda
  refine wpAny_bind (wpAny_frameOf_fun hfr hl hf fun h₁ hs₁ => ?_)
  refine wpAny_bind (wpAny_entryPlaceOf fun pl hpl => ?_)
  unfold EntryCells.newEntry newFields
  refine wpAny_bind (wpAny_newObj_type ?_ (hpl.sizeOk5 _ _ _ _ _))
  have he₁ : h₁.get? e = some oe := (hs₁.2.1 e hene).trans he
  have kb₁ : base.StaysIn h₁ := fun b o hbo => (hs₁.2.1 b fun hm => by rw [(hl.mem hm).1] at hbo; cases hbo).trans (hkb b o hbo)
  have hp3 : ([head, .ref L, .none, rawInt L, .none] ++ (if pl.isEmpty then List.replicate 6 Value.none else pl)).toArray[3]? = some (rawInt L) := by
    rcases hpl with rfl | ⟨_, _, _, _, _, _, _, rfl⟩ <;> simp
  generalize ([head, .ref L, .none, rawInt L, .none] ++ (if pl.isEmpty then List.replicate 6 Value.none else pl)).toArray = fs at *
  have he₂ := Heap.get?_push_of_some (h := h₁) { cls := .type "traceback", dict := none, data := .fields fs } he₁
  have hTe : h₁.objs.size ≠ e := Nat.ne_of_gt (Heap.lt_size he₁)
  have hd₃ := Obj.data_mapFields hda (·.setIfInBounds 1 (Value.ref h₁.objs.size))
  have he₃ := Heap.get?_update_self (Obj.mapFields (·.setIfInBounds 1 (Value.ref h₁.objs.size))) he₂ (Obj.isFreed_of_fields hd₃)
  have hT₃ := (Heap.get?_update_other (h₁.push { cls := .type "traceback", dict := none, data := .fields fs }) (Obj.mapFields (·.setIfInBounds 1 (Value.ref h₁.objs.size))) (Ne.symm hTe)).trans (Heap.get?_push_size h₁ rfl)
  have keep : ∀ b o, b ≠ e → h₁.get? b = some o → ((h₁.push { cls := .type "traceback", dict := none, data := .fields fs }).update e (Obj.mapFields (·.setIfInBounds 1 (Value.ref h₁.objs.size)))).get? b = some o :=
    fun b o hbe hb => by
      rw [Heap.get?_update_other _ _ (Ne.symm hbe)]
      exact Heap.get?_push_of_some _ hb
  have noRec : ∀ b o, s.heap.get? b = some o → (∀ vs, o.data ≠ .fields vs) → b ≠ e := fun b o hb hnf q => by
    rw [q, he] at hb; cases hb; exact hnf vs hda
  have hdict : (Obj.mapFields (·.setIfInBounds 1 (Value.ref h₁.objs.size)) oe).dict = some d := by
    rw [← hdt]; obtain ⟨_, _, dt, _⟩ := oe; cases dt <;> rfl
  refine wpAny_setField he₂ hda hsz (h _ ⟨fun b o hbo => keep b o (fun q => by rw [q, hen] at hbo; cases hbo) (kb₁ b o hbo), hen, hl.of_keeps fun b o hb hnf => ?_, ?_⟩ fun b o hb hnf => ?_)
  · obtain ⟨sl, hs⟩ := hs₁.2.2 b o hb
    exact ⟨_, keep b _ (noRec b o hb hnf) hs, rfl⟩
  · exact ⟨_, _, h₁.objs.size, _, _, he₃, (Obj.cls_mapFields _ _).trans hcl, hdict, hd₃, by simp [hsz], kb₁.fresh, hTe, hT₃, rfl, hp3⟩
  · obtain ⟨sl, hs⟩ := hs₁.2.2 b o hb
    exact ⟨sl, keep b _ (noRec b o hb hnf) hs⟩
/-- noteFrame, no traceback yet -/
theorem note_first {oe : Obj} {vs : Array Value} (hfr : A.frames = some (env :: outer)) (hl : s.heap.FunFrames base (env :: outer)) (hf : env.frame = some L)
    (he : s.heap.get? e = some oe) (hcl : oe.cls = .ref 51) (hdt : oe.dict = some d) (hkb : base.StaysIn s.heap) (hen : base.get? e = none) (hda : oe.data = .fields vs) (h1 : vs[1]? = some .none)
    (h : ∀ h', Fl base (env :: outer) e d (rawInt L) h' → s.heap.UpToSlots h' → Q () { s with heap := h' }) : wpAny M A (noteFrame (.ref e) env) Q E s := by
  unfold noteFrame
  simp only [hf]
  refine wpAny_bind (wpAny_field he hda h1 ?_)
  rw [if_neg (by decide)]
  exact entry51 hfr hl hf he hcl hdt hkb hen hda (Array.getElem?_eq_some_iff.mp h1).1 h
/-- noteFrame in the next frame -/
theorem note_on (hfr : A.frames = some (env :: outer)) (hf : env.frame = some L) (x : Fl base (env :: outer) e d .none s.heap)
    (h : ∀ h', Fl base (env :: outer) e d (rawInt L) h' → s.heap.UpToSlots h' → Q () { s with heap := h' }) : wpAny M A (noteFrame (.ref e) env) Q E s := by
  refine goal_var fun G9 hG9 => ?_
  obtain ⟨hkb, hen, hl, oe, vs, T, oT, ts, he, hcl, hdt, hda, h1, hnT, hTe, hT, hdT, h3⟩ := x
  refine hG9 ?_
  clear hG9 G9
  unfold noteFrame
  simp only [hf]
  refine wpAny_bind (wpAny_field he hda h1 ?_)
  rw [if_pos (show (Value.ref T != Value.none) = true from by simp)]
  refine wpAny_bind (wpAny_field hT hdT h3 ?_)
  rw [if_neg (show ¬ ((Value.none == rawInt L) = true) from by simp [rawInt])]
  refine wpAny_bind (wpAny_setField hT hdT (Array.getElem?_eq_some_iff.mp h3).1 ?_)
  have other : ∀ b, b ≠ T → (s.heap.update T (Obj.mapFields (·.setIfInBounds 3 Value.none))).get? b = s.heap.get? b := fun b hb => Heap.get?_update_other _ _ (Ne.symm hb)
  have noRec : ∀ b o, s.heap.get? b = some o → (∀ vs, o.data ≠ .fields vs) → b ≠ T := fun b o hb hnf q => by
    rw [q, hT] at hb; cases hb; exact hnf ts hdT
  refine entry51 hfr (hl.of_keeps fun b o hb hnf => ⟨o, (other b (noRec b o hb hnf)).trans hb, rfl⟩) hf ((other e (Ne.symm hTe)).trans he) hcl hdt
    (fun b o hbo => (other b fun q => by rw [q, hnT] at hbo; cases hbo).trans (hkb b o hbo)) hen hda (Array.getElem?_eq_some_iff.mp h1).1
    fun h' a b => h h' a fun c o hc hn => b c o ((other c (noRec c o hc hn)).trans hc) hn
/-- setFlight -/
theorem flight {fl : Value} {fo : Option Addr} (x : Fl base l e d fl s.heap) (h : ∀ h', Fl base l e d (fo.elim Value.none fun f => rawInt f) h' → s.heap.UpToSlots h' → Q () { s with heap := h' }) : wpAny M A (setFlight (.ref e) fo) Q E s := by
  refine goal_var fun G9 hG9 => ?_
  obtain ⟨hkb, hen, hl, oe, vs, T, oT, ts, he, hcl, hdt, hda, h1, hnT, hTe, hT, hdT, h3⟩ := x
  refine hG9 ?_
  clear hG9 G9
  have hsz3 : 3 < ts.size := (Array.getElem?_eq_some_iff.mp h3).1
  have other : ∀ b, b ≠ T → (s.heap.update T (Obj.mapFields (·.setIfInBounds 3 (fo.elim Value.none fun f => rawInt f)))).get? b = s.heap.get? b :=
    fun b hb => Heap.get?_update_other _ _ (Ne.symm hb)
  have noRec : ∀ b o, s.heap.get? b = some o → (∀ vs, o.data ≠ .fields vs) → b ≠ T := fun b o hb hnf q => by
    rw [q, hT] at hb; cases hb; exact hnf ts hdT
  unfold setFlight
  refine wpAny_bind (wpAny_field he hda h1 ?_)
  rw [if_pos (show (Value.ref T != Value.none) = true from by simp)]
  refine wpAny_setField hT hdT hsz3 (h _ ⟨fun b o hbo => (other b fun q => by rw [q, hnT] at hbo; cases hbo).trans (hkb b o hbo), hen,
    hl.of_keeps fun b o hb hnf => ⟨o, (other b (noRec b o hb hnf)).trans hb, rfl⟩,
    oe, vs, T, _, _, (other e (Ne.symm hTe)).trans he, hcl, hdt, hda, h1, hnT, hTe, Heap.get?_update_self _ hT (Obj.isFreed_of_fields (Obj.data_mapFields hdT _)), Obj.data_mapFields hdT _, by simp [hsz3]⟩
    fun b o hb hnf => ⟨o.slots, (other b (noRec b o hb hnf)).trans hb⟩)
theorem flight_off {fl : Value} (x : Fl base l e d fl s.heap) (h : ∀ h', Fl base l e d .none h' → s.heap.UpToSlots h' → Q () { s with heap := h' }) : wpAny M A (setFlight (.ref e) none) Q E s := flight x h
theorem note_again (hf : env.frame = some L) (x : Fl base l e d (rawInt L) s.heap) (h : Q () s) : wpAny M A (noteFrame (.ref e) env) Q E s := by
  refine goal_var fun G9 hG9 => ?_
  obtain ⟨hkb, hen, hl, oe, vs, T, oT, ts, he, hcl, hdt, hda, h1, hnT, hTe, hT, hdT, h3⟩ := x
  refine hG9 ?_
  clear hG9 G9
  unfold noteFrame
  simp only [hf]
  refine wpAny_bind (wpAny_field he hda h1 ?_)
  rw [if_pos (show (Value.ref T != Value.none) = true from by simp)]
  refine wpAny_bind (wpAny_field hT hdT h3 ?_)
  rw [if_pos (show (rawInt L == rawInt L) = true from by simp)]
  exact wpAny_pure h
theorem Fl.pop {fl : Value} {h : Heap} (x : Fl base (env :: outer) e d fl h) : Fl base outer e d fl h := ⟨x.stays, x.new, x.fr.2.2, x.tr⟩
theorem leave_first {oe : Obj} {vs : Array Value} (hfr : A.frames = some (env :: outer)) (hl : s.heap.FunFrames base (env :: outer)) (hf : env.frame = some L)
    (he : s.heap.get? e = some oe) (hcl : oe.cls = .ref 51) (hdt : oe.dict = some d) (hkb : base.StaysIn s.heap) (hen : base.get? e = none) (hda : oe.data = .fields vs) (h1 : vs[1]? = some .none)
    (h : ∀ h', Fl base outer e d .none h' → s.heap.UpToSlots h' → Q () { s with heap := h' }) : wpAny M A (leaving env (.ref e)) Q E s :=
  wpAny_bind (note_first hfr hl hf he hcl hdt hkb hen hda h1 fun _ x u => flight_off x fun h' y v => h h' y.pop (u.trans v))
theorem leave_on (hfr : A.frames = some (env :: outer)) (hf : env.frame = some L) (x : Fl base (env :: outer) e d .none s.heap)
    (h : ∀ h', Fl base outer e d .none h' → s.heap.UpToSlots h' → Q () { s with heap := h' }) : wpAny M A (leaving env (.ref e)) Q E s :=
  wpAny_bind (note_on hfr hf x fun _ x u => flight_off x fun h' y v => h h' y.pop (u.trans v))
theorem leave_held (hf : env.frame = some L) (x : Fl base (env :: outer) e d (rawInt L) s.heap)
    (h : ∀ h', Fl base outer e d .none h' → s.heap.UpToSlots h' → Q () { s with heap := h' }) : wpAny M A (leaving env (.ref e)) Q E s :=
  wpAny_bind (note_again hf x (flight_off x fun h' y v => h h' y.pop v))
/-- passOn -/
theorem pass_on {α : Type} {what : String} {Q : α → Shared → Prop} (hf : env.frame = some L) (x : Fl base l e d .none s.heap)
    (h : ∀ h', Fl base l e d (rawInt L) h' → s.heap.UpToSlots h' → E (.ref e) { s with heap := h' }) : wpAny M A (PySem.passOn (α := α) what (.ref e) env) Q E s := by
  refine goal_var fun G9 hG9 => ?_
  obtain ⟨hkb, hen, hl, oe, vs, T, oT, ts, he, hcl, hdt, hda, h1, hnT, hTe, hT, hdT, h3⟩ := id x
  refine hG9 ?_
  clear hG9 G9
  unfold PySem.passOn
  refine wpAny_bind (wpAny_field he hda h1 ?_)
  rw [if_neg (show ¬ (Value.ref T == Value.none) = true from by simp)]
  rw [hf]
  exact wpAny_bind (flight (fo := some L) x fun h' y v => wpAny_throw (h h' y v))
/-- an exception of class 51 stands ready to be raised -/
def Raised51 (w : World) (E : Value → Shared → Prop) (v : Value) (s₁ : Shared) : Prop :=
  ∃ e d, v = .ref e ∧ (hd.heap_1 w.params).In s₁.heap ∧ (∃ t, s₁.heap.get? e = some ⟨.ref 51, some d, .fields #[.ref t, .none, .none, .none, .bool false, .none], #[]⟩) ∧ E (.ref e) s₁
end
section
variable {w : World} {A : Around} {E : Value → Shared → Prop} {s : Shared} {env : Env}
theorem raise51 {x : Expr} {pos : Pos} {Q : Flow → Shared → Prop} (hh : A.handled = none) (h : wpAny (MM w) A (eval x env) (Raised51 w E) E s) : wpAny (MM w) A (exec (.Raise (some x) none pos) env) Q E s := by
  rw [arm_exec_Raise]
  simp only [PySem.arm_evalOpt_some, Option.map]
  refine wpAny_bind (wpAny_standAt ?_)
  unfold raiseStmt
  refine wpAny_bind (wpAny_bind (wpAny_mono h (fun v s₁ h₁ => ?_) fun _ _ z => z))
  refine goal_var fun G9 hG9 => ?_
  obtain ⟨e, d, rfl, X, ⟨t, he⟩, hE⟩ := h₁
  refine hG9 ?_
  clear hG9 G9
  refine exc51_of X (by kernel_rfl) fun bm N nm q bs hdct sn sub ab col dd k0 k1 k2 k3 k5 hC Tl => ?_
  have hcB : (Value.ref 51 :: bm).contains (.type "BaseException") = true := by rw [List.contains_cons, Tl.hasType (b := true) (by decide), Bool.or_true]
  refine goal_var fun G9 hG9 => ?_
  obtain ⟨hp, g, dr, tk, os⟩ := s₁
  refine hG9 ?_
  clear hG9 G9
  dsimp only at he hC
  refine wpAny_bind (wpAny_standAt (wpAny_pure ?_))
  repeat (first | with_reducible refine wpAny_loadPart_at he ?_ | with_reducible refine wpAny_loadPart_at hC ?_ | (with_reducible refine wpAny_isSubtype_exc hC ?_; rw [hcB]) | wp_step)
  exact wpAny_raiseNew_none hh hE
end

theorem range_small {b : Int} (h : b ≤ 1000) (h0 : 0 ≤ b) : Builtin.Range.small 0 b 1 = true ∧ Builtin.Range.rangeSize 0 b 1 = (b.toNat : Int) := by
  have : ∀ n : Fin 1001, Builtin.Range.small 0 (n.val : Int) 1 = true ∧ Builtin.Range.rangeSize 0 (n.val : Int) 1 = (n.val : Int) := by decide +kernel
  have h2 := this ⟨b.toNat, by lia⟩
  dsimp only at h2
  rw [show (b.toNat : Int) = b by lia] at h2
  rw [show (b.toNat : Int) = b by lia]
  exact h2
section
variable {w : World} {A : Around} {E : Value → Shared → Prop} {s : Shared} {env : Env} {h₀ : Heap} {x : Str} {body : List Stmt} {Q : Flow → Shared → Prop}
theorem loop_range {r L : Addr} {b : Int} {t u v : Tok} {m₀ : Str → Option Value} {news : List (Addr × Obj)} (J : Nat → (Str → Option Value) → List (Addr × Obj) → Prop)
    (hL : env.locals = L) (hh : A.handled = none) (hr : IsRange s.heap r 0 b 1 t u v) (h0 : 0 ≤ b) (h1 : b ≤ 1000) (F : Fr h₀ L s.heap m₀) (N : News h₀ L s.heap news) (hj : J 0 m₀ news)
    (turn : ∀ (i : Nat) t m₁ nx h tk I oI, (i : Int) < b → (∀ q ∈ nx, q.1 ≠ I) → J i m₁ nx → Fr h₀ L h (updm x (some (.int i t)) m₁) → News h₀ L h ((I, oI) :: nx) →
      wpAny (MM w) A (execs body env) (TurnPost h₀ L I oI (J (i + 1)) { s with heap := h, toks := tk } Q) E { s with heap := h, toks := tk })
    (done : ∀ m₁ nx h tk, J b.toNat m₁ nx → Fr h₀ L h m₁ → News h₀ L h nx → Q .next { s with heap := h, toks := tk }) :
    wpAny (MM w) A (pyIter (.ref r)) (fun it s₂ => LoopAtV PR w A h₀ env x body Q E it s₂) E s := by
  subst hL
  obtain ⟨hsm, hn⟩ := range_small h1 h0
  have W := Walks.range (prog := PR) (w := w) hh s.heap.objs.size 0 1 b.toNat
  refine wpAny_pyIter_range hr hsm ?_
  refine loop_walks J W (List.mem_singleton.mpr rfl) (fun i h st => ⟨_, st⟩) ?_ (next_is_new F) (fun q hq => Nat.ne_of_lt (Heap.lt_size (N q hq).1))
    (by show IsRangeIter _ _ _ _ _; rw [hn]; simpa using Heap.get?_push_size _ rfl) ?_ (F.push _) (fun q hq => ⟨Heap.get?_push_of_some _ (N q hq).1, (N q hq).2⟩) hj ?_ done
  · intro hm
    exact absurd F.ns.lt ((List.mem_singleton.mp hm) ▸ Nat.lt_irrefl _)
  · intro c hc hne
    exact absurd (List.mem_singleton.mp hc) hne
  · rintro i v m₁ nx h tk oI hi ⟨t, rfl⟩ hx hJ F₁ N₁
    rw [show (0 + (i : Int) * 1) = (i : Int) by lia] at F₁
    exact turn i t m₁ nx h tk _ oI (by lia) hx hJ F₁ N₁
end
section
variable {w : World} {A : Around} {E : Value → Shared → Prop} {s : Shared} {env : Env} {h₀ : Heap} {x : Str} {px : Pos} {elt iter : Expr} {ifs : List Expr} {scope : Scope} {pos : Pos} {cl : List (Str × Addr)}
variable {RR : Value → Addr → Result → Shared → Prop} {m₀ : Str → Option Value} {Qd : Shared → Addr → List Value → Nat → List (Addr × Obj) → Heap → Nat → Prop} {news : List (Addr × Obj)}
theorem comp_range {r L : Addr} {b : Int} {t u v : Tok} (J : Nat → List Value → List (Addr × Obj) → Prop)
    (hL : env.locals = L) (hh : A.handled = none) (hr : IsRange s.heap r 0 b 1 t u v) (h0 : 0 ≤ b) (h1 : b ≤ 1000) (F : Fr h₀ L s.heap m₀) (N : News h₀ L s.heap news) (hj : J 0 [] news)
    (turn : ∀ (i : Nat) t ys nx h tk I C D oI oL mv nD, (i : Int) < b → ys.length ≤ i → (∀ q ∈ nx, q.1 ≠ I ∧ q.1 ≠ D ∧ q.1 ≠ L) → J i ys nx → mv x = some (.int i t) → (compEnvC scope cl C env).locals = C →
      Fr h₀ C h mv → News h₀ C h ((I, oI) :: (D, listOf ys.toArray nD) :: (L, oL) :: nx) → (∀ vs, oL.data ≠ .fields vs) →
      wpAny (MM w) A (forIn ifs true fun c r => if r = true then do let ok ← isTrue c (compEnvC scope cl C env) (eval c (compEnvC scope cl C env)); pure (ForInStep.yield ok) else pure (ForInStep.yield r))
        (fun ok s₃ => if ok = true then wpAny (MM w) A (eval elt (compEnvC scope cl C env)) (EltPost h₀ C I D L oI oL mv ys nD (J (i + 1)) { s with heap := h, toks := tk }) (notedBy (MM w) A (compEnvC scope cl C env) fun e s₃ => RR (.ref D) C (.error e) s₃) s₃
          else EltTo h₀ C I D L oI oL mv ys nD (J (i + 1) ys) { s with heap := h, toks := tk } s₃) (notedBy (MM w) A (compEnvC scope cl C env) fun e s₃ => RR (.ref D) C (.error e) s₃) { s with heap := h, toks := tk })
    (done : ∀ hp D ys nD nx h tk, ys.length ≤ b.toNat → J b.toNat ys nx → (∀ q ∈ nx, q.1 ≠ D ∧ q.1 ≠ L) → News h₀ L h ((D, listOf ys.toArray nD) :: nx) → Qd { s with heap := hp } D ys nD nx h tk) :
    wpAny (MM w) A (pyIter (.ref r)) (fun it s₂ => CompAt w A h₀ env x elt ifs scope cl m₀ RR (Qd s₂) it s₂) E s := by
  subst hL
  obtain ⟨hsm, hn⟩ := range_small h1 h0
  have W := Walks.range (prog := PR) (w := w) hh s.heap.objs.size 0 1 b.toNat
  refine wpAny_pyIter_range hr hsm ?_
  refine ⟨_, _, b.toNat, _, _, news, J, rfl, W, List.mem_singleton.mpr rfl, (fun i h st => ⟨_, st⟩), ?_, next_is_new F, (fun q hq => Nat.ne_of_lt (Heap.lt_size (N q hq).1)),
    (by show IsRangeIter _ _ _ _ _; rw [hn]; simpa using Heap.get?_push_size _ rfl), ?_, ?_, (F.push _), (fun q hq => ⟨Heap.get?_push_of_some _ (N q hq).1, (N q hq).2⟩), hj, (by lia), ?_, done _⟩
  · intro hm
    exact absurd F.ns.lt ((List.mem_singleton.mp hm) ▸ Nat.lt_irrefl _)
  · intro c hc hne
    exact absurd (List.mem_singleton.mp hc) hne
  · intro c hc
    rw [Heap.size_push, List.mem_singleton.mp hc]
    exact Nat.lt_succ_self _
  · rintro i v ys nx h tk C D oI oL mv nD hi ⟨t, rfl⟩ hys hoff hJ hm hC F₁ N₁ hoL
    rw [show (0 + (i : Int) * 1) = (i : Int) by lia] at hm
    exact turn i t ys nx h tk _ C D oI oL mv nD (by lia) hys hoff hJ hm hC F₁ N₁ hoL
end

section qmath
theorem qn_facts (n : Int) {d : Int} (h : 0 < d) : 0 < qd n d ∧ qd n d ≤ d ∧ Int.gcd (qn n d) (qd n d) = 1 ∧ qn n d * d = n * qd n d := by
  have hg : 0 < Int.gcd n d := Int.gcd_pos_of_ne_zero_right n (by lia)
  have hgi : 0 < (Int.gcd n d : Int) := by lia
  obtain ⟨a, ha⟩ := Int.gcd_dvd_left n d
  obtain ⟨b, hb⟩ := Int.gcd_dvd_right n d
  have ea : qn n d = a := by unfold qn; conv => lhs; lhs; rw [ha]
                             exact Int.mul_ediv_cancel_left a (by lia)
  have eb : qd n d = b := by unfold qd; conv => lhs; lhs; rw [hb]
                             exact Int.mul_ediv_cancel_left b (by lia)
  have hb0 : 0 < b := by
    rcases Int.lt_trichotomy b 0 with q | q | q
    · have := Int.mul_neg_of_pos_of_neg hgi q; lia
    · subst q; simp at hb; lia
    · exact q
  refine ⟨by rw [eb]; exact hb0, ?_, ?_, ?_⟩
  · rw [eb]
    have : 1 * b ≤ (Int.gcd n d : Int) * b := Int.mul_le_mul_of_nonneg_right (by lia) (by lia)
    lia
  · rw [ea, eb]
    have h1 : Int.gcd ((Int.gcd n d : Int) * a) ((Int.gcd n d : Int) * b) = Int.gcd n d := by rw [← ha, ← hb]
    rw [Int.gcd_mul_left, Int.natAbs_natCast] at h1
    have h2 : Int.gcd n d * Int.gcd a b = Int.gcd n d * 1 := by lia
    exact Nat.eq_of_mul_eq_mul_left hg h2
  · rw [ea, eb]
    generalize (Int.gcd n d : Int) = g at *
    grind
theorem dvd_red {n d d' n' : Int} (g : Int.gcd n d = 1) (e : n * d' = n' * d) : d ∣ d' := by
  have h1 : d ∣ n * d' := ⟨n', by rw [e, Int.mul_comm]⟩
  rw [← Int.natAbs_dvd_natAbs, Int.natAbs_mul] at h1
  rw [← Int.natAbs_dvd_natAbs]
  have g2 : Nat.gcd n.natAbs d.natAbs = 1 := g
  exact Nat.Coprime.dvd_of_dvd_mul_left (show Nat.gcd d.natAbs n.natAbs = 1 by rw [Nat.gcd_comm]; exact g2) h1
theorem red_unique {n d n' d' : Int} (h : 0 < d) (h' : 0 < d') (g : Int.gcd n d = 1) (g' : Int.gcd n' d' = 1) (e : n * d' = n' * d) : n = n' ∧ d = d' := by
  have h1 : d ∣ d' := dvd_red g e
  have h2 : d' ∣ d := dvd_red g' e.symm
  have h3 : d = d' := Int.le_antisymm (Int.le_of_dvd h' h1) (Int.le_of_dvd h h2)
  subst h3
  exact ⟨Int.eq_of_mul_eq_mul_right (by lia) e, rfl⟩
theorem qn_same {n d n' d' : Int} (h : 0 < d) (h' : 0 < d') (e : n * d' = n' * d) : qn n d = qn n' d' ∧ qd n d = qd n' d' := by
  obtain ⟨a1, a2, a3, a4⟩ := qn_facts n h
  obtain ⟨b1, b2, b3, b4⟩ := qn_facts n' h'
  refine red_unique a1 b1 a3 b3 ?_
  have : (qn n d * qd n' d') * (d * d') = (qn n' d' * qd n d) * (d * d') := by grind
  exact Int.eq_of_mul_eq_mul_right (Int.ne_of_gt (Int.mul_pos h h')) this
theorem qn_self {n d : Int} (h : 0 < d) (g : Int.gcd n d = 1) : qn n d = n ∧ qd n d = d := by
  obtain ⟨a1, a2, a3, a4⟩ := qn_facts n h
  exact red_unique a1 h a3 g a4
/-- the number on the way from lo to hi -/
def mixE (lo hi : En) (rest pd : Int) : En :=
  .q (qn (num lo * den hi * (pd - rest) + num hi * den lo * rest) (pd * den lo * den hi)) (qd (num lo * den hi * (pd - rest) + num hi * den lo * rest) (pd * den lo * den hi))
/-- the number pn / pd along the row -/
def alongE (es : List En) (pn pd : Int) : En :=
  if Int.fmod (pn * ((es.length : Int) - 1)) pd = 0 then es.getD (Int.fdiv (pn * ((es.length : Int) - 1)) pd).toNat .no
  else mixE (es.getD (Int.fdiv (pn * ((es.length : Int) - 1)) pd).toNat .no) (es.getD ((Int.fdiv (pn * ((es.length : Int) - 1)) pd).toNat + 1) .no) (Int.fmod (pn * ((es.length : Int) - 1)) pd) pd
theorem fd_place {P pd a b : Int} (h : 0 < pd) (hb : 0 < b) (e : a * pd = P * b) : Int.fdiv a b = Int.fdiv P pd := by
  rw [Int.fdiv_eq_ediv_of_nonneg _ (by lia), Int.fdiv_eq_ediv_of_nonneg _ (by lia)]
  rw [← Int.mul_ediv_mul_of_pos_left a b h, e, Int.mul_comm b pd, Int.mul_ediv_mul_of_pos_left P pd hb]
theorem fm_is {P pd : Int} (h : 0 < pd) : Int.fmod P pd = P - Int.fdiv P pd * pd ∧ 0 ≤ Int.fmod P pd ∧ Int.fmod P pd < pd := by
  rw [Int.fdiv_eq_ediv_of_nonneg _ (by lia), Int.fmod_eq_emod_of_nonneg _ (by lia)]
  refine ⟨?_, Int.emod_nonneg _ (by lia), Int.emod_lt_of_pos _ h⟩
  have := Int.emod_add_mul_ediv P pd
  grind
theorem fd_range {pn pd m : Int} (h : 0 < pd) (h0 : 0 ≤ pn) (h1 : pn ≤ pd) (hm : 0 ≤ m) : 0 ≤ Int.fdiv (pn * m) pd ∧ Int.fdiv (pn * m) pd ≤ m ∧ (Int.fmod (pn * m) pd ≠ 0 → Int.fdiv (pn * m) pd < m) := by
  obtain ⟨a, b, c⟩ := fm_is (P := pn * m) h
  have h2 : 0 ≤ pn * m := Int.mul_nonneg h0 hm
  have h3 : pn * m ≤ pd * m := Int.mul_le_mul_of_nonneg_right h1 hm
  generalize Int.fdiv (pn * m) pd = f at *
  generalize Int.fmod (pn * m) pd = r at *
  generalize pn * m = P at *
  refine ⟨?_, ?_, fun hr => ?_⟩
  · apply Classical.byContradiction; intro q
    have : f * pd ≤ -1 * pd := Int.mul_le_mul_of_nonneg_right (by lia) (by lia)
    lia
  · apply Classical.byContradiction; intro q
    have : (m + 1) * pd ≤ f * pd := Int.mul_le_mul_of_nonneg_right (by lia) (by lia)
    have e : (m + 1) * pd = pd * m + pd := by grind
    lia
  · apply Classical.byContradiction; intro q
    have : m * pd ≤ f * pd := Int.mul_le_mul_of_nonneg_right (by lia) (by lia)
    have e : m * pd = pd * m := by grind
    lia
theorem part_is {P pd a b f u v : Int} (h : 0 < pd) (hb : 0 < b) (e : a * pd = P * b) (hf : f = Int.fdiv P pd) (hu : u * (b * 1) = (a * 1 + (0 - f) * b) * v) : u * pd = v * Int.fmod P pd := by
  obtain ⟨e1, _, _⟩ := fm_is (P := P) h
  rw [e1, ← hf]
  have : (u * pd) * b = (v * (P - f * pd)) * b := by grind
  exact Int.eq_of_mul_eq_mul_right (by lia) this
theorem mix_is {ln ld hn hd u v x y z t r pd : Int} (hpd : 0 < pd) (hld : 0 < ld) (hhd : 0 < hd) (hv : 0 < v) (hy : 0 < y) (ht : 0 < t)
    (e1 : u * pd = v * r) (e2 : x * (hd * ld) = (hn * ld + (0 - ln) * hd) * y) (e3 : z * (v * y) = u * x * t) :
    (ln * t + z * ld) * (pd * ld * hd) = (ln * hd * (pd - r) + hn * ld * r) * (ld * t) := by
  have s1 : (z * v * hd * ld) * y = (u * t * (hn * ld - ln * hd)) * y := by grind
  have s2 := Int.eq_of_mul_eq_mul_right (Int.ne_of_gt hy) s1
  have s3 : (z * hd * ld * pd) * v = (r * t * (hn * ld - ln * hd)) * v := by grind
  have s4 := Int.eq_of_mul_eq_mul_right (Int.ne_of_gt hv) s3
  grind
theorem qn_abs (n : Int) {d : Int} (h : 0 < d) : (qn n d).natAbs ≤ n.natAbs := by
  unfold qn
  have hg : 0 < Int.gcd n d := Int.gcd_pos_of_ne_zero_right n (by omega)
  rw [Int.natAbs_ediv_of_dvd (Int.gcd_dvd_left n d), Int.natAbs_natCast]
  exact Nat.div_le_self _ _
theorem diff_abs {ln ld hn hd : Int} (h1 : ln.natAbs ≤ 100) (h2 : hn.natAbs ≤ 100) (a1 : 0 < ld) (a2 : ld ≤ 6) (b1 : 0 < hd) (b2 : hd ≤ 6) : (hn * ld + (0 - ln) * hd).natAbs ≤ 1200 ∧ 0 < hd * ld ∧ hd * ld ≤ 36 := by
  have e1 : (hn * ld).natAbs ≤ 100 * 6 := by rw [Int.natAbs_mul]; exact Nat.mul_le_mul h2 (by omega)
  have e2 : ((0 - ln) * hd).natAbs ≤ 100 * 6 := by rw [Int.natAbs_mul]; exact Nat.mul_le_mul (by omega) (by omega)
  have e3 : hd * ld ≤ 6 * 6 := Int.mul_le_mul b2 a2 (by omega) (by omega)
  exact ⟨by omega, Int.mul_pos b1 a1, by omega⟩
end qmath

/-- the value shows e: one of the row's, or new -/
def GotEn (vs : List Value) (es : List En) (h h' : Heap) (v : Value) (e : En) : Prop := (∃ k, vs[k]? = some v ∧ e = es.getD k .no) ∨ NewEn h h' v e
/-- the items of a row -/
def RowE (es : List En) : Prop := ∀ e ∈ es, OkE e ∧ KdE .db e ∧ lack e = false
theorem RowE.get {es : List En} (r : RowE es) {k : Nat} (h : k < es.length) : 0 < den (es.getD k .no) ∧ den (es.getD k .no) ≤ 6 ∧ (num (es.getD k .no)).natAbs ≤ 100 ∧ es.getD k .no = .q (num (es.getD k .no)) (den (es.getD k .no)) := by
  have e : es.getD k .no = es[k] := by rw [List.getD_eq_getElem?_getD, List.getElem?_eq_getElem h]; rfl
  rw [e]
  have := r _ (List.getElem_mem h)
  exact den_pos this.1 this.2.1 this.2.2
theorem row_at {h : Heap} {vs : List Value} {es : List En} (hv : EnsAt h vs es) {k : Nat} {v : Value} (e : vs[k]? = some v) : EnAt h v (es.getD k .no) := by
  refine goal_var fun G9 hG9 => ?_
  obtain ⟨b, h1, h2⟩ := pd_get hv e
  refine hG9 ?_
  clear hG9 G9
  rw [List.getD_eq_getElem?_getD, h1]
  exact h2
section
variable {w : World} {A : Around} {s : Shared} {E : Value → Shared → Prop} {Q : Value → Shared → Prop} {prog : Program}
theorem item_row {g : Heap} {value slice : PySem.Expr} {l : Addr} {vs : List Value} {es : List En} {k : Int} {u : Tok} (hl : g.IsList l vs.toArray) (hv : EnsAt g vs es) (st : g.StaysIn s.heap) (r : RowE es) (hz : es.length ≤ 8) (h0 : 0 ≤ k) (h1 : k < es.length)
    (h : ∀ a t u, vs[k.toNat]? = some (.ref a) → IsTup g a #[.int (num (es.getD k.toNat .no)) t, .int (den (es.getD k.toNat .no)) u] → Q (.ref a) s)
    (hs : subscripted slice false (.ref l) (.int k u) = operate [.ref l, .int k u] (getItem (.ref l) (.int k u)) := by with_unfolding_all rfl) :
    wpAny (model prog w) A (subscriptTail value slice (.ref l) (.int k u)) Q E s := by
  have hk : k.toNat < es.length := by lia
  refine goal_var fun G9 hG9 => ?_
  obtain ⟨v, hvv, hve⟩ := pd_getR hv (List.getElem?_eq_getElem hk)
  refine hG9 ?_
  clear hG9 G9
  have e : es.getD k.toNat .no = es[k.toNat] := by rw [List.getD_eq_getElem?_getD, List.getElem?_eq_getElem hk]; rfl
  refine goal_var fun G9 hG9 => ?_
  obtain ⟨d0, d1, d2, d3⟩ := r.get hk
  refine hG9 ?_
  clear hG9 G9
  rw [← e, d3] at hve
  refine goal_var fun G9 hG9 => ?_
  obtain ⟨a, t, u, rfl, ht⟩ := hve
  refine hG9 ?_
  clear hG9 G9
  exact item_litK (hl.at fun o q => st _ o q) h0 (by lia) hvv (h a t u hvv ht) hs
theorem truthy_ens {l : Addr} {vs : List Value} {es : List En} {Q : Bool → Shared → Prop} (hl : s.heap.IsList l vs.toArray) (hv : EnsAt s.heap vs es) (hz : es.length < 1000) (h : Q (decide (0 < es.length)) { s with toks := s.toks + 1 + 1 }) :
    wpAny (model prog w) A (truthy (.ref l)) Q E s := by
  have e := pd_len hv
  refine wpAny_truthy_list hl (by rw [List.size_toArray]; lia) ?_
  rw [show (!vs.toArray.isEmpty) = decide (0 < es.length) by rw [← e]; cases vs <;> simp]
  exact h
theorem len_ens {l : Addr} {vs : List Value} {es : List En} (hl : s.heap.IsList l vs.toArray) (hv : EnsAt s.heap vs es) (hz : es.length < 1000) (h : Q (.int (es.length : Nat) (s.toks + 1)) { s with toks := s.toks + 1 + 1 }) :
    wpAny (model prog w) A (call (.builtin "len") [.ref l]) Q E s := by
  have e : vs.toArray.size = es.length := by rw [List.size_toArray]; exact pd_len hv
  refine Calls.call_len_list hl (by lia) ?_
  rw [e]
  exact h
end
--REG
set_option hygiene false in
local macro_rules | `(tactic| walk_at "truthy ref") => `(tactic| k_call_by "MT" (truthy (Value.ref _)) (truthy_ens _ _ _ _))
set_option hygiene false in
local macro_rules | `(tactic| walk_at "call builtin:len") => `(tactic| k_call_by "MT" (call (Value.builtin "len") [Value.ref _]) (len_ens _ _ _ _))
set_option hygiene false in
local macro_rules | `(tactic| walk_at "MINE kp0") => `(tactic| exact Fr.keep (by k_asm))
local macro_rules | `(tactic| walk_at "subscriptTail") => `(tactic| (k_here; (with_reducible show wpAny _ _ (subscriptTail _ _ (Value.ref _) (Value.int _ _)) _ _ _); k_dflt (refine' item_row ?k1 ?k2 ?k0 ?k3 ?k4 ?k5 ?k6 ?_ ?k7; (case k1 => assumption); (case k2 => assumption); (case k0 => walk_at "MINE kp0"); (case k3 => assumption); (case k4 => assumption); (case k5 => walk_at "MINE ar"); (case k6 => walk_at "MINE ar"); (case k7 => with_unfolding_all rfl); k_whole); intro a0 t0 u0 hv0 ht0))
--END
section
variable {w : World} {dp un : Nat} {fr : Option (List Env)} {gd : Option (List Code)} {s : Shared} {p : Program} {loose : List Str} {mean : ExcName → Option Value} {mg mb : Str → Option Value} {Q : Value → Shared → Prop} {E : Value → Shared → Prop}
theorem qitem_spec {l a : Addr} {vs : List Value} {es : List En} {pn pd : Int} {t u : Tok} (X : (hd.heap_1 w.params).In s.heap) (T : Top p loose mean mg mb s.heap) (Rm : Room (Ar dp un fr gd) 12)
   (hl : s.heap.IsList l vs.toArray) (hv : EnsAt s.heap vs es) (r : RowE es) (hz : es.length ≤ 8) (hne : 0 < es.length)
   (ha : IsTup s.heap a #[.int pn t, .int pd u]) (hp0 : 0 < pd) (hp8 : pd ≤ 8) (h0 : 0 ≤ pn) (h1 : pn ≤ pd)
   (h : ∀ h' tk v, s.heap.StaysIn h' → GotEn vs es s.heap h' v (alongE es pn pd) → Q v { s with heap := h', toks := tk }) :
   wpAny (MM w) (Ar dp un fr gd) (call (.ref 229) [.ref l, .ref a]) Q E s := by
  refine wpAny_call ?_
  refine' enter_def (binds := [("row", .ref l), ("p", .ref a)]) s.heap [] X T Rm (fun _ _ e => e) (Nat.le_refl _) (fun _ hq => nomatch hq) ?k6 ?k7 ?k9 ?kB ?_ ?c2 ?c3 ?c4 ?c5
  (case k6 => k_dflt k_is)
  (case k7 => k_dflt k_is)
  (case k9 => k_dflt exact BindsTo.of_eq rfl)
  (case kB => k_dflt exact locs rfl)
  (case c2 => k_dflt exact rfl)
  (case c3 => k_dflt exact rfl)
  (case c4 => k_dflt exact rfl)
  (case c5 => k_dflt decide)
  intro L h₁ Rm' F N k₁ hL
  (try dsimp only)
  (try k_fold)
  k_steps
  refine goal_var fun G9 hG9 => ?_
  obtain ⟨f1, f2, f3, f4⟩ := qn_facts (pn * ((es.length : Int) - 1)) (d := pd * 1) (by lia)
  refine hG9 ?_
  clear hG9 G9
  generalize hA : qn (pn * ((es.length : Int) - 1)) (pd * 1) = A at *
  generalize hB : qd (pn * ((es.length : Int) - 1)) (pd * 1) = B at *
  have f5 : A * pd = pn * ((es.length : Int) - 1) * B := by rw [← f4]; grind
  have hlow := fd_place hp0 f1 f5
  refine goal_var fun G9 hG9 => ?_
  obtain ⟨g0, g1, g2⟩ := fd_range (m := (es.length : Int) - 1) hp0 h0 h1 (by lia)
  obtain ⟨g3, g4, g5⟩ := fm_is (P := pn * ((es.length : Int) - 1)) hp0
  refine hG9 ?_
  clear hG9 G9
  rw [← hlow] at g0 g1 g2
  refine goal_var fun G9 hG9 => ?_
  obtain ⟨u1, u2, u3, u4⟩ := qn_facts (A * 1 + (0 - Int.fdiv A B) * B) (d := B * 1) (by lia)
  refine hG9 ?_
  clear hG9 G9
  have hpart := part_is hp0 f1 f5 hlow u4
  have hup : qn (A * 1 + (0 - Int.fdiv A B) * B) (B * 1) ≠ 0 → Int.fdiv A B + 1 < (es.length : Int) := fun q => by
    have : Int.fmod (pn * ((es.length : Int) - 1)) pd ≠ 0 := fun z => by
      rw [z, Int.mul_zero] at hpart
      rcases Int.mul_eq_zero.mp hpart with z | z
      · exact q z
      · lia
    have := g2 this
    lia
  refine goal_var fun G9 hG9 => ?_
  obtain ⟨d0, d1, d2, d3⟩ := r.get (k := (Int.fdiv A B).toNat) (by lia)
  refine hG9 ?_
  clear hG9 G9
  k_steps
  · walk_at "MINE end"
    have hU : qn (A * 1 + (0 - Int.fdiv A B) * B) (B * 1) = 0 := by assumption
    have hr : Int.fmod (pn * ((es.length : Int) - 1)) pd = 0 := by
      rw [hU, Int.zero_mul] at hpart
      rcases Int.mul_eq_zero.mp hpart.symm with z | z
      · lia
      · exact z
    refine h _ _ _ (Fr.keep (by assumption)) (.inl ⟨_, by assumption, ?_⟩)
    unfold alongE
    rw [if_pos hr, ← hlow]
  · have hU : qn (A * 1 + (0 - Int.fdiv A B) * B) (B * 1) ≠ 0 := by assumption
    have hlt := hup hU
    refine goal_var fun G9 hG9 => ?_
    obtain ⟨c0, c1, c2, c3⟩ := r.get (k := (Int.fdiv A B + 1).toNat) (by lia)
    refine hG9 ?_
    clear hG9 G9
    k_steps
    generalize hlk : (Int.fdiv A B).toNat = lk at *
    generalize hhk : (Int.fdiv A B + 1).toNat = hk at *
    generalize hln : num (es.getD lk .no) = ln at *
    generalize hld : den (es.getD lk .no) = ld at *
    generalize hhn : num (es.getD hk .no) = hn at *
    generalize hhd : den (es.getD hk .no) = hd' at *
    refine goal_var fun G9 hG9 => ?_
    obtain ⟨b1, b2, b3⟩ := diff_abs d2 c2 d0 d1 c0 c1
    obtain ⟨x1, x2, x3, x4⟩ := qn_facts (hn * ld + (0 - ln) * hd') (d := hd' * ld) b2
    refine hG9 ?_
    clear hG9 G9
    have x5 := qn_abs (hn * ld + (0 - ln) * hd') (d := hd' * ld) b2
    generalize hx : qn (hn * ld + (0 - ln) * hd') (hd' * ld) = x at *
    generalize hy : qd (hn * ld + (0 - ln) * hd') (hd' * ld) = y at *
    generalize hUe : qn (A * 1 + (0 - Int.fdiv A B) * B) (B * 1) = U at *
    generalize hVe : qd (A * 1 + (0 - Int.fdiv A B) * B) (B * 1) = V at *
    have v1 : V * y ≤ 8 * 36 := Int.mul_le_mul (by lia) (by lia) (by lia) (by lia)
    have v2 : 0 < V * y := Int.mul_pos u1 x1
    refine goal_var fun G9 hG9 => ?_
    obtain ⟨z1, z2, z3, z4⟩ := qn_facts (U * x) (d := V * y) v2
    refine hG9 ?_
    clear hG9 G9
    k_steps
    all_goals walk_at "MINE end"
    generalize qn (U * x) (V * y) = z at *
    generalize qd (U * x) (V * y) = t' at *
    have hr : Int.fmod (pn * ((es.length : Int) - 1)) pd ≠ 0 := fun q => by
      rw [q, Int.mul_zero] at hpart
      rcases Int.mul_eq_zero.mp hpart with q | q
      · exact hU q
      · lia
    have key : alongE es pn pd = .q (qn (ln * t' + z * ld) (ld * t')) (qd (ln * t' + z * ld) (ld * t')) := by
      unfold alongE
      rw [if_neg hr, ← hlow]
      unfold mixE
      rw [hlk, show lk + 1 = hk by lia, hln, hld, hhn, hhd]
      obtain ⟨e1, e2⟩ := qn_same (Int.mul_pos d0 z1) (Int.mul_pos (Int.mul_pos hp0 d0) c0) (mix_is hp0 d0 c0 u1 x1 z1 hpart x4 z4)
      rw [e1, e2]
    rw [key] at h
    exact h _ _ _ (Fr.keep (by assumption)) (.inr ⟨_, _, _, rfl, News.fresh (by assumption) (.head _), News.get (by assumption) (.head _)⟩)
end

section
variable {w : World} {dp un : Nat} {fr : Option (List Env)} {gd : Option (List Code)} {s : Shared} {p : Program} {loose : List Str} {mean : ExcName → Option Value} {mg mb : Str → Option Value} {Q : Value → Shared → Prop} {E : Value → Shared → Prop}
theorem qnone_spec {v : Value} (X : (hd.heap_1 w.params).In s.heap) (T : Top p loose mean mg mb s.heap) (Rm : Room (Ar dp un fr gd) 12)
   (h : ∀ h' tk, s.heap.StaysIn h' → Q .none { s with heap := h', toks := tk }) :
   wpAny (MM w) (Ar dp un fr gd) (call (.ref 229) [v, .none]) Q E s := by
  refine wpAny_call ?_
  refine' enter_def (binds := [("row", v), ("p", .none)]) s.heap [] X T Rm (fun _ _ e => e) (Nat.le_refl _) (fun _ hq => nomatch hq) ?k6 ?k7 ?k9 ?kB ?_ ?c2 ?c3 ?c4 ?c5
  (case k6 => k_dflt k_is)
  (case k7 => k_dflt k_is)
  (case k9 => k_dflt exact BindsTo.of_eq rfl)
  (case kB => k_dflt exact locs rfl)
  (case c2 => k_dflt exact rfl)
  (case c3 => k_dflt exact rfl)
  (case c4 => k_dflt exact rfl)
  (case c5 => k_dflt decide)
  intro L h₁ Rm' F N k₁ hL
  (try dsimp only)
  (try k_fold)
  k_steps
  all_goals walk_at "MINE end"
  exact h _ _ (Fr.keep (by assumption))
theorem qempty_spec {l a : Addr} {vs : List Value} {pn pd : Int} {t u : Tok} (X : (hd.heap_1 w.params).In s.heap) (T : Top p loose mean mg mb s.heap) (Rm : Room (Ar dp un fr gd) 12)
   (hl : s.heap.IsList l vs.toArray) (hv : EnsAt s.heap vs []) (ha : IsTup s.heap a #[.int pn t, .int pd u]) (hp0 : 0 < pd) (h0 : 0 ≤ pn) (h1 : pn ≤ pd)
   (h : ∀ h' tk, s.heap.StaysIn h' → Q .none { s with heap := h', toks := tk }) :
   wpAny (MM w) (Ar dp un fr gd) (call (.ref 229) [.ref l, .ref a]) Q E s := by
  refine wpAny_call ?_
  refine' enter_def (binds := [("row", .ref l), ("p", .ref a)]) s.heap [] X T Rm (fun _ _ e => e) (Nat.le_refl _) (fun _ hq => nomatch hq) ?k6 ?k7 ?k9 ?kB ?_ ?c2 ?c3 ?c4 ?c5
  (case k6 => k_dflt k_is)
  (case k7 => k_dflt k_is)
  (case k9 => k_dflt exact BindsTo.of_eq rfl)
  (case kB => k_dflt exact locs rfl)
  (case c2 => k_dflt exact rfl)
  (case c3 => k_dflt exact rfl)
  (case c4 => k_dflt exact rfl)
  (case c5 => k_dflt decide)
  intro L h₁ Rm' F N k₁ hL
  (try dsimp only)
  (try k_fold)
  have hz : ([] : List En).length < 1000 := by decide
  k_steps
  all_goals walk_at "MINE end"
  exact h _ _ (Fr.keep (by assumption))
end
--REG
local macro_rules | `(tactic| walk_at "exec Raise some none") => `(tactic| (k_here; k_dflt (refine' raise51 ?hh ?_; (case hh => exact Room.hh (by assumption)); k_whole)))
set_option hygiene false in
local macro_rules | `(tactic| walk_at "call ref") => `(tactic| (k_call_by "MC" 51 (exc_call _ _ _ _); intros))
--END
/-- the exception flies out of the frames, its message kept -/
structure Out51 (g h h' : Heap) (outer : List Env) (e d : Addr) (msg : Str) : Prop where
  fl : Fl g outer e d .none h'
  up : h.UpToSlots h'
  msg : ∃ od t, h'.get? d = some od ∧ lookIn "message" od = some (some (.str msg t))
  dnew : h.get? d = none
theorem lookIn_slots {n : Str} {o : Obj} {sl : Array (Option Value)} : lookIn n { o with slots := sl } = lookIn n o := rfl
theorem none_of {g h : Heap} (st : g.StaysIn h) {a : Addr} (e : h.get? a = none) : g.get? a = none := by
  cases q : g.get? a with
  | none => rfl
  | some o => rw [st _ _ q] at e; cases e
theorem not_rec {o : Obj} {n : Str} {v : Value} (e : lookIn n o = some (some v)) : ∀ vs, o.data ≠ .fields vs := fun vs q => by
  unfold lookIn at e; rw [q] at e; cases e
/-- leaving the frame in which it was made -/
theorem out_first {M : Model} {A : Around} {E : Value → Shared → Prop} {s : Shared} {h g : Heap} {env : Env} {outer : List Env} {L e d : Addr} {msg : Str} {t : Tok} {Q : Unit → Shared → Prop}
    (hfr : A.frames = some outer) (hf : env.frame = some L) (hg : g.StaysIn h) (hfun : h.FunFrames g (env :: outer)) (hm : Ref51 h s.heap e d (.str msg t))
    (k : ∀ h', Out51 g h h' outer e d msg → Q () { s with heap := h' }) : wpAny M (A.deeper env) (leaving env (.ref e)) Q E s := by
  refine goal_var fun G9 hG9 => ?_
  obtain ⟨t', he⟩ := hm.there
  obtain ⟨od, ho, hl⟩ := hm.dict
  refine hG9 ?_
  clear hG9 G9
  refine leave_first (Around.frames_deeper hfr) (hfun.of_keeps fun b o e _ => ⟨o, hm.keeps _ _ e, rfl⟩) hf he rfl rfl (fun b o q => hm.keeps _ _ (hg b o q)) (none_of hg hm.new) rfl rfl fun h' x u => ?_
  obtain ⟨sl, hs⟩ := u d od ho (not_rec hl)
  exact k h' ⟨x, (Heap.UpToSlots.of_keeps hm.keeps).trans u, ⟨_, t, hs, hl⟩, hm.dnew⟩
/-- out of the next frame -/
theorem note_any {M : Model} {A : Around} {E : Value → Shared → Prop} {s : Shared} {base : Heap} {env : Env} {outer : List Env} {L e d : Addr} {fl : Value} {Q : Unit → Shared → Prop} (hfr : A.frames = some (env :: outer)) (hf : env.frame = some L) (x : Fl base (env :: outer) e d fl s.heap)
    (h : ∀ h', Fl base (env :: outer) e d (rawInt L) h' → s.heap.UpToSlots h' → Q () { s with heap := h' }) : wpAny M A (noteFrame (.ref e) env) Q E s := by
  by_cases hL : fl = rawInt L
  · subst hL
    exact note_again hf x (h s.heap x (.refl _))
  refine goal_var fun G9 hG9 => ?_
  obtain ⟨hkb, hen, hl, oe, vs, T, oT, ts, he, hcl, hdt, hda, h1, hnT, hTe, hT, hdT, h3⟩ := x
  refine hG9 ?_
  clear hG9 G9
  unfold noteFrame
  simp only [hf]
  refine wpAny_bind (wpAny_field he hda h1 ?_)
  rw [if_pos (show (Value.ref T != Value.none) = true from by simp)]
  refine wpAny_bind (wpAny_field hT hdT h3 ?_)
  rw [if_neg (show ¬ ((fl == rawInt L) = true) from by simpa using hL)]
  refine wpAny_bind (wpAny_setField hT hdT (Array.getElem?_eq_some_iff.mp h3).1 ?_)
  have other : ∀ b, b ≠ T → (s.heap.update T (Obj.mapFields (·.setIfInBounds 3 Value.none))).get? b = s.heap.get? b := fun b hb => Heap.get?_update_other _ _ (Ne.symm hb)
  have noRec : ∀ b o, s.heap.get? b = some o → (∀ vs, o.data ≠ .fields vs) → b ≠ T := fun b o hb hnf q => by
    rw [q, hT] at hb; cases hb; exact hnf ts hdT
  refine entry51 hfr (hl.of_keeps fun b o hb hnf => ⟨o, (other b (noRec b o hb hnf)).trans hb, rfl⟩) hf ((other e (Ne.symm hTe)).trans he) hcl hdt
    (fun b o hbo => (other b fun q => by rw [q, hnT] at hbo; cases hbo).trans (hkb b o hbo)) hen hda (Array.getElem?_eq_some_iff.mp h1).1
    fun h' a b => h h' a fun c o hc hn => b c o ((other c (noRec c o hc hn)).trans hc) hn
theorem leave_any {M : Model} {A : Around} {E : Value → Shared → Prop} {s : Shared} {base : Heap} {env : Env} {outer : List Env} {L e d : Addr} {fl : Value} {Q : Unit → Shared → Prop} (hfr : A.frames = some (env :: outer)) (hf : env.frame = some L) (x : Fl base (env :: outer) e d fl s.heap)
    (h : ∀ h', Fl base outer e d .none h' → s.heap.UpToSlots h' → Q () { s with heap := h' }) : wpAny M A (leaving env (.ref e)) Q E s :=
  wpAny_bind (note_any hfr hf x fun _ x u => flight_off x fun h' y v => h h' y.pop (u.trans v))
theorem noteFrame_congr {e : Value} {c env : Env} (h : c.frame = env.frame) : noteFrame e c = noteFrame e env := by
  unfold noteFrame PySem.frameOf
  rw [h]
/-- the names of a block that is no frame may be turned -/
theorem Fl.same {base h h' : Heap} {l : List Env} {e d C : Addr} {fl : Value} (x : Fl base l e d fl h) (hs : Heap.SameBut C h h') (hb : base.get? C = none) (hC : ∃ o, h.get? C = some o ∧ ∀ vs, o.data ≠ .fields vs) (hl : C ∉ l.filterMap (·.frame)) : Fl base l e d fl h' := by
  refine goal_var fun G9 hG9 => ?_
  obtain ⟨oC, hoC, hnC⟩ := hC
  refine hG9 ?_
  clear hG9 G9
  have ne : ∀ {b o vs}, h.get? b = some o → o.data = .fields vs → b ≠ C := fun {b o vs} e q z => by rw [z, hoC] at e; cases e; exact hnC vs q
  refine goal_var fun G9 hG9 => ?_
  obtain ⟨hkb, hen, hf, oe, vs, T, oT, ts, he, hcl, hdt, hda, h1, hnT, hTe, hT, hdT, h3⟩ := x
  refine hG9 ?_
  clear hG9 G9
  refine ⟨fun b o q => (hs.2 b (fun z => by rw [z, hb] at q; cases q)).trans (hkb b o q), hen, ?_, oe, vs, T, oT, ts, (hs.2 e (ne he hda)).trans he, hcl, hdt, hda, h1, hnT, hTe, (hs.2 T (ne hT hdT)).trans hT, hdT, h3⟩
  clear hkb hen he hcl hdt hda h1 hnT hTe hT hdT h3
  induction l with
  | nil => trivial
  | cons env r ih =>
    refine goal_var fun G9 hG9 => ?_
    obtain ⟨a, ⟨L, o, b1, b2, b3, b4⟩, c⟩ := hf
    refine hG9 ?_
    clear hG9 G9
    rw [List.filterMap_cons, b1] at hl
    exact ⟨a, ⟨L, o, b1, b2, (hs.2 L fun z => hl (z ▸ List.mem_cons_self)).trans b3, b4⟩, ih (fun z => hl (List.mem_cons_of_mem _ z)) c⟩
theorem fun_base {h g base : Heap} : ∀ {l : List Env}, h.FunFrames g l → (∀ L ∈ l.filterMap (·.frame), base.get? L = none) → h.FunFrames base l
  | [], _, _ => trivial
  | env :: r, ⟨a, ⟨L, o, b1, b2, b3, b4⟩, c⟩, hb => by
    rw [List.filterMap_cons, b1] at hb
    exact ⟨a, ⟨L, o, b1, hb L List.mem_cons_self, b3, b4⟩, fun_base c fun L' h' => hb L' (List.mem_cons_of_mem _ h')⟩
theorem fun_cons {h₀ h g : Heap} {env : Env} {outer : List Env} {L : Addr} {m : Str → Option Value} (F : Fr h₀ L h m) (hf : env.frame = some L) (hk : env.scope.kind = .function) (hg : g.get? L = none) (hfun : h.FunFrames g outer) : h.FunFrames g (env :: outer) := by
  obtain ⟨o, es, ep, ho, hda, _⟩ := F.ns
  exact ⟨by rw [hk]; decide, ⟨L, o, hf, hg, ho, fun vs q => by rw [hda] at q; cases q⟩, hfun⟩
section
variable {w : World} {dp un : Nat} {outer : List Env} {gd : Option (List Code)} {s : Shared} {p : Program} {loose : List Str} {mean : ExcName → Option Value} {mg mb : Str → Option Value} {Q : Value → Shared → Prop} {E : Value → Shared → Prop}
theorem qraise_spec {g : Heap} {v : Value} {a : Addr} {pn pd : Int} {t u : Tok} (X : (hd.heap_1 w.params).In s.heap) (T : Top p loose mean mg mb s.heap) (Rm : Room (Ar dp un (some outer) gd) 12)
   (ha : IsTup s.heap a #[.int pn t, .int pd u]) (hp0 : 0 < pd) (hout : pn < 0 ∨ pd < pn) (K : Below (Ar dp un (some outer) gd) g outer s.heap)
   (h : ∀ h' tk e d, Out51 g s.heap h' outer e d "'probs' outside [0,1]" → E (.ref e) { s with heap := h', toks := tk }) :
   wpAny (MM w) (Ar dp un (some outer) gd) (call (.ref 229) [v, .ref a]) Q E s := by
  refine wpAny_call ?_
  refine' enter_def (binds := [("row", v), ("p", .ref a)]) s.heap [] X T Rm (fun _ _ e => e) (Nat.le_refl _) (fun _ hq => nomatch hq) ?k6 ?k7 ?k9 ?kB ?_ ?c2 ?c3 ?c4 ?c5
  (case k6 => k_dflt k_is)
  (case k7 => k_dflt k_is)
  (case k9 => k_dflt exact BindsTo.of_eq rfl)
  (case kB => k_dflt exact locs rfl)
  (case c2 => k_dflt exact rfl)
  (case c3 => k_dflt exact rfl)
  (case c4 => k_dflt exact rfl)
  (case c5 => k_dflt decide)
  intro L h₁ Rm' F N k₁ hL
  (try dsimp only)
  (try k_fold)
  k_steps
  all_goals walk_at "MINE end"
  all_goals (
    rename Ref51 _ _ _ _ _ => hm
    rename Fr _ _ _ _ => F1
    obtain ⟨t', he⟩ := hm.there
    refine ⟨_, _, rfl, X.keeps (fun b o q => hm.keeps _ _ (F1.keep _ _ q)), ⟨t', he⟩, ?_⟩
    exact out_first K.stack rfl (fun b o q => F1.keep b o (K.stays b o q)) (fun_cons F1 rfl rfl (none_of K.stays (Heap.get?_none_of_le F1.above)) (K.frames.of_keeps fun b o e _ => ⟨o, F1.keep b o e, rfl⟩)) hm fun h' x => h h' _ _ _ ⟨x.fl, (Heap.UpToSlots.of_keeps F1.keep).trans x.up, x.msg, none_of F1.keep x.dnew⟩)
end

/-- K is part of every heap that keeps g and the ledger nx -/
structure Kp (g : Heap) (nx : List (Addr × Obj)) (K : Heap) : Prop where
  stays : ∀ h' : Heap, g.StaysIn h' → (∀ q ∈ nx, h'.get? q.1 = some q.2) → K.StaysIn h'
  list : ∀ a o, K.get? a = some o → g.get? a = some o ∨ (a, o) ∈ nx
theorem Kp.at {g K h : Heap} {L : Addr} {m : Str → Option Value} {nx news : List (Addr × Obj)} (k : Kp g nx K) (F : Fr g L h m) (N : News g L h news) (hs : ∀ q ∈ nx, q ∈ news) : K.StaysIn h :=
  k.stays h F.keep fun q hq => (N q (hs q hq)).1
def hideAll : List Addr → Heap → Heap
  | [], h => h
  | a :: r, h => (hideAll r h).hide a
theorem hideAll_of : ∀ {as : List Addr} {h : Heap} {a : Addr} {o : Obj}, (hideAll as h).get? a = some o → h.get? a = some o ∧ a ∉ as
  | [], _, _, _, e => ⟨e, fun q => by cases q⟩
  | b :: r, h, a, o, e => by
    have hab : a ≠ b := fun q => by rw [q] at e; have := Heap.hide_self (hideAll r h) b; unfold hideAll at e; rw [this] at e; cases e
    obtain ⟨h1, h2⟩ := hideAll_of (as := r) (Heap.of_hide e)
    exact ⟨h1, fun q => by rcases List.mem_cons.mp q with q | q; exact hab q; exact h2 q⟩
theorem hideAll_to : ∀ {as : List Addr} {h : Heap} {a : Addr} {o : Obj}, h.get? a = some o → a ∉ as → (hideAll as h).get? a = some o
  | [], _, _, _, e, _ => e
  | b :: r, h, a, o, e, hn => (Heap.hide_ne _ (fun q => hn (List.mem_cons.mpr (.inl q)))).trans (hideAll_to e fun q => hn (List.mem_cons_of_mem _ q))
/-- all that lies beside the frame and the cells, listed -/
theorem kp_make {g h : Heap} {L : Addr} {m : Str → Option Value} {cs : List (Addr × Obj)} (F : Fr g L h m) (N : News g L h cs) :
    ∃ nx K, News g L h (cs ++ nx) ∧ (∀ q ∈ nx, ∀ c ∈ cs, q.1 ≠ c.1) ∧ Kp g nx K ∧ (∀ a o, h.get? a = some o → a ≠ L → (∀ c ∈ cs, a ≠ c.1) → K.get? a = some o) ∧ K.get? L = none ∧ (∀ c ∈ cs, K.get? c.1 = none) ∧ K.StaysIn h := by
  have hK : ∀ {a o}, (hideAll (L :: cs.map (·.1)) h).get? a = some o → h.get? a = some o ∧ a ∉ L :: cs.map (·.1) := fun e => hideAll_of e
  generalize hke : hideAll (L :: cs.map (·.1)) h = K at *
  have hnone : ∀ {a}, a ∈ L :: cs.map (·.1) → K.get? a = none := fun {a} hm => by
    cases q : K.get? a with
    | none => rfl
    | some o => exact absurd hm (hK q).2
  refine ⟨(List.range h.objs.size).filterMap fun a => match K.get? a, g.get? a with | some o, none => some (a, o) | _, _ => none, K, ?_, ?_, ?_, ?_, hnone List.mem_cons_self, fun c hc => hnone (List.mem_cons_of_mem _ (List.mem_map.mpr ⟨c, hc, rfl⟩)), fun a o e => (hK e).1⟩
  · intro q hq
    rcases List.mem_append.mp hq with hq | hq
    · exact N q hq
    · refine goal_var fun G9 hG9 => ?_
      obtain ⟨a, _, e⟩ := List.mem_filterMap.mp hq
      refine hG9 ?_
      clear hG9 G9
      split at e
      · rename_i o e1 e2
        cases e
        obtain ⟨h1, h2⟩ := hK e1
        exact ⟨h1, fun z => h2 (List.mem_cons.mpr (.inl z)), e2⟩
      · cases e
  · intro q hq c hc z
    refine goal_var fun G9 hG9 => ?_
    obtain ⟨a, _, e⟩ := List.mem_filterMap.mp hq
    refine hG9 ?_
    clear hG9 G9
    split at e
    · rename_i o e1 e2
      cases e
      exact (hK e1).2 (List.mem_cons_of_mem _ (List.mem_map.mpr ⟨c, hc, z.symm⟩))
    · cases e
  · refine ⟨fun h' sg sn a o e => ?_, fun a o e => ?_⟩
    rotate_left
    · cases q : g.get? a with
      | some o' =>
        have := F.keep _ _ q
        rw [(hK e).1] at this
        exact .inl this.symm
      | none => exact .inr (List.mem_filterMap.mpr ⟨a, List.mem_range.mpr (Heap.lt_size (hK e).1), by rw [e, q]⟩)
    obtain ⟨h1, h2⟩ := hK e
    cases q : g.get? a with
    | some o' =>
      have := F.keep _ _ q
      rw [h1] at this
      cases this
      exact sg _ _ q
    | none => exact sn (a, o) (List.mem_filterMap.mpr ⟨a, List.mem_range.mpr (Heap.lt_size h1), by rw [e, q]⟩)
  · intro a o e hL hc
    rw [← hke]
    refine hideAll_to e fun q => ?_
    rcases List.mem_cons.mp q with q | q
    · exact hL q
    · obtain ⟨c, hm, z⟩ := List.mem_map.mp q
      exact hc c hm z.symm
--REG
set_option hygiene false in
local macro_rules | `(tactic| k_all) => `(tactic| assumption)
set_option hygiene false in
local macro_rules | `(tactic| walk_at "MINE kp") => `(tactic| (exact Kp.at (by assumption) (by k_asm) (by k_asm) (by walk_at "MINE sub")))
set_option hygiene false in
local macro_rules | `(tactic| walk_at "MINE lst") => `(tactic| (first | assumption | exact Heap.IsList.at (by assumption) (Fr.keep (by assumption) _) | exact Heap.IsList.at (by assumption) (Kp.at (by assumption) (by k_asm) (by k_asm) (by walk_at "MINE sub") _) | exact News.isList (by k_asm) (by k_mem)))
set_option hygiene false in
local macro_rules | `(tactic| walk_at "MINE tup") => `(tactic| (exact IsTup.keeps (by assumption) (Kp.at (by assumption) (by k_asm) (by k_asm) (by walk_at "MINE sub"))))
set_option hygiene false in
local macro_rules | `(tactic| walk_at "MINE kp0") => `(tactic| walk_at "MINE kp")
local macro_rules | `(tactic| walk_at "subscriptTail Name Slice ref ref") => `(tactic| (k_here; (with_reducible show wpAny _ _ (subscriptTail _ (PySem.Expr.Slice _ _ none _) (Value.ref _) (Value.ref _)) _ _ _); k_dflt (refine' kms_slice_lit ?F ?N ?l ?p ?q ?e ?_ ?s ?t ?z; (case F => k_asm); (case N => k_asm); (case l => walk_at "MINE lst"); (case p => kmk_part); (case q => kmk_part); (case e => exact rfl); (case s => with_unfolding_all rfl); (case t => kmk_pure); (case z => (rw [List.size_toArray, sizeLine_eq]; omega)); k_whole); intro D0 h0 F0 N0 l0; (try k_lt l0); (try k_sweep)))
set_option hygiene false in
local macro_rules | `(tactic| walk_at "MINE ens") => `(tactic| (first | assumption | exact EnsAt.keeps (Fr.keep (by assumption)) (by assumption) | exact EnsAt.keeps (Kp.at (by assumption) (by k_asm) (by k_asm) (by walk_at "MINE sub")) (by assumption)))
--END
/-- what is no cell of the frame L moves over -/
theorem list_to {h K : Heap} {L l : Addr} {m : Str → Option Value} {its : Array Value} {cs : List (Addr × Obj)} (hL : h.Ns L m) (hk : ∀ a o, h.get? a = some o → a ≠ L → (∀ c ∈ cs, a ≠ c.1) → K.get? a = some o) (x : h.IsList l its) (hc : ∀ c ∈ cs, l ≠ c.1) : K.IsList l its := by
  refine goal_var fun G9 hG9 => ?_
  obtain ⟨o, e, c, n, d⟩ := x
  refine hG9 ?_
  clear hG9 G9
  refine ⟨o, hk _ _ e (fun z => ?_) hc, c, n, d⟩
  refine goal_var fun G9 hG9 => ?_
  obtain ⟨o', es, ep, e', hd, _⟩ := hL
  refine hG9 ?_
  clear hG9 G9
  rw [z, e'] at e; cases e; rw [hd] at d; cases d
/-- a cell: no tuple, no record of a code -/
def CellOk (o : Obj) : Prop := (∀ its n, o.data = .seq its n → o.cls ≠ .type "tuple") ∧ ∀ vs q t, o.data = .fields vs → vs[1]? ≠ some (.str q t)
theorem cellok_list {vs : Array Value} {n : Nat} : CellOk (listOf vs n) := ⟨fun _ _ _ e => absurd e (show Value.type "list" ≠ Value.type "tuple" by decide), fun _ _ _ e => by cases e⟩
theorem cellok_cell {o : Obj} {v : Option Value} (h : o.data = .cell v) : CellOk o := by
  refine ⟨fun its n e => ?_, fun vs q t e => ?_⟩ <;> (rw [h] at e; cases e)
theorem cellok_tab {h : Heap} {ps : Array Value} (x : TabP h ps) : CellOk (tabObj ps) := by
  refine ⟨fun _ _ e => (by cases e), fun vs q t e => ?_⟩
  cases e
  rcases x with rfl | ⟨c', rfl, _⟩
  · simp
  · simp [rawInt]
theorem code_to {h K : Heap} {L : Addr} {m : Str → Option Value} {cs : List (Addr × Obj)} {cd : Value} {q : Str} (hL : h.Ns L m) (hk : ∀ a o, h.get? a = some o → a ≠ L → (∀ c ∈ cs, a ≠ c.1) → K.get? a = some o) (hcs : ∀ c ∈ cs, h.get? c.1 = some c.2 ∧ CellOk c.2) (x : h.CodeRec cd q) : K.CodeRec cd q := by
  refine goal_var fun G9 hG9 => ?_
  obtain ⟨c, o, vs, t, e, ho, hdt, hv⟩ := x
  refine hG9 ?_
  clear hG9 G9
  refine ⟨c, o, vs, t, e, hk _ _ ho (fun z => ?_) (fun c' hc' z => ?_), hdt, hv⟩
  · refine goal_var fun G9 hG9 => ?_
    obtain ⟨o', es, ep, e', hd', _⟩ := hL
    refine hG9 ?_
    clear hG9 G9
    rw [z, e'] at ho; cases ho; rw [hd'] at hdt; cases hdt
  · have := hcs c' hc'
    rw [← z, ho] at this
    cases this.1
    exact this.2.2 _ _ _ hdt hv
theorem tab_to {h K : Heap} {L : Addr} {m : Str → Option Value} {cs : List (Addr × Obj)} {ps : Array Value} (hL : h.Ns L m) (hk : ∀ a o, h.get? a = some o → a ≠ L → (∀ c ∈ cs, a ≠ c.1) → K.get? a = some o) (hcs : ∀ c ∈ cs, h.get? c.1 = some c.2 ∧ CellOk c.2) (x : TabP h ps) : TabP K ps := by
  rcases x with e | ⟨c', e, r⟩
  · exact .inl e
  · exact .inr ⟨c', e, code_to hL hk hcs r⟩
theorem TabP.keeps {h h' : Heap} {ps : Array Value} (x : TabP h ps) (st : h.StaysIn h') : TabP h' ps := by
  rcases x with e | ⟨c', e, r⟩
  · exact .inl e
  · exact .inr ⟨c', e, r.keeps st⟩
theorem tup_to {h K : Heap} {L l : Addr} {m : Str → Option Value} {its : Array Value} {cs : List (Addr × Obj)} (hL : h.Ns L m) (hk : ∀ a o, h.get? a = some o → a ≠ L → (∀ c ∈ cs, a ≠ c.1) → K.get? a = some o) (hcs : ∀ c ∈ cs, h.get? c.1 = some c.2 ∧ CellOk c.2) (x : IsTup h l its) : IsTup K l its := by
  refine goal_var fun G9 hG9 => ?_
  obtain ⟨o, e, c, n, d⟩ := x
  refine hG9 ?_
  clear hG9 G9
  refine ⟨o, hk _ _ e (fun z => ?_) (fun c' hc' z => ?_), c, n, d⟩
  · refine goal_var fun G9 hG9 => ?_
    obtain ⟨o', es, ep, e', hd, _⟩ := hL
    refine hG9 ?_
    clear hG9 G9
    rw [z, e'] at e; cases e; rw [hd] at d; cases d
  · have := hcs c' hc'
    rw [← z, e] at this
    cases this.1
    exact this.2.1 _ _ d c
theorem en_to {h K : Heap} {L : Addr} {m : Str → Option Value} {cs : List (Addr × Obj)} (hL : h.Ns L m) (hk : ∀ a o, h.get? a = some o → a ≠ L → (∀ c ∈ cs, a ≠ c.1) → K.get? a = some o) (hcs : ∀ c ∈ cs, h.get? c.1 = some c.2 ∧ CellOk c.2) {v : Value} : ∀ {e : En}, EnAt h v e → EnAt K v e
  | .no, x => x
  | .i _, x => x
  | .q _ _, ⟨a, t, u, e, x⟩ => ⟨a, t, u, e, tup_to hL hk hcs x⟩
theorem ens_to {h K : Heap} {L : Addr} {m : Str → Option Value} {cs : List (Addr × Obj)} (hL : h.Ns L m) (hk : ∀ a o, h.get? a = some o → a ≠ L → (∀ c ∈ cs, a ≠ c.1) → K.get? a = some o) (hcs : ∀ c ∈ cs, h.get? c.1 = some c.2 ∧ CellOk c.2) {vs : List Value} {es : List En} (x : EnsAt h vs es) : EnsAt K vs es := pd_imp (fun _ _ y => en_to hL hk hcs y) x
theorem list_to2 {h K : Heap} {L l : Addr} {m : Str → Option Value} {its : Array Value} {cs : List (Addr × Obj)} (hL : h.Ns L m) (hk : ∀ a o, h.get? a = some o → a ≠ L → (∀ c ∈ cs, a ≠ c.1) → K.get? a = some o) (hcs : ∀ c ∈ cs, h.get? c.1 = some c.2 ∧ ∀ its n, c.2.data ≠ .seq its n) (x : h.IsList l its) : K.IsList l its :=
  list_to hL hk x fun c hc z => by
    refine goal_var fun G9 hG9 => ?_
    obtain ⟨o, e, _, n, d⟩ := x
    refine hG9 ?_
    clear hG9 G9
    have := hcs c hc
    rw [← z, e] at this
    cases this.1
    exact this.2 _ _ d
theorem en_list {g K : Heap} {nx : List (Addr × Obj)} (kp : Kp g nx K) {v : Value} : ∀ {e : En}, EnAt K v e → EnIn g nx v e
  | .no, x => x
  | .i _, x => x
  | .q _ _, ⟨a, t, u, e, o, ho, hc, k, hd⟩ => ⟨a, o, e, ⟨t, u, k, hc, hd⟩, kp.list _ _ ho⟩
theorem ens_list {g K : Heap} {nx : List (Addr × Obj)} (kp : Kp g nx K) {vs : List Value} {es : List En} (x : EnsAt K vs es) : EnsIn g nx vs es := pd_imp (fun _ _ y => en_list kp y) x
/-- a call that turned only the cell c -/
theorem but_fr {g h h' : Heap} {L c : Addr} {m : Str → Option Value} (F : Fr g L h m) (hc : g.get? c = none) (hL : c ≠ L) (hk : ∀ b o, b ≠ c → h.get? b = some o → h'.get? b = some o) : Fr g L h' m := by
  obtain ⟨oL, es, ep, e, r⟩ := F.ns
  exact ⟨⟨oL, es, ep, hk _ _ (Ne.symm hL) e, r⟩, fun b o e => hk b o (fun q => by rw [q, hc] at e; cases e) (F.keep b o e), F.above⟩
theorem but_news {g h h' : Heap} {L c : Addr} {news : List (Addr × Obj)} (N : News g L h news) (hk : ∀ b o, b ≠ c → h.get? b = some o → h'.get? b = some o) (hne : ∀ q ∈ news, q.1 ≠ c) : News g L h' news := fun q hq => ⟨hk _ _ (hne q hq) (N q hq).1, (N q hq).2⟩
theorem toQ_ok {kd : Kd} {e : En} (h : OkE e) (k : KdE kd e) : OkE (toQ e) ∧ KdE .db (toQ e) ∧ lack (toQ e) = lack e := by
  cases e with
  | no => exact ⟨trivial, trivial, rfl⟩
  | i k => exact ⟨.inl ⟨by decide, by decide, h⟩, trivial, decide_eq_false (by omega)⟩
  | q n d => exact ⟨h, trivial, rfl⟩
theorem toQ_all {kd : Kd} {es : List En} (ho : ∀ e ∈ es, OkE e ∧ KdE kd e) : ∀ e ∈ es.map toQ, OkE e ∧ KdE .db e := fun e he => by
  refine goal_var fun G9 hG9 => ?_
  obtain ⟨e', he', rfl⟩ := List.mem_map.mp he
  refine hG9 ?_
  clear hG9 G9
  have := toQ_ok (ho e' he').1 (ho e' he').2
  exact ⟨this.1, this.2.1⟩
theorem toQ_lack {kd : Kd} : ∀ {es : List En}, (∀ e ∈ es, OkE e ∧ KdE kd e) → (es.map toQ).any lack = es.any lack
  | [], _ => rfl
  | e :: r, h => by
    rw [List.map_cons, List.any_cons, List.any_cons, toQ_lack (fun x hx => h x (.tail _ hx)), (toQ_ok (h e (.head _)).1 (h e (.head _)).2).2.2]
theorem toQ_row {kd : Kd} {es : List En} (ho : ∀ e ∈ es, OkE e ∧ KdE kd e ∧ lack e = false) : RowE (es.map toQ) := fun e he => by
  refine goal_var fun G9 hG9 => ?_
  obtain ⟨e', he', rfl⟩ := List.mem_map.mp he
  refine hG9 ?_
  clear hG9 G9
  have := toQ_ok (ho e' he').1 (ho e' he').2.1
  exact ⟨this.1, this.2.1, this.2.2.trans (ho e' he').2.2⟩
theorem row_any {es : List En} (r : RowE es) : es.any lack = false := List.any_eq_false.mpr fun e he => by rw [(r e he).2.2]; decide
theorem row_perm {es es' : List En} (r : RowE es) (p : es'.Perm es) : RowE es' := fun e he => r e (p.mem_iff.mp he)

theorem vec_hide {P : Params} {h : Heap} {p : Addr} {ps : Array Value} (hc : h.get? p = some (tabObj ps)) {x : Addr} {kv iv : Value} (v : VecAt P h x kv iv) : VecAt P (h.hide p) x kv iv := by
  obtain ⟨dx, t1, t2, t3, t4, t5, a, b⟩ := v
  exact ⟨dx, t1, t2, t3, t4, t5, (Heap.hide_ne _ (tab_ne hc a nofun)).trans a, (Heap.hide_ne _ (tab_ne hc b nofun)).trans b⟩
/-- a share that lies within 0 and 1, or is none -/
def ProbOk : En → Prop
  | .no => True
  | .i _ => False
  | .q pn pd => 0 < pd ∧ pd ≤ 8 ∧ 0 ≤ pn ∧ pn ≤ pd
/-- what a share gives -/
def qv (es : List En) : En → En
  | .q pn pd => if es = [] then .no else alongE es pn pd
  | _ => .no
section
variable {w : World} {dp un : Nat} {fr : Option (List Env)} {gd : Option (List Code)} {s : Shared} {p : Program} {loose : List Str} {mean : ExcName → Option Value} {mg mb : Str → Option Value} {Q : Value → Shared → Prop} {E : Value → Shared → Prop}
theorem q7_spec {g : Heap} {x l lp : Addr} {kd : Kd} {u : Tok} {vs pvs : List Value} {es pes : List En} {ps : Array Value} (X : (hd.heap_1 w.params).In g) (T : Top p loose mean mg mb g) (st : g.StaysIn s.heap) (hgc : g.get? 203 = none) (Rm : Room (Ar dp un fr gd) 16)
   (hc : s.heap.get? 203 = some (tabObj ps)) (hps : TabP s.heap ps) (hV : VecAt w.params s.heap x (.str (kS kd) u) (.ref l)) (hl : s.heap.IsList l vs.toArray) (hv : EnsAt s.heap vs es) (ho : ∀ e ∈ es, OkE e ∧ KdE kd e ∧ lack e = false) (hz : es.length ≤ 8)
   (hlp : s.heap.IsList lp pvs.toArray) (hpv : EnsAt s.heap pvs pes) (hpo : ∀ e ∈ pes, ProbOk e) (hpz : pes.length ≤ 100)
   (h : ∀ h' tk D ys es' ps' nn, (∀ b o, b ≠ 203 → s.heap.get? b = some o → h'.get? b = some o) → h'.get? 203 = some (tabObj ps') → TabP h' ps' → s.heap.get? D = none → h'.get? D = some (listOf (List.toArray ys) nn) →
      EnsAt h' ys (pes.map (qv es')) → es'.Perm (es.map toQ) → es'.Pairwise leE → Q (.ref D) { s with heap := h', toks := tk }) :
   wpAny (MM w) (Ar dp un fr gd) (call (.ref 234) [.ref x, .ref lp]) Q E s := by
  refine wpAny_call ?_
  refine' enter_defC (binds := [("v", .ref x), ("probs", .ref lp)]) (s.heap.hide 203) [(203, tabObj ps)] (in_hide X st hgc) (T.keeps (stays_hide st hgc)) Rm (fun _ _ e => Heap.of_hide e) (Nat.le_of_eq (Heap.hide_size _ _)) (fun q hq => by rw [List.mem_singleton.mp hq]; exact ⟨hc, Heap.hide_self _ _⟩) ?k6 ?k7 ?k9 ?kB ?kN ?_ ?c2 ?c3 ?c4
  (case k6 => k_dflt k_is)
  (case k7 => k_dflt k_is)
  (case k9 => k_dflt exact BindsTo.of_eq rfl)
  (case kB => k_dflt exact rfl)
  (case kN => decide)
  (case c2 => k_dflt exact rfl)
  (case c3 => k_dflt exact rfl)
  (case c4 => k_dflt exact rfl)
  intro L h₁ tk cells Rm' F N Y k₁ hL hlt
  refine goal_var fun G9 hG9 => ?_
  obtain ⟨o', hE, d1'⟩ := CellsAre.one Y
  refine hG9 ?_
  clear hG9 G9
  subst hE
  clear Y
  have F0 : Fr (s.heap.hide 203) L h₁ (fun y => if y = ("probs" : Str) then some (.ref lp) else if y = ("v" : Str) then some (.ref x) else none) := F
  clear F
  (try dsimp only)
  (try k_fold)
  have h203 : (203 : Nat) < L := hlt _ (.head _)
  have hne1 : @Ne Nat (L + 1) 203 := by lia
  have hne2 : @Ne Nat 203 (L + 1) := by lia
  have hIn : (hd.heap_1 w.params).In (s.heap.hide 203) := in_hide X st hgc
  have hTop : Top p loose mean mg mb (s.heap.hide 203) := T.keeps (stays_hide st hgc)
  have hV0 := vec_hide hc hV
  have hl0 := list_hide hc hl
  have hv0 := ens_hide hc hv
  have hlp0 := list_hide hc hlp
  have hpv0 := ens_hide hc hpv
  have hpH : TabP (s.heap.hide 203) ps := by
    rcases hps with e | ⟨c', rfl, r⟩
    · exact .inl e
    · exact .inr ⟨c', rfl, code_keep hc r⟩
  have hr := toQ_row ho
  have hoK := toQ_all (kd := kd) fun e he => ⟨(ho e he).1, (ho e he).2.1⟩
  have hno : ¬ (es.map toQ).any lack = true := by rw [row_any hr]; nofun
  k_steps
  rename Fr _ _ _ _ => F1
  rename News _ _ _ _ => N1
  refine' numitems_spec (kd := kd) (hIn.keeps F1.keep) (hTop.keeps F1.keep) (by walk_at "MINE room") (hV0.keeps F1.keep) (hl0.at fun o e => F1.keep _ o e) (hv0.keeps F1.keep) (fun e he => (ho e he).2.1) (by lia) ?_
  intro h2 tk2 l2 vs2 st2 hl2 hv2
  have F2 := fr_st F1 st2
  have N2 := news_st N1 st2
  refine goal_var fun G9 hG9 => ?_
  obtain ⟨nx, K, N3, hnx, kp, hk, hKL, hKc, hKs⟩ := kp_make F2 N2
  refine hG9 ?_
  clear hG9 G9
  have hcs : ∀ c ∈ [(L + 1, o'), (203, tabObj ps)], h2.get? c.1 = some c.2 ∧ CellOk c.2 := List.forall_mem_cons.mpr ⟨⟨(N2 _ (.head _)).1, cellok_cell d1'⟩, List.forall_mem_cons.mpr ⟨⟨(N2 _ (.tail _ (.head _))).1, cellok_tab hps⟩, List.forall_mem_nil _⟩⟩
  have hcs2 : ∀ c ∈ [(L + 1, o'), (203, tabObj ps)], h2.get? c.1 = some c.2 ∧ ∀ its n, c.2.data ≠ .seq its n := List.forall_mem_cons.mpr ⟨⟨(N2 _ (.head _)).1, by rw [d1']; nofun⟩, List.forall_mem_cons.mpr ⟨⟨(N2 _ (.tail _ (.head _))).1, by nofun⟩, List.forall_mem_nil _⟩⟩
  have hlK := list_to2 F2.ns hk hcs2 hl2
  have hvK := ens_to F2.ns hk hcs hv2
  have N4 : News (s.heap.hide 203) L h2 ((L + 1, o') :: (203, tabObj ps) :: nx) := N3
  have hpK : TabP K ps := tab_to F2.ns hk hcs (hpH.keeps F2.keep)
  clear F1 N1 N2 N3 st2
  k_steps
  rename Fr _ _ _ _ => F5
  rename News _ _ _ _ => N5
  have hKh := Kp.at kp F5 N5 (by walk_at "MINE sub")
  refine' asc_spec (g := s.heap.hide 203) hIn hTop F5.keep (Heap.hide_self _ _) (by walk_at "MINE room") (News.get N5 (by k_mem)) (hpK.keeps hKh) (hlK.at fun o e => hKh _ o e) (hvK.keeps hKh) (fun e he => ⟨(hr e he).1, (hr e he).2.1, (hr e he).2.2⟩) (by rw [List.length_map]; lia) ?_
  intro h6 tk6 D vs3 es3 ps6 nn6 hbut h6c hps6 hDn hD hv6 hperm hsort
  have F6 := but_fr F5 (Heap.hide_self _ _) (Nat.ne_of_lt h203) hbut
  have N6 : News (s.heap.hide 203) L h6 [(L + 1, o'), (203, tabObj ps6)] := List.forall_mem_cons.mpr ⟨⟨hbut _ _ hne1 (N5 _ (.head _)).1, (N5 _ (.head _)).2⟩, List.forall_mem_cons.mpr ⟨⟨h6c, Nat.ne_of_lt h203, Heap.hide_self _ _⟩, List.forall_mem_nil _⟩⟩
  refine goal_var fun G9 hG9 => ?_
  obtain ⟨nx6, K6, N7, hnx6, kp6, hk6, hKL6, hKc6, hKs6⟩ := kp_make F6 N6
  refine hG9 ?_
  clear hG9 G9
  have hcs6 : ∀ c ∈ [(L + 1, o'), (203, tabObj ps6)], h6.get? c.1 = some c.2 ∧ CellOk c.2 := List.forall_mem_cons.mpr ⟨⟨(N6 _ (.head _)).1, cellok_cell d1'⟩, List.forall_mem_cons.mpr ⟨⟨(N6 _ (.tail _ (.head _))).1, cellok_tab hps6⟩, List.forall_mem_nil _⟩⟩
  have hcs7 : ∀ c ∈ [(L + 1, o'), (203, tabObj ps6)], h6.get? c.1 = some c.2 ∧ ∀ its n, c.2.data ≠ .seq its n := List.forall_mem_cons.mpr ⟨⟨(N6 _ (.head _)).1, by rw [d1']; nofun⟩, List.forall_mem_cons.mpr ⟨⟨(N6 _ (.tail _ (.head _))).1, by nofun⟩, List.forall_mem_nil _⟩⟩
  have hlK6 : K6.IsList D vs3.toArray := list_to2 F6.ns hk6 hcs7 ⟨_, hD, rfl, nn6, rfl⟩
  have hvK6 := ens_to F6.ns hk6 hcs6 hv6
  have hpK6 := tab_to F6.ns hk6 hcs6 hps6
  have N8 : News (s.heap.hide 203) L h6 ((L + 1, o') :: (203, tabObj ps6) :: nx6) := N7
  clear hvK hlK hpK kp hk hKs N5 F5 N6 N7 hKh
  have hna : ∀ q ∈ nx6, q.1 ≠ L + 1 := fun q hq => hnx6 q hq _ (.head _)
  have hnb : ∀ q ∈ nx6, q.1 ≠ 203 := fun q hq => hnx6 q hq _ (.tail _ (.head _))
  have hr3 := row_perm hr hperm
  have hz3 : es3.length ≤ 8 := by rw [hperm.length_eq, List.length_map]; lia
  have hvI := ens_list kp6 hvK6
  k_steps
  rename Obj => oc
  rename News _ _ _ _ => N9
  rename Fr _ _ _ _ => F9
  rename oc.data = _ => d9
  refine' comp_base (J := fun i ys nx => ∃ own, nx = (L + 1, oc) :: own ∧ (∀ q ∈ nx6, q ∈ own) ∧ ((203, tabObj ps6) ∈ own) ∧ EnsIn (s.heap.hide 203) own ys ((pes.take i).map (qv es3))) ?hL ?hh hlp0 ?F ?N ?j ?sz ?turn ?done
  case F => exact F9
  case N => exact N9
  case hL => rfl
  case hh => rfl
  case j => exact ⟨_, rfl, fun q hq => .tail _ hq, .head _, .nil⟩
  case sz => rw [pd_len hpv0]; lia
  case turn =>
    intro i v ys nx h' tk I C Dl oI oL mv nD hi hys hoff hJ hmv hC F1 N1 hoL
    refine wpAny_tests_nil ?_
    simp only [if_true]
    refine post_var fun Q8 hQ8 => ?_
    refine goal_var fun G9 hG9 => ?_
    obtain ⟨own, rfl, hsub, h203o, hJe⟩ := hJ
    obtain ⟨e, he, hve⟩ := pd_get hpv0 hi
    refine hG9 ?_
    clear hG9 G9
    have hpe := hpo e (List.mem_of_getElem? he)
    have fin : ∀ (v' : Value) (h2 : Heap) (tk2 : Nat), h'.StaysIn h2 → GotEn vs3 es3 h' h2 v' (qv es3 e) ∨ (v' = .none ∧ qv es3 e = .no) → EltPost (s.heap.hide 203) C I Dl L oI oL mv ys nD (fun ys nx => ∃ own, nx = (L + 1, oc) :: own ∧ (∀ q ∈ nx6, q ∈ own) ∧ ((203, tabObj ps6) ∈ own) ∧ EnsIn (s.heap.hide 203) own ys ((pes.take (i + 1)).map (qv es3))) { s with heap := h', toks := tk } v' { s with heap := h2, toks := tk2 } := by
      intro v' h2 tk2 st hg
      have F2 := fr_st F1 st
      rw [take_map_succ _ _ _ _ he]
      have old : EnIn (s.heap.hide 203) own v' (qv es3 e) → EltPost (s.heap.hide 203) C I Dl L oI oL mv ys nD (fun ys nx => ∃ own, nx = (L + 1, oc) :: own ∧ (∀ q ∈ nx6, q ∈ own) ∧ ((203, tabObj ps6) ∈ own) ∧ EnsIn (s.heap.hide 203) own ys ((pes.take i).map (qv es3) ++ [qv es3 e])) { s with heap := h', toks := tk } v' { s with heap := h2, toks := tk2 } := fun hi =>
        elt_end _ F2 (news_st N1 st) (fun q hq => hq) hoff ⟨own, rfl, hsub, h203o, pd_snoc hJe hi⟩
      rcases hg with (⟨k, hk, ek⟩ | hnew) | ⟨rfl, en⟩
      · refine old ?_
        refine goal_var fun G9 hG9 => ?_
        obtain ⟨b, h1, h2⟩ := pd_get hvI hk
        refine hG9 ?_
        clear hG9 G9
        rw [ek, List.getD_eq_getElem?_getD, h1]
        exact h2.mono hsub
      · generalize qv es3 e = r at *
        cases r with
        | no => obtain rfl := hnew; exact old rfl
        | i k => obtain ⟨t, rfl⟩ := hnew; exact old ⟨t, rfl⟩
        | q n d =>
          refine goal_var fun G9 hG9 => ?_
          obtain ⟨a, t, u, rfl, ha, ho⟩ := hnew
          refine hG9 ?_
          clear hG9 G9
          have N2 := news_new F1 N1 st ha ho
          have hlt := news_lt F1 N1 ha
          refine elt_end ((L + 1, oc) :: (a, tupO [.int n t, .int d u]) :: own) F2 N2 (fun q hq => ?_) (fun q hq => ?_) ⟨_, rfl, fun q hq => .tail _ (hsub q hq), .tail _ h203o, pd_snoc (hJe.mono fun q hq => .tail _ hq) (.new (.head _))⟩
          · revert q
            walk_at "MINE sub"
          · rcases List.mem_cons.mp hq with h | hq
            · exact hoff q (List.mem_cons.mpr (.inl h))
            · rcases List.mem_cons.mp hq with h | hq
              · rw [h]; exact ⟨Ne.symm (hlt _ (.head _)), Ne.symm (hlt _ (.tail _ (.head _))), Ne.symm (hlt _ (.tail _ (.tail _ (.head _))))⟩
              · exact hoff q (.tail _ hq)
      · exact old (by rw [en]; rfl)
    have hKh : K6.StaysIn h' := kp6.stays h' F1.keep fun q hq => (N1 q (.tail _ (.tail _ (.tail _ (.tail _ (hsub q hq)))))).1
    have hlh : h'.IsList D vs3.toArray := hlK6.at fun o e => hKh _ o e
    have hvh := hvK6.keeps hKh
    cases e with
    | i k => exact hpe.elim
    | no =>
      obtain rfl := hve
      k_steps
      refine qnone_spec (by walk_at "MINE in") (by walk_at "MINE top") (by walk_at "MINE room") ?_
      intro h2 tk2 st
      exact hQ8 _ _ (fin _ _ _ st (.inr ⟨rfl, rfl⟩))
    | q pn pd =>
      refine goal_var fun G9 hG9 => ?_
      obtain ⟨a, t, u, rfl, ha⟩ := hve
      obtain ⟨hp0, hp8, hpn, hpm⟩ := hpe
      refine hG9 ?_
      clear hG9 G9
      k_steps
      by_cases hemp : es3 = []
      · subst hemp
        refine qempty_spec (by walk_at "MINE in") (by walk_at "MINE top") (by walk_at "MINE room") hlh hvh (ha.keeps F1.keep) hp0 hpn hpm ?_
        intro h2 tk2 st
        exact hQ8 _ _ (fin _ _ _ st (.inr ⟨rfl, rfl⟩))
      · refine qitem_spec (by walk_at "MINE in") (by walk_at "MINE top") (by walk_at "MINE room") hlh hvh hr3 hz3 (List.length_pos_iff.mpr hemp) (ha.keeps F1.keep) hp0 hp8 hpn hpm ?_
        intro h2 tk2 v2 st hg
        refine hQ8 _ _ (fin _ _ _ st (.inl ?_))
        rw [show qv es3 (.q pn pd) = alongE es3 pn pd from if_neg hemp]
        exact hg
  case done =>
    intro hp D' ys nD' nx h' tk hys hJ hoff N1 F2 N2
    refine goal_var fun G9 hG9 => ?_
    obtain ⟨own, rfl, hsub, h203o, hJe⟩ := hJ
    refine hG9 ?_
    clear hG9 G9
    k_steps
    all_goals walk_at "MINE end"
    have keep : ∀ b o, b ≠ 203 → s.heap.get? b = some o → h'.get? b = some o := fun b o hb e => F2.keep b o ((Heap.hide_ne _ hb).trans e)
    have nD := N1 _ (.head _)
    have n2 := N1 _ (.tail _ (.tail _ h203o))
    have hD2 : D' ≠ 203 := fun z => by
      have e1 := nD.1
      have e2 := n2.1
      rw [show (D', listOf ys.toArray nD').1 = 203 from z] at e1
      rw [e1] at e2
      exact absurd (congrArg Obj.data (Option.some.inj e2)) (by nofun)
    rw [show pvs.length = pes.length from pd_len hpv0, List.take_length] at hJe
    refine h h' _ D' ys es3 ps6 nD' keep n2.1 (hpK6.keeps (kp6.stays h' F2.keep fun q hq => (N1 q (.tail _ (.tail _ (hsub q hq)))).1)) ?_ nD.1 (hJe.at F2 N1 fun q hq => .tail _ (.tail _ hq)) hperm hsort
    have e3 := nD.2.2
    rw [Heap.hide_ne _ hD2] at e3
    exact e3
end

theorem fl_base {G g h : Heap} {l : List Env} {e d : Addr} {fl : Value} (x : Fl G l e d fl h) (sub : g.StaysIn G) (hb : ∀ L ∈ l.filterMap (·.frame), g.get? L = none) : Fl g l e d fl h := by
  obtain ⟨hkb, hen, hf, oe, vs, T, oT, ts, he, hcl, hdt, hda, h1, hnT, r⟩ := x
  exact ⟨fun b o q => hkb _ _ (sub _ _ q), none_of sub hen, fun_base hf hb, oe, vs, T, oT, ts, he, hcl, hdt, hda, h1, none_of sub hnT, r⟩
theorem frames_none {h g : Heap} : ∀ {l : List Env}, h.FunFrames g l → ∀ L ∈ l.filterMap (·.frame), g.get? L = none := fun hl L hm => (hl.mem hm).1
/-- what quantile7 holds when a refusal is made -/
structure At7 (s0 h : Heap) (xs : List Addr) (ps : Array Value) : Prop where
  keep : ∀ b o, b ≠ 203 → s0.get? b = some o → h.get? b = some o
  tab0 : ∃ ps0, s0.get? 203 = some (tabObj ps0)
  tab : h.get? 203 = some (tabObj ps)
  tabP : TabP h ps
  own : ∀ x ∈ xs, s0.get? x = none ∧ ∃ o, h.get? x = some o ∧ ∀ vs, o.data ≠ .fields vs
/-- all but the names of the frames -/
def allBut (xs : List Addr) (outer : List Env) (h : Heap) : Heap := hideAll (xs ++ outer.filterMap (·.frame)) h
theorem allBut_in {xs : List Addr} {outer : List Env} {h : Heap} : (allBut xs outer h).StaysIn h := fun a o e => (hideAll_of e).1
theorem allBut_none {xs : List Addr} {outer : List Env} {h : Heap} {a : Addr} (hm : a ∈ xs ++ outer.filterMap (·.frame)) : (allBut xs outer h).get? a = none := by
  cases q : (allBut xs outer h).get? a with
  | none => rfl
  | some o => exact absurd hm (hideAll_of q).2
theorem At7.fun {s0 h g : Heap} {xs : List Addr} {ps : Array Value} {outer : List Env} (a : At7 s0 h xs ps) (hf : s0.FunFrames g outer) : h.FunFrames g outer :=
  hf.of_keeps fun b o e hn => by
    by_cases hb : b = 203
    · subst hb
      obtain ⟨ps0, h0⟩ := a.tab0
      rw [h0] at e
      cases e
      exact absurd rfl (hn _)
    · exact ⟨o, a.keep b o hb e, rfl⟩
theorem At7.noneOf {s0 h : Heap} {xs : List Addr} {ps : Array Value} (a : At7 s0 h xs ps) {b : Addr} (e : h.get? b = none) : s0.get? b = none := by
  cases q : s0.get? b with
  | none => rfl
  | some o =>
    by_cases hb : b = 203
    · rw [hb, a.tab] at e; cases e
    · rw [a.keep b o hb q] at e; cases e
theorem At7.recd {s0 h g : Heap} {xs : List Addr} {ps : Array Value} {outer : List Env} (a : At7 s0 h xs ps) (hf : s0.FunFrames g outer) {b : Addr} {o : Obj} {vs : Array Value} (e : h.get? b = some o) (hd : o.data = .fields vs) : (allBut xs outer h).get? b = some o :=
  hideAll_to e fun hm => by
    rcases List.mem_append.mp hm with hm | hm
    · refine goal_var fun G9 hG9 => ?_
      obtain ⟨_, o', h1, h2⟩ := a.own b hm
      refine hG9 ?_
      clear hG9 G9
      rw [h1] at e; cases e; exact h2 vs hd
    · refine goal_var fun G9 hG9 => ?_
      obtain ⟨_, o', h1, h2⟩ := (a.fun hf).mem hm
      refine hG9 ?_
      clear hG9 G9
      rw [h1] at e; cases e; exact h2 vs hd
theorem At7.sub {s0 h g : Heap} {xs : List Addr} {ps : Array Value} {outer : List Env} (a : At7 s0 h xs ps) (hf : s0.FunFrames g outer) (hg : g.StaysIn s0) (h203 : g.get? 203 = none) : g.StaysIn (allBut xs outer h) := fun b o e =>
  hideAll_to (a.keep b o (fun z => by rw [z, h203] at e; cases e) (hg b o e)) fun hm => by
    rcases List.mem_append.mp hm with hm | hm
    · have := hg b o e
      rw [(a.own b hm).1] at this; cases this
    · rw [(hf.mem hm).1] at e; cases e
/-- a refusal out of quantile7: the base G holds g, the table of places and its code -/
structure Out7 (g h h' : Heap) (outer : List Env) (e d : Addr) (msg : Str) (ps : Array Value) (G : Heap) : Prop where
  out : Out51 G h h' outer e d msg
  sub : g.StaysIn G
  tab : G.get? 203 = some (tabObj ps)
  tabP : TabP G ps
/-- the refusal is out of quantile7 -/
theorem At7.out {s0 h h' g : Heap} {xs : List Addr} {ps : Array Value} {outer : List Env} {e d : Addr} {msg : Str} (a : At7 s0 h xs ps) (hf : s0.FunFrames g outer) (hg : g.StaysIn s0) (h203 : g.get? 203 = none)
    (fl : Fl (allBut xs outer h) outer e d .none h') (up : ∀ b o, (∃ o0, s0.get? b = some o0) → h.get? b = some o → (∀ vs, o.data ≠ .fields vs) → ∃ sl, h'.get? b = some { o with slots := sl })
    (hmsg : ∃ od t, h'.get? d = some od ∧ lookIn "message" od = some (some (.str msg t))) (hd : h.get? d = none) :
    Out7 g s0 h' outer e d msg ps (allBut xs outer h) := by
  refine ⟨⟨fl, fun b o e hn => ?_, hmsg, a.noneOf hd⟩, a.sub hf hg h203, a.recd hf a.tab rfl, ?_⟩
  · by_cases hb : b = 203
    · subst hb
      obtain ⟨ps0, h0⟩ := a.tab0
      rw [h0] at e
      cases e
      exact absurd rfl (hn _)
    · exact up b o ⟨o, e⟩ (a.keep b o hb e) hn
  · rcases a.tabP with e | ⟨c', e, c, o, vs, t, h1, h2, h3, h4⟩
    · exact .inl e
    · exact .inr ⟨c', e, c, o, vs, t, h1, a.recd hf h2 h3, h3, h4⟩
section
variable {w : World} {dp un : Nat} {outer : List Env} {gd : Option (List Code)} {s : Shared} {p : Program} {loose : List Str} {mean : ExcName → Option Value} {mg mb : Str → Option Value} {Q : Value → Shared → Prop} {E : Value → Shared → Prop}
abbrev msgNA : Str := "missing values and NaN's not allowed if 'na.rm' is FALSE"
abbrev msgPr : Str := "'probs' outside [0,1]"
theorem q7_lack {g gB : Heap} {x l lp : Addr} {kd : Kd} {u : Tok} {vs : List Value} {es : List En} {ps : Array Value} (X : (hd.heap_1 w.params).In g) (T : Top p loose mean mg mb g) (st : g.StaysIn s.heap) (hgc : g.get? 203 = none) (Rm : Room (Ar dp un (some outer) gd) 16)
   (hc : s.heap.get? 203 = some (tabObj ps)) (hps : TabP s.heap ps) (hV : VecAt w.params s.heap x (.str (kS kd) u) (.ref l)) (hl : s.heap.IsList l vs.toArray) (hv : EnsAt s.heap vs es) (ho : ∀ e ∈ es, OkE e ∧ KdE kd e) (hz : es.length ≤ 8) (hlk : es.any lack = true)
   (K : Below (Ar dp un (some outer) gd) gB outer s.heap) (hB : gB.get? 203 = none)
   (h : ∀ h' tk e d ps' G, Out7 gB s.heap h' outer e d msgNA ps' G → E (.ref e) { s with heap := h', toks := tk }) :
   wpAny (MM w) (Ar dp un (some outer) gd) (call (.ref 234) [.ref x, .ref lp]) Q E s := by
  refine wpAny_call ?_
  refine' enter_defC (binds := [("v", .ref x), ("probs", .ref lp)]) (s.heap.hide 203) [(203, tabObj ps)] (in_hide X st hgc) (T.keeps (stays_hide st hgc)) Rm (fun _ _ e => Heap.of_hide e) (Nat.le_of_eq (Heap.hide_size _ _)) (fun q hq => by rw [List.mem_singleton.mp hq]; exact ⟨hc, Heap.hide_self _ _⟩) ?k6 ?k7 ?k9 ?kB ?kN ?_ ?c2 ?c3 ?c4
  (case k6 => k_dflt k_is)
  (case k7 => k_dflt k_is)
  (case k9 => k_dflt exact BindsTo.of_eq rfl)
  (case kB => k_dflt exact rfl)
  (case kN => decide)
  (case c2 => k_dflt exact rfl)
  (case c3 => k_dflt exact rfl)
  (case c4 => k_dflt exact rfl)
  intro L h₁ tk cells Rm' F N Y k₁ hL hlt
  refine goal_var fun G9 hG9 => ?_
  obtain ⟨o', hE, d1'⟩ := CellsAre.one Y
  refine hG9 ?_
  clear hG9 G9
  subst hE
  clear Y
  have F0 : Fr (s.heap.hide 203) L h₁ (fun y => if y = ("probs" : Str) then some (.ref lp) else if y = ("v" : Str) then some (.ref x) else none) := F
  clear F
  (try dsimp only)
  (try k_fold)
  have h203 : (203 : Nat) < L := hlt _ (.head _)
  have hne1 : @Ne Nat (L + 1) 203 := by omega
  have hne2 : @Ne Nat 203 (L + 1) := by omega
  have hIn : (hd.heap_1 w.params).In (s.heap.hide 203) := in_hide X st hgc
  have hTop : Top p loose mean mg mb (s.heap.hide 203) := T.keeps (stays_hide st hgc)
  have hV0 := vec_hide hc hV
  have hl0 := list_hide hc hl
  have hv0 := ens_hide hc hv
  have hoK := toQ_all ho
  have hyes : (es.map toQ).any lack = true := by rw [toQ_lack ho]; exact hlk
  k_steps
  rename Fr _ _ _ _ => F1
  rename News _ _ _ _ => N1
  refine' numitems_spec (kd := kd) (hIn.keeps F1.keep) (hTop.keeps F1.keep) (by walk_at "MINE room") (hV0.keeps F1.keep) (hl0.at fun o e => F1.keep _ o e) (hv0.keeps F1.keep) (fun e he => (ho e he).2) (by omega) ?_
  intro h2 tk2 l2 vs2 st2 hl2 hv2
  have F2 := fr_st F1 st2
  have N2 := news_st N1 st2
  refine goal_var fun G9 hG9 => ?_
  obtain ⟨nx, K1, N3, hnx, kp, hk, hKL, hKc, hKs⟩ := kp_make F2 N2
  refine hG9 ?_
  clear hG9 G9
  have hcs : ∀ c ∈ [(L + 1, o'), (203, tabObj ps)], h2.get? c.1 = some c.2 ∧ CellOk c.2 := List.forall_mem_cons.mpr ⟨⟨(N2 _ (.head _)).1, cellok_cell d1'⟩, List.forall_mem_cons.mpr ⟨⟨(N2 _ (.tail _ (.head _))).1, cellok_tab hps⟩, List.forall_mem_nil _⟩⟩
  have hcs2 : ∀ c ∈ [(L + 1, o'), (203, tabObj ps)], h2.get? c.1 = some c.2 ∧ ∀ its n, c.2.data ≠ .seq its n := List.forall_mem_cons.mpr ⟨⟨(N2 _ (.head _)).1, by rw [d1']; nofun⟩, List.forall_mem_cons.mpr ⟨⟨(N2 _ (.tail _ (.head _))).1, by nofun⟩, List.forall_mem_nil _⟩⟩
  have hlK := list_to2 F2.ns hk hcs2 hl2
  have hvK := ens_to F2.ns hk hcs hv2
  have N4 : News (s.heap.hide 203) L h2 ((L + 1, o') :: (203, tabObj ps) :: nx) := N3
  clear F1 N1 N2 N3 st2
  k_steps
  all_goals walk_at "MINE end"
  rename Ref51 _ _ _ _ _ => hm
  rename Fr _ _ _ _ => F5
  rename News _ _ _ _ => N5
  obtain ⟨t', he⟩ := hm.there
  refine ⟨_, _, rfl, hIn.keeps (fun b o q => hm.keeps _ _ (F5.keep _ _ q)), ⟨t', he⟩, ?_⟩
  have hpH : TabP (s.heap.hide 203) ps := by
    rcases hps with e | ⟨c', rfl, r⟩
    · exact .inl e
    · exact .inr ⟨c', rfl, code_keep hc r⟩
  have a7 : At7 s.heap _ [L] ps := ⟨fun b o hb q => F5.keep b o ((Heap.hide_ne _ hb).trans q), ⟨_, hc⟩, News.get N5 (.tail _ (.head _)), hpH.keeps F5.keep, fun y hy => by
    rw [List.mem_singleton.mp hy]
    obtain ⟨oL, es', ep, e1, e2, _⟩ := F5.ns
    exact ⟨Heap.get?_none_of_le (by have := F5.above; rw [Heap.hide_size] at this; exact this), oL, e1, fun vs q => by rw [e2] at q; cases q⟩⟩
  refine out_first K.stack rfl (allBut_in (xs := [L])) (fun_cons F5 rfl rfl (allBut_none (xs := [L]) (List.mem_append_left _ (.head _))) (fun_base (a7.fun K.frames) fun L' h' => allBut_none (xs := [L]) (List.mem_append_right _ h'))) hm fun h' x => ?_
  exact h _ _ _ _ _ _ (a7.out K.frames K.stays hB x.fl (fun b o _ e hn => x.up b o e hn) x.msg x.dnew)
end

theorem note_anyC {M : Model} {A : Around} {E : Value → Shared → Prop} {s : Shared} {base : Heap} {c env : Env} {outer : List Env} {L e d : Addr} {fl : Value} {Q : Unit → Shared → Prop} (x : Fl base (env :: outer) e d fl s.heap)
    (h : ∀ h', Fl base (env :: outer) e d (rawInt L) h' → s.heap.UpToSlots h' → Q () { s with heap := h' }) (hc : c.frame = env.frame) (hfr : A.frames = some (env :: outer)) (hf : env.frame = some L) : wpAny M A (noteFrame (.ref e) c) Q E s := by
  rw [noteFrame_congr hc]
  exact note_any hfr hf x h
theorem pass_any {M : Model} {A : Around} {E : Value → Shared → Prop} {s : Shared} {base : Heap} {env : Env} {l : List Env} {e d : Addr} {fl : Value} {α : Type} {what : String} {Q : α → Shared → Prop} (x : Fl base l e d fl s.heap)
    (h : ∀ h' fl', Fl base l e d fl' h' → s.heap.UpToSlots h' → E (.ref e) { s with heap := h' }) : wpAny M A (PySem.passOn (α := α) what (.ref e) env) Q E s := by
  refine goal_var fun G9 hG9 => ?_
  obtain ⟨hkb, hen, hl, oe, vs, T, oT, ts, he, hcl, hdt, hda, h1, hnT, hTe, hT, hdT, h3⟩ := id x
  refine hG9 ?_
  clear hG9 G9
  unfold PySem.passOn
  refine wpAny_bind (wpAny_field he hda h1 ?_)
  rw [if_neg (show ¬ (Value.ref T == Value.none) = true from by simp)]
  exact wpAny_bind (flight x fun h' y v => wpAny_throw (h h' _ y v))
/-- a share: none, or a fraction -/
def ShOk : En → Prop
  | .no => True
  | .i _ => False
  | .q pn pd => 0 < pd ∧ pd ≤ 8
section
variable {w : World} {dp un : Nat} {outer : List Env} {gd : Option (List Code)} {s : Shared} {p : Program} {loose : List Str} {mean : ExcName → Option Value} {mg mb : Str → Option Value} {Q : Value → Shared → Prop} {E : Value → Shared → Prop}
theorem q7_prob {g gB : Heap} {x l lp : Addr} {kd : Kd} {u : Tok} {vs pvs : List Value} {es pes : List En} {ps : Array Value} (X : (hd.heap_1 w.params).In g) (T : Top p loose mean mg mb g) (st : g.StaysIn s.heap) (hgc : g.get? 203 = none) (Rm : Room (Ar dp un (some outer) gd) 16)
   (hc : s.heap.get? 203 = some (tabObj ps)) (hps : TabP s.heap ps) (hV : VecAt w.params s.heap x (.str (kS kd) u) (.ref l)) (hl : s.heap.IsList l vs.toArray) (hv : EnsAt s.heap vs es) (ho : ∀ e ∈ es, OkE e ∧ KdE kd e ∧ lack e = false) (hz : es.length ≤ 8)
   (hlp : s.heap.IsList lp pvs.toArray) (hpv : EnsAt s.heap pvs pes) (hpo : ∀ e ∈ pes, ShOk e) (hpz : pes.length ≤ 100) (hout : ¬ ∀ e ∈ pes, ProbOk e)
   (B0 : Below (Ar dp un (some outer) gd) gB outer s.heap) (hB : gB.get? 203 = none)
   (h : ∀ h' tk e d ps' G, Out7 gB s.heap h' outer e d msgPr ps' G → E (.ref e) { s with heap := h', toks := tk }) :
   wpAny (MM w) (Ar dp un (some outer) gd) (call (.ref 234) [.ref x, .ref lp]) Q E s := by
  refine wpAny_call ?_
  refine' enter_defC (binds := [("v", .ref x), ("probs", .ref lp)]) (s.heap.hide 203) [(203, tabObj ps)] (in_hide X st hgc) (T.keeps (stays_hide st hgc)) Rm (fun _ _ e => Heap.of_hide e) (Nat.le_of_eq (Heap.hide_size _ _)) (fun q hq => by rw [List.mem_singleton.mp hq]; exact ⟨hc, Heap.hide_self _ _⟩) ?k6 ?k7 ?k9 ?kB ?kN ?_ ?c2 ?c3 ?c4
  (case k6 => k_dflt k_is)
  (case k7 => k_dflt k_is)
  (case k9 => k_dflt exact BindsTo.of_eq rfl)
  (case kB => k_dflt exact rfl)
  (case kN => decide)
  (case c2 => k_dflt exact rfl)
  (case c3 => k_dflt exact rfl)
  (case c4 => k_dflt exact rfl)
  intro L h₁ tk cells Rm' F N Y k₁ hL hlt
  refine goal_var fun G9 hG9 => ?_
  obtain ⟨o', hE, d1'⟩ := CellsAre.one Y
  refine hG9 ?_
  clear hG9 G9
  subst hE
  clear Y
  have F0 : Fr (s.heap.hide 203) L h₁ (fun y => if y = ("probs" : Str) then some (.ref lp) else if y = ("v" : Str) then some (.ref x) else none) := F
  clear F
  (try dsimp only)
  (try k_fold)
  have h203 : (203 : Nat) < L := hlt _ (.head _)
  have hne1 : @Ne Nat (L + 1) 203 := by lia
  have hne2 : @Ne Nat 203 (L + 1) := by lia
  have hIn : (hd.heap_1 w.params).In (s.heap.hide 203) := in_hide X st hgc
  have hTop : Top p loose mean mg mb (s.heap.hide 203) := T.keeps (stays_hide st hgc)
  have hV0 := vec_hide hc hV
  have hl0 := list_hide hc hl
  have hv0 := ens_hide hc hv
  have hlp0 := list_hide hc hlp
  have hpv0 := ens_hide hc hpv
  have hpH : TabP (s.heap.hide 203) ps := by
    rcases hps with e | ⟨c', rfl, r⟩
    · exact .inl e
    · exact .inr ⟨c', rfl, code_keep hc r⟩
  have hr := toQ_row ho
  have hoK := toQ_all (kd := kd) fun e he => ⟨(ho e he).1, (ho e he).2.1⟩
  have hno : ¬ (es.map toQ).any lack = true := by rw [row_any hr]; nofun
  k_steps
  rename Fr _ _ _ _ => F1
  rename News _ _ _ _ => N1
  refine' numitems_spec (kd := kd) (hIn.keeps F1.keep) (hTop.keeps F1.keep) (by walk_at "MINE room") (hV0.keeps F1.keep) (hl0.at fun o e => F1.keep _ o e) (hv0.keeps F1.keep) (fun e he => (ho e he).2.1) (by lia) ?_
  intro h2 tk2 l2 vs2 st2 hl2 hv2
  have F2 := fr_st F1 st2
  have N2 := news_st N1 st2
  refine goal_var fun G9 hG9 => ?_
  obtain ⟨nx, K, N3, hnx, kp, hk, hKL, hKc, hKs⟩ := kp_make F2 N2
  refine hG9 ?_
  clear hG9 G9
  have hcs : ∀ c ∈ [(L + 1, o'), (203, tabObj ps)], h2.get? c.1 = some c.2 ∧ CellOk c.2 := List.forall_mem_cons.mpr ⟨⟨(N2 _ (.head _)).1, cellok_cell d1'⟩, List.forall_mem_cons.mpr ⟨⟨(N2 _ (.tail _ (.head _))).1, cellok_tab hps⟩, List.forall_mem_nil _⟩⟩
  have hcs2 : ∀ c ∈ [(L + 1, o'), (203, tabObj ps)], h2.get? c.1 = some c.2 ∧ ∀ its n, c.2.data ≠ .seq its n := List.forall_mem_cons.mpr ⟨⟨(N2 _ (.head _)).1, by rw [d1']; nofun⟩, List.forall_mem_cons.mpr ⟨⟨(N2 _ (.tail _ (.head _))).1, by nofun⟩, List.forall_mem_nil _⟩⟩
  have hlK := list_to2 F2.ns hk hcs2 hl2
  have hvK := ens_to F2.ns hk hcs hv2
  have N4 : News (s.heap.hide 203) L h2 ((L + 1, o') :: (203, tabObj ps) :: nx) := N3
  have hpK : TabP K ps := tab_to F2.ns hk hcs (hpH.keeps F2.keep)
  clear F1 N1 N2 N3 st2
  k_steps
  rename Fr _ _ _ _ => F5
  rename News _ _ _ _ => N5
  have hKh := Kp.at kp F5 N5 (by walk_at "MINE sub")
  refine' asc_spec (g := s.heap.hide 203) hIn hTop F5.keep (Heap.hide_self _ _) (by walk_at "MINE room") (News.get N5 (by k_mem)) (hpK.keeps hKh) (hlK.at fun o e => hKh _ o e) (hvK.keeps hKh) (fun e he => ⟨(hr e he).1, (hr e he).2.1, (hr e he).2.2⟩) (by rw [List.length_map]; lia) ?_
  intro h6 tk6 D vs3 es3 ps6 nn6 hbut h6c hps6 hDn hD hv6 hperm hsort
  have F6 := but_fr F5 (Heap.hide_self _ _) (Nat.ne_of_lt h203) hbut
  have N6 : News (s.heap.hide 203) L h6 [(L + 1, o'), (203, tabObj ps6)] := List.forall_mem_cons.mpr ⟨⟨hbut _ _ hne1 (N5 _ (.head _)).1, (N5 _ (.head _)).2⟩, List.forall_mem_cons.mpr ⟨⟨h6c, Nat.ne_of_lt h203, Heap.hide_self _ _⟩, List.forall_mem_nil _⟩⟩
  refine goal_var fun G9 hG9 => ?_
  obtain ⟨nx6, K6, N7, hnx6, kp6, hk6, hKL6, hKc6, hKs6⟩ := kp_make F6 N6
  refine hG9 ?_
  clear hG9 G9
  have hcs6 : ∀ c ∈ [(L + 1, o'), (203, tabObj ps6)], h6.get? c.1 = some c.2 ∧ CellOk c.2 := List.forall_mem_cons.mpr ⟨⟨(N6 _ (.head _)).1, cellok_cell d1'⟩, List.forall_mem_cons.mpr ⟨⟨(N6 _ (.tail _ (.head _))).1, cellok_tab hps6⟩, List.forall_mem_nil _⟩⟩
  have hcs7 : ∀ c ∈ [(L + 1, o'), (203, tabObj ps6)], h6.get? c.1 = some c.2 ∧ ∀ its n, c.2.data ≠ .seq its n := List.forall_mem_cons.mpr ⟨⟨(N6 _ (.head _)).1, by rw [d1']; nofun⟩, List.forall_mem_cons.mpr ⟨⟨(N6 _ (.tail _ (.head _))).1, by nofun⟩, List.forall_mem_nil _⟩⟩
  have hlK6 : K6.IsList D vs3.toArray := list_to2 F6.ns hk6 hcs7 ⟨_, hD, rfl, nn6, rfl⟩
  have hvK6 := ens_to F6.ns hk6 hcs6 hv6
  have hpK6 := tab_to F6.ns hk6 hcs6 hps6
  have N8 : News (s.heap.hide 203) L h6 ((L + 1, o') :: (203, tabObj ps6) :: nx6) := N7
  clear hvK hlK hpK kp hk hKs N5 F5 N6 N7 hKh
  have hna : ∀ q ∈ nx6, q.1 ≠ L + 1 := fun q hq => hnx6 q hq _ (.head _)
  have hnb : ∀ q ∈ nx6, q.1 ≠ 203 := fun q hq => hnx6 q hq _ (.tail _ (.head _))
  have hr3 := row_perm hr hperm
  have hz3 : es3.length ≤ 8 := by rw [hperm.length_eq, List.length_map]; lia
  have hvI := ens_list kp6 hvK6
  k_steps
  rename Obj => oc
  rename News _ _ _ _ => N9
  rename Fr _ _ _ _ => F9
  rename oc.data = _ => d9
  refine' comp_base (J := fun i ys nx => ∃ own, nx = (L + 1, oc) :: own ∧ (∀ q ∈ nx6, q ∈ own) ∧ ((203, tabObj ps6) ∈ own) ∧ ∀ e ∈ pes.take i, ProbOk e) ?hL ?hh hlp0 ?F ?N ?j ?sz ?turn ?done
  case F => exact F9
  case N => exact N9
  case hL => rfl
  case hh => rfl
  case j => exact ⟨_, rfl, fun q hq => .tail _ hq, .head _, fun e he => by simp at he⟩
  case sz => rw [pd_len hpv0]; lia
  case turn =>
    intro i v ys nx h' tk I C Dl oI oL mv nD hi hys hoff hJ hmv hC F1 N1 hoL
    refine wpAny_tests_nil ?_
    simp only [if_true]
    refine post_var fun Q8 hQ8 => ?_
    refine goal_var fun G9 hG9 => ?_
    obtain ⟨own, rfl, hsub, h203o, hJp⟩ := hJ
    obtain ⟨e, he, hve⟩ := pd_get hpv0 hi
    refine hG9 ?_
    clear hG9 G9
    have hpe := hpo e (List.mem_of_getElem? he)
    have fin : ∀ (v' : Value) (h2 : Heap) (tk2 : Nat), h'.StaysIn h2 → ProbOk e → EltPost (s.heap.hide 203) C I Dl L oI oL mv ys nD (fun ys nx => ∃ own, nx = (L + 1, oc) :: own ∧ (∀ q ∈ nx6, q ∈ own) ∧ ((203, tabObj ps6) ∈ own) ∧ ∀ e ∈ pes.take (i + 1), ProbOk e) { s with heap := h', toks := tk } v' { s with heap := h2, toks := tk2 } :=
      fun v' h2 tk2 st hg => elt_end _ (fr_st F1 st) (news_st N1 st) (fun q hq => hq) hoff ⟨own, rfl, hsub, h203o, forall_take_succ he hJp hg⟩
    have hKh : K6.StaysIn h' := kp6.stays h' F1.keep fun q hq => (N1 q (.tail _ (.tail _ (.tail _ (.tail _ (hsub q hq)))))).1
    have hlh : h'.IsList D vs3.toArray := hlK6.at fun o e => hKh _ o e
    have hvh := hvK6.keeps hKh
    cases e with
    | i k => exact hpe.elim
    | no =>
      obtain rfl := hve
      k_steps
      refine qnone_spec (by walk_at "MINE in") (by walk_at "MINE top") (by walk_at "MINE room") ?_
      intro h2 tk2 st
      exact hQ8 _ _ (fin _ _ _ st trivial)
    | q pn pd =>
      refine goal_var fun G9 hG9 => ?_
      obtain ⟨a, t, u, rfl, ha⟩ := hve
      obtain ⟨hp0, hp8⟩ := hpe
      refine hG9 ?_
      clear hG9 G9
      by_cases hin : 0 ≤ pn ∧ pn ≤ pd
      · obtain ⟨hpn, hpm⟩ := hin
        k_steps
        by_cases hemp : es3 = []
        · subst hemp
          refine qempty_spec (by walk_at "MINE in") (by walk_at "MINE top") (by walk_at "MINE room") hlh hvh (ha.keeps F1.keep) hp0 hpn hpm ?_
          intro h2 tk2 st
          exact hQ8 _ _ (fin _ _ _ st ⟨hp0, hp8, hpn, hpm⟩)
        · refine qitem_spec (by walk_at "MINE in") (by walk_at "MINE top") (by walk_at "MINE room") hlh hvh hr3 hz3 (List.length_pos_iff.mpr hemp) (ha.keeps F1.keep) hp0 hp8 hpn hpm ?_
          intro h2 tk2 v2 st hg
          exact hQ8 _ _ (fin _ _ _ st ⟨hp0, hp8, hpn, hpm⟩)
      · k_steps
        have nL := N1 _ (.tail _ (.tail _ (.head _)))
        have n203 := N1 _ (.tail _ (.tail _ (.tail _ (.tail _ h203o))))
        refine goal_var fun G9 hG9 => ?_
        obtain ⟨oC, esC, epC, hoC, hdC, hkC, hfC⟩ := F1.ns
        refine hG9 ?_
        clear hG9 G9
        have hLs : s.heap.get? L = none := Heap.get?_none_of_le (by have := F9.above; rw [Heap.hide_size] at this; exact this)
        have hCs : s.heap.get? C = none := Heap.get?_none_of_le (by have := F1.above; rw [Heap.hide_size] at this; exact this)
        have a7 : At7 s.heap h' [C, L] ps6 := ⟨fun b o hb q => F1.keep b o ((Heap.hide_ne _ hb).trans q), ⟨_, hc⟩, n203.1, hpK6.keeps hKh, fun y hy => by
          rcases List.mem_cons.mp hy with rfl | hy
          · exact ⟨hCs, oC, hoC, fun vs q => by rw [hdC] at q; cases q⟩
          · rw [List.mem_singleton.mp hy]
            exact ⟨hLs, oL, nL.1, hoL⟩⟩
        have hfo := a7.fun B0.frames
        have hCf : C ∉ outer.filterMap (·.frame) := fun hm => by
          refine goal_var fun G9 hG9 => ?_
          obtain ⟨_, o, q, _⟩ := B0.frames.mem hm
          refine hG9 ?_
          clear hG9 G9
          rw [hCs] at q; cases q
        have hfun : ∀ env : Env, env.frame = some L → env.scope.kind = .function → h'.FunFrames (allBut [C, L] outer h') (env :: outer) := fun env e1 e2 =>
          ⟨by rw [e2]; decide, ⟨L, oL, e1, allBut_none (xs := [C, L]) (List.mem_append_left _ (.tail _ (.head _))), nL.1, hoL⟩, fun_base hfo fun L' h' => allBut_none (xs := [C, L]) (List.mem_append_right _ h')⟩
        refine qraise_spec (g := allBut [C, L] outer h') (by walk_at "MINE in") (by walk_at "MINE top") (by walk_at "MINE room") (ha.keeps F1.keep) hp0 (by lia) ⟨rfl, allBut_in, hfun _ rfl rfl⟩ ?_
        intro h1 tk1 e d ho1
        show wpAny _ _ (noteFrame (.ref e) _) _ _ _
        refine note_anyC ho1.fl ?_ rfl rfl rfl
        intro h2 x2 u2
        have u12 := ho1.up.trans u2
        refine ⟨mv, u12.ns F1.ns, fun h3 hs3 cenv' hc' => ?_⟩
        obtain ⟨slC, hC2⟩ := u12 C oC hoC (fun vs q => by rw [hdC] at q; cases q)
        have x3 := x2.same hs3 (allBut_none (xs := [C, L]) (List.mem_append_left _ (.head _))) ⟨_, hC2, fun vs q => by rw [show ({ oC with slots := slC } : Obj).data = oC.data from rfl, hdC] at q; cases q⟩ (fun hm => by
          rcases List.mem_cons.mp hm with z | hm
          · exact nL.2.1 z.symm
          · exact hCf hm)
        refine pass_any x3 ?_
        intro h4 fl4 x4 u4
        refine leave_any rfl rfl x4 ?_
        intro h5 x5 u5
        refine goal_var fun G9 hG9 => ?_
        obtain ⟨od, t, hod, hlk⟩ := ho1.msg
        refine hG9 ?_
        clear hG9 G9
        have hdC : d ≠ C := fun z => by rw [z] at ho1; have := ho1.dnew; rw [hoC] at this; cases this
        refine goal_var fun G9 hG9 => ?_
        obtain ⟨sl2, hod2⟩ := u2 d od hod (not_rec hlk)
        obtain ⟨sl5, hod5⟩ := (u4.trans u5) d _ ((hs3.2 d hdC).trans hod2) (not_rec (o := { od with slots := sl2 }) hlk)
        refine hG9 ?_
        clear hG9 G9
        have o1 := a7.out B0.frames B0.stays hB x5 (fun b o ⟨o0, hb0⟩ hb hn => by
          have hbC : b ≠ C := fun z => by rw [z, hCs] at hb0; cases hb0
          obtain ⟨sl, hs⟩ := u12 b o hb hn
          obtain ⟨sl', hs'⟩ := (u4.trans u5) b _ ((hs3.2 b hbC).trans hs) hn
          exact ⟨sl', hs'⟩) ⟨_, t, hod5, hlk⟩ ho1.dnew
        exact h _ _ _ _ _ _ o1
  case done =>
    intro hp D' ys nD' nx h' tk hys hJ hoff N1 F2 N2
    refine goal_var fun G9 hG9 => ?_
    obtain ⟨own, rfl, hsub, h203o, hJp⟩ := hJ
    refine hG9 ?_
    clear hG9 G9
    rw [show pvs.length = pes.length from pd_len hpv0, List.take_length] at hJp
    exact absurd hJp hout
end

section
variable {w : World} {A : Around} {s : Shared} {Q : Value → Shared → Prop} {E : Value → Shared → Prop} {R : Result → Shared → Prop}
theorem msg_find {K : Frag} {cd : ClassData} {od : Obj} {v : Value} (hc : clsIn K 51 = some cd) (hd : cd.hasDict = true) (ha : findIn K (.ref 51) "message" = some none) (hl : lookIn "message" od = some (some v)) : findObj K 51 (some od) "message" = some (.value v) := by
  unfold findObj W.ownOf
  simp only [hc, ha, Option.bind_some, hd, hl, if_true]
/-- error.message of an exception of class 51 -/
theorem exc_get {expr : Bool} {e d : Addr} {oe od : Obj} {v : Value} (X : (hd.heap_1 w.params).In s.heap) (he : s.heap.get? e = some oe) (hcl : oe.cls = .ref 51) (hdt : oe.dict = some d) (hf : ∃ vs, oe.data = .fields vs) (hod : s.heap.get? d = some od) (hl : lookIn "message" od = some (some v)) (hv : handedIn v = true)
    (h : ∀ tk, Q v { s with toks := tk }) : wpAny (MM w) A (getAttr (.ref e) "message" expr) Q E s := by
  have I : InstAt s.heap e oe 51 (some od) := ⟨he, hcl, by obtain ⟨vs, hf⟩ := hf; unfold notCls; rw [hf], by rw [hdt]; exact hod⟩
  have FX := PySem.F.attr_Exception
  refine goal_var fun G9 hG9 => ?_
  obtain ⟨cd, hc, hcd⟩ := any_some (x := clsIn (Mine.hd.heap_1 w.params) 51) (p := fun cd => cd.hasDict && cd.mro == [.ref 51, .ref 31, .type "Exception", .type "BaseException", .type "object"]) (by kernel_rfl)
  refine hG9 ?_
  clear hG9 G9
  simp only [Bool.and_eq_true, beq_iff_eq] at hcd
  obtain ⟨hdd, hmro⟩ := hcd
  have ha : findIn (Mine.hd.heap_1 w.params) (.ref 51) "message" = some none := by k_is
  have hga : findIn (Mine.hd.heap_1 w.params) (.ref 51) "__getattribute__" = some (some (.builtin "BaseException.__getattribute__")) := by k_is
  have hgt : findIn (Mine.hd.heap_1 w.params) (.ref 51) "__getattr__" = some none := by k_is
  have sub : ∀ h, (Mine.hd.heap_1 w.params).In h → Looks (MM w) h (isSubtype (.ref 51) (.type "BaseException")) true := fun h X => looks_mroIn X (by unfold mroIn; rw [hc, Option.bind_some, hmro]; rfl)
  have hfo := msg_find hc hdd ha hl
  have hx0 : (expr && onTheHeap (Value.builtin "BaseException.__getattribute__")) = false := by cases expr <;> rfl
  have hx2 : (Value.builtin "BaseException.__getattribute__" == Value.builtin "object.__getattribute__") = false := by decide +kernel
  refine goal_var fun G9 hG9 => ?_
  obtain ⟨hh, g, dr, t, os⟩ := s
  refine hG9 ?_
  clear hG9 G9
  have L0 := I.type (M := MM w)
  have L1 := looks_findIn (M := MM w) X hga
  have L2 := looks_findIn (M := MM w) X hgt
  have L3 := looks_find (M := MM w) X I hfo
  have L4 : Looks (MM w) hh (isInstance (.ref e) (.type "BaseException")) true := L0.andThen (sub _ X)
  unfold getAttr getAttrBy
  refine wpAny_bind (wpAny_mkText (wpAny_holding (wpAny_bind (L0.at (wpAny_bind (L1.at ?_))))))
  dsimp only
  rw [hx2, Bool.and_false, if_neg (by nofun)]
  unfold getAttrByItsOwn
  refine wpAny_bind (L2.at ?_)
  refine wpAny_bind (wpAny_attempt (wpAny_holding ?_))
  unfold callGetattribute
  rw [hx0, if_neg (by nofun)]
  unfold boundAndCalled
  rw [FX.ga.bind]
  refine wpAny_bind (wpAny_pure (wpAny_call ?_))
  refine codeAny_call_builtin FX.ga.plain PySem.F.entry_bexc_ga (@check_slot (MM w) _ _ _ "BaseException.__getattribute__" "BaseException" "__getattribute__" (.ref e) [.str "message" t] [] _ (by decide +kernel) (by decide +kernel) L4 (PySem.F.args_bexc_ga _ _) ?_)
  unfold Builtin.«object.__getattribute__»
  refine wpAny_bind (wpAny_pure (wpAny_bind (wpAny_pure (wpAny_bind (L0.at (wpAny_bind (L3.at ?_)))))))
  refine wpAny_pure ?_
  show wpAny _ _ (handedOut v) _ _ _
  rw [handedOut_of hv]
  exact wpAny_pure (h _)
end

section
variable {w : World} {dp un : Nat} {fr : Option (List Env)} {gd : Option (List Code)} {s : Shared} {p : Program} {loose : List Str} {mean : ExcName → Option Value} {mg mb : Str → Option Value} {Q : Value → Shared → Prop} {E : Value → Shared → Prop}
theorem kept_ok {g : Heap} {x l lp : Addr} {kd : Kd} {u : Tok} {vs pvs : List Value} {es pes : List En} {ps : Array Value} (X : (hd.heap_1 w.params).In g) (T : Top p loose mean mg mb g) (st : g.StaysIn s.heap) (hgc : g.get? 203 = none) (Rm : Room (Ar dp un fr gd) 20)
   (hc : s.heap.get? 203 = some (tabObj ps)) (hps : TabP s.heap ps) (hV : VecAt w.params s.heap x (.str (kS kd) u) (.ref l)) (hl : s.heap.IsList l vs.toArray) (hv : EnsAt s.heap vs es) (ho : ∀ e ∈ es, OkE e ∧ KdE kd e ∧ lack e = false) (hz : es.length ≤ 8)
   (hlp : s.heap.IsList lp pvs.toArray) (hpv : EnsAt s.heap pvs pes) (hpo : ∀ e ∈ pes, ProbOk e) (hpz : pes.length ≤ 100)
   (h : ∀ h' tk D ys es' ps' nn, (∀ b o, b ≠ 203 → s.heap.get? b = some o → h'.get? b = some o) → h'.get? 203 = some (tabObj ps') → TabP h' ps' → s.heap.get? D = none → h'.get? D = some (listOf (List.toArray ys) nn) →
      EnsAt h' ys (pes.map (qv es')) → es'.Perm (es.map toQ) → es'.Pairwise leE → Q (.ref D) { s with heap := h', toks := tk }) :
   wpAny (MM w) (Ar dp un fr gd) (call (.ref 274) [.ref x, .ref lp]) Q E s := by
  refine wpAny_call ?_
  refine' enter_def (binds := [("v", .ref x), ("shares", .ref lp)]) (s.heap.hide 203) [(203, tabObj ps)] (in_hide X st hgc) (T.keeps (stays_hide st hgc)) Rm (fun _ _ e => Heap.of_hide e) (Nat.le_of_eq (Heap.hide_size _ _)) (fun q hq => by rw [List.mem_singleton.mp hq]; exact ⟨hc, Heap.hide_self _ _⟩) ?k6 ?k7 ?k9 ?kB ?_ ?c2 ?c3 ?c4 ?c5
  (case k6 => k_dflt k_is)
  (case k7 => k_dflt k_is)
  (case k9 => k_dflt exact BindsTo.of_eq rfl)
  (case kB => k_dflt exact locs rfl)
  (case c2 => k_dflt exact rfl)
  (case c3 => k_dflt exact rfl)
  (case c4 => k_dflt exact rfl)
  (case c5 => k_dflt decide)
  intro L h₁ Rm' F N k₁ hL
  (try dsimp only)
  (try k_fold)
  have hIn : (hd.heap_1 w.params).In (s.heap.hide 203) := in_hide X st hgc
  have hTop : Top p loose mean mg mb (s.heap.hide 203) := T.keeps (stays_hide st hgc)
  have hV0 := vec_hide hc hV
  have hl0 := list_hide hc hl
  have hv0 := ens_hide hc hv
  have hlp0 := list_hide hc hlp
  have hpv0 := ens_hide hc hpv
  have hpH : TabP (s.heap.hide 203) ps := by
    rcases hps with e | ⟨c', rfl, r⟩
    · exact .inl e
    · exact .inr ⟨c', rfl, code_keep hc r⟩
  k_steps
  rename Fr _ _ _ _ => F1
  rename News _ _ _ _ => N1
  refine q7_spec hIn hTop F1.keep (Heap.hide_self _ _) (by walk_at "MINE room") (News.get N1 (.head _)) (hpH.keeps F1.keep) (hV0.keeps F1.keep) (hl0.at fun o e => F1.keep _ o e) (hv0.keeps F1.keep) ho hz (hlp0.at fun o e => F1.keep _ o e) (hpv0.keeps F1.keep) hpo hpz ?_
  intro h2 tk2 D ys es' ps' nn hb h203 hp' hDn hD hys hperm hsort
  all_goals walk_at "MINE end"
  have keep : ∀ b o, b ≠ 203 → s.heap.get? b = some o → h2.get? b = some o := fun b o hne e => hb b o hne (F1.keep b o ((Heap.hide_ne _ hne).trans e))
  refine h h2 _ D ys es' ps' nn keep h203 hp' ?_ hD hys hperm hsort
  cases q : s.heap.get? D with
  | none => rfl
  | some o =>
    by_cases hD2 : D = 203
    · subst hD2
      have := News.get N1 (.head _)
      rw [this] at hDn; cases hDn
    · rw [F1.keep D o ((Heap.hide_ne _ hD2).trans q)] at hDn; cases hDn
end
theorem fl_frame {G h : Heap} {env : Env} {outer : List Env} {e d L : Addr} {fl : Value} (x : Fl G (env :: outer) e d fl h) (hf : env.frame = some L) : G.get? L = none := by
  refine goal_var fun G9 hG9 => ?_
  obtain ⟨_, ⟨L', o', b1, b2, _⟩, _⟩ := x.fr
  refine hG9 ?_
  clear hG9 G9
  rw [hf] at b1
  cases b1
  exact b2
section
variable {w : World} {A₀ : Around} {E : Value → Shared → Prop} {s' : Shared} {g G h : Heap} {outer : List Env} {L a e d : Addr} {m : Str → Option Value} {name : Str} {scope : Scope} {cd : Value}
  {n : Str} {b₀ : Stmt} {suite : List Stmt} {pos np : Pos} {Q : Flow → Shared → Prop} {p : Program} {loose : List Str} {mean : ExcName → Option Value} {mg mb : Str → Option Value} {msg : Str}
theorem catch51 (F : Fr g L h m) (x : Out51 G h s'.heap (envOf name scope L a cd :: outer) e d msg) (hG : g.StaysIn G) (hfr : A₀.frames = some outer) (X : (hd.heap_1 w.params).In g) (T : Top p loose mean mg mb g)
  (k : ∀ h' tk, Fr g L h' (fun y => if y = n then some (.ref e) else m y) → (∃ oe, h'.get? e = some oe ∧ oe.cls = .ref 51 ∧ oe.dict = some d ∧ ∃ vs, oe.data = .fields vs) → (∃ od t, h'.get? d = some od ∧ lookIn "message" od = some (some (.str msg t))) →
      (∀ a o, G.get? a = some o → h'.get? a = some o) → (∀ b o, b ≠ L → h.get? b = some o → (∀ vs, o.data ≠ .fields vs) → ∃ sl, h'.get? b = some { o with slots := sl }) →
      wpAny (MM w) ((A₀.deeper (envOf name scope L a cd)).mark (some (.ref e))) (execs (b₀ :: suite) (envOf name scope L a cd))
        (fun f s₄ => wpAny (MM w) (A₀.deeper (envOf name scope L a cd)) (do bindName (envOf name scope L a cd) n .none; unbindBehindTheSuite (envOf name scope L a cd) n pos) (fun _ s₅ => Q f s₅) E s₄)
        (AsSuiteRaised (MM w) ((A₀.deeper (envOf name scope L a cd)).mark (some (.ref e))) (envOf name scope L a cd) n pos (notedBy (MM w) ((A₀.deeper (envOf name scope L a cd)).mark (some (.ref e))) (envOf name scope L a cd) (cameBackBy (MM w) (A₀.deeper (envOf name scope L a cd)) (envOf name scope L a cd) E)))
        { s' with heap := h', toks := tk })
    (hk : scope.kind = .function := by rfl) (hlo : (envOf name scope L a cd).kindOf n = some .local := by rfl) (hx : (envOf name scope L a cd).kindOf "Refusal" = some .globalImplicit := by rfl) :
    wpAny (MM w) (A₀.deeper (envOf name scope L a cd)) (noteFrame (.ref e) (envOf name scope L a cd))
      (fun _ s₂ => wpAny (MM w) (A₀.deeper (envOf name scope L a cd)) (setFlight (.ref e) none) (fun _ s₃ =>
        wpAny (MM w) (A₀.deeper (envOf name scope L a cd)) (handleBy (.ref e) (envOf name scope L a cd) [.ExceptHandler (some (.Name "Refusal" np)) (some n) (b₀ :: suite) pos]) Q E s₃) E s₂) E s' := by
  refine goal_var fun G9 hG9 => ?_
  obtain ⟨fl, up, ⟨od, t, hod, hlk⟩, hdn⟩ := x
  refine hG9 ?_
  clear hG9 G9
  refine note_any (Around.frames_deeper hfr) rfl fl fun h2 x2 u2 => ?_
  refine flight_off x2 fun h3 x3 u3 => ?_
  have F3 : Fr g L h3 m := F.of_stays (fun b o q => x3.stays _ _ (hG _ _ q)) (up.trans (u2.trans u3))
  refine goal_var fun G9 hG9 => ?_
  obtain ⟨oe3, vs3, T3, oT3, ts3, he3, hcl3, hdt3, hda3, r3⟩ := id x3.tr
  refine hG9 ?_
  clear hG9 G9
  refine wpAny_handleBy_cons (codeAny_handlers_test (name_K F3 X (topRead_of T) (v := .ref 51) (by k_is) ?_ hk hx (by decide))) (by intro q; cases q)
  refine exc51_of (X.keeps F3.keep) (by kernel_rfl) fun bm N nm q bs hdct sn sub ab col dd k0 k1 k2 k3 k5 hC Tl => ?_
  refine wpAny_excMatches_sub_self hC he3 hcl3 (Tl.hasType (b := true) (by decide)) (codeAny_handlers_suite_as ?_)
  refine flight_off x3 fun h4 x4 u4 => ?_
  have F4 : Fr g L h4 m := F.of_stays (fun b o q => x4.stays _ _ (hG _ _ q)) (up.trans (u2.trans (u3.trans u4)))
  refine goal_var fun G9 hG9 => ?_
  obtain ⟨oe, vs, T4, oT, ts, he, hcl, hdt, hda, r⟩ := id x4.tr
  refine hG9 ?_
  clear hG9 G9
  have hLs : ∃ oL, h.get? L = some oL ∧ ∀ vs, oL.data ≠ .fields vs := by
    obtain ⟨oL, es, ep, e1, e2, _⟩ := F.ns
    exact ⟨oL, e1, fun vs q => by rw [e2] at q; cases q⟩
  have hLs4 : ∃ oL, h4.get? L = some oL ∧ ∀ vs, oL.data ≠ .fields vs := by
    obtain ⟨oL, es, ep, e1, e2, _⟩ := F4.ns
    exact ⟨oL, e1, fun vs q => by rw [e2] at q; cases q⟩
  have heL : e ≠ L := fun z => by
    refine goal_var fun G9 hG9 => ?_
    obtain ⟨oL, e1, e2⟩ := hLs4
    refine hG9 ?_
    clear hG9 G9
    rw [z, e1] at he; cases he; exact e2 _ hda
  have hdL : d ≠ L := fun z => by
    refine goal_var fun G9 hG9 => ?_
    obtain ⟨oL, e1, e2⟩ := hLs
    refine hG9 ?_
    clear hG9 G9
    rw [z, e1] at hdn; cases hdn
  have hGL : G.get? L = none := by
    obtain ⟨_, ⟨L', o', b1, b2, _⟩, _⟩ := fl.fr
    cases b1
    exact b2
  have u24 := u2.trans (u3.trans u4)
  refine wpAny_storeName_local hlo F4.ns (fun h5 hn hs => ?_) (by show (scope.kind == .class || (scope.kind == .module && L != mainGlobals)) = false; rw [hk]; rfl)
  obtain ⟨sl, hod4⟩ := u24 d od hod (not_rec hlk)
  refine k h5 _ (F4.set hn hs) ⟨oe, (hs.2 e heL).trans he, hcl, hdt, vs, hda⟩ ⟨_, t, (hs.2 d hdL).trans hod4, hlk⟩ (fun b o q => (hs.2 b (fun z => by subst z; exact absurd (hGL.symm.trans q) (by nofun))).trans (x4.stays _ _ q)) fun b o hb ho hnf => ?_
  obtain ⟨sl', hs'⟩ := (up.trans u24) b o ho hnf
  exact ⟨sl', (hs.2 b hb).trans hs'⟩
end
section
variable {w : World} {dp un : Nat} {outer : List Env} {gd : Option (List Code)} {s : Shared} {p : Program} {loose : List Str} {mean : ExcName → Option Value} {mg mb : Str → Option Value} {Q : Value → Shared → Prop} {E : Value → Shared → Prop}
theorem kept_lack {g : Heap} {x l lp : Addr} {kd : Kd} {u : Tok} {vs : List Value} {es : List En} {ps : Array Value} (X : (hd.heap_1 w.params).In g) (T : Top p loose mean mg mb g) (hgc : g.get? 203 = none) (hgz : g.objs.size ≤ s.heap.objs.size) (Rm : Room (Ar dp un (some outer) gd) 20)
   (hc : s.heap.get? 203 = some (tabObj ps)) (hps : TabP s.heap ps) (hV : VecAt w.params s.heap x (.str (kS kd) u) (.ref l)) (hl : s.heap.IsList l vs.toArray) (hv : EnsAt s.heap vs es) (ho : ∀ e ∈ es, OkE e ∧ KdE kd e) (hz : es.length ≤ 8) (hlk : es.any lack = true)
   (B0 : Below (Ar dp un (some outer) gd) g outer s.heap)
   (h : ∀ h' tk t ps', g.StaysIn h' → s.heap.UpToSlots h' → h'.get? 203 = some (tabObj ps') → TabP h' ps' → Q (.str msgNA t) { s with heap := h', toks := tk }) :
   wpAny (MM w) (Ar dp un (some outer) gd) (call (.ref 274) [.ref x, .ref lp]) Q E s := by
  refine wpAny_call ?_
  refine' enter_def (binds := [("v", .ref x), ("shares", .ref lp)]) g [(203, tabObj ps)] X T Rm B0.stays hgz (fun q hq => by rw [List.mem_singleton.mp hq]; exact ⟨hc, hgc⟩) ?k6 ?k7 ?k9 ?kB ?_ ?c2 ?c3 ?c4 ?c5
  (case k6 => k_dflt k_is)
  (case k7 => k_dflt k_is)
  (case k9 => k_dflt exact BindsTo.of_eq rfl)
  (case kB => k_dflt exact locs rfl)
  (case c2 => k_dflt exact rfl)
  (case c3 => k_dflt exact rfl)
  (case c4 => k_dflt exact rfl)
  (case c5 => k_dflt decide)
  intro L h₁ Rm' F N k₁ hL
  (try dsimp only)
  (try k_fold)
  k_steps
  rename Fr _ _ _ _ => F1
  rename News _ _ _ _ => N1
  have hfun : ∀ env : Env, env.frame = some L → env.scope.kind = .function → h₁.FunFrames g (env :: outer) := fun env a b =>
    fun_cons F1 a b (Heap.get?_none_of_le F1.above) (B0.frames.of_keeps fun b o e _ => ⟨o, k₁ b o e, rfl⟩)
  refine q7_lack (g := g) (gB := g) X T F1.keep hgc (by walk_at "MINE room") (News.get N1 (.head _)) (hps.keeps k₁) (hV.keeps k₁) (hl.at fun o e => k₁ _ o e) (hv.keeps k₁) ho hz hlk ⟨rfl, F1.keep, hfun _ rfl rfl⟩ hgc ?_
  intro h2 tk2 e d ps2 G ho2
  refine catch51 F1 ho2.out ho2.sub rfl X T ?_
  intro h3 tk3 F3 he3 hd3 hst3 hup3
  refine goal_var fun G9 hG9 => ?_
  obtain ⟨oe, e1, e2, e3, e4⟩ := he3
  obtain ⟨od, t, d1, d2⟩ := hd3
  refine hG9 ?_
  clear hG9 G9
  k_steps
  refine exc_get (X.keeps F3.keep) e1 e2 e3 e4 d1 d2 rfl ?_
  intro tk4
  refine wpAny_nameGoes_keeps rfl F3.ns rfl fun h' v hn hs => ?_
  show Q (.str msgNA t) _
  have hGL := fl_frame ho2.out.fl rfl
  have hgL : ∀ b o, G.get? b = some o → h'.get? b = some o := fun b o q => (hs.2 b (fun z => by subst z; exact absurd (hGL.symm.trans q) (by nofun))).trans (hst3 b o q)
  refine h h' _ t ps2 (fun b o q => hgL b o (ho2.sub b o q)) (fun b o q hnf => ?_) (hgL _ _ ho2.tab) (ho2.tabP.keeps hgL)
  have hbL : b ≠ L := Nat.ne_of_lt (hL ▸ Heap.lt_size q)
  obtain ⟨sl, z⟩ := hup3 b o hbL (k₁ b o q) hnf
  exact ⟨sl, (hs.2 b hbL).trans z⟩
theorem kept_prob {g : Heap} {x l lp : Addr} {kd : Kd} {u : Tok} {vs pvs : List Value} {es pes : List En} {ps : Array Value} (X : (hd.heap_1 w.params).In g) (T : Top p loose mean mg mb g) (hgc : g.get? 203 = none) (hgz : g.objs.size ≤ s.heap.objs.size) (Rm : Room (Ar dp un (some outer) gd) 20)
   (hc : s.heap.get? 203 = some (tabObj ps)) (hps : TabP s.heap ps) (hV : VecAt w.params s.heap x (.str (kS kd) u) (.ref l)) (hl : s.heap.IsList l vs.toArray) (hv : EnsAt s.heap vs es) (ho : ∀ e ∈ es, OkE e ∧ KdE kd e ∧ lack e = false) (hz : es.length ≤ 8)
   (hlp : s.heap.IsList lp pvs.toArray) (hpv : EnsAt s.heap pvs pes) (hpo : ∀ e ∈ pes, ShOk e) (hpz : pes.length ≤ 100) (hout : ¬ ∀ e ∈ pes, ProbOk e)
   (B0 : Below (Ar dp un (some outer) gd) g outer s.heap)
   (h : ∀ h' tk t ps', g.StaysIn h' → s.heap.UpToSlots h' → h'.get? 203 = some (tabObj ps') → TabP h' ps' → Q (.str msgPr t) { s with heap := h', toks := tk }) :
   wpAny (MM w) (Ar dp un (some outer) gd) (call (.ref 274) [.ref x, .ref lp]) Q E s := by
  refine wpAny_call ?_
  refine' enter_def (binds := [("v", .ref x), ("shares", .ref lp)]) g [(203, tabObj ps)] X T Rm B0.stays hgz (fun q hq => by rw [List.mem_singleton.mp hq]; exact ⟨hc, hgc⟩) ?k6 ?k7 ?k9 ?kB ?_ ?c2 ?c3 ?c4 ?c5
  (case k6 => k_dflt k_is)
  (case k7 => k_dflt k_is)
  (case k9 => k_dflt exact BindsTo.of_eq rfl)
  (case kB => k_dflt exact locs rfl)
  (case c2 => k_dflt exact rfl)
  (case c3 => k_dflt exact rfl)
  (case c4 => k_dflt exact rfl)
  (case c5 => k_dflt decide)
  intro L h₁ Rm' F N k₁ hL
  (try dsimp only)
  (try k_fold)
  k_steps
  rename Fr _ _ _ _ => F1
  rename News _ _ _ _ => N1
  have hfun : ∀ env : Env, env.frame = some L → env.scope.kind = .function → h₁.FunFrames g (env :: outer) := fun env a b =>
    fun_cons F1 a b (Heap.get?_none_of_le F1.above) (B0.frames.of_keeps fun b o e _ => ⟨o, k₁ b o e, rfl⟩)
  refine q7_prob (g := g) (gB := g) X T F1.keep hgc (by walk_at "MINE room") (News.get N1 (.head _)) (hps.keeps k₁) (hV.keeps k₁) (hl.at fun o e => k₁ _ o e) (hv.keeps k₁) ho hz (hlp.at fun o e => k₁ _ o e) (hpv.keeps k₁) hpo hpz hout ⟨rfl, F1.keep, hfun _ rfl rfl⟩ hgc ?_
  intro h2 tk2 e d ps2 G ho2
  refine catch51 F1 ho2.out ho2.sub rfl X T ?_
  intro h3 tk3 F3 he3 hd3 hst3 hup3
  refine goal_var fun G9 hG9 => ?_
  obtain ⟨oe, e1, e2, e3, e4⟩ := he3
  obtain ⟨od, t, d1, d2⟩ := hd3
  refine hG9 ?_
  clear hG9 G9
  k_steps
  refine exc_get (X.keeps F3.keep) e1 e2 e3 e4 d1 d2 rfl ?_
  intro tk4
  refine wpAny_nameGoes_keeps rfl F3.ns rfl fun h' v hn hs => ?_
  show Q (.str msgPr t) _
  have hGL := fl_frame ho2.out.fl rfl
  have hgL : ∀ b o, G.get? b = some o → h'.get? b = some o := fun b o q => (hs.2 b (fun z => by subst z; exact absurd (hGL.symm.trans q) (by nofun))).trans (hst3 b o q)
  refine h h' _ t ps2 (fun b o q => hgL b o (ho2.sub b o q)) (fun b o q hnf => ?_) (hgL _ _ ho2.tab) (ho2.tabP.keeps hgL)
  have hbL : b ≠ L := Nat.ne_of_lt (hL ▸ Heap.lt_size q)
  obtain ⟨sl, z⟩ := hup3 b o hbL (k₁ b o q) hnf
  exact ⟨sl, (hs.2 b hbL).trans z⟩
end

section
variable {w : World} {dp un : Nat} {fr : Option (List Env)} {gd : Option (List Code)} {s : Shared} {p : Program} {loose : List Str} {mean : ExcName → Option Value} {mg mb : Str → Option Value} {Q : Value → Shared → Prop} {E : Value → Shared → Prop}
theorem along_spec {l : Addr} {vs : List Value} {es : List En} {e : Int} {u : Tok} (X : (hd.heap_1 w.params).In s.heap) (T : Top p loose mean mg mb s.heap) (Rm : Room (Ar dp un fr gd) 6)
   (hl : s.heap.IsList l vs.toArray) (hv : EnsAt s.heap vs es) (r : RowE es) (hz : es.length ≤ 8) (hne : 0 < es.length) (h0 : 0 ≤ e) (h1 : e ≤ 8)
   (h : ∀ h' tk v, s.heap.StaysIn h' → GotEn vs es s.heap h' v (alongE es e 8) → Q v { s with heap := h', toks := tk }) :
   wpAny (MM w) (Ar dp un fr gd) (call (.ref 288) [.ref l, .int e u]) Q E s := by
  refine wpAny_call ?_
  refine' enter_def (binds := [("row", .ref l), ("eighths", .int e u)]) s.heap [] X T Rm (fun _ _ e => e) (Nat.le_refl _) (fun _ hq => nomatch hq) ?k6 ?k7 ?k9 ?kB ?_ ?c2 ?c3 ?c4 ?c5
  (case k6 => k_dflt k_is)
  (case k7 => k_dflt k_is)
  (case k9 => k_dflt exact BindsTo.of_eq rfl)
  (case kB => k_dflt exact locs rfl)
  (case c2 => k_dflt exact rfl)
  (case c3 => k_dflt exact rfl)
  (case c4 => k_dflt exact rfl)
  (case c5 => k_dflt decide)
  intro L h₁ Rm' F N k₁ hL
  (try dsimp only)
  (try k_fold)
  refine goal_var fun G9 hG9 => ?_
  obtain ⟨g0, g1, g2⟩ := fd_range (pn := e) (pd := 8) (m := (es.length : Int) - 1) (by decide) h0 h1 (by lia)
  obtain ⟨g3, g4, g5⟩ := fm_is (P := e * ((es.length : Int) - 1)) (pd := 8) (by decide)
  obtain ⟨d0, d1, d2, d3⟩ := r.get (k := (Int.fdiv (e * ((es.length : Int) - 1)) 8).toNat) (by lia)
  refine hG9 ?_
  clear hG9 G9
  k_steps
  · walk_at "MINE end"
    have hr : Int.fmod (e * ((es.length : Int) - 1)) 8 = 0 := by assumption
    refine h _ _ _ (Fr.keep (by assumption)) (.inl ⟨_, by assumption, ?_⟩)
    unfold alongE
    rw [if_pos hr]
  · have hr : Int.fmod (e * ((es.length : Int) - 1)) 8 ≠ 0 := by assumption
    have hlt := g2 hr
    refine goal_var fun G9 hG9 => ?_
    obtain ⟨c0, c1, c2, c3⟩ := r.get (k := (Int.fdiv (e * ((es.length : Int) - 1)) 8 + 1).toNat) (by lia)
    refine hG9 ?_
    clear hG9 G9
    have q0 : 0 < 8 * den (es.getD (Int.fdiv (e * ((es.length : Int) - 1)) 8).toNat .no) * den (es.getD (Int.fdiv (e * ((es.length : Int) - 1)) 8 + 1).toNat .no) := Int.mul_pos (by lia) c0
    have q1 : 8 * den (es.getD (Int.fdiv (e * ((es.length : Int) - 1)) 8).toNat .no) * den (es.getD (Int.fdiv (e * ((es.length : Int) - 1)) 8 + 1).toNat .no) ≤ 48 * 6 := Int.mul_le_mul (by lia) c1 (by lia) (by lia)
    k_steps
    all_goals walk_at "MINE end"
    have key : alongE es e 8 = mixE (es.getD (Int.fdiv (e * ((es.length : Int) - 1)) 8).toNat .no) (es.getD (Int.fdiv (e * ((es.length : Int) - 1)) 8 + 1).toNat .no) (Int.fmod (e * ((es.length : Int) - 1)) 8) 8 := by
      unfold alongE
      rw [if_neg hr, show (Int.fdiv (e * ((es.length : Int) - 1)) 8 + 1).toNat = (Int.fdiv (e * ((es.length : Int) - 1)) 8).toNat + 1 by lia]
    rw [key] at h
    exact h _ _ _ (Fr.keep (by assumption)) (.inr ⟨_, _, _, rfl, News.fresh (by assumption) (.head _), News.get (by assumption) (.head _)⟩)
end

/-- the running sum -/
def accQ (x : Int × Int) (e : En) : Int × Int := (qn (x.1 * den e + num e * x.2) (x.2 * den e), qd (x.1 * den e + num e * x.2) (x.2 * den e))
theorem foldl_take_succ {α β : Type} (f : β → α → β) (b : β) (l : List α) (i : Nat) (a : α) (h : l[i]? = some a) : (l.take (i + 1)).foldl f b = f ((l.take i).foldl f b) a := by
  rw [List.take_add_one, h, List.foldl_append]; rfl
theorem tot_upd (x y : Str) (u z z' : Option Value) (m : Str → Option Value) (h : x ≠ y) : (fun k => if k = y then z' else updm x u (fun k => if k = y then z else m k) k) = updm x u (fun k => if k = y then z' else m k) := by
  funext k
  show (if k = y then z' else if k = x then u else if k = y then z else m k) = if k = x then u else if k = y then z' else m k
  by_cases h1 : k = y
  · rw [if_pos h1, if_pos h1, if_neg (fun q => h (q.symm.trans h1))]
  · rw [if_neg h1, if_neg h1, if_neg h1]
theorem News.swap {g h : Heap} {L : Addr} {a b : Addr × Obj} {nx : List (Addr × Obj)} (N : News g L h (a :: b :: nx)) : News g L h (b :: a :: nx) := fun q hq => N q (by
  simp only [List.mem_cons] at hq ⊢
  rcases hq with h | h | h <;> simp only [h, true_or, or_true])
section
variable {w : World} {dp un : Nat} {fr : Option (List Env)} {gd : Option (List Code)} {s : Shared} {p : Program} {loose : List Str} {mean : ExcName → Option Value} {mg mb : Str → Option Value} {Q : Value → Shared → Prop} {E : Value → Shared → Prop}
theorem dsum_spec {l : Addr} {vs : List Value} {es : List En} (X : (hd.heap_1 w.params).In s.heap) (T : Top p loose mean mg mb s.heap) (Rm : Room (Ar dp un fr gd) 9)
   (hl : s.heap.IsList l vs.toArray) (hv : EnsAt s.heap vs es) (r : RowE es) (hz : es.length ≤ 2) (hne : 0 < es.length)
   (h : ∀ h' tk q t u, s.heap.StaysIn h' → s.heap.get? q = none → h'.get? q = some (tupO [.int (es.foldl accQ (0, 1)).1 t, .int (es.foldl accQ (0, 1)).2 u]) → Q (.ref q) { s with heap := h', toks := tk }) :
   wpAny (MM w) (Ar dp un fr gd) (call (.ref 189) [.ref l]) Q E s := by
  refine wpAny_call ?_
  refine' enter_def (binds := [("items", .ref l)]) s.heap [] X T Rm (fun _ _ e => e) (Nat.le_refl _) (fun _ hq => nomatch hq) ?k6 ?k7 ?k9 ?kB ?_ ?c2 ?c3 ?c4 ?c5
  (case k6 => k_dflt k_is)
  (case k7 => k_dflt k_is)
  (case k9 => k_dflt exact BindsTo.of_eq rfl)
  (case kB => k_dflt exact locs rfl)
  (case c2 => k_dflt exact rfl)
  (case c3 => k_dflt exact rfl)
  (case c4 => k_dflt exact rfl)
  (case c5 => k_dflt decide)
  intro L h₁ Rm' F N k₁ hL
  (try dsimp only)
  (try k_fold)
  k_steps
  refine' loop_base (J := fun i m nx => ∃ u z n d, m = updm "item" u (fun y => if y = ("total" : Str) then some z else List.lookup y [(("items" : Str), Value.ref l)].reverse) ∧ (es.take i).foldl accQ (0, 1) = (n, d) ∧ 0 < d ∧ d ≤ 6 ^ i ∧ EnIn s.heap nx z (.q n d) ∧ (i = 0 ∨ ∃ q t u, z = .ref q ∧ (q, tupO [.int n t, .int d u]) ∈ nx)) ?hL ?hh hl ?F ?N ?j ?turn ?done
  case F => assumption
  case N => assumption
  case hL => rfl
  case hh => exact Room.hh (by assumption)
  case j => exact ⟨_, _, 0, 1, (updm_self _ _).symm, rfl, by decide, by decide, .base (show EnAt s.heap (.ref 55) (.q 0 1) from ⟨_, _, _, rfl, tupK X (by k_is)⟩), .inl rfl⟩
  case turn =>
    intro i v m₁ nx h' tk I oI hi hne' hJ F1 N1
    refine post_var fun Q8 hQ8 => ?_
    refine goal_var fun G9 hG9 => ?_
    obtain ⟨u, z, n, d, rfl, hf, hd0, hd1, hz', hnew⟩ := hJ
    obtain ⟨e, he, hve⟩ := pd_get hv hi
    refine hG9 ?_
    clear hG9 G9
    rw [updm_twice] at F1
    have hil : i < es.length := (List.getElem?_eq_some_iff.mp he).1
    have hre := r e (List.mem_of_getElem? he)
    refine goal_var fun G9 hG9 => ?_
    obtain ⟨a0, a1, a2, a3⟩ := den_pos hre.1 hre.2.1 hre.2.2
    refine hG9 ?_
    clear hG9 G9
    have hfs := foldl_take_succ accQ (0, 1) es i e he
    rw [hf] at hfs
    rw [a3] at hve
    refine goal_var fun G9 hG9 => ?_
    obtain ⟨a, t, u', rfl, ha⟩ := hve
    obtain ⟨b, t2, u2, rfl, hb⟩ := hz'.at F1 N1 (fun q hq => .tail _ hq)
    refine hG9 ?_
    clear hG9 G9
    have hp6 : ∀ i : Fin 2, (6 : Int) ^ i.val ≤ 6 := by decide
    have hd6 := hp6 ⟨i, by lia⟩
    dsimp only at hd6
    have hm1 : d * den e ≤ 6 ^ i * 6 := Int.mul_le_mul hd1 a1 (by lia) (by lia)
    have hm2 : 0 < d * den e := Int.mul_pos hd0 a0
    refine goal_var fun G9 hG9 => ?_
    obtain ⟨f1, f2, f3, f4⟩ := qn_facts (n * den e + num e * d) hm2
    refine hG9 ?_
    clear hG9 G9
    have hfs' : (es.take (i + 1)).foldl accQ (0, 1) = (qn (n * den e + num e * d) (d * den e), qd (n * den e + num e * d) (d * den e)) := hfs
    k_steps
    rename Fr _ _ _ _ => F5
    rename News _ _ _ _ => N5
    rw [tot_upd _ _ _ _ _ _ (by decide)] at F5
    refine hQ8 _ _ ⟨_, _, _, _ :: nx, rfl, F5, News.swap N5, ?_, _, _, _, _, rfl, hfs', f1, ?_, .new (.head _), .inr ⟨_, _, _, rfl, .head _⟩⟩
    · rename _ ≠ _ ∧ _ => hq9
      exact List.forall_mem_cons.mpr ⟨Ne.symm hq9.1, hne'⟩
    · rw [Int.pow_succ]; lia
  case done =>
    intro m₁ nx h' tk hJ F1 N1
    refine goal_var fun G9 hG9 => ?_
    obtain ⟨u, z, n, d, rfl, hf, hd0, hd1, hz', hnew⟩ := hJ
    refine hG9 ?_
    clear hG9 G9
    rw [pd_len hv, List.take_length] at hf
    rcases hnew with h0 | ⟨q, t, u', rfl, hq⟩
    · have := pd_len hv; lia
    · k_steps
      all_goals walk_at "MINE end"
      rw [hf] at h
      exact h _ _ _ _ _ (Fr.keep (by assumption)) (N1 _ hq).2.2 (N1 _ hq).1
end

theorem acc2_is {es : List En} (r : RowE es) (hz : es.length = 2) : 0 < (es.foldl accQ (0, 1)).2 ∧ (es.foldl accQ (0, 1)).2 ≤ 36 ∧
    mixE (es.getD 0 .no) (es.getD 1 .no) 1 2 = .q (qn ((es.foldl accQ (0, 1)).1 * 1) ((es.foldl accQ (0, 1)).2 * 2)) (qd ((es.foldl accQ (0, 1)).1 * 1) ((es.foldl accQ (0, 1)).2 * 2)) := by
  match es, hz with
  | [e0, e1], _ =>
    obtain ⟨a0, a1, a2, a3⟩ := r.get (k := 0) (by simp)
    obtain ⟨b0, b1, b2, b3⟩ := r.get (k := 1) (by simp)
    show 0 < (accQ (accQ (0, 1) e0) e1).2 ∧ (accQ (accQ (0, 1) e0) e1).2 ≤ 36 ∧ mixE e0 e1 1 2 = .q (qn ((accQ (accQ (0, 1) e0) e1).1 * 1) ((accQ (accQ (0, 1) e0) e1).2 * 2)) (qd ((accQ (accQ (0, 1) e0) e1).1 * 1) ((accQ (accQ (0, 1) e0) e1).2 * 2))
    have a0 : 0 < den e0 := a0
    have a1 : den e0 ≤ 6 := a1
    have b0 : 0 < den e1 := b0
    have b1 : den e1 ≤ 6 := b1
    unfold accQ
    dsimp only
    obtain ⟨f1, f2, f3, f4⟩ := qn_facts (0 * den e0 + num e0 * 1) (d := 1 * den e0) (by lia)
    generalize qn (0 * den e0 + num e0 * 1) (1 * den e0) = u at *
    generalize qd (0 * den e0 + num e0 * 1) (1 * den e0) = v at *
    have h1 : 0 < v * den e1 := Int.mul_pos f1 b0
    have h2 : v * den e1 ≤ 6 * 6 := Int.mul_le_mul (by lia) b1 (by lia) (by lia)
    obtain ⟨g1, g2, g3, g4⟩ := qn_facts (u * den e1 + num e1 * v) (d := v * den e1) h1
    generalize qn (u * den e1 + num e1 * v) (v * den e1) = n at *
    generalize qd (u * den e1 + num e1 * v) (v * den e1) = d at *
    refine ⟨g1, by lia, ?_⟩
    have s1 : (n * den e1 * den e0) * v = ((num e0 * den e1 + num e1 * den e0) * d) * v := by grind
    have s2 := Int.eq_of_mul_eq_mul_right (Int.ne_of_gt f1) s1
    unfold mixE
    obtain ⟨e1', e2'⟩ := qn_same (n := num e0 * den e1 * (2 - 1) + num e1 * den e0 * 1) (d := 2 * den e0 * den e1) (n' := n * 1) (d' := d * 2) (Int.mul_pos (by lia) b0) (by lia) (by grind)
    rw [e1', e2']
section
variable {w : World} {dp un : Nat} {fr : Option (List Env)} {gd : Option (List Code)} {s : Shared} {p : Program} {loose : List Str} {mean : ExcName → Option Value} {mg mb : Str → Option Value} {Q : Value → Shared → Prop} {E : Value → Shared → Prop}
theorem mean_spec {l : Addr} {vs : List Value} {es : List En} (X : (hd.heap_1 w.params).In s.heap) (T : Top p loose mean mg mb s.heap) (Rm : Room (Ar dp un fr gd) 11)
   (hl : s.heap.IsList l vs.toArray) (hv : EnsAt s.heap vs es) (r : RowE es) (hz : es.length = 2)
   (h : ∀ h' tk v, s.heap.StaysIn h' → NewEn s.heap h' v (mixE (es.getD 0 .no) (es.getD 1 .no) 1 2) → Q v { s with heap := h', toks := tk }) :
   wpAny (MM w) (Ar dp un fr gd) (call (.ref 201) [.ref l]) Q E s := by
  refine wpAny_call ?_
  refine' enter_def (binds := [("items", .ref l)]) s.heap [] X T Rm (fun _ _ e => e) (Nat.le_refl _) (fun _ hq => nomatch hq) ?k6 ?k7 ?k9 ?kB ?_ ?c2 ?c3 ?c4 ?c5
  (case k6 => k_dflt k_is)
  (case k7 => k_dflt k_is)
  (case k9 => k_dflt exact BindsTo.of_eq rfl)
  (case kB => k_dflt exact locs rfl)
  (case c2 => k_dflt exact rfl)
  (case c3 => k_dflt exact rfl)
  (case c4 => k_dflt exact rfl)
  (case c5 => k_dflt decide)
  intro L h₁ Rm' F N k₁ hL
  (try dsimp only)
  (try k_fold)
  obtain ⟨q1, q2, q3⟩ := acc2_is r hz
  k_steps
  refine dsum_spec (by walk_at "MINE in") (by walk_at "MINE top") (by walk_at "MINE room") (by walk_at "MINE lst") (by walk_at "MINE ens") r (by lia) (by lia) ?_
  intro h' tk q t0 u0 st hq ho
  walk_at "MINE new"
  rw [q3] at h
  generalize (es.foldl accQ (0, 1)).1 = n at *
  generalize (es.foldl accQ (0, 1)).2 = d at *
  have hz2 : (es.length : Int) = 2 := by lia
  k_steps
  all_goals walk_at "MINE end"
  rename News _ _ _ _ => N9
  have g9 := News.get N9 (.head _)
  rw [hz2] at g9
  exact h _ _ _ (Fr.keep (by assumption)) ⟨_, _, _, rfl, News.fresh N9 (.head _), g9⟩
end

/-- the median -/
def medE (es : List En) : En := alongE es 1 2
theorem med_odd {es : List En} {h : Nat} (hz : es.length = 2 * h + 1) : medE es = es.getD h .no := by
  unfold medE alongE
  rw [show (1 : Int) * ((es.length : Int) - 1) = 2 * (h : Int) by lia]
  rw [Int.fmod_eq_emod_of_nonneg _ (by decide), Int.fdiv_eq_ediv_of_nonneg _ (by decide), if_pos (by lia), show (2 * (h : Int) / 2).toNat = h by lia]
theorem med_even {es : List En} {h : Nat} (hz : es.length = 2 * (h + 1)) : medE es = mixE (es.getD h .no) (es.getD (h + 1) .no) 1 2 := by
  unfold medE alongE
  rw [show (1 : Int) * ((es.length : Int) - 1) = 2 * (h : Int) + 1 by lia]
  rw [Int.fmod_eq_emod_of_nonneg _ (by decide), Int.fdiv_eq_ediv_of_nonneg _ (by decide), if_neg (by lia), show ((2 * (h : Int) + 1) / 2).toNat = h by lia, show (2 * (h : Int) + 1) % 2 = 1 by lia]
theorem pd_drop {α β : Type} {F : α → β → Prop} : ∀ {l₁ : List α} {l₂ : List β} (k : Nat), Paired F l₁ l₂ → Paired F (l₁.drop k) (l₂.drop k)
  | _, _, 0, h => h
  | _, _, k + 1, .nil => .nil
  | _, _, k + 1, .cons _ r => pd_drop k r
theorem pd_take {α β : Type} {F : α → β → Prop} : ∀ {l₁ : List α} {l₂ : List β} (k : Nat), Paired F l₁ l₂ → Paired F (l₁.take k) (l₂.take k)
  | _, _, 0, _ => .nil
  | _, _, k + 1, .nil => .nil
  | _, _, k + 1, .cons h r => .cons h (pd_take k r)
theorem pick2 {vs : List Value} {h : Nat} (hz : vs.length = 2 * (h + 1)) : kms_pick vs.toArray.toList (some (((h + 1 : Nat) : Int) - 1)) (some (((h + 1 : Nat) : Int) + 1)) = (vs.drop h).take 2 := by
  unfold kms_pick kms_lo kms_hi
  dsimp only
  rw [if_neg (by lia), if_neg (by lia), show min (((h + 1 : Nat) : Int) - 1).toNat vs.length = h by lia, show min (((h + 1 : Nat) : Int) + 1).toNat vs.length = h + 2 by lia, show h + 2 - h = 2 by lia]
section
variable {w : World} {dp un : Nat} {fr : Option (List Env)} {gd : Option (List Code)} {s : Shared} {p : Program} {loose : List Str} {mean : ExcName → Option Value} {mg mb : Str → Option Value} {Q : Value → Shared → Prop} {E : Value → Shared → Prop}
theorem median_spec {g : Heap} {x l : Addr} {kd : Kd} {u : Tok} {vs : List Value} {es : List En} {ps : Array Value} (X : (hd.heap_1 w.params).In g) (T : Top p loose mean mg mb g) (st : g.StaysIn s.heap) (hgc : g.get? 203 = none) (Rm : Room (Ar dp un fr gd) 16)
   (hc : s.heap.get? 203 = some (tabObj ps)) (hps : TabP s.heap ps) (hV : VecAt w.params s.heap x (.str (kS kd) u) (.ref l)) (hl : s.heap.IsList l vs.toArray) (hv : EnsAt s.heap vs es) (ho : ∀ e ∈ es, OkE e ∧ KdE kd e ∧ lack e = false) (hz : es.length ≤ 8) (hne : 0 < es.length)
   (h : ∀ h' tk x' l' v k t es' ps', (∀ b o, b ≠ 203 → s.heap.get? b = some o → h'.get? b = some o) → h'.get? 203 = some (tabObj ps') → TabP h' ps' → VecAt w.params h' x' (.str k t) (.ref l') → h'.IsList l' [v].toArray →
      es'.Perm (es.map toQ) → es'.Pairwise leE → (k = "double" ∧ EnAt h' v (medE es')) ∨ (k = "integer" ∧ ∃ n t, v = .int n t ∧ medE es' = .q n 1) → Q (.ref x') { s with heap := h', toks := tk }) :
   wpAny (MM w) (Ar dp un fr gd) (call (.ref 222) [.ref x]) Q E s := by
  refine wpAny_call ?_
  refine' enter_def (binds := [("v", .ref x)]) (s.heap.hide 203) [(203, tabObj ps)] (in_hide X st hgc) (T.keeps (stays_hide st hgc)) Rm (fun _ _ e => Heap.of_hide e) (Nat.le_of_eq (Heap.hide_size _ _)) (fun q hq => by rw [List.mem_singleton.mp hq]; exact ⟨hc, Heap.hide_self _ _⟩) ?k6 ?k7 ?k9 ?kB ?_ ?c2 ?c3 ?c4 ?c5
  (case k6 => k_dflt k_is)
  (case k7 => k_dflt k_is)
  (case k9 => k_dflt exact BindsTo.of_eq rfl)
  (case kB => k_dflt exact locs rfl)
  (case c2 => k_dflt exact rfl)
  (case c3 => k_dflt exact rfl)
  (case c4 => k_dflt exact rfl)
  (case c5 => k_dflt decide)
  intro L h₁ Rm' F N k₁ hL
  (try dsimp only)
  (try k_fold)
  have hIn : (hd.heap_1 w.params).In (s.heap.hide 203) := in_hide X st hgc
  have hTop : Top p loose mean mg mb (s.heap.hide 203) := T.keeps (stays_hide st hgc)
  have hV0 := vec_hide hc hV
  have hl0 := list_hide hc hl
  have hv0 := ens_hide hc hv
  have hpH : TabP (s.heap.hide 203) ps := by
    rcases hps with e | ⟨c', rfl, r⟩
    · exact .inl e
    · exact .inr ⟨c', rfl, code_keep hc r⟩
  have hr := toQ_row ho
  have hoK := toQ_all (kd := kd) fun e he => ⟨(ho e he).1, (ho e he).2.1⟩
  have hno : ¬ (es.map toQ).any lack = true := by rw [row_any hr]; nofun
  have hzm : (es.map toQ).length = es.length := List.length_map _
  have hzn : (es.map toQ).length ≤ 8 := by lia
  have hnz : 0 < (es.map toQ).length := by lia
  refine goal_var fun G9 hG9 => ?_
  obtain ⟨dx, t1, t2, t3, t4, t5, hx, hdx⟩ := hV0
  refine hG9 ?_
  clear hG9 G9
  have hV0 : VecAt w.params (s.heap.hide 203) x (.str (kS kd) u) (.ref l) := ⟨dx, t1, t2, t3, t4, t5, hx, hdx⟩
  unfold vecES at hdx
  k_steps
  rename Fr _ _ _ _ => F1
  rename News _ _ _ _ => N1
  refine' numitems_spec (kd := kd) (hIn.keeps F1.keep) (hTop.keeps F1.keep) (by walk_at "MINE room") (hV0.keeps F1.keep) (hl0.at fun o e => F1.keep _ o e) (hv0.keeps F1.keep) (fun e he => (ho e he).2.1) (by lia) ?_
  intro h2 tk2 l2 vs2 st2 hl2 hv2
  have F2 := fr_st F1 st2
  have N2 := news_st N1 st2
  refine goal_var fun G9 hG9 => ?_
  obtain ⟨nx, K, N3, hnx, kp, hk, hKL, hKc, hKs⟩ := kp_make F2 N2
  refine hG9 ?_
  clear hG9 G9
  have hcs : ∀ c ∈ [(203, tabObj ps)], h2.get? c.1 = some c.2 ∧ CellOk c.2 := List.forall_mem_cons.mpr ⟨⟨(N2 _ (.head _)).1, cellok_tab hps⟩, List.forall_mem_nil _⟩
  have hcs2 : ∀ c ∈ [(203, tabObj ps)], h2.get? c.1 = some c.2 ∧ ∀ its n, c.2.data ≠ .seq its n := List.forall_mem_cons.mpr ⟨⟨(N2 _ (.head _)).1, by nofun⟩, List.forall_mem_nil _⟩
  have hlK := list_to2 F2.ns hk hcs2 hl2
  have hvK := ens_to F2.ns hk hcs hv2
  have N4 : News (s.heap.hide 203) L h2 ((203, tabObj ps) :: nx) := N3
  have hpK : TabP K ps := tab_to F2.ns hk hcs (hpH.keeps F2.keep)
  clear F1 N1 N2 N3 st2
  k_steps
  · have hkd : kd = .db := by
      rename _ = true => q9
      cases kd with
      | db => rfl
      | lo => exact absurd q9 (by decide)
      | it => exact absurd q9 (by decide)
    rename Fr _ _ _ _ => F5
    rename News _ _ _ _ => N5
    have hKh := Kp.at kp F5 N5 (by walk_at "MINE sub")
    refine' asc_spec (g := s.heap.hide 203) hIn hTop F5.keep (Heap.hide_self _ _) (by walk_at "MINE room") (News.get N5 (by k_mem)) (hpK.keeps hKh) (hlK.at fun o e => hKh _ o e) (hvK.keeps hKh) (fun e he => ⟨(hr e he).1, (hr e he).2.1, (hr e he).2.2⟩) (by rw [List.length_map]; lia) ?_
    intro h6 tk6 D vs3 es3 ps6 nn6 hbut h6c hps6 hDn hD hv6 hperm hsort
    have F6 := but_fr F5 (Heap.hide_self _ _) (N5 _ (.head _)).2.1 hbut
    have N6 : News (s.heap.hide 203) L h6 [(203, tabObj ps6)] := List.forall_mem_cons.mpr ⟨⟨h6c, (N5 _ (.head _)).2⟩, List.forall_mem_nil _⟩
    refine goal_var fun G9 hG9 => ?_
    obtain ⟨nx6, K6, N7, hnx6, kp6, hk6, hKL6, hKc6, hKs6⟩ := kp_make F6 N6
    refine hG9 ?_
    clear hG9 G9
    have hcs6 : ∀ c ∈ [(203, tabObj ps6)], h6.get? c.1 = some c.2 ∧ CellOk c.2 := List.forall_mem_cons.mpr ⟨⟨(N6 _ (.head _)).1, cellok_tab hps6⟩, List.forall_mem_nil _⟩
    have hcs7 : ∀ c ∈ [(203, tabObj ps6)], h6.get? c.1 = some c.2 ∧ ∀ its n, c.2.data ≠ .seq its n := List.forall_mem_cons.mpr ⟨⟨(N6 _ (.head _)).1, by nofun⟩, List.forall_mem_nil _⟩
    have hlK6 : K6.IsList D vs3.toArray := list_to2 F6.ns hk6 hcs7 ⟨_, hD, rfl, nn6, rfl⟩
    have hvK6 := ens_to F6.ns hk6 hcs6 hv6
    have hpK6 := tab_to F6.ns hk6 hcs6 hps6
    have N8 : News (s.heap.hide 203) L h6 ((203, tabObj ps6) :: nx6) := N7
    clear hvK hlK hpK kp hk hKs N5 F5 N6 N7 hKh
    have hnb : ∀ q ∈ nx6, q.1 ≠ 203 := fun q hq => hnx6 q hq _ (.head _)
    have hr3 := row_perm hr hperm
    have hz3 : es3.length ≤ 8 := by rw [hperm.length_eq, List.length_map]; lia
    have hvz : vs3.length = es3.length := pd_len hvK6
    have hn3 : 0 < es3.length := by rw [hperm.length_eq, List.length_map]; lia
    have hfd : Int.fdiv (es3.length : Int) 2 = ((es3.length / 2 : Nat) : Int) := by rw [Int.fdiv_eq_ediv_of_nonneg _ (by decide)]; lia
    have hfb : 0 ≤ Int.fdiv (es3.length : Int) 2 ∧ Int.fdiv (es3.length : Int) 2 < (es3.length : Int) := by rw [hfd]; lia
    have hfe : Int.fmod (es3.length : Int) 2 = ((es3.length % 2 : Nat) : Int) := by rw [Int.fmod_eq_emod_of_nonneg _ (by decide)]; lia
    k_steps
    · have hev : Int.fmod (es3.length : Int) 2 = 0 := by assumption
      rw [hfe] at hev
      obtain ⟨hh, hze⟩ : ∃ hh, es3.length = 2 * (hh + 1) := ⟨es3.length / 2 - 1, by lia⟩
      have hfh : Int.fdiv (es3.length : Int) 2 = ((hh + 1 : Nat) : Int) := by rw [hfd]; lia
      rename Fr _ _ _ _ => F9
      rename News _ _ _ _ => N9
      rw [hfh, pick2 (by lia)] at N9
      have hK9 : K6.StaysIn _ := Kp.at kp6 F9 N9 (by walk_at "MINE sub")
      have hg0 : ((es3.drop hh).take 2).getD 0 .no = es3.getD hh .no := by simp [List.getD_eq_getElem?_getD, List.getElem?_take, List.getElem?_drop]
      have hg1 : ((es3.drop hh).take 2).getD 1 .no = es3.getD (hh + 1) .no := by simp [List.getD_eq_getElem?_getD, List.getElem?_take, List.getElem?_drop]
      refine mean_spec (by walk_at "MINE in") (by walk_at "MINE top") (by walk_at "MINE room") (News.isList N9 (.head _)) (pd_take 2 (pd_drop hh (hvK6.keeps hK9))) (fun e he => hr3 e (List.mem_of_mem_drop (List.mem_of_mem_take he))) (by rw [List.length_take, List.length_drop]; lia) ?_
      intro h2 tk2 v st9 hnew
      rw [hg0, hg1] at hnew
      refine goal_var fun G9 hG9 => ?_
      obtain ⟨a, t, u, rfl, ha, ho9⟩ := hnew
      refine hG9 ?_
      clear hG9 G9
      walk_at "MINE new"
      k_steps
      all_goals walk_at "MINE end"
      rename Fr _ _ _ _ => F10
      rename News _ _ _ _ => N10
      refine h _ _ _ _ _ "double" _ es3 ps6 (fun b o hb e => F10.keep b o ((Heap.hide_ne _ hb).trans e)) (News.get N10 (by k_mem)) (hpK6.keeps (Kp.at kp6 F10 N10 (by walk_at "MINE sub"))) ⟨_, _, _, _, _, _, News.get N10 (.head _), News.get N10 (.tail _ (.head _))⟩ (News.isList N10 (by k_mem)) hperm hsort (.inl ⟨rfl, ?_⟩)
      rw [med_even hze]
      exact ⟨_, _, _, rfl, News.isTup N10 (by k_mem)⟩
    · have hev : Int.fmod (es3.length : Int) 2 ≠ 0 := by assumption
      rw [hfe] at hev
      obtain ⟨hh, hze⟩ : ∃ hh, es3.length = 2 * hh + 1 := ⟨es3.length / 2, by lia⟩
      have hfh : (Int.fdiv (es3.length : Int) 2).toNat = hh := by rw [hfd]; lia
      walk_at "MINE end"
      rename Fr _ _ _ _ => F10
      rename News _ _ _ _ => N10
      have hK10 : K6.StaysIn _ := Kp.at kp6 F10 N10 (by walk_at "MINE sub")
      rename vs3[_]? = _ => hv9
      rw [hfh] at hv9
      refine h _ _ _ _ _ "double" _ es3 ps6 (fun b o hb e => F10.keep b o ((Heap.hide_ne _ hb).trans e)) (News.get N10 (by k_mem)) (hpK6.keeps hK10) ⟨_, _, _, _, _, _, News.get N10 (.head _), News.get N10 (.tail _ (.head _))⟩ (News.isList N10 (by k_mem)) hperm hsort (.inl ⟨rfl, ?_⟩)
      rw [med_odd hze]
      exact (row_at hvK6 hv9).keeps hK10
  · have hkd : kd ≠ .db := by
      rename _ = false => q9
      rintro rfl
      exact absurd q9 (by decide)
    rename Fr _ _ _ _ => F5
    rename News _ _ _ _ => N5
    have hKh := Kp.at kp F5 N5 (by walk_at "MINE sub")
    refine' asc_spec (g := s.heap.hide 203) hIn hTop F5.keep (Heap.hide_self _ _) (by walk_at "MINE room") (News.get N5 (by k_mem)) (hpK.keeps hKh) (hlK.at fun o e => hKh _ o e) (hvK.keeps hKh) (fun e he => ⟨(hr e he).1, (hr e he).2.1, (hr e he).2.2⟩) (by rw [List.length_map]; lia) ?_
    intro h6 tk6 D vs3 es3 ps6 nn6 hbut h6c hps6 hDn hD hv6 hperm hsort
    have F6 := but_fr F5 (Heap.hide_self _ _) (N5 _ (.head _)).2.1 hbut
    have N6 : News (s.heap.hide 203) L h6 [(203, tabObj ps6)] := List.forall_mem_cons.mpr ⟨⟨h6c, (N5 _ (.head _)).2⟩, List.forall_mem_nil _⟩
    refine goal_var fun G9 hG9 => ?_
    obtain ⟨nx6, K6, N7, hnx6, kp6, hk6, hKL6, hKc6, hKs6⟩ := kp_make F6 N6
    refine hG9 ?_
    clear hG9 G9
    have hcs6 : ∀ c ∈ [(203, tabObj ps6)], h6.get? c.1 = some c.2 ∧ CellOk c.2 := List.forall_mem_cons.mpr ⟨⟨(N6 _ (.head _)).1, cellok_tab hps6⟩, List.forall_mem_nil _⟩
    have hcs7 : ∀ c ∈ [(203, tabObj ps6)], h6.get? c.1 = some c.2 ∧ ∀ its n, c.2.data ≠ .seq its n := List.forall_mem_cons.mpr ⟨⟨(N6 _ (.head _)).1, by nofun⟩, List.forall_mem_nil _⟩
    have hlK6 : K6.IsList D vs3.toArray := list_to2 F6.ns hk6 hcs7 ⟨_, hD, rfl, nn6, rfl⟩
    have hvK6 := ens_to F6.ns hk6 hcs6 hv6
    have hpK6 := tab_to F6.ns hk6 hcs6 hps6
    have N8 : News (s.heap.hide 203) L h6 ((203, tabObj ps6) :: nx6) := N7
    clear hvK hlK hpK kp hk hKs N5 F5 N6 N7 hKh
    have hnb : ∀ q ∈ nx6, q.1 ≠ 203 := fun q hq => hnx6 q hq _ (.head _)
    have hr3 := row_perm hr hperm
    have hz3 : es3.length ≤ 8 := by rw [hperm.length_eq, List.length_map]; lia
    have hvz : vs3.length = es3.length := pd_len hvK6
    have hn3 : 0 < es3.length := by rw [hperm.length_eq, List.length_map]; lia
    have hfd : Int.fdiv (es3.length : Int) 2 = ((es3.length / 2 : Nat) : Int) := by rw [Int.fdiv_eq_ediv_of_nonneg _ (by decide)]; lia
    have hfb : 0 ≤ Int.fdiv (es3.length : Int) 2 ∧ Int.fdiv (es3.length : Int) 2 < (es3.length : Int) := by rw [hfd]; lia
    have hfe : Int.fmod (es3.length : Int) 2 = ((es3.length % 2 : Nat) : Int) := by rw [Int.fmod_eq_emod_of_nonneg _ (by decide)]; lia
    k_steps
    · have hev : Int.fmod (es3.length : Int) 2 = 0 := by assumption
      rw [hfe] at hev
      obtain ⟨hh, hze⟩ : ∃ hh, es3.length = 2 * (hh + 1) := ⟨es3.length / 2 - 1, by lia⟩
      have hfh : Int.fdiv (es3.length : Int) 2 = ((hh + 1 : Nat) : Int) := by rw [hfd]; lia
      rename Fr _ _ _ _ => F9
      rename News _ _ _ _ => N9
      rw [hfh, pick2 (by lia)] at N9
      have hK9 : K6.StaysIn _ := Kp.at kp6 F9 N9 (by walk_at "MINE sub")
      have hg0 : ((es3.drop hh).take 2).getD 0 .no = es3.getD hh .no := by simp [List.getD_eq_getElem?_getD, List.getElem?_take, List.getElem?_drop]
      have hg1 : ((es3.drop hh).take 2).getD 1 .no = es3.getD (hh + 1) .no := by simp [List.getD_eq_getElem?_getD, List.getElem?_take, List.getElem?_drop]
      refine mean_spec (by walk_at "MINE in") (by walk_at "MINE top") (by walk_at "MINE room") (News.isList N9 (.head _)) (pd_take 2 (pd_drop hh (hvK6.keeps hK9))) (fun e he => hr3 e (List.mem_of_mem_drop (List.mem_of_mem_take he))) (by rw [List.length_take, List.length_drop]; lia) ?_
      intro h2 tk2 v st9 hnew
      rw [hg0, hg1] at hnew
      refine goal_var fun G9 hG9 => ?_
      obtain ⟨a, t, u, rfl, ha, ho9⟩ := hnew
      refine hG9 ?_
      clear hG9 G9
      walk_at "MINE new"
      k_steps
      all_goals walk_at "MINE end"
      rename Fr _ _ _ _ => F10
      rename News _ _ _ _ => N10
      refine h _ _ _ _ _ "double" _ es3 ps6 (fun b o hb e => F10.keep b o ((Heap.hide_ne _ hb).trans e)) (News.get N10 (by k_mem)) (hpK6.keeps (Kp.at kp6 F10 N10 (by walk_at "MINE sub"))) ⟨_, _, _, _, _, _, News.get N10 (.head _), News.get N10 (.tail _ (.head _))⟩ (News.isList N10 (by k_mem)) hperm hsort (.inl ⟨rfl, ?_⟩)
      rw [med_even hze]
      exact ⟨_, _, _, rfl, News.isTup N10 (by k_mem)⟩
    · have hev : Int.fmod (es3.length : Int) 2 ≠ 0 := by assumption
      rw [hfe] at hev
      obtain ⟨hh, hze⟩ : ∃ hh, es3.length = 2 * hh + 1 := ⟨es3.length / 2, by lia⟩
      have hfh : (Int.fdiv (es3.length : Int) 2).toNat = hh := by rw [hfd]; lia
      walk_at "MINE end"
      rename Fr _ _ _ _ => F10
      rename News _ _ _ _ => N10
      have hK10 : K6.StaysIn _ := Kp.at kp6 F10 N10 (by walk_at "MINE sub")
      have hhl : hh < es3.length := by lia
      refine goal_var fun G9 hG9 => ?_
      obtain ⟨d0, d1, d2, d3⟩ := hr3.get hhl
      refine hG9 ?_
      clear hG9 G9
      have hd1 : den (es3.getD hh .no) = 1 := by
        have hm : es3.getD hh .no ∈ es3 := by rw [List.getD_eq_getElem?_getD, List.getElem?_eq_getElem hhl]; exact List.getElem_mem hhl
        refine goal_var fun G9 hG9 => ?_
        obtain ⟨e', he', e2⟩ := List.mem_map.mp (hperm.mem_iff.mp hm)
        refine hG9 ?_
        clear hG9 G9
        rw [← e2]
        have := (ho e' he').2
        cases e' with
        | no => rfl
        | i k => rfl
        | q n d =>
          cases kd with
          | db => exact absurd rfl hkd
          | lo => exact this.1.elim
          | it => exact this.1.elim
      refine h _ _ _ _ _ "integer" _ es3 ps6 (fun b o hb e => F10.keep b o ((Heap.hide_ne _ hb).trans e)) (News.get N10 (by k_mem)) (hpK6.keeps hK10) ⟨_, _, _, _, _, _, News.get N10 (.head _), News.get N10 (.tail _ (.head _))⟩ (News.isList N10 (by k_mem)) hperm hsort (.inr ⟨rfl, _, _, rfl, ?_⟩)
      rw [med_odd hze, hfh]
      rw [hd1] at d3
      exact d3
end

theorem filter_take_succ {α : Type} (p : α → Bool) (l : List α) (i : Nat) (a : α) (h : l[i]? = some a) : (l.take (i + 1)).filter p = (l.take i).filter p ++ (if p a then [a] else []) := by
  rw [List.take_add_one, h, List.filter_append]
  cases q : p a <;> simp [q]
section
variable {w : World} {dp un : Nat} {fr : Option (List Env)} {gd : Option (List Code)} {s : Shared} {p : Program} {loose : List Str} {mean : ExcName → Option Value} {mg mb : Str → Option Value} {Q : Value → Shared → Prop} {E : Value → Shared → Prop}
theorem islack_b {v : Value} {e : En} {kd : Kd} {u : Tok} {b : Bool} (X : (hd.heap_1 w.params).In s.heap) (T : Top p loose mean mg mb s.heap) (Rm : Room (Ar dp un fr gd) 5)
   (hv : EnAt s.heap v e) (ho : OkE e) (hk : KdE kd e) (hb : lack e = b)
   (h : ∀ h' tk, s.heap.StaysIn h' → Q (.bool b) { s with heap := h', toks := tk }) :
   wpAny (MM w) (Ar dp un fr gd) (call (.ref 182) [.str (kS kd) u, v]) Q E s := by
  subst hb
  exact islacking_spec X T Rm hv ho hk h
end
--REG
set_option hygiene false in
local macro_rules | `(tactic| walk_at "call ref") => `(tactic| first | k_call_by "MS" 182 (islack_b (kd := .db) _ _ _ _ _ _ _ _) | k_call_by "MS" 182 (islack_b (kd := .it) _ _ _ _ _ _ _ _) | k_call_by "MS" 182 (islack_b (kd := .lo) _ _ _ _ _ _ _ _))
--END
section
variable {w : World} {dp un : Nat} {fr : Option (List Env)} {gd : Option (List Code)} {s : Shared} {p : Program} {loose : List Str} {mean : ExcName → Option Value} {mg mb : Str → Option Value} {Q : Value → Shared → Prop} {E : Value → Shared → Prop}
theorem wlno_spec {v : Value} (X : (hd.heap_1 w.params).In s.heap) (T : Top p loose mean mg mb s.heap) (Rm : Room (Ar dp un fr gd) 10)
   (h : ∀ h' tk, s.heap.StaysIn h' → Q v { s with heap := h', toks := tk }) : wpAny (MM w) (Ar dp un fr gd) (call (.ref 239) [v, .bool false]) Q E s := by
  refine wpAny_call ?_
  refine' enter_defC (binds := [("v", v), ("skip", .bool false)]) s.heap [] X T Rm (fun _ _ e => e) (Nat.le_refl _) (fun _ hq => nomatch hq) ?k6 ?k7 ?k9 ?kB ?kN ?_ ?c2 ?c3 ?c4
  (case k6 => k_dflt k_is)
  (case k7 => k_dflt k_is)
  (case k9 => k_dflt exact BindsTo.of_eq rfl)
  (case kB => k_dflt exact rfl)
  (case kN => decide)
  (case c2 => k_dflt exact rfl)
  (case c3 => k_dflt exact rfl)
  (case c4 => k_dflt exact rfl)
  intro L h₁ tk cells Rm' F N Y k₁ hL hlt
  refine goal_var fun G9 hG9 => ?_
  obtain ⟨o', hE, d1'⟩ := CellsAre.one Y
  refine hG9 ?_
  clear hG9 G9
  subst hE
  clear Y
  have F0 : Fr s.heap L h₁ (fun y => if y = ("skip" : Str) then some (.bool false) else none) := F
  clear F
  (try dsimp only)
  (try k_fold)
  k_steps
  all_goals walk_at "MINE end"
  exact h _ _ (Fr.keep (by assumption))
theorem wlyes_spec {x l : Addr} {kd : Kd} {u : Tok} {vs : List Value} {es : List En} (X : (hd.heap_1 w.params).In s.heap) (T : Top p loose mean mg mb s.heap) (Rm : Room (Ar dp un fr gd) 12)
   (hV : VecAt w.params s.heap x (.str (kS kd) u) (.ref l)) (hl : s.heap.IsList l vs.toArray) (hv : EnsAt s.heap vs es) (ho : ∀ e ∈ es, OkE e ∧ KdE kd e) (hz : es.length ≤ 8)
   (h : ∀ h' tk x' l' ys t, s.heap.StaysIn h' → s.heap.get? x' = none → s.heap.get? l' = none → VecAt w.params h' x' (.str (kS kd) t) (.ref l') → h'.IsList l' (List.toArray ys) → EnsAt h' ys (es.filter fun e => !lack e) → Q (.ref x') { s with heap := h', toks := tk }) :
   wpAny (MM w) (Ar dp un fr gd) (call (.ref 239) [.ref x, .bool true]) Q E s := by
  refine goal_var fun G9 hG9 => ?_
  obtain ⟨dx, t1, t2, t3, t4, t5, hx, hdx⟩ := hV
  refine hG9 ?_
  clear hG9 G9
  refine wpAny_call ?_
  refine' enter_defC (binds := [("v", .ref x), ("skip", .bool true)]) s.heap [] X T Rm (fun _ _ e => e) (Nat.le_refl _) (fun _ hq => nomatch hq) ?k6 ?k7 ?k9 ?kB ?kN ?_ ?c2 ?c3 ?c4
  (case k6 => k_dflt k_is)
  (case k7 => k_dflt k_is)
  (case k9 => k_dflt exact BindsTo.of_eq rfl)
  (case kB => k_dflt exact rfl)
  (case kN => decide)
  (case c2 => k_dflt exact rfl)
  (case c3 => k_dflt exact rfl)
  (case c4 => k_dflt exact rfl)
  intro L h₁ tk cells Rm' F N Y k₁ hL hlt
  refine goal_var fun G9 hG9 => ?_
  obtain ⟨o', hE, d1'⟩ := CellsAre.one Y
  refine hG9 ?_
  clear hG9 G9
  subst hE
  clear Y
  have F0 : Fr s.heap L h₁ (fun y => if y = ("skip" : Str) then some (.bool true) else none) := F
  clear F
  (try dsimp only)
  (try k_fold)
  unfold vecES at hdx
  have hlen := pd_len hv
  cases kd with
  | db =>
    simp only [kS] at *
    k_steps
    rename News _ _ _ _ => N7
    refine goal_var fun G9 hG9 => ?_
    obtain ⟨⟨a8, o8⟩, N8⟩ : ∃ b : Addr × Obj, News s.heap L _ (b :: [(L + 1, o')]) := ⟨_, N7⟩
    refine hG9 ?_
    clear hG9 G9
    clear N7
    refine' comp_base (J := fun i ys nx => nx = [(a8, o8), (L + 1, o')] ∧ EnsAt s.heap ys ((es.take i).filter fun e => !lack e)) ?hL ?hh hl ?F ?N ?j ?sz ?turn ?done
    case F => assumption
    case N => assumption
    case hL => rfl
    case hh => exact Room.hh (by assumption)
    case j => exact ⟨rfl, .nil⟩
    case sz => lia
    case turn =>
      intro i v ys nx h' tk I C D oI oL mv nD hi hys hoff hJ hmv hC F1 N1 hoL
      refine wpAny_tests_one ?_
      refine post_var fun Q8 hQ8 => ?_
      refine goal_var fun G9 hG9 => ?_
      obtain ⟨rfl, hJe⟩ := hJ
      obtain ⟨e, he, hve⟩ := pd_get hv hi
      obtain ⟨hoe, hke⟩ := ho e (List.mem_of_getElem? he)
      refine hG9 ?_
      clear hG9 G9
      have hft := filter_take_succ (fun e => !lack e) es i e he
      cases hle : lack e with
      | true =>
        simp only [hle, Bool.not_true, Bool.false_eq_true, if_false, List.append_nil] at hft
        k_steps
        refine hQ8 _ _ ?_
        k_steps
        exact elt_skip _ (by assumption) (by assumption) (fun q hq => hq) hoff ⟨rfl, by rw [hft]; exact hJe⟩
      | false =>
        simp only [hle, Bool.not_false, if_true] at hft
        k_steps
        refine hQ8 _ _ ?_
        k_steps
        exact elt_end _ (by assumption) (by assumption) (fun q hq => hq) hoff ⟨rfl, by rw [hft]; exact pd_snoc hJe hve⟩
    case done =>
      intro hp D ys nD nx h' tk hys hJ hoff N1 F2 N2
      obtain ⟨rfl, hJe⟩ := hJ
      rw [hlen, List.take_length] at hJe
      k_steps
      all_goals walk_at "MINE end"
      rename Fr _ _ _ _ => F10
      rename News _ _ _ _ => N10
      exact h _ _ _ D ys _ F10.keep (News.fresh N10 (.head _)) (News.fresh N10 (by k_mem)) ⟨_, _, _, _, _, _, News.get N10 (.head _), News.get N10 (.tail _ (.head _))⟩ (News.isList N10 (by k_mem)) (hJe.keeps F10.keep)
  | lo =>
    simp only [kS] at *
    k_steps
    rename News _ _ _ _ => N7
    refine goal_var fun G9 hG9 => ?_
    obtain ⟨⟨a8, o8⟩, N8⟩ : ∃ b : Addr × Obj, News s.heap L _ (b :: [(L + 1, o')]) := ⟨_, N7⟩
    refine hG9 ?_
    clear hG9 G9
    clear N7
    refine' comp_base (J := fun i ys nx => nx = [(a8, o8), (L + 1, o')] ∧ EnsAt s.heap ys ((es.take i).filter fun e => !lack e)) ?hL ?hh hl ?F ?N ?j ?sz ?turn ?done
    case F => assumption
    case N => assumption
    case hL => rfl
    case hh => exact Room.hh (by assumption)
    case j => exact ⟨rfl, .nil⟩
    case sz => lia
    case turn =>
      intro i v ys nx h' tk I C D oI oL mv nD hi hys hoff hJ hmv hC F1 N1 hoL
      refine wpAny_tests_one ?_
      refine post_var fun Q8 hQ8 => ?_
      refine goal_var fun G9 hG9 => ?_
      obtain ⟨rfl, hJe⟩ := hJ
      obtain ⟨e, he, hve⟩ := pd_get hv hi
      obtain ⟨hoe, hke⟩ := ho e (List.mem_of_getElem? he)
      refine hG9 ?_
      clear hG9 G9
      have hft := filter_take_succ (fun e => !lack e) es i e he
      cases hle : lack e with
      | true =>
        simp only [hle, Bool.not_true, Bool.false_eq_true, if_false, List.append_nil] at hft
        k_steps
        refine hQ8 _ _ ?_
        k_steps
        exact elt_skip _ (by assumption) (by assumption) (fun q hq => hq) hoff ⟨rfl, by rw [hft]; exact hJe⟩
      | false =>
        simp only [hle, Bool.not_false, if_true] at hft
        k_steps
        refine hQ8 _ _ ?_
        k_steps
        exact elt_end _ (by assumption) (by assumption) (fun q hq => hq) hoff ⟨rfl, by rw [hft]; exact pd_snoc hJe hve⟩
    case done =>
      intro hp D ys nD nx h' tk hys hJ hoff N1 F2 N2
      obtain ⟨rfl, hJe⟩ := hJ
      rw [hlen, List.take_length] at hJe
      k_steps
      all_goals walk_at "MINE end"
      rename Fr _ _ _ _ => F10
      rename News _ _ _ _ => N10
      exact h _ _ _ D ys _ F10.keep (News.fresh N10 (.head _)) (News.fresh N10 (by k_mem)) ⟨_, _, _, _, _, _, News.get N10 (.head _), News.get N10 (.tail _ (.head _))⟩ (News.isList N10 (by k_mem)) (hJe.keeps F10.keep)
  | it =>
    simp only [kS] at *
    k_steps
    rename News _ _ _ _ => N7
    refine goal_var fun G9 hG9 => ?_
    obtain ⟨⟨a8, o8⟩, N8⟩ : ∃ b : Addr × Obj, News s.heap L _ (b :: [(L + 1, o')]) := ⟨_, N7⟩
    refine hG9 ?_
    clear hG9 G9
    clear N7
    refine' comp_base (J := fun i ys nx => nx = [(a8, o8), (L + 1, o')] ∧ EnsAt s.heap ys ((es.take i).filter fun e => !lack e)) ?hL ?hh hl ?F ?N ?j ?sz ?turn ?done
    case F => assumption
    case N => assumption
    case hL => rfl
    case hh => exact Room.hh (by assumption)
    case j => exact ⟨rfl, .nil⟩
    case sz => lia
    case turn =>
      intro i v ys nx h' tk I C D oI oL mv nD hi hys hoff hJ hmv hC F1 N1 hoL
      refine wpAny_tests_one ?_
      refine post_var fun Q8 hQ8 => ?_
      refine goal_var fun G9 hG9 => ?_
      obtain ⟨rfl, hJe⟩ := hJ
      obtain ⟨e, he, hve⟩ := pd_get hv hi
      obtain ⟨hoe, hke⟩ := ho e (List.mem_of_getElem? he)
      refine hG9 ?_
      clear hG9 G9
      have hft := filter_take_succ (fun e => !lack e) es i e he
      cases hle : lack e with
      | true =>
        simp only [hle, Bool.not_true, Bool.false_eq_true, if_false, List.append_nil] at hft
        k_steps
        refine hQ8 _ _ ?_
        k_steps
        exact elt_skip _ (by assumption) (by assumption) (fun q hq => hq) hoff ⟨rfl, by rw [hft]; exact hJe⟩
      | false =>
        simp only [hle, Bool.not_false, if_true] at hft
        k_steps
        refine hQ8 _ _ ?_
        k_steps
        exact elt_end _ (by assumption) (by assumption) (fun q hq => hq) hoff ⟨rfl, by rw [hft]; exact pd_snoc hJe hve⟩
    case done =>
      intro hp D ys nD nx h' tk hys hJ hoff N1 F2 N2
      obtain ⟨rfl, hJe⟩ := hJ
      rw [hlen, List.take_length] at hJe
      k_steps
      all_goals walk_at "MINE end"
      rename Fr _ _ _ _ => F10
      rename News _ _ _ _ => N10
      exact h _ _ _ D ys _ F10.keep (News.fresh N10 (.head _)) (News.fresh N10 (by k_mem)) ⟨_, _, _, _, _, _, News.get N10 (.head _), News.get N10 (.tail _ (.head _))⟩ (News.isList N10 (by k_mem)) (hJe.keeps F10.keep)
end

/-- the walk halts here -/
def Halt (P : Prop) : Prop := P
theorem Halt.of {P : Prop} (h : Halt P) : P := h
--REG
set_option hygiene false in
local macro_rules | `(tactic| k_call_by "MH" $c) => `(tactic| (k_here; (with_reducible show wpAny _ _ $c _ _ _); refine Halt.of ?_))
set_option hygiene false in
local macro_rules | `(tactic| walk_at "pyIter ref") => `(tactic| k_call_by "MH" (pyIter (Value.ref _)))
local macro_rules | `(tactic| walk_at "binaryOp Mult int int") => `(tactic| ((with_reducible refine mul_int ?_ (IntMulOk.of_left ?a)); (case a => decide)))
--END
theorem ints_take {vs : List Value} {ns : List Int} (h : IntsAre vs ns) (k : Nat) : IntsAre (vs.take k) (ns.take k) := by
  induction h generalizing k with
  | nil => simp; exact .nil
  | cons n t r ih =>
    cases k with
    | zero => exact .nil
    | succ k => exact .cons _ _ (ih k)
theorem ints_snoc {vs : List Value} {ns : List Int} (h : IntsAre vs ns) (a : Int) (t : Tok) : IntsAre (vs ++ [.int a t]) (ns ++ [a]) := by
  induction h with
  | nil => exact .cons _ _ .nil
  | cons n t r ih => exact .cons _ _ ih
theorem pick_hi (vs : List Value) (k : Nat) : kms_pick vs.toArray.toList none (some (k : Int)) = vs.take k := by
  unfold kms_pick kms_lo kms_hi
  dsimp only
  rw [if_neg (by lia), List.drop_zero, Nat.sub_zero]
  by_cases h : k ≤ vs.length
  · rw [show min (k : Int).toNat vs.length = k by lia]
  · rw [show min (k : Int).toNat vs.length = vs.length by lia, List.take_of_length_le (Nat.le_refl _), List.take_of_length_le (by lia)]
theorem ints_get {vs : List Value} {ns : List Int} (h : IntsAre vs ns) {i : Nat} {v : Value} (e : vs[i]? = some v) : ∃ n t, v = .int n t := by
  induction h generalizing i with
  | nil => simp at e
  | cons n t r ih =>
    cases i with
    | zero => cases e; exact ⟨_, _, rfl⟩
    | succ i => exact ih e
section
variable {w : World} {dp un : Nat} {fr : Option (List Env)} {gd : Option (List Code)} {s : Shared} {p : Program} {loose : List Str} {mean : ExcName → Option Value} {mg mb : Str → Option Value} {Q : Value → Shared → Prop} {E : Value → Shared → Prop}
def tkM (m₀ : Str → Option Value) (D : Addr) (u1 u2 u3 : Option Value) : Str → Option Value := fun y => if y = ("one" : Str) then u1 else if y = ("left" : Str) then u2 else if y = ("hop" : Str) then u3 else if y = ("clock" : Str) then some (.ref D) else m₀ y
theorem tkM_one {m₀ : Str → Option Value} {D : Addr} {u1 u2 u3 v : Option Value} : updm "one" v (tkM m₀ D u1 u2 u3) = tkM m₀ D v u2 u3 := by
  funext y
  show (if y = ("one" : Str) then v else if y = ("one" : Str) then u1 else _) = if y = ("one" : Str) then v else _
  by_cases h : y = ("one" : Str)
  · rw [if_pos h, if_pos h]
  · rw [if_neg h, if_neg h, if_neg h]
theorem tkM_left {m₀ : Str → Option Value} {D : Addr} {u1 u2 u3 v : Option Value} : (fun y => if y = ("left" : Str) then v else tkM m₀ D u1 u2 u3 y) = tkM m₀ D u1 v u3 := by
  funext y
  show (if y = ("left" : Str) then v else if y = ("one" : Str) then u1 else if y = ("left" : Str) then u2 else _) = if y = ("one" : Str) then u1 else if y = ("left" : Str) then v else _
  by_cases h : y = ("left" : Str)
  · subst h; rw [if_pos rfl, if_neg (by decide), if_pos rfl]
  · rw [if_neg h, if_neg h, if_neg h]
theorem tkM_hop {m₀ : Str → Option Value} {D : Addr} {u1 u2 u3 v : Option Value} : updm "hop" v (tkM m₀ D u1 u2 u3) = tkM m₀ D u1 u2 v := by
  funext y
  show (if y = ("hop" : Str) then v else if y = ("one" : Str) then u1 else if y = ("left" : Str) then u2 else if y = ("hop" : Str) then u3 else _) = if y = ("one" : Str) then u1 else if y = ("left" : Str) then u2 else if y = ("hop" : Str) then v else _
  by_cases h : y = ("hop" : Str)
  · subst h; rw [if_pos rfl, if_neg (by decide), if_neg (by decide), if_pos rfl]
  · rw [if_neg h, if_neg h, if_neg h]
theorem News.rest {g h : Heap} {L : Addr} {a : Addr × Obj} {nx : List (Addr × Obj)} (N : News g L h (a :: nx)) : News g L h nx := fun q hq => N q (.tail _ hq)
theorem push_list (vs : List Value) (v : Value) : vs.toArray.push v = (vs ++ [v]).toArray := by simp
theorem tkM_start {m₀ : Str → Option Value} {D : Addr} (h1 : m₀ "one" = none) (h2 : m₀ "left" = none) (h3 : m₀ "hop" = none) : (fun y => if y = ("clock" : Str) then some (Value.ref D) else m₀ y) = tkM m₀ D none none none := by
  funext y
  show (if y = ("clock" : Str) then some (Value.ref D) else m₀ y) = if y = ("one" : Str) then none else if y = ("left" : Str) then none else if y = ("hop" : Str) then none else if y = ("clock" : Str) then some (Value.ref D) else m₀ y
  by_cases a1 : y = ("one" : Str)
  · subst a1; rw [if_pos rfl, if_neg (by decide), h1]
  rw [if_neg a1]
  by_cases a2 : y = ("left" : Str)
  · subst a2; rw [if_pos rfl, if_neg (by decide), h2]
  rw [if_neg a2]
  by_cases a3 : y = ("hop" : Str)
  · subst a3; rw [if_pos rfl, if_neg (by decide), h3]
  rw [if_neg a3]
theorem ticks_spec {l : Addr} {vs : List Value} {ns : List Int} (X : (hd.heap_1 w.params).In s.heap) (T : Top p loose mean mg mb s.heap) (Rm : Room (Ar dp un fr gd) 6)
   (hl : s.heap.IsList l vs.toArray) (hi : IntsAre vs ns) (hz : ns.length ≤ 63)
   (h : ∀ h' tk D vs' cs n', s.heap.StaysIn h' → s.heap.get? D = none → h'.get? D = some (listOf (List.toArray vs') n') → IntsAre vs' cs → cs.length < 100 → Q (.ref D) { s with heap := h', toks := tk }) :
   wpAny (MM w) (Ar dp un fr gd) (call (.ref 246) [.ref l]) Q E s := by
  refine wpAny_call ?_
  refine' enter_def (binds := [("script", .ref l)]) s.heap [] X T Rm (fun _ _ e => e) (Nat.le_refl _) (fun _ hq => nomatch hq) ?k6 ?k7 ?k9 ?kB ?_ ?c2 ?c3 ?c4 ?c5
  (case k6 => k_dflt k_is)
  (case k7 => k_dflt k_is)
  (case k9 => k_dflt exact BindsTo.of_eq rfl)
  (case kB => k_dflt exact locs rfl)
  (case c2 => k_dflt exact rfl)
  (case c3 => k_dflt exact rfl)
  (case c4 => k_dflt exact rfl)
  (case c5 => k_dflt decide)
  intro L h₁ Rm' F N k₁ hL
  (try dsimp only)
  (try k_fold)
  have hlen := hi.length
  k_steps
  unfold Halt
  rename Fr _ _ _ _ => F1
  rename News _ _ _ _ => N1
  rename _ < _ => l1
  rw [tkM_start (m₀ := fun y => List.lookup y [(("script" : Str), Value.ref l)].reverse) rfl rfl rfl] at F1
  rename_i D _ _ _ S _
  have F2 := F1
  have N2 : News s.heap _ _ [(S, listOf (kms_pick vs.toArray.toList none (some ((40 : Nat) : Int))).toArray 0), (D, listOf (List.toArray []) 0)] := N1
  have hDS : @LT.lt Nat _ D S := l1
  clear F1 N1 l1
  rw [pick_hi] at N2
  generalize hm0 : (fun y => List.lookup y [(("script" : Str), Value.ref l)].reverse) = m₀ at *
  have hsl : (vs.take 40).length ≤ 40 := by rw [List.length_take]; lia
  refine' loop_led (l := S) (vs := vs.take 40) (nn := 0) (J := fun i m nx => ∃ u1 u2 u3 vs' cs n', m = tkM m₀ D u1 u2 u3 ∧ nx = [(S, listOf (vs.take 40).toArray 0), (D, listOf (List.toArray vs') n')] ∧ IntsAre vs' cs ∧ cs.length ≤ 10 * i) ?hL ?hh ?hl ?F ?N ?j ?turn ?done
  case F => exact F2
  case N => exact N2
  case hL => rfl
  case hh => exact Room.hh (by assumption)
  case hl => rintro i m nx ⟨_, _, _, _, _, _, _, rfl, _⟩; exact .head _
  case j => exact ⟨_, _, _, _, [], _, rfl, rfl, .nil, by simp⟩
  case turn =>
    intro i v m₁ nx h' tk I oI hiv hne hJ F3 N3
    refine post_var fun Q8 hQ8 => ?_
    refine goal_var fun G9 hG9 => ?_
    obtain ⟨u1, u2, u3, vs', cs, n', rfl, rfl, hcs, hcl⟩ := hJ
    refine hG9 ?_
    clear hG9 G9
    rw [tkM_one] at F3
    refine goal_var fun G9 hG9 => ?_
    obtain ⟨one, t1, rfl⟩ := ints_get (ints_take hi 40) hiv
    refine hG9 ?_
    clear hG9 G9
    have hIS : @Ne Nat S I := hne _ (.head _)
    have hID : @Ne Nat D I := hne _ (.tail _ (.head _))
    have hil : i < 40 := by have := (List.getElem?_eq_some_iff.mp hiv).1; lia
    have hSD : @Ne Nat S D := Nat.ne_of_gt hDS
    have hDS' : @Ne Nat D S := Nat.ne_of_lt hDS
    k_steps
    all_goals (
      unfold Halt
      rename Fr _ _ _ _ => F9
      rename News _ _ _ _ => N9
      rename IsRange _ _ _ _ _ _ _ _ => hr9
      rw [tkM_left] at F9
      refine' loop_range (J := fun j m nx => ∃ z u3 t vs' cs n', m = tkM m₀ D (some (.int one t1)) (some (.int z t)) u3 ∧ nx = [(I, oI), (S, listOf (vs.take 40).toArray 0), (D, listOf (List.toArray vs') n')] ∧ IntsAre vs' cs ∧ cs.length ≤ 10 * i + j) ?ihL ?ihh hr9 (by decide) (by decide) ?iF ?iN ?ij ?iturn ?idone
      case iF => exact F9
      case iN => exact N9
      case ihL => rfl
      case ihh => exact Room.hh (by assumption)
      case ij => exact ⟨_, _, _, _, _, _, rfl, rfl, hcs, by lia⟩
      case iturn =>
        intro j t2 m₂ nx2 h2 tk2 I2 oI2 hj hne2 hJ2 F4 N4
        refine post_var fun Q7 hQ7 => ?_
        refine goal_var fun G9 hG9 => ?_
        obtain ⟨z, u3', t3, vs2, cs2, n2, rfl, rfl, hcs2, hcl2⟩ := hJ2
        refine hG9 ?_
        clear hG9 G9
        rw [tkM_hop] at F4
        have e1 : @Ne Nat I I2 := hne2 _ (.head _)
        have e2 : @Ne Nat S I2 := hne2 _ (.tail _ (.head _))
        have e3 : @Ne Nat D I2 := hne2 _ (.tail _ (.tail _ (.head _)))
        have hv2 := hcs2.length
        have off2 : ∀ vs9 n9, ∀ q ∈ [(I, oI), (S, listOf (vs.take 40).toArray 0), (D, listOf (List.toArray vs9) n9)], q.1 ≠ I2 := fun vs9 n9 => List.forall_mem_cons.mpr ⟨e1, List.forall_mem_cons.mpr ⟨e2, List.forall_mem_cons.mpr ⟨e3, List.forall_mem_nil _⟩⟩⟩
        k_steps
        · refine hQ7 _ _ ?_
          show wpAny _ _ (execs [] _) _ _ _
          k_steps
          rename Fr _ _ _ _ => F5
          rename News _ _ _ _ => N5
          rw [tkM_left] at F5
          rw [push_list] at N5
          exact hQ8 _ _ ⟨_, _, _, _, rfl, F5, News.rest N5, List.forall_mem_cons.mpr ⟨hIS, List.forall_mem_cons.mpr ⟨hID, List.forall_mem_nil _⟩⟩, _, _, _, vs2 ++ [.int (Int.fmod z 157) _], cs2 ++ [Int.fmod z 157], _, rfl, rfl, ints_snoc hcs2 _ _, by rw [List.length_append, List.length_singleton]; lia⟩
        · rename Fr _ _ _ _ => F5
          rename News _ _ _ _ => N5
          rw [tkM_left] at F5
          rw [push_list] at N5
          exact hQ7 _ _ ⟨_, _, _, _, rfl, F5, N5, off2 (vs2 ++ [.int (Int.fmod z 157) _]) _, _, _, _, vs2 ++ [.int (Int.fmod z 157) _], cs2 ++ [Int.fmod z 157], _, rfl, rfl, ints_snoc hcs2 _ _, by rw [List.length_append, List.length_singleton]; lia⟩
      case idone =>
        intro m₂ nx2 h2 tk2 hJ2 F4 N4
        refine goal_var fun G9 hG9 => ?_
        obtain ⟨z, u3', t3, vs2, cs2, n2, rfl, rfl, hcs2, hcl2⟩ := hJ2
        refine hG9 ?_
        clear hG9 G9
        k_steps
        exact hQ8 _ _ ⟨_, _, _, _, rfl, F4, N4, List.forall_mem_cons.mpr ⟨hIS, List.forall_mem_cons.mpr ⟨hID, List.forall_mem_nil _⟩⟩, _, _, _, _, _, _, rfl, rfl, hcs2, by lia⟩)
  case done =>
    intro m₁ nx h' tk hJ F3 N3
    refine goal_var fun G9 hG9 => ?_
    obtain ⟨u1, u2, u3, vs', cs, n', rfl, rfl, hcs, hcl⟩ := hJ
    refine hG9 ?_
    clear hG9 G9
    have hcl2 : cs.length ≤ 400 := by lia
    have hvl := hcs.length
    k_steps
    all_goals walk_at "MINE end"
    rename News _ _ _ _ => N5
    have N6 := N5
    rw [show kms_pick vs'.toArray.toList none (some 60) = vs'.take 60 from pick_hi vs' 60] at N6
    exact h _ _ _ _ _ _ (Fr.keep (by assumption)) (News.fresh N6 (.head _)) (News.get N6 (.head _)) (ints_take hcs 60) (by rw [List.length_take]; lia)
end

theorem entry_ok (kd : Kd) (ns : List Int) : OkE (entryv kd ns).1 ∧ KdE kd (entryv kd ns).1 := by
  cases kd with
  | lo =>
    have b := tickv_bd ns.tail (m := 2) (by decide)
    by_cases h : tickv ns 9 = 8
    · rw [en_lo1 h]; exact ⟨trivial, trivial⟩
    · rw [en_lo2 h]; exact ⟨show (tickv ns.tail 2).natAbs ≤ 100 by omega, trivial⟩
  | it =>
    have b := tickv_bd ns.tail (m := 30) (by decide)
    by_cases h : tickv ns 9 = 8
    · rw [en_it1 h]; exact ⟨trivial, trivial⟩
    · rw [en_it2 h]; exact ⟨show (tickv ns.tail 30 - 11).natAbs ≤ 100 by omega, trivial⟩
  | db =>
    have b := tickv_bd ns.tail (m := 50) (by decide)
    have c := tickv_bd ns.tail.tail (m := 6) (by decide)
    by_cases h : tickv ns 9 = 8
    · by_cases h2 : tickv ns.tail 2 = 0
      · rw [en_db1 h h2]; exact ⟨trivial, trivial⟩
      · rw [en_db2 h h2]; exact ⟨.inr ⟨rfl, rfl⟩, trivial⟩
    · rw [en_db3 h]
      refine goal_var fun G9 hG9 => ?_
      obtain ⟨f1, f2, f3, f4⟩ := qn_facts (tickv ns.tail 50 - 20) (d := 1 + tickv ns.tail.tail 6) (by omega)
      refine hG9 ?_
      clear hG9 G9
      have f5 := qn_abs (tickv ns.tail 50 - 20) (d := 1 + tickv ns.tail.tail 6) (by omega)
      exact ⟨.inl ⟨f1, by omega, by omega⟩, trivial⟩
/-- an entry in lowest terms -/
def RedE : En → Prop
  | .q n d => (n = 0 ∧ d = 0) ∨ (0 < d ∧ Int.gcd n d = 1)
  | _ => True
theorem entry_red (kd : Kd) (ns : List Int) : RedE (entryv kd ns).1 := by
  cases kd with
  | lo =>
    by_cases h : tickv ns 9 = 8
    · rw [en_lo1 h]; trivial
    · rw [en_lo2 h]; trivial
  | it =>
    by_cases h : tickv ns 9 = 8
    · rw [en_it1 h]; trivial
    · rw [en_it2 h]; trivial
  | db =>
    have b := tickv_bd ns.tail (m := 50) (by decide)
    have c := tickv_bd ns.tail.tail (m := 6) (by decide)
    by_cases h : tickv ns 9 = 8
    · by_cases h2 : tickv ns.tail 2 = 0
      · rw [en_db1 h h2]; trivial
      · rw [en_db2 h h2]; exact .inl ⟨rfl, rfl⟩
    · rw [en_db3 h]
      refine goal_var fun G9 hG9 => ?_
      obtain ⟨f1, f2, f3, f4⟩ := qn_facts (tickv ns.tail 50 - 20) (d := 1 + tickv ns.tail.tail 6) (by omega)
      refine hG9 ?_
      clear hG9 G9
      exact .inr ⟨f1, f3⟩
section
variable {w : World} {dp un : Nat} {fr : Option (List Env)} {gd : Option (List Code)} {s : Shared} {p : Program} {loose : List Str} {mean : ExcName → Option Value} {mg mb : Str → Option Value} {Q : Value → Shared → Prop} {E : Value → Shared → Prop}
/-- an entry asked for, the clock being a cell of the ledger -/
theorem entry_call {h₀ : Heap} {L c : Addr} {m : Str → Option Value} {pre post : List (Addr × Obj)} {vs : List Value} {ns : List Int} {nn : Nat} {kd : Kd} {u : Tok}
   (F : Fr h₀ L s.heap m) (N : News h₀ L s.heap (pre ++ (c, listOf vs.toArray nn) :: post)) (X : (hd.heap_1 w.params).In h₀) (T : Top p loose mean mg mb h₀) (Rm : Room (Ar dp un fr gd) 6)
   (h1 : ∀ q ∈ pre, q.1 ≠ c) (h2 : ∀ q ∈ post, q.1 ≠ c) (hi : IntsAre vs ns) (hl : ns.length < 100)
   (h : ∀ h' tk v vs' n' own, IntsAre vs' (entryv kd ns).2 → (entryv kd ns).2.length < 100 → Fr h₀ L h' m → News h₀ L h' (pre ++ (c, listOf (List.toArray vs') n') :: (own ++ post)) → EnIn h₀ own v (entryv kd ns).1 →
      (∀ q ∈ own, (∀ b ∈ pre ++ (c, listOf vs.toArray nn) :: post, b.1 ≠ q.1)) → Q v { s with heap := h', toks := tk }) :
   wpAny (MM w) (Ar dp un fr gd) (call (.ref 267) [.ref c, .str (kS kd) u]) Q E s := by
  have Nc := N (c, listOf vs.toArray nn) (by simp)
  refine entry_spec X T F.keep Nc.2.2 Rm Nc.1 hi hl ?_
  intro h' tk v vs' n' hk hi' hl' hc' hv
  have F' := but_fr F Nc.2.2 Nc.2.1 hk
  have Npre := but_news (fun q hq => N q (List.mem_append_left _ hq)) hk h1
  have Npost := but_news (fun q hq => N q (List.mem_append_right _ (.tail _ hq))) hk h2
  have done : ∀ own : List (Addr × Obj), News h₀ L h' own → EnIn h₀ own v (entryv kd ns).1 → (∀ q ∈ own, (∀ b ∈ pre ++ (c, listOf vs.toArray nn) :: post, b.1 ≠ q.1)) → Q v { s with heap := h', toks := tk } := fun own No he hn => by
    refine h h' tk v vs' n' own hi' hl' F' (fun q hq => ?_) he hn
    rcases List.mem_append.mp hq with hq | hq
    · exact Npre q hq
    · rcases List.mem_cons.mp hq with rfl | hq
      · exact ⟨hc', Nc.2⟩
      · rcases List.mem_append.mp hq with hq | hq
        · exact No q hq
        · exact Npost q hq
  generalize (entryv kd ns).1 = e at *
  cases e with
  | no => exact done [] (fun q hq => by cases hq) hv (fun q hq => by cases hq)
  | i k => exact done [] (fun q hq => by cases hq) hv (fun q hq => by cases hq)
  | q n d =>
    refine goal_var fun G9 hG9 => ?_
    obtain ⟨a, t, u, rfl, ha, ho⟩ := hv
    refine hG9 ?_
    clear hG9 G9
    refine done [(a, tupO [.int n t, .int d u])] (fun q hq => ?_) (.new (.head _)) fun q hq => ?_
    · rw [List.mem_singleton.mp hq]
      exact ⟨ho, fr_new F ha⟩
    · rw [List.mem_singleton.mp hq]
      exact news_lt F N ha
end

section
theorem reads_en {h : Heap} {v : Value} : ∀ {e : En}, EnAt h v e → ∃ as, Reads h v (enP e) as
  | .no, x => ⟨[], by obtain rfl := x; exact .none⟩
  | .i k, x => ⟨[], by obtain ⟨t, rfl⟩ := x; exact .int k t⟩
  | .q n d, x => by
    obtain ⟨a, t, u, rfl, o, ho, hc, k, hd⟩ := x
    exact ⟨_, .tuple ho hc hd (.cons (.int n t) (.cons (.int d u) .nil))⟩
theorem reads_ens {h : Heap} : ∀ {vs : List Value} {es : List En}, EnsAt h vs es → ∃ as, ReadsAll h vs (es.map enP) as
  | _, _, .nil => ⟨[], .nil⟩
  | _, _, .cons x r => by
    obtain ⟨as, ha⟩ := reads_en x
    obtain ⟨bs, hb⟩ := reads_ens r
    exact ⟨_, .cons ha hb⟩
theorem reads_lst {h : Heap} {l : Addr} {vs : List Value} {es : List En} (hl : h.IsList l vs.toArray) (hv : EnsAt h vs es) : ∃ as, Reads h (.ref l) (.list (es.map enP)) as := by
  obtain ⟨o, ho, hc, n, hd⟩ := hl
  obtain ⟨as, ha⟩ := reads_ens hv
  exact ⟨_, .list ho hc hd ha⟩
theorem can_en (e : En) : (enP e).canLay0 = true := by cases e <;> simp [enP, PyData.canLay0, PyData.canLayAll0]
theorem can_ens : ∀ es : List En, PyData.canLayAll0 (es.map enP) = true
  | [] => rfl
  | e :: r => by rw [List.map_cons, PyData.canLayAll0, can_en, can_ens r]; rfl
theorem depth_en (e : En) : (enP e).depth ≤ 2 := by cases e <;> simp [enP, PyData.depth, PyData.depthAll]
theorem depth_ens : ∀ es : List En, PyData.depthAll (es.map enP) ≤ 2
  | [] => by simp [PyData.depthAll]
  | e :: r => by
    rw [List.map_cons, PyData.depthAll]
    have h1 := depth_en e
    have h2 := depth_ens r
    lia
theorem shaped_en (e : En) : SeqAt.shaped (enP e) = true := by
  unfold SeqAt.shaped
  rw [can_en, Bool.true_and]
  exact decide_eq_true (Nat.le_trans (depth_en e) (by decide))
theorem shaped_ens (es : List En) : SeqAt.shaped (.list (es.map enP)) = true := by
  unfold SeqAt.shaped
  rw [PyData.canLay0, can_ens, Bool.true_and]
  refine decide_eq_true ?_
  rw [PyData.depth]
  have := depth_ens es
  lia
theorem eqv_en : ∀ a b : En, PyData.eqv (enP a) (enP b) = decide (a = b)
  | .no, .no => by rw [decide_eq_true (rfl : En.no = En.no)]; rfl
  | .no, .i k => by rw [decide_eq_false (by nofun)]; rfl
  | .no, .q n d => by rw [decide_eq_false (by nofun)]; rfl
  | .i k, .no => by rw [decide_eq_false (by nofun)]; rfl
  | .i k, .i j => by
    show (k == j) = decide (En.i k = En.i j)
    by_cases h : k = j
    · subst h; rw [decide_eq_true rfl]; exact beq_self_eq_true k
    · rw [decide_eq_false (fun q => h (by injection q))]; exact beq_eq_false_iff_ne.mpr h
  | .i k, .q n d => by rw [decide_eq_false (by nofun)]; rfl
  | .q n d, .no => by rw [decide_eq_false (by nofun)]; rfl
  | .q n d, .i k => by rw [decide_eq_false (by nofun)]; rfl
  | .q n d, .q n' d' => by
    have e : PyData.eqv (enP (.q n d)) (enP (.q n' d')) = ((n == n') && ((d == d') && true)) := by
      rw [enP, enP, PyData.eqv, PyData.eqvAll, PyData.eqvAll, PyData.eqvAll, PyData.eqv, PyData.eqv]
    rw [e]
    by_cases h : n = n'
    · by_cases h2 : d = d'
      · subst h; subst h2; rw [decide_eq_true rfl, beq_self_eq_true, beq_self_eq_true]; rfl
      · rw [decide_eq_false (fun q => h2 (by injection q)), beq_eq_false_iff_ne.mpr h2, Bool.false_and, Bool.and_false]
    · rw [decide_eq_false (fun q => h (by injection q)), beq_eq_false_iff_ne.mpr h, Bool.false_and]
theorem eqv_ens : ∀ as bs : List En, PyData.eqvAll (as.map enP) (bs.map enP) = decide (as = bs)
  | [], [] => by simp [PyData.eqvAll]
  | [], b :: r => by simp [PyData.eqvAll]
  | a :: r, [] => by simp [PyData.eqvAll]
  | a :: r, b :: r' => by
    rw [List.map_cons, List.map_cons, PyData.eqvAll, eqv_en, eqv_ens r r', Bool.eq_iff_iff]
    simp
variable {w : World} {A : Around} {E : Value → Shared → Prop} {s : Shared} {Q : Value → Shared → Prop}
theorem ne_lsts {l l' : Addr} {vs vs' : List Value} {es es' : List En} (h1 : s.heap.IsList l vs.toArray) (h2 : EnsAt s.heap vs es) (h3 : s.heap.IsList l' vs'.toArray) (h4 : EnsAt s.heap vs' es') (hu : A.units + 64 < cLine)
    (h : Q (.bool (!decide (es = es'))) s) : wpAny (MM w) A (compareOp .NotEq (.ref l) (.ref l')) Q E s := by
  obtain ⟨as, ra⟩ := reads_lst h1 h2
  obtain ⟨bs, rb⟩ := reads_lst h3 h4
  refine ne_dataH ra rb (shaped_ens _) (shaped_ens _) hu ?_
  rw [PyData.eqv, eqv_ens]
  exact h
theorem eq_lsts {l l' : Addr} {vs vs' : List Value} {es es' : List En} (h1 : s.heap.IsList l vs.toArray) (h2 : EnsAt s.heap vs es) (h3 : s.heap.IsList l' vs'.toArray) (h4 : EnsAt s.heap vs' es') (hu : A.units + 64 < cLine)
    (h : Q (.bool (decide (es = es'))) s) : wpAny (MM w) A (compareOp .Eq (.ref l) (.ref l')) Q E s := by
  obtain ⟨as, ra⟩ := reads_lst h1 h2
  obtain ⟨bs, rb⟩ := reads_lst h3 h4
  refine eq_dataH ra rb (shaped_ens _) (shaped_ens _) hu ?_
  rw [PyData.eqv, eqv_ens]
  exact h
theorem ne_ens {v v' : Value} {e e' : En} (h1 : EnAt s.heap v e) (h2 : EnAt s.heap v' e') (hu : A.units + 64 < cLine) (h : Q (.bool (!decide (e = e'))) s) : wpAny (MM w) A (compareOp .NotEq v v') Q E s := by
  obtain ⟨as, ra⟩ := reads_en h1
  obtain ⟨bs, rb⟩ := reads_en h2
  refine ne_dataH ra rb (shaped_en _) (shaped_en _) hu ?_
  rw [eqv_en]
  exact h
theorem eq_ens {v v' : Value} {e e' : En} (h1 : EnAt s.heap v e) (h2 : EnAt s.heap v' e') (hu : A.units + 64 < cLine) (h : Q (.bool (decide (e = e'))) s) : wpAny (MM w) A (compareOp .Eq v v') Q E s := by
  obtain ⟨as, ra⟩ := reads_en h1
  obtain ⟨bs, rb⟩ := reads_en h2
  refine eq_dataH ra rb (shaped_en _) (shaped_en _) hu ?_
  rw [eqv_en]
  exact h
end

/-- the ledger of the law: the table of places, the cell of kind, and all the rest, which is K -/
structure Lump (g : Heap) (L c : Addr) (oK : Obj) (ps : Array Value) (h : Heap) (nx : List (Addr × Obj)) (K : Heap) : Prop where
  news : News g L h ((203, tabObj ps) :: (c, oK) :: nx)
  kp : Kp g nx K
  tabP : TabP K ps
  kL : K.get? L = none
  k2 : K.get? 203 = none
  kc : K.get? c = none
  n2 : ∀ q ∈ nx, q.1 ≠ 203
  nc : ∀ q ∈ nx, q.1 ≠ c
theorem relump {g h : Heap} {L c : Addr} {oK : Obj} {ps : Array Value} {m : Str → Option Value} {v : Option Value} (F : Fr g L h m) (h2 : h.get? 203 = some (tabObj ps)) (g2 : g.get? 203 = none) (hp : TabP h ps) (hc : h.get? c = some oK) (gc : g.get? c = none) (hcL : c ≠ L) (hoK : oK.data = .cell v) :
    ∃ nx K, Lump g L c oK ps h nx K ∧ (∀ a o, h.get? a = some o → a ≠ L → (∀ vs, o.data ≠ .fields vs) → (∀ v, o.data ≠ .cell v) → K.get? a = some o) ∧ (∀ K₀ : Heap, K₀.StaysIn h → K₀.get? L = none → K₀.get? 203 = none → K₀.get? c = none → K₀.StaysIn K) ∧ K.StaysIn h ∧
      (∀ l its, h.IsList l its → K.IsList l its) ∧ (∀ vs es, EnsAt h vs es → EnsAt K vs es) := by
  obtain ⟨oL, es, ep, hL, hdL, r⟩ := id F.ns
  have h2L : (203 : Addr) ≠ L := fun z => by rw [z, hL] at h2; cases h2; cases hdL
  have N : News g L h [(203, tabObj ps), (c, oK)] := List.forall_mem_cons.mpr ⟨⟨h2, h2L, g2⟩, List.forall_mem_cons.mpr ⟨⟨hc, hcL, gc⟩, List.forall_mem_nil _⟩⟩
  obtain ⟨nx, K, N6, hnx, kp, hk, hKL, hKc, hKs⟩ := kp_make F N
  have hcs : ∀ q ∈ [(203, tabObj ps), (c, oK)], h.get? q.1 = some q.2 ∧ CellOk q.2 := List.forall_mem_cons.mpr ⟨⟨h2, cellok_tab hp⟩, List.forall_mem_cons.mpr ⟨⟨hc, cellok_cell hoK⟩, List.forall_mem_nil _⟩⟩
  have hcs2 : ∀ q ∈ [(203, tabObj ps), (c, oK)], h.get? q.1 = some q.2 ∧ ∀ its n, q.2.data ≠ .seq its n := List.forall_mem_cons.mpr ⟨⟨h2, by nofun⟩, List.forall_mem_cons.mpr ⟨⟨hc, fun _ _ e => by rw [hoK] at e; cases e⟩, List.forall_mem_nil _⟩⟩
  refine ⟨nx, K, ⟨N6, kp, tab_to F.ns hk hcs hp, hKL, hKc _ (.head _), hKc _ (.tail _ (.head _)), fun q hq => hnx q hq _ (.head _), fun q hq => hnx q hq _ (.tail _ (.head _))⟩, fun a o ho ha p q => ?_, fun K₀ s a b d x o e => ?_, hKs, fun l its x => list_to2 F.ns hk hcs2 x, fun vs es x => ens_to F.ns hk hcs x⟩
  · refine hk a o ho ha (List.forall_mem_cons.mpr ⟨fun z => ?_, List.forall_mem_cons.mpr ⟨fun z => ?_, List.forall_mem_nil _⟩⟩)
    · rw [z] at ho; rw [show h.get? (203, tabObj ps).1 = some (tabObj ps) from h2] at ho; cases ho; exact p _ rfl
    · rw [z] at ho; rw [show h.get? (c, oK).1 = some oK from hc] at ho; cases ho; exact q _ hoK
  · refine hk x o (s x o e) (fun z => ?_) (List.forall_mem_cons.mpr ⟨fun z => ?_, List.forall_mem_cons.mpr ⟨fun z => ?_, List.forall_mem_nil _⟩⟩)
    · rw [z, a] at e; cases e
    · have z : x = 203 := z
      rw [z, b] at e; cases e
    · have z : x = c := z
      rw [z, d] at e; cases e
theorem Lump.stays {g L c oK ps h nx K} (l : Lump g L c oK ps h nx K) {m : Str → Option Value} (F : Fr g L h m) : K.StaysIn h := l.kp.stays h F.keep fun q hq => (l.news q (.tail _ (.tail _ hq))).1
/-- a part of the heap without the names of the law's frame and without the table of places -/
theorem gr_make {g h : Heap} {L : Addr} {m : Str → Option Value} (F : Fr g L h m) (g2 : g.get? 203 = none) :
    g.StaysIn (hideAll [203, L] h) ∧ (hideAll [203, L] h).StaysIn h ∧ (hideAll [203, L] h).get? 203 = none ∧ (hideAll [203, L] h).get? L = none ∧ (hideAll [203, L] h).objs.size ≤ h.objs.size ∧ ∀ K : Heap, K.StaysIn h → K.get? L = none → K.get? 203 = none → K.StaysIn (hideAll [203, L] h) := by
  have hin : ∀ K : Heap, K.StaysIn h → K.get? L = none → K.get? 203 = none → K.StaysIn (hideAll [203, L] h) := fun K s a b x o e =>
    hideAll_to (s x o e) fun hm => by
      rcases List.mem_cons.mp hm with z | hm
      · rw [z, b] at e; cases e
      · rw [List.mem_singleton.mp hm, a] at e; cases e
  have hno : ∀ {a}, a ∈ [203, L] → (hideAll [203, L] h).get? a = none := fun {a} hm => by
    cases q : (hideAll [203, L] h).get? a with
    | none => rfl
    | some o => exact absurd hm (hideAll_of q).2
  have gL : g.get? L = none := Heap.get?_none_of_le F.above
  refine ⟨hin g F.keep gL g2, fun a o e => (hideAll_of e).1, hno (.head _), hno (.tail _ (.head _)), ?_, hin⟩
  unfold hideAll hideAll hideAll
  rw [Heap.hide_size, Heap.hide_size]
  exact Nat.le_refl _

theorem toList_self (ys : List Value) : ys.toArray.toList = ys := rfl
--REG
local macro_rules | `(tactic| walk_at "call type:list") => `(tactic| (k_here; (with_reducible show wpAny _ _ (call (Value.type _) [Value.ref _]) _ _ _); k_dflt (refine' kup_listOf ?F ?N ?b ?e ?_ ?z; (case F => k_asm); (case N => k_asm); (case b => k_mem); (case e => exact toList_self _); (case z => (rw [toList_self, sizeLine_eq]; omega)); k_whole); intro D' c' h' F' N' l1; (try k_lt l1); (try k_sweep)))
local macro_rules | `(tactic| walk_at "MINE perm") => `(tactic| ((rename News _ _ _ _ => N9); intro q9 h9; refine N9 q9 ?_; revert h9; revert q9; walk_at "MINE sub"))
--END
/-- a share asked for, in eighths -/
def e8 (z : Int) : En := if z = 12 then .no else .i (z - 1)
/-- a share -/
def sh8 (z : Int) : En := if z = 12 then .no else .q (qn (z - 1) 8) (qd (z - 1) 8)
theorem ints_getD {vs : List Value} {ns : List Int} (h : IntsAre vs ns) {i : Nat} {v : Value} (e : vs[i]? = some v) : ∃ n t, v = .int n t ∧ ns[i]? = some n := by
  induction h generalizing i with
  | nil => simp at e
  | cons n t r ih =>
    cases i with
    | zero => cases e; exact ⟨_, _, rfl, rfl⟩
    | succ i => exact ih e
theorem lack_q {n d : Int} : lack (.q n d) = decide (En.q n d = .q 0 0) := by
  show decide (n = 0 ∧ d = 0) = _
  by_cases h : n = 0 ∧ d = 0
  · rw [decide_eq_true h, h.1, h.2, decide_eq_true rfl]
  · rw [decide_eq_false h, decide_eq_false (fun q => h (by injection q with a b; exact ⟨a, b⟩))]
theorem mem_to {h K : Heap} {cs : List (Addr × Obj)} {L a : Addr} {o : Obj} (hk : ∀ a o, h.get? a = some o → a ≠ L → (∀ c ∈ cs, a ≠ c.1) → K.get? a = some o) (ho : h.get? a = some o) (hL : a ≠ L) (hcs : ∀ c ∈ cs, h.get? c.1 = some c.2 ∧ c.2 ≠ o) : K.get? a = some o :=
  hk a o ho hL fun c hc z => by
    have := hcs c hc
    rw [← z, ho] at this
    exact this.2 (Option.some.inj this.1).symm
theorem off_swap {P : Addr → Prop} {D : Addr} {o o' : Obj} {pre post : List (Addr × Obj)} (h : ∀ q ∈ pre ++ (D, o) :: post, P q.1) : ∀ q ∈ pre ++ (D, o') :: post, P q.1 := fun q hq => by
  rcases List.mem_append.mp hq with hq | hq
  · exact h q (List.mem_append_left _ hq)
  · rcases List.mem_cons.mp hq with e | hq
    · rw [e]; exact h (D, o) (List.mem_append_right _ (.head _))
    · exact h q (List.mem_append_right _ (.tail _ hq))
/-- a ledger without the entries of D -/
def offD (D : Addr) (nx : List (Addr × Obj)) : List (Addr × Obj) := nx.filter fun q => decide (q.1 ≠ D)
theorem offD_ne {D : Addr} {nx : List (Addr × Obj)} : ∀ q ∈ offD D nx, q.1 ≠ D := fun q hq => of_decide_eq_true (List.mem_filter.mp hq).2
theorem offD_sub {D : Addr} {nx : List (Addr × Obj)} : ∀ q ∈ offD D nx, q ∈ nx := fun q hq => (List.mem_filter.mp hq).1
theorem offD_mem {D : Addr} {nx : List (Addr × Obj)} {q : Addr × Obj} (h : q ∈ nx) (hn : q.1 ≠ D) : q ∈ offD D nx := List.mem_filter.mpr ⟨h, decide_eq_true hn⟩
theorem en_off {g h : Heap} {L D : Addr} {nx : List (Addr × Obj)} {o : Obj} (N : News g L h nx) (hD : (D, o) ∈ nx) (ho : CellOk o) {v : Value} : ∀ {e : En}, EnIn g nx v e → EnIn g (offD D nx) v e
  | .no, x => x
  | .i _, x => x
  | .q _ _, ⟨a, ob, e, ⟨t, u, k, hc, hd⟩, x⟩ => ⟨a, ob, e, ⟨t, u, k, hc, hd⟩, x.imp id fun hm => offD_mem hm fun z => by
      have h1 := (N _ hm).1
      have h2 := (N _ hD).1
      rw [show (a, ob).1 = (D, o).1 from z, h2] at h1
      cases h1
      exact ho.1 _ _ hd hc⟩
theorem ens_off {g h : Heap} {L D : Addr} {nx : List (Addr × Obj)} {o : Obj} (N : News g L h nx) (hD : (D, o) ∈ nx) (ho : CellOk o) {vs : List Value} {es : List En} (x : EnsIn g nx vs es) : EnsIn g (offD D nx) vs es := pd_imp (fun _ _ y => en_off N hD ho y) x
theorem news_of {g h : Heap} {L : Addr} {nx l : List (Addr × Obj)} (N : News g L h nx) (hs : ∀ q ∈ l, q ∈ nx) : News g L h l := fun q hq => N q (hs q hq)
theorem execs_append {env : Env} (r : List Stmt) : ∀ l : List Stmt, execs (l ++ r) env = (execs l env >>= fun f => match f with | .next => execs r env | f => pure f)
  | [] => by
    show execs r env = (pure Flow.next >>= fun f => match f with | .next => execs r env | f => pure f)
    rw [pure_bind]
  | a :: l => by
    show execs (a :: (l ++ r)) env = _
    rw [execs_cons, execs_cons, bind_assoc]
    congr 1
    funext f
    cases f with
    | next => exact execs_append r l
    | ret v => dsimp only; rw [pure_bind]
    | brk => dsimp only; rw [pure_bind]
    | cont => dsimp only; rw [pure_bind]
section
variable {w : World} {A : Around} {E : Value → Shared → Prop} {s : Shared} {env : Env} {Q : Flow → Shared → Prop}
theorem cutL (l r : List Stmt) (I : Shared → Prop) (h : wpAny (MM w) A (execs l env) (fun f s' => match f with | .next => I s' | f => Q f s') E s) (h2 : ∀ s', I s' → wpAny (MM w) A (execs r env) Q E s') : wpAny (MM w) A (execs (l ++ r) env) Q E s := by
  rw [execs_append]
  refine wpAny_bind (wpAny_mono h (fun f s' q => ?_) fun _ _ q => q)
  cases f with
  | next => exact h2 s' q
  | ret v => exact wpAny_pure q
  | brk => exact wpAny_pure q
  | cont => exact wpAny_pure q
theorem cut2 {a b : Stmt} {r : List Stmt} (I : Shared → Prop) (h : wpAny (MM w) A (execs [a, b] env) (fun f s' => match f with | .next => I s' | f => Q f s') E s) (h2 : ∀ s', I s' → wpAny (MM w) A (execs r env) Q E s') : wpAny (MM w) A (execs (a :: b :: r) env) Q E s := cutL [a, b] r I h h2
theorem cut1 {a : Stmt} {r : List Stmt} (I : Shared → Prop) (h : wpAny (MM w) A (execs [a] env) (fun f s' => match f with | .next => I s' | f => Q f s') E s) (h2 : ∀ s', I s' → wpAny (MM w) A (execs r env) Q E s') : wpAny (MM w) A (execs (a :: r) env) Q E s := cutL [a] r I h h2
end
theorem with_room {M : Model} {α : Type} {A : Around} {E : Value → Shared → Prop} {s : Shared} {n : Nat} {m : Sem α} {Q : α → Shared → Prop} (R : Room A n) (h : Room A n → wpAny M A m Q E s) : wpAny M A m Q E s := h R
/-- a state on the way through the law -/
def LawSt (g : Heap) (L : Addr) (P : (Str → Option Value) → List (Addr × Obj) → Heap → Prop) (gn : Array GenState) (dw : Drawn) (os : OsState) (s' : Shared) : Prop := ∃ h tk m nx, s' = ⟨h, gn, dw, tk, os⟩ ∧ Fr g L h m ∧ News g L h nx ∧ P m nx h
theorem cutS {w : World} {A : Around} {E : Value → Shared → Prop} {hp : Heap} {gn : Array GenState} {dw : Drawn} {tk0 : Nat} {os : OsState} {env : Env} {Q : Flow → Shared → Prop} {g : Heap} {L : Addr} {m₀ : Str → Option Value} (P : (Str → Option Value) → List (Addr × Obj) → Heap → Prop) (l r : List Stmt) (F : Fr g L hp m₀)
    (h : wpAny (MM w) A (execs l env) (fun f s' => match f with | .next => LawSt g L P gn dw os s' | f => Q f s') E ⟨hp, gn, dw, tk0, os⟩)
    (h2 : ∀ h tk m nx, Fr g L h m → News g L h nx → P m nx h → wpAny (MM w) A (execs r env) Q E ⟨h, gn, dw, tk, os⟩) : wpAny (MM w) A (execs (l ++ r) env) Q E ⟨hp, gn, dw, tk0, os⟩ :=
  cutL l r (LawSt g L P gn dw os) h fun s' ⟨h, tk, m, nx, e, F, N, p⟩ => by subst e; exact h2 h tk m nx F N p
theorem cutS1 {w : World} {A : Around} {E : Value → Shared → Prop} {hp : Heap} {gn : Array GenState} {dw : Drawn} {tk0 : Nat} {os : OsState} {env : Env} {Q : Flow → Shared → Prop} {g : Heap} {L : Addr} {m₀ : Str → Option Value} {a : Stmt} {r : List Stmt} (F : Fr g L hp m₀) (P : (Str → Option Value) → List (Addr × Obj) → Heap → Prop)
    (h : wpAny (MM w) A (execs [a] env) (fun f s' => match f with | .next => LawSt g L P gn dw os s' | f => Q f s') E ⟨hp, gn, dw, tk0, os⟩)
    (h2 : ∀ h tk m nx, Fr g L h m → News g L h nx → P m nx h → wpAny (MM w) A (execs r env) Q E ⟨h, gn, dw, tk, os⟩) : wpAny (MM w) A (execs (a :: r) env) Q E ⟨hp, gn, dw, tk0, os⟩ := cutS P [a] r F h h2
theorem cutS2 {w : World} {A : Around} {E : Value → Shared → Prop} {hp : Heap} {gn : Array GenState} {dw : Drawn} {tk0 : Nat} {os : OsState} {env : Env} {Q : Flow → Shared → Prop} {g : Heap} {L : Addr} {m₀ : Str → Option Value} {a b : Stmt} {r : List Stmt} (F : Fr g L hp m₀) (P : (Str → Option Value) → List (Addr × Obj) → Heap → Prop)
    (h : wpAny (MM w) A (execs [a, b] env) (fun f s' => match f with | .next => LawSt g L P gn dw os s' | f => Q f s') E ⟨hp, gn, dw, tk0, os⟩)
    (h2 : ∀ h tk m nx, Fr g L h m → News g L h nx → P m nx h → wpAny (MM w) A (execs r env) Q E ⟨h, gn, dw, tk, os⟩) : wpAny (MM w) A (execs (a :: b :: r) env) Q E ⟨hp, gn, dw, tk0, os⟩ := cutS P [a, b] r F h h2
theorem list_name {P : Prop} {g : Heap} {l : Addr} {vs : Array Value} (h : g.IsList l vs) (k : ∀ a, a = l → P) : P := k l rfl
theorem callerA_is : callerA = Ar (1 + claimMargin) 4 (some []) (some []) := rfl
theorem room_caller : Room (Ar (1 + claimMargin) 4 (some []) (some [])) 41 := ⟨rfl, by decide, by decide⟩
theorem law_post {M : Model} {α : Type} {A : Around} {E : Value → Shared → Prop} {s : Shared} {g : Heap} {m : Sem α} {Q : α → Shared → Prop} {L : Addr} {mm : Str → Option Value} (F : Fr g L s.heap mm) (v : α)
    (hq : ∀ h' tk ps', g.StaysIn h' → h'.get? 203 = some (tabObj ps') → TabP h' ps' → Q v { s with heap := h', toks := tk })
    (h : ∀ Q' : α → Shared → Prop, (∀ h' tk ps', g.StaysIn h' → h'.get? 203 = some (tabObj ps') → TabP h' ps' → Q' v { s with heap := h', toks := tk }) → ∀ E', wpAny M A m Q' E' s) : wpAny M A m Q E s := h Q hq E
/-- a state on the way through the law, in facts of the heap: what the part K holds stands, beside the table of places and the cell of kind -/
def LawK (g : Heap) (L c : Addr) (oK : Obj) (K : Heap) (R : (Str → Option Value) → Heap → Prop) (gn : Array GenState) (dw : Drawn) (os : OsState) (s' : Shared) : Prop :=
  ∃ h tk m ps, s' = ⟨h, gn, dw, tk, os⟩ ∧ Fr g L h m ∧ h.get? 203 = some (tabObj ps) ∧ TabP h ps ∧ h.get? c = some oK ∧ K.StaysIn h ∧ R m h
/-- what a new lump takes over from the heap -/
structure Over (h K' : Heap) (L : Addr) : Prop where
  obj : ∀ {a o}, h.get? a = some o → a ≠ L → (∀ vs, o.data ≠ .fields vs) → (∀ v, o.data ≠ .cell v) → K'.get? a = some o
  lst : ∀ {l its}, h.IsList l its → K'.IsList l its
  ens : ∀ {vs es}, EnsAt h vs es → EnsAt K' vs es
  stays : K'.StaysIn h
theorem lawcut {w : World} {A : Around} {E : Value → Shared → Prop} {hp : Heap} {gn : Array GenState} {dw : Drawn} {tk0 : Nat} {os : OsState} {env : Env} {Q : Flow → Shared → Prop} {g K : Heap} {L c : Addr} {m₀ : Str → Option Value} {a : Stmt} {r : List Stmt} {oK : Obj} {v : Option Value}
    (F : Fr g L hp m₀) (g2 : g.get? 203 = none) (gc : g.get? c = none) (hcL : c ≠ L) (hoK : oK.data = .cell v) (kL : K.get? L = none) (k2 : K.get? 203 = none) (kc : K.get? c = none) (R : (Str → Option Value) → Heap → Prop)
    (h : wpAny (MM w) A (execs [a] env) (fun f s' => match f with | .next => LawK g L c oK K R gn dw os s' | f => Q f s') E ⟨hp, gn, dw, tk0, os⟩)
    (h2 : ∀ h tk m ps nx K', Fr g L h m → Lump g L c oK ps h nx K' → K.StaysIn K' → R m h → Over h K' L → wpAny (MM w) A (execs r env) Q E ⟨h, gn, dw, tk, os⟩) : wpAny (MM w) A (execs (a :: r) env) Q E ⟨hp, gn, dw, tk0, os⟩ :=
  cutL [a] r (LawK g L c oK K R gn dw os) h fun s' ⟨h, tk, m, ps, e, F', t2, tP, hc, hK, x⟩ => by
    subst e
    obtain ⟨nx, K', l, h1, h3, h4, h5, h6⟩ := relump F' t2 g2 tP hc gc hcL hoK
    exact h2 h tk m ps nx K' F' l (h3 K hK kL k2 kc) x ⟨fun {a o} => h1 a o, fun {l its} => h5 l its, fun {vs es} => h6 vs es, h4⟩
theorem lst_keep {h h' : Heap} {l : Addr} {its : Array Value} (x : h.IsList l its) (st : h.StaysIn h') : h'.IsList l its := x.at fun o e => st _ o e
theorem off203 {L : Nat} (h : 203 < L) : (L + 1 + 1) ∉ [203, L] := by simp; lia
theorem off_any {es : List En} (h : es.filter lack ≠ []) : es.any lack = true := by
  cases q : es.any lack with
  | true => rfl
  | false => exact absurd (List.filter_eq_nil_iff.mpr (List.any_eq_false.mp q)) h
/-- what lies in the part K: the vector v, the list handed, eighths and shares -/
structure LF (w : World) (kd : Kd) (u : Tok) (V l2 H G8 S : Addr) (ys gs ss : List Value) (es : List En) (zs : List Int) (K : Heap) : Prop where
  v : VecAt w.params K V (.str (kS kd) u) (.ref l2)
  l : K.IsList l2 ys.toArray
  hH : K.IsList H ys.toArray
  h8 : K.IsList G8 gs.toArray
  hS : K.IsList S ss.toArray
  e : EnsAt K ys es
  s : EnsAt K ss (zs.map sh8)
  g : EnsAt K gs (zs.map e8)
theorem LF.keeps {w : World} {kd : Kd} {u : Tok} {V l2 H G8 S : Addr} {ys gs ss : List Value} {es : List En} {zs : List Int} {K K' : Heap} (x : LF w kd u V l2 H G8 S ys gs ss es zs K) (st : K.StaysIn K') : LF w kd u V l2 H G8 S ys gs ss es zs K' :=
  ⟨x.v.keeps st, lst_keep x.l st, lst_keep x.hH st, lst_keep x.h8 st, lst_keep x.hS st, x.e.keeps st, x.s.keeps st, x.g.keeps st⟩
/-- the names at the row -/
def mB (H V G8 S lA : Addr) (B0 : Addr) : Str → Option Value := fun y => if y = ("absent" : Str) then some (Value.ref B0) else if y = ("shares" : Str) then some (Value.ref S) else if y = ("eighths" : Str) then some (Value.ref G8) else if y = ("v" : Str) then some (Value.ref V) else if y = ("handed" : Str) then some (Value.ref H) else if y = ("script" : Str) then some (Value.ref lA) else none
theorem Over.vec {P : Params} {g h K' : Heap} {L x : Addr} {m : Str → Option Value} {kv iv : Value} (ov : Over h K' L) (F : Fr g L h m) (hm : m "kind" = none) (V : VecAt P h x kv iv) : VecAt P K' x kv iv := by
  refine goal_var fun G9 hG9 => ?_
  obtain ⟨dx, t1, t2, t3, t4, t5, hx, hdx⟩ := V
  obtain ⟨oL, es, ep, hL, hdL, hsk, hf⟩ := F.ns
  refine hG9 ?_
  clear hG9 G9
  refine ⟨dx, t1, t2, t3, t4, t5, ov.obj hx (fun z => ?_) nofun nofun, ov.obj hdx (fun z => ?_) nofun nofun⟩
  · rw [z, hL] at hx; cases hx; cases hdL
  · rw [z, hL] at hdx; cases hdx; cases hdL
    have := hf "kind"
    rw [hm] at this
    exact absurd (this.symm.trans (show nsFind _ _ = some kv from rfl)) (by nofun)
/-- the vector left over: its list and its items -/
structure Lft (w : World) (kd : Kd) (u : Tok) (X l : Addr) (vs : List Value) (fs : List En) (K : Heap) : Prop where
  v : VecAt w.params K X (.str (kS kd) u) (.ref l)
  l : K.IsList l vs.toArray
  e : EnsAt K vs fs
theorem Lft.keeps {w : World} {kd : Kd} {u : Tok} {X l : Addr} {vs : List Value} {fs : List En} {K K' : Heap} (x : Lft w kd u X l vs fs K) (st : K.StaysIn K') : Lft w kd u X l vs fs K' := ⟨x.v.keeps st, lst_keep x.l st, x.e.keeps st⟩
theorem relump2 {g h K : Heap} {L c : Addr} {oK : Obj} {ps : Array Value} {m : Str → Option Value} {v : Option Value} (F : Fr g L h m) (h2 : h.get? 203 = some (tabObj ps)) (g2 : g.get? 203 = none) (hp : TabP h ps) (hc : h.get? c = some oK) (gc : g.get? c = none) (hcL : c ≠ L) (hoK : oK.data = .cell v)
    (hK : K.StaysIn h) (kL : K.get? L = none) (k2 : K.get? 203 = none) (kc : K.get? c = none) :
    ∃ nx K', Lump g L c oK ps h nx K' ∧ Over h K' L ∧ K.StaysIn K' := by
  obtain ⟨nx, K', l, h1, h3, h4, h5, h6⟩ := relump F h2 g2 hp hc gc hcL hoK
  exact ⟨nx, K', l, ⟨fun {a o} => h1 a o, fun {l its} => h5 l its, fun {vs es} => h6 vs es, h4⟩, h3 K hK kL k2 kc⟩
theorem Over.lft {w : World} {kd : Kd} {u : Tok} {X l : Addr} {vs : List Value} {fs : List En} {g h K' : Heap} {L : Addr} {m : Str → Option Value} (ov : Over h K' L) (F : Fr g L h m) (hm : m "kind" = none) (x : Lft w kd u X l vs fs h) : Lft w kd u X l vs fs K' := ⟨ov.vec F hm x.v, ov.lst x.l, ov.ens x.e⟩
theorem two_of {g h : Heap} {L c : Addr} {oK : Obj} {ps : Array Value} {nx : List (Addr × Obj)} (N : News g L h ((203, tabObj ps) :: (c, oK) :: nx)) : h.get? 203 = some (tabObj ps) ∧ h.get? c = some oK := ⟨(N _ (.head _)).1, (N _ (.tail _ (.head _))).1⟩

section
variable {w : World} {A : Around} {s : Shared} {Q : Value → Shared → Prop} {E : Value → Shared → Prop}
/-- the field `items` of a Vector -/
theorem vec_items {expr : Bool} {x : Addr} {kv iv : Value} (X : (hd.heap_1 w.params).In s.heap) (hV : VecAt w.params s.heap x kv iv) (hi : handedIn iv = true) (h : ∀ tk, Q iv { s with toks := tk }) : wpAny (MM w) A (getAttr (.ref x) "items" expr) Q E s := by
  refine goal_var fun G9 hG9 => ?_
  obtain ⟨dx, t1, t2, t3, t4, t5, hx, hdx⟩ := hV
  refine hG9 ?_
  clear hG9 G9
  have I : InstAt s.heap x (instObj 171 dx) 171 (some (dictOf (vecES w.params kv iv t1 t2 t3 t4 t5) 5)) := ⟨hx, rfl, rfl, hdx⟩
  have hg : plainGet (hd.heap_1 w.params) 171 "items" = true := by k_is
  have hh : hasDictIn (hd.heap_1 w.params) 171 = true := by k_is
  refine get_value X I (plainGet_of hg).1 (findObj_own hh (by k_is) (by k_is) ?_) hi (h _)
  unfold vecES
  with_unfolding_all rfl
theorem vec_kind {expr : Bool} {x : Addr} {kv iv : Value} (X : (hd.heap_1 w.params).In s.heap) (hV : VecAt w.params s.heap x kv iv) (hi : handedIn kv = true) (h : ∀ tk, Q kv { s with toks := tk }) : wpAny (MM w) A (getAttr (.ref x) "kind" expr) Q E s := by
  refine goal_var fun G9 hG9 => ?_
  obtain ⟨dx, t1, t2, t3, t4, t5, hx, hdx⟩ := hV
  refine hG9 ?_
  clear hG9 G9
  have I : InstAt s.heap x (instObj 171 dx) 171 (some (dictOf (vecES w.params kv iv t1 t2 t3 t4 t5) 5)) := ⟨hx, rfl, rfl, hdx⟩
  have hg : plainGet (hd.heap_1 w.params) 171 "kind" = true := by k_is
  have hh : hasDictIn (hd.heap_1 w.params) 171 = true := by k_is
  refine get_value X I (plainGet_of hg).1 (findObj_own hh (by k_is) (by k_is) ?_) hi (h _)
  unfold vecES
  with_unfolding_all rfl
end
--REG
set_option hygiene false in
local macro_rules | `(tactic| walk_at "MINE vec") => `(tactic| (first | assumption | exact VecAt.keeps (Kp.at (by assumption) (by k_asm) (by k_asm) (by walk_at "MINE sub")) (by assumption) | exact VecAt.keeps (Fr.keep (by assumption)) (by assumption)))
set_option hygiene false in
local macro_rules | `(tactic| walk_at "MINE va") => `(tactic| ((case V => walk_at "MINE vec"); (case X => walk_at "MINE in"); (case i => rfl); k_whole))
local macro_rules | `(tactic| walk_at "MINE vi") => `(tactic| ((k_dflt (refine' vec_items ?X ?V ?i ?_; walk_at "MINE va")); intro _))
local macro_rules | `(tactic| walk_at "MINE vk") => `(tactic| ((k_dflt (refine' vec_kind ?X ?V ?i ?_; walk_at "MINE va")); intro _))
set_option hygiene false in
local macro_rules | `(tactic| walk_at "getAttr ref") => `(tactic| (k_here; first | walk_at "MINE vi" | walk_at "MINE vk"))
--END

section
variable {w : World} {A : Around} {E : Value → Shared → Prop} {s : Shared} {env : Env} {h₀ : Heap} {x : Str} {body : List Stmt} {Q : Flow → Shared → Prop}
/-- a loop over a list of the part K -/
theorem loop_kp {l L : Addr} {K : Heap} {nxK : List (Addr × Obj)} {vs : List Value} {m₀ : Str → Option Value} {news : List (Addr × Obj)} (J : Nat → (Str → Option Value) → List (Addr × Obj) → Prop)
    (hL : env.locals = L) (hh : A.handled = none) (kp : Kp h₀ nxK K) (hl : K.IsList l vs.toArray) (hsub : ∀ i m nx, J i m nx → ∀ q ∈ nxK, q ∈ nx) (F : Fr h₀ L s.heap m₀) (N : News h₀ L s.heap news) (hj : J 0 m₀ news)
    (turn : ∀ i v m₁ nx h tk I oI, vs[i]? = some v → (∀ q ∈ nx, q.1 ≠ I) → J i m₁ nx → Fr h₀ L h (updm x (some v) m₁) → News h₀ L h ((I, oI) :: nx) →
      wpAny (MM w) A (execs body env) (TurnPost h₀ L I oI (J (i + 1)) { s with heap := h, toks := tk } Q) E { s with heap := h, toks := tk })
    (done : ∀ m₁ nx h tk, J vs.length m₁ nx → Fr h₀ L h m₁ → News h₀ L h nx → Q .next { s with heap := h, toks := tk }) :
    wpAny (MM w) A (pyIter (.ref l)) (fun it s₂ => LoopAtV PR w A h₀ env x body Q E it s₂) E s := by
  subst hL
  have hKs : K.StaysIn s.heap := kp.stays s.heap F.keep fun q hq => (N q (hsub _ _ _ hj q hq)).1
  have hls : s.heap.IsList l vs.toArray := hl.at fun o e => hKs _ o e
  refine goal_var fun G9 hG9 => ?_
  obtain ⟨ol, hol0, hcls, nol, hdol⟩ := id hl
  refine hG9 ?_
  clear hG9 G9
  have hol : s.heap.get? l = some ol := hKs _ _ hol0
  have hlL : env.locals ≠ l := fun z => by
    refine goal_var fun G9 hG9 => ?_
    obtain ⟨oL', es', ep', e1, e2, _⟩ := F.ns
    refine hG9 ?_
    clear hG9 G9
    rw [z, hol] at e1; cases e1; rw [hdol] at e2; cases e2
  have hne : l ≠ s.heap.objs.size := Nat.ne_of_lt (Heap.lt_size hol)
  have W := Walks.list (prog := PR) (w := w) hh s.heap.objs.size l hne vs.toArray
  rw [show vs.toArray.size = vs.length by simp] at W
  refine wpAny_pyIter_list hls ?_
  refine loop_walks J W (.head _) (fun i h hst => let ⟨⟨o, e, _⟩, _⟩ := hst; ⟨o, e⟩) ?_ (next_is_new F) (fun q hq => Nat.ne_of_lt (Heap.lt_size (N q hq).1))
    ⟨⟨_, Heap.get?_push_size _ rfl, rfl, rfl⟩, hls.at fun o e => Heap.get?_push_of_some _ e⟩ ?_ (F.push _) (fun q hq => ⟨Heap.get?_push_of_some _ (N q hq).1, (N q hq).2⟩) hj ?_ done
  · intro hm
    rcases List.mem_cons.mp hm with e | hm
    · exact absurd F.ns.lt (e ▸ Nat.lt_irrefl _)
    · exact hlL (List.mem_singleton.mp hm)
  · intro b hb hne
    rcases List.mem_cons.mp hb with rfl | hb
    · exact absurd rfl hne
    · rw [List.mem_singleton.mp hb]
      rcases kp.list l ol hol0 with hg | hm
      · exact .inl ⟨_, hg⟩
      · exact .inr ⟨ol, fun i m nx j => hsub _ _ _ j _ hm⟩
  · intro i v m₁ nx h tk oI hi hP hx hJ F₁ N₁
    exact turn i v m₁ nx h tk _ oI (by simpa using hP) hx hJ F₁ N₁
end
section
variable {w : World} {A : Around} {E : Value → Shared → Prop} {s : Shared} {env : Env} {h₀ : Heap} {x : Str} {px : Pos} {elt iter : Expr} {ifs : List Expr} {scope : Scope} {pos : Pos} {cl : List (Str × Addr)}
variable {RR : Value → Addr → Result → Shared → Prop} {m₀ : Str → Option Value} {Qd : Shared → Addr → List Value → Nat → List (Addr × Obj) → Heap → Nat → Prop} {news : List (Addr × Obj)}
/-- a comprehension over a list of the part K -/
theorem comp_kp {l L : Addr} {K : Heap} {nxK : List (Addr × Obj)} {vs : List Value} (J : Nat → List Value → List (Addr × Obj) → Prop)
    (hL : env.locals = L) (hh : A.handled = none) (kp : Kp h₀ nxK K) (hl : K.IsList l vs.toArray) (hsub : ∀ i ys nx, J i ys nx → ∀ q ∈ nxK, q ∈ nx) (F : Fr h₀ L s.heap m₀) (N : News h₀ L s.heap news) (hj : J 0 [] news) (hsz : vs.length ≤ 1000)
    (turn : ∀ i v ys nx h tk I C D oI oL mv nD, vs[i]? = some v → ys.length ≤ i → (∀ q ∈ nx, q.1 ≠ I ∧ q.1 ≠ D ∧ q.1 ≠ L) → J i ys nx → mv x = some v → (compEnvC scope cl C env).locals = C →
      Fr h₀ C h mv → News h₀ C h ((I, oI) :: (D, listOf ys.toArray nD) :: (L, oL) :: nx) → (∀ vs, oL.data ≠ .fields vs) →
      wpAny (MM w) A (forIn ifs true fun c r => if r = true then do let ok ← isTrue c (compEnvC scope cl C env) (eval c (compEnvC scope cl C env)); pure (ForInStep.yield ok) else pure (ForInStep.yield r))
        (fun ok s₃ => if ok = true then wpAny (MM w) A (eval elt (compEnvC scope cl C env)) (EltPost h₀ C I D L oI oL mv ys nD (J (i + 1)) { s with heap := h, toks := tk }) (notedBy (MM w) A (compEnvC scope cl C env) fun e s₃ => RR (.ref D) C (.error e) s₃) s₃
          else EltTo h₀ C I D L oI oL mv ys nD (J (i + 1) ys) { s with heap := h, toks := tk } s₃) (notedBy (MM w) A (compEnvC scope cl C env) fun e s₃ => RR (.ref D) C (.error e) s₃) { s with heap := h, toks := tk })
    (done : ∀ hp D ys nD nx h tk, ys.length ≤ vs.length → J vs.length ys nx → (∀ q ∈ nx, q.1 ≠ D ∧ q.1 ≠ L) → News h₀ L h ((D, listOf ys.toArray nD) :: nx) → Qd { s with heap := hp } D ys nD nx h tk) :
    wpAny (MM w) A (pyIter (.ref l)) (fun it s₂ => CompAt w A h₀ env x elt ifs scope cl m₀ RR (Qd s₂) it s₂) E s := by
  subst hL
  have hKs : K.StaysIn s.heap := kp.stays s.heap F.keep fun q hq => (N q (hsub _ _ _ hj q hq)).1
  have hls : s.heap.IsList l vs.toArray := hl.at fun o e => hKs _ o e
  refine goal_var fun G9 hG9 => ?_
  obtain ⟨ol, hol0, hcls, nol, hdol⟩ := id hl
  refine hG9 ?_
  clear hG9 G9
  have hol : s.heap.get? l = some ol := hKs _ _ hol0
  have hlL : env.locals ≠ l := fun z => by
    refine goal_var fun G9 hG9 => ?_
    obtain ⟨oL', es', ep', e1, e2, _⟩ := F.ns
    refine hG9 ?_
    clear hG9 G9
    rw [z, hol] at e1; cases e1; rw [hdol] at e2; cases e2
  have hlt : l < s.heap.objs.size := Heap.lt_size hol
  have hne : l ≠ s.heap.objs.size := Nat.ne_of_lt hlt
  have W := Walks.list (prog := PR) (w := w) hh s.heap.objs.size l hne vs.toArray
  rw [show vs.toArray.size = vs.length by simp] at W
  refine wpAny_pyIter_list hls ?_
  refine ⟨_, _, vs.length, _, _, news, J, rfl, W, .head _, (fun i h hst => let ⟨⟨o, e, _⟩, _⟩ := hst; ⟨o, e⟩), ?_, next_is_new F, (fun q hq => Nat.ne_of_lt (Heap.lt_size (N q hq).1)),
    ⟨⟨_, Heap.get?_push_size _ rfl, rfl, rfl⟩, hls.at fun o e => Heap.get?_push_of_some _ e⟩, ?_, ?_, (F.push _), (fun q hq => ⟨Heap.get?_push_of_some _ (N q hq).1, (N q hq).2⟩), hj, hsz, ?_, done _⟩
  · intro hm
    rcases List.mem_cons.mp hm with e | hm
    · exact absurd F.ns.lt (e ▸ Nat.lt_irrefl _)
    · exact hlL (List.mem_singleton.mp hm)
  · intro b hb hne
    rcases List.mem_cons.mp hb with rfl | hb
    · exact absurd rfl hne
    · rw [List.mem_singleton.mp hb]
      rcases kp.list l ol hol0 with hg | hm
      · exact .inl ⟨_, hg⟩
      · exact .inr ⟨ol, fun i m nx j => hsub _ _ _ j _ hm⟩
  · intro b hb
    rw [Heap.size_push]
    rcases List.mem_cons.mp hb with rfl | hb
    · exact Nat.lt_succ_self _
    · rw [List.mem_singleton.mp hb]; exact Nat.lt_succ_of_lt hlt
  · intro i v ys nx h tk C D oI oL mv nD hi hP hys hoff hJ hm hC F₁ N₁ hoL
    exact turn i v ys nx h tk _ C D oI oL mv nD (by simpa using hP) hys hoff hJ hm hC F₁ N₁ hoL
end

section pureRow
theorem leE_trans {a b c : En} (ha : 0 < den a) (hb : 0 < den b) (hc : 0 < den c) (h1 : leE a b) (h2 : leE b c) : leE a c := by
  unfold leE at *
  generalize num a = na at *
  generalize num b = nb at *
  generalize num c = nc at *
  generalize den a = da at *
  generalize den b = db at *
  generalize den c = dc at *
  have e1 : na * db * dc ≤ nb * da * dc := Int.mul_le_mul_of_nonneg_right h1 (by lia)
  have e2 : nb * dc * da ≤ nc * db * da := Int.mul_le_mul_of_nonneg_right h2 (by lia)
  have e3 : na * dc * db ≤ nc * da * db := by
    have a1 : na * db * dc = na * dc * db := by grind
    have a2 : nb * da * dc = nb * dc * da := by grind
    have a3 : nc * db * da = nc * da * db := by grind
    lia
  exact Int.le_of_mul_le_mul_right e3 hb
theorem leE_anti {a b : En} (oa : OkE a) (ka : KdE .db a) (la : lack a = false) (ra : RedE a) (ob : OkE b) (kb : KdE .db b) (lb : lack b = false) (rb : RedE b) (h1 : leE a b) (h2 : leE b a) : a = b := by
  obtain ⟨a1, a2, a3, a4⟩ := den_pos oa ka la
  obtain ⟨b1, b2, b3, b4⟩ := den_pos ob kb lb
  unfold leE at h1 h2
  rw [a4] at ra
  rw [b4] at rb
  rcases ra with ra | ra
  · lia
  rcases rb with rb | rb
  · lia
  obtain ⟨e1, e2⟩ := red_unique a1 b1 ra.2 rb.2 (by lia : num a * den b = num b * den a)
  rw [a4, b4, e1, e2]
/-- two sorted rows of the same items are one -/
theorem row_one {fs xs ys : List En} (r : RowE fs) (hr : ∀ e ∈ fs, RedE e) (p1 : xs.Perm fs) (s1 : xs.Pairwise leE) (p2 : ys.Perm fs) (s2 : ys.Pairwise leE) : xs = ys := by
  refine List.Perm.eq_of_pairwise (fun a b ha hb h1 h2 => ?_) s1 s2 (p1.trans p2.symm)
  have ma := p1.mem_iff.mp ha
  have mb := p2.mem_iff.mp hb
  exact leE_anti (r a ma).1 (r a ma).2.1 (r a ma).2.2 (hr a ma) (r b mb).1 (r b mb).2.1 (r b mb).2.2 (hr b mb) h1 h2
theorem red_toQ {kd : Kd} {e : En} (k : KdE kd e) (r : RedE e) : RedE (toQ e) := by
  cases e with
  | no => exact r
  | i k => exact .inr ⟨by decide, by simp⟩
  | q n d => exact r
/-- the row after an item is set in -/
def insE (es : List En) (k : Nat) (e : En) : List En := es.take k ++ e :: es.drop k
theorem ins_perm (es : List En) (k : Nat) (e : En) : (insE es k e).Perm (es ++ [e]) := by
  unfold insE
  refine List.perm_middle.trans ?_
  rw [List.take_append_drop]
  exact (List.perm_append_singleton e es).symm
theorem ins_row {es : List En} {k : Nat} {e : En} (r : RowE es) (re : OkE e ∧ KdE .db e ∧ lack e = false) : RowE (insE es k e) := fun x hx => by
  have := (ins_perm es k e).mem_iff.mp hx
  rcases List.mem_append.mp this with h | h
  · exact r x h
  · rw [List.mem_singleton.mp h]; exact re
theorem ins_len (es : List En) (k : Nat) (e : En) : (insE es k e).length = es.length + 1 := by
  rw [(ins_perm es k e).length_eq, List.length_append, List.length_singleton]
theorem ins_sorted {es : List En} {k : Nat} {e : En} (r : RowE es) (re : OkE e ∧ KdE .db e ∧ lack e = false) (hs : es.Pairwise leE) (hk : k ≤ es.length)
    (h1 : ∀ j, j < k → ¬ (num e * den (es.getD j .no) < num (es.getD j .no) * den e)) (h2 : k < es.length → num e * den (es.getD k .no) < num (es.getD k .no) * den e) : (insE es k e).Pairwise leE := by
  have de := (den_pos re.1 re.2.1 re.2.2).1
  have dr : ∀ x ∈ es, 0 < den x := fun x hx => (den_pos (r x hx).1 (r x hx).2.1 (r x hx).2.2).1
  have hs' := hs
  rw [← List.take_append_drop k es] at hs
  obtain ⟨s1, s2, s3⟩ := List.pairwise_append.mp hs
  have hd : ∀ x ∈ es.drop k, leE e x := fun x hx => by
    cases q : es.drop k with
    | nil => rw [q] at hx; cases hx
    | cons y t =>
      have hlt : k < es.length := by
        have := congrArg List.length q
        rw [List.length_drop, List.length_cons] at this
        omega
      have hy : es.getD k .no = y := by
        have : (es.drop k)[0]? = some y := by rw [q]; rfl
        rw [List.getElem?_drop, Nat.add_zero] at this
        rw [List.getD_eq_getElem?_getD, this]; rfl
      have h3 := h2 hlt
      rw [hy] at h3
      have hey : leE e y := by unfold leE; omega
      have ym : y ∈ es := List.mem_of_mem_drop (i := k) (by rw [q]; exact .head _)
      rw [q] at hx s2
      rcases List.mem_cons.mp hx with rfl | hx
      · exact hey
      · exact leE_trans de (dr y ym) (dr x (List.mem_of_mem_drop (i := k) (by rw [q]; exact .tail _ hx))) hey ((List.pairwise_cons.mp s2).1 x hx)
  have ht : ∀ x ∈ es.take k, leE x e := fun x hx => by
    obtain ⟨j, hj, rfl⟩ := List.mem_iff_getElem.mp hx
    rw [List.length_take] at hj
    have hj2 : j < es.length := by omega
    have := h1 j (by omega)
    rw [List.getD_eq_getElem?_getD, List.getElem?_eq_getElem hj2] at this
    rw [List.getElem_take]
    unfold leE
    show num es[j] * den e ≤ num e * den es[j]
    have t2 : ¬ (num e * den es[j] < num es[j] * den e) := this
    omega
  refine List.pairwise_append.mpr ⟨s1, List.pairwise_cons.mpr ⟨hd, s2⟩, fun a ha b hb => ?_⟩
  rcases List.mem_cons.mp hb with rfl | hb
  · exact ht a ha
  · exact s3 a ha b hb
theorem pd_app {α β : Type} {F : α → β → Prop} : ∀ {l₁ l₃ : List α} {l₂ l₄ : List β}, Paired F l₁ l₂ → Paired F l₃ l₄ → Paired F (l₁ ++ l₃) (l₂ ++ l₄)
  | _, _, _, _, .nil, h => h
  | _, _, _, _, .cons x r, h => .cons x (pd_app r h)
theorem pd_ins {F : Value → En → Prop} {vs : List Value} {es : List En} (h : Paired F vs es) {k : Int} (h0 : 0 ≤ k) (h1 : k ≤ es.length) {v : Value} {e : En} (he : F v e) : Paired F (kl_ins vs k v) (insE es k.toNat e) := by
  have hl := pd_len h
  unfold kl_ins insE
  rw [if_neg (by lia), show min k.toNat vs.length = k.toNat by lia]
  exact pd_app (pd_take _ h) (.cons he (pd_drop _ h))
end pureRow
section pureAlong
/-- along by a share cut to its least terms -/
theorem along_red {es : List En} (r : RowE es) (hne : 0 < es.length) {e : Int} {d : Int} (h0 : 0 ≤ e) (h8 : e ≤ d) (hd : 0 < d) {N D : Int} (hD : 0 < D) (hND : N * d = e * D) : alongE es N D = alongE es e d := by
  have e1 : N * ((es.length : Int) - 1) * d = e * ((es.length : Int) - 1) * D := by grind
  have hf := fd_place hd hD e1
  obtain ⟨m1, m2, m3⟩ := fm_is (P := N * ((es.length : Int) - 1)) hD
  obtain ⟨n1, n2, n3⟩ := fm_is (P := e * ((es.length : Int) - 1)) hd
  have hr : Int.fmod (N * ((es.length : Int) - 1)) D * d = Int.fmod (e * ((es.length : Int) - 1)) d * D := by rw [m1, n1, hf]; grind
  obtain ⟨g0, g1, g2⟩ := fd_range (pn := e) (m := (es.length : Int) - 1) hd h0 h8 (by omega)
  unfold alongE
  rw [hf]
  generalize Int.fmod (N * ((es.length : Int) - 1)) D = r1 at *
  generalize Int.fmod (e * ((es.length : Int) - 1)) d = r2 at *
  by_cases z : r2 = 0
  · have z1 : r1 = 0 := by
      rw [z, Int.zero_mul] at hr
      rcases Int.mul_eq_zero.mp hr with q | q
      · exact q
      · omega
    rw [if_pos z, if_pos z1]
  · have z1 : r1 ≠ 0 := fun q => by
      rw [q, Int.zero_mul] at hr
      rcases Int.mul_eq_zero.mp hr.symm with q | q
      · exact z q
      · omega
    rw [if_neg z, if_neg z1]
    have hlt := g2 z
    obtain ⟨a0, a1, a2, a3⟩ := r.get (k := (Int.fdiv (e * ((es.length : Int) - 1)) d).toNat) (by omega)
    obtain ⟨c0, c1, c2, c3⟩ := r.get (k := (Int.fdiv (e * ((es.length : Int) - 1)) d).toNat + 1) (by omega)
    unfold mixE
    generalize num (es.getD (Int.fdiv (e * ((es.length : Int) - 1)) d).toNat .no) = ln at *
    generalize den (es.getD (Int.fdiv (e * ((es.length : Int) - 1)) d).toNat .no) = ld at *
    generalize num (es.getD ((Int.fdiv (e * ((es.length : Int) - 1)) d).toNat + 1) .no) = hn at *
    generalize den (es.getD ((Int.fdiv (e * ((es.length : Int) - 1)) d).toNat + 1) .no) = hd' at *
    obtain ⟨q1, q2⟩ := qn_same (n := ln * hd' * (D - r1) + hn * ld * r1) (d := D * ld * hd') (n' := ln * hd' * (d - r2) + hn * ld * r2) (d' := d * ld * hd') (Int.mul_pos (Int.mul_pos hD a0) c0) (Int.mul_pos (Int.mul_pos hd a0) c0) (by grind)
    rw [q1, q2]
/-- where the number lies that is e of d along the row, and what it is -/
theorem along_val {es : List En} (r : RowE es) (hne : 0 < es.length) {e d : Int} (h0 : 0 ≤ e) (h1 : e ≤ d) (hd : 0 < d) :
    ∃ f g : Nat, ∃ t : Int, f < es.length ∧ g < es.length ∧ 0 ≤ t ∧ t < d ∧ e * ((es.length : Int) - 1) = (f : Int) * d + t ∧ (f + 1 < es.length → g = f + 1) ∧ (g = f ∨ g = f + 1) ∧ 0 < den (alongE es e d) ∧ (t = 0 → alongE es e d = es.getD f .no) ∧
      num (alongE es e d) * (d * den (es.getD f .no) * den (es.getD g .no)) = (num (es.getD f .no) * den (es.getD g .no) * (d - t) + num (es.getD g .no) * den (es.getD f .no) * t) * den (alongE es e d) := by
  obtain ⟨g0, g1, g2⟩ := fd_range (pn := e) (m := (es.length : Int) - 1) hd h0 h1 (by omega)
  obtain ⟨n1, n2, n3⟩ := fm_is (P := e * ((es.length : Int) - 1)) hd
  have hfl : (Int.fdiv (e * ((es.length : Int) - 1)) d).toNat < es.length := by omega
  have hcast : (((Int.fdiv (e * ((es.length : Int) - 1)) d).toNat : Nat) : Int) = Int.fdiv (e * ((es.length : Int) - 1)) d := Int.toNat_of_nonneg g0
  refine ⟨(Int.fdiv (e * ((es.length : Int) - 1)) d).toNat, if (Int.fdiv (e * ((es.length : Int) - 1)) d).toNat + 1 < es.length then (Int.fdiv (e * ((es.length : Int) - 1)) d).toNat + 1 else (Int.fdiv (e * ((es.length : Int) - 1)) d).toNat, Int.fmod (e * ((es.length : Int) - 1)) d, hfl, ?_, n2, n3, ?_, fun h => if_pos h, ?_, ?_⟩
  · split <;> omega
  · rw [hcast, n1]; grind
  · split
    · exact .inr rfl
    · exact .inl rfl
  obtain ⟨a0, a1, a2, a3⟩ := r.get hfl
  unfold alongE
  by_cases z : Int.fmod (e * ((es.length : Int) - 1)) d = 0
  · rw [if_pos z, z]
    refine ⟨a0, fun _ => rfl, ?_⟩
    grind
  · rw [if_neg z]
    have hlt := g2 z
    have hlt2 : (Int.fdiv (e * ((es.length : Int) - 1)) d).toNat + 1 < es.length := by omega
    rw [if_pos hlt2]
    obtain ⟨c0, c1, c2, c3⟩ := r.get hlt2
    unfold mixE
    generalize num (es.getD (Int.fdiv (e * ((es.length : Int) - 1)) d).toNat .no) = ln at *
    generalize den (es.getD (Int.fdiv (e * ((es.length : Int) - 1)) d).toNat .no) = ld at *
    generalize num (es.getD ((Int.fdiv (e * ((es.length : Int) - 1)) d).toNat + 1) .no) = hn at *
    generalize den (es.getD ((Int.fdiv (e * ((es.length : Int) - 1)) d).toNat + 1) .no) = hd' at *
    obtain ⟨f1, f2, f3, f4⟩ := qn_facts (ln * hd' * (d - Int.fmod (e * ((es.length : Int) - 1)) d) + hn * ld * Int.fmod (e * ((es.length : Int) - 1)) d) (d := d * ld * hd') (Int.mul_pos (Int.mul_pos hd a0) c0)
    exact ⟨f1, fun q => absurd q z, f4⟩
theorem row_le {es : List En} (r : RowE es) (hs : es.Pairwise leE) {i j : Nat} (hij : i ≤ j) (hj : j < es.length) : leE (es.getD i .no) (es.getD j .no) := by
  have hi : i < es.length := by lia
  rw [List.getD_eq_getElem?_getD, List.getD_eq_getElem?_getD, List.getElem?_eq_getElem hi, List.getElem?_eq_getElem hj]
  show leE es[i] es[j]
  by_cases h : i = j
  · subst h; exact Int.le_refl _
  · exact List.pairwise_iff_getElem.mp hs i j hi hj (by lia)
/-- a number between two is between them -/
theorem mix_lo {ln ld hn hd d t vn vd : Int} (hld : 0 < ld) (hhd : 0 < hd) (hd0 : 0 < d) (ht : 0 ≤ t) (hv : 0 < vd) (hle : ln * hd ≤ hn * ld) (e : vn * (d * ld * hd) = (ln * hd * (d - t) + hn * ld * t) * vd) : ln * vd ≤ vn * ld := by
  have h1 : ln * hd * t ≤ hn * ld * t := Int.mul_le_mul_of_nonneg_right hle ht
  have h2 : (ln * hd * d) * vd ≤ (ln * hd * (d - t) + hn * ld * t) * vd := Int.mul_le_mul_of_nonneg_right (by grind) (by lia)
  have h3 : (ln * vd) * (d * hd) ≤ (vn * ld) * (d * hd) := by
    have a : (ln * vd) * (d * hd) = (ln * hd * d) * vd := by grind
    have b : (vn * ld) * (d * hd) = vn * (d * ld * hd) := by grind
    lia
  exact Int.le_of_mul_le_mul_right h3 (Int.mul_pos hd0 hhd)
theorem mix_hi {ln ld hn hd d t vn vd : Int} (hld : 0 < ld) (hhd : 0 < hd) (hd0 : 0 < d) (ht : t ≤ d) (hv : 0 < vd) (hle : ln * hd ≤ hn * ld) (e : vn * (d * ld * hd) = (ln * hd * (d - t) + hn * ld * t) * vd) : vn * hd ≤ hn * vd := by
  have h1 : ln * hd * (d - t) ≤ hn * ld * (d - t) := Int.mul_le_mul_of_nonneg_right hle (by lia)
  have h2 : (ln * hd * (d - t) + hn * ld * t) * vd ≤ (hn * ld * d) * vd := Int.mul_le_mul_of_nonneg_right (by grind) (by lia)
  have h3 : (vn * hd) * (d * ld) ≤ (hn * vd) * (d * ld) := by
    have a : (hn * vd) * (d * ld) = (hn * ld * d) * vd := by grind
    have b : (vn * hd) * (d * ld) = vn * (d * ld * hd) := by grind
    lia
  exact Int.le_of_mul_le_mul_right h3 (Int.mul_pos hd0 hld)
theorem mix_mono {ln ld hn hd d t t' vn vd vn' vd' : Int} (hld : 0 < ld) (hhd : 0 < hd) (hd0 : 0 < d) (ht : t ≤ t') (hv : 0 < vd) (hv' : 0 < vd') (hle : ln * hd ≤ hn * ld) (e : vn * (d * ld * hd) = (ln * hd * (d - t) + hn * ld * t) * vd) (e' : vn' * (d * ld * hd) = (ln * hd * (d - t') + hn * ld * t') * vd') : vn * vd' ≤ vn' * vd := by
  have h1 : ln * hd * (t' - t) ≤ hn * ld * (t' - t) := Int.mul_le_mul_of_nonneg_right hle (by lia)
  have h2 : (ln * hd * (d - t) + hn * ld * t) * (vd * vd') ≤ (ln * hd * (d - t') + hn * ld * t') * (vd * vd') := Int.mul_le_mul_of_nonneg_right (by grind) (Int.le_of_lt (Int.mul_pos hv hv'))
  have h3 : (vn * vd') * (d * ld * hd) ≤ (vn' * vd) * (d * ld * hd) := by
    have a : (vn * vd') * (d * ld * hd) = (ln * hd * (d - t) + hn * ld * t) * (vd * vd') := by
      have : (vn * vd') * (d * ld * hd) = (vn * (d * ld * hd)) * vd' := by grind
      rw [this, e]; grind
    have b : (vn' * vd) * (d * ld * hd) = (ln * hd * (d - t') + hn * ld * t') * (vd * vd') := by
      have : (vn' * vd) * (d * ld * hd) = (vn' * (d * ld * hd)) * vd := by grind
      rw [this, e']; grind
    lia
  exact Int.le_of_mul_le_mul_right h3 (Int.mul_pos (Int.mul_pos hd0 hld) hhd)
/-- a greater share never gives less -/
theorem along_mono {es : List En} (r : RowE es) (hs : es.Pairwise leE) (hne : 0 < es.length) (hz : es.length ≤ 8) {e : Int} (h0 : 0 ≤ e) (h1 : e < 8) : leE (alongE es e 8) (alongE es (e + 1) 8) := by
  obtain ⟨f, g, t, a1, a2, a3, a4, a5, a6, a7, a8, a9, a10⟩ := along_val r hne h0 (by lia : e ≤ 8) (by decide)
  obtain ⟨f', g', t', b1, b2, b3, b4, b5, b6, b7, b8, b9, b10⟩ := along_val r hne (by lia : 0 ≤ e + 1) (by lia : e + 1 ≤ 8) (by decide)
  have hstep : (f' : Int) * 8 + t' = (f : Int) * 8 + t + ((es.length : Int) - 1) := by rw [← b5, ← a5]; grind
  obtain ⟨c0, c1, c2, c3⟩ := r.get a1
  obtain ⟨d0, d1, d2, d3⟩ := r.get a2
  obtain ⟨c0', c1', c2', c3'⟩ := r.get b1
  obtain ⟨d0', d1', d2', d3'⟩ := r.get b2
  have hle : leE (es.getD f .no) (es.getD g .no) := row_le r hs (by lia) a2
  have hle' : leE (es.getD f' .no) (es.getD g' .no) := row_le r hs (by lia) b2
  unfold leE at *
  by_cases hf : f' = f
  · subst hf
    have hgg : g' = g := by lia
    subst hgg
    exact mix_mono c0 d0 (by decide) (by lia) a8 b8 hle a10 b10
  · have hf1 : f' = f + 1 := by lia
    have hg1 : g = f' := by lia
    subst hg1
    have x1 := mix_hi c0 d0 (by decide) (by lia) a8 hle a10
    have x2 := mix_lo c0' d0' (by decide) b3 b8 hle' b10
    exact leE_trans (a := alongE es e 8) (b := es.getD g .no) (c := alongE es (e + 1) 8) a8 d0 b8 x1 x2
theorem along_first {es : List En} {d : Int} : alongE es 0 d = es.getD 0 .no := by
  unfold alongE
  rw [Int.zero_mul, Int.zero_fmod, if_pos rfl, Int.zero_fdiv]
  rfl
theorem along_last {es : List En} (hne : 0 < es.length) : alongE es 8 8 = es.getD (es.length - 1) .no := by
  unfold alongE
  rw [Int.fmod_eq_emod_of_nonneg _ (by decide), Int.fdiv_eq_ediv_of_nonneg _ (by decide), if_pos (by omega), show (8 * ((es.length : Int) - 1) / 8).toNat = es.length - 1 by omega]
end pureAlong
theorem lawcut2 {w : World} {A : Around} {E : Value → Shared → Prop} {hp : Heap} {gn : Array GenState} {dw : Drawn} {tk0 : Nat} {os : OsState} {env : Env} {Q : Flow → Shared → Prop} {g K : Heap} {L c : Addr} {m₀ : Str → Option Value} {a b : Stmt} {r : List Stmt} {oK : Obj} {v : Option Value}
    (F : Fr g L hp m₀) (g2 : g.get? 203 = none) (gc : g.get? c = none) (hcL : c ≠ L) (hoK : oK.data = .cell v) (kL : K.get? L = none) (k2 : K.get? 203 = none) (kc : K.get? c = none) (R : (Str → Option Value) → Heap → Prop)
    (h : wpAny (MM w) A (execs [a, b] env) (fun f s' => match f with | .next => LawK g L c oK K R gn dw os s' | f => Q f s') E ⟨hp, gn, dw, tk0, os⟩)
    (h2 : ∀ h tk m ps nx K', Fr g L h m → Lump g L c oK ps h nx K' → K.StaysIn K' → R m h → Over h K' L → wpAny (MM w) A (execs r env) Q E ⟨h, gn, dw, tk, os⟩) : wpAny (MM w) A (execs (a :: b :: r) env) Q E ⟨hp, gn, dw, tk0, os⟩ :=
  cutL [a, b] r (LawK g L c oK K R gn dw os) h fun s' ⟨h, tk, m, ps, e, F', t2, tP, hc, hK, x⟩ => by
    subst e
    obtain ⟨nx, K', l, h1, h3, h4, h5, h6⟩ := relump F' t2 g2 tP hc gc hcL hoK
    exact h2 h tk m ps nx K' F' l (h3 K hK kL k2 kc) x ⟨fun {a o} => h1 a o, fun {l its} => h5 l its, fun {vs es} => h6 vs es, h4⟩
/-- the names that the loop over the items sets -/
def nrm (o i s : Option Value) (R : Str → Option Value) : Str → Option Value := fun y => if y = ("one" : Str) then o else if y = ("item" : Str) then i else if y = ("spot" : Str) then s else R y
theorem ne_oi : ("one" : Str) ≠ "item" := by decide
theorem ne_os : ("one" : Str) ≠ "spot" := by decide
theorem ne_is : ("item" : Str) ≠ "spot" := by decide
theorem nrm_new {R : Str → Option Value} (h1 : R "one" = none) (h2 : R "item" = none) (h3 : R "spot" = none) : R = nrm none none none R := by
  funext y
  unfold nrm
  split
  · rename_i h; rw [h, h1]
  · split
    · rename_i h; rw [h, h2]
    · split
      · rename_i h; rw [h, h3]
      · rfl
theorem nrm_one (a o i s : Option Value) (R : Str → Option Value) : (fun y => if y = ("one" : Str) then a else nrm o i s R y) = nrm a i s R := by
  funext y
  unfold nrm
  by_cases h : y = "one"
  · rw [if_pos h, if_pos h]
  · rw [if_neg h, if_neg h, if_neg h]
theorem nrm_item (a o i s : Option Value) (R : Str → Option Value) : (fun y => if y = ("item" : Str) then a else nrm o i s R y) = nrm o a s R := by
  funext y
  unfold nrm
  by_cases h : y = "item"
  · rw [if_pos h, if_neg (fun z => ne_oi (z.symm.trans h)), if_pos h]
  · rw [if_neg h, if_neg h, if_neg h]
theorem nrm_spot (a o i s : Option Value) (R : Str → Option Value) : (fun y => if y = ("spot" : Str) then a else nrm o i s R y) = nrm o i a R := by
  funext y
  unfold nrm
  by_cases h : y = "spot"
  · rw [if_pos h, if_neg (fun z => ne_os (z.symm.trans h)), if_neg (fun z => ne_is (z.symm.trans h)), if_pos h]
  · rw [if_neg h, if_neg h, if_neg h]

/-- a share in eighths that is none or lies within 0 and 8 -/
def InR (z : Int) : Prop := z = 12 ∨ (0 ≤ z - 1 ∧ z - 1 ≤ 8)
/-- what is due for a share in eighths -/
def dueE (rq : List En) (z : Int) : En := if z = 12 then .no else if rq = [] then .no else alongE rq (z - 1) 8
section pureDue
theorem qd_not {n d : Int} (hd : 0 < d) {k : Int} : (n < k * d → qn n d < k * qd n d) ∧ (k * d < n → k * qd n d < qn n d) ∧ (n ≤ k * d → qn n d ≤ k * qd n d) ∧ (k * d ≤ n → k * qd n d ≤ qn n d) := by
  obtain ⟨f1, f2, f3, f4⟩ := qn_facts n hd
  generalize qn n d = a at *
  generalize qd n d = b at *
  refine ⟨fun h => ?_, fun h => ?_, fun h => ?_, fun h => ?_⟩
  · have e : n * b < k * d * b := Int.mul_lt_mul_of_pos_right h f1
    rw [← f4, show k * d * b = k * b * d by grind] at e
    exact Int.lt_of_mul_lt_mul_right e (by lia)
  · have e : k * d * b < n * b := Int.mul_lt_mul_of_pos_right h f1
    rw [← f4, show k * d * b = k * b * d by grind] at e
    exact Int.lt_of_mul_lt_mul_right e (by lia)
  · have e : n * b ≤ k * d * b := Int.mul_le_mul_of_nonneg_right h (by lia)
    rw [← f4, show k * d * b = k * b * d by grind] at e
    exact Int.le_of_mul_le_mul_right e hd
  · have e : k * d * b ≤ n * b := Int.mul_le_mul_of_nonneg_right h (by lia)
    rw [← f4, show k * d * b = k * b * d by grind] at e
    exact Int.le_of_mul_le_mul_right e hd
theorem q8_prob {e : Int} (h0 : 0 ≤ e) (h1 : e ≤ 8) : ProbOk (.q (qn e 8) (qd e 8)) := by
  obtain ⟨f1, f2, f3, f4⟩ := qn_facts e (d := 8) (by decide)
  obtain ⟨a1, a2, a3, a4⟩ := qd_not (n := e) (d := 8) (by decide) (k := 1)
  obtain ⟨b1, b2, b3, b4⟩ := qd_not (n := e) (d := 8) (by decide) (k := 0)
  have := a3 (by lia)
  have := b4 (by lia)
  exact ⟨f1, f2, by lia, by lia⟩
theorem sh8_prob {z : Int} (h : InR z) : ProbOk (sh8 z) := by
  unfold sh8
  by_cases e : z = 12
  · rw [if_pos e]; exact trivial
  · rw [if_neg e]
    rcases h with h | h
    · exact absurd h e
    · exact q8_prob h.1 h.2
theorem sh8_sh (z : Int) : ShOk (sh8 z) := by
  unfold sh8
  by_cases e : z = 12
  · rw [if_pos e]; exact trivial
  · rw [if_neg e]
    obtain ⟨f1, f2, f3, f4⟩ := qn_facts (z - 1) (d := 8) (by decide)
    exact ⟨f1, f2⟩
theorem sh8_out {z : Int} (h : ¬ InR z) : ¬ ProbOk (sh8 z) := fun p => by
  unfold sh8 at p
  by_cases e : z = 12
  · exact h (.inl e)
  · rw [if_neg e] at p
    obtain ⟨p1, p2, p3, p4⟩ := p
    obtain ⟨a1, a2, a3, a4⟩ := qd_not (n := z - 1) (d := 8) (by decide) (k := 1)
    obtain ⟨b1, b2, b3, b4⟩ := qd_not (n := z - 1) (d := 8) (by decide) (k := 0)
    refine h (.inr ⟨?_, ?_⟩)
    · by_cases q : 0 ≤ z - 1
      · exact q
      · have := b1 (by omega)
        omega
    · by_cases q : z - 1 ≤ 8
      · exact q
      · have := a2 (by omega)
        omega
theorem q8_along {es : List En} (r : RowE es) (hne : es ≠ []) {e : Int} (h0 : 0 ≤ e) (h1 : e ≤ 8) : qv es (.q (qn e 8) (qd e 8)) = alongE es e 8 := by
  obtain ⟨f1, f2, f3, f4⟩ := qn_facts e (d := 8) (by decide)
  show (if es = [] then En.no else alongE es (qn e 8) (qd e 8)) = _
  rw [if_neg hne]
  exact along_red r (List.length_pos_iff.mpr hne) h0 h1 (by decide) f1 f4
theorem due_is {es : List En} (r : RowE es) {z : Int} (h : InR z) : qv es (sh8 z) = dueE es z := by
  unfold sh8 dueE
  by_cases e : z = 12
  · rw [if_pos e, if_pos e]; rfl
  · rw [if_neg e, if_neg e]
    by_cases q : es = []
    · rw [if_pos q]; exact if_pos q
    · rw [if_neg q]
      rcases h with h | h
      · exact absurd h e
      · exact q8_along r q h.1 h.2
/-- a number along the row is a fraction with a small lower part -/
theorem along_bd {es : List En} (r : RowE es) (hne : 0 < es.length) {e d : Int} (h0 : 0 ≤ e) (h1 : e ≤ d) (hd : 0 < d) (hd8 : d ≤ 8) : alongE es e d = .q (num (alongE es e d)) (den (alongE es e d)) ∧ 0 < den (alongE es e d) ∧ den (alongE es e d) ≤ 288 := by
  obtain ⟨g0, g1, g2⟩ := fd_range (pn := e) (m := (es.length : Int) - 1) hd h0 h1 (by lia)
  obtain ⟨n1, n2, n3⟩ := fm_is (P := e * ((es.length : Int) - 1)) hd
  have hfl : (Int.fdiv (e * ((es.length : Int) - 1)) d).toNat < es.length := by lia
  obtain ⟨a0, a1, a2, a3⟩ := r.get hfl
  unfold alongE
  by_cases z : Int.fmod (e * ((es.length : Int) - 1)) d = 0
  · rw [if_pos z]
    exact ⟨a3, a0, by lia⟩
  · rw [if_neg z]
    have hlt := g2 z
    have hlt2 : (Int.fdiv (e * ((es.length : Int) - 1)) d).toNat + 1 < es.length := by lia
    obtain ⟨c0, c1, c2, c3⟩ := r.get hlt2
    unfold mixE
    generalize num (es.getD (Int.fdiv (e * ((es.length : Int) - 1)) d).toNat .no) = ln at *
    generalize den (es.getD (Int.fdiv (e * ((es.length : Int) - 1)) d).toNat .no) = ld at *
    generalize num (es.getD ((Int.fdiv (e * ((es.length : Int) - 1)) d).toNat + 1) .no) = hn at *
    generalize den (es.getD ((Int.fdiv (e * ((es.length : Int) - 1)) d).toNat + 1) .no) = hd' at *
    have q0 : 0 < d * ld * hd' := Int.mul_pos (Int.mul_pos hd a0) c0
    have q1 : d * ld ≤ 8 * 6 := Int.mul_le_mul hd8 a1 (by lia) (by lia)
    have q2 : d * ld * hd' ≤ 8 * 6 * 6 := Int.mul_le_mul q1 c1 (by lia) (by lia)
    obtain ⟨f1, f2, f3, f4⟩ := qn_facts (ln * hd' * (d - Int.fmod (e * ((es.length : Int) - 1)) d) + hn * ld * Int.fmod (e * ((es.length : Int) - 1)) d) (d := d * ld * hd') q0
    exact ⟨rfl, f1, Int.le_trans f2 (by lia)⟩
theorem med_is {es : List En} (r : RowE es) (hne : es ≠ []) : medE es = alongE es 4 8 := (along_red r (List.length_pos_iff.mpr hne) (e := 4) (d := 8) (by decide) (by decide) (by decide) (N := 1) (D := 2) (by decide) (by decide))
end pureDue
/-- a name set ahead of those of the loop over the items -/
theorem nrm_due (a o i s : Option Value) (R : Str → Option Value) : (fun y => if y = ("due" : Str) then a else nrm o i s R y) = nrm o i s (fun y => if y = ("due" : Str) then a else R y) := by
  funext y
  unfold nrm
  by_cases h : y = "due"
  · subst h; rfl
  · rw [if_neg h]
    split
    · rfl
    · split
      · rfl
      · split
        · rfl
        · exact (if_neg h).symm
theorem updm_due (a b : Option Value) (R : Str → Option Value) : (fun y => if y = ("due" : Str) then a else if y = ("due" : Str) then b else R y) = (fun y => if y = ("due" : Str) then a else R y) := by
  funext y
  split <;> rfl
section
variable {w : World} {A : Around} {s : Shared} {E : Value → Shared → Prop} {Q : Value → Shared → Prop} {prog : Program}
/-- an item of a list of items -/
theorem item_at {value slice : PySem.Expr} {l : Addr} {vs : List Value} {es : List En} {k : Int} {u : Tok} (hl : s.heap.IsList l vs.toArray) (hv : EnsAt s.heap vs es) (hz : es.length ≤ 1000) (h0 : 0 ≤ k) (h1 : k < es.length)
    (h : ∀ v, EnAt s.heap v (es.getD k.toNat .no) → Q v s) (hs : subscripted slice false (.ref l) (.int k u) = operate [.ref l, .int k u] (getItem (.ref l) (.int k u))) :
    wpAny (model prog w) A (subscriptTail value slice (.ref l) (.int k u)) Q E s := by
  have hk : k.toNat < es.length := by lia
  obtain ⟨v, hvv, hve⟩ := pd_getR hv (List.getElem?_eq_getElem hk)
  have e : es.getD k.toNat .no = es[k.toNat] := by rw [List.getD_eq_getElem?_getD, List.getElem?_eq_getElem hk]; rfl
  rw [← e] at hve
  exact item_litK hl h0 (by lia) hvv (h v hve) hs
end
/-- the ladder of the eighths -/
def ladE (rq : List En) : List En := (List.range 9).map fun k : Nat => alongE rq (k : Int) 8
theorem ladE_len {rq : List En} : (ladE rq).length = 9 := by unfold ladE; rw [List.length_map, List.length_range]
theorem ladE_at {rq : List En} {k : Nat} (h : k < 9) : (ladE rq).getD k .no = alongE rq (k : Int) 8 := by
  unfold ladE
  rw [List.getD_eq_getElem?_getD, List.getElem?_map, List.getElem?_range h]
  rfl
theorem ladE_is {rq : List En} (r : RowE rq) (hne : rq ≠ []) : ((List.range 9).map fun k : Nat => En.q (qn (k : Int) 8) (qd (k : Int) 8)).map (qv rq) = ladE rq := by
  unfold ladE
  rw [List.map_map]
  refine List.map_congr_left fun k hk => ?_
  have := List.mem_range.mp hk
  exact q8_along r hne (by lia) (by lia)
theorem lt_of_all {d : Addr} {l : List (Addr × Obj)} (h : AllLt d l) : ∀ q ∈ l, @LT.lt Nat _ q.1 d := by
  induction l with
  | nil => exact fun q hq => nomatch hq
  | cons p r ih =>
    intro q hq
    rcases List.mem_cons.mp hq with e | hq
    · rw [e]; exact h.1
    · exact ih h.2 q hq
--REG
set_option hygiene false in
local macro_rules | `(tactic| k_all) => `(tactic| assumption)
set_option hygiene false in
local macro_rules | `(tactic| walk_at "call ref") => `(tactic| k_call_by "MH" (call (Value.ref 222) _ _))
set_option hygiene false in
local macro_rules | `(tactic| walk_at "getAttr ref") => `(tactic| (k_here; first | ((with_reducible show wpAny _ _ (getAttr (Value.ref _) (PySem.Str.ofString "items") _) _ _ _); walk_at "MINE vi") | ((with_reducible show wpAny _ _ (getAttr (Value.ref _) (PySem.Str.ofString "kind") _) _ _ _); walk_at "MINE vk")))
set_option hygiene false in
local macro_rules | `(tactic| walk_at "MINE hN") => `(tactic| k_call_by "MH" (subscriptTail (PySem.Expr.Name _ _) _ (Value.ref _) (Value.int _ _)))
set_option hygiene false in
local macro_rules | `(tactic| walk_at "MINE hA") => `(tactic| k_call_by "MH" (subscriptTail (PySem.Expr.Attribute _ _ _) _ (Value.ref _) (Value.int _ _)))
set_option hygiene false in
local macro_rules | `(tactic| walk_at "MINE hW") => `(tactic| (k_here; refine Halt.of ?_))
set_option hygiene false in
local macro_rules | `(tactic| walk_at "exec While BoolOp cons nil") => `(tactic| walk_at "MINE hW")
set_option hygiene false in
local macro_rules | `(tactic| walk_at "subscriptTail") => `(tactic| walk_at "MINE hN")
set_option hygiene false in
local macro_rules | `(tactic| walk_at "subscriptTail Name Name ref int") => `(tactic| walk_at "MINE hN")
set_option hygiene false in
local macro_rules | `(tactic| walk_at "subscriptTail Name Constant ref int") => `(tactic| walk_at "MINE hN")
set_option hygiene false in
local macro_rules | `(tactic| walk_at "subscriptTail Name BinOp ref int") => `(tactic| walk_at "MINE hN")
set_option hygiene false in
local macro_rules | `(tactic| walk_at "subscriptTail Attribute Constant ref int") => `(tactic| walk_at "MINE hA")
set_option hygiene false in
local macro_rules | `(tactic| walk_at "subscriptTail") => `(tactic| walk_at "MINE hA")
set_option hygiene false in
local macro_rules | `(tactic| walk_at "exec While BoolOp") => `(tactic| walk_at "MINE hW")
--END

theorem law_main.tw12041544693149142044 : True := trivial
theorem law_main.tw3089087230457354089 : True := trivial
theorem law_main.tw382589847760490437 : True := trivial
theorem law_main.tw17454590833925841017 : True := trivial
theorem law_main.tw1220363277392054521 : True := trivial
theorem law_main.tw6203637219401983604 : True := trivial
theorem law_main.tw13310843388698549466 : True := trivial
theorem law_main.tw7168573798804341223 : True := trivial
theorem law_main.tw16817226997381757417 : True := trivial
theorem law_main.tw13870453677455058880 : True := trivial
theorem law_main.tw9523933926267990318 : True := trivial
theorem law_main.tw15896684252220390642 : True := trivial
theorem law_main.tw4531443523461958106 : True := trivial
theorem law_main.tw9602263878568307332 : True := trivial
theorem law_main.tw8154313288311835157 : True := trivial
theorem law_main.tw15868612419761575263 : True := trivial
theorem law_main.tw17399555652478548588 : True := trivial
theorem law_main.tw15695037151857913966 : True := trivial
theorem law_main.tw17801278370471946545 : True := trivial
theorem law_main.tw2588129756843715551 : True := trivial
theorem law_main.tw6542496317293267545 : True := trivial
theorem law_main.tw1202896021309395080 : True := trivial
theorem law_main.tw13549663157172779975 : True := trivial
theorem law_main.tw16259562489695818021 : True := trivial
theorem law_main.tw9370678825490581806 : True := trivial
theorem law_main.tw16905197365965161809 : True := trivial
theorem law_main.tw14238313309902607001 : True := trivial
theorem law_main.tw8711080293583665415 : True := trivial
theorem law_main.tw14515392697183175055 : True := trivial
theorem law_main.tw4639247647249917307 : True := trivial
theorem law_main.tw7038448476147143105 : True := trivial
theorem law_main.tw6414342034601066881 : True := trivial
theorem law_main.tw16957199424134404453 : True := trivial
theorem law_main.tw15313485909151214886 : True := trivial
theorem law_main.tw2882944322088309658 : True := trivial
theorem law_main.tw6528655731353538026 : True := trivial
theorem law_main.tw15326385735185213921 : True := trivial
theorem law_main.tw17765507678589190047 : True := trivial
theorem law_main.tw16467681380140949883 : True := trivial
theorem law_main.tw13719672044136329382 : True := trivial
theorem law_main.tw4286670451129054371 : True := trivial
theorem law_main.tw17075072418164326280 : True := trivial
theorem law_main.tw2839249094726729613 : True := trivial
theorem law_main.tw9790266677314923040 : True := trivial
theorem law_main.tw3119011701226289328 : True := trivial
theorem law_main.tw16811086661486768486 : True := trivial
theorem law_main.tw15349631616040032352 : True := trivial
theorem law_main.tw17697154268063975738 : True := trivial
theorem law_main.tw8820042682005523393 : True := trivial
theorem law_main.tw6141952156867622459 : True := trivial
theorem law_main.tw10881453890103974140 : True := trivial
theorem law_main.tw17984584379917024996 : True := trivial
theorem law_main.tw8600082829538141331 : True := trivial
theorem law_main.tw502566766102080955 : True := trivial
theorem law_main.tw9045028375589228301 : True := trivial
theorem law_main.tw9521140960532336315 : True := trivial
theorem law_main.tw7565586166271477107 : True := trivial
theorem law_main.tw12130933025563133720 : True := trivial
theorem law_main.tw14852190230791651943 : True := trivial
theorem law_main.tw2634075551085833457 : True := trivial
theorem law_main.tw2566805764788308867 : True := trivial
theorem law_main.tw8439756127740942094 : True := trivial
theorem law_main.tw7740449721845060590 : True := trivial
theorem law_main.tw10657109100012752564 : True := trivial
theorem law_main.tw451736873604451697 : True := trivial
theorem law_main.tw15612462863219608634 : True := trivial
theorem law_main.tw11982998428722966641 : True := trivial
theorem law_main.tw18306566280308905146 : True := trivial
theorem law_main.tw16816693619920311314 : True := trivial
theorem law_main.tw11001640731237645523 : True := trivial
theorem law_main.tw4239650033708865625 : True := trivial
theorem law_main.tw13223271993750682384 : True := trivial
theorem law_main.tw10109147078405596911 : True := trivial
theorem law_main.tw12048159387131080609 : True := trivial
theorem law_main.tw4901912838363680896 : True := trivial
theorem law_main.tw2907929455906710188 : True := trivial
theorem law_main.tw12304337305734174387 : True := trivial
theorem law_main.tw9717091946391871061 : True := trivial
theorem law_main.tw17089030230274127688 : True := trivial
theorem law_main.tw1956967045709578994 : True := trivial
theorem law_main.tw6837790199442011680 : True := trivial
theorem law_main.tw16359106206957872153 : True := trivial
theorem law_main.tw4569395864223527386 : True := trivial
theorem law_main.tw10763982388264040417 : True := trivial
theorem law_main.tw14804248117441647880 : True := trivial
theorem law_main.tw8232666864550375255 : True := trivial
theorem law_main.tw8966001661348349229 : True := trivial
theorem law_main.tw7153252769426735764 : True := trivial
theorem law_main.tw17368169931878646554 : True := trivial
theorem law_main.tw11027507736909729814 : True := trivial
theorem law_main.tw4311112728919163520 : True := trivial
theorem law_main.tw16719258448803975824 : True := trivial
theorem law_main.tw18339245862140919808 : True := trivial
theorem law_main.tw11815453323184677173 : True := trivial
theorem law_main.tw6374711899453459499 : True := trivial
theorem law_main.tw12787793619100741020 : True := trivial
theorem law_main.tw9326545966430228865 : True := trivial
theorem law_main.tw11865086303149753202 : True := trivial
theorem law_main.tw5174601056664173269 : True := trivial
theorem law_main.tw16060594591030893838 : True := trivial
theorem law_main.tw16470255842041600863 : True := trivial
theorem law_main.tw9880092419112633560 : True := trivial
theorem law_main.tw5165981662236534978 : True := trivial
theorem law_main.tw5567308350407831916 : True := trivial
theorem law_main.tw1616937874273478981 : True := trivial
theorem law_main.tw17854344053548254826 : True := trivial
theorem law_main.tw4373083072877231807 : True := trivial
theorem law_main.tw9197974758214243299 : True := trivial
theorem law_main.tw831747521400388689 : True := trivial
theorem law_main.tw17037347042100133267 : True := trivial
theorem law_main.tw2151718724470915789 : True := trivial
theorem law_main.tw8301434076310847675 : True := trivial
theorem law_main.tw11205864669578823732 : True := trivial
theorem law_main.tw7522505258732067809 : True := trivial
theorem law_main.tw10487471447125364386 : True := trivial
theorem law_main.tw16612466156037334520 : True := trivial
theorem law_main.tw14302578994634034446 : True := trivial
theorem law_main.tw9592294938987003321 : True := trivial
theorem law_main.tw14942403127592114851 : True := trivial
theorem law_main.tw16883744741543859831 : True := trivial
theorem law_main.tw12847597975321103634 : True := trivial
theorem law_main.tw6310285543953168118 : True := trivial
theorem law_main.tw7069095553378882019 : True := trivial
theorem law_main.tw15266619242901897438 : True := trivial
theorem law_main.tw12432885193953334089 : True := trivial
theorem law_main.tw10786171648791691715 : True := trivial
theorem law_main.tw2569652437305536096 : True := trivial
theorem law_main.tw10358596756390571532 : True := trivial
theorem law_main.tw16009459696308240953 : True := trivial
theorem law_main.tw5305077148695228009 : True := trivial
theorem law_main.tw5277089371198760600 : True := trivial
theorem law_main.tw7965756669043804834 : True := trivial
theorem law_main.tw17151216946866669101 : True := trivial
theorem law_main.tw10286626591910895062 : True := trivial
theorem law_main.tw10786015331089108756 : True := trivial
theorem law_main.tw4662259413225237151 : True := trivial
theorem law_main.tw16676930489523055403 : True := trivial
theorem law_main.tw7558351658216449949 : True := trivial
theorem law_main.tw15185233829150455186 : True := trivial
theorem law_main.tw5915535575383643179 : True := trivial
theorem law_main.tw8790940520319788571 : True := trivial
theorem law_main.tw4829194718528574292 : True := trivial
theorem law_main.tw7190224315729582607 : True := trivial
theorem law_main.tw4453874516444154312 : True := trivial
theorem law_main.tw939699325635709149 : True := trivial
theorem law_main.tw11187583078992109907 : True := trivial
theorem law_main.tw267273414137901376 : True := trivial
theorem law_main.tw14585545537936857995 : True := trivial
theorem law_main.tw13971571788958878302 : True := trivial
theorem law_main.tw5189218924152416321 : True := trivial
theorem law_main.tw9890656193443190882 : True := trivial
theorem law_main.tw17894045751029584932 : True := trivial
theorem law_main.tw15573812918238556634 : True := trivial
theorem law_main.tw670352351605735171 : True := trivial
theorem law_main.tw74871221895075420 : True := trivial
theorem law_main.tw9337717605455178342 : True := trivial
theorem law_main.tw1310812633317535026 : True := trivial
theorem law_main.tw6833777438145440775 : True := trivial
theorem law_main.tw959487037166674673 : True := trivial
theorem law_main.tw12288263904870208558 : True := trivial
theorem law_main.tw12891761685084502003 : True := trivial
theorem law_main.tw4536762805718306830 : True := trivial
theorem law_main.tw6956295650827473936 : True := trivial
theorem law_main.tw1309912490025323849 : True := trivial
theorem law_main.tw9326305028756454253 : True := trivial
theorem law_main.tw6972923202651475832 : True := trivial
theorem law_main.tw1937036719133941924 : True := trivial
theorem law_main.tw1303358117766163559 : True := trivial
theorem law_main.tw4692588369361866376 : True := trivial
theorem law_main.tw14660642328910704625 : True := trivial
theorem law_main.tw15422167041202342230 : True := trivial
theorem law_main.tw4712834384252327196 : True := trivial
theorem law_main.tw4490709545114356312 : True := trivial
theorem law_main.tw400879596904773353 : True := trivial
theorem law_main.tw13494863479825066927 : True := trivial
theorem law_main.tw10930639806016864394 : True := trivial
theorem law_main.tw12275723354351644936 : True := trivial
theorem law_main.tw5436750570899127829 : True := trivial
theorem law_main.tw7927168417451389004 : True := trivial
theorem law_main.tw1982258038718618731 : True := trivial
theorem law_main.tw6106796548741521491 : True := trivial
theorem law_main.tw3684041266594551646 : True := trivial
theorem law_main.tw16049186466863839474 : True := trivial
theorem law_main.tw9604255054778368623 : True := trivial
theorem law_main.tw14706981431437613707 : True := trivial
theorem law_main.tw6688468369064155325 : True := trivial
theorem law_main.tw10643224799968189688 : True := trivial
theorem law_main.tw607154799896227329 : True := trivial
theorem law_main.tw2756449118758842500 : True := trivial
theorem law_main.tw3036814516751196943 : True := trivial
theorem law_main.tw2146275224559122111 : True := trivial
theorem law_main.tw5657269846823442647 : True := trivial
theorem law_main.tw4469978911400333188 : True := trivial
theorem law_main.tw781019644868853921 : True := trivial
theorem law_main.tw16054500444634001434 : True := trivial
theorem law_main.tw11776961702185697424 : True := trivial
theorem law_main.tw18047335243990471254 : True := trivial
theorem law_main.tw12807018679685582186 : True := trivial
theorem law_main.tw12367322884079782491 : True := trivial
theorem law_main.tw16360490637440641877 : True := trivial
theorem law_main.tw13912087519313717620 : True := trivial
theorem law_main.tw4236781243544061008 : True := trivial
theorem law_main.tw12702379726426581447 : True := trivial
theorem law_main.tw12731874653704580340 : True := trivial
theorem law_main.tw2392245640518502878 : True := trivial
theorem law_main.tw17582310113230925281 : True := trivial
theorem law_main.tw13212550689137224838 : True := trivial
theorem law_main.tw15414676173788412579 : True := trivial
theorem law_main.tw7212722815868226938 : True := trivial
theorem law_main.tw9270046347867286811 : True := trivial
theorem law_main.tw7289748503323628267 : True := trivial
theorem law_main.tw936804366513844284 : True := trivial
theorem law_main.tw15435689404240984815 : True := trivial
theorem law_main.tw11505977979378491932 : True := trivial
theorem law_main.tw18005520850147448220 : True := trivial
theorem law_main.tw14061317263530931702 : True := trivial
theorem law_main.tw13158996258426225200 : True := trivial
theorem law_main.tw6489876347386804070 : True := trivial
theorem law_main.tw17284001305151087744 : True := trivial
theorem law_main.tw14366616261464304805 : True := trivial
theorem law_main.tw5954660562397826303 : True := trivial
theorem law_main.tw12665054814192332692 : True := trivial
theorem law_main.tw5298901113258135202 : True := trivial
theorem law_main.tw11386265195993025704 : True := trivial
theorem law_main.tw3195618915262806641 : True := trivial
theorem law_main.tw5110643204526610549 : True := trivial
theorem law_main.tw12190908354543683030 : True := trivial
theorem law_main.tw8158384327203623158 : True := trivial
theorem law_main.tw13090650723494836560 : True := trivial
theorem law_main.tw9426311698547362514 : True := trivial
theorem law_main.tw9707841503358145044 : True := trivial
theorem law_main.tw479795159160193079 : True := trivial
theorem law_main.tw4442365607819475525 : True := trivial
theorem law_main.tw15696711027295579848 : True := trivial
theorem law_main.tw1323364466282195526 : True := trivial
theorem law_main.tw17808251812285588450 : True := trivial
theorem law_main.tw16155537167592110816 : True := trivial
theorem law_main.tw16641658687431160304 : True := trivial
theorem law_main.tw10770342226063478279 : True := trivial
theorem law_main.tw8473659384600039577 : True := trivial
theorem law_main.tw9494079761880911977 : True := trivial
theorem law_main.tw13410744797433300967 : True := trivial
theorem law_main.tw17086775463102694531 : True := trivial
theorem law_main.tw666430081763479838 : True := trivial
theorem law_main.tw4106737135158533645 : True := trivial
theorem law_main.tw9537003478206307312 : True := trivial
theorem law_main.tw13743304894672010325 : True := trivial
theorem law_main.tw3021161606810881396 : True := trivial
theorem law_main.tw14240955754270088510 : True := trivial
theorem law_main.tw12080816583209408913 : True := trivial
theorem law_main.tw1886267683660728072 : True := trivial
theorem law_main.tw3081284559749277034 : True := trivial
theorem law_main.tw6507775789197126563 : True := trivial
theorem law_main.tw7366868828155289065 : True := trivial
theorem law_main.tw8983279589339252362 : True := trivial
theorem law_main.tw11929892378161673143 : True := trivial
theorem law_main.tw303248833619763474 : True := trivial
theorem law_main.tw12432251705218270710 : True := trivial
theorem law_main.tw13177359441345021608 : True := trivial
theorem law_main.tw15350965818404911328 : True := trivial
theorem law_main.tw7175247201933843960 : True := trivial
theorem law_main.tw2662024549489332446 : True := trivial
theorem law_main.tw10230735740041196917 : True := trivial
theorem law_main.tw16703461261039084533 : True := trivial
theorem law_main.tw14857593412497526408 : True := trivial
theorem law_main.tw8668950094328330852 : True := trivial
theorem law_main.tw1145593773868255878 : True := trivial
theorem law_main.tw9303910789308108799 : True := trivial
theorem law_main.tw1424550389659463622 : True := trivial
theorem law_main.tw16560278528655694896 : True := trivial
theorem law_main.tw5134795769707920985 : True := trivial
theorem law_main.tw3134724297132247054 : True := trivial
set_option Elab.async true in
set_option maxHeartbeats 400000000 in
theorem law_main : PySem.Challenge.rw_pq1319_01.Holds := by
  w_on
  o_law
  k_head
  (case hw => w_witness2)
  exact (by
  show WalkO _ _ _ (Hook.says (kmHook hd.heap_1 _ _ _)) _ _ _ _
  k_go0
  rename Frag.In _ _ => hIn
  rename Top _ _ _ _ _ (ghostOf _ _) => hTop
  rename Below _ _ _ _ => hBel
  rename Fr _ _ _ _ => F0
  rename News _ _ _ _ => N0
  rename Heap.IsList (ghostOf _ _) _ _ => hls
  rename IntsAre _ _ => hints
  clear hBel
  rw [callerA_is]
  (try dsimp only)
  (try k_fold)
  refine with_room (n := 40) room_caller.deeper fun Rm => ?_
  refine law_post F0 (.ret (.bool true)) ?hq ?rest
  case hq =>
    intro h' tk ps' st h203 hps
    dsimp only
    refine ⟨⟨.inl ⟨_, .bool true, [], rfl, fun _ => ?_, .bool true, ?_, fun _ => ⟨List.nodup_nil, fun a ha => (by cases ha)⟩⟩, st, rfl, by assumption⟩, ⟨ps', h203⟩, trivial⟩
    · rfl
    · with_unfolding_all rfl
  case rest =>
    intro Q' hq E'
    rename ¬ _ < _ => hcond
    rename _ = Data.cell _ => hc1
    rename _ = Data.cell _ => hc2
    (try dsimp only)
    (try k_fold)
    rename Shared => s1
    rename World => w0
    rename List Int => ns
    refine list_name hls fun lA hlA => ?_
    subst hlA
    have hz : ns.length ≤ 63 := by lia
    have F1 : Fr _ _ _ (fun y => if y = ("script" : Str) then some (Value.ref lA) else none) := F0
    clear F0
    generalize hgg : ghostOf s1.heap [(207, 203)] = g at hIn hTop F1 N0 hls hq ⊢
    generalize hLL : s1.heap.objs.size = L at F1 N0 Rm ⊢
    have hL203 : 203 < L := by rw [← hLL]; assumption
    refine cutS2 F1 (fun m nx h => ∃ kd u D vs cs n oK oC, m = (fun y => if y = ("script" : Str) then some (Value.ref lA) else none) ∧ oK.data = .cell (some (.str (kS kd) u)) ∧ oC.data = .cell (some (.ref D)) ∧ IntsAre vs cs ∧ cs.length < 100 ∧ @Ne Nat (L + 1 + 1) D ∧ @Ne Nat (L + 1) D ∧ @Ne Nat 203 D ∧ (L + 1 + 1, oK) ∈ nx ∧ (L + 1, oC) ∈ nx ∧ (D, listOf (List.toArray vs) n) ∈ nx ∧ (203, tabObj #[]) ∈ nx) ?s1 ?r1
    case s1 =>
      refine post_var fun Q9 hQ9 => ?_
      k_steps
      rename Fr _ _ _ _ => F1
      rename News _ _ _ _ => N1
      refine ticks_spec (hIn.keeps F1.keep) (hTop.keeps F1.keep) (by walk_at "MINE room") (hls.at fun o e => F1.keep _ o e) hints hz ?_
      intro h2 tk2 D vs2 cs n2 st2 hDn hD hcs hcl
      have F2 := fr_st F1 st2
      have N2 := news_new F1 N1 st2 hDn hD
      have hne2 := news_lt F1 N1 hDn
      clear F1 N1
      simp only [List.forall_mem_cons, List.forall_mem_append] at hne2
      have nD1 : @Ne Nat _ _ := hne2.1
      have nD2 : @Ne Nat _ _ := hne2.2.1
      have nD3 : @Ne Nat _ _ := hne2.2.2.1
      clear hne2
      k_steps
      · exact hQ9 _ _ ⟨_, _, _, _, rfl, by assumption, by assumption, .lo, _, D, _, _, _, _, _, rfl, by assumption, by assumption, by assumption, by assumption, nD1, nD2, nD3, by k_mem, by k_mem, by k_mem, by k_mem⟩
      · exact hQ9 _ _ ⟨_, _, _, _, rfl, by assumption, by assumption, .it, _, D, _, _, _, _, _, rfl, by assumption, by assumption, by assumption, by assumption, nD1, nD2, nD3, by k_mem, by k_mem, by k_mem, by k_mem⟩
      · exact hQ9 _ _ ⟨_, _, _, _, rfl, by assumption, by assumption, .db, _, D, _, _, _, _, _, rfl, by assumption, by assumption, by assumption, by assumption, nD1, nD2, nD3, by k_mem, by k_mem, by k_mem, by k_mem⟩
    case r1 =>
      intro h tk m nx F1 N0 hP9
      refine goal_var fun G9 hG9 => ?_
      obtain ⟨kd, u, D, vs, cs, n, oK, oC, rfl, hoK, hoC, hcs, hcl, nD1, nD2, nD3, q1, q2, q3, q4⟩ := hP9
      refine hG9 ?_
      clear hG9 G9
      have N1 : News g L h [(L + 1 + 1, oK), (L + 1, oC), (D, listOf (List.toArray vs) n), (203, tabObj #[])] := news_of N0 (List.forall_mem_cons.mpr ⟨q1, List.forall_mem_cons.mpr ⟨q2, List.forall_mem_cons.mpr ⟨q3, List.forall_mem_cons.mpr ⟨q4, List.forall_mem_nil _⟩⟩⟩⟩)
      clear N0 q1 q2 q3 q4
      refine cutS1 F1 (fun m nx h => ∃ H ys hn vs cs n es own, m = (fun y => if y = ("handed" : Str) then some (Value.ref H) else if y = ("script" : Str) then some (Value.ref lA) else none) ∧
        (∀ q ∈ (L + 1 + 1, oK) :: (L + 1, oC) :: (D, listOf (List.toArray vs) n) :: (203, tabObj #[]) :: (H, listOf (List.toArray ys) hn) :: own, q ∈ nx) ∧ (∀ q ∈ own, q.1 ≠ D) ∧ @Ne Nat H D ∧ EnsIn g own ys es ∧ es.length ≤ 8 ∧ (∀ e ∈ es, OkE e ∧ KdE kd e ∧ RedE e) ∧ IntsAre vs cs ∧ cs.length < 100) ?s2 ?r2
      case s2 =>
        refine post_var fun Q9 hQ9 => ?_
        k_steps
        unfold Halt
        rename Fr _ _ _ _ => F2
        rename News _ _ _ _ => N2
        rename IsRange _ _ _ _ _ _ _ _ => hr2
        have hb := tickv_bd cs (m := 9) (by decide)
        have hN := N2
        refine' comp_range (J := fun i ys nx => ∃ vs cs n es own, nx = (L + 1 + 1, oK) :: (L + 1, oC) :: (D, listOf (List.toArray vs) n) :: (203, tabObj #[]) :: own ∧ (∀ q ∈ own, q.1 ≠ D) ∧ EnsIn g own ys es ∧ es.length = i ∧ (∀ e ∈ es, OkE e ∧ KdE kd e ∧ RedE e) ∧ IntsAre vs cs ∧ cs.length < 100) ?qhL ?qhh hr2 (by lia) (by lia) ?qF ?qN ?qj ?turn ?done
        case qF => exact F2
        case qN => exact N2
        case qhL => rfl
        case qhh => exact Room.hh Rm
        case qj => exact ⟨_, _, _, [], [], rfl, fun q hq => (by cases hq), .nil, rfl, fun e he => (by cases he), by assumption, by assumption⟩
        case turn =>
          intro i t ys nx h' tk I C Dc oI oL mv nD hib hys hoff hJ hmv hC F3 N3 hoL
          refine wpAny_tests_nil ?_
          simp only [if_true]
          refine post_var fun Q8 hQ8 => ?_
          refine goal_var fun G9 hG9 => ?_
          obtain ⟨vs3, cs3, n3, es3, own3, rfl, hown, hE, hel, heo, hi3, hl3⟩ := hJ
          refine hG9 ?_
          clear hG9 G9
          k_steps
          have oD := hoff (D, listOf (List.toArray vs3) n3) (by k_mem)
          have oK' := hoff (L + 1 + 1, oK) (by k_mem)
          refine entry_call (pre := [(I, oI), (Dc, listOf ys.toArray nD), (L, oL), (L + 1 + 1, oK), (L + 1, oC)]) (post := (203, tabObj #[]) :: own3) F3 N3 hIn hTop (by walk_at "MINE room")
            (List.forall_mem_cons.mpr ⟨Ne.symm oD.1, List.forall_mem_cons.mpr ⟨Ne.symm oD.2.1, List.forall_mem_cons.mpr ⟨Ne.symm oD.2.2, List.forall_mem_cons.mpr ⟨nD1, List.forall_mem_cons.mpr ⟨nD2, List.forall_mem_nil _⟩⟩⟩⟩⟩) (List.forall_mem_cons.mpr ⟨nD3, hown⟩) hi3 hl3 ?_
          intro h5 tk5 v vs5 n5 own5 hi5 hl5 F5 N5 hv5 hfr
          have hok := entry_ok kd cs3
          refine hQ8 _ _ (elt_end ((L + 1 + 1, oK) :: (L + 1, oC) :: (D, listOf (List.toArray vs5) n5) :: (203, tabObj #[]) :: (own5 ++ own3)) F5 N5 ?_ ?_ ⟨vs5, _, n5, es3 ++ [(entryv kd cs3).1], own5 ++ own3, rfl, ?_, pd_snoc (hE.mono fun q hq => List.mem_append_right _ hq) (hv5.mono fun q hq => List.mem_append_left _ hq), ?_, ?_, hi5, hl5⟩)
          · walk_at "MINE sub"
          · intro q hq
            rcases List.mem_cons.mp hq with e | hq
            · rw [e]; exact oK'
            rcases List.mem_cons.mp hq with e | hq
            · rw [e]; exact hoff (L + 1, oC) (by k_mem)
            rcases List.mem_cons.mp hq with e | hq
            · rw [e]; exact oD
            rcases List.mem_cons.mp hq with e | hq
            · rw [e]; exact hoff (203, tabObj #[]) (by k_mem)
            rcases List.mem_append.mp hq with hq | hq
            · have := hfr q hq
              exact ⟨Ne.symm (this _ (.head _)), Ne.symm (this _ (.tail _ (.head _))), Ne.symm (this _ (.tail _ (.tail _ (.head _))))⟩
            · exact hoff q (.tail _ (.tail _ (.tail _ (.tail _ hq))))
          · intro q hq
            rcases List.mem_append.mp hq with hq | hq
            · exact Ne.symm (hfr q hq (D, listOf (List.toArray vs3) n3) (by simp))
            · exact hown q hq
          · rw [List.length_append, List.length_singleton, hel]
          · intro e he
            rcases List.mem_append.mp he with he | he
            · exact heo e he
            · rw [List.mem_singleton.mp he]; exact ⟨hok.1, hok.2, entry_red kd cs3⟩
        case done =>
          intro hp H ys hn nx h' tk hys hJ hoff N3 F4 N4
          refine goal_var fun G9 hG9 => ?_
          obtain ⟨vs3, cs3, n3, es3, own3, rfl, hown, hE, hel, heo, hi3, hl3⟩ := hJ
          refine hG9 ?_
          clear hG9 G9
          k_steps
          have oD := hoff (D, listOf (List.toArray vs3) n3) (by k_mem)
          rename Fr _ _ _ _ => F6
          rename News _ _ _ _ => N6
          refine hQ9 _ _ ⟨_, _, _, _, rfl, F6, N6, H, ys, hn, vs3, cs3, n3, es3, own3, rfl, ?_, hown, Ne.symm oD.1, hE, by lia, heo, hi3, hl3⟩
          walk_at "MINE sub"
      case r2 =>
        intro h3 tk3 m3 nx3 F2 N0 hP9
        refine goal_var fun G9 hG9 => ?_
        obtain ⟨H, ys, hn, vs2, cs2, n2, es, own, rfl, hsub, hown, hHD, hE, hel, heo, hi2, hl2⟩ := hP9
        refine hG9 ?_
        clear hG9 G9
        have N2 := news_of N0 hsub
        clear N0 hsub F1 N1
        refine cutS1 F2 (fun m nx h => ∃ V dx l2 n2' t1 t2 t3 t4 t5 u5, m = (fun y => if y = ("v" : Str) then some (Value.ref V) else if y = ("handed" : Str) then some (Value.ref H) else if y = ("script" : Str) then some (Value.ref lA) else none) ∧
          (V, instObj 171 dx) ∈ nx ∧ (dx, dictOf (vecES w0.params (.str (kS kd) u5) (.ref l2) t1 t2 t3 t4 t5) 5) ∈ nx ∧ (l2, listOf (List.toArray ys) n2') ∈ nx ∧ (H, listOf (List.toArray ys) hn) ∈ nx ∧ (L + 1 + 1, oK) ∈ nx ∧ (L + 1, oC) ∈ nx ∧ (D, listOf (List.toArray vs2) n2) ∈ nx ∧ (203, tabObj #[]) ∈ nx ∧
          @Ne Nat V D ∧ @Ne Nat dx D ∧ @Ne Nat l2 D ∧ EnsIn g nx ys es) ?s3 ?r3
        case s3 =>
          refine post_var fun Q9 hQ9 => ?_
          have hyl := pd_len hE
          k_steps
          rename Fr _ _ _ _ => F6
          rename News _ _ _ _ => N6
          refine hQ9 _ _ ⟨_, _, _, _, rfl, F6, N6, _, _, _, _, _, _, _, _, _, _, rfl, .head _, .tail _ (.head _), .tail _ (.tail _ (.head _)), by k_mem, by k_mem, by k_mem, by k_mem, by k_mem, ?_, ?_, ?_, hE.mono fun q hq => ?_⟩
          · k_ne
          · k_ne
          · k_ne
          · simp only [List.mem_cons]; simp only [hq, or_true]
        case r3 =>
          intro h4 tk4 m4 nx4 F3 N0 hP9
          refine goal_var fun G9 hG9 => ?_
          obtain ⟨V, dx, l2, n2', t1, t2, t3, t4, t5, u5, rfl, qV, qdx, ql, qH, qK, qC, qD, q203, nV, nd, nl, hE⟩ := hP9
          refine hG9 ?_
          clear hG9 G9
          have hE := ens_off N0 qD cellok_list hE
          have qV := offD_mem qV nV
          have qdx := offD_mem qdx nd
          have ql := offD_mem ql nl
          have qH := offD_mem qH hHD
          have N3 : News g L h4 ((L + 1 + 1, oK) :: (L + 1, oC) :: (D, listOf (List.toArray vs2) n2) :: (203, tabObj #[]) :: offD D nx4) := List.forall_mem_cons.mpr ⟨N0 _ qK, List.forall_mem_cons.mpr ⟨N0 _ qC, List.forall_mem_cons.mpr ⟨N0 _ qD, List.forall_mem_cons.mpr ⟨N0 _ q203, fun q hq => N0 q (offD_sub q hq)⟩⟩⟩⟩
          have hoff4 : ∀ q ∈ offD D nx4, q.1 ≠ D := offD_ne
          generalize offD D nx4 = rs at *
          clear N0 qK qC qD q203 F2 N2
          refine cutS1 F3 (fun m nx h => ∃ G8 gs gn, ∃ zs : List Int, m = (fun y => if y = ("eighths" : Str) then some (Value.ref G8) else if y = ("v" : Str) then some (Value.ref V) else if y = ("handed" : Str) then some (Value.ref H) else if y = ("script" : Str) then some (Value.ref lA) else none) ∧
            (G8, listOf (List.toArray gs) gn) ∈ nx ∧ (L + 1 + 1, oK) ∈ nx ∧ (203, tabObj #[]) ∈ nx ∧ (∀ q ∈ rs, q ∈ nx) ∧ EnsIn g [] gs (zs.map e8) ∧ zs.length ≤ 5 ∧ (∀ z ∈ zs, 0 ≤ z ∧ z < 13)) ?s4 ?r4
          case s4 =>
            refine post_var fun Q9 hQ9 => ?_
            k_steps
            unfold Halt
            rename Fr _ _ _ _ => F4
            rename News _ _ _ _ => N4
            rename IsRange _ _ _ _ _ _ _ _ => hr4
            have hb4 := tickv_bd cs2 (m := 6) (by decide)
            refine' comp_range (J := fun i ys nx => ∃ vs cs n, ∃ zs : List Int, nx = (L + 1 + 1, oK) :: (L + 1, oC) :: (D, listOf (List.toArray vs) n) :: (203, tabObj #[]) :: rs ∧ IntsAre ys zs ∧ zs.length = i ∧ (∀ z ∈ zs, 0 ≤ z ∧ z < 13) ∧ IntsAre vs cs ∧ cs.length < 100) ?qhL ?qhh hr4 (by lia) (by lia) ?qF ?qN ?qj ?turn ?done
            case qF => exact F4
            case qN => exact N4
            case qhL => rfl
            case qhh => exact Room.hh Rm
            case qj => exact ⟨_, _, _, [], rfl, .nil, rfl, fun e he => (by cases he), by assumption, by assumption⟩
            case turn =>
              intro i t ys nx h' tk I C Dc oI oL mv nD hib hys hoff hJ hmv hC F5 N5 hoL
              refine wpAny_tests_nil ?_
              simp only [if_true]
              refine post_var fun Q8 hQ8 => ?_
              refine goal_var fun G9 hG9 => ?_
              obtain ⟨vs5, cs5, n5, zs5, rfl, hz5, hzl, hzb, hi5, hl5⟩ := hJ
              refine hG9 ?_
              clear hG9 G9
              have oD := hoff (D, listOf (List.toArray vs5) n5) (by k_mem)
              have hb5 := tickv_bd cs5 (m := 13) (by decide)
              have nDI : @Ne Nat D I := oD.1
              have nDD : @Ne Nat D Dc := oD.2.1
              have nDL : @Ne Nat D L := oD.2.2
              k_steps
              rename Fr _ _ _ _ => F7
              rename News _ _ _ _ => N7
              exact hQ8 _ _ (elt_end ((L + 1 + 1, oK) :: (L + 1, oC) :: (D, _) :: (203, tabObj #[]) :: rs) F7 N7 (fun q hq => hq) (off_swap (P := fun a => a ≠ I ∧ a ≠ Dc ∧ a ≠ L) (pre := [(L + 1 + 1, oK), (L + 1, oC)]) hoff) ⟨_, _, _, zs5 ++ [tickv cs5 13], rfl, ints_snoc hz5 _ _, by rw [List.length_append, List.length_singleton, hzl], fun z hz => (List.mem_append.mp hz).elim (hzb z) (fun hz => by rw [List.mem_singleton.mp hz]; exact hb5), by assumption, by assumption⟩)
            case done =>
              intro hp T ts tn nx h' tk hys hJ hoff N5 F6 N6
              refine goal_var fun G9 hG9 => ?_
              obtain ⟨vs5, cs5, n5, zs5, rfl, hz5, hzl, hzb, hi5, hl5⟩ := hJ
              refine hG9 ?_
              clear hG9 G9
              have hzt := hz5.length
              k_steps
              unfold Halt
              refine' comp_led (l := T) (vs := ts) (nn := tn) (J := fun i ys nx => nx = (T, listOf (List.toArray ts) tn) :: (L + 1 + 1, oK) :: (L + 1, oC) :: (D, listOf (List.toArray vs5) n5) :: (203, tabObj #[]) :: rs ∧ EnsIn g [] ys ((zs5.take i).map e8)) ?ihL ?ihh ?ihl ?iF ?iN ?ij ?isz ?iturn ?idone
              case iF => exact F6
              case iN => exact N6
              case ihL => rfl
              case ihh => exact Room.hh Rm
              case ihl => rintro i ys nx ⟨rfl, _⟩; exact .head _
              case ij => exact ⟨rfl, .nil⟩
              case isz => lia
              case iturn =>
                intro i v ys nx h' tk I C Dc oI oL mv nD hiv hys hoff hJ hmv hC F7 N7 hoL
                refine wpAny_tests_nil ?_
                simp only [if_true]
                refine post_var fun Q8 hQ8 => ?_
                refine goal_var fun G9 hG9 => ?_
                obtain ⟨rfl, hJe⟩ := hJ
                obtain ⟨z, tz, rfl, hzi⟩ := ints_getD hz5 hiv
                refine hG9 ?_
                clear hG9 G9
                have htm := take_map_succ e8 zs5 i z hzi
                k_steps
                · have e : e8 z = .no := if_pos (by assumption)
                  exact hQ8 _ _ (elt_end _ (by assumption) (by assumption) (fun q hq => hq) hoff ⟨rfl, by rw [htm, e]; exact pd_snoc hJe rfl⟩)
                · have e : e8 z = .i (z - 1) := if_neg (by assumption)
                  exact hQ8 _ _ (elt_end _ (by assumption) (by assumption) (fun q hq => hq) hoff ⟨rfl, by rw [htm, e]; exact pd_snoc hJe ⟨_, rfl⟩⟩)
              case idone =>
                intro hp G8 gs gn nx h' tk hys hJ hoff N7 F8 N8
                obtain ⟨rfl, hJe⟩ := hJ
                rw [hzt, List.take_length] at hJe
                k_steps
                exact hQ9 _ _ ⟨_, _, _, _, rfl, by assumption, by assumption, _, _, _, zs5, rfl, .head _, by k_mem, by k_mem, fun q hq => (by simp only [List.mem_cons]; simp only [hq, or_true]), hJe, by lia, hzb⟩
          case r4 =>
            intro h5 tk5 m5 nx5 F4 N0 hP9
            refine goal_var fun G9 hG9 => ?_
            obtain ⟨G8, gs, gn, zs, rfl, q8, qK, q203, qrs, hG, hzl, hzb⟩ := hP9
            refine hG9 ?_
            clear hG9 G9
            have N4 : News g L h5 ((G8, listOf (List.toArray gs) gn) :: (L + 1 + 1, oK) :: (203, tabObj #[]) :: rs) := List.forall_mem_cons.mpr ⟨N0 _ q8, List.forall_mem_cons.mpr ⟨N0 _ qK, List.forall_mem_cons.mpr ⟨N0 _ q203, fun q hq => N0 q (qrs q hq)⟩⟩⟩
            have hgl := pd_len hG
            rw [List.length_map] at hgl
            clear N0 q8 qK q203 qrs F3 N3
            refine cutS1 F4 (fun m nx h => ∃ S ss sn, m = (fun y => if y = ("shares" : Str) then some (Value.ref S) else if y = ("eighths" : Str) then some (Value.ref G8) else if y = ("v" : Str) then some (Value.ref V) else if y = ("handed" : Str) then some (Value.ref H) else if y = ("script" : Str) then some (Value.ref lA) else none) ∧
              (S, listOf (List.toArray ss) sn) ∈ nx ∧ (G8, listOf (List.toArray gs) gn) ∈ nx ∧ (L + 1 + 1, oK) ∈ nx ∧ (203, tabObj #[]) ∈ nx ∧ (∀ q ∈ rs, q ∈ nx) ∧ EnsIn g nx ss (zs.map sh8)) ?s5 ?r5
            case s5 =>
              refine post_var fun Q9 hQ9 => ?_
              k_steps
              unfold Halt
              rename Fr _ _ _ _ => F5
              rename News _ _ _ _ => N5
              refine' comp_led (l := G8) (vs := gs) (nn := gn) (J := fun i ys nx => ((G8, listOf (List.toArray gs) gn) ∈ nx ∧ (L + 1 + 1, oK) ∈ nx ∧ (203, tabObj #[]) ∈ nx ∧ (∀ q ∈ rs, q ∈ nx)) ∧ EnsIn g nx ys ((zs.take i).map sh8)) ?qhL ?qhh ?qhl ?qF ?qN ?qj ?qsz ?turn ?done
              case qF => exact F5
              case qN => exact N5
              case qhL => rfl
              case qhh => exact Room.hh Rm
              case qhl => rintro i ys nx ⟨⟨q, _⟩, _⟩; exact q
              case qj => exact ⟨⟨.head _, by k_mem, by k_mem, fun q hq => (by simp only [List.mem_cons]; simp only [hq, or_true])⟩, .nil⟩
              case qsz => lia
              case turn =>
                intro i v ys nx h' tk I C Dc oI oL mv nD hiv hys hoff hJ hmv hC F6 N6 hoL
                refine wpAny_tests_nil ?_
                simp only [if_true]
                refine post_var fun Q8 hQ8 => ?_
                refine goal_var fun G9 hG9 => ?_
                obtain ⟨⟨j1, j2, j3, j4⟩, hJe⟩ := hJ
                obtain ⟨e, he, hve⟩ := pd_get hG hiv
                refine hG9 ?_
                clear hG9 G9
                obtain ⟨z, hz, rfl⟩ : ∃ z, zs[i]? = some z ∧ e8 z = e := by
                  rw [List.getElem?_map] at he
                  cases q : zs[i]? with
                  | none => rw [q] at he; cases he
                  | some z => rw [q] at he; exact ⟨z, rfl, Option.some.inj he⟩
                have htm := take_map_succ sh8 zs i z hz
                by_cases h12 : z = 12
                · rw [show e8 z = .no from if_pos h12] at hve
                  obtain rfl := hve
                  rw [show sh8 z = .no from if_pos h12] at htm
                  k_steps
                  exact hQ8 _ _ (elt_end _ (by assumption) (by assumption) (fun q hq => hq) hoff ⟨⟨j1, j2, j3, j4⟩, by rw [htm]; exact pd_snoc hJe rfl⟩)
                · rw [show e8 z = .i (z - 1) from if_neg h12] at hve
                  obtain ⟨tz, rfl⟩ := hve
                  rw [show sh8 z = .q (qn (z - 1) 8) (qd (z - 1) 8) from if_neg h12] at htm
                  k_steps
                  rename _ ≠ _ ∧ _ => hq9
                  exact hQ8 _ _ (elt_new (by assumption) (by assumption) hq9 hoff ⟨⟨.tail _ j1, .tail _ j2, .tail _ j3, fun q hq => .tail _ (j4 q hq)⟩, by rw [htm]; exact pd_snoc (hJe.mono fun q hq => .tail _ hq) (.new (.head _))⟩)
              case done =>
                intro hp S ss sn nx h' tk hys hJ hoff N7 F8 N8
                refine goal_var fun G9 hG9 => ?_
                obtain ⟨⟨j1, j2, j3, j4⟩, hJe⟩ := hJ
                refine hG9 ?_
                clear hG9 G9
                rw [hgl, List.take_length] at hJe
                k_steps
                exact hQ9 _ _ ⟨_, _, _, _, rfl, by assumption, by assumption, _, _, _, rfl, .head _, .tail _ j1, .tail _ j2, .tail _ j3, fun q hq => .tail _ (j4 q hq), hJe.mono fun q hq => .tail _ hq⟩
            case r5 =>
              intro h6 tk6 m6 nx6 F5 N0 hP9
              refine goal_var fun G9 hG9 => ?_
              obtain ⟨S, ss, sn, rfl, qS, q8, qK, q203, qrs, hS⟩ := hP9
              refine hG9 ?_
              clear hG9 G9
              have N5 : News g L h6 [(203, tabObj #[]), (L + 1 + 1, oK)] := List.forall_mem_cons.mpr ⟨N0 _ q203, List.forall_mem_cons.mpr ⟨N0 _ qK, List.forall_mem_nil _⟩⟩
              refine goal_var fun G9 hG9 => ?_
              obtain ⟨nxK, K, N6, hnx, kp, hk, hKL, hKc, hKs⟩ := kp_make F5 N5
              refine hG9 ?_
              clear hG9 G9
              have cne : ∀ o : Obj, (∀ vs, o.data ≠ .fields vs) → (∀ v, o.data ≠ .cell v) → ∀ c ∈ [(203, tabObj #[]), (L + 1 + 1, oK)], h6.get? c.1 = some c.2 ∧ c.2 ≠ o := fun o a b => List.forall_mem_cons.mpr ⟨⟨(N0 _ q203).1, fun z => a #[] (by rw [← z])⟩, List.forall_mem_cons.mpr ⟨⟨(N0 _ qK).1, fun z => b (some (.str (kS kd) u)) (by rw [← z]; exact hoK)⟩, List.forall_mem_nil _⟩⟩
              have hcs6 : ∀ c ∈ [(203, tabObj #[]), (L + 1 + 1, oK)], h6.get? c.1 = some c.2 ∧ CellOk c.2 := List.forall_mem_cons.mpr ⟨⟨(N0 _ q203).1, cellok_tab (h := h6) (.inl rfl)⟩, List.forall_mem_cons.mpr ⟨⟨(N0 _ qK).1, cellok_cell hoK⟩, List.forall_mem_nil _⟩⟩
              have toK : ∀ {a o}, (a, o) ∈ nx6 → (∀ vs, o.data ≠ .fields vs) → (∀ v, o.data ≠ .cell v) → K.get? a = some o := fun {a o} hm p q => mem_to hk (N0 _ hm).1 (N0 _ hm).2.1 (cne o p q)
              have toN : ∀ {a o}, (a, o) ∈ nx6 → K.get? a = some o → (a, o) ∈ nxK := fun {a o} hm e => (kp.list a o e).elim (fun z => by have := (N0 _ hm).2.2; rw [z] at this; cases this) id
              have hVK : VecAt w0.params K V (.str (kS kd) u5) (.ref l2) := ⟨dx, t1, t2, t3, t4, t5, toK (qrs _ qV) nofun nofun, toK (qrs _ qdx) nofun nofun⟩
              have hlK : K.IsList l2 ys.toArray := ⟨_, toK (qrs _ ql) nofun nofun, rfl, _, rfl⟩
              have hHK : K.IsList H ys.toArray := ⟨_, toK (qrs _ qH) nofun nofun, rfl, _, rfl⟩
              have h8K : K.IsList G8 gs.toArray := ⟨_, toK q8 nofun nofun, rfl, _, rfl⟩
              have hSK : K.IsList S ss.toArray := ⟨_, toK qS nofun nofun, rfl, _, rfl⟩
              have qHK := toN (qrs _ qH) (toK (qrs _ qH) nofun nofun)
              have q8K := toN q8 (toK q8 nofun nofun)
              have hEK := ens_to F5.ns hk hcs6 (hE.at F5 N0 qrs)
              have hsK := ens_to F5.ns hk hcs6 (hS.at F5 N0 fun q hq => hq)
              have hGK : EnsAt K gs (zs.map e8) := ens_to F5.ns hk hcs6 (hG.at F5 N0 fun q hq => by cases hq)
              have n203 : ∀ q ∈ nxK, q.1 ≠ 203 := fun q hq => hnx q hq _ (.head _)
              have nLK : ∀ q ∈ nxK, q.1 ≠ L + 1 + 1 := fun q hq => hnx q hq _ (.tail _ (.head _))
              have hKg : K.get? 203 = none := hKc _ (.head _)
              have hKk : K.get? (L + 1 + 1) = none := hKc _ (.tail _ (.head _))
              have N7 : News g L h6 ((203, tabObj #[]) :: (L + 1 + 1, oK) :: nxK) := N6
              clear N0 N5 N6 qS q8 qK q203 qrs cne toK toN hcs6 hk hnx hKc F4 N4 hS hE hG qV qdx ql qH hoff4
              have hyl := pd_len hEK
              refine cutS1 F5 (fun m nx h => ∃ B0 bs bn, m = (fun y => if y = ("absent" : Str) then some (Value.ref B0) else if y = ("shares" : Str) then some (Value.ref S) else if y = ("eighths" : Str) then some (Value.ref G8) else if y = ("v" : Str) then some (Value.ref V) else if y = ("handed" : Str) then some (Value.ref H) else if y = ("script" : Str) then some (Value.ref lA) else none) ∧
                (B0, listOf (List.toArray bs) bn) ∈ nx ∧ (203, tabObj #[]) ∈ nx ∧ (L + 1 + 1, oK) ∈ nx ∧ (∀ q ∈ nxK, q ∈ nx) ∧ EnsAt K bs (es.filter lack)) ?s6 ?r6
              case s6 =>
                refine post_var fun Q9 hQ9 => ?_
                k_steps
                unfold Halt
                rename Fr _ _ _ _ => F6
                rename News _ _ _ _ => N8
                refine' comp_led (l := H) (vs := ys) (nn := hn) (J := fun i zs nx => nx = (203, tabObj #[]) :: (L + 1 + 1, oK) :: nxK ∧ EnsAt K zs ((es.take i).filter lack)) ?qhL ?qhh ?qhl ?qF ?qN ?qj ?qsz ?turn ?done
                case qF => exact F6
                case qN => exact N8
                case qhL => rfl
                case qhh => exact Room.hh Rm
                case qhl => rintro i ys nx ⟨rfl, _⟩; exact .tail _ (.tail _ qHK)
                case qj => exact ⟨rfl, .nil⟩
                case qsz => lia
                case turn =>
                  intro i v bs nx h' tk I C Dc oI oL mv nD hiv hys hoff hJ hmv hC F6 N8 hoL
                  refine goal_var fun G9 hG9 => ?_
                  obtain ⟨rfl, hJe⟩ := hJ
                  obtain ⟨e, he, hve⟩ := pd_get hEK hiv
                  obtain ⟨hoe, hke, hre⟩ := heo e (List.mem_of_getElem? he)
                  refine hG9 ?_
                  clear hG9 G9
                  have hft := filter_take_succ lack es i e he
                  have hKh : K.StaysIn h' := kp.stays h' F6.keep fun q hq => (N8 q (.tail _ (.tail _ (.tail _ (.tail _ (.tail _ hq)))))).1
                  have hveh := hve.keeps hKh
                  refine wpAny_tests_one ?_
                  cases e with
                  | no =>
                    obtain rfl := hve
                    rw [show (if lack En.no = true then [En.no] else []) = [En.no] from rfl] at hft
                    k_steps
                    exact elt_end _ (by assumption) (by assumption) (fun q hq => hq) hoff ⟨rfl, by rw [hft]; exact pd_snoc hJe rfl⟩
                  | i k =>
                    obtain ⟨tv, rfl⟩ := hve
                    rw [show (if lack (En.i k) = true then [En.i k] else []) = [] from rfl, List.append_nil] at hft
                    k_steps
                    refine eq_ens (e := .i k) (e' := .q 0 0) ⟨tv, rfl⟩ ⟨_, _, _, rfl, News.isTup (by k_asm) (by k_mem)⟩ (Room.units64 Rm) ?_
                    rw [decide_eq_false (by nofun)]
                    k_steps
                    exact elt_skip _ (by assumption) (by assumption) (fun q hq => .tail _ hq) hoff ⟨rfl, by rw [hft]; exact hJe⟩
                  | q n d =>
                    refine goal_var fun G9 hG9 => ?_
                    obtain ⟨av, tv, uv, rfl, htv⟩ := hve
                    refine hG9 ?_
                    clear hG9 G9
                    k_steps
                    refine eq_ens (e := .q n d) (e' := .q 0 0) ⟨av, tv, uv, rfl, IsTup.keeps htv (by walk_at "MINE kp")⟩ ⟨_, _, _, rfl, News.isTup (by k_asm) (by k_mem)⟩ (Room.units64 Rm) ?_
                    by_cases hnd : En.q n d = .q 0 0
                    · rw [decide_eq_true hnd]
                      rw [show (if lack (En.q n d) = true then [En.q n d] else []) = [En.q n d] from if_pos (by rw [lack_q, decide_eq_true hnd])] at hft
                      k_steps
                      exact elt_end _ (by assumption) (by assumption) (fun q hq => .tail _ hq) hoff ⟨rfl, by rw [hft]; exact pd_snoc hJe ⟨av, tv, uv, rfl, htv⟩⟩
                    · rw [decide_eq_false hnd]
                      rw [show (if lack (En.q n d) = true then [En.q n d] else []) = [] from if_neg (by rw [lack_q, decide_eq_false hnd]; nofun), List.append_nil] at hft
                      k_steps
                      exact elt_skip _ (by assumption) (by assumption) (fun q hq => .tail _ hq) hoff ⟨rfl, by rw [hft]; exact hJe⟩
                case done =>
                  intro hp B0 bs bn nx h' tk hys hJ hoff N9 F8 N10
                  obtain ⟨rfl, hJe⟩ := hJ
                  rw [hyl, List.take_length] at hJe
                  k_steps
                  exact hQ9 _ _ ⟨_, _, _, _, rfl, by assumption, by assumption, _, _, _, rfl, .head _, by k_mem, by k_mem, fun q hq => .tail _ (.tail _ (.tail _ hq)), hJe⟩
              case r6 =>
                intro h7 tk7 m7 nx7 F6 N0 hP9
                refine goal_var fun G9 hG9 => ?_
                obtain ⟨B0, bs, bn, rfl, qB, q203, qK, qsub, hB⟩ := hP9
                refine hG9 ?_
                clear hG9 G9
                have hcL : L + 1 + 1 ≠ L := by lia
                have g2 : g.get? 203 = none := (N0 _ q203).2.2
                have gc : g.get? (L + 1 + 1) = none := (N0 _ qK).2.2
                have q1 : h7.get? 203 = some (tabObj #[]) := (N0 _ q203).1
                have q2 : h7.get? (L + 1 + 1) = some oK := (N0 _ qK).1
                refine goal_var fun G9 hG9 => ?_
                obtain ⟨nx, K1, lp1, to1, st1, hs1, ls1, en1⟩ := relump F6 q1 g2 (.inl rfl) q2 gc hcL hoK
                refine hG9 ?_
                clear hG9 G9
                have kk : K.StaysIn K1 := st1 K (kp.stays h7 F6.keep fun q hq => (N0 q (qsub q hq)).1) hKL hKg hKk
                have hBK : K1.IsList B0 bs.toArray := ls1 _ _ (News.isList N0 qB)
                refine goal_var fun G9 hG9 => ?_
                obtain ⟨N8, kp1, hT1, hKL1, hKg1, hKc1, n2031, nLK1⟩ := lp1
                refine hG9 ?_
                clear hG9 G9
                replace hVK := hVK.keeps kk
                replace hlK := lst_keep hlK kk
                replace hHK := lst_keep hHK kk
                replace h8K := lst_keep h8K kk
                replace hSK := lst_keep hSK kk
                replace hEK := hEK.keeps kk
                replace hsK := hsK.keeps kk
                replace hGK := hGK.keeps kk
                replace hB := hB.keeps kk
                clear N0 q1 q2 qB q203 qK qsub to1 st1 ls1 en1 kk kp N7 hKL hKg hKk n203 nLK qHK q8K hKs F5
                refine lawcut F6 g2 gc hcL hoK hKL1 hKg1 hKc1 (fun m h => m = (fun y => if y = ("absent" : Str) then some (Value.ref B0) else if y = ("shares" : Str) then some (Value.ref S) else if y = ("eighths" : Str) then some (Value.ref G8) else if y = ("v" : Str) then some (Value.ref V) else if y = ("handed" : Str) then some (Value.ref H) else if y = ("script" : Str) then some (Value.ref lA) else none)) ?s7 ?r7
                case s7 =>
                  refine post_var fun Q9 hQ9 => ?_
                  k_steps
                  refine ne_lsts (lst_keep hBK (by walk_at "MINE kp")) (hB.keeps (by walk_at "MINE kp")) (News.isList (by k_asm) (.head _)) (show EnsAt _ [] [] from .nil) (Room.units64 Rm) ?_
                  by_cases hlk : es.filter lack = []
                  · rw [decide_eq_true hlk]
                    k_steps
                    exact hQ9 _ _ ⟨_, _, _, #[], rfl, by assumption, News.get (by k_asm) (by k_mem), hT1.keeps (by walk_at "MINE kp"), News.get (by k_asm) (by k_mem), by walk_at "MINE kp", rfl⟩
                  · rw [decide_eq_false hlk]
                    k_steps
                    rename Fr _ _ _ _ => F7
                    rename News _ _ _ _ => N7
                    refine goal_var fun G9 hG9 => ?_
                    obtain ⟨y1, y2, y3, y4, y5, y6⟩ := gr_make F7 g2
                    refine hG9 ?_
                    clear hG9 G9
                    have hk7 : K1.StaysIn _ := kp1.at F7 N7 (by walk_at "MINE sub")
                    have hany : es.any lack = true := off_any hlk
                    refine kept_lack (g := hideAll [203, L] _) (ps := #[]) (hIn.keeps y1) (hTop.keeps y1) y3 y5 (Rm.mono (by decide)) (News.get N7 (by k_mem)) (hT1.keeps hk7) (hVK.keeps hk7) (lst_keep hlK hk7) (hEK.keeps hk7) (fun e he => ⟨(heo e he).1, (heo e he).2.1⟩) hel hany ⟨rfl, y2, ?_⟩ ?_
                    · exact fun_cons F7 rfl rfl y4 trivial
                    · intro h8 tk8 t8 ps8 v1 v2 v3 v4
                      have F8 : Fr g L h8 _ := F7.of_stays (fun b o q => v1 _ _ (y1 _ _ q)) v2
                      have hk8 : K1.StaysIn h8 := fun b o q => v1 _ _ (y6 K1 hk7 hKL1 hKg1 _ _ q)
                      have hc8 : h8.get? (L + 1 + 1) = some oK := v1 _ _ (hideAll_to (News.get N7 (by k_mem)) (off203 hL203))
                      k_steps
                      exact hQ9 _ _ ⟨_, _, _, ps8, rfl, by assumption, v3, v4, hc8, hk8, rfl⟩
                case r7 =>
                  have lf1 : LF w0 kd u5 V l2 H G8 S ys gs ss es zs K1 := ⟨hVK, hlK, hHK, h8K, hSK, hEK, hsK, hGK⟩
                  clear hVK hlK hHK h8K hSK hEK hsK hGK hB hBK hs1 F6 N8
                  intro h8 tk8 m8 ps8 nx8 K2 F8 hl9 kk hr9 ov
                  refine goal_var fun G9 hG9 => ?_
                  obtain ⟨N8, kp2, hT2, hKL2, hKg2, hKc2, n2032, nLK2⟩ := hl9
                  obtain rfl := hr9
                  refine hG9 ?_
                  clear hG9 G9
                  have lf2 := lf1.keeps kk
                  clear lf1 kk kp1 hT1 hKL1 hKg1 hKc1 n2031 nLK1
                  refine lawcut F8 g2 gc hcL hoK hKL2 hKg2 hKc2 (fun m h => m = (fun y => if y = ("absent" : Str) then some (Value.ref B0) else if y = ("shares" : Str) then some (Value.ref S) else if y = ("eighths" : Str) then some (Value.ref G8) else if y = ("v" : Str) then some (Value.ref V) else if y = ("handed" : Str) then some (Value.ref H) else if y = ("script" : Str) then some (Value.ref lA) else none)) ?s8 ?r8
                  case s8 =>
                    refine post_var fun Q9 hQ9 => ?_
                    refine goal_var fun G9 hG9 => ?_
                    obtain ⟨hVK, hlK, hHK, h8K, hSK, hEK, hsK, hGK⟩ := id lf2
                    refine hG9 ?_
                    clear hG9 G9
                    k_steps
                    rename Fr _ _ _ _ => F7
                    rename News _ _ _ _ => N7
                    refine wlno_spec (hIn.keeps F7.keep) (hTop.keeps F7.keep) (Rm.mono (by decide)) ?_
                    intro h' tk' st'
                    have F9 := fr_st F7 st'
                    have N9 := news_st N7 st'
                    clear F7 N7
                    k_steps
                    refine ne_lsts (lst_keep hlK (by walk_at "MINE kp")) (hEK.keeps (by walk_at "MINE kp")) (lst_keep hHK (by walk_at "MINE kp")) (hEK.keeps (by walk_at "MINE kp")) (Room.units64 Rm) ?_
                    rw [decide_eq_true rfl]
                    k_steps
                    exact hQ9 _ _ ⟨_, _, _, ps8, rfl, by assumption, News.get (by k_asm) (by k_mem), hT2.keeps (by walk_at "MINE kp"), News.get (by k_asm) (by k_mem), by walk_at "MINE kp", rfl⟩
                  case r8 =>
                    intro h9 tk9 m9 ps9 nx9 K3 F9 hl9 kk hr9 ov
                    refine goal_var fun G9 hG9 => ?_
                    obtain ⟨N9, kp3, hT3, hKL3, hKg3, hKc3, n2033, nLK3⟩ := hl9
                    obtain rfl := hr9
                    refine hG9 ?_
                    clear hG9 G9
                    have lf3 := lf2.keeps kk
                    clear lf2 kk kp2 hT2 hKL2 hKg2 hKc2 n2032 nLK2 F8 N8 ov
                    refine lawcut F9 g2 gc hcL hoK hKL3 hKg3 hKc3 (fun m h => ∃ X l3 vs3 t3, m = (fun y => if y = ("left" : Str) then some (Value.ref X) else if y = ("absent" : Str) then some (Value.ref B0) else if y = ("shares" : Str) then some (Value.ref S) else if y = ("eighths" : Str) then some (Value.ref G8) else if y = ("v" : Str) then some (Value.ref V) else if y = ("handed" : Str) then some (Value.ref H) else if y = ("script" : Str) then some (Value.ref lA) else none) ∧ Lft w0 kd t3 X l3 vs3 (es.filter fun e => !lack e) h) ?s9 ?r9
                    case s9 =>
                      refine post_var fun Q9 hQ9 => ?_
                      refine goal_var fun G9 hG9 => ?_
                      obtain ⟨hVK, hlK, hHK, h8K, hSK, hEK, hsK, hGK⟩ := id lf3
                      refine hG9 ?_
                      clear hG9 G9
                      k_steps
                      rename Fr _ _ _ _ => F7
                      rename News _ _ _ _ => N7
                      have hk9 := kp3.at F7 N7 (by walk_at "MINE sub")
                      refine wlyes_spec (hIn.keeps F7.keep) (hTop.keeps F7.keep) (Rm.mono (by decide)) (hVK.keeps hk9) (lst_keep hlK hk9) (hEK.keeps hk9) (fun e he => ⟨(heo e he).1, (heo e he).2.1⟩) hel ?_
                      intro h' tk' X l3 vs3 t3 st' hX3 hl3 hVX hlX hEX
                      have F9 := fr_st F7 st'
                      have N9 := news_st N7 st'
                      have hk9 := kp3.at F9 N9 (by walk_at "MINE sub")
                      have lft : Lft w0 kd t3 X l3 vs3 (es.filter fun e => !lack e) h' := ⟨hVX, hlX, hEX⟩
                      refine goal_var fun G9 hG9 => ?_
                      obtain ⟨nx', K', ⟨N10, kp', hT', hKL', hKg', hKc', n203', nLK'⟩, ov', kk'⟩ := relump2 F9 (two_of N9).1 g2 (hT3.keeps hk9) (two_of N9).2 gc hcL hoK hk9 hKL3 hKg3 hKc3
                      refine hG9 ?_
                      clear hG9 G9
                      replace lft := ov'.lft F9 rfl lft
                      clear F7 N7 N9 st' hVX hlX hEX
                      k_steps
                      rename Fr _ _ _ _ => FF
                      rename News _ _ _ _ => NN
                      have hk' := kp'.at FF NN (by walk_at "MINE sub")
                      exact hQ9 _ _ ⟨_, _, _, ps9, rfl, by assumption, News.get (by k_asm) (.head _), hT'.keeps hk', News.get (by k_asm) (.tail _ (.head _)), fun b o q => hk' _ _ (kk' _ _ q), _, _, _, _, rfl, lft.keeps hk'⟩
                    case r9 =>
                      intro h10 tk10 m10 ps10 nx10 K4 F10 hl9 kk hr9 ov
                      refine goal_var fun G9 hG9 => ?_
                      obtain ⟨N10, kp4, hT4, hKL4, hKg4, hKc4, n2034, nLK4⟩ := hl9
                      obtain ⟨X, l3, vs3, t3, rfl, lft⟩ := hr9
                      refine hG9 ?_
                      clear hG9 G9
                      have lf4 := lf3.keeps kk
                      have lft4 := ov.lft F10 rfl lft
                      clear lf3 kk kp3 hT3 hKL3 hKg3 hKc3 n2033 nLK3 F9 N9 ov lft
                      refine lawcut F10 g2 gc hcL hoK hKL4 hKg4 hKc4 (fun m h => m = (fun y => if y = ("left" : Str) then some (Value.ref X) else if y = ("absent" : Str) then some (Value.ref B0) else if y = ("shares" : Str) then some (Value.ref S) else if y = ("eighths" : Str) then some (Value.ref G8) else if y = ("v" : Str) then some (Value.ref V) else if y = ("handed" : Str) then some (Value.ref H) else if y = ("script" : Str) then some (Value.ref lA) else none)) ?s10 ?r10
                      case s10 =>
                        refine post_var fun Q9 hQ9 => ?_
                        refine goal_var fun G9 hG9 => ?_
                        obtain ⟨hVK, hlK, hHK, h8K, hSK, hEK, hsK, hGK⟩ := id lf4
                        obtain ⟨hXK, hl3K, he3K⟩ := id lft4
                        refine hG9 ?_
                        clear hG9 G9
                        k_steps
                        unfold Halt
                        have hyl := pd_len hEK
                        rename Fr _ _ _ _ => FF
                        rename News _ _ _ _ => NN
                        refine' comp_kp (l := H) (vs := ys) (K := K4) (nxK := nx10) (J := fun i zs nx => nx = (203, tabObj ps10) :: (L + 1 + 1, oK) :: nx10 ∧ EnsAt K4 zs ((es.take i).filter fun e => !lack e)) ?qhL ?qhh kp4 hHK ?qhl ?qF ?qN ?qj ?qsz ?turn ?done
                        case qF => exact FF
                        case qN => exact NN
                        case qhL => rfl
                        case qhh => exact Room.hh Rm
                        case qhl => rintro i ys nx ⟨rfl, _⟩; exact fun q hq => .tail _ (.tail _ hq)
                        case qj => exact ⟨rfl, .nil⟩
                        case qsz => lia
                        case turn =>
                          intro i v bs nx h' tk I C Dc oI oL mv nD hiv hys hoff hJ hmv hC F6 N8 hoL
                          refine goal_var fun G9 hG9 => ?_
                          obtain ⟨rfl, hJe⟩ := hJ
                          obtain ⟨e, he, hve⟩ := pd_get hEK hiv
                          obtain ⟨hoe, hke, hre⟩ := heo e (List.mem_of_getElem? he)
                          refine hG9 ?_
                          clear hG9 G9
                          have hft := filter_take_succ (fun e => !lack e) es i e he
                          have hKh : K4.StaysIn h' := kp4.stays h' F6.keep fun q hq => (N8 q (.tail _ (.tail _ (.tail _ (.tail _ (.tail _ hq)))))).1
                          have hveh := hve.keeps hKh
                          refine wpAny_tests_one ?_
                          cases e with
                          | no =>
                            obtain rfl := hve
                            rw [show (if (!lack En.no) = true then [En.no] else []) = [] from rfl, List.append_nil] at hft
                            k_steps
                            exact elt_skip _ (by assumption) (by assumption) (fun q hq => hq) hoff ⟨rfl, by rw [hft]; exact hJe⟩
                          | i k =>
                            obtain ⟨tv, rfl⟩ := hve
                            rw [show (if (!lack (En.i k)) = true then [En.i k] else []) = [En.i k] from rfl] at hft
                            k_steps
                            refine ne_ens (e := .i k) (e' := .q 0 0) ⟨tv, rfl⟩ ⟨_, _, _, rfl, News.isTup (by k_asm) (by k_mem)⟩ (Room.units64 Rm) ?_
                            rw [decide_eq_false (by nofun)]
                            k_steps
                            exact elt_end _ (by assumption) (by assumption) (fun q hq => .tail _ hq) hoff ⟨rfl, by rw [hft]; exact pd_snoc hJe ⟨tv, rfl⟩⟩
                          | q n d =>
                            refine goal_var fun G9 hG9 => ?_
                            obtain ⟨av, tv, uv, rfl, htv⟩ := hve
                            refine hG9 ?_
                            clear hG9 G9
                            k_steps
                            refine ne_ens (e := .q n d) (e' := .q 0 0) ⟨av, tv, uv, rfl, IsTup.keeps htv (by walk_at "MINE kp")⟩ ⟨_, _, _, rfl, News.isTup (by k_asm) (by k_mem)⟩ (Room.units64 Rm) ?_
                            by_cases hnd : En.q n d = .q 0 0
                            · rw [decide_eq_true hnd]
                              rw [show (if (!lack (En.q n d)) = true then [En.q n d] else []) = [] from if_neg (by rw [lack_q, decide_eq_true hnd]; nofun), List.append_nil] at hft
                              k_steps
                              exact elt_skip _ (by assumption) (by assumption) (fun q hq => .tail _ hq) hoff ⟨rfl, by rw [hft]; exact hJe⟩
                            · rw [decide_eq_false hnd]
                              rw [show (if (!lack (En.q n d)) = true then [En.q n d] else []) = [En.q n d] from if_pos (by rw [lack_q, decide_eq_false hnd]; rfl)] at hft
                              k_steps
                              exact elt_end _ (by assumption) (by assumption) (fun q hq => .tail _ hq) hoff ⟨rfl, by rw [hft]; exact pd_snoc hJe ⟨av, tv, uv, rfl, htv⟩⟩
                        case done =>
                          intro hp C0 cs0 cn0 nx h' tk hys hJ hoff N9 F8 N10
                          obtain ⟨rfl, hJe⟩ := hJ
                          rw [hyl, List.take_length] at hJe
                          clear N9
                          k_steps
                          refine ne_lsts (lst_keep hl3K (by walk_at "MINE kp")) (he3K.keeps (by walk_at "MINE kp")) (News.isList (by k_asm) (.head _)) (hJe.keeps (by walk_at "MINE kp")) (Room.units64 Rm) ?_
                          rw [decide_eq_true rfl]
                          k_steps
                          refine ne_lsts (lst_keep hlK (by walk_at "MINE kp")) (hEK.keeps (by walk_at "MINE kp")) (lst_keep hHK (by walk_at "MINE kp")) (hEK.keeps (by walk_at "MINE kp")) (Room.units64 Rm) ?_
                          rw [decide_eq_true rfl]
                          k_steps
                          rename Fr _ _ _ _ => FF
                          rename News _ _ _ _ => NN
                          have hk' := kp4.at FF NN (by walk_at "MINE sub")
                          exact hQ9 _ _ ⟨_, _, _, ps10, rfl, FF, News.get NN (by k_mem), hT4.keeps hk', News.get NN (by k_mem), hk', rfl⟩
                      case r10 =>
                        intro h11 tk11 m11 ps11 nx11 K5 F11 hl9 kk hr9 ov
                        refine goal_var fun G9 hG9 => ?_
                        obtain ⟨N11, kp5, hT5, hKL5, hKg5, hKc5, n2035, nLK5⟩ := hl9
                        obtain rfl := hr9
                        refine hG9 ?_
                        clear hG9 G9
                        have lf5 := lf4.keeps kk
                        have lft5 := lft4.keeps kk
                        clear lf4 lft4 kk kp4 hT4 hKL4 hKg4 hKc4 n2034 nLK4 F10 N10 ov
                        refine wpAny_noRaise ?_
                        refine lawcut2 F11 g2 gc hcL hoK hKL5 hKg5 hKc5 (fun m h => ∃ R0 rs rn rq u1 u2 u3, m = nrm u1 u2 u3 (fun y => if y = ("row" : Str) then some (Value.ref R0) else if y = ("left" : Str) then some (Value.ref X) else if y = ("absent" : Str) then some (Value.ref B0) else if y = ("shares" : Str) then some (Value.ref S) else if y = ("eighths" : Str) then some (Value.ref G8) else if y = ("v" : Str) then some (Value.ref V) else if y = ("handed" : Str) then some (Value.ref H) else if y = ("script" : Str) then some (Value.ref lA) else none) ∧ g.get? R0 = none ∧ h.get? R0 = some (listOf (List.toArray rs) rn) ∧ EnsAt h rs rq ∧ rq.Perm ((es.filter fun e => !lack e).map toQ) ∧ rq.Pairwise leE) ?s11 ?r11
                        case s11 =>
                          refine post_var fun Q9 hQ9 => ?_
                          refine goal_var fun G9 hG9 => ?_
                          obtain ⟨hVK, hlK, hHK, h8K, hSK, hEK, hsK, hGK⟩ := id lf5
                          obtain ⟨hXK, hl3K, he3K⟩ := id lft5
                          refine hG9 ?_
                          clear hG9 G9
                          k_steps
                          unfold Halt
                          rename Fr _ _ _ _ => FF
                          rename News _ _ _ _ => NN
                          rename _ ∧ _ ∧ AllLt _ _ => hl1
                          refine goal_var fun G9 hG9 => ?_
                          obtain ⟨R0, N12, F12, l203, lK, lall⟩ : ∃ R0, News g L _ ((R0, listOf #[] 0) :: (203, tabObj ps11) :: (L + 1 + 1, oK) :: nx11) ∧ Fr g L _ (fun y => if y = ("row" : Str) then some (Value.ref R0) else if y = ("left" : Str) then some (Value.ref X) else if y = ("absent" : Str) then some (Value.ref B0) else if y = ("shares" : Str) then some (Value.ref S) else if y = ("eighths" : Str) then some (Value.ref G8) else if y = ("v" : Str) then some (Value.ref V) else if y = ("handed" : Str) then some (Value.ref H) else if y = ("script" : Str) then some (Value.ref lA) else none) ∧ (203 < R0 ∧ L + 1 + 1 < R0 ∧ AllLt R0 nx11) := ⟨_, NN, FF, hl1⟩
                          refine hG9 ?_
                          clear hG9 G9
                          clear NN FF hl1
                          generalize hfs : (es.filter fun e => !lack e) = fs at *
                          have hfo : ∀ e ∈ fs, OkE e ∧ KdE kd e ∧ lack e = false := fun e he => by
                            rw [← hfs] at he
                            obtain ⟨h1, h2⟩ := List.mem_filter.mp he
                            exact ⟨(heo e h1).1, (heo e h1).2.1, by cases q : lack e with | false => rfl | true => rw [q] at h2; cases h2⟩
                          have hfl : fs.length ≤ 8 := by rw [← hfs]; exact Nat.le_trans (List.length_filter_le _ _) hel
                          have hvl := pd_len he3K
                          have hRe : (fun y => if y = ("row" : Str) then some (Value.ref R0) else if y = ("left" : Str) then some (Value.ref X) else if y = ("absent" : Str) then some (Value.ref B0) else if y = ("shares" : Str) then some (Value.ref S) else if y = ("eighths" : Str) then some (Value.ref G8) else if y = ("v" : Str) then some (Value.ref V) else if y = ("handed" : Str) then some (Value.ref H) else if y = ("script" : Str) then some (Value.ref lA) else none) = nrm none none none (fun y => if y = ("row" : Str) then some (Value.ref R0) else if y = ("left" : Str) then some (Value.ref X) else if y = ("absent" : Str) then some (Value.ref B0) else if y = ("shares" : Str) then some (Value.ref S) else if y = ("eighths" : Str) then some (Value.ref G8) else if y = ("v" : Str) then some (Value.ref V) else if y = ("handed" : Str) then some (Value.ref H) else if y = ("script" : Str) then some (Value.ref lA) else none) := nrm_new rfl rfl rfl
                          rw [hRe] at F12
                          refine loop_kp (K := K5) (nxK := nx11) (vs := vs3) (J := fun i m nx => ∃ rs rn rq own u1 u2 u3, nx = (R0, listOf (List.toArray rs) rn) :: (203, tabObj ps11) :: (L + 1 + 1, oK) :: (own ++ nx11) ∧ m = nrm u1 u2 u3 (fun y => if y = ("row" : Str) then some (Value.ref R0) else if y = ("left" : Str) then some (Value.ref X) else if y = ("absent" : Str) then some (Value.ref B0) else if y = ("shares" : Str) then some (Value.ref S) else if y = ("eighths" : Str) then some (Value.ref G8) else if y = ("v" : Str) then some (Value.ref V) else if y = ("handed" : Str) then some (Value.ref H) else if y = ("script" : Str) then some (Value.ref lA) else none) ∧ (∀ q ∈ own, q.1 ≠ R0) ∧ EnsIn g (own ++ nx11) rs rq ∧ rq.Perm ((fs.take i).map toQ) ∧ rq.Pairwise leE) ?qhL ?qhh kp5 hl3K ?qhl F12 N12 ?qj ?turn ?done
                          case qhL => rfl
                          case qhh => exact Room.hh Rm
                          case qhl => rintro i m nx ⟨rs, rn, rq, own, u1, u2, u3, rfl, _⟩; exact fun q hq => .tail _ (.tail _ (.tail _ (List.mem_append_right _ hq)))
                          case qj => exact ⟨[], 0, [], [], none, none, none, rfl, rfl, fun q hq => (by cases hq), .nil, .nil, .nil⟩
                          case turn =>
                            intro i v m₁ nx h' tk I oI hiv hoffI hJ F13 N13
                            refine post_var fun Q8 hQ8 => ?_
                            refine goal_var fun G9 hG9 => ?_
                            obtain ⟨rs, rn, rq, own, u1, u2, u3, rfl, rfl, hown, hE, hperm, hsort⟩ := hJ
                            obtain ⟨e, he, hve⟩ := pd_get he3K hiv
                            obtain ⟨hoe, hke, hle⟩ := hfo e (List.mem_of_getElem? he)
                            refine hG9 ?_
                            clear hG9 G9
                            have htm := take_map_succ toQ fs i e he
                            have F14 := F13
                            unfold updm at F14
                            rw [nrm_one] at F14
                            clear F13
                            unfold nrm at F14
                            refine cutS1 F14 (fun m nx h => ∃ it own', m = nrm (some v) (some (.ref it)) u3 (fun y => if y = ("row" : Str) then some (Value.ref R0) else if y = ("left" : Str) then some (Value.ref X) else if y = ("absent" : Str) then some (Value.ref B0) else if y = ("shares" : Str) then some (Value.ref S) else if y = ("eighths" : Str) then some (Value.ref G8) else if y = ("v" : Str) then some (Value.ref V) else if y = ("handed" : Str) then some (Value.ref H) else if y = ("script" : Str) then some (Value.ref lA) else none) ∧ nx = (I, oI) :: (R0, listOf (List.toArray rs) rn) :: (203, tabObj ps11) :: (L + 1 + 1, oK) :: ((own' ++ own) ++ nx11) ∧ (∀ q ∈ own', q.1 ≠ R0 ∧ q.1 ≠ I) ∧ EnIn g (own' ++ nx11) (.ref it) (toQ e)) ?ta ?tb
                            case ta =>
                              refine post_var fun Q7 hQ7 => ?_
                              refine goal_var fun G9 hG9 => ?_
                              obtain ⟨e2, he2, hvI⟩ := pd_get (ens_list kp5 he3K) hiv
                              refine hG9 ?_
                              clear hG9 G9
                              obtain rfl : e = e2 := Option.some.inj (he.symm.trans he2)
                              clear he2
                              cases kd with
                              | db =>
                                simp only [kS] at hoK
                                cases e with
                                | no => cases hle
                                | i k => exact hke.elim
                                | q n d =>
                                  refine goal_var fun G9 hG9 => ?_
                                  obtain ⟨a, o, rfl, ho, hm⟩ := hvI
                                  refine hG9 ?_
                                  clear hG9 G9
                                  k_steps
                                  rename Fr _ _ _ _ => FF
                                  rename News _ _ _ _ => NN
                                  exact hQ7 _ _ ⟨_, _, _, _, rfl, FF, NN, a, [], nrm_item _ _ _ _ _, rfl, fun q hq => (by cases hq), ⟨a, o, rfl, ho, hm⟩⟩
                              | lo =>
                                simp only [kS] at hoK
                                cases e with
                                | no => cases hle
                                | q n d => exact hke.elim
                                | i k =>
                                  obtain ⟨t, rfl⟩ := hvI
                                  k_steps
                                  rename Fr _ _ _ _ => FF
                                  rename News _ _ _ _ => NN
                                  rename _ ∧ _ ∧ _ ∧ _ ∧ AllLt _ _ => hl1
                                  refine goal_var fun G9 hG9 => ?_
                                  obtain ⟨D1, tt, N15, F15, hl2⟩ : ∃ D1 tt, News g L _ ((D1, tupO [.int k t, .int 1 tt]) :: (I, oI) :: (R0, listOf (List.toArray rs) rn) :: (203, tabObj ps11) :: (L + 1 + 1, oK) :: (own ++ nx11)) ∧ Fr g L _ (fun y => if y = ("item" : Str) then some (Value.ref D1) else nrm (some (.int k t)) u2 u3 (fun y => if y = ("row" : Str) then some (Value.ref R0) else if y = ("left" : Str) then some (Value.ref X) else if y = ("absent" : Str) then some (Value.ref B0) else if y = ("shares" : Str) then some (Value.ref S) else if y = ("eighths" : Str) then some (Value.ref G8) else if y = ("v" : Str) then some (Value.ref V) else if y = ("handed" : Str) then some (Value.ref H) else if y = ("script" : Str) then some (Value.ref lA) else none) y) ∧ (I < D1 ∧ R0 < D1 ∧ 203 < D1 ∧ L + 1 + 1 < D1 ∧ AllLt D1 (own ++ nx11)) := ⟨_, _, NN, FF, hl1⟩
                                  refine hG9 ?_
                                  clear hG9 G9
                                  rw [nrm_item] at F15
                                  refine hQ7 _ _ ⟨_, _, _, (I, oI) :: (R0, listOf (List.toArray rs) rn) :: (203, tabObj ps11) :: (L + 1 + 1, oK) :: (([(D1, tupO [.int k t, .int 1 tt])] ++ own) ++ nx11), rfl, F15, news_of N15 (fun q hq => ?_), D1, [(D1, tupO [.int k t, .int 1 tt])], rfl, rfl, fun q hq => ?_, ?_⟩
                                  · revert q
                                    walk_at "MINE sub"
                                  · rw [List.mem_singleton.mp hq]
                                    exact ⟨Nat.ne_of_gt hl2.2.1, Nat.ne_of_gt hl2.1⟩
                                  · exact EnIn.new (.head _)
                              | it =>
                                simp only [kS] at hoK
                                cases e with
                                | no => cases hle
                                | q n d => exact hke.elim
                                | i k =>
                                  obtain ⟨t, rfl⟩ := hvI
                                  k_steps
                                  rename Fr _ _ _ _ => FF
                                  rename News _ _ _ _ => NN
                                  rename _ ∧ _ ∧ _ ∧ _ ∧ AllLt _ _ => hl1
                                  refine goal_var fun G9 hG9 => ?_
                                  obtain ⟨D1, tt, N15, F15, hl2⟩ : ∃ D1 tt, News g L _ ((D1, tupO [.int k t, .int 1 tt]) :: (I, oI) :: (R0, listOf (List.toArray rs) rn) :: (203, tabObj ps11) :: (L + 1 + 1, oK) :: (own ++ nx11)) ∧ Fr g L _ (fun y => if y = ("item" : Str) then some (Value.ref D1) else nrm (some (.int k t)) u2 u3 (fun y => if y = ("row" : Str) then some (Value.ref R0) else if y = ("left" : Str) then some (Value.ref X) else if y = ("absent" : Str) then some (Value.ref B0) else if y = ("shares" : Str) then some (Value.ref S) else if y = ("eighths" : Str) then some (Value.ref G8) else if y = ("v" : Str) then some (Value.ref V) else if y = ("handed" : Str) then some (Value.ref H) else if y = ("script" : Str) then some (Value.ref lA) else none) y) ∧ (I < D1 ∧ R0 < D1 ∧ 203 < D1 ∧ L + 1 + 1 < D1 ∧ AllLt D1 (own ++ nx11)) := ⟨_, _, NN, FF, hl1⟩
                                  refine hG9 ?_
                                  clear hG9 G9
                                  rw [nrm_item] at F15
                                  refine hQ7 _ _ ⟨_, _, _, (I, oI) :: (R0, listOf (List.toArray rs) rn) :: (203, tabObj ps11) :: (L + 1 + 1, oK) :: (([(D1, tupO [.int k t, .int 1 tt])] ++ own) ++ nx11), rfl, F15, news_of N15 (fun q hq => ?_), D1, [(D1, tupO [.int k t, .int 1 tt])], rfl, rfl, fun q hq => ?_, ?_⟩
                                  · revert q
                                    walk_at "MINE sub"
                                  · rw [List.mem_singleton.mp hq]
                                    exact ⟨Nat.ne_of_gt hl2.2.1, Nat.ne_of_gt hl2.1⟩
                                  · exact EnIn.new (.head _)
                            case tb =>
                              intro h5 tk5 m5 nx5 F15 N15 hP9
                              refine goal_var fun G9 hG9 => ?_
                              obtain ⟨it, own', rfl, rfl, hown', hI⟩ := hP9
                              refine hG9 ?_
                              clear hG9 G9
                              unfold nrm at F15
                              clear F14 N13
                              have hRq : RowE rq := row_perm (toQ_row (kd := kd) fun e he => hfo e (List.mem_of_mem_take he)) hperm
                              have hrl : rq.length ≤ 8 := by rw [hperm.length_eq, List.length_map, List.length_take]; lia
                              have hte := toQ_ok hoe hke
                              replace hte : OkE (toQ e) ∧ KdE .db (toQ e) ∧ lack (toQ e) = false := ⟨hte.1, hte.2.1, hte.2.2.trans hle⟩
                              refine goal_var fun G9 hG9 => ?_
                              obtain ⟨e1, e2, e3, e4⟩ := den_pos hte.1 hte.2.1 hte.2.2
                              refine hG9 ?_
                              clear hG9 G9
                              generalize toQ e = te at *
                              refine cutS2 F15 (fun m nx h => ∃ (k : Int) (t : Tok), m = nrm (some v) (some (.ref it)) (some (.int k t)) (fun y => if y = ("row" : Str) then some (Value.ref R0) else if y = ("left" : Str) then some (Value.ref X) else if y = ("absent" : Str) then some (Value.ref B0) else if y = ("shares" : Str) then some (Value.ref S) else if y = ("eighths" : Str) then some (Value.ref G8) else if y = ("v" : Str) then some (Value.ref V) else if y = ("handed" : Str) then some (Value.ref H) else if y = ("script" : Str) then some (Value.ref lA) else none) ∧ nx = (I, oI) :: (R0, listOf (List.toArray rs) rn) :: (203, tabObj ps11) :: (L + 1 + 1, oK) :: ((own' ++ own) ++ nx11) ∧ 0 ≤ k ∧ k ≤ rq.length ∧ (∀ j : Nat, j < k.toNat → ¬ (num te * den (rq.getD j .no) < num (rq.getD j .no) * den te)) ∧ (k.toNat < rq.length → num te * den (rq.getD k.toNat .no) < num (rq.getD k.toNat .no) * den te)) ?tc ?td
                              case tc =>
                                refine post_var fun Q7 hQ7 => ?_
                                k_steps
                                rename Fr _ _ _ _ => F16
                                rename News _ _ _ _ => N16
                                unfold Halt
                                obtain ⟨t0, F18⟩ : ∃ t0, Fr g L _ (nrm (some v) (some (.ref it)) (some (.int 0 t0)) (fun y => if y = ("row" : Str) then some (Value.ref R0) else if y = ("left" : Str) then some (Value.ref X) else if y = ("absent" : Str) then some (Value.ref B0) else if y = ("shares" : Str) then some (Value.ref S) else if y = ("eighths" : Str) then some (Value.ref G8) else if y = ("v" : Str) then some (Value.ref V) else if y = ("handed" : Str) then some (Value.ref H) else if y = ("script" : Str) then some (Value.ref lA) else none)) := ⟨_, Eq.mp (congrArg (Fr g L _) (nrm_spot _ _ _ _ _)) F16⟩
                                refine While_inv (n₀ := rq.length) (J := fun n m nx => ∃ (k : Int) (t : Tok), m = nrm (some v) (some (.ref it)) (some (.int k t)) (fun y => if y = ("row" : Str) then some (Value.ref R0) else if y = ("left" : Str) then some (Value.ref X) else if y = ("absent" : Str) then some (Value.ref B0) else if y = ("shares" : Str) then some (Value.ref S) else if y = ("eighths" : Str) then some (Value.ref G8) else if y = ("v" : Str) then some (Value.ref V) else if y = ("handed" : Str) then some (Value.ref H) else if y = ("script" : Str) then some (Value.ref lA) else none) ∧ nx = (I, oI) :: (R0, listOf (List.toArray rs) rn) :: (203, tabObj ps11) :: (L + 1 + 1, oK) :: ((own' ++ own) ++ nx11) ∧ 0 ≤ k ∧ k ≤ rq.length ∧ n = rq.length - k.toNat ∧ (∀ j : Nat, j < k.toNat → ¬ (num te * den (rq.getD j .no) < num (rq.getD j .no) * den te))) F18 N16 ⟨0, t0, rfl, rfl, by decide, by lia, rfl, fun j h => absurd h (Nat.not_lt_zero _)⟩ ?wturn
                                case wturn =>
                                  intro n m1 nx1 h6 tk6 F17 N17 hP9
                                  refine goal_var fun G9 hG9 => ?_
                                  obtain ⟨k, t, rfl, rfl, hk0, hk1, hn, hless⟩ := hP9
                                  refine hG9 ?_
                                  clear hG9 G9
                                  unfold nrm at F17
                                  have hlR : h6.IsList R0 rs.toArray := News.isList N17 (.tail _ (.head _))
                                  have hER : EnsAt h6 rs rq := hE.at F17 N17 (by walk_at "MINE sub")
                                  have hit := hI.at F17 N17 (by walk_at "MINE sub")
                                  rw [e4] at hit
                                  obtain ⟨a9, t9, u9, hh, hit⟩ := hit
                                  cases hh
                                  clear N16 F16 F18
                                  k_steps
                                  · have hlt : k < (rq.length : Int) := by assumption
                                    unfold Halt
                                    refine goal_var fun G9 hG9 => ?_
                                    obtain ⟨d0, d1, d2, d3⟩ := hRq.get (k := k.toNat) (by lia)
                                    refine hG9 ?_
                                    clear hG9 G9
                                    refine item_row (g := h6) hlR hER (fun b o q => q) hRq hrl hk0 hlt ?_ (by with_unfolding_all rfl)
                                    intro a0 t0' u0 hv0 ht0
                                    k_steps
                                    · rename Fr _ _ _ _ => F19
                                      rename News _ _ _ _ => N19
                                      exact hQ7 _ _ ⟨_, _, _, _, rfl, F19, N19, k, t, rfl, rfl, hk0, hk1, hless, fun _ => by assumption⟩
                                    · rename Fr _ _ _ _ => F19
                                      rename News _ _ _ _ => N19
                                      have hnl : ¬ (num te * den (rq.getD k.toNat .no) < num (rq.getD k.toNat .no) * den te) := by assumption
                                      refine WhileStep.intro F19 N19 (n' := rq.length - (k + 1).toNat) (by lia) ⟨k + 1, _, nrm_spot _ _ _ _ _, rfl, by lia, by lia, rfl, fun j hj => ?_⟩
                                      by_cases hjk : j = k.toNat
                                      · rw [hjk]; exact hnl
                                      · exact hless j (by lia)
                                  · have hge : ¬ k < (rq.length : Int) := by assumption
                                    exact hQ7 _ _ ⟨h6, _, _, _, rfl, F17, N17, k, t, rfl, rfl, hk0, hk1, hless, fun hh => absurd (by lia) hge⟩
                              case td =>
                                intro h6 tk6 m6 nx6 F17 N17 hP9
                                refine goal_var fun G9 hG9 => ?_
                                obtain ⟨k, t, rfl, rfl, hk0, hk1, hless, hless2⟩ := hP9
                                refine hG9 ?_
                                clear hG9 G9
                                unfold nrm at F17
                                clear N15 F15
                                have hoffR : ∀ q ∈ (203, tabObj ps11) :: (L + 1 + 1, oK) :: ((own' ++ own) ++ nx11), q.1 ≠ R0 := fun q hq => by
                                  rcases List.mem_cons.mp hq with h | hq
                                  · rw [h]; exact Nat.ne_of_lt l203
                                  rcases List.mem_cons.mp hq with h | hq
                                  · rw [h]; exact Nat.ne_of_lt lK
                                  rcases List.mem_append.mp hq with hq | hq
                                  · rcases List.mem_append.mp hq with hq | hq
                                    · exact (hown' q hq).1
                                    · exact hown q hq
                                  · exact Nat.ne_of_lt (lt_of_all lall q hq)
                                have hRI : @Ne Nat I R0 := Ne.symm (hoffI _ (.head _))
                                have hrs := pd_len hE
                                k_steps
                                rename Fr _ _ _ _ => F18
                                rename News _ _ _ _ => N18
                                refine kl_insert (l := kl_ins rs k (.ref it)) F18 N18 ?lf rfl (.tail hRI (.head hoffR)) ?lz ?_
                                case lf => unfold Builtin.List.listFitsIndex; simp; lia
                                case lz => rw [toList_self, sizeLine_eq]; lia
                                intro h7 F19 N19
                                clear F18 N18
                                k_steps
                                rename Fr _ _ _ _ => F20
                                rename News _ _ _ _ => N20
                                refine hQ8 _ _ ⟨_, _, _, _, rfl, F20, N20, ?_, kl_ins rs k (.ref it), rn + 1, insE rq k.toNat te, own' ++ own, some v, some (.ref it), some (.int k t), rfl, rfl, ?_, ?_, ?_, ?_⟩
                                · intro q hq
                                  rcases List.mem_cons.mp hq with h | hq
                                  · rw [h]; exact hoffI (R0, listOf (List.toArray rs) rn) (.head _)
                                  rcases List.mem_cons.mp hq with h | hq
                                  · rw [h]; exact hoffI (203, tabObj ps11) (.tail _ (.head _))
                                  rcases List.mem_cons.mp hq with h | hq
                                  · rw [h]; exact hoffI (L + 1 + 1, oK) (.tail _ (.tail _ (.head _)))
                                  rcases List.mem_append.mp hq with hq | hq
                                  · rcases List.mem_append.mp hq with hq | hq
                                    · exact (hown' q hq).2
                                    · exact hoffI q (.tail _ (.tail _ (.tail _ (List.mem_append_left _ hq))))
                                  · exact hoffI q (.tail _ (.tail _ (.tail _ (List.mem_append_right _ hq))))
                                · intro q hq
                                  rcases List.mem_append.mp hq with hq | hq
                                  · exact (hown' q hq).1
                                  · exact hown q hq
                                · refine pd_ins (EnsIn.mono (fun q hq => ?_) hE) hk0 hk1 (EnIn.mono (fun q hq => ?_) hI)
                                  · revert q; walk_at "MINE sub"
                                  · revert q; walk_at "MINE sub"
                                · rw [htm]
                                  exact (ins_perm rq k.toNat te).trans (List.Perm.append_right [te] hperm)
                                · exact ins_sorted hRq hte hsort (by lia) hless hless2
                          case done =>
                            intro m₁ nx h' tk hJ F13 N13
                            refine goal_var fun G9 hG9 => ?_
                            obtain ⟨rs, rn, rq, own, u1, u2, u3, rfl, rfl, hown, hE, hperm, hsort⟩ := hJ
                            refine hG9 ?_
                            clear hG9 G9
                            have hk : K5.StaysIn h' := kp5.at F13 N13 fun q hq => .tail _ (.tail _ (.tail _ (List.mem_append_right _ hq)))
                            rw [hvl, List.take_length] at hperm
                            k_steps
                            exact hQ9 _ _ ⟨h', _, _, ps11, rfl, F13, (N13 _ (.tail _ (.head _))).1, hT5.keeps hk, (N13 _ (.tail _ (.tail _ (.head _)))).1, hk, R0, rs, rn, rq, u1, u2, u3, rfl, (N13 _ (.head _)).2.2, (N13 _ (.head _)).1, hE.at F13 N13 fun q hq => .tail _ (.tail _ (.tail _ hq)), hperm, hsort⟩
                        case r11 =>
                          intro h12 tk12 m12 ps12 nx12 K6 F12 hl9 kk hr9 ov
                          refine goal_var fun G9 hG9 => ?_
                          obtain ⟨N12, kp6, hT6, hKL6, hKg6, hKc6, n2036, nLK6⟩ := hl9
                          obtain ⟨R0, rs, rn, rq, u1, u2, u3, rfl, hgR, hR0, hRE, hperm, hsort⟩ := hr9
                          refine hG9 ?_
                          clear hG9 G9
                          have lf6 := lf5.keeps kk
                          have lft6 := lft5.keeps kk
                          have hRK : K6.IsList R0 rs.toArray := ov.lst ⟨_, hR0, rfl, rn, rfl⟩
                          have hRE6 := ov.ens hRE
                          clear lf5 lft5 kk kp5 hT5 hKL5 hKg5 hKc5 n2035 nLK5 F11 N11 ov hR0 hRE
                          generalize hfs : (es.filter fun e => !lack e) = fs at *
                          have hfo : ∀ e ∈ fs, OkE e ∧ KdE kd e ∧ lack e = false := fun e he => by
                            rw [← hfs] at he
                            obtain ⟨h1, h2⟩ := List.mem_filter.mp he
                            exact ⟨(heo e h1).1, (heo e h1).2.1, by cases q : lack e with | false => rfl | true => rw [q] at h2; cases h2⟩
                          have hfr : ∀ e ∈ fs, RedE e := fun e he => by
                            rw [← hfs] at he
                            exact (heo e (List.mem_filter.mp he).1).2.2
                          have hfl : fs.length ≤ 8 := by rw [← hfs]; exact Nat.le_trans (List.length_filter_le _ _) hel
                          have hRq : RowE rq := row_perm (toQ_row (kd := kd) hfo) hperm
                          have hrl : rq.length ≤ 8 := by rw [hperm.length_eq, List.length_map]; lia
                          clear hfs
                          unfold nrm at F12
                          refine lawcut2 F12 g2 gc hcL hoK hKL6 hKg6 hKc6 (fun m h => ∃ v1 dv, m = nrm v1 u2 u3 (fun y => if y = ("due" : Str) then some (dv) else if y = ("row" : Str) then some (Value.ref R0) else if y = ("left" : Str) then some (Value.ref X) else if y = ("absent" : Str) then some (Value.ref B0) else if y = ("shares" : Str) then some (Value.ref S) else if y = ("eighths" : Str) then some (Value.ref G8) else if y = ("v" : Str) then some (Value.ref V) else if y = ("handed" : Str) then some (Value.ref H) else if y = ("script" : Str) then some (Value.ref lA) else none) ∧ ((∃ D ds dn, dv = .ref D ∧ h.get? D = some (listOf (List.toArray ds) dn) ∧ EnsAt h ds (zs.map (dueE rq)) ∧ ∀ z ∈ zs, InR z) ∨ (∃ t, dv = .str msgPr t ∧ ∃ z ∈ zs, ¬ InR z))) ?s12 ?r12
                          case s12 =>
                            refine post_var fun Q9 hQ9 => ?_
                            refine goal_var fun G9 hG9 => ?_
                            obtain ⟨hVK, hlK, hHK, h8K, hSK, hEK, hsK, hGK⟩ := id lf6
                            refine hG9 ?_
                            clear hG9 G9
                            have hgl := pd_len hGK
                            k_steps
                            unfold Halt
                            rename Fr _ _ _ _ => FF
                            rename News _ _ _ _ => NN
                            rename _ ∧ _ ∧ AllLt _ _ => hl1
                            refine goal_var fun G9 hG9 => ?_
                            obtain ⟨D, N13, F13, l203, lK, lall⟩ : ∃ D, News g L _ ((D, listOf #[] 0) :: (203, tabObj ps12) :: (L + 1 + 1, oK) :: nx12) ∧ Fr g L _ (nrm u1 u2 u3 (fun y => if y = ("due" : Str) then some (Value.ref D) else if y = ("row" : Str) then some (Value.ref R0) else if y = ("left" : Str) then some (Value.ref X) else if y = ("absent" : Str) then some (Value.ref B0) else if y = ("shares" : Str) then some (Value.ref S) else if y = ("eighths" : Str) then some (Value.ref G8) else if y = ("v" : Str) then some (Value.ref V) else if y = ("handed" : Str) then some (Value.ref H) else if y = ("script" : Str) then some (Value.ref lA) else none)) ∧ (203 < D ∧ L + 1 + 1 < D ∧ AllLt D nx12) := ⟨_, NN, Eq.mp (congrArg (Fr g L _) (nrm_due _ _ _ _ _)) FF, hl1⟩
                            refine hG9 ?_
                            clear hG9 G9
                            clear NN FF hl1
                            refine loop_kp (K := K6) (nxK := nx12) (vs := gs) (J := fun i m nx => ∃ ds dn own v1, nx = (D, listOf (List.toArray ds) dn) :: (203, tabObj ps12) :: (L + 1 + 1, oK) :: (own ++ nx12) ∧ m = nrm v1 u2 u3 (fun y => if y = ("due" : Str) then some (Value.ref D) else if y = ("row" : Str) then some (Value.ref R0) else if y = ("left" : Str) then some (Value.ref X) else if y = ("absent" : Str) then some (Value.ref B0) else if y = ("shares" : Str) then some (Value.ref S) else if y = ("eighths" : Str) then some (Value.ref G8) else if y = ("v" : Str) then some (Value.ref V) else if y = ("handed" : Str) then some (Value.ref H) else if y = ("script" : Str) then some (Value.ref lA) else none) ∧ (∀ q ∈ own, q.1 ≠ D) ∧ EnsIn g (own ++ nx12) ds ((zs.take i).map (dueE rq)) ∧ ∀ z ∈ zs.take i, InR z) ?qhL ?qhh kp6 h8K ?qhl F13 N13 ?qj ?turn ?done
                            case qhL => rfl
                            case qhh => exact Room.hh Rm
                            case qhl => rintro i m nx ⟨ds, dn, own, v1, rfl, _⟩; exact fun q hq => .tail _ (.tail _ (.tail _ (List.mem_append_right _ hq)))
                            case qj => exact ⟨[], 0, [], u1, rfl, rfl, fun q hq => (by cases hq), .nil, fun z hz => (by cases hz)⟩
                            case turn =>
                              intro i v m₁ nx h' tk I oI hiv hoffI hJ F14 N14
                              refine post_var fun Q8 hQ8 => ?_
                              refine goal_var fun G9 hG9 => ?_
                              obtain ⟨ds, dn, own, v1, rfl, rfl, hown, hE, hin⟩ := hJ
                              obtain ⟨e, he, hve⟩ := pd_get hGK hiv
                              refine hG9 ?_
                              clear hG9 G9
                              obtain ⟨z, hz, rfl⟩ : ∃ z, zs[i]? = some z ∧ e8 z = e := by
                                rw [List.getElem?_map] at he
                                cases q : zs[i]? with
                                | none => rw [q] at he; cases he
                                | some z => rw [q] at he; exact ⟨z, rfl, Option.some.inj he⟩
                              have htm := take_map_succ (dueE rq) zs i z hz
                              have hin2 : InR z → ∀ z' ∈ zs.take (i + 1), InR z' := fun h z' hz' => by
                                rw [List.take_add_one, hz] at hz'
                                rcases List.mem_append.mp hz' with q | q
                                · exact hin z' q
                                · simp at q; rw [q]; exact h
                              have F15 := F14
                              unfold updm at F15
                              rw [nrm_one] at F15
                              unfold nrm at F15
                              clear F14
                              have hDI : @Ne Nat D I := hoffI _ (.head _)
                              have hID : @Ne Nat I D := Ne.symm hDI
                              have hds := pd_len hE
                              rw [List.length_map, List.length_take] at hds
                              have hoffD : ∀ q ∈ (203, tabObj ps12) :: (L + 1 + 1, oK) :: (own ++ nx12), q.1 ≠ D := fun q hq => by
                                rcases List.mem_cons.mp hq with h | hq
                                · rw [h]; exact Nat.ne_of_lt l203
                                rcases List.mem_cons.mp hq with h | hq
                                · rw [h]; exact Nat.ne_of_lt lK
                                rcases List.mem_append.mp hq with hq | hq
                                · exact hown q hq
                                · exact Nat.ne_of_lt (lt_of_all lall q hq)
                              have hoff2 : ∀ vs n, ∀ q ∈ (D, listOf vs n) :: (203, tabObj ps12) :: (L + 1 + 1, oK) :: (own ++ nx12), q.1 ≠ I := fun vs n q hq => by
                                rcases List.mem_cons.mp hq with h | hq
                                · rw [h]; exact hDI
                                · exact hoffI q (.tail _ hq)
                              by_cases h12 : z = 12
                              · rw [show e8 z = .no from if_pos h12] at hve
                                obtain rfl := hve
                                rw [show dueE rq z = .no from if_pos h12] at htm
                                k_steps
                                rename Fr _ _ _ _ => F9
                                rename News _ _ _ _ => N9
                                rw [push_list] at N9
                                exact hQ8 _ _ ⟨_, _, _, _, rfl, F9, N9, hoff2 _ _, ds ++ [.none], dn + 1, own, _, rfl, rfl, hown, by rw [htm]; exact pd_snoc hE rfl, hin2 (.inl h12)⟩
                              · rw [show e8 z = .i (z - 1) from if_neg h12] at hve
                                obtain ⟨tz, rfl⟩ := hve
                                by_cases hr : 0 ≤ z - 1 ∧ z - 1 ≤ 8
                                · obtain ⟨hr0, hr8⟩ := hr
                                  k_steps
                                  rename Fr _ _ _ _ => F9
                                  rename News _ _ _ _ => N9
                                  rename _ ∧ _ ∧ _ ∧ _ ∧ AllLt _ _ => hl9
                                  have hk := kp6.at F9 N9 (by walk_at "MINE sub")
                                  refine eq_lsts (lst_keep hRK hk) (hRE6.keeps hk) (News.isList N9 (.head _)) (show EnsAt _ [] [] from .nil) (Room.units64 Rm) ?_
                                  by_cases hemp : rq = []
                                  · rw [decide_eq_true hemp]
                                    k_steps
                                    rename Fr _ _ _ _ => F9
                                    rename News _ _ _ _ => N9
                                    rw [push_list] at N9
                                    exact hQ8 _ _ ⟨_, _, _, _, rfl, F9, news_of N9 (fun q hq => .tail _ hq), hoff2 _ _, ds ++ [.none], dn + 1, own, _, rfl, rfl, hown, by rw [htm, show dueE rq z = .no by unfold dueE; rw [if_neg h12, if_pos hemp]]; exact pd_snoc hE rfl, hin2 (.inr ⟨hr0, hr8⟩)⟩
                                  · rw [decide_eq_false hemp]
                                    have hdue : dueE rq z = alongE rq (z - 1) 8 := by unfold dueE; rw [if_neg h12, if_neg hemp]
                                    refine goal_var fun G9 hG9 => ?_
                                    obtain ⟨p1, p2, p3⟩ := along_bd hRq (List.length_pos_iff.mpr hemp) hr0 hr8 (by decide) (by decide)
                                    refine hG9 ?_
                                    clear hG9 G9
                                    k_steps
                                    rename Fr _ _ _ _ => F9
                                    rename News _ _ _ _ => N9
                                    have hk := kp6.at F9 N9 (by walk_at "MINE sub")
                                    refine along_spec (hIn.keeps F9.keep) (hTop.keeps F9.keep) (by walk_at "MINE room") (lst_keep hRK hk) (hRE6.keeps hk) hRq hrl (List.length_pos_iff.mpr hemp) hr0 hr8 ?_
                                    intro h9 tk9 v9 st9 hg9
                                    have F10 := fr_st F9 st9
                                    rcases hg9 with ⟨k, hk9, ek⟩ | hnew
                                    · have N10 := news_st N9 st9
                                      have hI9 : EnIn g nx12 v9 (alongE rq (z - 1) 8) := by
                                        refine goal_var fun G9 hG9 => ?_
                                        obtain ⟨b, q1, q2⟩ := pd_get (ens_list kp6 hRE6) hk9
                                        refine hG9 ?_
                                        clear hG9 G9
                                        rw [ek, List.getD_eq_getElem?_getD, q1]
                                        exact q2
                                      rw [p1] at hI9
                                      refine goal_var fun G9 hG9 => ?_
                                      obtain ⟨a9, o9, rfl, ho9, hm9⟩ := hI9
                                      refine hG9 ?_
                                      clear hG9 G9
                                      clear F9 N9
                                      k_steps
                                      rename Fr _ _ _ _ => F9
                                      rename News _ _ _ _ => N9
                                      rw [push_list] at N9
                                      refine hQ8 _ _ ⟨_, _, _, _, rfl, F9, news_of N9 (fun q hq => .tail _ hq), hoff2 _ _, ds ++ [.ref a9], dn + 1, own, _, rfl, rfl, hown, ?_, hin2 (.inr ⟨hr0, hr8⟩)⟩
                                      rw [htm, hdue, p1]
                                      exact pd_snoc hE ⟨a9, o9, rfl, ho9, hm9.imp id fun h => List.mem_append_right _ h⟩
                                    · rw [p1] at hnew
                                      refine goal_var fun G9 hG9 => ?_
                                      obtain ⟨a9, t9, u9, rfl, ha9, ho9⟩ := hnew
                                      refine hG9 ?_
                                      clear hG9 G9
                                      have N10 := news_new F9 N9 st9 ha9 ho9
                                      have hlt9 := news_lt F9 N9 ha9
                                      have haI : @Ne Nat a9 I := Ne.symm (hlt9 _ (.tail _ (.head _)))
                                      have haD : @Ne Nat a9 D := Ne.symm (hlt9 _ (.tail _ (.tail _ (.head _))))
                                      clear F9 N9
                                      k_steps
                                      rename Fr _ _ _ _ => F9
                                      rename News _ _ _ _ => N9
                                      rw [push_list] at N9
                                      refine hQ8 _ _ ⟨_, _, _, (D, _) :: (203, tabObj ps12) :: (L + 1 + 1, oK) :: (((a9, tupO [.int (num (alongE rq (z - 1) 8)) t9, .int (den (alongE rq (z - 1) 8)) u9]) :: own) ++ nx12), rfl, F9, news_of N9 (fun q hq => ?_), ?_, ds ++ [.ref a9], dn + 1, (a9, tupO [.int (num (alongE rq (z - 1) 8)) t9, .int (den (alongE rq (z - 1) 8)) u9]) :: own, _, rfl, rfl, List.forall_mem_cons.mpr ⟨haD, hown⟩, ?_, hin2 (.inr ⟨hr0, hr8⟩)⟩
                                      · revert q
                                        walk_at "MINE sub"
                                      · intro q hq
                                        rcases List.mem_cons.mp hq with h | hq
                                        · rw [h]; exact hDI
                                        rcases List.mem_cons.mp hq with h | hq
                                        · rw [h]; exact hoffI _ (.tail _ (.head _))
                                        rcases List.mem_cons.mp hq with h | hq
                                        · rw [h]; exact hoffI _ (.tail _ (.tail _ (.head _)))
                                        rcases List.mem_cons.mp hq with h | hq
                                        · rw [h]; exact haI
                                        · exact hoffI q (.tail _ (.tail _ (.tail _ hq)))
                                      · rw [htm, hdue, p1]
                                        exact pd_snoc (hE.mono fun q hq => .tail _ hq) (.new (.head _))
                                · k_steps
                                  · refine hQ8 _ _ ?_
                                    show wpAny _ _ (execs [] _) _ _ _
                                    k_steps
                                    rename Fr _ _ _ _ => F9
                                    rename News _ _ _ _ => N9
                                    have hk := kp6.at F9 N9 (by walk_at "MINE sub")
                                    exact hQ9 _ _ ⟨_, _, _, ps12, rfl, F9, News.get N9 (by k_mem), hT6.keeps hk, News.get N9 (by k_mem), hk, _, .str msgPr _, (nrm_due _ _ _ _ _).trans (congrArg (nrm _ _ _) (updm_due _ _ _)), .inr ⟨_, rfl, z, List.mem_of_getElem? hz, fun hz' => hz'.elim h12 hr⟩⟩
                                  · refine hQ8 _ _ ?_
                                    show wpAny _ _ (execs [] _) _ _ _
                                    k_steps
                                    rename Fr _ _ _ _ => F9
                                    rename News _ _ _ _ => N9
                                    have hk := kp6.at F9 N9 (by walk_at "MINE sub")
                                    exact hQ9 _ _ ⟨_, _, _, ps12, rfl, F9, News.get N9 (by k_mem), hT6.keeps hk, News.get N9 (by k_mem), hk, _, .str msgPr _, (nrm_due _ _ _ _ _).trans (congrArg (nrm _ _ _) (updm_due _ _ _)), .inr ⟨_, rfl, z, List.mem_of_getElem? hz, fun hz' => hz'.elim h12 hr⟩⟩
                            case done =>
                              intro m₁ nx h' tk hJ F14 N14
                              refine goal_var fun G9 hG9 => ?_
                              obtain ⟨ds, dn, own, v1, rfl, rfl, hown, hE, hin⟩ := hJ
                              refine hG9 ?_
                              clear hG9 G9
                              have hk := kp6.at F14 N14 fun q hq => .tail _ (.tail _ (.tail _ (List.mem_append_right _ hq)))
                              rw [List.length_map] at hgl
                              rw [hgl, List.take_length] at hE hin
                              k_steps
                              exact hQ9 _ _ ⟨h', _, _, ps12, rfl, F14, (N14 _ (.tail _ (.head _))).1, hT6.keeps hk, (N14 _ (.tail _ (.tail _ (.head _)))).1, hk, v1, .ref D, rfl, .inl ⟨D, ds, dn, rfl, (N14 _ (.head _)).1, hE.at F14 N14 fun q hq => .tail _ (.tail _ (.tail _ hq)), hin⟩⟩
                          case r12 =>
                            intro h13 tk13 m13 ps13 nx13 K7 F13 hl9 kk hr9 ov
                            refine goal_var fun G9 hG9 => ?_
                            obtain ⟨N13, kp7, hT7, hKL7, hKg7, hKc7, n2037, nLK7⟩ := hl9
                            obtain ⟨v1, dv, rfl, hdv⟩ := hr9
                            refine hG9 ?_
                            clear hG9 G9
                            have lf7 := lf6.keeps kk
                            have lft7 := lft6.keeps kk
                            have hRK7 := lst_keep hRK kk
                            have hRE7 := hRE6.keeps kk
                            have hdv7 : (∃ D ds, dv = .ref D ∧ K7.IsList D (List.toArray ds) ∧ EnsAt K7 ds (zs.map (dueE rq)) ∧ ∀ z ∈ zs, InR z) ∨ (∃ t, dv = .str msgPr t ∧ ∃ z ∈ zs, ¬ InR z) := by
                              rcases hdv with ⟨D, ds, dn, rfl, hD, hE, hin⟩ | h
                              · exact .inl ⟨D, ds, rfl, ov.lst ⟨_, hD, rfl, dn, rfl⟩, ov.ens hE, hin⟩
                              · exact .inr h
                            clear lf6 lft6 kk kp6 hT6 hKL6 hKg6 hKc6 n2036 nLK6 F12 N12 ov hRK hRE6 hdv
                            unfold nrm at F13
                            have hpz : (zs.map sh8).length ≤ 100 := by rw [List.length_map]; lia
                            have hr9 : ∀ e ∈ fs.map toQ, RedE e := fun e he => by
                              refine goal_var fun G9 hG9 => ?_
                              obtain ⟨e', he', rfl⟩ := List.mem_map.mp he
                              refine hG9 ?_
                              clear hG9 G9
                              exact red_toQ (hfo e' he').2.1 (hfr e' he')
                            have hcne : @Ne Nat (L + 1 + 1) 203 := by lia
                            refine lawcut F13 g2 gc hcL hoK hKL7 hKg7 hKc7 (fun m h => m = nrm v1 u2 u3 (fun y => if y = ("due" : Str) then some (dv) else if y = ("row" : Str) then some (Value.ref R0) else if y = ("left" : Str) then some (Value.ref X) else if y = ("absent" : Str) then some (Value.ref B0) else if y = ("shares" : Str) then some (Value.ref S) else if y = ("eighths" : Str) then some (Value.ref G8) else if y = ("v" : Str) then some (Value.ref V) else if y = ("handed" : Str) then some (Value.ref H) else if y = ("script" : Str) then some (Value.ref lA) else none)) ?s13 ?r13
                            case s13 =>
                              refine post_var fun Q9 hQ9 => ?_
                              refine goal_var fun G9 hG9 => ?_
                              obtain ⟨hVK, hlK, hHK, h8K, hSK, hEK, hsK, hGK⟩ := id lf7
                              obtain ⟨hXK, hl3K, he3K⟩ := id lft7
                              refine hG9 ?_
                              clear hG9 G9
                              rcases hdv7 with ⟨D, ds, rfl, hDK, hdE, hin⟩ | ⟨t, rfl, hout⟩
                              · k_steps
                                rename Fr _ _ _ _ => F14
                                rename News _ _ _ _ => N14
                                have hk := kp7.at F14 N14 (by walk_at "MINE sub")
                                refine kept_ok hIn hTop F14.keep g2 (Rm.mono (by decide)) (two_of N14).1 (hT7.keeps hk) (hXK.keeps hk) (lst_keep hl3K hk) (he3K.keeps hk) hfo hfl (lst_keep hSK hk) (hsK.keeps hk) (fun e he => by obtain ⟨z, hz, rfl⟩ := List.mem_map.mp he; exact sh8_prob (hin z hz)) hpz ?_
                                intro h' tk' D' ys' es' ps' nn hb h203 hp' hDn hD' hys hperm' hsort'
                                have F15 := but_fr F14 g2 (Nat.ne_of_lt hL203) hb
                                have N15 : News g L h' [(203, tabObj ps'), (L + 1 + 1, oK)] := List.forall_mem_cons.mpr ⟨⟨h203, Nat.ne_of_lt hL203, g2⟩, List.forall_mem_cons.mpr ⟨⟨hb _ _ hcne (two_of N14).2, hcL, gc⟩, List.forall_mem_nil _⟩⟩
                                have hk15 : K7.StaysIn h' := fun b o q => hb b o (fun z => by rw [z, hKg7] at q; cases q) (hk b o q)
                                rw [row_one (toQ_row hfo) hr9 hperm' hsort' hperm hsort, List.map_map, List.map_congr_left (f := qv rq ∘ sh8) (g := dueE rq) fun z hz => due_is hRq (hin z hz)] at hys
                                clear F14 N14 hb
                                k_steps
                                refine ne_lsts ⟨_, hD', rfl, nn, rfl⟩ hys (lst_keep hDK hk15) (hdE.keeps hk15) (Room.units64 Rm) ?_
                                rw [decide_eq_true rfl]
                                k_steps
                                exact hQ9 _ _ ⟨_, _, _, ps', rfl, by assumption, h203, hp', News.get N15 (.tail _ (.head _)), hk15, rfl⟩
                              · k_steps
                                rename Fr _ _ _ _ => F14
                                rename News _ _ _ _ => N14
                                refine goal_var fun G9 hG9 => ?_
                                obtain ⟨y1, y2, y3, y4, y5, y6⟩ := gr_make F14 g2
                                refine hG9 ?_
                                clear hG9 G9
                                have hk := kp7.at F14 N14 (by walk_at "MINE sub")
                                refine kept_prob (g := hideAll [203, L] _) (hIn.keeps y1) (hTop.keeps y1) y3 y5 (Rm.mono (by decide)) (two_of N14).1 (hT7.keeps hk) (hXK.keeps hk) (lst_keep hl3K hk) (he3K.keeps hk) hfo hfl (lst_keep hSK hk) (hsK.keeps hk) (fun e he => by obtain ⟨z, hz, rfl⟩ := List.mem_map.mp he; exact sh8_sh z) hpz (fun hp => by obtain ⟨z, hz, hn⟩ := hout; exact sh8_out hn (hp _ (List.mem_map.mpr ⟨z, hz, rfl⟩))) ⟨rfl, y2, ?_⟩ ?_
                                · exact fun_cons F14 rfl rfl y4 trivial
                                · intro h8 tk8 t8 ps8 w1 w2 w3 w4
                                  have F15 : Fr g L h8 _ := F14.of_stays (fun b o q => w1 _ _ (y1 _ _ q)) w2
                                  have hk8 : K7.StaysIn h8 := fun b o q => w1 _ _ (y6 K7 hk hKL7 hKg7 _ _ q)
                                  have hc8 : h8.get? (L + 1 + 1) = some oK := w1 _ _ (hideAll_to (News.get N14 (by k_mem)) (off203 hL203))
                                  clear F14
                                  k_steps
                                  exact hQ9 _ _ ⟨_, _, _, ps8, rfl, by assumption, w3, w4, hc8, hk8, rfl⟩
                            case r13 =>
                              intro h14 tk14 m14 ps14 nx14 K8 F14 hl9 kk hr9 ov
                              refine goal_var fun G9 hG9 => ?_
                              obtain ⟨N14, kp8, hT8, hKL8, hKg8, hKc8, n2038, nLK8⟩ := hl9
                              obtain rfl := hr9
                              refine hG9 ?_
                              clear hG9 G9
                              have lf8 := lf7.keeps kk
                              have lft8 := lft7.keeps kk
                              have hRK8 := lst_keep hRK7 kk
                              have hRE8 := hRE7.keeps kk
                              clear lf7 lft7 kk kp7 hT7 hKL7 hKg7 hKc7 n2037 nLK7 F13 N13 ov hRK7 hRE7 hdv7
                              unfold nrm at F14
                              refine lawcut F14 g2 gc hcL hoK hKL8 hKg8 hKc8 (fun m h => m = nrm v1 u2 u3 (fun y => if y = ("due" : Str) then some (dv) else if y = ("row" : Str) then some (Value.ref R0) else if y = ("left" : Str) then some (Value.ref X) else if y = ("absent" : Str) then some (Value.ref B0) else if y = ("shares" : Str) then some (Value.ref S) else if y = ("eighths" : Str) then some (Value.ref G8) else if y = ("v" : Str) then some (Value.ref V) else if y = ("handed" : Str) then some (Value.ref H) else if y = ("script" : Str) then some (Value.ref lA) else none) ∧ rq ≠ []) ?s14 ?r14
                              case s14 =>
                                refine post_var fun Q9 hQ9 => ?_
                                refine goal_var fun G9 hG9 => ?_
                                obtain ⟨hVK, hlK, hHK, h8K, hSK, hEK, hsK, hGK⟩ := id lf8
                                obtain ⟨hXK, hl3K, he3K⟩ := id lft8
                                refine hG9 ?_
                                clear hG9 G9
                                k_steps
                                refine eq_lsts (lst_keep hRK8 (by walk_at "MINE kp")) (hRE8.keeps (by walk_at "MINE kp")) (News.isList (by k_asm) (.head _)) (show EnsAt _ [] [] from .nil) (Room.units64 Rm) ?_
                                by_cases hemp : rq = []
                                · rw [decide_eq_true hemp]
                                  k_steps
                                  rename Fr _ _ _ _ => F15
                                  rename News _ _ _ _ => N15
                                  have hk := kp8.at F15 N15 (by walk_at "MINE sub")
                                  refine kept_ok (pes := [.q 1 2]) hIn hTop F15.keep g2 (Rm.mono (by decide)) (News.get N15 (by k_mem)) (hT8.keeps hk) (hXK.keeps hk) (lst_keep hl3K hk) (he3K.keeps hk) hfo hfl (News.isList N15 (.head _)) (.cons ⟨_, _, _, rfl, News.isTup N15 (.tail _ (.head _))⟩ .nil) (fun e he => by rw [List.mem_singleton.mp he]; exact ⟨by decide, by decide, by decide, by decide⟩) (by decide) ?_
                                  intro h' tk' D' ys' es' ps' nn hb h203 hp' hDn hD' hys hperm' hsort'
                                  have F16 := but_fr F15 g2 (Nat.ne_of_lt hL203) hb
                                  have hc16 : h'.get? (L + 1 + 1) = some oK := hb _ _ hcne (News.get N15 (by k_mem))
                                  have hk16 : K8.StaysIn h' := fun b o q => hb b o (fun z => by rw [z, hKg8] at q; cases q) (hk b o q)
                                  rw [row_one (toQ_row hfo) hr9 hperm' hsort' hperm hsort, hemp] at hys
                                  have hys : EnsAt h' ys' [.no] := hys
                                  have hDl : h'.IsList D' (List.toArray ys') := ⟨_, hD', rfl, nn, rfl⟩
                                  refine goal_var fun G9 hG9 => ?_
                                  obtain ⟨nx', K', ⟨N17, kp', hT', hKL', hKg', hKc', n203', nLK'⟩, ov', kk'⟩ := relump2 F16 h203 g2 hp' hc16 gc hcL hoK hk16 hKL8 hKg8 hKc8
                                  refine hG9 ?_
                                  clear hG9 G9
                                  have hDK := ov'.lst hDl
                                  have hDE := ov'.ens hys
                                  clear F15 N15 hb hys hDl hD' hDn
                                  k_steps
                                  rename Fr _ _ _ _ => FF
                                  rename News _ _ _ _ => NN
                                  have hk' := kp'.at FF NN (by walk_at "MINE sub")
                                  refine eq_lsts (lst_keep hDK hk') (hDE.keeps hk') (News.isList NN (.head _)) (show EnsAt _ [.none] [.no] from .cons rfl .nil) (Room.units64 Rm) ?_
                                  rw [decide_eq_true rfl]
                                  k_steps
                                  exact hQ9 _ _ (hq _ _ ps' FF.keep (News.get NN (by k_mem)) (hT'.keeps hk'))
                                · rw [decide_eq_false hemp]
                                  k_steps
                                  rename Fr _ _ _ _ => FF
                                  rename News _ _ _ _ => NN
                                  have hk' := kp8.at FF NN (by walk_at "MINE sub")
                                  exact hQ9 _ _ ⟨_, _, _, ps14, rfl, FF, News.get NN (by k_mem), hT8.keeps hk', News.get NN (by k_mem), hk', rfl, hemp⟩
                              case r14 =>
                                intro h15 tk15 m15 ps15 nx15 K9 F15 hl9 kk hr9 ov
                                refine goal_var fun G9 hG9 => ?_
                                obtain ⟨N15, kp9, hT9, hKL9, hKg9, hKc9, n2039, nLK9⟩ := hl9
                                obtain ⟨rfl, hne⟩ := hr9
                                refine hG9 ?_
                                clear hG9 G9
                                have lft9 := lft8.keeps kk
                                have hRK9 := lst_keep hRK8 kk
                                have hRE9 := hRE8.keeps kk
                                clear lf8 lft8 kk kp8 hT8 hKL8 hKg8 hKc8 n2038 nLK8 F14 N14 ov hRK8 hRE8
                                unfold nrm at F15
                                have hpos : 0 < rq.length := List.length_pos_iff.mpr hne
                                refine lawcut F15 g2 gc hcL hoK hKL9 hKg9 hKc9 (fun m h => ∃ Y ls, m = (fun y => if y = ("ladder" : Str) then some (Value.ref Y) else nrm v1 u2 u3 (fun y => if y = ("due" : Str) then some (dv) else if y = ("row" : Str) then some (Value.ref R0) else if y = ("left" : Str) then some (Value.ref X) else if y = ("absent" : Str) then some (Value.ref B0) else if y = ("shares" : Str) then some (Value.ref S) else if y = ("eighths" : Str) then some (Value.ref G8) else if y = ("v" : Str) then some (Value.ref V) else if y = ("handed" : Str) then some (Value.ref H) else if y = ("script" : Str) then some (Value.ref lA) else none) y) ∧ h.IsList Y (List.toArray ls) ∧ EnsAt h ls (ladE rq)) ?s15 ?r15
                                case s15 =>
                                  refine post_var fun Q9 hQ9 => ?_
                                  refine goal_var fun G9 hG9 => ?_
                                  obtain ⟨hXK, hl3K, he3K⟩ := id lft9
                                  refine hG9 ?_
                                  clear hG9 G9
                                  k_steps
                                  unfold Halt
                                  rename Fr _ _ _ _ => FF
                                  rename News _ _ _ _ => NN
                                  rename IsRange _ _ _ _ _ _ _ _ => hr15
                                  refine' comp_range (J := fun i ys nx => ((203, tabObj ps15) ∈ nx ∧ (L + 1 + 1, oK) ∈ nx ∧ (∀ q ∈ nx15, q ∈ nx)) ∧ EnsIn g nx ys ((List.range i).map fun k : Nat => En.q (qn (k : Int) 8) (qd (k : Int) 8))) ?qhL ?qhh hr15 (by decide) (by decide) ?qF ?qN ?qj ?turn ?done
                                  case qF => exact FF
                                  case qN => exact NN
                                  case qhL => rfl
                                  case qhh => exact Room.hh Rm
                                  case qj => exact ⟨⟨by k_mem, by k_mem, fun q hq => (by simp only [List.mem_cons]; simp only [hq, or_true])⟩, .nil⟩
                                  case turn =>
                                    intro i t ys nx h' tk I C Dc oI oL mv nD hib hys hoff hJ hmv hC F6 N6 hoL
                                    refine wpAny_tests_nil ?_
                                    simp only [if_true]
                                    refine post_var fun Q8 hQ8 => ?_
                                    refine goal_var fun G9 hG9 => ?_
                                    obtain ⟨⟨j1, j2, j3⟩, hJe⟩ := hJ
                                    refine hG9 ?_
                                    clear hG9 G9
                                    have htm : ((List.range (i + 1)).map fun k : Nat => En.q (qn (k : Int) 8) (qd (k : Int) 8)) = ((List.range i).map fun k : Nat => En.q (qn (k : Int) 8) (qd (k : Int) 8)) ++ [En.q (qn (i : Int) 8) (qd (i : Int) 8)] := by rw [List.range_succ, List.map_append]; rfl
                                    k_steps
                                    rename _ ≠ _ ∧ _ => hq9
                                    exact hQ8 _ _ (elt_new (by assumption) (by assumption) hq9 hoff ⟨⟨.tail _ j1, .tail _ j2, fun q hq => .tail _ (j3 q hq)⟩, by rw [htm]; exact pd_snoc (hJe.mono fun q hq => .tail _ hq) (.new (.head _))⟩)
                                  case done =>
                                    intro hp S0 ss0 sn0 nx h' tk hys hJ hoff N7 F8 N8
                                    refine goal_var fun G9 hG9 => ?_
                                    obtain ⟨⟨j1, j2, j3⟩, hJe⟩ := hJ
                                    refine hG9 ?_
                                    clear hG9 G9
                                    clear N7
                                    k_steps
                                    rename Fr _ _ _ _ => F14
                                    rename News _ _ _ _ => N14
                                    have hk := kp9.at F14 N14 (fun q hq => .tail _ (j3 q hq))
                                    refine q7_spec hIn hTop F14.keep g2 (Rm.mono (by decide)) (N14 _ (.tail _ j1)).1 (hT9.keeps hk) (hXK.keeps hk) (lst_keep hl3K hk) (he3K.keeps hk) hfo hfl (News.isList N14 (.head _)) (hJe.at F14 N14 fun q hq => .tail _ hq) (fun e he => by
                                      refine goal_var fun G9 hG9 => ?_
                                      obtain ⟨k, hk, rfl⟩ := List.mem_map.mp he
                                      refine hG9 ?_
                                      clear hG9 G9
                                      have := List.mem_range.mp hk
                                      have h9 : (9 : Int).toNat = 9 := rfl
                                      exact q8_prob (by lia) (by lia)) (by rw [List.length_map, List.length_range]; decide) ?_
                                    intro h' tk' D' ys' es' ps' nn hb h203 hp' hDn hD' hys' hperm' hsort'
                                    have F16 := but_fr F14 g2 (Nat.ne_of_lt hL203) hb
                                    have hc16 : h'.get? (L + 1 + 1) = some oK := hb _ _ hcne (N14 _ (.tail _ j2)).1
                                    have hk16 : K9.StaysIn h' := fun b o q => hb b o (fun z => by rw [z, hKg9] at q; cases q) (hk b o q)
                                    rw [row_one (toQ_row hfo) hr9 hperm' hsort' hperm hsort, show (9 : Int).toNat = 9 from rfl, ladE_is hRq hne] at hys'
                                    have hDl : h'.IsList D' (List.toArray ys') := ⟨_, hD', rfl, nn, rfl⟩
                                    refine goal_var fun G9 hG9 => ?_
                                    obtain ⟨nx', K', ⟨N17, kp', hT', hKL', hKg', hKc', n203', nLK'⟩, ov', kk'⟩ := relump2 F16 h203 g2 hp' hc16 gc hcL hoK hk16 hKL9 hKg9 hKc9
                                    refine hG9 ?_
                                    clear hG9 G9
                                    have hDK := ov'.lst hDl
                                    have hDE := ov'.ens hys'
                                    clear F14 N14 hb hys' hDl hD' hDn
                                    k_steps
                                    rename Fr _ _ _ _ => FF
                                    rename News _ _ _ _ => NN
                                    have hk' := kp'.at FF NN (by walk_at "MINE sub")
                                    exact hQ9 _ _ ⟨_, _, _, ps', rfl, FF, News.get NN (.head _), hT'.keeps hk', News.get NN (.tail _ (.head _)), fun b o q => hk' _ _ (kk' _ _ q), _, _, rfl, lst_keep hDK hk', hDE.keeps hk'⟩
                                case r15 =>
                                  intro h16 tk16 m16 ps16 nx16 K10 F16 hl9 kk hr9 ov
                                  refine goal_var fun G9 hG9 => ?_
                                  obtain ⟨N16, kp10, hT10, hKL10, hKg10, hKc10, n20310, nLK10⟩ := hl9
                                  obtain ⟨Y, ls, rfl, hY, hYE⟩ := hr9
                                  refine hG9 ?_
                                  clear hG9 G9
                                  have lft10 := lft9.keeps kk
                                  have hRK10 := lst_keep hRK9 kk
                                  have hRE10 := hRE9.keeps kk
                                  have hYK10 := ov.lst hY
                                  have hYE10 := ov.ens hYE
                                  clear lft9 kk kp9 hT9 hKL9 hKg9 hKc9 n2039 nLK9 F15 N15 ov hRK9 hRE9 hY hYE
                                  unfold nrm at F16
                                  refine lawcut F16 g2 gc hcL hoK hKL10 hKg10 hKc10 (fun m h => m = (fun y => if y = ("ladder" : Str) then some (Value.ref Y) else nrm v1 u2 u3 (fun y => if y = ("due" : Str) then some (dv) else if y = ("row" : Str) then some (Value.ref R0) else if y = ("left" : Str) then some (Value.ref X) else if y = ("absent" : Str) then some (Value.ref B0) else if y = ("shares" : Str) then some (Value.ref S) else if y = ("eighths" : Str) then some (Value.ref G8) else if y = ("v" : Str) then some (Value.ref V) else if y = ("handed" : Str) then some (Value.ref H) else if y = ("script" : Str) then some (Value.ref lA) else none) y)) ?s16 ?r16
                                  case s16 =>
                                    refine post_var fun Q9 hQ9 => ?_
                                    k_steps
                                    refine item_at (lst_keep hYK10 (by walk_at "MINE kp")) (hYE10.keeps (by walk_at "MINE kp")) (by rw [ladE_len]; decide) (by decide) (by rw [ladE_len]; decide) ?_ (by with_unfolding_all rfl)
                                    intro a1 ha1
                                    rw [show (ladE rq).getD (Int.toNat 0) .no = rq.getD 0 .no from (ladE_at (by decide)).trans along_first] at ha1
                                    k_steps
                                    refine item_at (lst_keep hRK10 (by walk_at "MINE kp")) (hRE10.keeps (by walk_at "MINE kp")) (by lia) (by decide) (by lia) ?_ (by with_unfolding_all rfl)
                                    intro a2 ha2
                                    k_steps
                                    refine ne_ens ha1 ha2 (Room.units64 Rm) ?_
                                    rw [show Int.toNat 0 = 0 from rfl, decide_eq_true rfl]
                                    k_steps
                                    refine item_at (lst_keep hYK10 (by walk_at "MINE kp")) (hYE10.keeps (by walk_at "MINE kp")) (by rw [ladE_len]; decide) (by decide) (by rw [ladE_len]; decide) ?_ (by with_unfolding_all rfl)
                                    intro a3 ha3
                                    rw [show (ladE rq).getD (Int.toNat 8) .no = rq.getD (rq.length - 1) .no from (ladE_at (by decide)).trans (along_last hpos)] at ha3
                                    k_steps
                                    refine item_at (lst_keep hRK10 (by walk_at "MINE kp")) (hRE10.keeps (by walk_at "MINE kp")) (by lia) (by lia) (by lia) ?_ (by with_unfolding_all rfl)
                                    intro a4 ha4
                                    rw [show ((rq.length : Int) - 1).toNat = rq.length - 1 by lia] at ha4
                                    k_steps
                                    refine ne_ens ha3 ha4 (Room.units64 Rm) ?_
                                    rw [decide_eq_true rfl]
                                    k_steps
                                    rename Fr _ _ _ _ => FF
                                    rename News _ _ _ _ => NN
                                    have hk' := kp10.at FF NN (by walk_at "MINE sub")
                                    exact hQ9 _ _ ⟨_, _, _, ps16, rfl, FF, News.get NN (by k_mem), hT10.keeps hk', News.get NN (by k_mem), hk', rfl⟩
                                  case r16 =>
                                    intro h17 tk17 m17 ps17 nx17 K11 F17 hl9 kk hr9 ov
                                    refine goal_var fun G9 hG9 => ?_
                                    obtain ⟨N17, kp11, hT11, hKL11, hKg11, hKc11, n20311, nLK11⟩ := hl9
                                    obtain rfl := hr9
                                    refine hG9 ?_
                                    clear hG9 G9
                                    have lft11 := lft10.keeps kk
                                    have hYK11 := lst_keep hYK10 kk
                                    have hYE11 := hYE10.keeps kk
                                    clear lft10 kk kp10 hT10 hKL10 hKg10 hKc10 n20310 nLK10 F16 N16 ov hRK10 hRE10 hYK10 hYE10
                                    refine lawcut F17 g2 gc hcL hoK hKL11 hKg11 hKc11 (fun m h => ∃ st, m = updm "step" st (fun y => if y = ("ladder" : Str) then some (Value.ref Y) else nrm v1 u2 u3 (fun y => if y = ("due" : Str) then some (dv) else if y = ("row" : Str) then some (Value.ref R0) else if y = ("left" : Str) then some (Value.ref X) else if y = ("absent" : Str) then some (Value.ref B0) else if y = ("shares" : Str) then some (Value.ref S) else if y = ("eighths" : Str) then some (Value.ref G8) else if y = ("v" : Str) then some (Value.ref V) else if y = ("handed" : Str) then some (Value.ref H) else if y = ("script" : Str) then some (Value.ref lA) else none) y)) ?s17 ?r17
                                    case s17 =>
                                      refine post_var fun Q9 hQ9 => ?_
                                      unfold nrm at F17
                                      k_steps
                                      unfold Halt
                                      rename Fr _ _ _ _ => FF
                                      rename News _ _ _ _ => NN
                                      rename IsRange _ _ _ _ _ _ _ _ => hr17
                                      refine' loop_range (J := fun i m nx => (∃ st, m = updm "step" st (fun y => if y = ("ladder" : Str) then some (Value.ref Y) else nrm v1 u2 u3 (fun y => if y = ("due" : Str) then some (dv) else if y = ("row" : Str) then some (Value.ref R0) else if y = ("left" : Str) then some (Value.ref X) else if y = ("absent" : Str) then some (Value.ref B0) else if y = ("shares" : Str) then some (Value.ref S) else if y = ("eighths" : Str) then some (Value.ref G8) else if y = ("v" : Str) then some (Value.ref V) else if y = ("handed" : Str) then some (Value.ref H) else if y = ("script" : Str) then some (Value.ref lA) else none) y)) ∧ (203, tabObj ps17) ∈ nx ∧ (L + 1 + 1, oK) ∈ nx ∧ (∀ q ∈ nx17, q ∈ nx)) ?qhL ?qhh hr17 (by decide) (by decide) ?qF ?qN ?qj ?turn ?done
                                      case qF => exact FF
                                      case qN => exact NN
                                      case qhL => rfl
                                      case qhh => exact Room.hh Rm
                                      case qj => exact ⟨⟨_, (updm_self _ _).symm⟩, by k_mem, by k_mem, fun q hq => (by simp only [List.mem_cons]; simp only [hq, or_true])⟩
                                      case turn =>
                                        intro i t m₁ nx h' tk I oI hib hoffI hJ F6 N6
                                        refine post_var fun Q8 hQ8 => ?_
                                        refine goal_var fun G9 hG9 => ?_
                                        obtain ⟨⟨st, rfl⟩, j1, j2, j3⟩ := hJ
                                        refine hG9 ?_
                                        clear hG9 G9
                                        rw [updm_twice] at F6
                                        have F7 := F6
                                        unfold updm nrm at F7
                                        clear F6
                                        have hk := kp11.at F7 N6 (fun q hq => .tail _ (j3 q hq))
                                        have hi8 : i < 8 := by lia
                                        k_steps
                                        refine item_at (lst_keep hYK11 hk) (hYE11.keeps hk) (by rw [ladE_len]; decide) (by lia) (by rw [ladE_len]; lia) ?_ (by with_unfolding_all rfl)
                                        intro a1 ha1
                                        rw [show ((i : Int) + 1).toNat = i + 1 by lia, ladE_at (by lia : i + 1 < 9)] at ha1
                                        k_steps
                                        refine item_at (lst_keep hYK11 hk) (hYE11.keeps hk) (by rw [ladE_len]; decide) (by lia) (by rw [ladE_len]; lia) ?_ (by with_unfolding_all rfl)
                                        intro a2 ha2
                                        rw [show (i : Int).toNat = i by lia, ladE_at (by lia : i < 9)] at ha2
                                        refine goal_var fun G9 hG9 => ?_
                                        obtain ⟨p1, p2, p3⟩ := along_bd hRq hpos (e := ((i + 1 : Nat) : Int)) (d := 8) (by lia) (by lia) (by decide) (by decide)
                                        obtain ⟨r1, r2, r3⟩ := along_bd hRq hpos (e := (i : Int)) (d := 8) (by lia) (by lia) (by decide) (by decide)
                                        refine hG9 ?_
                                        clear hG9 G9
                                        have hmo := along_mono hRq hsort hpos hrl (e := (i : Int)) (by lia) (by lia)
                                        rw [show ((i : Int) + 1) = ((i + 1 : Nat) : Int) by lia] at hmo
                                        unfold leE at hmo
                                        rw [p1] at ha1
                                        rw [r1] at ha2
                                        refine goal_var fun G9 hG9 => ?_
                                        obtain ⟨b1, t1, w1, rfl, hb1⟩ := ha1
                                        obtain ⟨b2, t2, w2, rfl, hb2⟩ := ha2
                                        refine hG9 ?_
                                        clear hG9 G9
                                        generalize num (alongE rq ((i + 1 : Nat) : Int) 8) = n1 at *
                                        generalize den (alongE rq ((i + 1 : Nat) : Int) 8) = d1 at *
                                        generalize num (alongE rq (i : Int) 8) = n2 at *
                                        generalize den (alongE rq (i : Int) 8) = d2 at *
                                        k_steps
                                        rename Fr _ _ _ _ => F9
                                        rename News _ _ _ _ => N9
                                        exact hQ8 _ _ ⟨_, _, _, _, rfl, F9, N9, hoffI, ⟨_, rfl⟩, j1, j2, j3⟩
                                      case done =>
                                        intro m₁ nx h' tk hJ F6 N6
                                        refine goal_var fun G9 hG9 => ?_
                                        obtain ⟨⟨st, rfl⟩, j1, j2, j3⟩ := hJ
                                        refine hG9 ?_
                                        clear hG9 G9
                                        have hk := kp11.at F6 N6 j3
                                        k_steps
                                        exact hQ9 _ _ ⟨_, _, _, ps17, rfl, F6, (N6 _ j1).1, hT11.keeps hk, (N6 _ j2).1, hk, _, rfl⟩
                                    case r17 =>
                                      intro h18 tk18 m18 ps18 nx18 K12 F18 hl9 kk hr9 ov
                                      refine goal_var fun G9 hG9 => ?_
                                      obtain ⟨N18, kp12, hT12, hKL12, hKg12, hKc12, n20312, nLK12⟩ := hl9
                                      obtain ⟨st, rfl⟩ := hr9
                                      refine hG9 ?_
                                      clear hG9 G9
                                      have lft12 := lft11.keeps kk
                                      have hYK12 := lst_keep hYK11 kk
                                      have hYE12 := hYE11.keeps kk
                                      clear lft11 kk kp11 hT11 hKL11 hKg11 hKc11 n20311 nLK11 F17 N17 ov hYK11 hYE11
                                      have hXK := lft12.v
                                      have hl3K := lft12.l
                                      have he3K := lft12.e
                                      unfold updm nrm at F18
                                      k_steps
                                      unfold Halt
                                      rename Fr _ _ _ _ => F19
                                      rename News _ _ _ _ => N19
                                      have hk := kp12.at F19 N19 (by walk_at "MINE sub")
                                      refine median_spec hIn hTop F19.keep g2 (Rm.mono (by decide)) (two_of N19).1 (hT12.keeps hk) (hXK.keeps hk) (lst_keep hl3K hk) (he3K.keeps hk) hfo hfl (by have := hperm.length_eq; rw [List.length_map] at this; lia) ?_
                                      intro h' tk' x' l' mv mk mt es' ps' hb h203 hp' hVx hlx hperm' hsort' hmk
                                      have F20 := but_fr F19 g2 (Nat.ne_of_lt hL203) hb
                                      have hc20 : h'.get? (L + 1 + 1) = some oK := hb _ _ hcne (two_of N19).2
                                      have hk20 : K12.StaysIn h' := fun b o q => hb b o (fun z => by rw [z, hKg12] at q; cases q) (hk b o q)
                                      rw [row_one (toQ_row hfo) hr9 hperm' hsort' hperm hsort, med_is hRq hne] at hmk
                                      refine goal_var fun G9 hG9 => ?_
                                      obtain ⟨nx', K', ⟨N21, kp', hT', hKL', hKg', hKc', n203', nLK'⟩, ov', kk'⟩ := relump2 F20 h203 g2 hp' hc20 gc hcL hoK hk20 hKL12 hKg12 hKc12
                                      refine hG9 ?_
                                      clear hG9 G9
                                      have hVK' := ov'.vec F20 rfl hVx
                                      have hlK' := ov'.lst hlx
                                      have hYK' := lst_keep hYK12 kk'
                                      have hYE' := hYE12.keeps kk'
                                      clear F19 N19 hb hVx hlx hXK hl3K he3K lft12 hYK12 hYE12 kp12 hk hT12
                                      refine goal_var fun G9 hG9 => ?_
                                      obtain ⟨b4, hb4, he4⟩ := pd_getR hYE' (show (ladE rq)[4]? = some (alongE rq 4 8) from rfl)
                                      refine hG9 ?_
                                      clear hG9 G9
                                      generalize alongE rq 4 8 = ae at hmk he4
                                      rcases hmk with ⟨rfl, hmv⟩ | ⟨rfl, n9, t9, rfl, hmn⟩
                                      · have hmv' : EnAt K' mv (ae) := by
                                          have := ov'.ens (vs := [mv]) (es := [ae]) (.cons hmv .nil)
                                          cases this with | cons a b => exact a
                                        k_steps
                                        rename Fr _ _ _ _ => F22
                                        rename News _ _ _ _ => N22
                                        have hk2 := kp'.at F22 N22 (by walk_at "MINE sub")
                                        refine item_litK (lst_keep hYK' hk2) (by decide) (by decide) hb4 ?_ (by with_unfolding_all rfl)
                                        have hVx2 := hVK'.keeps hk2
                                        k_steps
                                        refine item_at (lst_keep hlK' hk2) (es := [ae]) (.cons (hmv'.keeps hk2) .nil) (by rw [List.length_singleton]; decide) (by decide) (by rw [List.length_singleton]; decide) ?_ (by with_unfolding_all rfl)
                                        intro a2 ha2
                                        k_steps
                                        refine eq_ens (he4.keeps hk2) ha2 (Room.units64 Rm) ?_
                                        rw [show [ae].getD (Int.toNat 0) .no = ae from rfl, decide_eq_true rfl]
                                        k_steps
                                        exact hq _ _ ps' F22.keep (News.get N22 (by k_mem)) (hT'.keeps hk2)
                                      · k_steps
                                        rename Fr _ _ _ _ => F22
                                        rename News _ _ _ _ => N22
                                        have hk2 := kp'.at F22 N22 (by walk_at "MINE sub")
                                        refine item_litK (lst_keep hYK' hk2) (by decide) (by decide) hb4 ?_ (by with_unfolding_all rfl)
                                        have hVx2 := hVK'.keeps hk2
                                        k_steps
                                        refine item_litK (lst_keep hlK' hk2) (by decide) (by decide) (show [Value.int n9 t9][Int.toNat 0]? = some (.int n9 t9) from rfl) ?_ (by with_unfolding_all rfl)
                                        k_steps
                                        rename Fr _ _ _ _ => F23
                                        rename News _ _ _ _ => N23
                                        have hk3 := kp'.at F23 N23 (by walk_at "MINE sub")
                                        refine eq_ens (e' := .q n9 1) (he4.keeps hk3) ⟨_, _, _, rfl, News.isTup N23 (.head _)⟩ (Room.units64 Rm) ?_
                                        rw [decide_eq_true hmn]
                                        k_steps
                                        exact hq _ _ ps' F23.keep (News.get N23 (by k_mem)) (hT'.keeps hk3))

end Mine
theorem PySem.Challenge.cw_pq1319_01_holds : PySem.Challenge.rw_pq1319_01.Holds :=
  Mine.law_main
