import PyProof.Rows.All
import Wide.All
import OpenK.AllK
import Wide.FinOn
import PySem.Challenge.RW_on0228_01
open PySem PySem.W PyProof.Rows
set_option Elab.async false
set_option maxRecDepth 100000
set_option maxHeartbeats 8000000
set_option linter.unusedVariables false
set_option linter.unusedSimpArgs false
namespace Mine
local macro_rules | `(tactic| walk_at $s:str) => `(tactic| k_extra $(Lean.Syntax.mkStrLit ("W " ++ s.getString)))
open_top hd for PySem.Challenge.rw_on0228_01
theorem off_a_base : True := by
  w_top off
  trivial
/-! ## contracts -/
abbrev Led := List (Addr × Obj)
/-- what is made lies behind what stood -/
def Lo (news tl : Led) : Prop := ∀ q ∈ news, ∀ p ∈ tl, q.1 < p.1
structure Inn (a b : Led) : Prop where
  out : ∀ p ∈ a, p ∈ b

/-- a def's contract: Rel nw args, for whatever part nw of the ledger; what comes back, over nw and what was made -/
def Ct (w : World) (p : Program) (loose : List Str) (mean : ExcName → Option Value) (mg mb : Str → Option Value) (f : Addr) (n : Nat) (Rel : Led → List Value → Prop) (Out : Led → Led → Value → Prop) : Prop :=
  ∀ (dp un : Nat) (gd : Option (List Code)) (cn : Str) (cs : Scope) (a : Addr) (ccd : Value) (cl : List (Str × Addr)) (outer : List Env) (A₀ : Around) (base h₀ : Heap) (L : Addr) (m : Str → Option Value) (news nw : Led) (s : Shared) (vs : List Value)
    (Q E : Value → Shared → Prop),
    Below A₀ base outer h₀ → Fr h₀ L s.heap m → (hd.heap_39 w.params).In h₀ → News h₀ L s.heap news → Top p loose mean mg mb h₀ → cs.kind = .function → Inn nw news → Rel nw vs → dp + n < recursionLimit → un + 8 * n < cLine →
    (∀ r tl h' tk', Fr h₀ L h' m → News h₀ L h' (news ++ tl) → Lo news tl → Out nw tl r → Q r { s with heap := h', toks := tk' }) →
    wpAny (model Challenge.rw_on0228_01.row.prog w) (ktrTop dp un gd cn cs L a ccd cl outer) (call (.ref f) vs) Q E s

theorem ct_use {w : World} {p : Program} {loose : List Str} {mean : ExcName → Option Value} {mg mb : Str → Option Value} {f : Addr} {n : Nat} {Rel : Led → List Value → Prop} {Out : Led → Led → Value → Prop}
    {dp un : Nat} {gd : Option (List Code)} {cn : Str} {cs : Scope} {a : Addr} {ccd : Value} {cl : List (Str × Addr)} {outer : List Env} {A₀ : Around} {base h₀ : Heap} {L : Addr} {m : Str → Option Value} {news nw : Led} {hp : Heap} {g : Array GenState} {dr : Drawn} {tk0 : Nat} {os : OsState} {vs : List Value}
    {Q E : Value → Shared → Prop} (C : Ct w p loose mean mg mb f n Rel Out) (B : Below A₀ base outer h₀) (F : Fr h₀ L hp m) (X : (hd.heap_39 w.params).In h₀) (N : News h₀ L hp news) (T : Top p loose mean mg mb h₀) (hk : cs.kind = .function) (S : ∀ p ∈ nw, p ∈ news) (R : Rel nw vs)
    (hd : dp + n < recursionLimit) (hu : un + 8 * n < cLine)
    (ret : ∀ r tl h' tk', Fr h₀ L h' m → News h₀ L h' (news ++ tl) → Lo news tl → Out nw tl r → Q r ⟨h', g, dr, tk', os⟩) :
    wpAny (model Challenge.rw_on0228_01.row.prog w) (ktrTop dp un gd cn cs L a ccd cl outer) (call (.ref f) vs) Q E ⟨hp, g, dr, tk0, os⟩ :=
  C _ _ _ _ _ _ _ _ _ _ _ _ _ _ _ _ _ _ _ _ B F X N T hk ⟨S⟩ R hd hu ret

theorem ct_intro {w : World} {p : Program} {loose : List Str} {mean : ExcName → Option Value} {mg mb : Str → Option Value} {f : Addr} {n : Nat} {Rel : Led → List Value → Prop} {Out : Led → Led → Value → Prop}
    (h : ∀ (dp un : Nat) (gd : Option (List Code)) (cn : Str) (cs : Scope) (a : Addr) (ccd : Value) (cl : List (Str × Addr)) (outer : List Env) (A₀ : Around) (base h₀ : Heap) (L : Addr) (m : Str → Option Value) (news nw : Led) (s : Shared) (vs : List Value)
    (Q E : Value → Shared → Prop),
    Below A₀ base outer h₀ → Fr h₀ L s.heap m → (hd.heap_39 w.params).In h₀ → News h₀ L s.heap news → Top p loose mean mg mb h₀ → cs.kind = .function → Inn nw news → Rel nw vs → dp + n < recursionLimit → un + 8 * n < cLine →
    (∀ r tl h' tk', Fr h₀ L h' m → News h₀ L h' (news ++ tl) → Lo news tl → Out nw tl r → Q r { s with heap := h', toks := tk' }) →
    codeAny (model Challenge.rw_on0228_01.row.prog w) (ktrTop dp un gd cn cs L a ccd cl outer) (.call (.ref f) ⟨vs, []⟩) (fun r s' => match r with | .ok (.ret v) => Q v s' | .ok _ => False | .error e => E e s') s) : Ct w p loose mean mg mb f n Rel Out := by
  intro dp un gd cn cs a ccd cl outer A₀ base h₀ L m news nw s vs Q E B F X N T hk hS hR hd hu hret
  exact wpAny_call (h dp un gd cn cs a ccd cl outer A₀ base h₀ L m news nw s vs Q E B F X N T hk hS hR hd hu hret)

/-! ## order of addresses -/
theorem allLt_iff {D : Addr} : ∀ {l : Led}, AllLt D l ↔ ∀ p ∈ l, p.1 < D
  | [] => ⟨fun _ _ h => (nomatch h), fun _ => trivial⟩
  | x :: l => by
    refine ⟨fun h p hp => ?_, fun h => ⟨h x (.head _), allLt_iff.mpr fun p hp => h p (.tail _ hp)⟩⟩
    rcases List.mem_cons.mp hp with rfl | hp
    · exact h.1
    · exact allLt_iff.mp h.2 p hp
theorem allLt_left {D : Addr} {a b : Led} (h : AllLt D (a ++ b)) : AllLt D a := allLt_iff.mpr fun p hp => allLt_iff.mp h p (List.mem_append.mpr (.inl hp))
theorem allLt_right {D : Addr} {a b : Led} (h : AllLt D (a ++ b)) : AllLt D b := allLt_iff.mpr fun p hp => allLt_iff.mp h p (List.mem_append.mpr (.inr hp))
theorem lo_nil {news : Led} : Lo news [] := fun _ _ _ h => nomatch h
theorem lo_cons {news X : Led} {D : Addr} {o : Obj} (h : AllLt D news) (k : Lo news X) : Lo news ((D, o) :: X) := fun q hq p hp => by
  rcases List.mem_cons.mp hp with rfl | hp
  · exact allLt_iff.mp h q hq
  · exact k q hq p hp
theorem lo_app {news X Y : Led} (h : Lo news X) (k : Lo news Y) : Lo news (X ++ Y) := fun q hq p hp => (List.mem_append.mp hp).elim (h q hq p) (k q hq p)
theorem lo_tail {news X : Led} {x : Addr × Obj} (h : Lo (x :: news) X) : Lo news X := fun q hq => h q (.tail _ hq)
theorem lo_left {news Y X : Led} (h : Lo (news ++ Y) X) : Lo news X := fun q hq => h q (List.mem_append.mpr (.inl hq))
theorem lo_right {news Y X : Led} (h : Lo (news ++ Y) X) : Lo Y X := fun q hq => h q (List.mem_append.mpr (.inr hq))

/-- what a def leaves: the objects that it made stand behind what stood -/
theorem end_0 {h₀ h : Heap} {L : Addr} {news : Led} (conses : Led) (N : News h₀ L h (conses ++ news)) : News h₀ L h (news ++ conses) := fun p hp => N p ((List.mem_append.mp hp).elim (fun h => List.mem_append.mpr (.inr h)) fun h => List.mem_append.mpr (.inl h))
theorem end_1 {h₀ h : Heap} {L : Addr} {news tls : Led} (conses : Led) (N : News h₀ L h (conses ++ (news ++ tls))) : News h₀ L h (news ++ (conses ++ tls)) := fun p hp => N p (by
  simp only [List.mem_append] at hp ⊢
  rcases hp with h | h | h
  · exact .inr (.inl h)
  · exact .inl h
  · exact .inr (.inr h))
theorem end_no {h₀ h : Heap} {L : Addr} {news news' : Led} (N : News h₀ L h news') (hs : ∀ p ∈ news, p ∈ news') : News h₀ L h (news ++ []) := by
  rw [List.append_nil]; exact fun p hp => N p (hs p hp)

/-! ## the library's rules over a state that is written out (nothing nests), a frame's map by a word of its own -/
abbrev upd (x : Str) (v : Value) (m : Str → Option Value) : Str → Option Value := fun y => if y = x then some v else m y
section
variable {prog : Program} {w : World} {A : Around} {E : Value → Shared → Prop} {env : Env} {h₀ : Heap} {L : Addr} {m : Str → Option Value} {news : Led} {hp : Heap} {g : Array GenState} {dr : Drawn} {tk0 : Nat} {os : OsState}
theorem fl_int {i : Int} {k : Nat} {pos : Pos} {Q : Value → Shared → Prop} (hQ : Q (.int i tk0) ⟨hp, g, dr, tk0 + 1, os⟩) : wpAny (model prog w) A (eval (.Constant (.int i) k pos) env) Q E ⟨hp, g, dr, tk0, os⟩ := wpAny_Constant_int hQ
theorem fl_str {x : Str} {k : Nat} {pos : Pos} {Q : Value → Shared → Prop} (hQ : Q (.str x tk0) ⟨hp, g, dr, tk0 + 1, os⟩) : wpAny (model prog w) A (eval (.Constant (.str x) k pos) env) Q E ⟨hp, g, dr, tk0, os⟩ := Calls.Constant_str hQ
theorem fl_add {a b : Int} {t u : Tok} {Q : Value → Shared → Prop} (hQ : Q (.int (a + b) tk0) ⟨hp, g, dr, tk0 + 1, os⟩) : wpAny (model prog w) A (binaryOp .Add (.int a t) (.int b u)) Q E ⟨hp, g, dr, tk0, os⟩ := add_int hQ
theorem fl_sub {a b : Int} {t u : Tok} {Q : Value → Shared → Prop} (hQ : Q (.int (a - b) tk0) ⟨hp, g, dr, tk0 + 1, os⟩) : wpAny (model prog w) A (binaryOp .Sub (.int a t) (.int b u)) Q E ⟨hp, g, dr, tk0, os⟩ := sub_int hQ
theorem fl_store {cn : Str} {cs : Scope} {a : Addr} {ccd : Value} {cl : List (Str × Addr)} {x : Str} {v : Value} {Q : Unit → Shared → Prop} (F : Fr h₀ L hp m) (N : News h₀ L hp news)
    (hQ : ∀ h', Fr h₀ L h' (upd x v m) → News h₀ L h' news → Q () ⟨h', g, dr, tk0 + 1, os⟩) (hk : cs.kind = .function) (hx : (envX cn cs L a ccd cl).kindOf x = some .local) :
    wpAny (model prog w) A (storeName (envX cn cs L a ccd cl) x v) Q E ⟨hp, g, dr, tk0, os⟩ := storeX_L F N hQ hk hx
theorem fl_tup {vs : List Value} {Q : Value → Shared → Prop} (F : Fr h₀ L hp m) (N : News h₀ L hp news)
    (hQ : ∀ D h', Fr h₀ L h' m → News h₀ L h' ((D, ({ cls := .type "tuple", data := .seq vs.toArray } : Obj)) :: news) → (∀ p ∈ news, p.1 < D) → Q (.ref D) ⟨h', g, dr, tk0, os⟩) (hz : vs.length ≤ sizeLine) :
    wpAny (model prog w) A (newTuple vs) Q E ⟨hp, g, dr, tk0, os⟩ := kup_newTuple F N hQ hz
theorem fl_list {vs : List Value} {Q : Value → Shared → Prop} (F : Fr h₀ L hp m) (N : News h₀ L hp news)
    (hQ : ∀ l h', Fr h₀ L h' m → News h₀ L h' ((l, PySem.W.listOf vs.toArray 0) :: news) → (∀ p ∈ news, p.1 < l) → Q (.ref l) ⟨h', g, dr, tk0, os⟩) (hz : vs.length ≤ sizeLine) :
    wpAny (model prog w) A (newList vs) Q E ⟨hp, g, dr, tk0, os⟩ := newList_K F N hQ hz
end
/-! ## parts of a ledger -/
theorem mem_r {p : Addr × Obj} {a b : Led} (h : p ∈ b) : p ∈ a ++ b := List.mem_append.mpr (.inr h)
theorem mem_l {p : Addr × Obj} {a b : Led} (h : p ∈ a) : p ∈ a ++ b := List.mem_append.mpr (.inl h)
theorem sub_nil {X : Led} : ∀ p ∈ ([] : Led), p ∈ X := List.forall_mem_nil _
theorem sub_cons {x : Addr × Obj} {l X : Led} (h : x ∈ X) (k : ∀ p ∈ l, p ∈ X) : ∀ p ∈ x :: l, p ∈ X := List.forall_mem_cons.mpr ⟨h, k⟩
theorem sub_app {a b X : Led} (h : ∀ p ∈ a, p ∈ X) (k : ∀ p ∈ b, p ∈ X) : ∀ p ∈ a ++ b, p ∈ X := List.forall_mem_append.mpr ⟨h, k⟩

/-! ## a def's frame at its start -/
theorem look1 {x : Str} {v : Value} : (fun y => List.lookup y [(x, v)].reverse) = upd x v fun _ => none := by
  funext y
  show (match y == x with | true => some v | false => none) = _
  unfold upd
  by_cases e : y = x
  · rw [if_pos e, e, beq_self_eq_true]
  · rw [if_neg e, beq_eq_false_iff_ne.mpr e]
theorem look2 {x z : Str} {v u : Value} : (fun y => List.lookup y [(x, v), (z, u)].reverse) = upd z u (upd x v fun _ => none) := by
  funext y
  show (match y == z with | true => some u | false => (match y == x with | true => some v | false => none)) = _
  unfold upd
  by_cases e : y = z
  · rw [if_pos e, e, beq_self_eq_true]
  · rw [if_neg e, beq_eq_false_iff_ne.mpr e]
    by_cases e : y = x
    · rw [if_pos e, e, beq_self_eq_true]
    · rw [if_neg e, beq_eq_false_iff_ne.mpr e]
theorem enter1 {prog : Program} {w : World} {A A₀ : Around} {s : Shared} {K : Frag} {L : Addr} {h₀ base : Heap} {m mg mb : Str → Option Value} {news : Led} {p : Program} {loose : List Str} {mean : ExcName → Option Value} {env : Env} {outer : List Env} {R : Result → Shared → Prop} {name qual : Str}
    {params : Arguments} {body : List Stmt} {scope : Scope} {dV kV doc pm cdv ct oc : Value} {an od : Option Addr} {osl : Array (Option Value)} {f : Addr} {args : Args} {x : Str} {v : Value}
    (B : Below A₀ base outer h₀) (F : Fr h₀ L s.heap m) (X₀ : K.In h₀) (N : News h₀ L s.heap news) (T : Top p loose mean mg mb h₀) (hA : A.frames = some (env :: outer)) (hf : env.frame = some L) (hke : env.scope.kind = .function)
    (ho : K.lookup f = some ⟨oc, od, .func (fnOf name qual params body scope dV kV doc pm an cdv ct), osl⟩) (hcd : codeIn K cdv qual = true) (hroom : A.depth < recursionLimit) (hbind : BindsTo s (fnOf name qual params body scope dV kV doc pm an cdv ct) args [(x, v)]) (hloc : ∀ y ∈ [(x, v)], scope.names.lookup y.1 = some .local)
    (h : ∀ g L' h₁, Fr h₀ L g m → Fr g L' h₁ (upd x v fun _ => none) → News g L' h₁ news → Below A base (env :: outer) g → K.In g → Top p loose mean mg mb g →
      wpAny (model prog w) (A.deeper (envOf qual scope L' f cdv)) (execs body (envOf qual scope L' f cdv)) (fun fl s' => LeaveK h₀ L m g R (match fl with | .ret v => v | _ => .none) s')
        (fun e s' => wpAny (model prog w) (A.deeper (envOf qual scope L' f cdv)) (leaving (envOf qual scope L' f cdv) e) (fun _ s'' => R (.error e) s'') (fun e' s'' => R (.error e') s'') s') ⟨h₁, s.gens, s.drawn, s.toks + 1, s.os⟩)
    (hco : scope.isCoroutine = false) (hgen : scope.isGenerator = false) (hk : scope.kind = .function) (hcell : ∀ x ∈ scope.names, x.2 ≠ .cell) : codeAny (model prog w) A (.call (.ref f) args) R s :=
  code_def B F X₀ N T hA hf hke ho hcd hroom hbind hloc (fun g L' h₁ a b c d e t => h g L' h₁ a (look1 ▸ b) c d e t) hco hgen hk hcell
theorem enter2 {prog : Program} {w : World} {A A₀ : Around} {s : Shared} {K : Frag} {L : Addr} {h₀ base : Heap} {m mg mb : Str → Option Value} {news : Led} {p : Program} {loose : List Str} {mean : ExcName → Option Value} {env : Env} {outer : List Env} {R : Result → Shared → Prop} {name qual : Str}
    {params : Arguments} {body : List Stmt} {scope : Scope} {dV kV doc pm cdv ct oc : Value} {an od : Option Addr} {osl : Array (Option Value)} {f : Addr} {args : Args} {x z : Str} {v u : Value}
    (B : Below A₀ base outer h₀) (F : Fr h₀ L s.heap m) (X₀ : K.In h₀) (N : News h₀ L s.heap news) (T : Top p loose mean mg mb h₀) (hA : A.frames = some (env :: outer)) (hf : env.frame = some L) (hke : env.scope.kind = .function)
    (ho : K.lookup f = some ⟨oc, od, .func (fnOf name qual params body scope dV kV doc pm an cdv ct), osl⟩) (hcd : codeIn K cdv qual = true) (hroom : A.depth < recursionLimit) (hbind : BindsTo s (fnOf name qual params body scope dV kV doc pm an cdv ct) args [(x, v), (z, u)]) (hloc : ∀ y ∈ [(x, v), (z, u)], scope.names.lookup y.1 = some .local)
    (h : ∀ g L' h₁, Fr h₀ L g m → Fr g L' h₁ (upd z u (upd x v fun _ => none)) → News g L' h₁ news → Below A base (env :: outer) g → K.In g → Top p loose mean mg mb g →
      wpAny (model prog w) (A.deeper (envOf qual scope L' f cdv)) (execs body (envOf qual scope L' f cdv)) (fun fl s' => LeaveK h₀ L m g R (match fl with | .ret v => v | _ => .none) s')
        (fun e s' => wpAny (model prog w) (A.deeper (envOf qual scope L' f cdv)) (leaving (envOf qual scope L' f cdv) e) (fun _ s'' => R (.error e) s'') (fun e' s'' => R (.error e') s'') s') ⟨h₁, s.gens, s.drawn, s.toks + 2, s.os⟩)
    (hco : scope.isCoroutine = false) (hgen : scope.isGenerator = false) (hk : scope.kind = .function) (hcell : ∀ x ∈ scope.names, x.2 ≠ .cell) : codeAny (model prog w) A (.call (.ref f) args) R s :=
  code_def B F X₀ N T hA hf hke ho hcd hroom hbind hloc (fun g L' h₁ a b c d e t => h g L' h₁ a (look2 ▸ b) c d e t) hco hgen hk hcell
theorem off_b_frac : True := by
  w_top off
  k_with "W eval Constant int" => (k_here; refine fl_int ?_)
  k_with "W eval Constant str" => (k_here; refine fl_str ?_)
  k_with "W binaryOp Add int int" => (k_here; refine fl_add ?_)
  k_with "W binaryOp Sub int int" => (k_here; refine fl_sub ?_)
  k_with "W storeName" => (k_here; k_dflt (refine' fl_store ?F_k ?N_k ?_ ?a_k ?b_k; (case F_k => k_asm); (case N_k => k_asm); (case a_k => rfl); (case b_k => rfl); k_whole; intro h'_k F'_k N'_k; (try k_sweep)))
  k_with "W newTuple" => (k_here; k_dflt (refine' fl_tup ?F_k ?N_k ?_ ?z_k; (case F_k => k_asm); (case N_k => k_asm); (case z_k => kmk_size)); intro D'_k h'_k F'_k N'_k l1_k; (try k_lt l1_k); (try k_sweep))
  k_with "W newList" => (k_here; k_dflt (refine' fl_list ?k1_k ?k2_k ?_ ?z_k; (case k1_k => k_asm); (case k2_k => k_asm); (case z_k => size_fits); k_whole); intro l'_k h'_k F'_k N'_k l1_k; (try k_lt l1_k); (try k_sweep))
  k_with "W M memX" => first | assumption | exact List.mem_cons_self | (refine List.mem_cons_of_mem _ ?_; walk_at "M memX") | (refine mem_r ?_; walk_at "M memX") | (refine mem_l ?_; walk_at "M memX") | exact Inn.out (by assumption) _ (by assumption) | fail "M memX"
  k_with "W M sub" => first
      | exact sub_nil | exact fun _ hp => hp
      | (refine sub_cons ?_ ?_; (focus walk_at "M memX"); walk_at "M sub")
      | (refine sub_app ?_ ?_; (focus walk_at "M sub"); walk_at "M sub")
      | (intro p9_k hp9_k; walk_at "M memX")
      | fail "M sub"
  k_with "W WhlIf" => (first | (refine WhlIf.yes (decide_eq_true (by first | assumption | omega)) ?_) | (refine WhlIf.no (decide_eq_false (by first | assumption | omega)) ?_))
  k_with "W M allLt" => first
      | assumption | exact allLt_of (by assumption)
      | exact And.right (by assumption) | exact And.right (And.right (by assumption)) | exact And.right (And.right (And.right (by assumption))) | exact And.right (And.right (And.right (And.right (by assumption))))
      | exact allLt_left (by assumption) | exact allLt_left (allLt_of (by assumption))
      | exact allLt_left (And.right (by assumption)) | exact allLt_left (And.right (And.right (by assumption))) | exact allLt_left (And.right (And.right (And.right (by assumption)))) | exact allLt_left (And.right (And.right (And.right (And.right (by assumption)))))
      | fail "M allLt"
  k_with "W M lo1" => first
      | assumption | exact lo_left (by assumption)
      | exact lo_tail (by assumption) | exact lo_left (lo_tail (by assumption)) | exact lo_tail (lo_tail (by assumption)) | exact lo_left (lo_tail (lo_tail (by assumption)))
      | exact lo_tail (lo_tail (lo_tail (by assumption))) | exact lo_left (lo_tail (lo_tail (lo_tail (by assumption))))
      | exact lo_tail (lo_tail (lo_tail (lo_tail (by assumption)))) | exact lo_left (lo_tail (lo_tail (lo_tail (lo_tail (by assumption)))))
      | fail "M lo1"
  k_with "W M lo" => first
      | exact lo_nil
      | (refine lo_cons ?_ ?_; (focus (walk_at "M allLt")); walk_at "M lo")
      | (refine lo_app ?_ ?_; (focus (walk_at "M lo")); walk_at "M lo")
      | walk_at "M lo1"
      | fail "M lo"
  k_with "W M enter" => k_dflt (first
      | (refine' enter1 ?k1_k ?k2_k ?k3_k ?k4_k ?k5_k ?kA_k ?kF_k ?kK_k ?k6_k ?k7_k ?k8_k ?k9_k ?kB_k ?_ ?c2_k ?c3_k ?c4_k ?c5_k; (case kA_k => exact rfl); (case kF_k => exact rfl); (case kK_k => assumption); (case k1_k => k_asm); (case k2_k => k_asm); (case k3_k => k_asm); (case k4_k => k_asm); (case k5_k => k_asm); (case k6_k => k_is); (case k7_k => k_is); (case k8_k => ((try simp only [depth_under_make, depth_under_kw, depth_in1, depth_deeper, depth_caller] at *); (try dsimp only [ktrTop] at *); omega)); (case k9_k => first | exact BindsTo.of_eq rfl | exact binds_K (by k_in) rfl (by k_is) rfl rfl rfl | fail "M enter: no rule for these arguments"); (case c5_k => decide); (case kB_k => exact locs rfl); (case c2_k => exact rfl); (case c3_k => exact rfl); (case c4_k => exact rfl); k_whole; intro g'_k L'_k h'_k FG'_k F'_k N'_k B'_k X'_k T'_k; (try dsimp only); (try k_fold))
      | (refine' enter2 ?k1_k ?k2_k ?k3_k ?k4_k ?k5_k ?kA_k ?kF_k ?kK_k ?k6_k ?k7_k ?k8_k ?k9_k ?kB_k ?_ ?c2_k ?c3_k ?c4_k ?c5_k; (case kA_k => exact rfl); (case kF_k => exact rfl); (case kK_k => assumption); (case k1_k => k_asm); (case k2_k => k_asm); (case k3_k => k_asm); (case k4_k => k_asm); (case k5_k => k_asm); (case k6_k => k_is); (case k7_k => k_is); (case k8_k => ((try simp only [depth_under_make, depth_under_kw, depth_in1, depth_deeper, depth_caller] at *); (try dsimp only [ktrTop] at *); omega)); (case k9_k => first | exact BindsTo.of_eq rfl | exact binds_K (by k_in) rfl (by k_is) rfl rfl rfl | fail "M enter: no rule for these arguments"); (case c5_k => decide); (case kB_k => exact locs rfl); (case c2_k => exact rfl); (case c3_k => exact rfl); (case c4_k => exact rfl); k_whole; intro g'_k L'_k h'_k FG'_k F'_k N'_k B'_k X'_k T'_k; (try dsimp only); (try k_fold))
      | (refine' code_def ?k1_k ?k2_k ?k3_k ?k4_k ?k5_k ?kA_k ?kF_k ?kK_k ?k6_k ?k7_k ?k8_k ?k9_k ?kB_k ?_ ?c2_k ?c3_k ?c4_k ?c5_k; (case kA_k => exact rfl); (case kF_k => exact rfl); (case kK_k => assumption); (case k1_k => k_asm); (case k2_k => k_asm); (case k3_k => k_asm); (case k4_k => k_asm); (case k5_k => k_asm); (case k6_k => k_is); (case k7_k => k_is); (case k8_k => ((try simp only [depth_under_make, depth_under_kw, depth_in1, depth_deeper, depth_caller] at *); (try dsimp only [ktrTop] at *); omega)); (case k9_k => first | exact BindsTo.of_eq rfl | exact binds_K (by k_in) rfl (by k_is) rfl rfl rfl | fail "M enter: no rule for these arguments"); (case c5_k => decide); (case kB_k => exact locs rfl); (case c2_k => exact rfl); (case c3_k => exact rfl); (case c4_k => exact rfl); k_whole; intro g'_k L'_k h'_k FG'_k F'_k N'_k B'_k X'_k T'_k; (try dsimp only); (try k_fold)))
  k_with "W M news" => first
      | exact end_0 [] (by assumption) | exact end_0 [_] (by assumption) | exact end_0 [_, _] (by assumption) | exact end_0 [_, _, _] (by assumption) | exact end_0 [_, _, _, _] (by assumption)
      | exact end_1 [] (by assumption) | exact end_1 [_] (by assumption) | exact end_1 [_, _] (by assumption) | exact end_1 [_, _, _] (by assumption) | exact end_1 [_, _, _, _] (by assumption)
      | fail "M news"
  k_with "W M use" => (
      (case k1_k => k_asm)
      (case k2_k => k_asm)
      (case k3_k => k_asm)
      (case k4_k => k_asm)
      (case k5_k => k_asm)
      (case kK_k => first | exact rfl | assumption)
      (case kd_k => first | omega | (simp only [recursionLimit, cLine] at *; omega))
      (case ku_k => first | omega | (simp only [recursionLimit, cLine] at *; omega)))
  trivial
/-! ## fractions -/
theorem fm1 (x : Int) : Int.fmod x 1 = 0 := by rw [Int.fmod_eq_emod_of_nonneg _ (by omega)]; omega
theorem fm2e (x : Int) (h : x % 2 = 0) : Int.fmod (if x < 0 then -x else x) 2 = 0 := by rw [Int.fmod_eq_emod_of_nonneg _ (by omega)]; split <;> omega
theorem fm2o (x : Int) (h : ¬ x % 2 = 0) : Int.fmod (if x < 0 then -x else x) 2 = 1 := by rw [Int.fmod_eq_emod_of_nonneg _ (by omega)]; split <;> omega
def cdv (a b : Int) : Int := if b = 1 then 1 else if a % 2 = 0 then 2 else 1
theorem cdv_pos (a b : Int) : 0 < cdv a b := by unfold cdv; (repeat' split) <;> omega
theorem cdv_le (a b : Int) : cdv a b ≤ 2 := by unfold cdv; (repeat' split) <;> omega

section
variable (w : World) (p : Program) (loose : List Str) (mean : ExcName → Option Value) (mg mb : Str → Option Value)
theorem cd_ok (x y : Int) (hy : y = 1 ∨ y = 2) : Ct w p loose mean mg mb 60 1 (fun _ vs => ∃ t u, vs = [.int x t, .int y u]) (fun _ _ r => ∃ t, r = .int (cdv x y) t) := by
  refine ct_intro ?_
  k_fill
  intro dp un gd cn cs a ccd cl outer A₀ base h₀ L m news nw s vs Q E B F X N T hk hS hR hd hu hret
  obtain ⟨t, u, rfl⟩ := hR
  rcases hy with rfl | rfl
  · have e1 := fm1 (if x < 0 then -x else x)
    walk_at "M enter"
    k_steps
    all_goals (refine hret _ [] _ _ (by assumption) (end_no (by assumption) ?_) lo_nil (ktn_int ?_))
    · walk_at "M sub"
    · simp [cdv]
      done
  · by_cases he : x % 2 = 0
    · have e1 := fm2e x he
      walk_at "M enter"
      k_steps
      all_goals (refine hret _ [] _ _ (by assumption) (end_no (by assumption) ?_) lo_nil (ktn_int ?_))
      · walk_at "M sub"
      · simp [cdv, he]
        done
    · have e1 := fm2o x he
      have e2 : Int.fmod 2 (Int.fmod (if x < 0 then -x else x) 2) = 0 := by rw [e1]; decide
      walk_at "M enter"
      k_steps
      all_goals (refine hret _ [] _ _ (by assumption) (end_no (by assumption) ?_) lo_nil (ktn_int ?_))
      · walk_at "M sub"
      · simp [cdv, he, e1]
        done
end

/-- fraction(x, b) -/
def fr (x b : Int) : Dat := .tuple [.int (x.fdiv (cdv x b)), .int (b.fdiv (cdv x b))]

theorem row_b_frac1 : True := by
  k_with "W call ref" => ((with_reducible show wpAny _ _ (call (Value.ref 60) _) _ _ _); k_dflt (refine' ct_use (cd_ok _ _ _ _ _ _ _ _ ?ky_k) ?k1_k ?k2_k ?k3_k ?k4_k ?k5_k ?kK_k (List.forall_mem_nil _) ⟨_, _, rfl⟩ ?kd_k ?ku_k ?_; (case ky_k => first | exact Or.inl rfl | exact Or.inr rfl); walk_at "M use"; intro r9_k tl9_k h9_k tk9_k F9_k N9_k hl9_k ho9_k; (try simp only [List.nil_append, List.cons_append, List.append_nil, List.append_assoc] at N9_k); (try simp only [List.nil_append, List.cons_append, List.append_nil, List.append_assoc] at ho9_k); (obtain ⟨_, ho9_k⟩ := ho9_k; subst ho9_k); (try dsimp only); (try k_fold)))
  trivial

section
variable (w : World) (p : Program) (loose : List Str) (mean : ExcName → Option Value) (mg mb : Str → Option Value)
theorem frac_ok (x y : Int) (hy : y = 1 ∨ y = 2) : Ct w p loose mean mg mb 68 2 (fun _ vs => (∃ t u, vs = [.int x t, .int y u]) ∨ (y = 1 ∧ ∃ t, vs = [.int x t])) (fun _ tl r => DatIn tl r (fr x y)) := by
  refine ct_intro ?_
  k_fill
  intro dp un gd cn cs a ccd cl outer A₀ base h₀ L m news nw s vs Q E B F X N T hk hS hR hd hu hret
  have e0 := cdv_pos x y
  have e1 := cdv_le x y
  rcases hR with ⟨t, u, rfl⟩ | ⟨rfl, t, rfl⟩
  · rcases hy with rfl | rfl
    · walk_at "M enter"
      k_steps
      all_goals (refine hret _ _ _ _ (by assumption) (by walk_at "M news") ?_ ?_)
      · walk_at "M lo"
      · exact DatIn.tuple (by k_mem) (.cons (.int _ _) (.cons (.int _ _) .nil))
    · walk_at "M enter"
      k_steps
      all_goals (refine hret _ _ _ _ (by assumption) (by walk_at "M news") ?_ ?_)
      · walk_at "M lo"
      · exact DatIn.tuple (by k_mem) (.cons (.int _ _) (.cons (.int _ _) .nil))
  · walk_at "M enter"
    k_steps
    all_goals (refine hret _ _ _ _ (by assumption) (by walk_at "M news") ?_ ?_)
    · walk_at "M lo"
    · exact DatIn.tuple (by k_mem) (.cons (.int _ _) (.cons (.int _ _) .nil))
end
theorem off_c_rules : True := by
  w_top off
  trivial
/-! ## rules over data -/
theorem DatAll.drop' {nw : Led} : ∀ {vs : List Value} {ds : List Dat}, DatAll nw vs ds → ∀ k, DatAll nw (vs.drop k) (ds.drop k) := by
  intro vs ds h k
  induction k generalizing vs ds with
  | zero => exact h
  | succ k ih =>
    cases h with
    | nil => exact .nil
    | cons _ r => exact ih r
theorem DatAll.take' {nw : Led} : ∀ {vs : List Value} {ds : List Dat}, DatAll nw vs ds → ∀ k, DatAll nw (vs.take k) (ds.take k) := by
  intro vs ds h k
  induction k generalizing vs ds with
  | zero => exact .nil
  | succ k ih =>
    cases h with
    | nil => exact .nil
    | cons h r => exact .cons h (ih r)

theorem dl_ref {nw : Led} {v : Value} {ds : List Dat} (h : DatIn nw v (.list ds)) : ∃ a, v = .ref a := by cases h; exact ⟨_, rfl⟩
theorem dt_ref {nw : Led} {v : Value} {ds : List Dat} (h : DatIn nw v (.tuple ds)) : ∃ a, v = .ref a := by cases h; exact ⟨_, rfl⟩
theorem di_int {nw : Led} {v : Value} {x : Int} (h : DatIn nw v (.int x)) : ∃ t, v = .int x t := by cases h; exact ⟨_, rfl⟩
theorem di_bool {nw : Led} {v : Value} {x : Bool} (h : DatIn nw v (.bool x)) : v = .bool x := by cases h; rfl

theorem dt_inv {nw : Led} {v : Value} {ds : List Dat} (h : DatIn nw v (.tuple ds)) : ∃ a vs n, v = .ref a ∧ (a, ({ cls := .type "tuple", data := .seq vs.toArray n } : Obj)) ∈ nw ∧ DatAll nw vs ds := by
  cases h with
  | tuple hm ha => exact ⟨_, _, _, rfl, hm, ha⟩
theorem da_inv {nw : Led} {vs : List Value} {d : Dat} {ds : List Dat} (h : DatAll nw vs (d :: ds)) : ∃ v ws, vs = v :: ws ∧ DatIn nw v d ∧ DatAll nw ws ds := by
  cases h with
  | cons hd ha => exact ⟨_, _, rfl, hd, ha⟩
theorem da_nil {nw : Led} {vs : List Value} (h : DatAll nw vs []) : vs = [] := by cases h; rfl

theorem dl_heap {h₀ h : Heap} {L l : Addr} {news nw : Led} {ds : List Dat} (N : News h₀ L h news) (S : ∀ p ∈ nw, p ∈ news) (D : DatIn nw (.ref l) (.list ds)) : ∃ vs : List Value, h.IsList l vs.toArray ∧ DatAll nw vs ds := by
  cases D with
  | list hm ha => exact ⟨_, ⟨_, (N _ (S _ hm)).1, rfl, _, rfl⟩, ha⟩
theorem dt_heap {h₀ h : Heap} {L l : Addr} {news nw : Led} {ds : List Dat} (N : News h₀ L h news) (S : ∀ p ∈ nw, p ∈ news) (D : DatIn nw (.ref l) (.tuple ds)) : ∃ vs : List Value, IsTup h l vs.toArray ∧ DatAll nw vs ds := by
  cases D with
  | tuple hm ha => exact ⟨_, ⟨_, (N _ (S _ hm)).1, rfl, _, rfl⟩, ha⟩

theorem pick_from (vs : List Value) {x : Int} (h : 0 ≤ x) : (slicePick vs.toArray (some x) none none).toList = vs.drop x.toNat := by
  obtain ⟨n, rfl⟩ := Int.eq_ofNat_of_zero_le h
  rw [slicePick_from']; rfl
theorem pick_upto (vs : List Value) {y : Int} (h : 0 ≤ y) : (slicePick vs.toArray none (some y) none).toList = vs.take y.toNat := by
  obtain ⟨n, rfl⟩ := Int.eq_ofNat_of_zero_le h
  rw [slicePick_upto']; rfl

section
variable {prog : Program} {w : World} {A : Around} {E : Value → Shared → Prop} {s : Shared} {h₀ : Heap} {L l b : Addr} {m : Str → Option Value} {news nw nw2 : Led} {value slice : PySem.Expr} {hp : Heap} {g : Array GenState} {dr : Drawn} {tk0 : Nat} {os : OsState} {ds es : List Dat} {d : Dat} {k : Int} {u : Tok} {Q : Value → Shared → Prop}

theorem dl_len (N : News h₀ L hp news) (D : DatIn nw (.ref l) (.list ds)) (S : ∀ p ∈ nw, p ∈ news) (hfit : ds.length ≤ 1000)
    (h : ∀ t tk, Q (.int (ds.length : Int) t) ⟨hp, g, dr, tk, os⟩) : wpAny (model prog w) A (call (.builtin "len") [.ref l]) Q E ⟨hp, g, dr, tk0, os⟩ := by
  obtain ⟨vs, hl, ha⟩ := dl_heap N S D
  have e : vs.toArray.size = ds.length := by rw [List.size_toArray, ha.length]
  exact len_list hl (by rw [e]; omega) (by rw [e]; exact h _ _)

theorem dl_item (N : News h₀ L s.heap news) (D : DatIn nw (.ref l) (.list ds)) (S : ∀ p ∈ nw, p ∈ news) (h0 : 0 ≤ k) (hfit : k < 2 ^ 63) (hx : ds[k.toNat]? = some d)
    (h : ∀ v, DatIn nw v d → Q v s)
    (hs : subscripted slice false (.ref l) (.int k u) = operate [.ref l, .int k u] (getItem (.ref l) (.int k u)) := by with_unfolding_all rfl) :
    wpAny (model prog w) A (subscriptTail value slice (.ref l) (.int k u)) Q E s := by
  obtain ⟨vs, hl, ha⟩ := dl_heap N S D
  obtain ⟨hk, e⟩ := List.getElem?_eq_some_iff.mp hx
  obtain ⟨v, hv, hD⟩ := ha.get hk
  rw [e] at hD
  exact tail_any hl.typeIs slot_list_getitem.lookup (wpAny_getItem_list hl h0 hfit (by simpa using hv) (h v hD)) hs

theorem dl_back (N : News h₀ L s.heap news) (D : DatIn nw (.ref l) (.list ds)) (S : ∀ p ∈ nw, p ∈ news) (h0 : k < 0) (h1 : -(ds.length : Int) ≤ k) (hfit : -(2 ^ 63) ≤ k) (hx : ds[(k + ds.length).toNat]? = some d)
    (h : ∀ v, DatIn nw v d → Q v s)
    (hs : subscripted slice false (.ref l) (.int k u) = operate [.ref l, .int k u] (getItem (.ref l) (.int k u)) := by with_unfolding_all rfl) :
    wpAny (model prog w) A (subscriptTail value slice (.ref l) (.int k u)) Q E s := by
  obtain ⟨vs, hl, ha⟩ := dl_heap N S D
  obtain ⟨hk, e⟩ := List.getElem?_eq_some_iff.mp hx
  obtain ⟨v, hv, hD⟩ := ha.get hk
  rw [e] at hD
  have es : vs.toArray.size = ds.length := by rw [List.size_toArray, ha.length]
  exact tail_any hl.typeIs slot_list_getitem.lookup (wpAny_getItem_list_neg hl h0 (by rw [es]; exact h1) hfit (by rw [es]; simpa using hv) (h v hD)) hs

/-- an item at a place that may count from the back -/
def IdxAt (ds : List Dat) (k : Int) (d : Dat) : Prop := (0 ≤ k ∧ k < 2 ^ 63 ∧ ds[k.toNat]? = some d) ∨ (k < 0 ∧ -(ds.length : Int) ≤ k ∧ -(2 ^ 63) ≤ k ∧ ds[(k + ds.length).toNat]? = some d)
theorem dl_idx (N : News h₀ L s.heap news) (D : DatIn nw (.ref l) (.list ds)) (S : ∀ p ∈ nw, p ∈ news) (hx : IdxAt ds k d)
    (h : ∀ v, DatIn nw v d → Q v s)
    (hs : subscripted slice false (.ref l) (.int k u) = operate [.ref l, .int k u] (getItem (.ref l) (.int k u)) := by with_unfolding_all rfl) :
    wpAny (model prog w) A (subscriptTail value slice (.ref l) (.int k u)) Q E s := by
  rcases hx with ⟨h0, h1, h2⟩ | ⟨h0, h1, h2, h3⟩
  · exact dl_item N D S h0 h1 h2 h hs
  · exact dl_back N D S h0 h1 h2 h3 h hs

theorem dt_item {j : Nat} (N : News h₀ L s.heap news) (D : DatIn nw (.ref l) (.tuple ds)) (S : ∀ p ∈ nw, p ∈ news) (hlo : -(2 ^ 63) ≤ k) (hhi : k < 2 ^ 63) (hj : seqIndex? k ds.length = some j) (hx : ds[j]? = some d)
    (h : ∀ v, DatIn nw v d → Q v s)
    (hs : subscripted slice false (.ref l) (.int k u) = operate [.ref l, .int k u] (getItem (.ref l) (.int k u)) := by with_unfolding_all rfl) :
    wpAny (model prog w) A (subscriptTail value slice (.ref l) (.int k u)) Q E s := by
  obtain ⟨vs, ht, ha⟩ := dt_heap N S D
  obtain ⟨hk, e⟩ := List.getElem?_eq_some_iff.mp hx
  obtain ⟨v, hv, hD⟩ := ha.get hk
  rw [e] at hD
  exact item_tupleT ht hlo hhi (by rw [ha.length]; exact hj) hv (h v hD) hs

theorem dl_add (F : Fr h₀ L hp m) (N : News h₀ L hp news) (D1 : DatIn nw (.ref l) (.list ds)) (S1 : ∀ p ∈ nw, p ∈ news) (D2 : DatIn nw2 (.ref b) (.list es)) (S2 : ∀ p ∈ nw2, p ∈ news) (hz : ds.length + es.length ≤ 1000)
    (h : ∀ D o h', Fr h₀ L h' m → News h₀ L h' ((D, o) :: news) → (∀ p ∈ news, p.1 < D) → DatIn ((D, o) :: (nw ++ nw2)) (.ref D) (.list (ds ++ es)) → Q (.ref D) ⟨h', g, dr, tk0, os⟩) :
    wpAny (model prog w) A (binaryOp .Add (.ref l) (.ref b)) Q E ⟨hp, g, dr, tk0, os⟩ := by
  obtain ⟨vs, hl, ha⟩ := dl_heap N S1 D1
  obtain ⟨ws, hb, hw⟩ := dl_heap N S2 D2
  have ea : vs.toArray.size = ds.length := by rw [List.size_toArray, ha.length]
  have eb : ws.toArray.size = es.length := by rw [List.size_toArray, hw.length]
  refine add_arrays F N hl hb (fun h' F' N' => h _ _ h' F' N' (fun p hp => Heap.lt_size (N p hp).1) ?_) (by rw [ea, eb, sizeLine_eq]; omega)
  exact DatIn.list (.head _) ((ha.mono fun p hp => .tail _ (List.mem_append.mpr (.inl hp))).append (hw.mono fun p hp => .tail _ (List.mem_append.mpr (.inr hp))))

theorem dl_copy (F : Fr h₀ L hp m) (N : News h₀ L hp news) (D1 : DatIn nw (.ref l) (.list ds)) (S1 : ∀ p ∈ nw, p ∈ news) (hz : ds.length ≤ 1000)
    (h : ∀ D o h', Fr h₀ L h' m → News h₀ L h' ((D, o) :: news) → (∀ p ∈ news, p.1 < D) → DatIn ((D, o) :: nw) (.ref D) (.list ds) → Q (.ref D) ⟨h', g, dr, tk0, os⟩) :
    wpAny (model prog w) A (call (.type "list") [.ref l]) Q E ⟨hp, g, dr, tk0, os⟩ := by
  obtain ⟨vs, hl, ha⟩ := dl_heap N S1 D1
  have ea : vs.toArray.size = ds.length := by rw [List.size_toArray, ha.length]
  refine list_copyK F N hl (fun D c h' F' N' lt => h D _ h' F' N' lt ?_) (by rw [ea, sizeLine_eq]; omega)
  exact DatIn.list (.head _) (ha.mono fun p hp => .tail _ hp)

theorem dl_from {vl : Value} {x : Int} (F : Fr h₀ L hp m) (N : News h₀ L hp news) (D1 : DatIn nw (.ref l) (.list ds)) (S1 : ∀ p ∈ nw, p ∈ news) (pl : IsPart vl (some x)) (hx : 0 ≤ x) (hz : ds.length ≤ 1000)
    (h : ∀ D o h', Fr h₀ L h' m → News h₀ L h' ((D, o) :: news) → (∀ p ∈ news, p.1 < D) → DatIn ((D, o) :: nw) (.ref D) (.list (ds.drop x.toNat)) → Q (.ref D) ⟨h', g, dr, tk0, os⟩)
    (hs : subscripted slice false (.ref l) (.ref hp.objs.size) = operate [.ref hp.objs.size, .ref l] (getItem (.ref l) (.ref hp.objs.size))) (ht : ∀ r, letTemporaryGo value (.ref l) r = pure ()) :
    wpAny (model prog w) A (subscriptTail value slice (.ref l) (.ref hp.objs.size)) Q E ⟨hp.push { cls := .type "slice", data := .fields #[vl, .none, .none] }, g, dr, tk0, os⟩ := by
  obtain ⟨vs, hl, ha⟩ := dl_heap N S1 D1
  have ea : vs.toArray.size = ds.length := by rw [List.size_toArray, ha.length]
  refine kmk_slice_lit (s := ⟨hp, g, dr, tk0, os⟩) F N hl pl IsPart.none (pick_from vs hx) (fun D h' F' N' lt => h D _ h' F' N' lt ?_) hs ht (by rw [ea, sizeLine_eq]; omega)
  exact DatIn.list (.head _) (DatAll.drop' (ha.mono fun p hp => .tail _ hp) _)

theorem dl_upto {vu : Value} {x : Int} (F : Fr h₀ L hp m) (N : News h₀ L hp news) (D1 : DatIn nw (.ref l) (.list ds)) (S1 : ∀ p ∈ nw, p ∈ news) (pu : IsPart vu (some x)) (hx : 0 ≤ x) (hz : ds.length ≤ 1000)
    (h : ∀ D o h', Fr h₀ L h' m → News h₀ L h' ((D, o) :: news) → (∀ p ∈ news, p.1 < D) → DatIn ((D, o) :: nw) (.ref D) (.list (ds.take x.toNat)) → Q (.ref D) ⟨h', g, dr, tk0, os⟩)
    (hs : subscripted slice false (.ref l) (.ref hp.objs.size) = operate [.ref hp.objs.size, .ref l] (getItem (.ref l) (.ref hp.objs.size))) (ht : ∀ r, letTemporaryGo value (.ref l) r = pure ()) :
    wpAny (model prog w) A (subscriptTail value slice (.ref l) (.ref hp.objs.size)) Q E ⟨hp.push { cls := .type "slice", data := .fields #[.none, vu, .none] }, g, dr, tk0, os⟩ := by
  obtain ⟨vs, hl, ha⟩ := dl_heap N S1 D1
  have ea : vs.toArray.size = ds.length := by rw [List.size_toArray, ha.length]
  refine kmk_slice_lit (s := ⟨hp, g, dr, tk0, os⟩) F N hl IsPart.none pu (pick_upto vs hx) (fun D h' F' N' lt => h D _ h' F' N' lt ?_) hs ht (by rw [ea, sizeLine_eq]; omega)
  exact DatIn.list (.head _) (DatAll.take' (ha.mono fun p hp => .tail _ hp) _)
end

/-! ## equality of data (of equal data, and of a list with the empty one) -/
def okS (f : Dat → Bool) (z : Bool) : Dat → Bool
  | .none => true
  | .bool _ => true
  | .int _ => true
  | .str x => PyData.strOk x
  | .bytes _ => false
  | .tuple ds => z && ds.all f
  | .list ds => z && ds.all f
def okD : Nat → Dat → Bool
  | 0 => okS (fun _ => true) false
  | n + 1 => okS (okD n) true
theorem okD_t (n : Nat) (ds : List Dat) : okD (n + 1) (.tuple ds) = ds.all (okD n) := rfl
theorem okD_l (n : Nat) (ds : List Dat) : okD (n + 1) (.list ds) = ds.all (okD n) := rfl
theorem okD_i (n : Nat) (i : Int) : okD n (.int i) = true := by cases n <;> rfl
theorem okD_b (n : Nat) (b : Bool) : okD n (.bool b) = true := by cases n <;> rfl
theorem okD_s (n : Nat) (x : Str) : okD n (.str x) = PyData.strOk x := by cases n <;> rfl
section
variable {h₀ h : Heap} {L : Addr} {news : Led}
theorem okd_in (N : News h₀ L h news) (n : Nat) : ∀ {v : Value} {d : Dat}, DatIn news v d → okD n d = true → ∃ as, Reads h v (kqdP d) as := by
  induction n with
  | zero =>
    intro v d hd hk
    cases hd with
    | none => exact ⟨_, Reads.none⟩
    | bool b => exact ⟨_, Reads.bool b⟩
    | int i t => exact ⟨_, Reads.int i t⟩
    | str x t => exact ⟨_, Reads.str x t⟩
    | bytes _ _ => cases hk
    | tuple _ _ => cases hk
    | list _ _ => cases hk
  | succ n ih =>
    have all : ∀ (ds : List Dat) (vs : List Value), DatAll news vs ds → ds.all (okD n) = true → ∃ as, ReadsAll h vs (kqdPs ds) as := by
      intro ds
      induction ds with
      | nil => intro vs hd _; cases hd; exact ⟨_, ReadsAll.nil⟩
      | cons d ds ihl =>
        intro vs hd hk
        cases hd with
        | cons hd r =>
          rw [List.all_cons, Bool.and_eq_true] at hk
          obtain ⟨as, q⟩ := ih hd hk.1
          obtain ⟨bs, p⟩ := ihl _ r hk.2
          rw [kqdPs]
          exact ⟨_, ReadsAll.cons q p⟩
    intro v d hd hk
    cases hd with
    | none => exact ⟨_, Reads.none⟩
    | bool b => exact ⟨_, Reads.bool b⟩
    | int i t => exact ⟨_, Reads.int i t⟩
    | str x t => exact ⟨_, Reads.str x t⟩
    | bytes _ _ => cases hk
    | tuple hm r =>
      obtain ⟨as, q⟩ := all _ _ r hk
      rw [kqdP]
      exact ⟨as, reads_tuple_at (N.get hm) rfl rfl (by simpa using q)⟩
    | list hm r =>
      obtain ⟨as, q⟩ := all _ _ r hk
      rw [kqdP]
      exact ⟨_, reads_list_at (N.get hm) rfl rfl (by simpa [PySem.W.listOf] using q)⟩
end
theorem okd_lay (n : Nat) : ∀ d : Dat, okD n d = true → (kqdP d).canLay0 = true ∧ (kqdP d).depth ≤ n := by
  induction n with
  | zero =>
    intro d h
    cases d with
    | none => exact ⟨rfl, Nat.le_refl _⟩
    | bool b => exact ⟨rfl, Nat.le_refl _⟩
    | int i => exact ⟨rfl, Nat.le_refl _⟩
    | str x => exact ⟨h, Nat.le_refl _⟩
    | bytes b => cases h
    | tuple ds => cases h
    | list ds => cases h
  | succ n ih =>
    have seq : ∀ ds : List Dat, ds.all (okD n) = true → PyData.canLayAll0 (kqdPs ds) = true ∧ PyData.depthAll (kqdPs ds) ≤ n := fun ds => by
      induction ds with
      | nil => exact fun _ => ⟨rfl, Nat.zero_le _⟩
      | cons d ds step =>
        intro h
        rw [List.all_cons, Bool.and_eq_true] at h
        have here := ih d h.1
        have there := step h.2
        rw [kqdPs, PyData.canLayAll0, PyData.depthAll, here.1, there.1]
        exact ⟨rfl, Nat.max_le.mpr ⟨here.2, there.2⟩⟩
    intro d h
    cases d with
    | none => exact ⟨rfl, Nat.zero_le _⟩
    | bool b => exact ⟨rfl, Nat.zero_le _⟩
    | int i => exact ⟨rfl, Nat.zero_le _⟩
    | str x => exact ⟨h, Nat.zero_le _⟩
    | bytes b => cases h
    | tuple ds => rw [kqdP, PyData.canLay0, PyData.depth]; exact ⟨(seq ds h).1, Nat.succ_le_succ (seq ds h).2⟩
    | list ds => rw [kqdP, PyData.canLay0, PyData.depth]; exact ⟨(seq ds h).1, Nat.succ_le_succ (seq ds h).2⟩
theorem okd_shaped {d : Dat} (h : okD 12 d = true) : SeqAt.shaped (kqdP d) = true := by
  have l := okd_lay 12 d h
  unfold SeqAt.shaped
  rw [l.1, Bool.true_and]
  exact decide_eq_true (Nat.le_trans l.2 (by decide))

section
variable {prog : Program} {w : World} {A : Around} {E : Value → Shared → Prop} {s : Shared} {h₀ : Heap} {L : Addr} {news nw nw2 : Led} {ds : List Dat} {d e : Dat} {v u : Value} {Q : Value → Shared → Prop}
theorem d_ne_same (N : News h₀ L s.heap news) (D1 : DatIn nw v d) (S1 : ∀ p ∈ nw, p ∈ news) (D2 : DatIn nw2 u e) (S2 : ∀ p ∈ nw2, p ∈ news) (he : d = e) (hk : okD 12 d = true) (hu : A.units + 64 < cLine)
    (h : Q (.bool false) s) : wpAny (model prog w) A (compareOp .NotEq v u) Q E s := by
  subst he
  obtain ⟨as, ra⟩ := okd_in N 12 (D1.mono S1) hk
  obtain ⟨bs, rb⟩ := okd_in N 12 (D2.mono S2) hk
  refine ne_dataH ra rb (okd_shaped hk) (okd_shaped hk) hu ?_
  rw [SeqAt.eqv_refl _ (okd_lay 12 d hk).1]
  exact h
theorem d_eq_same (N : News h₀ L s.heap news) (D1 : DatIn nw v d) (S1 : ∀ p ∈ nw, p ∈ news) (D2 : DatIn nw2 u e) (S2 : ∀ p ∈ nw2, p ∈ news) (he : d = e) (hk : okD 12 d = true) (hu : A.units + 64 < cLine)
    (h : Q (.bool true) s) : wpAny (model prog w) A (compareOp .Eq v u) Q E s := by
  subst he
  obtain ⟨as, ra⟩ := okd_in N 12 (D1.mono S1) hk
  obtain ⟨bs, rb⟩ := okd_in N 12 (D2.mono S2) hk
  refine eq_dataH ra rb (okd_shaped hk) (okd_shaped hk) hu ?_
  rw [SeqAt.eqv_refl _ (okd_lay 12 d hk).1]
  exact h
theorem d_ne_nil (N : News h₀ L s.heap news) (D1 : DatIn nw v (.list ds)) (S1 : ∀ p ∈ nw, p ∈ news) (D2 : DatIn nw2 u (.list [])) (S2 : ∀ p ∈ nw2, p ∈ news) (hk : okD 12 (.list ds) = true) (hu : A.units + 64 < cLine)
    (h : Q (.bool (!ds.isEmpty)) s) : wpAny (model prog w) A (compareOp .NotEq v u) Q E s := by
  obtain ⟨as, ra⟩ := okd_in N 12 (D1.mono S1) hk
  obtain ⟨bs, rb⟩ := okd_in N 12 (D2.mono S2) rfl
  refine ne_dataH ra rb (okd_shaped hk) (okd_shaped rfl) hu ?_
  have q : PyData.eqv (kqdP (.list ds)) (kqdP (.list [])) = ds.isEmpty := by cases ds <;> simp [kqdP, kqdPs, PyData.eqv, PyData.eqvAll]
  rw [q]
  exact h
end
theorem off_d_points : True := by
  w_top off
  k_with "W M in" => first
      | assumption | exact DatIn.int _ _ | exact DatIn.bool _ | exact DatIn.str _ _ | exact DatIn.none
      | (refine DatIn.mono ?ms9_k (by assumption); (case ms9_k => walk_at "M sub"))
      | (refine' DatIn.tuple ?mm9_k ?ma9_k; (case mm9_k => k_mem); (case ma9_k => walk_at "M all"))
      | (refine' DatIn.list ?mm9_k ?ma9_k; (case mm9_k => k_mem); (case ma9_k => walk_at "M all"))
      | fail "M in"
  k_with "W M all" => first
      | assumption | exact DatAll.nil
      | (refine DatAll.cons ?_ ?_; (focus (walk_at "M in")); walk_at "M all")
      | fail "M all"
  k_with "W subscriptTail" => (k_here; (with_reducible show wpAny _ _ (subscriptTail _ _ (Value.ref _) (Value.int _ _)) _ _ _); k_dflt (refine' dt_item ?k1_k ?k2_k ?k3_k ?k4_k ?k5_k ?k6_k ?k7_k ?_ ?k9_k; (case k1_k => k_asm); (case k2_k => with_reducible assumption); (case k3_k => walk_at "M sub"); (case k4_k => decide); (case k5_k => decide); (case k6_k => rfl); (case k7_k => rfl); (case k9_k => with_unfolding_all rfl); k_whole); intro v9_k hv9_k; first
      | (obtain ⟨_, hv8_k⟩ := di_int hv9_k; subst hv8_k; clear hv9_k)
      | (have hv8_k := di_bool hv9_k; subst hv8_k; clear hv9_k)
      | (obtain ⟨_, hv8_k⟩ := dt_ref hv9_k; subst hv8_k)
      | (obtain ⟨_, hv8_k⟩ := dl_ref hv9_k; subst hv8_k))
  k_with "W subscriptTail" => (k_here; (with_reducible show wpAny _ _ (subscriptTail _ _ (Value.ref _) (Value.int _ _)) _ _ _); k_dflt (refine' dl_item ?k1_k ?k2_k ?k3_k ?k4_k ?k5_k ?k7_k ?_ ?k9_k; (case k1_k => k_asm); (case k2_k => with_reducible assumption); (case k3_k => walk_at "M sub"); (case k4_k => first | decide | assumption | omega); (case k5_k => first | decide | assumption | omega); (case k7_k => first | assumption | rfl); (case k9_k => with_unfolding_all rfl); k_whole); intro v9_k hv9_k; first
      | (obtain ⟨_, hv8_k⟩ := dt_ref hv9_k; subst hv8_k)
      | (obtain ⟨_, hv8_k⟩ := dl_ref hv9_k; subst hv8_k))
  k_with "W subscriptTail" => (k_here; (with_reducible show wpAny _ _ (subscriptTail _ _ (Value.ref _) (Value.int _ _)) _ _ _); k_dflt (refine' dl_back ?k1_k ?k2_k ?k3_k ?k4_k ?k5_k ?k6_k ?k7_k ?_ ?k9_k; (case k1_k => k_asm); (case k2_k => with_reducible assumption); (case k3_k => walk_at "M sub"); (case k4_k => first | decide | assumption | omega); (case k5_k => first | decide | omega | (simp only [List.length_map, List.length_cons, List.length_append, List.length_nil]; omega)); (case k6_k => first | decide | omega); (case k7_k => first | assumption | rfl); (case k9_k => with_unfolding_all rfl); k_whole); intro v9_k hv9_k; first
      | (obtain ⟨_, hv8_k⟩ := dt_ref hv9_k; subst hv8_k)
      | (obtain ⟨_, hv8_k⟩ := dl_ref hv9_k; subst hv8_k))
  k_with "W call ref" => ((with_reducible show wpAny _ _ (call (Value.ref 68) [Value.int _ _, Value.int _ _]) _ _ _); k_dflt (refine' ct_use (frac_ok _ _ _ _ _ _ _ _ ?ky_k) ?k1_k ?k2_k ?k3_k ?k4_k ?k5_k ?kK_k (List.forall_mem_nil _) (Or.inl ⟨_, _, rfl⟩) ?kd_k ?ku_k ?_; (case ky_k => first | exact Or.inl rfl | exact Or.inr rfl); walk_at "M use"; intro r9_k tl9_k h9_k tk9_k F9_k N9_k hl9_k ho9_k; (try simp only [List.nil_append, List.cons_append, List.append_nil, List.append_assoc] at N9_k); (try simp only [List.nil_append, List.cons_append, List.append_nil, List.append_assoc] at ho9_k); (obtain ⟨_, hv8_k⟩ := dt_ref ho9_k; subst hv8_k); (try dsimp only); (try k_fold)))
  k_with "W call ref" => ((with_reducible show wpAny _ _ (call (Value.ref 68) [Value.int _ _]) _ _ _); k_dflt (refine' ct_use (frac_ok _ _ _ _ _ _ _ _ (Or.inl rfl)) ?k1_k ?k2_k ?k3_k ?k4_k ?k5_k ?kK_k (List.forall_mem_nil _) (Or.inr ⟨rfl, _, rfl⟩) ?kd_k ?ku_k ?_; walk_at "M use"; intro r9_k tl9_k h9_k tk9_k F9_k N9_k hl9_k ho9_k; (try simp only [List.nil_append, List.cons_append, List.append_nil, List.append_assoc] at N9_k); (try simp only [List.nil_append, List.cons_append, List.append_nil, List.append_assoc] at ho9_k); (obtain ⟨_, hv8_k⟩ := dt_ref ho9_k; subst hv8_k); (try dsimp only); (try k_fold)))
  k_with "W M arg" => first | assumption | (refine DatIn.mono ?ms9_k (by assumption); (case ms9_k => walk_at "M sub"))
  trivial
/-! ## points -/
abbrev Pt := Int × Int × Bool
abbrev pd (q : Pt) : Dat := .tuple [.int q.1, .int q.2.1, .bool q.2.2]
def spotD (q : Pt) : Dat := .tuple [fr q.1 1, fr q.2.1 1]
def midD (q r : Pt) : Dat := .tuple [fr (q.1 + r.1) 2, fr (q.2.1 + r.2.1) 2]
def pairD (q : Pt) : Dat := .tuple [fr q.1 2, fr q.2.1 2]
def betw (q r : Pt) : Pt := ((q.1 + r.1).fdiv 2, (q.2.1 + r.2.1).fdiv 2, true)

section
variable (w : World) (p : Program) (loose : List Str) (mean : ExcName → Option Value) (mg mb : Str → Option Value)
theorem spot_ok (q : Pt) : Ct w p loose mean mg mb 123 3 (fun nw vs => ∃ a, vs = [.ref a] ∧ DatIn nw (.ref a) (pd q)) (fun _ tl r => DatIn tl r (spotD q)) := by
  refine ct_intro ?_
  k_fill
  intro dp un gd cn cs a ccd cl outer A₀ base h₀ L m news nw s vs Q E B F X N T hk hS hR hd hu hret
  obtain ⟨a1, rfl, D1⟩ := hR
  walk_at "M enter"
  k_steps
  all_goals (refine hret _ _ _ _ (by assumption) (by walk_at "M news") ?_ ?_)
  · walk_at "M lo"
  · unfold spotD; walk_at "M in"

theorem middle_ok (q r : Pt) : Ct w p loose mean mg mb 130 3 (fun nw vs => ∃ a b, vs = [.ref a, .ref b] ∧ DatIn nw (.ref a) (pd q) ∧ DatIn nw (.ref b) (pd r)) (fun _ tl v => DatIn tl v (midD q r)) := by
  refine ct_intro ?_
  k_fill
  intro dp un gd cn cs a ccd cl outer A₀ base h₀ L m news nw s vs Q E B F X N T hk hS hR hd hu hret
  obtain ⟨a1, b1, rfl, D1, D2⟩ := hR
  walk_at "M enter"
  k_steps
  all_goals (refine hret _ _ _ _ (by assumption) (by walk_at "M news") ?_ ?_)
  · walk_at "M lo"
  · unfold midD; walk_at "M in"

theorem pair_ok (q : Pt) : Ct w p loose mean mg mb 205 3 (fun nw vs => ∃ a, vs = [.ref a] ∧ DatIn nw (.ref a) (pd q)) (fun _ tl r => DatIn tl r (pairD q)) := by
  refine ct_intro ?_
  k_fill
  intro dp un gd cn cs a ccd cl outer A₀ base h₀ L m news nw s vs Q E B F X N T hk hS hR hd hu hret
  obtain ⟨a1, rfl, D1⟩ := hR
  walk_at "M enter"
  k_steps
  all_goals (refine hret _ _ _ _ (by assumption) (by walk_at "M news") ?_ ?_)
  · walk_at "M lo"
  · unfold pairD; walk_at "M in"

theorem betw_ok (q r : Pt) : Ct w p loose mean mg mb 186 3 (fun nw vs => ∃ a b, vs = [.ref a, .ref b] ∧ DatIn nw (.ref a) (pd q) ∧ DatIn nw (.ref b) (pd r)) (fun _ tl v => DatIn tl v (pd (betw q r))) := by
  refine ct_intro ?_
  k_fill
  intro dp un gd cn cs a ccd cl outer A₀ base h₀ L m news nw s vs Q E B F X N T hk hS hR hd hu hret
  obtain ⟨a1, b1, rfl, D1, D2⟩ := hR
  walk_at "M enter"
  k_steps
  all_goals (refine hret _ _ _ _ (by assumption) (by walk_at "M news") ?_ ?_)
  · walk_at "M lo"
  · unfold betw; walk_at "M in"
end
theorem on_d_points : True := by
  k_with "W call ref" => ((with_reducible show wpAny _ _ (call (Value.ref 123) _) _ _ _); k_dflt (refine' ct_use (spot_ok _ _ _ _ _ _ _) ?k1_k ?k2_k ?k3_k ?k4_k ?k5_k ?kK_k ?kS_k ⟨_, rfl, ?kD_k⟩ ?kd_k ?ku_k ?_; walk_at "M use"; (case kD_k => with_reducible assumption); (case kS_k => walk_at "M sub"); intro r9_k tl9_k h9_k tk9_k F9_k N9_k hl9_k ho9_k; (try simp only [List.nil_append, List.cons_append, List.append_nil, List.append_assoc] at N9_k); (try simp only [List.nil_append, List.cons_append, List.append_nil, List.append_assoc] at ho9_k); (obtain ⟨_, hv8_k⟩ := dt_ref ho9_k; subst hv8_k); (try dsimp only); (try k_fold)))
  k_with "W call ref" => ((with_reducible show wpAny _ _ (call (Value.ref 130) _) _ _ _); k_dflt (refine' ct_use (middle_ok _ _ _ _ _ _ _ _) ?k1_k ?k2_k ?k3_k ?k4_k ?k5_k ?kK_k (fun _ h => h) ⟨_, _, rfl, ?kD_k, ?kE_k⟩ ?kd_k ?ku_k ?_; walk_at "M use"; (case kD_k => walk_at "M arg"); (case kE_k => walk_at "M arg"); intro r9_k tl9_k h9_k tk9_k F9_k N9_k hl9_k ho9_k; (try simp only [List.nil_append, List.cons_append, List.append_nil, List.append_assoc] at N9_k); (try simp only [List.nil_append, List.cons_append, List.append_nil, List.append_assoc] at ho9_k); (obtain ⟨_, hv8_k⟩ := dt_ref ho9_k; subst hv8_k); (try dsimp only); (try k_fold)))
  k_with "W call ref" => ((with_reducible show wpAny _ _ (call (Value.ref 205) _) _ _ _); k_dflt (refine' ct_use (pair_ok _ _ _ _ _ _ _) ?k1_k ?k2_k ?k3_k ?k4_k ?k5_k ?kK_k ?kS_k ⟨_, rfl, ?kD_k⟩ ?kd_k ?ku_k ?_; walk_at "M use"; (case kD_k => with_reducible assumption); (case kS_k => walk_at "M sub"); intro r9_k tl9_k h9_k tk9_k F9_k N9_k hl9_k ho9_k; (try simp only [List.nil_append, List.cons_append, List.append_nil, List.append_assoc] at N9_k); (try simp only [List.nil_append, List.cons_append, List.append_nil, List.append_assoc] at ho9_k); (obtain ⟨_, hv8_k⟩ := dt_ref ho9_k; subst hv8_k); (try dsimp only); (try k_fold)))
  k_with "W call ref" => ((with_reducible show wpAny _ _ (call (Value.ref 186) _) _ _ _); k_dflt (refine' ct_use (betw_ok _ _ _ _ _ _ _ _) ?k1_k ?k2_k ?k3_k ?k4_k ?k5_k ?kK_k (fun _ h => h) ⟨_, _, rfl, ?kD_k, ?kE_k⟩ ?kd_k ?ku_k ?_; walk_at "M use"; (case kD_k => walk_at "M arg"); (case kE_k => walk_at "M arg"); intro r9_k tl9_k h9_k tk9_k F9_k N9_k hl9_k ho9_k; (try simp only [List.nil_append, List.cons_append, List.append_nil, List.append_assoc] at N9_k); (try simp only [List.nil_append, List.cons_append, List.append_nil, List.append_assoc] at ho9_k); (obtain ⟨_, hv8_k⟩ := dt_ref ho9_k; subst hv8_k); (try dsimp only); (try k_fold)))
  trivial
theorem off_e_begin : True := by
  w_top off
  k_with "W call type:list" => (k_here; (with_reducible show wpAny _ _ (call (Value.type _) [Value.ref _]) _ _ _); k_dflt (refine' dl_copy ?k1_k ?k2_k ?k3_k ?k4_k ?k5_k ?_; (case k1_k => k_asm); (case k2_k => k_asm); (case k3_k => with_reducible assumption); (case k4_k => walk_at "M sub"); (case k5_k => first | assumption | walk_at "M len"); k_whole); intro D'_k o'_k h'_k F'_k N'_k l1_k Dd'_k; (try k_lt l1_k); (try k_sweep))
  k_with "W binaryOp Add ref ref" => (k_here; (with_reducible show wpAny _ _ (binaryOp _ (Value.ref _) (Value.ref _)) _ _ _); k_dflt (refine' dl_add ?k1_k ?k2_k ?k3_k ?k4_k ?k5_k ?k6_k ?k7_k ?_; (case k1_k => k_asm); (case k2_k => k_asm); (case k3_k => with_reducible assumption); (case k4_k => walk_at "M sub"); (case k5_k => with_reducible assumption); (case k6_k => walk_at "M sub"); (case k7_k => first | assumption | walk_at "M len"); k_whole); intro D'_k o'_k h'_k F'_k N'_k l1_k Dd'_k; (try k_lt l1_k); (try k_sweep))
  k_with "W subscriptTail Name Slice ref ref" => (k_here; (with_reducible show wpAny _ _ (subscriptTail _ (PySem.Expr.Slice (some _) none none _) (Value.ref _) (Value.ref _)) _ _ _); k_dflt (refine' dl_from ?k1_k ?k2_k ?k3_k ?k4_k ?k5_k ?k6_k ?k7_k ?_ ?s_k ?t_k; (case k1_k => k_asm); (case k2_k => k_asm); (case k3_k => with_reducible assumption); (case k4_k => walk_at "M sub"); (case k5_k => exact IsPart.int _ _); (case k6_k => first | decide | omega); (case k7_k => first | assumption | walk_at "M len"); (case s_k => with_unfolding_all rfl); (case t_k => kmk_pure); k_whole); intro D'_k o'_k h'_k F'_k N'_k l1_k Dd'_k; (try k_lt l1_k); (try k_sweep))
  k_with "W subscriptTail Name Slice ref ref" => (k_here; (with_reducible show wpAny _ _ (subscriptTail _ (PySem.Expr.Slice none (some _) none _) (Value.ref _) (Value.ref _)) _ _ _); k_dflt (refine' dl_upto ?k1_k ?k2_k ?k3_k ?k4_k ?k5_k ?k6_k ?k7_k ?_ ?s_k ?t_k; (case k1_k => k_asm); (case k2_k => k_asm); (case k3_k => with_reducible assumption); (case k4_k => walk_at "M sub"); (case k5_k => exact IsPart.int _ _); (case k6_k => first | decide | omega); (case k7_k => first | assumption | walk_at "M len"); (case s_k => with_unfolding_all rfl); (case t_k => kmk_pure); k_whole); intro D'_k o'_k h'_k F'_k N'_k l1_k Dd'_k; (try k_lt l1_k); (try k_sweep))
  k_with "W call builtin:len" => (k_here; (with_reducible show wpAny _ _ (call (Value.builtin "len") [Value.ref _]) _ _ _); k_dflt (refine' dl_len ?k1_k ?k2_k ?k3_k ?k4_k ?_; (case k1_k => k_asm); (case k2_k => with_reducible assumption); (case k3_k => walk_at "M sub"); (case k4_k => first | assumption | walk_at "M len"); k_whole); intro _ _)
  k_with "W M len" => first | ((simp only [List.length_map, List.length_cons, List.length_append, List.length_nil, List.length_drop, List.length_take]); omega) | ((simp only [List.length_map, List.length_cons, List.length_append, List.length_nil, List.length_drop, List.length_take] at *); omega)
  k_with "W subscriptTail" => (k_here; (with_reducible show wpAny _ _ (subscriptTail _ _ (Value.ref _) (Value.int _ _)) _ _ _); k_dflt (refine' dl_idx ?k1_k ?k2_k ?k3_k ?k4_k ?_ ?k9_k; (case k4_k => with_reducible assumption); (case k1_k => k_asm); (case k2_k => with_reducible assumption); (case k3_k => walk_at "M sub"); (case k9_k => with_unfolding_all rfl); k_whole); intro v9_k hv9_k; first
      | (obtain ⟨_, hv8_k⟩ := dt_ref hv9_k; subst hv8_k)
      | (obtain ⟨_, hv8_k⟩ := dl_ref hv9_k; subst hv8_k))
  trivial
/-! ## where a contour begins -/
/-- a contour: its first point and the others; the last one -/
def lastP (q : Pt) (c : List Pt) : Pt := (q :: c).getLast (by simp)
def begD (q : Pt) (c : List Pt) : Dat := if q.2.2 then spotD q else if (lastP q c).2.2 then spotD (lastP q c) else midD (lastP q c) q
def begPts (q : Pt) (c : List Pt) : List Pt := if q.2.2 then c ++ [q] else q :: c
def begun (q : Pt) (c : List Pt) : Pt := if q.2.2 then q else if (lastP q c).2.2 then lastP q c else betw (lastP q c) q

theorem last_get (q : Pt) (c : List Pt) : ((q :: c).map pd)[((-1 : Int) + ((q :: c).map pd).length).toNat]? = some (pd (lastP q c)) := by
  have e : ((-1 : Int) + ((q :: c).map pd).length).toNat = c.length := by simp only [List.length_map, List.length_cons]; omega
  rw [e, List.getElem?_map]
  unfold lastP
  rw [List.getLast_eq_getElem]
  simp [List.getElem?_eq_getElem]

section
variable (w : World) (p : Program) (loose : List Str) (mean : ExcName → Option Value) (mg mb : Str → Option Value)
theorem begun_ok (q : Pt) (c : List Pt) (hc : c.length ≤ 100) : Ct w p loose mean mg mb 212 4 (fun nw vs => ∃ a, vs = [.ref a] ∧ DatIn nw (.ref a) (.list ((q :: c).map pd))) (fun nw tl r => DatIn (nw ++ tl) r (pd (begun q c))) := by
  refine ct_intro ?_
  k_fill
  intro dp un gd cn cs a ccd cl outer A₀ base h₀ L m news nw s vs Q E B F X N T hk hS hR hd hu hret
  obtain ⟨a1, rfl, D1⟩ := hR
  have eL := last_get q c
  by_cases h1 : q.2.2 = true
  · have e : begun q c = q := by simp [begun, h1]
    walk_at "M enter"
    k_steps
    all_goals (refine hret _ _ _ _ (by assumption) (by walk_at "M news") ?_ ?_)
    · walk_at "M lo"
    · rw [e]; walk_at "M in"
  · by_cases h2 : (lastP q c).2.2 = true
    · have e : begun q c = lastP q c := by simp [begun, h1, h2]
      walk_at "M enter"
      k_steps
      all_goals (refine hret _ _ _ _ (by assumption) (by walk_at "M news") ?_ ?_)
      · walk_at "M lo"
      · rw [e]; walk_at "M in"
    · have e : begun q c = betw (lastP q c) q := by simp [begun, h1, h2]
      walk_at "M enter"
      k_steps
      all_goals (refine hret _ _ _ _ (by assumption) (by walk_at "M news") ?_ ?_)
      · walk_at "M lo"
      · rw [e]; walk_at "M in"

theorem begin_ok (q : Pt) (c : List Pt) (hc : c.length ≤ 100) : Ct w p loose mean mg mb 137 4 (fun nw vs => ∃ a, vs = [.ref a] ∧ DatIn nw (.ref a) (.list ((q :: c).map pd))) (fun nw tl r => DatIn (nw ++ tl) r (.tuple [begD q c, .list ((begPts q c).map pd)])) := by
  refine ct_intro ?_
  k_fill
  intro dp un gd cn cs a ccd cl outer A₀ base h₀ L m news nw s vs Q E B F X N T hk hS hR hd hu hret
  obtain ⟨a1, rfl, D1⟩ := hR
  have eL := last_get q c
  have hz : ((q :: c).map pd).length ≤ 1000 := by rw [List.length_map, List.length_cons]; omega
  by_cases h1 : q.2.2 = true
  · have e : begD q c = spotD q := by simp [begD, h1]
    have e2 : (begPts q c).map pd = ((q :: c).map pd).drop (1 : Int).toNat ++ ((q :: c).map pd).take (1 : Int).toNat := by simp [begPts, h1]
    walk_at "M enter"
    k_steps
    all_goals (refine hret _ _ _ _ (by assumption) (by walk_at "M news") ?_ ?_)
    · walk_at "M lo"
    · rw [e, e2]; walk_at "M in"
  · by_cases h2 : (lastP q c).2.2 = true
    · have e : begD q c = spotD (lastP q c) := by simp [begD, h1, h2]
      have e2 : (begPts q c) = q :: c := by simp [begPts, h1]
      walk_at "M enter"
      k_steps
      all_goals (refine hret _ _ _ _ (by assumption) (by walk_at "M news") ?_ ?_)
      · walk_at "M lo"
      · rw [e, e2]; walk_at "M in"
    · have e : begD q c = midD (lastP q c) q := by simp [begD, h1, h2]
      have e2 : (begPts q c) = q :: c := by simp [begPts, h1]
      walk_at "M enter"
      k_steps
      all_goals (refine hret _ _ _ _ (by assumption) (by walk_at "M news") ?_ ?_)
      · walk_at "M lo"
      · rw [e, e2]; walk_at "M in"
end
theorem off_f_loop : True := by
  w_top off
  k_with "W M lt" => first | assumption | exact And.left (by assumption) | exact And.left (And.right (by assumption)) | exact And.left (And.right (And.right (by assumption))) | exact And.left (And.right (And.right (And.right (by assumption)))) | exact And.left (And.right (And.right (And.right (And.right (by assumption))))) | exact And.left (And.right (And.right (And.right (And.right (And.right (by assumption)))))) | exact And.left (And.right (And.right (And.right (And.right (And.right (And.right (by assumption))))))) | exact And.left (And.right (And.right (And.right (And.right (And.right (And.right (And.right (by assumption)))))))) | exact And.left (And.right (And.right (And.right (And.right (And.right (And.right (And.right (And.right (by assumption))))))))) | omega
  k_with "W M all" => first
      | assumption | exact DatAll.nil
      | (refine DatAll.cons ?_ ?_; (focus (walk_at "M in")); walk_at "M all")
      | (refine DatAll.append ?_ ?_; (focus (walk_at "M all")); walk_at "M all")
      | (refine DatAll.mono ?ms9_k (by assumption); (case ms9_k => walk_at "M sub"))
      | fail "M all"
  k_with "W M lo" => first
      | exact lo_nil
      | (refine lo_cons ?_ ?_; (focus (walk_at "M allLt")); walk_at "M lo")
      | (refine lo_app ?_ ?_; (focus (walk_at "M lo")); walk_at "M lo")
      | walk_at "M loL"
      | fail "M lo"
  k_with "W M upd" => first | (refine' Upd.head ?mua_k; (case mua_k => walk_at "M ne")) | (refine' Upd.tail ?mua_k ?mub_k; (case mua_k => k_ne); (case mub_k => walk_at "M upd"))
  k_with "W M tup" => (refine' News.isTup ?kn9_k ?km9_k; (case kn9_k => k_asm); (case km9_k => first | k_mem | (refine' kd_use ?kh9_k ?ks9_k; (case kh9_k => assumption); (case ks9_k => walk_at "M sub"))))
  k_with "W assign Tuple" => (k_here; (with_reducible show wpAny _ _ (assign (Expr.Tuple _ _ _) _ (Value.ref _)) _ _ _); k_dflt (refine' unpackN_ ?F_k ?N_k ?T_k ?k1_k ?k2_k ?k3_k ?_; (case F_k => k_asm); (case N_k => k_asm); (case T_k => walk_at "M tup"); (case k1_k => exact rfl); (case k2_k => exact rfl); (case k3_k => exact rfl)); intro h'_k F'_k N'_k; (try k_sweep))
  k_with "W InvEndG" => k_extra "my end"
  trivial
/-! ## more on the order of addresses -/
theorem allLt_nil {D : Addr} : AllLt D [] := trivial
theorem allLt_cons {D a : Addr} {o : Obj} {l : Led} (h : @LT.lt Nat _ a D) (k : AllLt D l) : AllLt D ((a, o) :: l) := ⟨h, k⟩
theorem allLt_app {D : Addr} {a b : Led} (h : AllLt D a) (k : AllLt D b) : AllLt D (a ++ b) := allLt_iff.mpr fun p hp => (List.mem_append.mp hp).elim (allLt_iff.mp h p) (allLt_iff.mp k p)
theorem allLt_sub {D : Addr} {a b : Led} (h : AllLt D a) (k : ∀ p ∈ b, p ∈ a) : AllLt D b := allLt_iff.mpr fun p hp => allLt_iff.mp h p (k p hp)
theorem lo_sub {L L' X : Led} (h : Lo L X) (k : ∀ p ∈ L', p ∈ L) : Lo L' X := fun q hq => h q (k q hq)
theorem lo_consL {L X : Led} {a : Addr} {o : Obj} (h : ∀ p ∈ X, a < p.1) (k : Lo L X) : Lo ((a, o) :: L) X := fun q hq => by
  rcases List.mem_cons.mp hq with rfl | hq
  · exact h
  · exact k q hq
theorem lo_appL {L L' X : Led} (h : Lo L X) (k : Lo L' X) : Lo (L ++ L') X := fun q hq => (List.mem_append.mp hq).elim (h q) (k q)
theorem lt_of_lo {L X : Led} {a : Addr} {o : Obj} (h : Lo L X) (hm : (a, o) ∈ L) : ∀ p ∈ X, a < p.1 := fun p hp => h _ hm p hp
/-! ## loops over data; what the loop changes stands in front of the ledger -/
def ovr (m₀ : Str → Option Value) : List (Str × Value) → Str → Option Value
  | [], y => m₀ y
  | (n, v) :: r, y => if y = n then some v else ovr m₀ r y
theorem ovr_self {m₀ : Str → Option Value} : ∀ {ps : List (Str × Value)}, (∀ p ∈ ps, m₀ p.1 = some p.2) → ∀ y, m₀ y = ovr m₀ ps y
  | [], _, _ => rfl
  | (n, v) :: r, h, y => by
    unfold ovr
    by_cases e : y = n
    · rw [if_pos e, e]; exact h _ (.head _)
    · rw [if_neg e]; exact ovr_self (fun p hp => h p (.tail _ hp)) y

theorem set_twice {x : Str} {v u : Option Value} {m : Str → Option Value} : (fun y => if y = x then v else (fun y => if y = x then u else m y) y) = fun y => if y = x then v else m y := by
  funext y
  by_cases e : y = x
  · simp only [if_pos e]
  · simp only [if_neg e]
def Apart (mu tl : Led) : Prop := ∀ q ∈ mu, ∀ p ∈ tl, p.1 ≠ q.1

def LoopJ {σ : Type} (Mut : σ → Led) (ps : σ → List (Str × Value)) (I : Nat → Led → σ → Prop) (cst X : Led) (x : Str) (m₀ : Str → Option Value) (i : Nat) (m : Str → Option Value) (nx : Led) : Prop :=
  ∃ c new u, nx = Mut c ++ (cst ++ new) ∧ Lo cst new ∧ Apart (Mut c) (cst ++ new) ∧ I i (X ++ new) c ∧ m = (fun y => if y = x then u else ovr m₀ (ps c) y)

section
variable {prog : Program} {w : World} {A : Around} {E : Value → Shared → Prop} {s : Shared} {env : Env} {h₀ : Heap} {x : Str} {body : List Stmt} {Q : Flow → Shared → Prop}

theorem my_for {σ : Type} {l : Addr} {ds : List Dat} {nw news : Led} {m₀ : Str → Option Value} (Mut : σ → Led) (ps : σ → List (Str × Value)) (I : Nat → Led → σ → Prop) (c₀ : σ) (cst X : Led) (hX : ∀ p ∈ X, p ∈ cst)
    (hh : A.handled = none) (F : Fr h₀ env.locals s.heap m₀) (N : News h₀ env.locals s.heap news) (hN : ∀ p ∈ Mut c₀ ++ cst, p ∈ news) (D : DatIn nw (.ref l) (.list ds)) (S : ∀ p ∈ nw, p ∈ X)
    (hp : ∀ p ∈ ps c₀, m₀ p.1 = some p.2) (hap : Apart (Mut c₀) cst) (hI : I 0 X c₀)
    (turn : ∀ i c new v d h tk own, ds[i]? = some d → Lo cst new → Apart (Mut c) (cst ++ new) → I i (X ++ new) c → DatIn (X ++ new) v d → Apart (Mut c) own → Apart (cst ++ new) own →
      Fr h₀ env.locals h (fun y => if y = x then some v else ovr m₀ (ps c) y) → News h₀ env.locals h (Mut c ++ (cst ++ (new ++ own))) →
      wpAny (model prog w) A (execs body env) (InvPostG h₀ env.locals (LoopJ Mut ps I cst X x m₀ (i + 1)) own { s with heap := h, toks := tk } Q) E { s with heap := h, toks := tk })
    (done : ∀ c new u h tk, Lo cst new → Apart (Mut c) (cst ++ new) → I ds.length (X ++ new) c → Fr h₀ env.locals h (fun y => if y = x then u else ovr m₀ (ps c) y) → News h₀ env.locals h (Mut c ++ (cst ++ new)) → Q .next { s with heap := h, toks := tk }) :
    wpAny (model prog w) A (pyIter (.ref l)) (fun it s₂ => LoopAtV prog w A h₀ env x body Q E it s₂) E s := by
  cases D with
  | @list _ vs nn _ hm ha =>
    have hlen : vs.length = ds.length := ha.length
    have hm' := hX _ (S _ hm)
    refine kdl_iter (news := Mut c₀ ++ cst) (LoopJ Mut ps I cst X x m₀) hh (List.mem_append.mpr (.inr hm')) F (fun p hp => N p (hN p hp)) ⟨c₀, [], m₀ x, by rw [List.append_nil], lo_nil, by rw [List.append_nil]; exact hap, by rw [List.append_nil]; exact hI, ?_⟩ ?_ ?_
    · funext y
      by_cases e : y = x
      · rw [if_pos e, e]
      · rw [if_neg e]; exact ovr_self hp y
    · rintro i v m₁ news₁ h tk own hv hoff hmem ⟨c, new, u, rfl, hs, hap', hI', rfl⟩ F₁ N₁
      have hi : i < ds.length := by rw [← hlen]; exact (List.getElem?_eq_some_iff.mp hv).1
      obtain ⟨v', hv', hD⟩ := ha.get hi
      have ev : v' = v := by rw [hv] at hv'; exact (Option.some.inj hv').symm
      rw [ev] at hD
      rw [List.append_assoc, List.append_assoc] at N₁
      rw [set_twice] at F₁
      refine wpAny_mono (turn i c new v _ h tk own (List.getElem?_eq_getElem hi) hs hap' hI' (hD.mono fun p hp => List.mem_append.mpr (.inl (S p hp))) ?_ ?_ F₁ N₁) (fun f s₂ p => ?_) fun _ _ e => e
      · exact fun q hq p hp => hoff p hp _ (List.mem_map.mpr ⟨q, List.mem_append.mpr (.inl hq), rfl⟩)
      · exact fun q hq p hp => hoff p hp _ (List.mem_map.mpr ⟨q, List.mem_append.mpr (.inr hq), rfl⟩)
      · have up : InvEndG h₀ env.locals (LoopJ Mut ps I cst X x m₀ (i + 1)) own { s with heap := h, toks := tk } s₂ →
            InvEndG h₀ env.locals (fun m' nx => (l, PySem.W.listOf vs.toArray nn) ∈ nx ∧ LoopJ Mut ps I cst X x m₀ (i + 1) m' nx) own { s with heap := h, toks := tk } s₂ := by
          rintro ⟨h', tk', m', news', nx', e', F', N', hn', ho', hoff', hJ⟩
          refine ⟨h', tk', m', news', nx', e', F', N', hn', ho', hoff', ?_, hJ⟩
          obtain ⟨c', new', u', rfl, _⟩ := hJ
          exact List.mem_append.mpr (.inr (List.mem_append.mpr (.inl hm')))
        cases f with
        | ret v => exact p
        | brk => exact p
        | next => exact up p
        | cont => exact up p
    · rintro m₁ news₁ h tk ⟨c, new, u, rfl, hs, hap', hI', rfl⟩ F₁ N₁
      rw [hlen] at hI'
      exact done c new u h tk hs hap' hI' F₁ N₁

/-- a turn's end: the ledger is what was made (conses, tls), what the loop changes, what stood -/
theorem turn_end {σ : Type} {Mut : σ → Led} {ps : σ → List (Str × Value)} {I : Nat → Led → σ → Prop} {cst X own new tls : Led} {m₀ m' : Str → Option Value} {L : Addr} {s₁ : Shared} {h' : Heap} {tk i : Nat} (c c' : σ) (conses : Led)
    (F : Fr h₀ L h' m') (N : News h₀ L h' (conses ++ (Mut c' ++ (cst ++ (new ++ (own ++ tls)))))) (hadr : (Mut c').map (·.1) = (Mut c).map (·.1))
    (hs : Lo cst new) (hap : Apart (Mut c) (cst ++ new)) (ho1 : Apart (Mut c) own) (ho2 : Apart (cst ++ new) own) (hc : Lo (Mut c ++ (cst ++ (new ++ own))) conses) (ht : Lo (Mut c ++ (cst ++ (new ++ own))) tls)
    (hm : ∀ y, y ≠ x → m' y = ovr m₀ (ps c') y) (hI : I i (X ++ (conses ++ (tls ++ new))) c') :
    InvEndG h₀ L (LoopJ Mut ps I cst X x m₀ i) own s₁ { s₁ with heap := h', toks := tk } := by
  have hM : ∀ q ∈ Mut c', ∃ q' ∈ Mut c, q'.1 = q.1 := fun q hq => by
    have : q.1 ∈ (Mut c).map (·.1) := hadr ▸ List.mem_map.mpr ⟨q, hq, rfl⟩
    obtain ⟨q', h1, h2⟩ := List.mem_map.mp this
    exact ⟨q', h1, h2⟩
  refine ⟨h', tk, m', _, Mut c' ++ (cst ++ (conses ++ (tls ++ new))), rfl, F, N, ?_, ?_, ?_, c', _, m' x, rfl, ?_, ?_, hI, ?_⟩
  · intro p hp
    simp only [List.mem_append] at hp ⊢
    rcases hp with h | h | h | h | h
    · exact .inr (.inl h)
    · exact .inr (.inr (.inl h))
    · exact .inl h
    · exact .inr (.inr (.inr (.inr (.inr h))))
    · exact .inr (.inr (.inr (.inl h)))
  · intro p hp
    simp only [List.mem_append]
    exact .inr (.inr (.inr (.inr (.inl hp))))
  · intro p hp b hb
    obtain ⟨q, hq, rfl⟩ := List.mem_map.mp hb
    simp only [List.mem_append] at hq
    have hpo : p ∈ Mut c ++ (cst ++ (new ++ own)) := List.mem_append.mpr (.inr (List.mem_append.mpr (.inr (List.mem_append.mpr (.inr hp)))))
    rcases hq with h | h | h | h | h
    · obtain ⟨q', h1, h2⟩ := hM q h
      exact h2 ▸ ho1 q' h1 p hp
    · exact ho2 q (List.mem_append.mpr (.inl h)) p hp
    · exact Nat.ne_of_lt (hc p hpo q h)
    · exact Nat.ne_of_lt (ht p hpo q h)
    · exact ho2 q (List.mem_append.mpr (.inr h)) p hp
  · intro q hq p hp
    have hqo : q ∈ Mut c ++ (cst ++ (new ++ own)) := List.mem_append.mpr (.inr (List.mem_append.mpr (.inl hq)))
    simp only [List.mem_append] at hp
    rcases hp with h | h | h
    · exact hc q hqo p h
    · exact ht q hqo p h
    · exact hs q hq p h
  · intro q hq p hp
    obtain ⟨q', h1, h2⟩ := hM q hq
    have hqo : q' ∈ Mut c ++ (cst ++ (new ++ own)) := List.mem_append.mpr (.inl h1)
    simp only [List.mem_append] at hp
    rcases hp with h | h | h | h
    · exact h2 ▸ hap q' h1 p (List.mem_append.mpr (.inl h))
    · exact h2 ▸ (Nat.ne_of_lt (hc q' hqo p h)).symm
    · exact h2 ▸ (Nat.ne_of_lt (ht q' hqo p h)).symm
    · exact h2 ▸ hap q' h1 p (List.mem_append.mpr (.inr h))
  · funext y
    by_cases e : y = x
    · rw [if_pos e, e]
    · rw [if_neg e]; exact hm y e
theorem turn_end0 {σ : Type} {Mut : σ → Led} {ps : σ → List (Str × Value)} {I : Nat → Led → σ → Prop} {cst X own new : Led} {m₀ m' : Str → Option Value} {L : Addr} {s₁ : Shared} {h' : Heap} {tk i : Nat} (c c' : σ) (conses : Led)
    (F : Fr h₀ L h' m') (N : News h₀ L h' (conses ++ (Mut c' ++ (cst ++ (new ++ own))))) (hadr : (Mut c').map (·.1) = (Mut c).map (·.1))
    (hs : Lo cst new) (hap : Apart (Mut c) (cst ++ new)) (ho1 : Apart (Mut c) own) (ho2 : Apart (cst ++ new) own) (hc : Lo (Mut c ++ (cst ++ (new ++ own))) conses)
    (hm : ∀ y, y ≠ x → m' y = ovr m₀ (ps c') y) (hI : I i (X ++ (conses ++ new)) c') :
    InvEndG h₀ L (LoopJ Mut ps I cst X x m₀ i) own s₁ { s₁ with heap := h', toks := tk } :=
  turn_end c c' conses (tls := []) F (by rw [List.append_nil]; exact N) hadr hs hap ho1 ho2 hc lo_nil hm hI
end

section
variable {prog : Program} {w : World} {A : Around} {E : Value → Shared → Prop} {s : Shared} {h₀ : Heap} {L D : Addr} {m : Str → Option Value} {news news' : Led}
theorem l_append {hp : Heap} {g : Array GenState} {dr : Drawn} {tk0 : Nat} {os : OsState} {vs : List Value} {n : Nat} {x : Value} {Q : Value → Shared → Prop} (F : Fr h₀ L hp m) (N : News h₀ L hp news) (U : Upd D (PySem.W.listOf vs.toArray n) (PySem.W.listOf (vs ++ [x]).toArray (n + 1)) news news')
    (h : ∀ h', Fr h₀ L h' m → News h₀ L h' news' → Q .none ⟨h', g, dr, tk0, os⟩) (hsz : vs.length ≤ 1000) : wpAny (model prog w) A (call (.builtin "list.append") [.ref D, x]) Q E ⟨hp, g, dr, tk0, os⟩ := by
  refine append_K (its := vs.toArray) (n := n) F N ?_ h (by rw [List.size_toArray, sizeLine_eq]; omega)
  rw [List.push_toArray]; exact U
theorem ne_of_lo {L X : Led} {a : Addr} {o : Obj} (h : Lo L X) (hm : (a, o) ∈ L) : ∀ p ∈ X, p.1 ≠ a := fun p hp => (Nat.ne_of_lt (h _ hm p hp)).symm
theorem ne_of_lt {L : Led} {a : Addr} (h : AllLt a L) : ∀ p ∈ L, p.1 ≠ a := fun p hp => Nat.ne_of_lt (allLt_iff.mp h p hp)
end
theorem dt2_inv {nw : Led} {a : Addr} {d e : Dat} (h : DatIn nw (.ref a) (.tuple [d, e])) : ∃ n v u, (a, ({ cls := .type "tuple", data := .seq [v, u].toArray n } : Obj)) ∈ nw ∧ DatIn nw v d ∧ DatIn nw u e := by
  obtain ⟨t, vs, n, e, hm, ha⟩ := dt_inv h
  injection e with e
  subst e
  obtain ⟨x, vs, rfl, d1, ha⟩ := da_inv ha
  obtain ⟨y, vs, rfl, d2, ha⟩ := da_inv ha
  obtain rfl := da_nil ha
  exact ⟨n, x, y, hm, d1, d2⟩
/-! ### one list that grows -/
def Mut1 {τ : Type} (lf : Addr) (c : List Value × Nat × τ) : Led := [(lf, PySem.W.listOf c.1.toArray c.2.1)]
abbrev Loop1 {τ : Type} (lf : Addr) (ps : τ → List (Str × Value)) (I : Nat → Led → List Value → Nat → τ → Prop) (cst X : Led) (x : Str) (m₀ : Str → Option Value) (i : Nat) (m : Str → Option Value) (nx : Led) : Prop :=
  LoopJ (Mut1 lf) (fun c : List Value × Nat × τ => ps c.2.2) (fun i tl c => I i tl c.1 c.2.1 c.2.2) cst X x m₀ i m nx
section
variable {prog : Program} {w : World} {A : Around} {E : Value → Shared → Prop} {s : Shared} {env : Env} {h₀ : Heap} {x : Str} {body : List Stmt} {Q : Flow → Shared → Prop}
theorem my_for1 {τ : Type} {l lf : Addr} {ds : List Dat} {nw cst : Led} {vs₀ : List Value} {n₀ : Nat} {m₀ : Str → Option Value} (ps : τ → List (Str × Value)) (I : Nat → Led → List Value → Nat → τ → Prop) (c₀ : τ) (X : Led)
    (hh : A.handled = none) (F : Fr h₀ env.locals s.heap m₀) (N : News h₀ env.locals s.heap ((lf, PySem.W.listOf vs₀.toArray n₀) :: cst)) (D : DatIn nw (.ref l) (.list ds)) (S : ∀ p ∈ nw, p ∈ X) (hX : ∀ p ∈ X, p ∈ cst)
    (hp : ∀ p ∈ ps c₀, m₀ p.1 = some p.2) (hap : ∀ p ∈ cst, p.1 ≠ lf) (hI : I 0 X vs₀ n₀ c₀)
    (turn : ∀ K X i vs n c new v d h tk own, ds[i]? = some d → Inn X K → Lo K new → (∀ p ∈ K, p.1 ≠ lf) → (∀ p ∈ new, p.1 ≠ lf) → I i (X ++ new) vs n c → DatIn (X ++ new) v d → (∀ p ∈ own, p.1 ≠ lf) → Apart (K ++ new) own →
      Fr h₀ env.locals h (fun y => if y = x then some v else ovr m₀ (ps c) y) → News h₀ env.locals h ((lf, PySem.W.listOf vs.toArray n) :: (K ++ (new ++ own))) →
      wpAny (model prog w) A (execs body env) (InvPostG h₀ env.locals (Loop1 lf ps I K X x m₀ (i + 1)) own { s with heap := h, toks := tk } Q) E { s with heap := h, toks := tk })
    (done : ∀ vs n c new u h tk, Lo cst new → (∀ p ∈ cst, p.1 ≠ lf) → (∀ p ∈ new, p.1 ≠ lf) → I ds.length (X ++ new) vs n c → Fr h₀ env.locals h (fun y => if y = x then u else ovr m₀ (ps c) y) → News h₀ env.locals h ((lf, PySem.W.listOf vs.toArray n) :: (cst ++ new)) → Q .next { s with heap := h, toks := tk }) :
    wpAny (model prog w) A (pyIter (.ref l)) (fun it s₂ => LoopAtV prog w A h₀ env x body Q E it s₂) E s := by
  refine my_for (σ := List Value × Nat × τ) (Mut1 lf) (fun c => ps c.2.2) (fun i tl c => I i tl c.1 c.2.1 c.2.2) (vs₀, n₀, c₀) cst X hX hh F N (fun _ h => h) D S hp ?_ hI ?_ ?_
  · intro q hq p hp
    rcases List.mem_singleton.mp hq with rfl
    exact hap p hp
  · rintro i ⟨vs, n, c⟩ new v d h tk own hd hlo hap' hI' hD ho1 ho2 F₁ N₁
    exact turn cst X i vs n c new v d h tk own hd ⟨hX⟩ hlo hap (fun p hp => hap' _ (.head _) p (List.mem_append.mpr (.inr hp))) hI' hD (ho1 _ (.head _)) ho2 F₁ N₁
  · rintro ⟨vs, n, c⟩ new u h tk hlo hap' hI' F₁ N₁
    exact done vs n c new u h tk hlo hap (fun p hp => hap' _ (.head _) p (List.mem_append.mpr (.inr hp))) hI' F₁ N₁

theorem my_for1c {τ : Type} {l lf : Addr} {ds : List Dat} {nv nw news tls : Led} {vs₀ : List Value} {n₀ : Nat} {m₀ : Str → Option Value} (conses : Led) (ps : τ → List (Str × Value)) (I : Nat → Led → List Value → Nat → τ → Prop) (c₀ : τ)
    (hh : A.handled = none) (hS : Inn nw news) (F : Fr h₀ env.locals s.heap m₀) (N : News h₀ env.locals s.heap ((lf, PySem.W.listOf vs₀.toArray n₀) :: (conses ++ (news ++ tls)))) (D : DatIn nv (.ref l) (.list ds)) (S : ∀ p ∈ nv, p ∈ conses ++ (nw ++ tls))
    (hp : ∀ p ∈ ps c₀, m₀ p.1 = some p.2) (hap : ∀ p ∈ conses ++ (news ++ tls), p.1 ≠ lf) (hI : I 0 (conses ++ (nw ++ tls)) vs₀ n₀ c₀)
    (turn : ∀ K X i vs n c new v d h tk own, ds[i]? = some d → Inn X K → Lo K new → (∀ p ∈ K, p.1 ≠ lf) → (∀ p ∈ new, p.1 ≠ lf) → I i (X ++ new) vs n c → DatIn (X ++ new) v d → (∀ p ∈ own, p.1 ≠ lf) → Apart (K ++ new) own →
      Fr h₀ env.locals h (fun y => if y = x then some v else ovr m₀ (ps c) y) → News h₀ env.locals h ((lf, PySem.W.listOf vs.toArray n) :: (K ++ (new ++ own))) →
      wpAny (model prog w) A (execs body env) (InvPostG h₀ env.locals (Loop1 lf ps I K X x m₀ (i + 1)) own { s with heap := h, toks := tk } Q) E { s with heap := h, toks := tk })
    (done : ∀ vs n c new u h tk, Lo (conses ++ (news ++ tls)) new → (∀ p ∈ conses ++ (news ++ tls), p.1 ≠ lf) → (∀ p ∈ new, p.1 ≠ lf) → I ds.length ((conses ++ (nw ++ tls)) ++ new) vs n c → Fr h₀ env.locals h (fun y => if y = x then u else ovr m₀ (ps c) y) → News h₀ env.locals h ((lf, PySem.W.listOf vs.toArray n) :: ((conses ++ (news ++ tls)) ++ new)) → Q .next { s with heap := h, toks := tk }) :
    wpAny (model prog w) A (pyIter (.ref l)) (fun it s₂ => LoopAtV prog w A h₀ env x body Q E it s₂) E s := by
  refine my_for1 ps I c₀ (conses ++ (nw ++ tls)) hh F N D S (fun p hp => ?_) hp hap hI turn done
  simp only [List.mem_append] at hp ⊢
  rcases hp with h | h | h
  · exact .inl h
  · exact .inr (.inl (hS.out p h))
  · exact .inr (.inr h)

theorem turn_end1 {τ : Type} {lf : Addr} {ps : τ → List (Str × Value)} {I : Nat → Led → List Value → Nat → τ → Prop} {K X own new tls : Led} {m₀ m' : Str → Option Value} {L : Addr} {s₁ : Shared} {h' : Heap} {tk i : Nat} {vs' : List Value} {n' : Nat} (c' : τ) (conses : Led)
    (F : Fr h₀ L h' m') (N : News h₀ L h' (conses ++ ((lf, PySem.W.listOf vs'.toArray n') :: (K ++ (new ++ (own ++ tls))))))
    (hs : Lo K new) (hapK : ∀ p ∈ K, p.1 ≠ lf) (hapN : ∀ p ∈ new, p.1 ≠ lf) (ho1 : ∀ p ∈ own, p.1 ≠ lf) (ho2 : Apart (K ++ new) own) (hc : ∀ o, Lo ((lf, o) :: (K ++ (new ++ own))) conses) (ht : ∀ o, Lo ((lf, o) :: (K ++ (new ++ own))) tls)
    (hm : ∀ y, y ≠ x → m' y = ovr m₀ (ps c') y) (hI : I i (X ++ (conses ++ (tls ++ new))) vs' n' c') :
    InvEndG h₀ L (Loop1 lf ps I K X x m₀ i) own s₁ { s₁ with heap := h', toks := tk } :=
  turn_end (Mut := Mut1 lf) (ps := fun c : List Value × Nat × τ => ps c.2.2) (I := fun i tl c => I i tl c.1 c.2.1 c.2.2) (vs', n', c') (vs', n', c') conses F N rfl hs
    (fun q hq p hp => by rcases List.mem_singleton.mp hq with rfl; exact (List.mem_append.mp hp).elim (hapK p) (hapN p)) (fun q hq p hp => by rcases List.mem_singleton.mp hq with rfl; exact ho1 p hp) ho2 (hc _) (ht _) hm hI
theorem turn_end10 {τ : Type} {lf : Addr} {ps : τ → List (Str × Value)} {I : Nat → Led → List Value → Nat → τ → Prop} {K X own new : Led} {m₀ m' : Str → Option Value} {L : Addr} {s₁ : Shared} {h' : Heap} {tk i : Nat} {vs' : List Value} {n' : Nat} (c' : τ) (conses : Led)
    (F : Fr h₀ L h' m') (N : News h₀ L h' (conses ++ ((lf, PySem.W.listOf vs'.toArray n') :: (K ++ (new ++ own)))))
    (hs : Lo K new) (hapK : ∀ p ∈ K, p.1 ≠ lf) (hapN : ∀ p ∈ new, p.1 ≠ lf) (ho1 : ∀ p ∈ own, p.1 ≠ lf) (ho2 : Apart (K ++ new) own) (hc : ∀ o, Lo ((lf, o) :: (K ++ (new ++ own))) conses)
    (hm : ∀ y, y ≠ x → m' y = ovr m₀ (ps c') y) (hI : I i (X ++ (conses ++ new)) vs' n' c') :
    InvEndG h₀ L (Loop1 lf ps I K X x m₀ i) own s₁ { s₁ with heap := h', toks := tk } :=
  turn_end1 c' conses (tls := []) F (by rw [List.append_nil]; exact N) hs hapK hapN ho1 ho2 hc (fun _ => lo_nil) hm hI
end

/-- the walk halts here: a loop is taken by hand -/
def Halt (P : Prop) : Prop := P
section
variable {prog : Program} {w : World} {A : Around} {E : Value → Shared → Prop} {s : Shared} {env : Env} {h₀ : Heap} {x : Str} {body : List Stmt} {Q : Flow → Shared → Prop}
theorem For_halt {m : Str → Option Value} {px pos : Pos} {iter : PySem.Expr} (F : Fr h₀ env.locals s.heap m) (hx : env.kindOf x = some .local)
    (hp : (env.scope.kind == .class || (env.scope.kind == .module && env.locals != env.globals)) = false)
    (h : wpAny (model prog w) A (eval iter env) (fun xv s₁ => Halt (wpAny (model prog w) A (pyIter xv) (fun it s₂ => LoopAtV prog w A h₀ env x body Q E it s₂) E s₁)) E s)
    (hs : ∀ x, foldedSetIterable iter env x = pure x := by intro _; rfl)
    (hE : PassesOwn (model prog w) A env E := by passes_own) :
    wpAny (model prog w) A (exec (.For (.Name x px) iter body [] pos) env) Q E s := For_invVF F hx hp h hs hE
end
theorem on_f_loop : True := by
  k_with "W M same" => (intro y9_k hy9_k; first | (simp only [ovr, upd, hy9_k, if_false]; done) | ((simp only [ovr, upd, hy9_k, if_false]); (repeat' split) <;> first | rfl | contradiction | (simp_all; done)))
  k_with "W M allLt1" => first
      | exact allLt_sub (by assumption) (by walk_at "M sub") | exact allLt_sub (allLt_of (by assumption)) (by walk_at "M sub")
      | exact allLt_sub (And.right (by assumption)) (by walk_at "M sub") | exact allLt_sub (And.right (And.right (by assumption))) (by walk_at "M sub") | exact allLt_sub (And.right (And.right (And.right (by assumption)))) (by walk_at "M sub") | exact allLt_sub (And.right (And.right (And.right (And.right (by assumption))))) (by walk_at "M sub")
      | exact allLt_sub (And.right (And.right (And.right (And.right (And.right (by assumption)))))) (by walk_at "M sub")
      | fail "M allLt1"
  k_with "W M allLt" => first
      | exact allLt_nil
      | (refine allLt_cons ?_ ?_; (focus (walk_at "M lt")); walk_at "M allLt")
      | (refine allLt_app ?_ ?_; (focus (walk_at "M allLt")); walk_at "M allLt")
      | walk_at "M allLt1"
      | fail "M allLt"
  k_with "W M loL" => first
      | assumption
      | exact lo_sub (by assumption) (by walk_at "M sub")
      | (refine lo_consL ?_ ?_; (focus (exact lt_of_lo (by assumption) (by k_mem))); walk_at "M loL")
      | (refine lo_appL ?_ ?_; (focus (walk_at "M loL")); walk_at "M loL")
      | fail "M loL"
  k_with "W M ne" => first
      | exact List.forall_mem_nil _
      | assumption
      | (refine List.forall_mem_append.mpr ⟨?_, ?_⟩; (focus (walk_at "M ne")); walk_at "M ne")
      | (refine List.forall_mem_cons.mpr ⟨?_, ?_⟩; (focus (first | k_ne | exact neN (by assumption))); walk_at "M ne")
      | exact ne_of_lo (by assumption) (by k_mem)
      | exact ne_of_lt (by walk_at "M allLt")
      | fail "M ne"
  k_with "W call builtin:list.append" => (k_here; (with_reducible show wpAny _ _ (call (Value.builtin _) [Value.ref _, _]) _ _ _); k_dflt (refine' l_append ?k1_k ?k2_k ?k3_k ?_ ?z_k; (case k1_k => k_asm); (case k2_k => k_asm); (case k3_k => walk_at "M upd"); (case z_k => first | assumption | omega | walk_at "M len"); k_whole); intro h'_k F'_k N'_k; (try k_sweep))
  k_with "W exec For Name Name cons nil" => (k_here; (rename Fr _ _ _ _ => lF'_k); (with_unfolding_all refine' For_halt lF'_k ?k1_k ?k2_k ?_; (case k1_k => exact rfl); (case k2_k => exact rfl); k_whole))
  k_with "W exec For Name Call cons nil" => (k_here; (rename Fr _ _ _ _ => lF'_k); (with_unfolding_all refine' For_halt lF'_k ?k1_k ?k2_k ?_; (case k1_k => exact rfl); (case k2_k => exact rfl); k_whole))
  k_with "W exec For Name Attribute cons nil" => (k_here; (rename Fr _ _ _ _ => lF'_k); (with_unfolding_all refine' For_halt lF'_k ?k1_k ?k2_k ?_; (case k1_k => exact rfl); (case k2_k => exact rfl); k_whole))
  k_with "W call ref" => ((with_reducible show wpAny _ _ (call (Value.ref 137) _) _ _ _); k_dflt (refine' ct_use (begin_ok _ _ _ _ _ _ _ _ ?kc_k) ?k1_k ?k2_k ?k3_k ?k4_k ?k5_k ?kK_k ?kS_k ⟨_, rfl, ?kD_k⟩ ?kd_k ?ku_k ?_; walk_at "M use"; (case kD_k => with_reducible assumption); (case kS_k => walk_at "M sub"); (case kc_k => omega); intro r9_k tl9_k h9_k tk9_k F9_k N9_k hl9_k ho9_k; (try simp only [List.nil_append, List.cons_append, List.append_nil, List.append_assoc] at N9_k); (try simp only [List.nil_append, List.cons_append, List.append_nil, List.append_assoc] at ho9_k); (obtain ⟨_, hv8_k⟩ := dt_ref ho9_k; subst hv8_k); (obtain ⟨_, _, _, hm7_k, hd7_k, he7_k⟩ := dt2_inv ho9_k); (obtain ⟨_, hv7_k⟩ := dl_ref he7_k; subst hv7_k); (try dsimp only); (try k_fold)))
  trivial
theorem off_f_loop2 : True := by
  w_top off
  trivial
/-! ## loops over range(n) -/
section
variable {prog : Program} {w : World} {A : Around} {E : Value → Shared → Prop} {s : Shared} {env : Env} {h₀ : Heap} {x : Str} {body : List Stmt} {Q : Flow → Shared → Prop}
/-- a loop over range(n), n up to 1000: what holds between two turns is J -/
theorem rng_loop {r : Addr} {n : Nat} {t₀ u₀ v₀ : Tok} {nx₀ : Led} {m₀ : Str → Option Value} (J : Nat → (Str → Option Value) → Led → Prop)
    (hh : A.handled = none) (hr : IsRange s.heap r 0 (n : Int) 1 t₀ u₀ v₀) (hn : n ≤ 1000) (F : Fr h₀ env.locals s.heap m₀) (N : News h₀ env.locals s.heap nx₀) (h0 : J 0 m₀ nx₀)
    (turn : ∀ i t m nx h tk own, i < n → J i m nx → (∀ p ∈ own, ∀ q ∈ nx, p.1 ≠ q.1) → Fr h₀ env.locals h (fun y => if y = x then some (.int (i : Int) t) else m y) → News h₀ env.locals h (nx ++ own) →
      wpAny (model prog w) A (execs body env) (InvPostG h₀ env.locals (J (i + 1)) own { s with heap := h, toks := tk } Q) E { s with heap := h, toks := tk })
    (done : ∀ m nx h tk, J n m nx → Fr h₀ env.locals h m → News h₀ env.locals h nx → Q .next { s with heap := h, toks := tk }) :
    wpAny (model prog w) A (pyIter (.ref r)) (fun it s₂ => LoopAtV prog w A h₀ env x body Q E it s₂) E s := by
  have one : ∀ {b c : Addr}, b ∈ [c] → b = c := List.mem_singleton.mp
  have turns : Builtin.Range.rangeSize 0 (n : Int) 1 = (n : Int) := by
    unfold Builtin.Range.rangeSize
    simp
    omega
  have big : (n : Int) ≤ 1000 := Int.ofNat_le.mpr hn
  refine wpAny_pyIter_range hr (small_one (by decide) (by decide) (by omega) (by omega)) ?_
  rw [turns]
  refine kdr_loop J ((Walks.range hh s.heap.objs.size 0 1 n).bound) (fun _ => id) (fun _ => id) (fun i h hi b hb => one hb ▸ ⟨_, hi⟩) (fun q => Nat.ne_of_lt F.ns.lt (one q)) (fun b hb => one hb ▸ next_is_new F)
    (fun p hp q => Nat.ne_of_lt (Heap.lt_size (N p hp).1) (one q)) (by simpa using Heap.get?_push_size s.heap rfl) (F.push _) (fun p hp => (N p hp).imp_left fun e => Heap.get?_push_of_some _ e) h0 (fun i v m nx h tk own hi hv off hJ F₁ N₁ => ?_) done
  obtain ⟨_, t, rfl⟩ := hv
  rw [Int.mul_one, Int.zero_add] at F₁
  exact turn i t m nx h tk own hi hJ (fun p hp q hq => off p hp _ (List.mem_map_of_mem hq)) F₁ N₁
theorem my_range {σ : Type} {r : Addr} {z : Int} {t₀ u₀ v₀ : Tok} {news : Led} {m₀ : Str → Option Value} (n : Nat) (Mut : σ → Led) (ps : σ → List (Str × Value)) (I : Nat → Led → σ → Prop) (c₀ : σ) (cst X : Led) (hX : ∀ p ∈ X, p ∈ cst)
    (hh : A.handled = none) (hr : IsRange s.heap r 0 z 1 t₀ u₀ v₀) (hz : z = (n : Int)) (hn : n ≤ 1000) (F : Fr h₀ env.locals s.heap m₀) (N : News h₀ env.locals s.heap news) (hN : ∀ p ∈ Mut c₀ ++ cst, p ∈ news)
    (hp : ∀ p ∈ ps c₀, m₀ p.1 = some p.2) (hap : Apart (Mut c₀) cst) (hI : I 0 X c₀)
    (turn : ∀ i c new t h tk own, i < n → Lo cst new → Apart (Mut c) (cst ++ new) → I i (X ++ new) c → Apart (Mut c) own → Apart (cst ++ new) own →
      Fr h₀ env.locals h (fun y => if y = x then some (.int (i : Int) t) else ovr m₀ (ps c) y) → News h₀ env.locals h (Mut c ++ (cst ++ (new ++ own))) →
      wpAny (model prog w) A (execs body env) (InvPostG h₀ env.locals (LoopJ Mut ps I cst X x m₀ (i + 1)) own { s with heap := h, toks := tk } Q) E { s with heap := h, toks := tk })
    (done : ∀ c new u h tk, Lo cst new → Apart (Mut c) (cst ++ new) → I n (X ++ new) c → Fr h₀ env.locals h (fun y => if y = x then u else ovr m₀ (ps c) y) → News h₀ env.locals h (Mut c ++ (cst ++ new)) → Q .next { s with heap := h, toks := tk }) :
    wpAny (model prog w) A (pyIter (.ref r)) (fun it s₂ => LoopAtV prog w A h₀ env x body Q E it s₂) E s := by
  subst hz
  have start : m₀ = fun y => if y = x then m₀ x else ovr m₀ (ps c₀) y := by
    funext y
    by_cases e : y = x
    · rw [if_pos e, e]
    · rw [if_neg e]; exact ovr_self hp y
  refine rng_loop (LoopJ Mut ps I cst X x m₀) hh hr hn F (fun p hp => N p (hN p hp)) ⟨c₀, [], m₀ x, by rw [List.append_nil], lo_nil, by rw [List.append_nil]; exact hap, by rw [List.append_nil]; exact hI, start⟩ ?_ ?_
  · rintro i t m₁ nx h tk own hi ⟨c, new, u, rfl, hs, hap', hI', rfl⟩ hoff F₁ N₁
    rw [List.append_assoc, List.append_assoc] at N₁
    rw [set_twice] at F₁
    exact turn i c new t h tk own hi hs hap' hI' (fun q hq p hp => hoff p hp q (List.mem_append.mpr (.inl hq))) (fun q hq p hp => hoff p hp q (List.mem_append.mpr (.inr hq))) F₁ N₁
  · rintro m₁ nx h tk ⟨c, new, u, rfl, hs, hap', hI', rfl⟩ F₁ N₁
    exact done c new u h tk hs hap' hI' F₁ N₁

theorem my_range1c {τ : Type} {r lf : Addr} {z : Int} {t₀ u₀ v₀ : Tok} {nw news tls : Led} {vs₀ : List Value} {n₀ : Nat} {m₀ : Str → Option Value} (num : Nat) (conses : Led) (ps : τ → List (Str × Value)) (I : Nat → Led → List Value → Nat → τ → Prop) (c₀ : τ)
    (hh : A.handled = none) (hS : Inn nw news) (hr : IsRange s.heap r 0 z 1 t₀ u₀ v₀) (hz : z = (num : Int)) (hn : num ≤ 1000) (F : Fr h₀ env.locals s.heap m₀) (N : News h₀ env.locals s.heap ((lf, PySem.W.listOf vs₀.toArray n₀) :: (conses ++ (news ++ tls))))
    (hp : ∀ p ∈ ps c₀, m₀ p.1 = some p.2) (hap : ∀ p ∈ conses ++ (news ++ tls), p.1 ≠ lf) (hI : I 0 (conses ++ (nw ++ tls)) vs₀ n₀ c₀)
    (turn : ∀ K X i vs n c new t h tk own, i < num → Inn X K → (∀ p ∈ conses ++ (nw ++ tls), p ∈ X) → Lo K new → (∀ p ∈ K, p.1 ≠ lf) → (∀ p ∈ new, p.1 ≠ lf) → I i (X ++ new) vs n c → (∀ p ∈ own, p.1 ≠ lf) → Apart (K ++ new) own →
      Fr h₀ env.locals h (fun y => if y = x then some (.int (i : Int) t) else ovr m₀ (ps c) y) → News h₀ env.locals h ((lf, PySem.W.listOf vs.toArray n) :: (K ++ (new ++ own))) →
      wpAny (model prog w) A (execs body env) (InvPostG h₀ env.locals (Loop1 lf ps I K X x m₀ (i + 1)) own { s with heap := h, toks := tk } Q) E { s with heap := h, toks := tk })
    (done : ∀ vs n c new u h tk, Lo (conses ++ (news ++ tls)) new → (∀ p ∈ conses ++ (news ++ tls), p.1 ≠ lf) → (∀ p ∈ new, p.1 ≠ lf) → I num ((conses ++ (nw ++ tls)) ++ new) vs n c → Fr h₀ env.locals h (fun y => if y = x then u else ovr m₀ (ps c) y) → News h₀ env.locals h ((lf, PySem.W.listOf vs.toArray n) :: ((conses ++ (news ++ tls)) ++ new)) → Q .next { s with heap := h, toks := tk }) :
    wpAny (model prog w) A (pyIter (.ref r)) (fun it s₂ => LoopAtV prog w A h₀ env x body Q E it s₂) E s := by
  have hX : ∀ p ∈ conses ++ (nw ++ tls), p ∈ conses ++ (news ++ tls) := fun p hp => by
    simp only [List.mem_append] at hp ⊢
    rcases hp with h | h | h
    · exact .inl h
    · exact .inr (.inl (hS.out p h))
    · exact .inr (.inr h)
  refine my_range (σ := List Value × Nat × τ) num (Mut1 lf) (fun c => ps c.2.2) (fun i tl c => I i tl c.1 c.2.1 c.2.2) (vs₀, n₀, c₀) (conses ++ (news ++ tls)) (conses ++ (nw ++ tls)) hX hh hr hz hn F N (fun _ h => h) hp ?_ hI ?_ ?_
  · intro q hq p hp
    rcases List.mem_singleton.mp hq with rfl
    exact hap p hp
  · rintro i ⟨vs, n, c⟩ new t h tk own hi hlo hap' hI' ho1 ho2 F₁ N₁
    exact turn _ _ i vs n c new t h tk own hi ⟨hX⟩ (fun _ h => h) hlo hap (fun p hp => hap' _ (.head _) p (List.mem_append.mpr (.inr hp))) hI' (ho1 _ (.head _)) ho2 F₁ N₁
  · rintro ⟨vs, n, c⟩ new u h tk hlo hap' hI' F₁ N₁
    exact done vs n c new u h tk hlo hap (fun p hp => hap' _ (.head _) p (List.mem_append.mpr (.inr hp))) hI' F₁ N₁
end
theorem off_g_seg : True := by
  w_top off
  trivial
/-! ## contour_segments -/
def moveD (a : Dat) : Dat := .tuple [.str (Str.ofString "move"), a]
def lineD (a : Dat) : Dat := .tuple [.str (Str.ofString "line"), a]
def quadD (a b : Dat) : Dat := .tuple [.str (Str.ofString "quad"), a, b]
def closeD : Dat := .tuple [.str (Str.ofString "close")]
def segStep (s : List Dat × Option Pt) (r : Pt) : List Dat × Option Pt :=
  match s.2 with
  | none => if r.2.2 then (s.1 ++ [lineD (spotD r)], none) else (s.1, some r)
  | some k => if r.2.2 then (s.1 ++ [quadD (spotD k) (spotD r)], none) else (s.1 ++ [quadD (spotD k) (midD k r)], some r)
def segEnd (b : Dat) (s : List Dat × Option Pt) : List Dat :=
  (match s.2 with
  | none => s.1
  | some k => s.1 ++ [quadD (spotD k) b]) ++ [closeD]
def segs (q : Pt) (c : List Pt) : List Dat := segEnd (begD q c) ((begPts q c).foldl segStep ([moveD (begD q c)], none))
def ctlIn (nw : Led) (cv : Value) (k : Option Pt) : Prop :=
  match k with
  | none => cv = .none
  | some k => ∃ a, cv = .ref a ∧ DatIn nw (.ref a) (pd k)

/-- what holds between two turns -/
abbrev SegJ (q : Pt) (c : List Pt) (i : Nat) (tl : Led) (vs : List Value) (_ : Nat) (z : Value × (List Dat × Option Pt)) : Prop :=
  DatAll tl vs z.2.1 ∧ vs.length ≤ i + 1 ∧ ctlIn tl z.1 z.2.2 ∧ z.2 = ((begPts q c).take i).foldl segStep ([moveD (begD q c)], none)
section
variable (w : World) (p : Program) (loose : List Str) (mean : ExcName → Option Value) (mg mb : Str → Option Value)
theorem seg_ok (q : Pt) (c : List Pt) (hc : c.length ≤ 50) : Ct w p loose mean mg mb 144 6 (fun nw vs => ∃ a, vs = [.ref a] ∧ DatIn nw (.ref a) (.list ((q :: c).map pd))) (fun nw tl r => DatIn (nw ++ tl) r (.list (segs q c))) := by
  refine ct_intro ?_
  k_fill
  intro dp un gd cn cs a ccd cl outer A₀ base h₀ L m news nw s vs Q E B F X N T hk hS hR hd hu hret
  obtain ⟨a1, rfl, D1⟩ := hR
  have hpl : (begPts q c).length ≤ 51 := by unfold begPts; split <;> simp <;> omega
  walk_at "M enter"
  k_steps
  unfold Halt
  (rename Fr _ _ _ _ => lF); (rename News _ _ _ _ => lN); (rename DatIn _ _ (Dat.list (List.map pd (begPts q c))) => lD)
  refine my_for1c (τ := Value × (List Dat × Option Pt)) [_] (fun c => [(Str.ofString "control", c.1)]) (SegJ q c) (Value.none, ([moveD (begD q c)], none)) rfl hS lF lN lD ?S ?hp ?hap ?hI ?turn ?done
  case S => walk_at "M sub"
  case hp => exact List.forall_mem_cons.mpr ⟨rfl, List.forall_mem_nil _⟩
  case hap => walk_at "M ne"
  case hI => exact ⟨(by walk_at "M all"), Nat.le_refl _, rfl, rfl⟩
  case' turn =>
    intro K X i vs n z new v d h tk own hd1 hX hs hapK hapN hI hD ho1 ho2 F1 N1
    obtain ⟨cv, ds, k⟩ := z
    obtain ⟨hI1, hI2, hI3, hI4⟩ := hI
    dsimp only at hI1 hI2 hI3 hI4 F1
    simp only [ovr] at F1
    obtain ⟨r, hr, rfl⟩ : ∃ r, (begPts q c)[i]? = some r ∧ pd r = d := by simpa [List.getElem?_map, Option.map_eq_some_iff] using hd1
    obtain ⟨b1, rfl⟩ := dt_ref hD
    have hT : (begPts q c).take (i + 1) = (begPts q c).take i ++ [r] := by rw [List.take_add_one, hr]; rfl
    have hi : i < 51 := by have := (List.getElem?_eq_some_iff.mp hr).1; omega
    have hz : vs.length ≤ 1000 := by omega
    rcases k with _ | k
    case' none =>
      subst hI3
      by_cases h1 : r.2.2 = true
    case' some =>
      obtain ⟨b2, rfl, hD2⟩ := hI3
      by_cases h1 : r.2.2 = true
    all_goals (try dsimp only)
  case' done =>
    intro vs n z new u h tk hs hapK hapN hI F1 N1
    obtain ⟨cv, ds, k⟩ := z
    obtain ⟨hI1, hI2, hI3, hI4⟩ := hI
    dsimp only at hI1 hI2 hI3 hI4 F1
    simp only [ovr] at F1
    simp only [List.nil_append, List.cons_append, List.append_assoc] at hs hapK hI1 hI3 N1
    have hz : vs.length ≤ 1000 := by simp only [List.length_map] at hI2; omega
    rw [List.length_map, List.take_length] at hI4
    rcases k with _ | k
    case' none => subst hI3
    case' some => obtain ⟨b2, rfl, hD2⟩ := hI3
    all_goals (try dsimp only)
  all_goals (try dsimp only [envOf] at F1 N1)
  all_goals (try k_fold)
  all_goals k_steps
  · refine hret _ _ _ _ (by assumption) (by walk_at "M news") ?_ ?_
    · walk_at "M lo"
    · have e : segs q c = (ds ++ [quadD (spotD k) (begD q c)]) ++ [closeD] := by unfold segs; rw [← hI4]; rfl
      rw [e]
      exact DatIn.list (by k_mem) (by walk_at "M all")
  · refine hret _ _ _ _ (by assumption) (by walk_at "M news") ?_ ?_
    · walk_at "M lo"
    · have e : segs q c = ds ++ [closeD] := by unfold segs; rw [← hI4]; rfl
      rw [e]
      exact DatIn.list (by k_mem) (by walk_at "M all")
  · refine turn_end1 (Value.none, segStep (ds, some k) r) [_] (by assumption) (by assumption) hs hapK hapN ho1 ho2 ?_ ?_ ?_ ⟨?_, ?_, ?_, ?_⟩
    · intro o; walk_at "M lo"
    · intro o; walk_at "M lo"
    · walk_at "M same"
    · simp only [segStep, h1, if_true]; walk_at "M all"
    · simp only [List.length_append, List.length_cons, List.length_nil]; omega
    · simp only [segStep, h1, if_true]; rfl
    · rw [hT, List.foldl_append, ← hI4]; rfl
  · refine turn_end1 (Value.ref b1, segStep (ds, some k) r) [_] (by assumption) (by assumption) hs hapK hapN ho1 ho2 ?_ ?_ ?_ ⟨?_, ?_, ?_, ?_⟩
    · intro o; walk_at "M lo"
    · intro o; walk_at "M lo"
    · walk_at "M same"
    · simp only [segStep, h1, if_false]; walk_at "M all"
    · simp only [List.length_append, List.length_cons, List.length_nil]; omega
    · simp only [segStep, h1, if_false]; exact ⟨_, rfl, by walk_at "M in"⟩
    · rw [hT, List.foldl_append, ← hI4]; rfl
  · refine turn_end1 (Value.none, segStep (ds, none) r) [_] (by assumption) (by assumption) hs hapK hapN ho1 ho2 ?_ ?_ ?_ ⟨?_, ?_, ?_, ?_⟩
    · intro o; walk_at "M lo"
    · intro o; walk_at "M lo"
    · walk_at "M same"
    · simp only [segStep, h1, if_true]; walk_at "M all"
    · simp only [List.length_append, List.length_cons, List.length_nil]; omega
    · simp only [segStep, h1, if_true]; rfl
    · rw [hT, List.foldl_append, ← hI4]; rfl
  · refine turn_end10 (Value.ref b1, segStep (ds, none) r) [] (by assumption) (by assumption) hs hapK hapN ho1 ho2 ?_ ?_ ⟨?_, ?_, ?_, ?_⟩
    · intro o; walk_at "M lo"
    · walk_at "M same"
    · simp only [segStep, h1, if_false]; walk_at "M all"
    · omega
    · simp only [segStep, h1, if_false]; exact ⟨_, rfl, by walk_at "M in"⟩
    · rw [hT, List.foldl_append, ← hI4]; rfl
end
theorem off_h_plain : True := by
  w_top off
  trivial
/-! ## the plain law: no program in sight -/
def dbl (p : Pt) : Pt := (2 * p.1, 2 * p.2.1, p.2.2)
/-- _law_whole, from the point before -/
def wh (prev : Pt) : List Pt → List Pt
  | [] => []
  | p :: r => (if prev.2.2 = false ∧ p.2.2 = false then [betw prev p] else []) ++ p :: wh p r
def whole (q : Pt) (c : List Pt) : List Pt := wh (lastP q c) (q :: c)
/-- the row that _law_due walks -/
def rowOf (q : Pt) (c : List Pt) : List Pt := if q.2.2 ∨ ¬ (lastP q c).2.2 then (whole q c).drop 1 ++ (whole q c).take 1 else whole q c
def dueLoop : List Pt → List Dat
  | [] => []
  | [p] => if p.2.2 then [lineD (pairD p)] else []
  | p :: n :: r => if p.2.2 then lineD (pairD p) :: dueLoop (n :: r) else quadD (pairD p) (pairD n) :: dueLoop r
def due (q : Pt) (c : List Pt) : List Dat := moveD (pairD (begun q c)) :: dueLoop (rowOf q c) ++ [closeD]

theorem fdiv2 (x : Int) : (2 * x).fdiv 2 = x := by rw [Int.fdiv_eq_ediv_of_nonneg _ (by decide)]; omega
theorem fdiv1 (x : Int) : x.fdiv 1 = x := by rw [Int.fdiv_eq_ediv_of_nonneg _ (by decide)]; omega
theorem fr_dbl (x : Int) : fr (2 * x) 2 = fr x 1 := by
  have e1 : cdv (2 * x) 2 = 2 := by unfold cdv; rw [if_neg (by decide), if_pos (by omega)]
  have e2 : cdv x 1 = 1 := by unfold cdv; rw [if_pos rfl]
  unfold fr
  rw [e1, e2, fdiv2, fdiv1]
  rfl
theorem pair_dbl (p : Pt) : pairD (dbl p) = spotD p := by unfold pairD spotD dbl; rw [fr_dbl, fr_dbl]
theorem add_dbl (x y : Int) : 2 * x + 2 * y = 2 * (x + y) := by omega
theorem pair_betw (k p : Pt) : pairD (betw (dbl k) (dbl p)) = midD k p := by
  unfold pairD midD betw dbl
  dsimp only
  rw [add_dbl, add_dbl, fdiv2, fdiv2]
theorem spot_betw (k p : Pt) : spotD (betw (dbl (dbl k)) (dbl (dbl p))) = midD (dbl (dbl k)) (dbl (dbl p)) := by
  unfold spotD midD betw dbl
  dsimp only
  rw [add_dbl, add_dbl, add_dbl, add_dbl, fdiv2, fdiv2, fr_dbl, fr_dbl]
theorem dueLoop_on {p : Pt} (h : p.2.2 = true) (X : List Pt) : dueLoop (p :: X) = lineD (pairD p) :: dueLoop X := by
  cases X <;> simp [dueLoop, h]
theorem dueLoop_off {p : Pt} (h : p.2.2 = false) (n : Pt) (X : List Pt) : dueLoop (p :: n :: X) = quadD (pairD p) (pairD n) :: dueLoop X := by
  simp [dueLoop, h]

def ctlD (k : Option Pt) (X : List Pt) : List Pt := match k with
  | none => X
  | some k => dbl k :: X
/-- the point before: on the curve where no control stands -/
def PrevOk (k : Option Pt) (prev : Pt) : Prop := match k with
  | none => prev.2.2 = true
  | some k => k = prev ∧ prev.2.2 = false

theorem due_steps : ∀ (pts : List Pt) (prev : Pt) (f : List Dat) (k : Option Pt) (tail : List Pt), PrevOk k prev →
    f ++ dueLoop (ctlD k (wh (dbl prev) (pts.map dbl) ++ tail)) = (pts.foldl segStep (f, k)).1 ++ dueLoop (ctlD (pts.foldl segStep (f, k)).2 tail) := by
  intro pts
  induction pts with
  | nil => intro prev f k tail h; rfl
  | cons p r ih =>
    intro prev f k tail h
    rw [List.foldl_cons]
    cases k with
    | none =>
      have h : prev.2.2 = true := h
      have e : wh (dbl prev) ((p :: r).map dbl) = dbl p :: wh (dbl p) (r.map dbl) := by
        simp [wh, dbl, h]
      by_cases hp : p.2.2 = true
      · have e2 : segStep (f, none) p = (f ++ [lineD (spotD p)], none) := by simp [segStep, hp]
        rw [e2, ← ih p _ none tail hp, e]
        show f ++ dueLoop (dbl p :: (wh (dbl p) (r.map dbl) ++ tail)) = _
        rw [dueLoop_on (by exact hp), pair_dbl]
        simp [ctlD]
      · have hp' : p.2.2 = false := by simpa using hp
        have e2 : segStep (f, none) p = (f, some p) := by simp [segStep, hp']
        rw [e2, ← ih p _ (some p) tail ⟨rfl, hp'⟩, e]
        rfl
    | some k =>
      obtain ⟨rfl, h⟩ := h
      by_cases hp : p.2.2 = true
      · have e : wh (dbl k) ((p :: r).map dbl) = dbl p :: wh (dbl p) (r.map dbl) := by
          simp [wh, dbl, hp]
        have e2 : segStep (f, some k) p = (f ++ [quadD (spotD k) (spotD p)], none) := by simp [segStep, hp]
        rw [e2, ← ih p _ none tail hp, e]
        show f ++ dueLoop (dbl k :: dbl p :: (wh (dbl p) (r.map dbl) ++ tail)) = _
        rw [dueLoop_off (by exact h), pair_dbl, pair_dbl]
        simp [ctlD]
      · have hp' : p.2.2 = false := by simpa using hp
        have e : wh (dbl k) ((p :: r).map dbl) = betw (dbl k) (dbl p) :: dbl p :: wh (dbl p) (r.map dbl) := by
          simp [wh, dbl, hp', h]
        have e2 : segStep (f, some k) p = (f ++ [quadD (spotD k) (midD k p)], some p) := by simp [segStep, hp']
        rw [e2, ← ih p _ (some p) tail ⟨rfl, hp'⟩, e]
        show f ++ dueLoop (dbl k :: betw (dbl k) (dbl p) :: (dbl p :: (wh (dbl p) (r.map dbl) ++ tail))) = _
        rw [dueLoop_off (by exact h), pair_dbl, pair_betw]
        simp [ctlD]

/-- what control stands behind a list of points: none, if its last point is on the curve; else that point -/
theorem ctl_last (f : List Dat) (k : Option Pt) (X : List Pt) (p : Pt) : ((X ++ [p]).foldl segStep (f, k)).2 = if p.2.2 then none else some p := by
  rw [List.foldl_append]
  show (segStep (X.foldl segStep (f, k)) p).2 = _
  generalize X.foldl segStep (f, k) = z
  obtain ⟨g, k'⟩ := z
  cases k' <;> by_cases h : p.2.2 = true <;> simp [segStep, h]
theorem last_split (q : Pt) (c : List Pt) : q :: c = (q :: c).dropLast ++ [lastP q c] := by
  unfold lastP; exact (List.dropLast_concat_getLast (by simp)).symm
theorem lastP_map (q : Pt) (c : List Pt) (f : Pt → Pt) : lastP (f q) (c.map f) = f (lastP q c) := by
  unfold lastP
  rw [← List.getLast_map (f := f) (h := by simp)]
  rfl
theorem wh_snoc_on {q : Pt} (h : q.2.2 = true) : ∀ (c : List Pt) (prev : Pt), wh prev (c ++ [q]) = wh prev c ++ [q]
  | [], prev => by simp [wh, h]
  | p :: r, prev => by
    show _ ++ p :: wh p (r ++ [q]) = (_ ++ p :: wh p r) ++ [q]
    rw [wh_snoc_on h r p]
    simp
theorem whole_on {q : Pt} {c : List Pt} (h : q.2.2 = true) : whole q c = q :: wh q c := by simp [whole, wh, h]
theorem whole_last {q : Pt} {c : List Pt} (h : (lastP q c).2.2 = true) : whole q c = q :: wh q c := by simp [whole, wh, h]
theorem whole_off {q : Pt} {c : List Pt} (h : q.2.2 = false) (h2 : (lastP q c).2.2 = false) : whole q c = betw (lastP q c) q :: q :: wh q c := by simp [whole, wh, h, h2]
theorem wh_off_first {prev q : Pt} {c : List Pt} (h : prev.2.2 = true) : wh prev (q :: c) = q :: wh q c := by simp [wh, h]

/-- A: the segments are what is due of the doubled contour -/
theorem segs_due (q : Pt) (c : List Pt) : due (dbl q) (c.map dbl) = segs q c := by
  have hl : lastP (dbl q) (c.map dbl) = dbl (lastP q c) := lastP_map q c dbl
  by_cases h1 : q.2.2 = true
  · have hb : begun (dbl q) (c.map dbl) = dbl q := by simp [begun, dbl, h1]
    have hr : rowOf (dbl q) (c.map dbl) = wh (dbl q) ((c ++ [q]).map dbl) := by
      unfold rowOf
      rw [if_pos (Or.inl (by exact h1)), whole_on (by exact h1), List.map_append]
      show wh (dbl q) (c.map dbl) ++ [dbl q] = wh (dbl q) (c.map dbl ++ [dbl q])
      rw [wh_snoc_on (by exact h1)]
    have hs := due_steps (c ++ [q]) q [moveD (spotD q)] none [] h1
    have hk := ctl_last [moveD (spotD q)] none c q
    rw [if_pos h1] at hk
    have e1 : begD q c = spotD q := by simp [begD, h1]
    have e2 : begPts q c = c ++ [q] := by simp [begPts, h1]
    unfold due segs
    rw [hb, hr, pair_dbl, e1, e2]
    simp only [segEnd, hk]
    rw [hk] at hs
    simp only [ctlD, List.append_nil, dueLoop] at hs
    rw [← hs]
    rfl
  · have h1' : q.2.2 = false := by simpa using h1
    have e2 : begPts q c = q :: c := by simp [begPts, h1]
    by_cases h2 : (lastP q c).2.2 = true
    · have hb : begun (dbl q) (c.map dbl) = dbl (lastP q c) := by unfold begun; rw [hl, if_neg (by exact h1), if_pos (by exact h2)]
      have hr : rowOf (dbl q) (c.map dbl) = wh (dbl (lastP q c)) ((q :: c).map dbl) := by
        unfold rowOf
        rw [hl, if_neg (by intro h; exact h.elim h1 (fun h => h h2))]
        unfold whole
        rw [hl]
        rfl
      have hs := due_steps (q :: c) (lastP q c) [moveD (spotD (lastP q c))] none [] h2
      have hk := ctl_last [moveD (spotD (lastP q c))] none (q :: c).dropLast (lastP q c)
      rw [if_pos h2, ← last_split] at hk
      have e1 : begD q c = spotD (lastP q c) := by simp [begD, h1, h2]
      unfold due segs
      rw [hb, hr, pair_dbl, e1, e2]
      simp only [segEnd, hk]
      rw [hk] at hs
      simp only [ctlD, List.append_nil, dueLoop] at hs
      rw [← hs]
      rfl
    · have h2' : (lastP q c).2.2 = false := by simpa using h2
      have hb : begun (dbl q) (c.map dbl) = betw (dbl (lastP q c)) (dbl q) := by unfold begun; rw [hl, if_neg (by exact h1), if_neg (by exact h2)]
      have hr : rowOf (dbl q) (c.map dbl) = wh (0, 0, true) ((q :: c).map dbl) ++ [betw (dbl (lastP q c)) (dbl q)] := by
        unfold rowOf
        rw [if_pos (Or.inr (by rw [hl]; exact h2)), whole_off (by exact h1') (by rw [hl]; exact h2'), hl]
        show (dbl q :: wh (dbl q) (c.map dbl)) ++ [_] = wh (0, 0, true) (dbl q :: c.map dbl) ++ [_]
        rw [wh_off_first rfl]
      have hs := due_steps (q :: c) (0, 0, true) [moveD (midD (lastP q c) q)] none [betw (dbl (lastP q c)) (dbl q)] rfl
      have hk := ctl_last [moveD (midD (lastP q c) q)] none (q :: c).dropLast (lastP q c)
      rw [if_neg (by simp [h2']), ← last_split] at hk
      have e1 : begD q c = midD (lastP q c) q := by simp [begD, h1, h2]
      have ez : dbl (0, 0, true) = (0, 0, true) := rfl
      unfold due segs
      rw [hb, hr, pair_betw, e1, e2]
      simp only [segEnd, hk]
      rw [hk, ez] at hs
      simp only [ctlD] at hs
      rw [dueLoop_off (by exact h2'), pair_dbl, pair_betw] at hs
      simp only [dueLoop] at hs
      rw [← hs]
      rfl

theorem seg_steps : ∀ (pts : List Pt) (prev : Pt) (f : List Dat) (k : Option Pt), PrevOk k prev → (∃ b, prev = dbl (dbl b) ∨ k = none) → (∀ p ∈ pts, ∃ b, p = dbl (dbl b)) →
    (wh prev pts).foldl segStep (f, k) = pts.foldl segStep (f, k) := by
  intro pts
  induction pts with
  | nil => intro prev f k _ _ _; rfl
  | cons p r ih =>
    intro prev f k h hb hm
    obtain ⟨b, hb2⟩ := hm p (.head _)
    have hr : ∀ p ∈ r, ∃ b, p = dbl (dbl b) := fun x hx => hm x (.tail _ hx)
    have next : ∀ f' k', PrevOk k' p → (wh p r).foldl segStep (f', k') = r.foldl segStep (f', k') := fun f' k' hk => ih p f' k' hk ⟨b, .inl hb2⟩ hr
    rw [List.foldl_cons]
    cases k with
    | none =>
      have h : prev.2.2 = true := h
      have e : wh prev (p :: r) = p :: wh p r := by simp [wh, h]
      rw [e, List.foldl_cons]
      by_cases hp : p.2.2 = true
      · have e2 : segStep (f, none) p = (f ++ [lineD (spotD p)], none) := by simp [segStep, hp]
        rw [e2]; exact next _ _ hp
      · have hp' : p.2.2 = false := by simpa using hp
        have e2 : segStep (f, none) p = (f, some p) := by simp [segStep, hp']
        rw [e2]; exact next _ _ ⟨rfl, hp'⟩
    | some k =>
      obtain ⟨rfl, h⟩ := h
      by_cases hp : p.2.2 = true
      · have e : wh k (p :: r) = p :: wh p r := by simp [wh, hp]
        have e2 : segStep (f, some k) p = (f ++ [quadD (spotD k) (spotD p)], none) := by simp [segStep, hp]
        rw [e, List.foldl_cons, e2]; exact next _ _ hp
      · have hp' : p.2.2 = false := by simpa using hp
        have e : wh k (p :: r) = betw k p :: p :: wh p r := by simp [wh, hp', h]
        obtain ⟨b0, hb0 | hb0⟩ := hb
        · have e2 : segStep (f, some k) (betw k p) = (f ++ [quadD (spotD k) (midD k p)], none) := by
            have : spotD (betw k p) = midD k p := by rw [hb0, hb2]; exact spot_betw _ _
            rw [← this]; rfl
          have e3 : segStep (f ++ [quadD (spotD k) (midD k p)], none) p = (f ++ [quadD (spotD k) (midD k p)], some p) := by simp [segStep, hp']
          have e4 : segStep (f, some k) p = (f ++ [quadD (spotD k) (midD k p)], some p) := by simp [segStep, hp']
          rw [e, List.foldl_cons, List.foldl_cons, e2, e3, e4]; exact next _ _ ⟨rfl, hp'⟩
        · cases hb0

/-- the last point stays where points are put in -/
theorem wh_last : ∀ (r : List Pt) (prev q : Pt), ∃ X, wh prev (q :: r) = X ++ [lastP q r]
  | [], prev, q => ⟨if prev.2.2 = false ∧ q.2.2 = false then [betw prev q] else [], by simp [wh, lastP]⟩
  | p :: r, prev, q => by
    obtain ⟨X, hX⟩ := wh_last r q p
    refine ⟨(if prev.2.2 = false ∧ q.2.2 = false then [betw prev q] else []) ++ q :: X, ?_⟩
    have e : lastP q (p :: r) = lastP p r := by simp [lastP]
    rw [e]
    show _ ++ q :: wh q (p :: r) = _
    rw [hX]
    simp
theorem lastP_cons (q : Pt) (X : List Pt) (p : Pt) : lastP q (X ++ [p]) = p := by
  unfold lastP
  rw [List.getLast_cons (by simp)]
  simp

theorem segs_whole (q : Pt) (c : List Pt) (hm : ∀ p ∈ q :: c, ∃ b, p = dbl (dbl b)) : ∃ q' c', whole q c = q' :: c' ∧ segs q' c' = segs q c := by
  have hc : ∀ p ∈ c, ∃ b, p = dbl (dbl b) := fun x hx => hm x (.tail _ hx)
  have hlm : lastP q c ∈ q :: c := by unfold lastP; exact List.getLast_mem _
  by_cases h1 : q.2.2 = true
  · refine ⟨q, wh q c, whole_on h1, ?_⟩
    have hs := seg_steps (c ++ [q]) q [moveD (spotD q)] none h1 ⟨q, .inr rfl⟩ (fun x hx => hm x (by simp at hx ⊢; exact hx.symm))
    rw [wh_snoc_on h1] at hs
    unfold segs
    simp [begD, begPts, h1] at hs ⊢
    rw [hs]
  · have h1' : q.2.2 = false := by simpa using h1
    by_cases h2 : (lastP q c).2.2 = true
    · refine ⟨q, wh q c, whole_last h2, ?_⟩
      have hl : lastP q (wh q c) = lastP q c := by
        cases c with
        | nil => rfl
        | cons p r =>
          obtain ⟨X, hX⟩ := wh_last r q p
          rw [hX, lastP_cons]
          simp [lastP]
      have hs := seg_steps (q :: c) (lastP q c) [moveD (spotD (lastP q c))] none h2 ⟨q, .inr rfl⟩ hm
      rw [wh_off_first h2] at hs
      unfold segs
      simp only [begD, begPts, hl, h1', h2, if_true, if_false, Bool.false_eq_true]
      rw [hs]
    · have h2' : (lastP q c).2.2 = false := by simpa using h2
      refine ⟨betw (lastP q c) q, q :: wh q c, whole_off h1' h2', ?_⟩
      obtain ⟨bq, hbq⟩ := hm q (.head _)
      obtain ⟨bl, hbl⟩ := hm _ hlm
      have es : spotD (betw (lastP q c) q) = midD (lastP q c) q := by rw [hbq] at hbl ⊢; rw [hbl]; exact spot_betw _ _
      have hs := seg_steps (q :: c) (0, 0, true) [moveD (midD (lastP q c) q)] none rfl ⟨q, .inr rfl⟩ hm
      rw [wh_off_first rfl] at hs
      have hk := ctl_last [moveD (midD (lastP q c) q)] none (q :: c).dropLast (lastP q c)
      rw [if_neg (by simp [h2']), ← last_split] at hk
      unfold segs
      have eb : (betw (lastP q c) q).2.2 = true := rfl
      simp only [begD, begPts, h1', h2', eb, if_true, if_false, Bool.false_eq_true]
      rw [List.foldl_append, es, hs]
      generalize hz : (q :: c).foldl segStep ([moveD (midD (lastP q c) q)], none) = z at hk ⊢
      obtain ⟨g, k⟩ := z
      dsimp only at hk
      subst hk
      show segEnd _ (segStep (g, some (lastP q c)) (betw (lastP q c) q)) = _
      have e2 : segStep (g, some (lastP q c)) (betw (lastP q c) q) = (g ++ [quadD (spotD (lastP q c)) (midD (lastP q c) q)], none) := by
        simp only [segStep, eb, if_true, es]
      rw [e2]
      rfl

/-- the last segment ends where the contour begins -/
theorem segs_end (q : Pt) (c : List Pt) : ∃ X y, segs q c = moveD (begD q c) :: (X ++ [.tuple y, closeD]) ∧ (y = [.str (Str.ofString "line"), begD q c] ∨ ∃ a, y = [.str (Str.ofString "quad"), a, begD q c]) := by
  have grow : ∀ (pts : List Pt) (f : List Dat) (k : Option Pt), ∃ X, (pts.foldl segStep (f, k)).1 = f ++ X := by
    intro pts
    induction pts with
    | nil => intro f k; exact ⟨[], by simp⟩
    | cons p r ih =>
      intro f k
      rw [List.foldl_cons]
      have h1 : ∃ Y, (segStep (f, k) p).1 = f ++ Y := by
        cases k <;> by_cases h : p.2.2 = true <;> simp [segStep, h]
      obtain ⟨Y, hY⟩ := h1
      obtain ⟨X, hX⟩ := ih (segStep (f, k) p).1 (segStep (f, k) p).2
      exact ⟨Y ++ X, by rw [show segStep (f, k) p = ((segStep (f, k) p).1, (segStep (f, k) p).2) from rfl, hX, hY, List.append_assoc]⟩
  have lastOn : ∀ (pts : List Pt) (p : Pt), p.2.2 = true → ∃ X y, segEnd (begD q c) ((pts ++ [p]).foldl segStep ([moveD (begD q c)], none)) = moveD (begD q c) :: (X ++ [.tuple y, closeD]) ∧ (y = [.str (Str.ofString "line"), spotD p] ∨ ∃ a, y = [.str (Str.ofString "quad"), a, spotD p]) := by
    intro pts p hp
    rw [List.foldl_append]
    obtain ⟨X, hX⟩ := grow pts [moveD (begD q c)] none
    generalize pts.foldl segStep ([moveD (begD q c)], none) = z at hX ⊢
    obtain ⟨g, k⟩ := z
    dsimp only at hX
    subst hX
    cases k with
    | none => exact ⟨X, _, by simp [segStep, segEnd, hp, lineD], .inl rfl⟩
    | some k => exact ⟨X, _, by simp [segStep, segEnd, hp, quadD], .inr ⟨spotD k, rfl⟩⟩
  unfold segs
  by_cases h1 : q.2.2 = true
  · obtain ⟨X, y, e, hy⟩ := lastOn c q h1
    have e1 : begD q c = spotD q := by simp [begD, h1]
    refine ⟨X, y, ?_, ?_⟩
    · rw [show begPts q c = c ++ [q] by simp [begPts, h1]]; exact e
    · rw [e1]; exact hy
  · have e2 : begPts q c = q :: c := by simp [begPts, h1]
    by_cases h2 : (lastP q c).2.2 = true
    · obtain ⟨X, y, e, hy⟩ := lastOn (q :: c).dropLast (lastP q c) h2
      have e1 : begD q c = spotD (lastP q c) := by simp [begD, h1, h2]
      refine ⟨X, y, ?_, ?_⟩
      · rw [e2, last_split q c]; exact e
      · rw [e1]; exact hy
    · have h2' : (lastP q c).2.2 = false := by simpa using h2
      have hk := ctl_last [moveD (begD q c)] none (q :: c).dropLast (lastP q c)
      rw [if_neg (by simp [h2']), ← last_split] at hk
      obtain ⟨X, hX⟩ := grow (q :: c) [moveD (begD q c)] none
      rw [e2]
      generalize (q :: c).foldl segStep ([moveD (begD q c)], none) = z at hX hk ⊢
      obtain ⟨g, k⟩ := z
      dsimp only at hX hk
      subst hX hk
      exact ⟨X, _, by simp [segEnd, quadD], .inr ⟨spotD (lastP q c), rfl⟩⟩
theorem off_i_whole : True := by
  w_top off
  trivial
/-! ## _law_whole -/
theorem wh_snoc (r : Pt) : ∀ (X : List Pt) (prev : Pt), wh prev (X ++ [r]) = wh prev X ++ ((if (X.getLastD prev).2.2 = false ∧ r.2.2 = false then [betw (X.getLastD prev) r] else []) ++ [r])
  | [], prev => by simp [wh]
  | p :: X, prev => by
    show _ ++ p :: wh p (X ++ [r]) = (_ ++ p :: wh p X) ++ _
    rw [wh_snoc r X p, show (p :: X).getLastD prev = X.getLastD p by cases X <;> rfl]
    simp
theorem take_lastD (l : List Pt) (z pr : Pt) (i : Nat) (h : l[i]? = some pr) : (l.take (i + 1)).getLastD z = pr := by
  rw [List.take_add_one, h]
  simp [List.getLastD_eq_getLast?]

theorem prev_at (q : Pt) (c : List Pt) (i : Nat) (hi : i < (q :: c).length) (hc : c.length ≤ 20) : ∃ pr, ((q :: c).take i).getLastD (lastP q c) = pr ∧ IdxAt ((q :: c).map pd) ((i : Int) - 1) (pd pr) := by
  rcases i with _ | i
  · refine ⟨_, rfl, .inr ⟨by decide, ?_, by decide, last_get q c⟩⟩
    rw [List.length_map, List.length_cons]; omega
  · have hri : (q :: c)[i]? = some ((q :: c)[i]'(by omega)) := List.getElem?_eq_getElem _
    generalize (q :: c)[i]'(by omega) = pr at hri
    refine ⟨pr, take_lastD _ _ _ _ hri, .inl ⟨by omega, ?_, ?_⟩⟩
    · rw [List.length_cons] at hi; omega
    · rw [show (((i + 1 : Nat) : Int) - 1).toNat = i by omega, List.getElem?_map, hri]; rfl
theorem cur_at {X : List Pt} {i : Nat} {r : Pt} (h : X[i]? = some r) (hi : i < 21) : IdxAt (X.map pd) (i : Int) (pd r) := .inl ⟨by omega, by omega, by rw [Int.toNat_natCast, List.getElem?_map, h]; rfl⟩
theorem two_more {n i : Nat} (h : n ≤ 2 * i) : n + 1 ≤ 2 * (i + 1) ∧ n + 1 + 1 ≤ 2 * (i + 1) := by omega
/-- what holds between two turns -/
abbrev WholeJ (q : Pt) (c : List Pt) (i : Nat) (tl : Led) (vs : List Value) (_ : Nat) (ds : List Dat) : Prop := DatAll tl vs ds ∧ vs.length ≤ 2 * i ∧ ds = (wh (lastP q c) ((q :: c).take i)).map pd
section
variable (w : World) (p : Program) (loose : List Str) (mean : ExcName → Option Value) (mg mb : Str → Option Value)
theorem whole_ok (q : Pt) (c : List Pt) (hc : c.length ≤ 20) : Ct w p loose mean mg mb 198 4 (fun nw vs => ∃ a, vs = [.ref a] ∧ DatIn nw (.ref a) (.list ((q :: c).map pd))) (fun nw tl r => DatIn (nw ++ tl) r (.list ((whole q c).map pd))) := by
  refine ct_intro ?_
  k_fill
  intro dp un gd cn cs a ccd cl outer A₀ base h₀ L m news nw s vs Q E B F X N T hk hS hR hd hu hret
  obtain ⟨a1, rfl, D1⟩ := hR
  have hlen : ((q :: c).map pd).length ≤ 1000 := by simp; omega
  walk_at "M enter"
  k_steps
  unfold Halt
  (rename Fr _ _ _ _ => lF); (rename News _ _ _ _ => lN); (rename IsRange _ _ _ _ _ _ _ _ => lR)
  have lN2 := lN
  rw [← List.append_nil news] at lN2
  refine my_range1c (τ := List Dat) (q :: c).length [] (fun _ => []) (WholeJ q c) [] rfl hS lR ?hz ?hn lF lN2 ?hp ?hap ?hI ?turn ?done
  case hz => simp
  case hn => simp; omega
  case hp => exact List.forall_mem_nil _
  case hap => walk_at "M ne"
  case hI => exact ⟨DatAll.nil, Nat.le_refl _, rfl⟩
  case' turn =>
    intro K X i vs n ds new t h tk own hi hX hXs hs hapK hapN hI ho1 ho2 F1 N1
    obtain ⟨hI1, hI2, hI3⟩ := hI
    simp only [ovr] at F1
    have D1X : DatIn X (.ref a1) (.list ((q :: c).map pd)) := D1.mono fun p hp => hXs p (by simpa using hp)
    have hi2 : i < 21 := by simp at hi; omega
    have hz : vs.length ≤ 990 := by omega
    have hr : (q :: c)[i]? = some ((q :: c)[i]'hi) := List.getElem?_eq_getElem hi
    generalize (q :: c)[i]'hi = r at hr
    have hT : (q :: c).take (i + 1) = (q :: c).take i ++ [r] := by rw [List.take_add_one, hr]; rfl
    have hcur := cur_at hr hi2
    obtain ⟨pr, hpr, hprev⟩ := prev_at q c i hi hc
    obtain ⟨hl1, hl2⟩ := two_more hI2
    clear hi hi2
    by_cases h1 : pr.2.2 = true
    case' neg => by_cases h2 : r.2.2 = true
    all_goals (try dsimp only [envOf] at F1 N1)
  case' done =>
    intro vs n ds new u h tk hs hapK hapN hI F1 N1
    obtain ⟨hI1, hI2, hI3⟩ := hI
    simp only [ovr] at F1
    simp only [List.nil_append, List.append_nil] at hs hapK hI1 N1
    rw [List.take_length] at hI3
  all_goals (try k_fold)
  all_goals k_steps
  · refine hret _ _ _ _ (by assumption) (by walk_at "M news") ?_ ?_
    · walk_at "M lo"
    · rw [show whole q c = wh (lastP q c) (q :: c) from rfl, ← hI3]
      exact DatIn.list (by k_mem) (by walk_at "M all")
  · refine turn_end10 (ds ++ [pd r]) [] (by assumption) (by assumption) hs hapK hapN ho1 ho2 ?_ ?_ ⟨?_, ?_, ?_⟩
    · intro o; walk_at "M lo"
    · walk_at "M same"
    · walk_at "M all"
    · rw [List.length_append]; exact hl1
    · rw [hT, wh_snoc, hpr, hI3]; simp [h1, h2]
  · refine turn_end1 ((ds ++ [pd (betw pr r)]) ++ [pd r]) [] (by assumption) (by assumption) hs hapK hapN ho1 ho2 ?_ ?_ ?_ ⟨?_, ?_, ?_⟩
    · intro o; walk_at "M lo"
    · intro o; walk_at "M lo"
    · walk_at "M same"
    · walk_at "M all"
    · rw [List.length_append, List.length_append]; exact hl2
    · rw [hT, wh_snoc, hpr, hI3]; simp [h1, h2]
  · refine turn_end10 (ds ++ [pd r]) [] (by assumption) (by assumption) hs hapK hapN ho1 ho2 ?_ ?_ ⟨?_, ?_, ?_⟩
    · intro o; walk_at "M lo"
    · walk_at "M same"
    · walk_at "M all"
    · rw [List.length_append]; exact hl1
    · rw [hT, wh_snoc, hpr, hI3]; simp [h1]
end
theorem off_j_due : True := by
  w_top off
  trivial
/-! ## a while over data; _law_due -/
section
variable {prog : Program} {w : World} {A : Around} {E : Value → Shared → Prop} {s : Shared} {env : Env} {h₀ : Heap} {Q : Flow → Shared → Prop} {L : Addr}
theorem While_halt {test : PySem.Expr} {body : List Stmt} {pos : Pos} (h : Halt (wpAny (model prog w) A (exec (.While test body [] pos) env) Q E s)) : wpAny (model prog w) A (exec (.While test body [] pos) env) Q E s := h

def WEnd {τ : Type} (h₀ : Heap) (L : Addr) (s : Shared) (lf : Addr) (nm : Str) (I : Led → List Value → Nat → Int → τ → Prop) (μ : Int → Nat) (K X : Led) (m₀ : Str → Option Value) (i : Int) (s₂ : Shared) : Prop :=
  ∃ vs' n' i' t' c' new' h' tk' m' news', s₂ = { s with heap := h', toks := tk' } ∧ Fr h₀ L h' m' ∧ News h₀ L h' news' ∧ (∀ p ∈ (lf, PySem.W.listOf (List.toArray vs') n') :: (K ++ new'), p ∈ news') ∧ Lo K new' ∧ (∀ p ∈ new', p.1 ≠ lf) ∧ I (X ++ new') vs' n' i' c' ∧ m' nm = some (.int i' t') ∧ (∀ y, y ≠ nm → m' y = m₀ y) ∧ μ i' < μ i
def WOut {τ : Type} (h₀ : Heap) (L : Addr) (s : Shared) (lf : Addr) (nm : Str) (I : Led → List Value → Nat → Int → τ → Prop) (stop : Int → Prop) (K X : Led) (m₀ : Str → Option Value) (s₂ : Shared) : Prop :=
  ∃ vs n i t c new h tk, s₂ = { s with heap := h, toks := tk } ∧ Lo K new ∧ (∀ p ∈ new, p.1 ≠ lf) ∧ I (X ++ new) vs n i c ∧ stop i ∧ Fr h₀ L h (fun y => if y = nm then some (.int i t) else m₀ y) ∧ News h₀ L h ((lf, PySem.W.listOf (List.toArray vs) n) :: (K ++ new))
def WPost {τ : Type} (h₀ : Heap) (L : Addr) (s : Shared) (lf : Addr) (nm : Str) (I : Led → List Value → Nat → Int → τ → Prop) (μ : Int → Nat) (K X : Led) (m₀ : Str → Option Value) (i : Int) (f : Flow) (s₂ : Shared) : Prop :=
  match f with
  | .next => WEnd h₀ L s lf nm I μ K X m₀ i s₂
  | _ => False

/-- a while that turns one int name and one list -/
theorem my_while1 {τ : Type} {test : PySem.Expr} {body : List Stmt} {pos : Pos} {lf : Addr} {nw news tls : Led} {vs₀ : List Value} {n₀ : Nat} {m₀ : Str → Option Value} (conses : Led) (nm : Str) (I : Led → List Value → Nat → Int → τ → Prop) (μ : Int → Nat) (stop : Int → Prop) (i₀ : Int) (c₀ : τ)
    (hS : Inn nw news) (F : Fr h₀ L s.heap m₀) (N : News h₀ L s.heap ((lf, PySem.W.listOf vs₀.toArray n₀) :: (conses ++ (news ++ tls))))
    (hp : ∃ t, m₀ nm = some (.int i₀ t)) (hap : ∀ p ∈ conses ++ (news ++ tls), p.1 ≠ lf) (hI : I (conses ++ (nw ++ tls)) vs₀ n₀ i₀ c₀)
    (turn : ∀ K X vs n i t c new h tk, Inn X K → (∀ p ∈ conses ++ (nw ++ tls), p ∈ X) → Lo K new → (∀ p ∈ K, p.1 ≠ lf) → (∀ p ∈ new, p.1 ≠ lf) → I (X ++ new) vs n i c →
      Fr h₀ L h (fun y => if y = nm then some (.int i t) else m₀ y) → News h₀ L h ((lf, PySem.W.listOf vs.toArray n) :: (K ++ new)) →
      wpAny (model prog w) A (isTrue test env (eval test env)) (fun b s₂ => if b = true then wpAny (model prog w) A (execs body env) (WPost h₀ L s lf nm I μ K X m₀ i) E s₂ else WOut h₀ L s lf nm I stop K X m₀ s₂) E { s with heap := h, toks := tk })
    (done : ∀ vs n i t c new h tk, Lo (conses ++ (news ++ tls)) new → (∀ p ∈ conses ++ (news ++ tls), p.1 ≠ lf) → (∀ p ∈ new, p.1 ≠ lf) → I ((conses ++ (nw ++ tls)) ++ new) vs n i c → stop i → Fr h₀ L h (fun y => if y = nm then some (.int i t) else m₀ y) → News h₀ L h ((lf, PySem.W.listOf vs.toArray n) :: ((conses ++ (news ++ tls)) ++ new)) → Q .next { s with heap := h, toks := tk })
    (hE : PassesOwn (model prog w) A env E := by passes_own) :
    wpAny (model prog w) A (exec (.While test body [] pos) env) Q E s := by
  have hX : ∀ p ∈ conses ++ (nw ++ tls), p ∈ conses ++ (news ++ tls) := fun p hp => by
    simp only [List.mem_append] at hp ⊢
    rcases hp with h | h | h
    · exact .inl h
    · exact .inr (.inl (hS.out p h))
    · exact .inr (.inr h)
  obtain ⟨t₀, hp⟩ := hp
  have frm : ∀ {m' : Str → Option Value} {i : Int} {t : Tok}, m' nm = some (.int i t) → (∀ y, y ≠ nm → m' y = m₀ y) → m' = fun y => if y = nm then some (.int i t) else m₀ y := fun h1 h2 => by
    funext y
    by_cases e : y = nm
    · rw [if_pos e, e]; exact h1
    · rw [if_neg e]; exact h2 y e
  refine While_inv2 (fun k m nx => ∃ vs n i t c new, nx = (lf, PySem.W.listOf (List.toArray vs) n) :: ((conses ++ (news ++ tls)) ++ new) ∧ μ i = k ∧ Lo (conses ++ (news ++ tls)) new ∧ (∀ p ∈ new, p.1 ≠ lf) ∧ I ((conses ++ (nw ++ tls)) ++ new) vs n i c ∧ m = fun y => if y = nm then some (.int i t) else m₀ y)
    F N ⟨vs₀, n₀, i₀, t₀, c₀, [], by rw [List.append_nil], rfl, lo_nil, fun _ h => (nomatch h), by rw [List.append_nil]; exact hI, frm hp fun _ _ => rfl⟩ ?_ hE
  rintro k m₁ nx h tk F₁ N₁ ⟨vs, n, i, t, c, new, rfl, rfl, hs, hn, hI', rfl⟩
  refine wpAny_mono (turn _ _ vs n i t c new h tk ⟨hX⟩ (fun _ h => h) hs hap hn hI' F₁ N₁) (fun b s₂ p => ?_) fun _ _ x => x
  cases b with
  | false =>
    simp only [Bool.false_eq_true, if_false] at p ⊢
    obtain ⟨vs, n, i, t, c, new, h, tk, rfl, a1, a2, a3, a4, a5, a6⟩ := p
    exact done vs n i t c new h tk a1 hap a2 a3 a4 a5 a6
  | true =>
    simp only [if_true] at p ⊢
    refine wpAny_mono p (fun f s₃ q => ?_) fun _ _ x => x
    cases f with
    | ret v => exact q.elim
    | brk => exact q.elim
    | cont => exact q.elim
    | next =>
      obtain ⟨vs', n', i', t', c', new', h', tk', m', news', rfl, F', N', hn', a1, a2, a3, a4, a5, a6⟩ := q
      exact ⟨h', tk', m', _, μ i', rfl, F', fun p hp => N' p (hn' p hp), a6, vs', n', i', t', c', new', rfl, rfl, a1, a2, a3, frm a4 a5⟩

theorem wturn_end {τ : Type} {lf : Addr} {nm : Str} {I : Led → List Value → Nat → Int → τ → Prop} {μ : Int → Nat} {K X new tls : Led} {m₀ m' : Str → Option Value} {h' : Heap} {tk : Nat} {vs' : List Value} {n' : Nat} {i : Int} (i' : Int) (c' : τ) (conses : Led)
    (F : Fr h₀ L h' m') (N : News h₀ L h' (conses ++ ((lf, PySem.W.listOf vs'.toArray n') :: (K ++ (new ++ tls)))))
    (hs : Lo K new) (hapN : ∀ p ∈ new, p.1 ≠ lf) (hc : ∀ o, Lo ((lf, o) :: (K ++ new)) conses) (ht : ∀ o, Lo ((lf, o) :: (K ++ new)) tls)
    (h1 : ∃ t, m' nm = some (.int i' t)) (h2 : ∀ y, y ≠ nm → m' y = m₀ y) (hI : I (X ++ (conses ++ (tls ++ new))) vs' n' i' c') (hμ : μ i' < μ i) :
    WPost h₀ L s lf nm I μ K X m₀ i .next { s with heap := h', toks := tk } := by
  obtain ⟨t', h1⟩ := h1
  have o : Obj := PySem.W.listOf #[] 0
  refine ⟨vs', n', i', t', c', conses ++ (tls ++ new), h', tk, m', _, rfl, F, N, ?_, ?_, ?_, hI, h1, h2, hμ⟩
  · intro p hp
    simp only [List.mem_append, List.mem_cons] at hp ⊢
    rcases hp with h | h | h | h | h
    · exact .inr (.inl h)
    · exact .inr (.inr (.inl h))
    · exact .inl h
    · exact .inr (.inr (.inr (.inr h)))
    · exact .inr (.inr (.inr (.inl h)))
  · exact lo_app (fun q hq => hc o q (.tail _ (List.mem_append.mpr (.inl hq)))) (lo_app (fun q hq => ht o q (.tail _ (List.mem_append.mpr (.inl hq)))) hs)
  · intro p hp
    simp only [List.mem_append] at hp
    rcases hp with h | h | h
    · exact (Nat.ne_of_lt (hc o (lf, o) (.head _) p h)).symm
    · exact (Nat.ne_of_lt (ht o (lf, o) (.head _) p h)).symm
    · exact hapN p h
end

section
variable {prog : Program} {w : World} {A : Around} {E : Value → Shared → Prop} {s : Shared} {h₀ : Heap} {L l b b2 : Addr} {m : Str → Option Value} {news nw : Led} {ds : List Dat} {Q : Value → Shared → Prop}
/-- found + [('close',)] -/
theorem dl_add_one {hp : Heap} {g : Array GenState} {dr : Drawn} {tk0 : Nat} {os : OsState} {x : Str} {t : Tok} {n1 n2 : Nat} (F : Fr h₀ L hp m) (N : News h₀ L hp news) (D1 : DatIn nw (.ref l) (.list ds)) (S1 : ∀ p ∈ nw, p ∈ news)
    (m1 : (b, PySem.W.listOf [Value.ref b2].toArray n1) ∈ news) (m2 : (b2, ({ cls := .type "tuple", data := .seq [Value.str x t].toArray n2 } : Obj)) ∈ news) (hz : ds.length ≤ 990)
    (h : ∀ D o h', Fr h₀ L h' m → News h₀ L h' ((D, o) :: news) → (∀ p ∈ news, p.1 < D) → DatIn ((D, o) :: (nw ++ [(b2, ({ cls := .type "tuple", data := .seq [Value.str x t].toArray n2 } : Obj))])) (.ref D) (.list (ds ++ [.tuple [.str x]])) → Q (.ref D) ⟨h', g, dr, tk0, os⟩) :
    wpAny (model prog w) A (binaryOp .Add (.ref l) (.ref b)) Q E ⟨hp, g, dr, tk0, os⟩ := by
  obtain ⟨vs, hl, ha⟩ := dl_heap N S1 D1
  have hb : hp.IsList b [Value.ref b2].toArray := ⟨_, (N _ m1).1, rfl, n1, rfl⟩
  have ea : vs.toArray.size = ds.length := by rw [List.size_toArray, ha.length]
  refine add_arrays F N hl hb (fun h' F' N' => h _ _ h' F' N' (fun p hp => Heap.lt_size (N p hp).1) ?_) (by rw [ea, sizeLine_eq]; simp; omega)
  exact DatIn.list (.head _) ((ha.mono fun p hp => .tail _ (List.mem_append.mpr (.inl hp))).append (.cons (.tuple (.tail _ (List.mem_append.mpr (.inr (.head _)))) (.cons (.str _ _) .nil)) .nil))
theorem mk_found {lf : Addr} {vs : List Value} {n : Nat} {R X : Led} {h : Heap} (_N : News h₀ L h ((lf, PySem.W.listOf vs.toArray n) :: R)) (hI : DatAll X vs ds) : DatIn ((lf, PySem.W.listOf vs.toArray n) :: X) (.ref lf) (.list ds) :=
  DatIn.list (.head _) (hI.mono fun _ hp => .tail _ hp)
end

def dueOk : List Pt → Bool
  | [] => true
  | [p] => p.2.2
  | p :: n :: r => if p.2.2 then dueOk (n :: r) else dueOk r
theorem dueOk_on {p : Pt} (h : p.2.2 = true) (X : List Pt) : dueOk (p :: X) = dueOk X := by cases X <;> simp [dueOk, h]
theorem dueOk_off {p : Pt} (h : p.2.2 = false) (n : Pt) (X : List Pt) : dueOk (p :: n :: X) = dueOk X := by simp [dueOk, h]
def ctlU (k : Option Pt) (X : List Pt) : List Pt := match k with
  | none => X
  | some k => k :: X
theorem ok_steps : ∀ (pts : List Pt) (prev : Pt) (f : List Dat) (k : Option Pt) (tail : List Pt), PrevOk k prev →
    dueOk (ctlU k (wh prev pts ++ tail)) = dueOk (ctlU (pts.foldl segStep (f, k)).2 tail) := by
  intro pts
  induction pts with
  | nil => intro prev f k tail h; rfl
  | cons p r ih =>
    intro prev f k tail h
    rw [List.foldl_cons]
    cases k with
    | none =>
      have h : prev.2.2 = true := h
      have e : wh prev (p :: r) = p :: wh p r := by simp [wh, h]
      by_cases hp : p.2.2 = true
      · have e2 : segStep (f, none) p = (f ++ [lineD (spotD p)], none) := by simp [segStep, hp]
        rw [e2, ← ih p _ none tail hp, e]
        exact dueOk_on hp _
      · have hp' : p.2.2 = false := by simpa using hp
        have e2 : segStep (f, none) p = (f, some p) := by simp [segStep, hp']
        rw [e2, ← ih p _ (some p) tail ⟨rfl, hp'⟩, e]
        rfl
    | some k =>
      obtain ⟨rfl, h⟩ := h
      by_cases hp : p.2.2 = true
      · have e : wh k (p :: r) = p :: wh p r := by simp [wh, hp]
        have e2 : segStep (f, some k) p = (f ++ [quadD (spotD k) (spotD p)], none) := by simp [segStep, hp]
        rw [e2, ← ih p _ none tail hp, e]
        exact dueOk_off h _ _
      · have hp' : p.2.2 = false := by simpa using hp
        have e : wh k (p :: r) = betw k p :: p :: wh p r := by simp [wh, hp', h]
        have e2 : segStep (f, some k) p = (f ++ [quadD (spotD k) (midD k p)], some p) := by simp [segStep, hp']
        rw [e2, ← ih p _ (some p) tail ⟨rfl, hp'⟩, e]
        exact dueOk_off h _ _
theorem row_ok (q : Pt) (c : List Pt) : dueOk (rowOf q c) = true := by
  by_cases h1 : q.2.2 = true
  · have hr : rowOf q c = wh q (c ++ [q]) := by
      unfold rowOf
      rw [if_pos (Or.inl h1), whole_on h1, wh_snoc_on h1]
      rfl
    have hs := ok_steps (c ++ [q]) q [] none [] h1
    rw [ctl_last, if_pos h1] at hs
    rw [hr]
    simpa [ctlU, dueOk] using hs
  · have h1' : q.2.2 = false := by simpa using h1
    by_cases h2 : (lastP q c).2.2 = true
    · have hr : rowOf q c = wh (lastP q c) (q :: c) := by
        unfold rowOf
        rw [if_neg (by intro h; exact h.elim h1 (fun h => h h2))]
        rfl
      have hs := ok_steps (q :: c) (lastP q c) [] none [] h2
      have hk := ctl_last [] none (q :: c).dropLast (lastP q c)
      rw [if_pos h2, ← last_split] at hk
      rw [hk] at hs
      rw [hr]
      simpa [ctlU, dueOk] using hs
    · have h2' : (lastP q c).2.2 = false := by simpa using h2
      have hr : rowOf q c = wh (0, 0, true) (q :: c) ++ [betw (lastP q c) q] := by
        unfold rowOf
        rw [if_pos (Or.inr h2), whole_off h1' h2', wh_off_first rfl]
        rfl
      have hs := ok_steps (q :: c) (0, 0, true) [] none [betw (lastP q c) q] rfl
      have hk := ctl_last [] none (q :: c).dropLast (lastP q c)
      rw [if_neg (by simp [h2']), ← last_split] at hk
      rw [hk] at hs
      simp only [ctlU] at hs
      rw [dueOk_off h2'] at hs
      rw [hr]
      simpa [dueOk] using hs
theorem wh_len : ∀ (c : List Pt) (prev : Pt), (wh prev c).length ≤ 2 * c.length
  | [], _ => Nat.le_refl _
  | p :: r, prev => by
    have := wh_len r p
    simp only [wh, List.length_append, List.length_cons]
    split <;> simp <;> omega
/-! ## two ways that meet at an int -/
def JEnd (j : Int) (s : Shared) (v : Value) (s' : Shared) : Prop := ∃ t tk, v = .int j t ∧ s' = { s with toks := tk }
theorem JEnd.of {j i : Int} {t : Tok} {tk tk0 : Nat} {hp : Heap} {g : Array GenState} {dr : Drawn} {os : OsState} (e : i = j) : JEnd j ⟨hp, g, dr, tk0, os⟩ (.int i t) ⟨hp, g, dr, tk, os⟩ := ⟨t, tk, e ▸ rfl, rfl⟩
inductive JMark : Int → Prop
  | mk (j : Int) : JMark j
theorem join_int {prog : Program} {w : World} {A : Around} {E : Value → Shared → Prop} {s : Shared} {env : Env} {x : PySem.Expr} {Q : Value → Shared → Prop} {j : Int} (_ : JMark j) (h1 : wpAny (model prog w) A (eval x env) (JEnd j s) E s) (h2 : ∀ t tk, Q (.int j t) { s with toks := tk }) :
    wpAny (model prog w) A (eval x env) Q E s := by
  refine wpAny_mono h1 (fun v s' h => ?_) fun _ _ e => e
  obtain ⟨t, tk, rfl, rfl⟩ := h
  exact h2 t tk
theorem off_k_due : True := by
  w_top off
  k_with "W M allLt1" => first
      | exact allLt_sub (allLt_of (by assumption)) (by walk_at "M sub")
      | exact allLt_sub (by assumption) (by walk_at "M sub")
      | exact allLt_sub (And.right (by assumption)) (by walk_at "M sub")
      | exact allLt_sub (And.right (And.right (by assumption))) (by walk_at "M sub")
      | exact allLt_sub (And.right (And.right (And.right (by assumption)))) (by walk_at "M sub")
      | exact allLt_sub (And.right (And.right (And.right (And.right (by assumption))))) (by walk_at "M sub")
      | exact allLt_sub (And.right (And.right (And.right (And.right (And.right (by assumption)))))) (by walk_at "M sub")
      | exact allLt_sub (And.right (And.right (And.right (And.right (And.right (And.right (by assumption))))))) (by walk_at "M sub")
      | exact allLt_sub (And.right (And.right (And.right (And.right (And.right (And.right (And.right (by assumption)))))))) (by walk_at "M sub")
      | exact allLt_sub (And.right (And.right (And.right (And.right (And.right (And.right (And.right (And.right (by assumption))))))))) (by walk_at "M sub")
      | exact allLt_sub (And.right (And.right (And.right (And.right (And.right (And.right (And.right (And.right (And.right (by assumption)))))))))) (by walk_at "M sub")
      | exact allLt_sub (And.right (And.right (And.right (And.right (And.right (And.right (And.right (And.right (And.right (And.right (by assumption))))))))))) (by walk_at "M sub")
      | exact allLt_sub (And.right (And.right (And.right (And.right (And.right (And.right (And.right (And.right (And.right (And.right (And.right (by assumption)))))))))))) (by walk_at "M sub")
      | exact allLt_sub (And.right (And.right (And.right (And.right (And.right (And.right (And.right (And.right (And.right (And.right (And.right (And.right (by assumption))))))))))))) (by walk_at "M sub")
      | fail "M allLt1"
  k_with "W M news" => first
      | exact end_0 [] (by assumption) | exact end_0 [_] (by assumption) | exact end_0 [_, _] (by assumption) | exact end_0 [_, _, _] (by assumption) | exact end_0 [_, _, _, _] (by assumption) | exact end_0 [_, _, _, _, _] (by assumption) | exact end_0 [_, _, _, _, _, _] (by assumption) | exact end_0 [_, _, _, _, _, _, _] (by assumption) | exact end_0 [_, _, _, _, _, _, _, _] (by assumption) | exact end_0 [_, _, _, _, _, _, _, _, _] (by assumption) | exact end_0 [_, _, _, _, _, _, _, _, _, _] (by assumption) | exact end_0 [_, _, _, _, _, _, _, _, _, _, _] (by assumption) | exact end_0 [_, _, _, _, _, _, _, _, _, _, _, _] (by assumption) | exact end_0 [_, _, _, _, _, _, _, _, _, _, _, _, _] (by assumption)
      | exact end_1 [] (by assumption) | exact end_1 [_] (by assumption) | exact end_1 [_, _] (by assumption) | exact end_1 [_, _, _] (by assumption) | exact end_1 [_, _, _, _] (by assumption) | exact end_1 [_, _, _, _, _] (by assumption) | exact end_1 [_, _, _, _, _, _] (by assumption) | exact end_1 [_, _, _, _, _, _, _] (by assumption) | exact end_1 [_, _, _, _, _, _, _, _] (by assumption) | exact end_1 [_, _, _, _, _, _, _, _, _] (by assumption) | exact end_1 [_, _, _, _, _, _, _, _, _, _] (by assumption) | exact end_1 [_, _, _, _, _, _, _, _, _, _, _] (by assumption) | exact end_1 [_, _, _, _, _, _, _, _, _, _, _, _] (by assumption) | exact end_1 [_, _, _, _, _, _, _, _, _, _, _, _, _] (by assumption)
      | fail "M news"
  k_with "W binaryOp Add ref ref" => (k_here; (with_reducible show wpAny _ _ (binaryOp _ (Value.ref _) (Value.ref _)) _ _ _); k_dflt (refine' dl_add_one ?k1_k ?k2_k ?k3_k ?k4_k ?k5_k ?k6_k ?k7_k ?_; (case k1_k => k_asm); (case k2_k => k_asm); (case k3_k => with_reducible assumption); (case k4_k => walk_at "M sub"); (case k5_k => k_mem); (case k6_k => k_mem); (case k7_k => first | assumption | omega); k_whole); intro D'_k o'_k h'_k F'_k N'_k l1_k Dd'_k; (try k_lt l1_k); (try k_sweep))
  k_with "W eval IfExp" => ((rename JMark _ => jm9_k); ((refine join_int jm9_k ?_ (fun _ _ => ?_)) <;> clear jm9_k))
  k_with "W exec While Compare" => (k_here; refine While_halt ?_)
  k_with "W call ref" => ((with_reducible show wpAny _ _ (call (Value.ref 198) _) _ _ _); k_dflt (refine' ct_use (whole_ok _ _ _ _ _ _ _ _ ?kc_k) ?k1_k ?k2_k ?k3_k ?k4_k ?k5_k ?kK_k ?kS_k ⟨_, rfl, ?kD_k⟩ ?kd_k ?ku_k ?_; walk_at "M use"; (case kD_k => with_reducible assumption); (case kS_k => walk_at "M sub"); (case kc_k => first | assumption | omega | (simp only [List.length_map] at *; omega)); intro r9_k tl9_k h9_k tk9_k F9_k N9_k hl9_k ho9_k; (try simp only [List.nil_append, List.cons_append, List.append_nil, List.append_assoc] at N9_k); (try simp only [List.nil_append, List.cons_append, List.append_nil, List.append_assoc] at ho9_k); (obtain ⟨_, hv8_k⟩ := dl_ref ho9_k; subst hv8_k); (try dsimp only); (try k_fold)))
  k_with "W call ref" => ((with_reducible show wpAny _ _ (call (Value.ref 212) _) _ _ _); k_dflt (refine' ct_use (begun_ok _ _ _ _ _ _ _ _ ?kc_k) ?k1_k ?k2_k ?k3_k ?k4_k ?k5_k ?kK_k ?kS_k ⟨_, rfl, ?kD_k⟩ ?kd_k ?ku_k ?_; walk_at "M use"; (case kD_k => with_reducible assumption); (case kS_k => walk_at "M sub"); (case kc_k => omega); intro r9_k tl9_k h9_k tk9_k F9_k N9_k hl9_k ho9_k; (try simp only [List.nil_append, List.cons_append, List.append_nil, List.append_assoc] at N9_k); (try simp only [List.nil_append, List.cons_append, List.append_nil, List.append_assoc] at ho9_k); (obtain ⟨_, hv8_k⟩ := dt_ref ho9_k; subst hv8_k); (try dsimp only); (try k_fold)))
  trivial
/-! ## _law_due -/
theorem dat_cast {nw : Led} {v : Value} {a b : List Dat} (h : DatIn nw v (.list a)) (e : a = b) : DatIn nw v (.list b) := e ▸ h
theorem row_len (q : Pt) (c : List Pt) : (rowOf q c).length = (whole q c).length := by
  unfold rowOf
  split
  · rw [List.length_append, Nat.add_comm, ← List.length_append, List.take_append_drop]
  · rfl
theorem tn1 {i : Int} (h : 0 ≤ i) : (i + 1).toNat = i.toNat + 1 := by obtain ⟨n, rfl⟩ := Int.eq_ofNat_of_zero_le h; rfl
theorem tn2 {i : Int} (h : 0 ≤ i) : (i + 2).toNat = i.toNat + 2 := by obtain ⟨n, rfl⟩ := Int.eq_ofNat_of_zero_le h; rfl
/-- where the row begins -/
def jOf (q : Pt) (c : List Pt) : Int := if q.2.2 ∨ ¬ (lastP q c).2.2 then 0 else (((whole q c).map pd).length : Int) - 1
theorem j_on {q : Pt} {c : List Pt} (h : q.2.2 = true) : 0 = jOf q c := by unfold jOf; rw [if_pos (.inl h)]
theorem j_back {q : Pt} {c : List Pt} (h : q.2.2 = false) (k : (lastP q c).2.2 = true) : (((whole q c).map pd).length : Int) - 1 = jOf q c := by unfold jOf; rw [if_neg]; simp [h, k]
theorem j_off {q : Pt} {c : List Pt} (h : q.2.2 = false) (k : (lastP q c).2.2 = false) : 0 = jOf q c := by unfold jOf; rw [if_pos]; simp [k]
theorem row_j (q : Pt) (c : List Pt) : ((whole q c).map pd).drop (jOf q c + 1).toNat ++ ((whole q c).map pd).take (jOf q c + 1).toNat = (rowOf q c).map pd := by
  unfold jOf rowOf
  by_cases h1 : q.2.2 ∨ ¬ (lastP q c).2.2
  · rw [if_pos h1, if_pos h1]; simp [List.map_drop, List.map_take]
  · rw [if_neg h1, if_neg h1]
    have e9 : ((((whole q c).map pd).length : Int) - 1 + 1).toNat = ((whole q c).map pd).length := by omega
    rw [e9, List.drop_length, List.take_length]; rfl
/-- what holds between two turns, l ones laid so far -/
def DueJ (q : Pt) (c : List Pt) (l : Nat) (i : Int) (ds : List Dat) : Prop :=
  l ≤ i.toNat + 1 ∧ ds ++ dueLoop ((rowOf q c).drop i.toNat) = moveD (pairD (begun q c)) :: dueLoop (rowOf q c) ∧ dueOk ((rowOf q c).drop i.toNat) = true ∧ 0 ≤ i ∧ i.toNat ≤ (rowOf q c).length
section
variable {q r n2 : Pt} {c : List Pt} {l l' : Nat} {i : Int} {ds : List Dat}
theorem due_start (q : Pt) (c : List Pt) : DueJ q c 1 0 [moveD (pairD (begun q c))] := ⟨by simp, by simp, by simpa using row_ok q c, by decide, by simp⟩
theorem due_drop (hr : (rowOf q c)[i.toNat]? = some r) : (rowOf q c).drop i.toNat = r :: (rowOf q c).drop (i.toNat + 1) := by
  obtain ⟨h, e⟩ := List.getElem?_eq_some_iff.mp hr
  rw [List.drop_eq_getElem_cons h, e]
theorem due_on (h : DueJ q c l i ds) (hr : (rowOf q c)[i.toNat]? = some r) (h9 : r.2.2 = true) (hl : l' = l + 1) : DueJ q c l' (i + 1) (ds ++ [lineD (pairD r)]) := by
  obtain ⟨h1, h2, h3, h4, h5⟩ := h
  have hlt := (List.getElem?_eq_some_iff.mp hr).1
  rw [due_drop hr] at h2 h3
  have ht := tn1 h4
  refine ⟨by omega, ?_, ?_, by omega, by rw [ht]; exact hlt⟩
  · rw [ht, ← h2, dueLoop_on h9]; simp
  · rw [ht]; rw [dueOk_on h9] at h3; exact h3
theorem due_next (h : DueJ q c l i ds) (hr : (rowOf q c)[i.toNat]? = some r) (h9 : r.2.2 = false) : ∃ n2, (rowOf q c)[i.toNat + 1]? = some n2 := by
  obtain ⟨_, _, h3, _, _⟩ := h
  rw [due_drop hr] at h3
  cases e : (rowOf q c)[i.toNat + 1]? with
  | some z => exact ⟨z, rfl⟩
  | none =>
    have := List.getElem?_eq_none_iff.mp e
    rw [List.drop_eq_nil_of_le this] at h3
    simp [dueOk, h9] at h3
theorem due_off (h : DueJ q c l i ds) (hr : (rowOf q c)[i.toNat]? = some r) (hn : (rowOf q c)[i.toNat + 1]? = some n2) (h9 : r.2.2 = false) (hl : l' = l + 1) : DueJ q c l' (i + 2) (ds ++ [quadD (pairD r) (pairD n2)]) := by
  obtain ⟨h1, h2, h3, h4, h5⟩ := h
  obtain ⟨hlt, e⟩ := List.getElem?_eq_some_iff.mp hn
  have hd : (rowOf q c).drop (i.toNat + 1) = n2 :: (rowOf q c).drop (i.toNat + 2) := by rw [List.drop_eq_getElem_cons hlt, e]
  rw [due_drop hr, hd] at h2 h3
  have ht := tn2 h4
  refine ⟨by omega, ?_, ?_, by omega, by rw [ht]; exact hlt⟩
  · rw [ht, ← h2, dueLoop_off h9]; simp
  · rw [ht]; rw [dueOk_off h9] at h3; exact h3
theorem due_end (h : DueJ q c l i ds) (e : i.toNat = (rowOf q c).length) : due q c = ds ++ [closeD] := by
  obtain ⟨_, h2, _, _, _⟩ := h
  rw [e, List.drop_length] at h2
  simp only [dueLoop, List.append_nil] at h2
  unfold due; rw [h2]
theorem due_short (h : DueJ q c l i ds) (k : (rowOf q c).length ≤ 42) : l ≤ 990 ∧ 0 ≤ i ∧ i < 2 ^ 63 ∧ i + 1 < 2 ^ 63 ∧ 0 ≤ i + 1 := by
  obtain ⟨h1, h2, h3, h4, h5⟩ := h
  refine ⟨?_, ?_, ?_, ?_, ?_⟩ <;> omega
theorem due_lt (h : DueJ q c l i ds) (k : i.toNat < (rowOf q c).length) : i < (((rowOf q c).map pd).length : Int) := by
  obtain ⟨_, _, _, h4, _⟩ := h
  rw [List.length_map]; omega
theorem due_ge (h : DueJ q c l i ds) (k : ¬ i.toNat < (rowOf q c).length) : ¬ i < (((rowOf q c).map pd).length : Int) ∧ i.toNat = (rowOf q c).length := by
  obtain ⟨_, _, _, h4, h5⟩ := h
  rw [List.length_map]; omega
theorem due_cur (hr : (rowOf q c)[i.toNat]? = some r) : ((rowOf q c).map pd)[i.toNat]? = some (pd r) := by rw [List.getElem?_map, hr]; rfl
theorem due_nxt (h : 0 ≤ i) (hn : (rowOf q c)[i.toNat + 1]? = some n2) : ((rowOf q c).map pd)[(i + 1).toNat]? = some (pd n2) := by
  rw [tn1 h, List.getElem?_map, hn]; rfl
theorem due_mu (h : DueJ q c l i ds) (k : i.toNat < (rowOf q c).length) : (rowOf q c).length - (i + 1).toNat < (rowOf q c).length - i.toNat ∧ (rowOf q c).length - (i + 2).toNat < (rowOf q c).length - i.toNat := by
  obtain ⟨_, _, _, h4, h5⟩ := h
  rw [tn1 h4, tn2 h4]
  exact ⟨Nat.sub_lt_sub_left k (Nat.lt_succ_self _), Nat.sub_lt_sub_left k (Nat.lt_add_of_pos_right (by decide))⟩
end
abbrev DueI (q : Pt) (c : List Pt) (tl : Led) (vs : List Value) (_ : Nat) (i : Int) (ds : List Dat) : Prop := DatAll tl vs ds ∧ DueJ q c vs.length i ds
section
variable (w : World) (p : Program) (loose : List Str) (mean : ExcName → Option Value) (mg mb : Str → Option Value)
theorem due_ok (q : Pt) (c : List Pt) (hc : c.length ≤ 20) : Ct w p loose mean mg mb 219 6 (fun nw vs => ∃ a, vs = [.ref a] ∧ DatIn nw (.ref a) (.list ((q :: c).map pd))) (fun nw tl r => DatIn (nw ++ tl) r (.list (due q c))) := by
  refine ct_intro ?_
  k_fill
  intro dp un gd cn cs a ccd cl outer A₀ base h₀ L m news nw s vs Q E B F X N T hk hS hR hd hu hret
  obtain ⟨a1, rfl, D1⟩ := hR
  have eL := last_get q c
  have hwl0 : (whole q c).length ≤ 42 := by
    have := wh_len (q :: c) (lastP q c)
    unfold whole; simp only [List.length_cons] at this; omega
  have hwl : ((whole q c).map pd).length ≤ 1000 := by rw [List.length_map]; omega
  have hrl : (rowOf q c).length ≤ 42 := by rw [row_len]; exact hwl0
  have hrl2 : ((rowOf q c).map pd).length ≤ 1000 := by rw [List.length_map]; omega
  have hlen : ((q :: c).map pd).length ≤ 1000 := by rw [List.length_map, List.length_cons]; omega
  have hj0 : 0 ≤ jOf q c + 1 := by unfold jOf; split <;> omega
  have hjm := JMark.mk (jOf q c)
  walk_at "M enter"
  k_steps
  · exact JEnd.of (j_on (by assumption))
  · exact JEnd.of (j_back (by assumption) (by assumption))
  · exact JEnd.of (j_off (by assumption) (by assumption))
  unfold Halt
  (rename Fr _ _ _ _ => lF); (rename News _ _ _ _ => lN); (rename DatIn _ _ (Dat.list (_ ++ _)) => lR); (rename DatIn _ _ (pairD (begun q c)) => lB)
  have lRow := dat_cast lR (b := (rowOf q c).map pd) (row_j q c)
  have lN2 := News.tail' lN
  refine my_while1 (τ := List Dat) [_, _, _, _, _] (Str.ofString "place") (DueI q c) (fun i => (rowOf q c).length - i.toNat) (fun i => i.toNat = (rowOf q c).length) 0 [moveD (pairD (begun q c))] hS lF lN2 ?hpA ?hapA ?hIA ?turnA ?doneA
  case hpA => exact ⟨_, rfl⟩
  case hapA => walk_at "M ne"
  case hIA => exact ⟨(by walk_at "M all"), due_start q c⟩
  case' turnA =>
    intro K X vs n i t ds new h tk hX hXs hs hapK hapN hI F1 N1
    obtain ⟨hI1, hI2⟩ := hI
    have lX : DatIn X _ _ := lRow.mono (by intro p hp; refine hXs p ?_; revert p hp; walk_at "M sub")
    obtain ⟨hz0, hi0, hi1, hi2, hi3⟩ := due_short hI2 hrl
    have hz : vs.length ≤ 1000 := Nat.le_trans hz0 (by decide)
    clear lRow lR
    clear hwl0 hj0
    by_cases hlt : i.toNat < (rowOf q c).length
    case' pos =>
      have hltI := due_lt hI2 hlt
      obtain ⟨hm1, hm2⟩ := due_mu hI2 hlt
      have hr : (rowOf q c)[i.toNat]? = some ((rowOf q c)[i.toNat]'hlt) := List.getElem?_eq_getElem hlt
      generalize (rowOf q c)[i.toNat]'hlt = r at hr
      have hcur := due_cur hr
      rcases Bool.eq_false_or_eq_true r.2.2 with h9 | h9f
    case' inr =>
      have h9 : ¬ r.2.2 = true := by rw [h9f]; exact Bool.false_ne_true
      obtain ⟨n2, hn2⟩ := due_next hI2 hr h9f
      have hnx := due_nxt hi0 hn2
    case' neg =>
      obtain ⟨hltI, hst⟩ := due_ge hI2 hlt
    all_goals clear hlt
    all_goals (try dsimp only [envOf] at F1 N1)
  case' doneA =>
    intro vs n i t ds new h tk hs hapK hapN hI hstop F1 N1
    obtain ⟨hI1, hI2⟩ := hI
    have hz := (due_short hI2 hrl).1
    simp only [List.nil_append, List.cons_append, List.append_assoc] at hs hapK hI1 N1
    have hdl : ds.length ≤ 990 := by rw [← hI1.length]; exact hz
    have lFo := mk_found N1 hI1
  all_goals (try k_fold)
  all_goals k_steps
  · refine hret _ _ _ _ (by assumption) (by walk_at "M news") ?_ ?_
    · walk_at "M lo"
    · rw [due_end hI2 hstop]; walk_at "M in"
  · exact ⟨vs, n, i, t, ds, new, _, _, rfl, hs, hapN, ⟨hI1, hI2⟩, hst, by assumption, by assumption⟩
  · refine wturn_end (i + 2) (ds ++ [quadD (pairD r) (pairD n2)]) [_] (by assumption) (by assumption) hs hapN ?_ ?_ ⟨_, rfl⟩ ?_ ⟨?_, due_off hI2 hr hn2 h9f (List.length_append ..)⟩ hm2
    · intro o; walk_at "M lo"
    · intro o; walk_at "M lo"
    · walk_at "M same"
    · walk_at "M all"
  · refine wturn_end (i + 1) (ds ++ [lineD (pairD r)]) [_] (by assumption) (by assumption) hs hapN ?_ ?_ ⟨_, rfl⟩ ?_ ⟨?_, due_on hI2 hr h9 (List.length_append ..)⟩ hm1
    · intro o; walk_at "M lo"
    · intro o; walk_at "M lo"
    · walk_at "M same"
    · walk_at "M all"
end
theorem off_l_dbl : True := by
  w_top off
  trivial
/-! ## a comprehension over points: three names -/
def ElEnd (h₀ : Heap) (L : Addr) (s : Shared) (m : Str → Option Value) (C : Addr) (oC : Obj) (nx : Led) (d : Dat) (y : Value) (s₂ : Shared) : Prop :=
  ∃ T o h' tk', y = .ref T ∧ s₂ = { s with heap := h', toks := tk' } ∧ Fr h₀ L h' m ∧ News h₀ L h' ((T, o) :: (C, oC) :: nx) ∧ (∀ p ∈ (C, oC) :: nx, p.1 < T) ∧ DatIn [(T, o)] (.ref T) d
/-- what holds between two items of the comprehension, and behind it (words of their own: the goals stay small) -/
def CompI (h₀ : Heap) (L : Addr) (s : Shared) (m : Str → Option Value) (D C I l : Addr) (vs : List Value) (news : Led) (pts : List Pt) (k : Nat) (s' : Shared) : Prop :=
  ∃ h' tk i ys made m', s' = { s with heap := h', toks := tk } ∧ i ≤ pts.length ∧ k = pts.length + 1 - i ∧ ys.length = i ∧ (h'.IsListIter I l i ∧ h'.IsList l vs.toArray) ∧ Fr h₀ L h' m ∧ h'.Ns C m' ∧
        News h₀ L h' ((D, LCg.lst ys) :: (made ++ news)) ∧ (∀ p ∈ made, @LT.lt Nat _ C p.1) ∧ DatAll made ys (((pts.take i).map dbl).map pd)
def CompP (h₀ : Heap) (L : Addr) (s : Shared) (m : Str → Option Value) (D C : Addr) (news : Led) (pts : List Pt) (r : Result) (s' : Shared) : Prop :=
  ∃ ys made h tk m', r = .ok .next ∧ s' = { s with heap := h, toks := tk } ∧ Fr h₀ L h m ∧ h.Ns C m' ∧ News h₀ L h ((D, LCg.lst ys) :: (made ++ news)) ∧ (∀ p ∈ made, @LT.lt Nat _ C p.1) ∧ DatAll made ys ((pts.map dbl).map pd)
theorem news_keep {h₀ h h' : Heap} {L a : Addr} {X : Led} (N : News h₀ L h X) (k : ∀ x o, x ≠ a → h.get? x = some o → h'.get? x = some o) (ne : ∀ p ∈ X, p.1 ≠ a) : News h₀ L h' X := fun p hp => ⟨k _ _ (ne p hp) (N p hp).1, (N p hp).2⟩
theorem news_cons {h₀ h : Heap} {L a : Addr} {o : Obj} {X : Led} (e : h.get? a = some o) (hL : @LT.lt Nat _ L a) (h0 : h₀.get? a = none) (N : News h₀ L h X) : News h₀ L h ((a, o) :: X) := List.forall_mem_cons.mpr ⟨⟨e, Nat.ne_of_gt hL, h0⟩, N⟩
theorem fr_keep {h₀ h h' : Heap} {L a : Addr} {m : Str → Option Value} (F : Fr h₀ L h m) (k : ∀ x o, x ≠ a → h.get? x = some o → h'.get? x = some o) (hL : @LT.lt Nat _ L a) (h0 : h₀.get? a = none) : Fr h₀ L h' m :=
  ⟨F.ns.at' fun o e => k _ _ (Nat.ne_of_lt hL) e, fun x o e => k x o (fun q => by rw [q, h0] at e; cases e) (F.keep x o e), F.above⟩
theorem ne_app {x : Addr} {d : Addr × Obj} {made news : Led} (h : d.1 ≠ x) (h1 : ∀ p ∈ made, p.1 ≠ x) (h2 : ∀ p ∈ news, p.1 ≠ x) : ∀ p ∈ d :: (made ++ news), p.1 ≠ x := List.forall_mem_cons.mpr ⟨h, List.forall_mem_append.mpr ⟨h1, h2⟩⟩
theorem ne_gt {x : Addr} {l : Led} (h : ∀ p ∈ l, @LT.lt Nat _ x p.1) : ∀ p ∈ l, p.1 ≠ x := fun p hp => Nat.ne_of_gt (h p hp)
theorem ne_lt {x y : Addr} {l : Led} (h : ∀ p ∈ l, @LT.lt Nat _ p.1 x) (hx : @LE.le Nat _ x y) : ∀ p ∈ l, p.1 ≠ y := fun p hp => Nat.ne_of_lt (Nat.lt_of_lt_of_le (h p hp) hx)
theorem gt_lt {x y : Addr} {l : Led} (h : ∀ p ∈ l, @LT.lt Nat _ y p.1) (hx : @LE.le Nat _ x y) : ∀ p ∈ l, @LT.lt Nat _ x p.1 := fun p hp => Nat.lt_of_le_of_lt hx (h p hp)
theorem news_off {h₀ h : Heap} {L : Addr} {t c i d : Addr × Obj} {X : Led} (N : News h₀ L h (t :: c :: i :: d :: X)) : News h₀ L h (t :: X) := List.forall_mem_cons.mpr ⟨N _ (.head _), fun p hp => N p (.tail _ (.tail _ (.tail _ (.tail _ hp))))⟩
theorem pd_inv {nw : Led} {v : Value} {r : Pt} (h : DatIn nw v (pd r)) : ∃ t n t1 t2, v = .ref t ∧ (t, ({ cls := .type "tuple", data := .seq [Value.int r.1 t1, Value.int r.2.1 t2, Value.bool r.2.2].toArray n } : Obj)) ∈ nw := by
  obtain ⟨t, vs, n, rfl, hm, ha⟩ := dt_inv h
  obtain ⟨x, vs, rfl, d1, ha⟩ := da_inv ha
  obtain ⟨y, vs, rfl, d2, ha⟩ := da_inv ha
  obtain ⟨z, vs, rfl, d3, ha⟩ := da_inv ha
  obtain rfl := da_nil ha
  obtain ⟨t1, rfl⟩ := di_int d1
  obtain ⟨t2, rfl⟩ := di_int d2
  obtain rfl := di_bool d3
  exact ⟨t, n, t1, t2, rfl, hm⟩
theorem CompI.elim {h₀ : Heap} {L : Addr} {s : Shared} {m : Str → Option Value} {D C I l : Addr} {vs : List Value} {news : Led} {pts : List Pt} {P : Nat → Shared → Prop}
    (H : ∀ h' tk i ys made m', i ≤ pts.length → ys.length = i → (h'.IsListIter I l i ∧ h'.IsList l vs.toArray) → Fr h₀ L h' m → h'.Ns C m' → News h₀ L h' ((D, LCg.lst ys) :: (made ++ news)) → (∀ p ∈ made, @LT.lt Nat _ C p.1) → DatAll made ys (((pts.take i).map dbl).map pd) → P (pts.length + 1 - i) { s with heap := h', toks := tk }) :
    ∀ k s', CompI h₀ L s m D C I l vs news pts k s' → P k s' := by
  rintro k s' ⟨h', tk, i, ys, made, m', rfl, hi, rfl, hyl, hst, F', hn', N', hmade, hdat⟩
  exact H h' tk i ys made m' hi hyl hst F' hn' N' hmade hdat
theorem ElEnd.elim {h₀ : Heap} {L : Addr} {s : Shared} {m : Str → Option Value} {C : Addr} {oC : Obj} {nx : Led} {d : Dat} {P : Value → Shared → Prop}
    (H : ∀ T o h' tk', Fr h₀ L h' m → News h₀ L h' ((T, o) :: (C, oC) :: nx) → @LT.lt Nat _ C T → DatIn [(T, o)] (.ref T) d → P (.ref T) { s with heap := h', toks := tk' }) :
    ∀ y s₂, ElEnd h₀ L s m C oC nx d y s₂ → P y s₂ := by
  rintro y s₂ ⟨T, o, h', tk', rfl, rfl, F, N, lt, dat⟩
  exact H T o h' tk' F N (lt (C, oC) (.head _)) dat
section
open PySem.Calls PyProof.Rows.LCg
variable {prog : Program} {w : World} {A : Around} {E : Value → Shared → Prop} {s : Shared} {env : Env} {h₀ : Heap} {L : Addr}
theorem comp3_loop {elt iter : PySem.Expr} {a b c : Str} {pa pb pc tp : Pos} {kk : Nat} {scope : Scope} {cl : List (Str × Addr)} {pos : Pos} {l : Addr} {I D C : Nat} {nw news : Led} {vs : List Value} {pts : List Pt} {m m₀ : Str → Option Value} {h₂ : Heap} {tk₁ : Nat}
    (hh : A.handled = none) (hkind : scope.kind = .function) (ha : scope.names.lookup a = some .local) (hb : scope.names.lookup b = some .local) (hc : scope.names.lookup c = some .local) (hab : a ≠ b) (hac : a ≠ c) (hbc : b ≠ c)
    (DD : DatIn nw (.ref l) (.list (pts.map pd))) (S : ∀ p ∈ nw, p ∈ news) (hn : pts.length ≤ 1000)
    (el : ∀ (r : Pt) (t1 t2 : Tok) (C : Addr) (oC : Obj) (m₂ : Str → Option Value) (nx : Led) (h : Heap) (tk : Nat) (E' : Value → Shared → Prop), NsObj oC m₂ → m₂ a = some (.int r.1 t1) → m₂ b = some (.int r.2.1 t2) → m₂ c = some (.bool r.2.2) → Fr h₀ L h m → News h₀ L h ((C, oC) :: nx) →
      wpAny (model prog w) A (eval elt (compEnvC scope cl C env)) (ElEnd h₀ L s m C oC nx (pd (dbl r))) E' { s with heap := h, toks := tk })
    (hA : DatAll nw vs (pts.map pd)) (hL1 : @LT.lt Nat _ L I) (hllt : @LT.lt Nat _ l I) (hH1s : @Eq Nat D (I + 1)) (hH2s : @Eq Nat C (D + 1))
    (h0None : ∀ x : Addr, @LE.le Nat _ I x → h₀.get? x = none) (ltN : ∀ p ∈ news, @LT.lt Nat _ p.1 I)
    (hItI : h₂.IsListIter I l 0) (hlst₂ : h₂.IsList l vs.toArray) (hacc : h₂.get? D = some (lst [])) (F : Fr h₀ L h₂ m) (N : News h₀ L h₂ news) (hns₂ : h₂.Ns C m₀) :
    codeAny (model prog w) A (.compLoop (.ListComp elt [⟨.Tuple [.Name a pa, .Name b pb, .Name c pc] kk tp, iter, [], 0⟩] scope pos) 0 (.ref I) (.ref D) (compEnvC scope cl C env))
      (CompP h₀ L s m D C news pts) { s with heap := h₂, toks := tk₁ } := by
  have hlen : vs.length = pts.length := by rw [hA.length, List.length_map]
  have W := Walks.list (prog := prog) (w := w) hh I l (Nat.ne_of_lt hllt) vs.toArray
  rw [List.size_toArray, hlen] at W
  refine LCp.codeAny_compLoop_pair
    (CompI h₀ L s m D C I l vs news pts) ?_ (pts.length + 1)
    ⟨h₂, _, 0, [], [], _, rfl, Nat.zero_le _, rfl, rfl, ⟨hItI, hlst₂⟩, F, hns₂, ?_, fun _ h => (nomatch h), DatAll.nil⟩
  · refine CompI.elim fun h' tk i ys made m' hi hyl hst F' hn' N' hmade hdat => ?_
    by_cases hlt : i < pts.length
    · refine W.item i _ _ _ hlt hst fun v h3 tk3 hPv hst3 hk3 => ?_
      have hPv' : vs[i]? = some v := by simpa using hPv
      obtain ⟨v', hv', hDv⟩ := hA.get (k := i) (by rw [List.length_map]; exact hlt)
      have ev : v' = v := by rw [hPv'] at hv'; exact (Option.some.inj hv').symm
      subst ev
      have hri : pts[i]? = some (pts[i]'hlt) := List.getElem?_eq_getElem hlt
      rw [List.getElem_map] at hDv
      generalize pts[i]'hlt = r at hDv hri
      obtain ⟨t, nt, t1, t2, rfl, hmt⟩ := pd_inv hDv
      have kI : ∀ x o, x ≠ I → h'.get? x = some o → h3.get? x = some o := fun x o hx e => hk3 x o (by simpa using hx) e
      have hCI : C ≠ I := by omega
      have hDI : D ≠ I := by omega
      have hmadeI := ne_gt (gt_lt hmade (show @LE.le Nat _ I C by omega))
      have hnewsI := ne_lt ltN (Nat.le_refl I)
      have N3 := news_keep N' kI (ne_app hDI hmadeI hnewsI)
      have F3 := fr_keep F' kI hL1 (h0None I (Nat.le_refl _))
      have hn3 : h3.Ns C m' := hn'.at' fun o e => kI _ _ hCI e
      have hT3 : IsTup h3 t #[Value.int r.1 t1, Value.int r.2.1 t2, Value.bool r.2.2] := ⟨_, (N3 _ (List.mem_cons_of_mem _ (List.mem_append.mpr (.inr (S _ hmt))))).1, rfl, nt, rfl⟩
      refine wpAny_letOwnedTupleGo_listiter hst3.1 ?_
      refine assign_Tuple_tuple hh hT3 rfl rfl fun h4 he4 => ?_
      have k4 : ∀ x o, h3.get? x = some o → h4.get? x = some o := fun x o e => he4 x o (Nat.ne_of_lt (Heap.lt_size e)) e
      refine assignInOrder_cons (wpAny_assign_Name (wpAny_storeName_local (lookup_relabel_local ha) (hn3.at' fun o e => k4 _ o e) (fun h5 hn5 hs5 => ?_) (by simp [compEnvC, relabel, hkind])))
      refine assignInOrder_cons (wpAny_assign_Name (wpAny_storeName_local (lookup_relabel_local hb) hn5 (fun h6 hn6 hs6 => ?_) (by simp [compEnvC, relabel, hkind])))
      refine assignInOrder_cons (wpAny_assign_Name (wpAny_storeName_local (lookup_relabel_local hc) hn6 (fun h7 hn7 hs7 => ?_) (by simp [compEnvC, relabel, hkind])))
      refine assignInOrder_nil ?_
      have k7 : ∀ x o, x ≠ C → h3.get? x = some o → h7.get? x = some o := fun x o hx e => hs7.extBut x o hx (hs6.extBut x o hx (hs5.extBut x o hx (k4 x o e)))
      obtain ⟨oC, heC, hoC⟩ := ns_obj hn7
      obtain ⟨oI, heI, hdI⟩ := hst3.1
      have hLC : @LT.lt Nat _ L C := by omega
      have hDC : D ≠ C := by omega
      have F7 := fr_keep F3 k7 hLC (h0None C (by omega))
      have N7 : News h₀ L h7 ((C, oC) :: (I, oI) :: (D, lst ys) :: (made ++ news)) := news_cons heC hLC (h0None C (by omega)) (news_cons (k7 _ _ (Ne.symm hCI) heI) hL1 (h0None I (Nat.le_refl _)) (news_keep N3 k7 (ne_app hDC (ne_gt hmade) (ne_lt ltN (show @LE.le Nat _ I C by omega)))))
      refine wpAny_mono (el r t1 t2 C oC _ _ h7 _ _ hoC (by simp [hab, hac]) (by simp [hbc]) (by simp) F7 N7) (ElEnd.elim fun T o h8 tk8 F8 N8 gC dat8 => ?_) fun _ _ e => e
      have zI := (N8 (I, oI) (.tail _ (.tail _ (.head _)))).1
      have zC := (N8 (C, oC) (.tail _ (.head _))).1
      have zD := (N8 (D, lst ys) (.tail _ (.tail _ (.tail _ (.head _))))).1
      refine append_at (hsz := by show ys.toArray.size ≤ sizeLine; rw [List.size_toArray, hyl, sizeLine_eq]; omega) zD fun h9 hs9 hD9 => ?_
      have k9 : ∀ x o, x ≠ D → h8.get? x = some o → h9.get? x = some o := fun x o hx e => hs9.extBut x o hx e
      have hLD : @LT.lt Nat _ L D := by omega
      have hllt' : @LT.lt Nat _ l I := hllt
      have hlD : @Ne Nat l D := by omega
      have hl8 : h8.IsList l vs.toArray := by
        cases DD with
        | list hml _ =>
          obtain ⟨ol, el, rl⟩ := hlst₂
          have q1 := (N _ (S _ hml)).1
          have q2 := (N8 _ (List.mem_cons_of_mem _ (List.mem_cons_of_mem _ (List.mem_cons_of_mem _ (List.mem_cons_of_mem _ (List.mem_append.mpr (.inr (S _ hml)))))))).1
          rw [q1] at el
          exact ⟨ol, q2.trans el, rl⟩
      refine ⟨pts.length + 1 - (i + 1), by omega, h9, tk8, i + 1, ys ++ [.ref T], (T, o) :: made, _, rfl, hlt, rfl, by rw [List.length_append, List.length_singleton, hyl], ⟨⟨oI, k9 _ _ (Ne.symm hDI) zI, hdI⟩, ?_⟩, ?_, (hoC.ns zC).at' fun o e => k9 _ _ (Ne.symm hDC) e, ?_, ?_, ?_⟩
      · obtain ⟨ol, el, rl⟩ := hl8; exact ⟨ol, k9 _ _ hlD el, rl⟩
      · exact F8.change hs9 (Nat.ne_of_gt hLD) (h0None D (by omega))
      · exact news_cons (hD9.trans (congrArg some (lst_snoc ys (.ref T)))) hLD (h0None D (by omega)) (news_keep (news_off N8) k9 (ne_app (Nat.ne_of_gt (show @LT.lt Nat _ D T by omega)) (ne_gt (gt_lt hmade (show @LE.le Nat _ D C by omega))) (ne_lt ltN (show @LE.le Nat _ I D by omega))))
      · exact List.forall_mem_cons.mpr ⟨gC, hmade⟩
      · rw [List.take_add_one, hri]
        simp only [Option.toList_some, List.map_append, List.map_cons, List.map_nil]
        exact (hdat.mono fun p hp => .tail _ hp).append (.cons (dat8.mono fun p hp => by rw [List.mem_singleton.mp hp]; exact .head _) .nil)
    · obtain rfl : i = pts.length := Nat.le_antisymm hi (Nat.not_lt.mp hlt)
      refine W.done _ _ _ hst fun h3 tk3 hk3 => ?_
      have kI : ∀ x o, x ≠ I → h'.get? x = some o → h3.get? x = some o := fun x o hx e => hk3 x o (by simpa using hx) e
      rw [List.take_length] at hdat
      have hIC : @LT.lt Nat _ I C := by omega
      exact ⟨ys, made, h3, tk3, m', rfl, rfl, fr_keep F' kI hL1 (h0None I (Nat.le_refl _)), hn'.at' fun o e => kI _ _ (Nat.ne_of_gt hIC) e, news_keep N' kI (ne_app (Nat.ne_of_gt (show @LT.lt Nat _ I D by omega)) (ne_gt (gt_lt hmade (Nat.le_of_lt hIC))) (ne_lt ltN (Nat.le_refl I))), hmade, hdat⟩
  · exact news_cons hacc (show @LT.lt Nat _ L D by omega) (h0None D (by omega)) N
theorem comp3 {elt iter : PySem.Expr} {a b c : Str} {pa pb pc tp : Pos} {kk : Nat} {scope : Scope} {cl : List (Str × Addr)} {pos : Pos} {l : Addr} {nw news : Led} {pts : List Pt} {m : Str → Option Value} {Q : Value → Shared → Prop}
    (_F₀ : Fr h₀ L s.heap m) (hh : A.handled = none) (hclos : closureFor scope env = pure cl) (hcell : ∀ y ∈ scope.names, y.2 ≠ .cell) (hkind : scope.kind = .function)
    (hnames : ∀ y ∈ scope.names, y.2 = .local → scope.names.lookup y.1 = some .local) (ha : scope.names.lookup a = some .local) (hb : scope.names.lookup b = some .local) (hc : scope.names.lookup c = some .local) (hab : a ≠ b) (hac : a ≠ c) (hbc : b ≠ c)
    (hit : wpAny (model prog w) A (eval iter env) (fun xv s₁ => xv = .ref l ∧ ∃ h tk, s₁ = { s with heap := h, toks := tk } ∧ Fr h₀ L h m ∧ News h₀ L h news) E s)
    (DD : DatIn nw (.ref l) (.list (pts.map pd))) (S : ∀ p ∈ nw, p ∈ news) (hn : pts.length ≤ 1000)
    (el : ∀ (r : Pt) (t1 t2 : Tok) (C : Addr) (oC : Obj) (m₂ : Str → Option Value) (nx : Led) (h : Heap) (tk : Nat) (E' : Value → Shared → Prop), NsObj oC m₂ → m₂ a = some (.int r.1 t1) → m₂ b = some (.int r.2.1 t2) → m₂ c = some (.bool r.2.2) → Fr h₀ L h m → News h₀ L h ((C, oC) :: nx) →
      wpAny (model prog w) A (eval elt (compEnvC scope cl C env)) (ElEnd h₀ L s m C oC nx (pd (dbl r))) E' { s with heap := h, toks := tk })
    (fin : ∀ D ys made h tk, Fr h₀ L h m → News h₀ L h ((D, lst ys) :: (made ++ news)) → (∀ p ∈ news, p.1 < D) → Lo news made → DatAll made ys ((pts.map dbl).map pd) → Q (.ref D) { s with heap := h, toks := tk })
    (hs : ∀ x, foldedSetIterable iter env x = pure x := by intro _; rfl) :
    wpAny (model prog w) A (eval (.ListComp elt [⟨.Tuple [.Name a pa, .Name b pb, .Name c pc] kk tp, iter, [], 0⟩] scope pos) env) Q E s := by
  rw [eval_ListComp]
  refine wpAny_comprehension_free (use := none) rfl hs hclos hkind hnames (wpAny_mono hit (fun xv s₁ h₁ => ?_) fun _ _ e => e)
  obtain ⟨rfl, h₁, tk₁, rfl, F, N⟩ := h₁
  obtain ⟨vs, hl, hA⟩ := dl_heap N S DD
  have hlen : vs.length = pts.length := by rw [hA.length, List.length_map]
  have hllt : l < h₁.objs.size := by obtain ⟨_, e, _⟩ := hl; exact Heap.lt_size e
  refine wpAny_pyIter_list hl ?_
  -- the iterator I, the list D that is built, the block's names C
  refine wpAny_newObj_type (wpAny_newFunctionEnv hcell (by intro y hy; simp at hy) (fun h₂ hns₂ hsb₂ => ?_) hkind)
  dsimp only at hns₂ hsb₂ ⊢
  generalize hI : h₁.objs.size = I at *
  generalize hH1 : h₁.push { cls := .type "list_iterator", data := .fields #[.ref l, .int 0 0] } = H1 at *
  have hH1s : H1.objs.size = I + 1 := by rw [← hH1, Heap.size_push, hI]
  generalize hD : H1.objs.size = D at *
  generalize hH2 : H1.push { cls := .type "list", dict := none, data := .seq ([] : List Value).toArray } = H2 at *
  have hH2s : H2.objs.size = D + 1 := by rw [← hH2, Heap.size_push, hD]
  generalize hC : H2.objs.size = C at *
  have hL1 : @LT.lt Nat _ L I := by rw [← hI]; exact F.ns.lt
  have old : ∀ b o, h₁.get? b = some o → h₂.get? b = some o := fun b o e => by
    have hlt : @LT.lt Nat _ b I := by rw [← hI]; exact Heap.lt_size e
    refine hsb₂.extBut b o (Nat.ne_of_lt (by omega)) (Heap.get?_push_of_some _ ?_)
    rw [← hH2]; refine Heap.get?_push_of_some _ ?_
    rw [← hH1]; exact Heap.get?_push_of_some _ e
  have oldI : ∀ o, H1.get? I = some o → h₂.get? I = some o := fun o e => by
    refine hsb₂.extBut I o (Nat.ne_of_lt (by omega)) (Heap.get?_push_of_some _ ?_)
    rw [← hH2]; exact Heap.get?_push_of_some _ e
  have hItI : h₂.IsListIter I l 0 := ⟨_, oldI _ (by rw [← hH1, ← hI]; exact Heap.get?_push_size _ rfl), rfl, rfl⟩
  have hacc : h₂.get? D = some (lst []) := by
    refine hsb₂.extBut D _ (Nat.ne_of_lt (by omega)) (Heap.get?_push_of_some _ ?_)
    rw [← hH2, ← hD]; exact Heap.get?_push_size _ rfl
  have h0None : ∀ x : Addr, @LE.le Nat _ I x → h₀.get? x = none := fun x hx => by
    cases e : h₀.get? x with
    | none => rfl
    | some o =>
      have := Heap.lt_size (F.keep x o e)
      rw [hI] at this
      exact absurd this (Nat.not_lt.mpr hx)
  have ltN : ∀ p ∈ news, @LT.lt Nat _ p.1 I := fun p hp => by rw [← hI]; exact Heap.lt_size (N p hp).1
  have W := Walks.list (prog := prog) (w := w) hh I l (Nat.ne_of_lt hllt) vs.toArray
  rw [List.size_toArray, hlen] at W
  have hlst₂ : h₂.IsList l vs.toArray := by obtain ⟨o, e, r⟩ := hl; exact ⟨o, old _ _ e, r⟩
  have loop' := comp3_loop (s := s) (env := env) (tk₁ := tk₁ + ([] : List (Str × Value)).length) (elt := elt) (iter := iter) (pa := pa) (pb := pb) (pc := pc) (tp := tp) (kk := kk) (pos := pos) (cl := cl) hh hkind ha hb hc hab hac hbc DD S hn el hA hL1 hllt hH1s hH2s h0None ltN hItI hlst₂ hacc (F.keeps old) (News.keepsAll N old) hns₂
  refine codeAny_mono (codeAny_compStart_list loop' (W.self 0 _ _ _ ⟨hItI, hlst₂⟩ loop')) ?_
  rintro r s' ⟨ys, made, h, tk, m', rfl, rfl, F', hn', N', hmade, hdat⟩
  refine ⟨m', hn', fun h'' hs'' => fin D ys made h'' tk (F'.change hs'' (Nat.ne_of_gt (by show @LT.lt Nat _ L C; omega)) (h0None C (by omega))) (fun p hp => ?_) (fun p hp => Nat.lt_trans (ltN p hp) (by omega)) ?_ hdat⟩
  · exact news_keep N' (fun x o hx e => hs''.extBut x o hx e) (ne_app (show D ≠ C by omega) (ne_gt hmade) (ne_lt ltN (show @LE.le Nat _ I C by omega))) p hp
  · intro q hq p hp
    exact Nat.lt_trans (ltN q hq) (Nat.lt_trans (by omega) (hmade p hp))
end
section
variable {prog : Program} {w : World} {A : Around} {E : Value → Shared → Prop} {s : Shared} {env : Env} {Q : Value → Shared → Prop}
theorem LC_halt {elt : PySem.Expr} {gens : List Comprehension} {scope : Scope} {pos : Pos} (h : Halt (wpAny (model prog w) A (eval (.ListComp elt gens scope pos) env) Q E s)) : wpAny (model prog w) A (eval (.ListComp elt gens scope pos) env) Q E s := h
end
theorem off_m_dbl : True := by
  w_top off
  k_with "W eval ListComp" => (k_here; refine LC_halt ?_)
  trivial
/-! ## _law_doubled -/
section
variable (w : World) (p : Program) (loose : List Str) (mean : ExcName → Option Value) (mg mb : Str → Option Value)
theorem dbl_ok (c : List Pt) (hc : c.length ≤ 100) : Ct w p loose mean mg mb 191 2 (fun nw vs => ∃ a, vs = [.ref a] ∧ DatIn nw (.ref a) (.list (c.map pd))) (fun nw tl r => DatIn tl r (.list ((c.map dbl).map pd))) := by
  refine ct_intro ?_
  k_fill
  intro dp un gd cn cs a ccd cl outer A₀ base h₀ L m news nw s vs Q E B F X N T hk hS hR hd hu hret
  obtain ⟨a1, rfl, D1⟩ := hR
  walk_at "M enter"
  k_steps
  unfold Halt
  (rename Fr _ _ _ _ => lF); (rename News _ _ _ _ => lN)
  refine comp3 (l := a1) (news := news) (nw := nw) lF rfl (by rfl) (by decide) (by rfl) (by decide) (by rfl) (by rfl) (by rfl) (by decide) (by decide) (by decide) ?hit D1 hS.out (by omega) ?el ?fin
  case hit => exact ld lF rfl ⟨rfl, _, _, rfl, lF, lN⟩
  case' el =>
    intro r t1 t2 C oC m₂ nx h tk E' hns e1 e2 e3 F1 N1
  case' fin =>
    intro D ys made h tk F1 N1 lt lo hdat
  all_goals (try k_fold)
  all_goals k_steps
  · refine hret _ ((D, LCg.lst ys) :: made) _ _ (by assumption) ?_ ?_ ?_
    · exact fun p hp => (by assumption : News h₀ L h ((D, LCg.lst ys) :: (made ++ news))) p (by
        rcases List.mem_append.mp hp with hp | hp
        · exact List.mem_cons_of_mem _ (List.mem_append.mpr (.inr hp))
        · rcases List.mem_cons.mp hp with rfl | hp
          · exact .head _
          · exact List.mem_cons_of_mem _ (List.mem_append.mpr (.inl hp)))
    · exact lo_cons (allLt_iff.mpr lt) lo
    · exact DatIn.list (.head _) (hdat.mono fun p hp => List.mem_cons_of_mem _ hp)
  · refine ⟨_, _, _, _, rfl, rfl, by assumption, by assumption, allLt_iff.mp (by walk_at "M allLt"), ?_⟩
    exact DatIn.tuple (.head _) (.cons (.int _ _) (.cons (.int _ _) (.cons (.bool _) .nil)))
end
theorem off_n_right : True := by
  w_top off
  trivial
/-! ## _law_contour_right: contracts turned to its words -/
section
variable (w : World) (p : Program) (loose : List Str) (mean : ExcName → Option Value) (mg mb : Str → Option Value)
theorem dbl2_ok (q : Pt) (c : List Pt) (hc : c.length ≤ 20) : Ct w p loose mean mg mb 191 2 (fun nw vs => ∃ a, vs = [.ref a] ∧ DatIn nw (.ref a) (.list ((q :: c).map pd))) (fun nw tl r => DatIn tl r (.list ((dbl q :: c.map dbl).map pd))) := dbl_ok w p loose mean mg mb (q :: c) (by rw [List.length_cons]; omega)
theorem due2_ok (q : Pt) (c : List Pt) (hc : c.length ≤ 20) : Ct w p loose mean mg mb 219 6 (fun nw vs => ∃ a, vs = [.ref a] ∧ DatIn nw (.ref a) (.list ((dbl q :: c.map dbl).map pd))) (fun nw tl r => DatIn (nw ++ tl) r (.list (segs q c))) := by
  rw [← segs_due q c]
  exact due_ok w p loose mean mg mb (dbl q) (c.map dbl) (by rw [List.length_map]; omega)
theorem whole2_ok (q : Pt) (c : List Pt) (q' : Pt) (c' : List Pt) (e : whole q c = q' :: c') (hc : c.length ≤ 20) : Ct w p loose mean mg mb 198 4 (fun nw vs => ∃ a, vs = [.ref a] ∧ DatIn nw (.ref a) (.list ((q :: c).map pd))) (fun nw tl r => DatIn (nw ++ tl) r (.list ((q' :: c').map pd))) := by
  rw [← e]
  exact whole_ok w p loose mean mg mb q c hc
end
/-! ## all of it is data that can be set side by side -/
theorem ok_fr (x b : Int) (n : Nat) : okD (n + 1) (fr x b) = true := by simp [fr, okD_t, okD_l, okD_i, okD_b, okD_s]
theorem ok_spot (q : Pt) (n : Nat) : okD (n + 2) (spotD q) = true := by simp [spotD, okD_t, okD_l, okD_i, okD_b, okD_s, ok_fr]
theorem ok_mid (q r : Pt) (n : Nat) : okD (n + 2) (midD q r) = true := by simp [midD, okD_t, okD_l, okD_i, okD_b, okD_s, ok_fr]
theorem ok_beg (q : Pt) (c : List Pt) (n : Nat) : okD (n + 2) (begD q c) = true := by unfold begD; split <;> (try split) <;> simp [ok_spot, ok_mid]
theorem ok_pd (q : Pt) (n : Nat) : okD (n + 1) (pd q) = true := by simp [pd, okD_t, okD_l, okD_i, okD_b, okD_s]
theorem ok_pts (l : List Pt) (n : Nat) : okD (n + 2) (.list (l.map pd)) = true := by simp [okD_t, okD_l, okD_i, okD_b, okD_s, ok_pd]
theorem okS_line : PyData.strOk (Str.ofString "line") = true := by with_unfolding_all rfl
theorem okS_quad : PyData.strOk (Str.ofString "quad") = true := by with_unfolding_all rfl
theorem okS_move : PyData.strOk (Str.ofString "move") = true := by with_unfolding_all rfl
theorem okS_close : PyData.strOk (Str.ofString "close") = true := by with_unfolding_all rfl
theorem ok_close : okD 4 closeD = true := by simp [closeD, okD_t, okD_l, okD_i, okD_b, okD_s, okS_close]
theorem ok_step (k : List Dat × Option Pt) (r : Pt) (h : ∀ d ∈ k.1, okD 4 d = true) : ∀ d ∈ (segStep k r).1, okD 4 d = true := by
  intro d hd
  obtain ⟨f, o⟩ := k
  rcases o with _ | o <;> by_cases h1 : r.2.2 = true <;> simp [segStep, h1] at hd
  · rcases hd with hd | rfl
    · exact h d hd
    · have := ok_spot r 1; simp [lineD, okD_t, okD_l, okD_i, okD_b, okD_s, this, okS_line]
  · exact h d hd
  · rcases hd with hd | rfl
    · exact h d hd
    · have := ok_spot r 1; have := ok_spot o 1; simp [quadD, okD_t, okD_l, okD_i, okD_b, okD_s, okS_quad, *]
  · rcases hd with hd | rfl
    · exact h d hd
    · have := ok_mid o r 1; have := ok_spot o 1; simp [quadD, okD_t, okD_l, okD_i, okD_b, okD_s, okS_quad, *]
theorem ok_fold (l : List Pt) : ∀ (k : List Dat × Option Pt), (∀ d ∈ k.1, okD 4 d = true) → ∀ d ∈ (l.foldl segStep k).1, okD 4 d = true := by
  induction l with
  | nil => exact fun k h => h
  | cons r l ih => exact fun k h => ih _ (ok_step k r h)
theorem ok_segs (q : Pt) (c : List Pt) : ∀ d ∈ segs q c, okD 4 d = true := by
  intro d hd
  unfold segs segEnd at hd
  have hm : okD 4 (moveD (begD q c)) = true := by have := ok_beg q c 1; simp [moveD, okD_t, okD_l, okD_i, okD_b, okD_s, okS_move, *]
  have hf := ok_fold (begPts q c) ([moveD (begD q c)], none) (fun d hd => by rw [List.mem_singleton.mp hd]; exact hm)
  generalize (begPts q c).foldl segStep ([moveD (begD q c)], none) = z at hd hf
  obtain ⟨f, o⟩ := z
  rcases o with _ | o
  · rcases List.mem_append.mp hd with hd | hd
    · exact hf d hd
    · rw [List.mem_singleton.mp hd]; exact ok_close
  · rcases List.mem_append.mp hd with hd | hd
    · rcases List.mem_append.mp hd with hd | hd
      · exact hf d hd
      · rw [List.mem_singleton.mp hd]
        have := ok_beg q c 1; have := ok_spot o 1; simp [quadD, okD_t, okD_l, okD_i, okD_b, okD_s, okS_quad, *]
    · rw [List.mem_singleton.mp hd]; exact ok_close
theorem ok_mono : ∀ (n : Nat) (d : Dat), okD n d = true → okD (n + 1) d = true := by
  intro n
  induction n with
  | zero => intro d h; cases d <;> simp_all [okD, okS]
  | succ n ih =>
    intro d h
    cases d with
    | tuple ds => simp only [okD_t, okD_l, okD_i, okD_b, okD_s, List.all_eq_true] at h ⊢; exact fun e he => ih e (h e he)
    | list ds => simp only [okD_t, okD_l, okD_i, okD_b, okD_s, List.all_eq_true] at h ⊢; exact fun e he => ih e (h e he)
    | _ => simp_all [okD, okS]
theorem ok_list {ds : List Dat} (h : ∀ d ∈ ds, okD 4 d = true) : okD 12 (.list ds) = true := by
  simp only [okD_t, okD_l, okD_i, okD_b, okD_s, List.all_eq_true]
  exact fun d hd => ok_mono _ _ (ok_mono _ _ (ok_mono _ _ (ok_mono _ _ (ok_mono _ _ (ok_mono _ _ (ok_mono _ _ (h d hd)))))))
theorem pair_begun (q : Pt) (c : List Pt) : pairD (begun (dbl q) (c.map dbl)) = begD q c := by
  have hl : lastP (dbl q) (c.map dbl) = dbl (lastP q c) := lastP_map q c dbl
  unfold begun begD
  rw [hl]
  by_cases h1 : q.2.2 = true
  · rw [if_pos (show (dbl q).2.2 = true from h1), if_pos h1, pair_dbl]
  · rw [if_neg (show ¬(dbl q).2.2 = true from h1), if_neg h1]
    by_cases h2 : (lastP q c).2.2 = true
    · rw [if_pos (show (dbl (lastP q c)).2.2 = true from h2), if_pos h2, pair_dbl]
    · rw [if_neg (show ¬(dbl (lastP q c)).2.2 = true from h2), if_neg h2, pair_betw]
theorem beg_ref {nw : Led} {v : Value} {q : Pt} {c : List Pt} (h : DatIn nw v (begD q c)) : ∃ a, v = .ref a := by
  unfold begD at h
  split at h
  · exact (dt_ref h).imp fun _ h => h
  · split at h
    · exact (dt_ref h).imp fun _ h => h
    · exact (dt_ref h).imp fun _ h => h
/-! ## two ways that meet at a list -/
inductive JMarkD : Led → Dat → Prop
  | mk (nw : Led) (d : Dat) : JMarkD nw d
def DEnd (h₀ : Heap) (L : Addr) (m : Str → Option Value) (nw news : Led) (d : Dat) (s : Shared) (v : Value) (s' : Shared) : Prop :=
  ∃ D tl h' tk', v = .ref D ∧ s' = { s with heap := h', toks := tk' } ∧ Fr h₀ L h' m ∧ News h₀ L h' (news ++ tl) ∧ Lo news tl ∧ DatIn (nw ++ tl) (.ref D) d
section
variable {prog : Program} {w : World} {A : Around} {E : Value → Shared → Prop} {env : Env} {h₀ : Heap} {L : Addr} {m : Str → Option Value} {nw news : Led} {d : Dat} {hp : Heap} {g : Array GenState} {dr : Drawn} {tk0 : Nat} {os : OsState} {x : PySem.Expr} {Q : Value → Shared → Prop}
theorem join_dat (_ : JMarkD nw d) (_ : Fr h₀ L hp m) (_ : News h₀ L hp news) (h1 : wpAny (model prog w) A (eval x env) (DEnd h₀ L m nw news d ⟨hp, g, dr, tk0, os⟩) E ⟨hp, g, dr, tk0, os⟩)
    (h2 : ∀ D tl h' tk', Fr h₀ L h' m → News h₀ L h' (news ++ tl) → Lo news tl → DatIn (nw ++ tl) (.ref D) d → Q (.ref D) ⟨h', g, dr, tk', os⟩) : wpAny (model prog w) A (eval x env) Q E ⟨hp, g, dr, tk0, os⟩ := by
  refine wpAny_mono h1 (fun v s' h => ?_) fun _ _ e => e
  obtain ⟨D, tl, h', tk', rfl, rfl, F, N, l, k⟩ := h
  exact h2 D tl h' tk' F N l k
theorem DEnd.of {D : Addr} {tl : Led} {h' : Heap} {tk' : Nat} (F : Fr h₀ L h' m) (N : News h₀ L h' (news ++ tl)) (l : Lo news tl) (k : DatIn (nw ++ tl) (.ref D) d) : DEnd h₀ L m nw news d ⟨hp, g, dr, tk0, os⟩ (.ref D) ⟨h', g, dr, tk', os⟩ :=
  ⟨D, tl, h', tk', rfl, rfl, F, N, l, k⟩
end
theorem off_o_right : True := by
  w_top off
  k_with "W eval IfExp" => ((rename JMarkD _ _ => jm9_k); ((refine join_dat jm9_k (by k_asm) (by k_asm) ?_ (fun D9_k tl9_k h9_k tk9_k F9_k N9_k hl9_k ho9_k => ?_)) <;> ((clear jm9_k); (try simp only [List.nil_append, List.cons_append, List.append_nil, List.append_assoc] at N9_k ho9_k); (try k_fold))))
  k_with "W M kc" => first | assumption | omega | ((simp only [List.length_map, List.length_cons] at *); omega) | fail "M kc"
  k_with "W call ref" => ((with_reducible show wpAny _ _ (call (Value.ref 191) _) _ _ _); k_dflt (refine' ct_use (dbl2_ok _ _ _ _ _ _ _ _ ?kc_k) ?k1_k ?k2_k ?k3_k ?k4_k ?k5_k ?kK_k ?kS_k ⟨_, rfl, ?kD_k⟩ ?kd_k ?ku_k ?_; walk_at "M use"; (case kD_k => with_reducible assumption); (case kS_k => walk_at "M sub"); (case kc_k => walk_at "M kc"); intro r9_k tl9_k h9_k tk9_k F9_k N9_k hl9_k ho9_k; (try simp only [List.nil_append, List.cons_append, List.append_nil, List.append_assoc] at N9_k); (try simp only [List.nil_append, List.cons_append, List.append_nil, List.append_assoc] at ho9_k); (obtain ⟨_, hv8_k⟩ := dl_ref ho9_k; subst hv8_k); (try dsimp only); (try k_fold)))
  k_with "W call ref" => ((with_reducible show wpAny _ _ (call (Value.ref 219) _) _ _ _); k_dflt (refine' ct_use (due2_ok _ _ _ _ _ _ _ _ ?kc_k) ?k1_k ?k2_k ?k3_k ?k4_k ?k5_k ?kK_k ?kS_k ⟨_, rfl, ?kD_k⟩ ?kd_k ?ku_k ?_; walk_at "M use"; (case kD_k => with_reducible assumption); (case kS_k => walk_at "M sub"); (case kc_k => walk_at "M kc"); intro r9_k tl9_k h9_k tk9_k F9_k N9_k hl9_k ho9_k; (try simp only [List.nil_append, List.cons_append, List.append_nil, List.append_assoc] at N9_k); (try simp only [List.nil_append, List.cons_append, List.append_nil, List.append_assoc] at ho9_k); (obtain ⟨_, hv8_k⟩ := dl_ref ho9_k; subst hv8_k); (try dsimp only); (try k_fold)))
  k_with "W call ref" => ((with_reducible show wpAny _ _ (call (Value.ref 144) _) _ _ _); k_dflt (refine' ct_use (seg_ok _ _ _ _ _ _ _ _ ?kc_k) ?k1_k ?k2_k ?k3_k ?k4_k ?k5_k ?kK_k ?kS_k ⟨_, rfl, ?kD_k⟩ ?kd_k ?ku_k ?_; walk_at "M use"; (case kD_k => with_reducible assumption); (case kS_k => walk_at "M sub"); (case kc_k => walk_at "M kc"); intro r9_k tl9_k h9_k tk9_k F9_k N9_k hl9_k ho9_k; (try simp only [List.nil_append, List.cons_append, List.append_nil, List.append_assoc] at N9_k); (try simp only [List.nil_append, List.cons_append, List.append_nil, List.append_assoc] at ho9_k); (obtain ⟨_, hv8_k⟩ := dl_ref ho9_k; subst hv8_k); (try dsimp only); (try k_fold)))
  k_with "W call ref" => ((with_reducible show wpAny _ _ (call (Value.ref 198) _) _ _ _); k_dflt (refine' ct_use (whole2_ok _ _ _ _ _ _ _ _ _ _ ?ke_k ?kc_k) ?k1_k ?k2_k ?k3_k ?k4_k ?k5_k ?kK_k ?kS_k ⟨_, rfl, ?kD_k⟩ ?kd_k ?ku_k ?_; walk_at "M use"; (case kD_k => with_reducible assumption); (case ke_k => with_reducible assumption); (case kS_k => walk_at "M sub"); (case kc_k => walk_at "M kc"); intro r9_k tl9_k h9_k tk9_k F9_k N9_k hl9_k ho9_k; (try simp only [List.nil_append, List.cons_append, List.append_nil, List.append_assoc] at N9_k); (try simp only [List.nil_append, List.cons_append, List.append_nil, List.append_assoc] at ho9_k); (obtain ⟨_, hv8_k⟩ := dl_ref ho9_k; subst hv8_k); (try dsimp only); (try k_fold)))
  k_with "W call ref" => ((with_reducible show wpAny _ _ (call (Value.ref 212) _) _ _ _); k_dflt (refine' ct_use (begun_ok _ _ _ _ _ _ _ _ ?kc_k) ?k1_k ?k2_k ?k3_k ?k4_k ?k5_k ?kK_k ?kS_k ⟨_, rfl, ?kD_k⟩ ?kd_k ?ku_k ?_; walk_at "M use"; (case kD_k => with_reducible assumption); (case kS_k => walk_at "M sub"); (case kc_k => walk_at "M kc"); intro r9_k tl9_k h9_k tk9_k F9_k N9_k hl9_k ho9_k; (try simp only [List.nil_append, List.cons_append, List.append_nil, List.append_assoc] at N9_k); (try simp only [List.nil_append, List.cons_append, List.append_nil, List.append_assoc] at ho9_k); (obtain ⟨_, hv8_k⟩ := dt_ref ho9_k; subst hv8_k); (try dsimp only); (try k_fold)))
  k_with "W call ref" => ((with_reducible show wpAny _ _ (call (Value.ref 137) _) _ _ _); k_dflt (refine' ct_use (begin_ok _ _ _ _ _ _ _ _ ?kc_k) ?k1_k ?k2_k ?k3_k ?k4_k ?k5_k ?kK_k ?kS_k ⟨_, rfl, ?kD_k⟩ ?kd_k ?ku_k ?_; walk_at "M use"; (case kD_k => with_reducible assumption); (case kS_k => walk_at "M sub"); (case kc_k => walk_at "M kc"); intro r9_k tl9_k h9_k tk9_k F9_k N9_k hl9_k ho9_k; (try simp only [List.nil_append, List.cons_append, List.append_nil, List.append_assoc] at N9_k); (try simp only [List.nil_append, List.cons_append, List.append_nil, List.append_assoc] at ho9_k); (obtain ⟨_, hv8_k⟩ := dt_ref ho9_k; subst hv8_k); (obtain ⟨_, _, _, hm7_k, hd7_k, he7_k⟩ := dt2_inv ho9_k); (obtain ⟨_, hv7_k⟩ := dl_ref he7_k; subst hv7_k); (obtain ⟨_, hv6_k⟩ := beg_ref hd7_k; subst hv6_k); (try dsimp only); (try k_fold)))
  k_with "W subscriptTail" => (k_here; (with_reducible show wpAny _ _ (subscriptTail _ _ (Value.ref _) (Value.int _ _)) _ _ _); k_dflt (refine' dt_item ?k1_k ?k2_k ?k3_k ?k4_k ?k5_k ?k6_k ?k7_k ?_ ?k9_k; (case k1_k => k_asm); (case k2_k => with_reducible assumption); (case k3_k => walk_at "M sub"); (case k4_k => decide); (case k5_k => decide); (case k6_k => first | with_reducible assumption | rfl); (case k7_k => first | with_reducible assumption | rfl); (case k9_k => with_unfolding_all rfl); k_whole); intro v9_k hv9_k; obtain ⟨_, hv8_k⟩ := beg_ref hv9_k; subst hv8_k)
  k_with "W M same_d" => (
      (case k1_k => k_asm)
      (case k2_k => with_reducible assumption)
      (case k3_k => walk_at "M sub")
      (case k4_k => with_reducible assumption)
      (case k5_k => walk_at "M sub")
      (case k6_k => first | assumption | rfl)
      (case k7_k => assumption)
      (case k8_k => ((simp only [units_deeper, units_in1]); (try dsimp only [ktrTop]); omega)))
  k_with "W compareOp NotEq ref ref" => (k_here; (with_reducible show wpAny _ _ (compareOp _ (Value.ref _) (Value.ref _)) _ _ _); k_dflt (refine' d_ne_same ?k1_k ?k2_k ?k3_k ?k4_k ?k5_k ?k6_k ?k7_k ?k8_k ?_; walk_at "M same_d"; k_whole))
  k_with "W compareOp Eq ref ref" => (k_here; (with_reducible show wpAny _ _ (compareOp _ (Value.ref _) (Value.ref _)) _ _ _); k_dflt (refine' d_eq_same ?k1_k ?k2_k ?k3_k ?k4_k ?k5_k ?k6_k ?k7_k ?k8_k ?_; walk_at "M same_d"; k_whole))
  trivial
/-! ## _law_contour_right -/
theorem back2 (b : Dat) (X : List Dat) (y : List Dat) : (b :: (X ++ [.tuple y, closeD]))[((-2 : Int) + (b :: (X ++ [.tuple y, closeD])).length).toNat]? = some (.tuple y) := by
  have e : ((-2 : Int) + (b :: (X ++ [.tuple y, closeD])).length).toNat = X.length + 1 := by simp only [List.length_append, List.length_cons, List.length_nil]; omega
  rw [e, List.getElem?_cons_succ]
  simp
section
variable (w : World) (p : Program) (loose : List Str) (mean : ExcName → Option Value) (mg mb : Str → Option Value)
theorem right_ok (q : Pt) (c : List Pt) (hc : c.length ≤ 5) : Ct w p loose mean mg mb 226 12 (fun nw vs => ∃ a, vs = [.ref a] ∧ DatIn nw (.ref a) (.list ((q :: c).map pd))) (fun nw tl r => r = .bool true) := by
  refine ct_intro ?_
  k_fill
  intro dp un gd cn cs a ccd cl outer A₀ base h₀ L m news nw s vs Q E B F X N T hk hS hR hd hu hret
  obtain ⟨a1, rfl, D1⟩ := hR
  have eL := last_get q c
  have hz : ((q :: c).map pd).length ≤ 1000 := by rw [List.length_map, List.length_cons]; omega
  have hbl : (begPts q c).length ≤ 6 := by unfold begPts; split <;> simp <;> omega
  have hz2 : ((begPts q c).map pd).length ≤ 1000 := by rw [List.length_map]; omega
  have k1 : okD 12 (begD q c) = true := ok_beg q c 10
  have k2 : okD 12 (.list ((begPts q c).map pd)) = true := ok_pts _ 10
  have k3 : okD 12 (.list (segs q c)) = true := ok_list (ok_segs q c)
  have e1 : begD q c = pairD (begun (dbl q) (c.map dbl)) := (pair_begun q c).symm
  obtain ⟨q', c', w1, w2⟩ := segs_whole (dbl (dbl q)) ((c.map dbl).map dbl) (by
    intro x hx
    rcases List.mem_cons.mp hx with rfl | hx
    · exact ⟨_, rfl⟩
    · rw [List.map_map] at hx
      obtain ⟨b, _, rfl⟩ := List.mem_map.mp hx
      exact ⟨b, rfl⟩)
  have k4 : okD 12 (.list (segs q' c')) = true := ok_list (ok_segs q' c')
  have e3 : Dat.list (segs q' c') = Dat.list (segs (dbl (dbl q)) ((c.map dbl).map dbl)) := by rw [w2]
  have hc' : c'.length ≤ 50 := by
    have h1 := wh_len (dbl (dbl q) :: (c.map dbl).map dbl) (lastP (dbl (dbl q)) ((c.map dbl).map dbl))
    have h2 : (whole (dbl (dbl q)) ((c.map dbl).map dbl)).length = c'.length + 1 := by rw [w1]; rfl
    have h3 : (whole (dbl (dbl q)) ((c.map dbl).map dbl)).length = (wh (lastP (dbl (dbl q)) ((c.map dbl).map dbl)) (dbl (dbl q) :: (c.map dbl).map dbl)).length := rfl
    simp only [List.length_cons, List.length_map] at h1 h2 h3
    omega
  obtain ⟨Xs, y, es, hy⟩ := segs_end q c
  have g0 : (segs q c)[((0 : Int)).toNat]? = some (.tuple [.str (Str.ofString "move"), begD q c]) := by rw [es]; rfl
  have g2 : (segs q c)[((-2 : Int) + (segs q c).length).toNat]? = some (.tuple y) := by rw [es]; exact back2 _ _ _
  have hsl : 2 ≤ (segs q c).length := by rw [es]; simp
  have e0 : begD q c = begD q c := rfl
  obtain ⟨jy, hj1, hj2⟩ : ∃ j, seqIndex? (-1) y.length = some j ∧ y[j]? = some (begD q c) := by
    rcases hy with rfl | ⟨ya, rfl⟩
    · exact ⟨1, rfl, rfl⟩
    · exact ⟨2, rfl, rfl⟩
  have hjm := JMarkD.mk nw (.list ((begPts q c).map pd))
  walk_at "M enter"
  k_steps
  · refine DEnd.of (by assumption) (by walk_at "M news") ?_ (dat_cast (a := ((q :: c).map pd).drop (1 : Int).toNat ++ ((q :: c).map pd).take (1 : Int).toNat) (DatIn.mono ?_ (by assumption)) ?_)
    · walk_at "M lo"
    · walk_at "M sub"
    · have h1 : q.2.2 = true := by assumption
      simp [begPts, h1]
  · refine DEnd.of (by assumption) (by walk_at "M news") ?_ (dat_cast (a := (q :: c).map pd) (DatIn.mono ?_ D1) ?_)
    · walk_at "M lo"
    · walk_at "M sub"
    · have h1 : q.2.2 = false := by assumption
      simp [begPts, h1]
  all_goals refine hret _ _ _ _ (by assumption) (by walk_at "M news") ?_ rfl
  all_goals walk_at "M lo"
end
theorem off_p_segof : True := by
  w_top off
  trivial
/-! ## Outline, segments_of -/
/-- an outline, over a ledger: its contours' list -/
structure IsOut (w : World) (nw : Led) (x c : Addr) : Prop where
  out : ∃ dx t1 t2 iv, (x, instObj 112 dx) ∈ nw ∧ (dx, dictOf [{ hash := PyData.keyHash w.params (Str.ofString "contours"), key := .str (Str.ofString "contours") t1, val := .ref c }, { hash := PyData.keyHash w.params (Str.ofString "instructions"), key := .str (Str.ofString "instructions") t2, val := iv }] 2) ∈ nw
theorem IsOut.mono {w : World} {nw nw2 : Led} {x c : Addr} (h : IsOut w nw x c) (S : ∀ p ∈ nw, p ∈ nw2) : IsOut w nw2 x c := by
  obtain ⟨dx, t1, t2, iv, h1, h2⟩ := h.out
  exact ⟨dx, t1, t2, iv, S _ h1, S _ h2⟩
def ctrs (cs : List (List Pt)) : Dat := .list (cs.map fun l => .list (l.map pd))
def segsOf : List Pt → List Dat
  | q :: r :: c => segs q (r :: c)
  | _ => []
def segsAll (cs : List (List Pt)) : List Dat := cs.flatMap segsOf
/-- what holds between two turns -/
abbrev AllJ (cs : List (List Pt)) (i : Nat) (tl : Led) (c : Value × List Dat) : Prop := DatIn tl c.1 (.list c.2) ∧ c.2 = segsAll (cs.take i) ∧ c.2.length ≤ 10 * i
theorem step_len (k : List Dat × Option Pt) (r : Pt) : (segStep k r).1.length ≤ k.1.length + 1 := by
  obtain ⟨f, o⟩ := k
  rcases o with _ | o <;> by_cases h1 : r.2.2 = true <;> simp [segStep, h1]
theorem fold_len (l : List Pt) : ∀ (k : List Dat × Option Pt), (l.foldl segStep k).1.length ≤ k.1.length + l.length := by
  induction l with
  | nil => exact fun k => Nat.le_refl _
  | cons r l ih =>
    intro k
    have h1 := ih (segStep k r)
    have h2 := step_len k r
    simp only [List.foldl_cons, List.length_cons] at h1 ⊢
    omega
theorem segs_len (q : Pt) (c : List Pt) : (segs q c).length ≤ c.length + 4 := by
  have h1 := fold_len (begPts q c) ([moveD (begD q c)], none)
  have h2 : (begPts q c).length = c.length + 1 := by unfold begPts; split <;> simp
  unfold segs segEnd
  generalize (begPts q c).foldl segStep ([moveD (begD q c)], none) = z at h1
  obtain ⟨f, o⟩ := z
  rcases o with _ | o <;> simp at h1 ⊢ <;> omega
theorem segsAll_snoc (cs : List (List Pt)) (l : List Pt) : segsAll (cs ++ [l]) = segsAll cs ++ segsOf l := by simp [segsAll]
section
variable {prog : Program} {w : World} {A : Around} {E : Value → Shared → Prop} {s : Shared} {env : Env} {h₀ : Heap} {x : Str} {body : List Stmt} {Q : Flow → Shared → Prop}
theorem my_for_h {σ : Type} {l D : Addr} {o : Obj} {ds : List Dat} {nw rest : Led} {m₀ : Str → Option Value} (ps : σ → List (Str × Value)) (I : Nat → Led → σ → Prop) (c₀ : Addr → σ)
    (hh : A.handled = none) (F : Fr h₀ env.locals s.heap m₀) (N : News h₀ env.locals s.heap ((D, o) :: rest)) (D1 : DatIn nw (.ref l) (.list ds)) (S : ∀ p ∈ nw, p ∈ rest)
    (hp : ∀ p ∈ ps (c₀ D), m₀ p.1 = some p.2) (hI : I 0 ((D, o) :: nw) (c₀ D))
    (turn : ∀ i c new v d h tk own, ds[i]? = some d → Lo ((D, o) :: rest) new → I i ((D, o) :: (nw ++ new)) c → DatIn ((D, o) :: (nw ++ new)) v d → Apart ((D, o) :: (rest ++ new)) own →
      Fr h₀ env.locals h (fun y => if y = x then some v else ovr m₀ (ps c) y) → News h₀ env.locals h ((D, o) :: (rest ++ (new ++ own))) →
      wpAny (model prog w) A (execs body env) (InvPostG h₀ env.locals (LoopJ (fun _ => []) ps I ((D, o) :: rest) ((D, o) :: nw) x m₀ (i + 1)) own { s with heap := h, toks := tk } Q) E { s with heap := h, toks := tk })
    (done : ∀ c new u h tk, Lo ((D, o) :: rest) new → I ds.length ((D, o) :: (nw ++ new)) c → Fr h₀ env.locals h (fun y => if y = x then u else ovr m₀ (ps c) y) → News h₀ env.locals h ((D, o) :: (rest ++ new)) → Q .next { s with heap := h, toks := tk }) :
    wpAny (model prog w) A (pyIter (.ref l)) (fun it s₂ => LoopAtV prog w A h₀ env x body Q E it s₂) E s :=
  my_for (fun _ => []) ps I (c₀ D) ((D, o) :: rest) ((D, o) :: nw) (List.forall_mem_cons.mpr ⟨.head _, fun p hp => .tail _ (S p hp)⟩) hh F N (fun _ h => h) D1 (fun p hp => .tail _ hp) hp (List.forall_mem_nil _) hI
    (fun i c new v d h tk own a1 a2 _ a4 a5 _ a7 a8 a9 => turn i c new v d h tk own a1 a2 a4 a5 a7 a8 a9) (fun c new u h tk a1 _ a3 a4 a5 => done c new u h tk a1 a3 a4 a5)
end
theorem end_drop {h₀ h : Heap} {L : Addr} {news new : Led} {a : Addr × Obj} (two : Led) (N : News h₀ L h (a :: (two ++ (news ++ new)))) : News h₀ L h (news ++ (a :: new)) := fun p hp => N p (by
  rcases List.mem_append.mp hp with hp | hp
  · exact .tail _ (List.mem_append.mpr (.inr (List.mem_append.mpr (.inl hp))))
  · rcases List.mem_cons.mp hp with rfl | hp
    · exact .head _
    · exact .tail _ (List.mem_append.mpr (.inr (List.mem_append.mpr (.inr hp)))))
section
variable (w : World) (p : Program) (loose : List Str) (mean : ExcName → Option Value) (mg mb : Str → Option Value)
theorem outline_ok (a1 : Addr) : Ct w p loose mean mg mb 112 4 (fun nw vs => vs = [.ref a1]) (fun nw tl r => ∃ x, r = .ref x ∧ IsOut w tl x a1) := by
  unfold Ct
  k_fill
  intro dp un gd cn cs a ccd cl outer A₀ base h₀ L m news nw s vs Q E B F X N T hk hS hR hd hu hret
  obtain rfl := hR
  (refine' call_cls ?k1 ?k2 ?k3 ?k4 ?k5 ?k6 ?_; (case k1 => k_asm); (case k2 => k_asm); (case k3 => k_asm); (case k4 => k_is); (case k5 => k_is); (case k6 => k_is); k_whole; intro x' d' h' F' N' l1 l2; (try k_lt l1); (try k_lt2 l2); (try k_sweep);  walk_at "M enter")
  k_steps
  refine hret _ _ _ _ (by assumption) (by walk_at "M news") ?_ ?_
  · exact lo_cons (allLt_iff.mpr fun p hp => Nat.lt_trans (l1 p hp) l2) (lo_cons (allLt_iff.mpr l1) lo_nil)
  · exact ⟨_, rfl, ⟨_, _, _, _, .head _, .tail _ (.head _)⟩⟩
theorem segof_ok (cs : List (List Pt)) (hcs : cs.length ≤ 5) (hc5 : ∀ l ∈ cs, l.length ≤ 5) : Ct w p loose mean mg mb 151 9 (fun nw vs => ∃ x c, vs = [.ref x] ∧ IsOut w nw x c ∧ DatIn nw (.ref c) (ctrs cs)) (fun nw tl r => DatIn (nw ++ tl) r (.list (segsAll cs))) := by
  refine ct_intro ?_
  k_fill
  intro dp un gd cn cs' a ccd cl outer A₀ base h₀ L m news nw s vs Q E B F X N T hk hS hR hd hu hret
  obtain ⟨x1, c1, rfl, ⟨dx, t1, t2, iv, hm1, hm2⟩, D1⟩ := hR
  have N2 : News h₀ L s.heap ((x1, instObj 112 dx) :: (dx, dictOf [{ hash := PyData.keyHash w.params (Str.ofString "contours"), key := .str (Str.ofString "contours") t1, val := .ref c1 }, { hash := PyData.keyHash w.params (Str.ofString "instructions"), key := .str (Str.ofString "instructions") t2, val := iv }] 2) :: news) := by
    intro p hp
    rcases List.mem_cons.mp hp with rfl | hp
    · exact N _ (hS.out _ hm1)
    · rcases List.mem_cons.mp hp with rfl | hp
      · exact N _ (hS.out _ hm2)
      · exact N _ hp
  clear N
  walk_at "M enter"
  k_steps
  unfold Halt
  (rename Fr _ _ _ _ => lF); (rename News _ _ _ _ => lN)
  refine my_for_h (σ := Value × List Dat) (fun c => [(Str.ofString "found", c.1)]) (AllJ cs) (fun D => (.ref D, [])) rfl lF lN D1 ?S ?hp ?hI ?turn ?done
  case hp => exact List.forall_mem_cons.mpr ⟨rfl, List.forall_mem_nil _⟩
  case hI => exact ⟨DatIn.list (.head _) .nil, rfl, Nat.le_refl _⟩
  case S => walk_at "M sub"
  case' turn =>
    intro i z new v d h tk own hd1 hs hI hD ho2 F1 N1
    obtain ⟨fv, ds⟩ := z
    obtain ⟨hI1, hI2, hI3⟩ := hI
    dsimp only at hI1 hI2 hI3 F1
    simp only [ovr] at F1
    obtain ⟨l, hl, rfl⟩ : ∃ l, cs[i]? = some l ∧ Dat.list (l.map pd) = d := by simpa [List.getElem?_map, Option.map_eq_some_iff] using hd1
    have hlm : l ∈ cs := List.mem_of_getElem? hl
    have hl5 := hc5 l hlm
    obtain ⟨b1, rfl⟩ := dl_ref hD
    obtain ⟨b2, rfl⟩ := dl_ref hI1
    have hT : cs.take (i + 1) = cs.take i ++ [l] := by rw [List.take_add_one, hl]; rfl
    have hi : i < 5 := by have := (List.getElem?_eq_some_iff.mp hl).1; omega
    have hz : ds.length ≤ 1000 := by omega
    rcases l with _ | ⟨q, _ | ⟨r, c⟩⟩
    rotate_left 2
    have hsl := segs_len q (r :: c)
    have hz3 : ds.length + (segs q (r :: c)).length ≤ 1000 := by (simp only [List.length_cons] at hsl hl5); omega
    rotate_right 2
    all_goals (simp only [List.length_cons, List.length_nil] at hl5)
  case' done =>
    intro z new u h tk hs hI F1 N1
    obtain ⟨fv, ds⟩ := z
    obtain ⟨hI1, hI2, hI3⟩ := hI
    dsimp only at hI1 hI2 hI3 F1
    simp only [ovr] at F1
    obtain ⟨b2, rfl⟩ := dl_ref hI1
    rw [List.length_map, List.take_length] at hI2
  all_goals (simp only [List.nil_append, List.cons_append, List.append_assoc] at hs N1)
  all_goals (try dsimp only [envOf] at F1 N1)
  all_goals (try k_fold)
  all_goals k_steps
  · refine hret _ _ _ _ (by assumption) (end_drop [_, _] (by assumption)) ?_ ?_
    · walk_at "M lo"
    · rw [← hI2]; walk_at "M in"
  · refine turn_end0 (Value.ref b2, ds) (Value.ref b2, ds) [] (by assumption) (by assumption) rfl hs (List.forall_mem_nil _) (List.forall_mem_nil _) ho2 ?_ ?_ ⟨?_, ?_, ?_⟩
    · walk_at "M lo"
    · walk_at "M same"
    · walk_at "M in"
    · rw [hT, segsAll_snoc, ← hI2]; simp [segsOf]
    · dsimp only; omega
  · exfalso; (rename (1 : Int) < _ => hlt); simp at hlt
  · refine turn_end0 (Value.ref b2, ds) (Value.ref b2, ds) [] (by assumption) (by assumption) rfl hs (List.forall_mem_nil _) (List.forall_mem_nil _) ho2 ?_ ?_ ⟨?_, ?_, ?_⟩
    · walk_at "M lo"
    · walk_at "M same"
    · walk_at "M in"
    · rw [hT, segsAll_snoc, ← hI2]; simp [segsOf]
    · dsimp only; omega
  · refine turn_end (Value.ref b2, ds) (Value.ref _, ds ++ segs q (r :: c)) [_, _] (by assumption) (by assumption) rfl hs (List.forall_mem_nil _) (List.forall_mem_nil _) ho2 ?_ ?_ ?_ ⟨DatIn.mono ?_ (by assumption), ?_, ?_⟩
    · walk_at "M lo"
    · walk_at "M lo"
    · walk_at "M same"
    · walk_at "M sub"
    · rw [hT, segsAll_snoc, ← hI2]; rfl
    · simp only [List.length_append]; (simp only [List.length_cons] at hsl); omega
  · exfalso; (rename ¬(1 : Int) < _ => hlt); simp at hlt; omega
end
theorem off_q_take : True := by
  w_top off
  k_with "W setItem ref int" => (k_here; k_dflt (refine' ki_set ?F_k ?N_k ?a_k ?b_k ?e_k ?U_k ?_; (case F_k => k_asm); (case N_k => k_asm); (case U_k => walk_at "M upd"); (case a_k => decide); (case b_k => decide); (case e_k => rfl)); (intro h'_k F'_k N'_k; (try dsimp only [List.nil_append, List.cons_append] at N'_k)))
  trivial
/-! ## the source of figures: a list of two numbers that is written in place -/
def SrcO (o : Obj) : Prop := ∃ a b ta tb k, o = PySem.W.listOf [Value.int a ta, Value.int b tb].toArray k ∧ 0 ≤ a ∧ 0 ≤ b ∧ b < 2147483647
/-- a figure that was taken (a word of its own: the walk shall not go through its values) -/
structure Fig (top y : Int) : Prop where
  lo : 0 ≤ y
  hi : y < top
def Cm (w : World) (p : Program) (loose : List Str) (mean : ExcName → Option Value) (mg mb : Str → Option Value) (f : Addr) (n : Nat) (Rel : Addr → List Value → Prop) (Out : Led → Value → Prop) : Prop :=
  ∀ (dp un : Nat) (gd : Option (List Code)) (cn : Str) (cs : Scope) (a : Addr) (ccd : Value) (cl : List (Str × Addr)) (outer : List Env) (A₀ : Around) (base h₀ : Heap) (L : Addr) (m : Str → Option Value) (news : Led) (D : Addr) (o : Obj) (s : Shared) (vs : List Value)
    (Q E : Value → Shared → Prop),
    Below A₀ base outer h₀ → Fr h₀ L s.heap m → (hd.heap_39 w.params).In h₀ → News h₀ L s.heap ((D, o) :: news) → Top p loose mean mg mb h₀ → cs.kind = .function → SrcO o → (∀ p ∈ news, p.1 ≠ D) → Rel D vs → dp + n < recursionLimit → un + 8 * n < cLine →
    (∀ r o' tl h' tk', Fr h₀ L h' m → News h₀ L h' ((D, o') :: (news ++ tl)) → SrcO o' → Lo ((D, o') :: news) tl → Out tl r → Q r { s with heap := h', toks := tk' }) →
    wpAny (model Challenge.rw_on0228_01.row.prog w) (ktrTop dp un gd cn cs L a ccd cl outer) (call (.ref f) vs) Q E s
theorem cm_use {w : World} {p : Program} {loose : List Str} {mean : ExcName → Option Value} {mg mb : Str → Option Value} {f : Addr} {n : Nat} {Rel : Addr → List Value → Prop} {Out : Led → Value → Prop}
    {dp un : Nat} {gd : Option (List Code)} {cn : Str} {cs : Scope} {a : Addr} {ccd : Value} {cl : List (Str × Addr)} {outer : List Env} {A₀ : Around} {base h₀ : Heap} {L : Addr} {m : Str → Option Value} {news : Led} {D : Addr} {o : Obj} {hp : Heap} {g : Array GenState} {dr : Drawn} {tk0 : Nat} {os : OsState} {vs : List Value}
    {Q E : Value → Shared → Prop} (C : Cm w p loose mean mg mb f n Rel Out) (B : Below A₀ base outer h₀) (F : Fr h₀ L hp m) (X : (hd.heap_39 w.params).In h₀) (N : News h₀ L hp ((D, o) :: news)) (T : Top p loose mean mg mb h₀) (hk : cs.kind = .function) (hO : SrcO o) (S : ∀ p ∈ news, p.1 ≠ D) (R : Rel D vs)
    (hd : dp + n < recursionLimit) (hu : un + 8 * n < cLine)
    (ret : ∀ r o' tl h' tk', Fr h₀ L h' m → News h₀ L h' ((D, o') :: (news ++ tl)) → SrcO o' → Lo ((D, o') :: news) tl → Out tl r → Q r ⟨h', g, dr, tk', os⟩) :
    wpAny (model Challenge.rw_on0228_01.row.prog w) (ktrTop dp un gd cn cs L a ccd cl outer) (call (.ref f) vs) Q E ⟨hp, g, dr, tk0, os⟩ :=
  C _ _ _ _ _ _ _ _ _ _ _ _ _ _ _ _ _ _ _ _ _ B F X N T hk hO S R hd hu ret
theorem cm_intro {w : World} {p : Program} {loose : List Str} {mean : ExcName → Option Value} {mg mb : Str → Option Value} {f : Addr} {n : Nat} {Rel : Addr → List Value → Prop} {Out : Led → Value → Prop}
    (h : ∀ (dp un : Nat) (gd : Option (List Code)) (cn : Str) (cs : Scope) (a : Addr) (ccd : Value) (cl : List (Str × Addr)) (outer : List Env) (A₀ : Around) (base h₀ : Heap) (L : Addr) (m : Str → Option Value) (news : Led) (D : Addr) (o : Obj) (s : Shared) (vs : List Value)
    (Q E : Value → Shared → Prop),
    Below A₀ base outer h₀ → Fr h₀ L s.heap m → (hd.heap_39 w.params).In h₀ → News h₀ L s.heap ((D, o) :: news) → Top p loose mean mg mb h₀ → cs.kind = .function → SrcO o → (∀ p ∈ news, p.1 ≠ D) → Rel D vs → dp + n < recursionLimit → un + 8 * n < cLine →
    (∀ r o' tl h' tk', Fr h₀ L h' m → News h₀ L h' ((D, o') :: (news ++ tl)) → SrcO o' → Lo ((D, o') :: news) tl → Out tl r → Q r { s with heap := h', toks := tk' }) →
    codeAny (model Challenge.rw_on0228_01.row.prog w) (ktrTop dp un gd cn cs L a ccd cl outer) (.call (.ref f) ⟨vs, []⟩) (fun r s' => match r with | .ok (.ret v) => Q v s' | .ok _ => False | .error e => E e s') s) : Cm w p loose mean mg mb f n Rel Out := by
  intro dp un gd cn cs a ccd cl outer A₀ base h₀ L m news D o s vs Q E B F X N T hk hO hS hR hd hu hret
  exact wpAny_call (h dp un gd cn cs a ccd cl outer A₀ base h₀ L m news D o s vs Q E B F X N T hk hO hS hR hd hu hret)
theorem news_swap {h₀ h : Heap} {L : Addr} {news : Led} {x y : Addr × Obj} (N : News h₀ L h (x :: y :: news)) : News h₀ L h (y :: x :: news) := fun p hp => N p (by
  rcases List.mem_cons.mp hp with rfl | hp
  · exact .tail _ (.head _)
  · rcases List.mem_cons.mp hp with rfl | hp
    · exact .head _
    · exact .tail _ (.tail _ hp))
theorem nil_app {h₀ h : Heap} {L : Addr} {news : Led} {x : Addr × Obj} (N : News h₀ L h (x :: news)) : News h₀ L h (x :: (news ++ [])) := by rw [List.append_nil]; exact N
theorem src_mul (x : Int) : IntMulOk (x.fmod 2147483647) (x.fmod 2147483647) := by
  have h1 := Int.fmod_nonneg_of_pos x (b := 2147483647) (by decide)
  have h2 := Int.fmod_lt_of_pos x (b := 2147483647) (by decide)
  exact IntMulOk.of_left (intBits_le_64 (by omega) (by omega))
theorem row_q_take1 : True := by
  k_with "W binaryOp Mult int int" => (k_here; refine mul_int (hm := src_mul _) ?_)
  trivial
section
variable (w : World) (p : Program) (loose : List Str) (mean : ExcName → Option Value) (mg mb : Str → Option Value)
theorem take_ok (top : Int) (ht1 : 1 ≤ top) (ht2 : top ≤ 100) : Cm w p loose mean mg mb 165 3 (fun D vs => ∃ t, vs = [.ref D, .int top t]) (fun tl r => tl = [] ∧ ∃ y t, r = .int y t ∧ Fig top y) := by
  refine cm_intro ?_
  k_fill
  intro dp un gd cn cs a ccd cl outer A₀ base h₀ L m news D o s vs Q E B F X N T hk hO hS hR hd hu hret
  obtain ⟨v0, v1, ta, tb, kk, rfl, hv0, hv1, hv2⟩ := hO
  obtain ⟨tt, rfl⟩ := hR
  walk_at "M enter"
  k_steps
  · refine hret _ _ [] _ _ (by assumption) (nil_app (by assumption)) ⟨_, _, _, _, _, rfl, ?_, hv1, hv2⟩ lo_nil ⟨rfl, _, _, rfl, ⟨Int.fmod_nonneg_of_pos _ (by omega), Int.fmod_lt_of_pos _ (by omega)⟩⟩
    exact Int.fdiv_nonneg hv0 (by omega)
  · refine hret _ _ [] _ _ (by assumption) (nil_app (by assumption)) ⟨_, _, _, _, _, rfl, hv0, ?_, ?_⟩ lo_nil ⟨rfl, _, _, rfl, ⟨Int.fmod_nonneg_of_pos _ (by omega), Int.fmod_lt_of_pos _ (by omega)⟩⟩
    · exact Int.fmod_nonneg_of_pos _ (by decide)
    · exact Int.fmod_lt_of_pos _ (by decide)
end
theorem off_r_cont : True := by
  w_top off
  k_with "W call ref" => ((with_reducible show wpAny _ _ (call (Value.ref 165) _) _ _ _); k_dflt (refine' cm_use (take_ok _ _ _ _ _ _ _ ?kt1_k ?kt2_k) ?k1_k ?k2_k ?k3_k ?k4_k ?k5_k ?kK_k ?kO_k ?kS_k ⟨_, rfl⟩ ?kd_k ?ku_k ?_; (case k1_k => k_asm); (case k2_k => k_asm); (case k3_k => k_asm); (case k4_k => first | assumption | exact news_swap (by assumption) | fail "M take"); (case k5_k => k_asm); (case kK_k => first | exact rfl | assumption); (case kd_k => first | omega | (simp only [recursionLimit, cLine] at *; omega)); (case ku_k => first | omega | (simp only [recursionLimit, cLine] at *; omega)); (case kt1_k => decide); (case kt2_k => decide); (case kO_k => assumption); (case kS_k => walk_at "M ne"); intro r9_k o9_k tl9_k h9_k tk9_k F9_k N9_k hO9_k hl9_k ho9_k; (obtain ⟨hv9_k, _, _, hv8_k, hv7_k⟩ := ho9_k); subst hv9_k; subst hv8_k; (simp only [List.append_nil] at N9_k); (try dsimp only); (try k_fold)))
  trivial
/-! ## _law_contour -/
def MutS (D lf : Addr) (c : Obj × List Value × Nat × List Pt) : Led := [(D, c.1), (lf, PySem.W.listOf c.2.1.toArray c.2.2.1)]
def InvS (lf : Addr) (i : Nat) (tl : Led) (c : Obj × List Value × Nat × List Pt) : Prop :=
  SrcO c.1 ∧ DatAll tl c.2.1 (c.2.2.2.map pd) ∧ c.2.2.2.length = i ∧ c.2.1.length = i ∧ ∀ p ∈ tl, @LT.lt Nat _ lf p.1
abbrev LoopS (D lf : Addr) (news : Led) (x : Str) (m₀ : Str → Option Value) (i : Nat) (m : Str → Option Value) (nx : Led) : Prop :=
  LoopJ (MutS D lf) (fun _ => []) (InvS lf) news [] x m₀ i m nx
section
variable {prog : Program} {w : World} {A : Around} {E : Value → Shared → Prop} {s : Shared} {env : Env} {h₀ : Heap} {x : Str} {body : List Stmt} {Q : Flow → Shared → Prop}
theorem range_src {r lf D : Addr} {o : Obj} {z : Int} {t₀ u₀ v₀ : Tok} {news : Led} {m₀ : Str → Option Value}
    (hh : A.handled = none) (hr : IsRange s.heap r 0 z 1 t₀ u₀ v₀) (hz : Fig 6 z) (F : Fr h₀ env.locals s.heap m₀) (N : News h₀ env.locals s.heap ((D, o) :: (lf, PySem.W.listOf #[] 0) :: news)) (hO : SrcO o) (hD : ∀ p ∈ news, p.1 ≠ D) (hl : D < lf ∧ AllLt lf news)
    (turn : ∀ i o vs n (pts : List Pt) new t h tk own, i < 6 → SrcO o → DatAll new vs (pts.map pd) → pts.length = i → vs.length = i → (∀ p ∈ new, @LT.lt Nat _ lf p.1) → Lo news new → (∀ p ∈ new, p.1 ≠ D) → (∀ p ∈ new, p.1 ≠ lf) → (∀ p ∈ own, p.1 ≠ D) → (∀ p ∈ own, p.1 ≠ lf) → (∀ p ∈ news, p.1 ≠ lf) → @Ne Nat lf D → @Ne Nat D lf →
      Apart (MutS D lf (o, vs, n, pts)) (news ++ new) → Apart (MutS D lf (o, vs, n, pts)) own → Apart (news ++ new) own →
      Fr h₀ env.locals h (fun y => if y = x then some (.int (i : Int) t) else m₀ y) → News h₀ env.locals h ((D, o) :: (lf, PySem.W.listOf vs.toArray n) :: (news ++ (new ++ own))) →
      wpAny (model prog w) A (execs body env) (InvPostG h₀ env.locals (LoopS D lf news x m₀ (i + 1)) own { s with heap := h, toks := tk } Q) E { s with heap := h, toks := tk })
    (done : ∀ o vs n (pts : List Pt) new u h tk, SrcO o → DatAll new vs (pts.map pd) → pts.length ≤ 5 → (∀ p ∈ new, @LT.lt Nat _ lf p.1) → Lo news new → Fr h₀ env.locals h (fun y => if y = x then u else m₀ y) → News h₀ env.locals h ((D, o) :: (lf, PySem.W.listOf vs.toArray n) :: (news ++ new)) → Q .next { s with heap := h, toks := tk }) :
    wpAny (model prog w) A (pyIter (.ref r)) (fun it s₂ => LoopAtV prog w A h₀ env x body Q E it s₂) E s := by
  have hz1 := hz.lo
  have hz2 := hz.hi
  have hlN : @LT.lt Nat _ D lf := hl.1
  have hL : ∀ p ∈ news, p.1 ≠ lf := fun p hp => Nat.ne_of_lt (allLt_iff.mp hl.2 p hp)
  refine my_range z.toNat (MutS D lf) (fun _ => []) (InvS lf) (o, [], 0, []) news [] (fun _ h => nomatch h) hh hr (by omega) (by omega) F N (fun _ h => h) (List.forall_mem_nil _) ?_ ⟨hO, DatAll.nil, rfl, rfl, fun _ h => nomatch h⟩ ?_ ?_
  · intro q hq p hp
    rcases List.mem_cons.mp hq with rfl | hq
    · exact hD p hp
    · rcases List.mem_singleton.mp hq with rfl
      exact hL p hp
  · rintro i ⟨o, vs, n, pts⟩ new t h tk own hi hlo hap ⟨i1, i2, i3, i4, i5⟩ ho1 ho2 F₁ N₁
    exact turn i o vs n pts new t h tk own (by omega) i1 i2 i3 i4 i5 hlo (fun p hp => hap _ (.head _) p (List.mem_append.mpr (.inr hp))) (fun p hp => hap _ (.tail _ (.head _)) p (List.mem_append.mpr (.inr hp))) (ho1 _ (.head _)) (ho1 _ (.tail _ (.head _))) hL (Nat.ne_of_gt hlN) (Nat.ne_of_lt hlN) hap ho1 ho2 F₁ N₁
  · rintro ⟨o, vs, n, pts⟩ new u h tk hlo hap ⟨i1, i2, i3, i4, i5⟩ F₁ N₁
    exact done o vs n pts new u h tk i1 i2 (by dsimp only at i3; omega) i5 hlo F₁ N₁
end
theorem all_snoc {tl : Led} {vs : List Value} {v : Value} {pts : List Pt} {r : Pt} (h : DatAll tl vs (pts.map pd)) (k : DatIn tl v (pd r)) : DatAll tl (vs ++ [v]) ((pts ++ [r]).map pd) := by
  rw [List.map_append]
  exact h.append (.cons k .nil)
theorem two_ends {h₀ h : Heap} {L : Addr} {news new : Led} {x y : Addr × Obj} (N : News h₀ L h (x :: y :: (news ++ new))) : News h₀ L h (x :: (news ++ (y :: new))) := fun p hp => N p (by
  simp only [List.mem_cons, List.mem_append] at hp ⊢
  rcases hp with h | h | h | h
  · exact .inl h
  · exact .inr (.inr (.inl h))
  · exact .inr (.inl h)
  · exact .inr (.inr (.inr h)))
section
variable (w : World) (p : Program) (loose : List Str) (mean : ExcName → Option Value) (mg mb : Str → Option Value)
theorem cont_ok : Cm w p loose mean mg mb 179 5 (fun D vs => vs = [.ref D]) (fun tl r => ∃ c : List Pt, c.length ≤ 5 ∧ DatIn tl r (.list (c.map pd))) := by
  refine cm_intro ?_
  k_fill
  intro dp un gd cn cs a ccd cl outer A₀ base h₀ L m news D o s vs Q E B F X N T hk hO hS hR hd hu hret
  obtain rfl := hR
  walk_at "M enter"
  k_steps
  unfold Halt
  (rename Fr _ _ _ _ => lF); (rename News _ _ _ _ => lN); (rename IsRange _ _ _ _ _ _ _ _ => lR)
  (rename D < _ ∧ AllLt _ news => lL)
  refine range_src rfl lR (by assumption) lF lN (by assumption) hS lL ?turn ?done
  case' turn =>
    intro i o1 vs n pts new t h tk own hi hO1 hI1 hI2 hI3 hgt hlo ha1 ha2 ha3 ha4 ha5 hn1 hn2 hap1 hap2 hap3 F1 N1
    have hz : vs.length ≤ 1000 := by omega
  case' done =>
    intro o1 vs n pts new u h tk hO1 hI1 hI2 hgt hlo F1 N1
  all_goals (try dsimp only [envOf] at F1 N1)
  all_goals (try k_fold)
  all_goals k_steps
  · refine hret _ _ ((_, _) :: new) _ _ (by assumption) (two_ends (by assumption)) hO1 ?_ ⟨pts, hI2, DatIn.list (.head _) (hI1.mono fun p hp => .tail _ hp)⟩
    refine lo_cons lL (fun q hq p hp => ?_)
    rcases List.mem_cons.mp hq with rfl | hq
    · exact Nat.lt_trans lL.1 (hgt p hp)
    · exact hlo q hq p hp
  · (rename D < _ ∧ _ ∧ AllLt _ (news ++ (new ++ own)) => l9)
    refine turn_end0 (o1, vs, n, pts) (_, _, _, pts ++ [(_, _, _)]) [_] (by assumption) (by assumption) (by rfl) hlo hap1 hap2 hap3 ?_ ?_ ⟨by assumption, all_snoc (hI1.mono ?_) (DatIn.tuple (.head _) (.cons (.int _ _) (.cons (.int _ _) (.cons (.bool _) .nil)))), ?_, ?_, ?_⟩
    · exact lo_cons l9 lo_nil
    · intro y hy; simp only [ovr, hy, if_false]
    · exact fun p hp => .tail _ hp
    · simp [hI2]
    · simp [hI3]
    · exact List.forall_mem_cons.mpr ⟨l9.2.1, hgt⟩
end
/-! ## an if without else that turns one int name: its two ways meet -/
inductive JMarkC : Str → Prop
  | mk (nm : Str) : JMarkC nm
def CEnd (h₀ : Heap) (L : Addr) (m : Str → Option Value) (news : Led) (nm : Str) (s : Shared) (f : Flow) (s' : Shared) : Prop :=
  ∃ c t h' tk', f = .next ∧ s' = { s with heap := h', toks := tk' } ∧ Fr h₀ L h' (upd nm (.int c t) m) ∧ News h₀ L h' news
theorem upd_same {m : Str → Option Value} {nm : Str} {v : Value} (h : m nm = some v) : upd nm v m = m := by
  funext y
  unfold upd
  by_cases e : y = nm
  · rw [if_pos e, e, h]
  · rw [if_neg e]
section
variable {prog : Program} {w : World} {A : Around} {E : Value → Shared → Prop} {env : Env} {h₀ : Heap} {L : Addr} {m : Str → Option Value} {news : Led} {hp : Heap} {g : Array GenState} {dr : Drawn} {tk0 : Nat} {os : OsState} {st : Stmt} {nm : Str} {Q : Flow → Shared → Prop}
theorem join_cell (_ : JMarkC nm) (_ : Fr h₀ L hp m) (_ : News h₀ L hp news) (h1 : wpAny (model prog w) A (exec st env) (CEnd h₀ L m news nm ⟨hp, g, dr, tk0, os⟩) E ⟨hp, g, dr, tk0, os⟩)
    (h2 : ∀ c t h' tk', Fr h₀ L h' (upd nm (.int c t) m) → News h₀ L h' news → Q .next ⟨h', g, dr, tk', os⟩) : wpAny (model prog w) A (exec st env) Q E ⟨hp, g, dr, tk0, os⟩ := by
  refine wpAny_mono h1 (fun v s' h => ?_) fun _ _ e => e
  obtain ⟨c, t, h', tk', rfl, rfl, F, N⟩ := h
  exact h2 c t h' tk' F N
theorem CEnd.set {c : Int} {t : Tok} {h' : Heap} {tk' : Nat} (F : Fr h₀ L h' (upd nm (.int c t) m)) (N : News h₀ L h' news) : CEnd h₀ L m news nm ⟨hp, g, dr, tk0, os⟩ .next ⟨h', g, dr, tk', os⟩ := ⟨c, t, h', tk', rfl, rfl, F, N⟩
theorem CEnd.keep {c : Int} {t : Tok} {h' : Heap} {tk' : Nat} (e : m nm = some (.int c t)) (F : Fr h₀ L h' m) (N : News h₀ L h' news) : CEnd h₀ L m news nm ⟨hp, g, dr, tk0, os⟩ .next ⟨h', g, dr, tk', os⟩ := ⟨c, t, h', tk', rfl, rfl, (upd_same e).symm ▸ F, N⟩
end
theorem off_s_pool : True := by
  w_top off
  k_with "W exec If" => ((rename JMarkC _ => jm9_k); ((refine join_cell jm9_k (by k_asm) (by k_asm) ?_ (fun _ _ h9_k tk9_k F9_k N9_k => ?_)) <;> ((clear jm9_k); (try k_fold))))
  trivial
/-! ## _law_pool -/
section
variable (w : World) (p : Program) (loose : List Str) (mean : ExcName → Option Value) (mg mb : Str → Option Value)
theorem pool_ok {ns : List Int} {ws : List Value} {sa : Addr} (hI : IntsAre ws ns) (hlen : ns.length ≤ 63) (k : Int) (h01 : k = 0 ∨ k = 1) (tk0 : Tok)
    (dp un : Nat) (gd : Option (List Code)) (cn : Str) (cs : Scope) (a : Addr) (ccd : Value) (cl : List (Str × Addr)) (outer : List Env) (A₀ : Around) (base h₀ : Heap) (L : Addr) (m : Str → Option Value) (news : Led) (s : Shared)
    (Q E : Value → Shared → Prop) (B : Below A₀ base outer h₀) (F : Fr h₀ L s.heap m) (X : (hd.heap_39 w.params).In h₀) (N : News h₀ L s.heap news) (T : Top p loose mean mg mb h₀) (hk : cs.kind = .function) (hL : h₀.IsList sa ws.toArray) (hd : dp + 4 < recursionLimit) (hu : un + 8 * 4 < cLine)
    (hret : ∀ D o h' tk', Fr h₀ L h' m → News h₀ L h' ((D, o) :: news) → SrcO o → AllLt D news → Q (.ref D) { s with heap := h', toks := tk' }) :
    codeAny (model Challenge.rw_on0228_01.row.prog w) (ktrTop dp un gd cn cs L a ccd cl outer) (.call (.ref 158) ⟨[.ref sa, .int k tk0], []⟩) (fun r s' => match r with | .ok (.ret v) => Q v s' | .ok _ => False | .error e => E e s') s := by
  revert B F X N T hk hL hd hu hret
  k_fill
  intro B F X N T hk hL hd hu hret
  walk_at "M enter"
  (rename Fr h₀ L _ m => FG9)
  obtain ⟨oL, eL1, eL2⟩ := hL
  have hL2 : Heap.IsList _ sa ws.toArray := ⟨oL, FG9.keep _ _ eL1, eL2⟩
  have hjm := JMarkC.mk (Str.ofString "cell")
  rcases h01 with rfl | rfl
  all_goals k_steps
  all_goals first
    | exact CEnd.set (by assumption) (by assumption)
    | exact CEnd.keep rfl (by assumption) (by assumption)
    | skip
  all_goals refine hret _ _ _ _ (by assumption) (by assumption) ⟨_, _, _, _, _, rfl, ?_, ?_, ?_⟩ (allLt_iff.mpr (by assumption))
  all_goals first
    | exact Int.fmod_nonneg_of_pos _ (by decide)
    | exact Int.fmod_lt_of_pos _ (by decide)
    | (refine Int.mul_nonneg ?_ ?_ <;> split <;> omega)
end
theorem off_t_loop : True := by
  w_top off
  trivial
/-! ## law's own loop: what stays is one cell -/
section
variable {prog : Program} {w : World} {A : Around} {E : Value → Shared → Prop} {s : Shared} {env : Env} {h₀ : Heap} {x : Str} {body : List Stmt} {Q : Flow → Shared → Prop}
/-- what a turn keeps: the script's name, the cell -/
def KeepJ (sc : Str) (sv : Value) (cell : Addr) (m : Str → Option Value) (nx : Led) : Prop := m sc = some sv ∧ ∃ o v, nx = [(cell, o)] ∧ o.data = .cell v
theorem range_cell {r cell : Addr} {o : Obj} {z : Int} {t₀ u₀ v₀ : Tok} {v : Option Value} {m₀ : Str → Option Value} {sc : Str} {sv : Value}
    (hh : A.handled = none) (hr : IsRange s.heap r 0 z 1 t₀ u₀ v₀) (hz : 0 ≤ z ∧ z ≤ 2) (F : Fr h₀ env.locals s.heap m₀) (N : News h₀ env.locals s.heap [(cell, o)]) (ho : o.data = .cell v) (hm : m₀ sc = some sv) (hx : sc ≠ x)
    (turn : ∀ (i : Nat) (m : Str → Option Value) o v t h tk own, (i : Int) = 0 ∨ (i : Int) = 1 → m sc = some sv → o.data = .cell v → (∀ p ∈ own, p.1 ≠ cell) →
      Fr h₀ env.locals h (fun y => if y = x then some (.int (i : Int) t) else if y = sc then some sv else m y) → News h₀ env.locals h ((cell, o) :: own) →
      wpAny (model prog w) A (execs body env) (InvPostG h₀ env.locals (KeepJ sc sv cell) own { s with heap := h, toks := tk } Q) E { s with heap := h, toks := tk })
    (done : ∀ (m : Str → Option Value) o v h tk, m sc = some sv → o.data = .cell v → Fr h₀ env.locals h (fun y => if y = sc then some sv else m y) → News h₀ env.locals h [(cell, o)] → Q .next { s with heap := h, toks := tk }) :
    wpAny (model prog w) A (pyIter (.ref r)) (fun it s₂ => LoopAtV prog w A h₀ env x body Q E it s₂) E s := by
  obtain ⟨hz1, hz2⟩ := hz
  have same : ∀ m : Str → Option Value, m sc = some sv → m = fun y => if y = sc then some sv else m y := fun m e => by
    funext y
    by_cases hy : y = sc
    · rw [if_pos hy, hy, e]
    · rw [if_neg hy]
  obtain ⟨n, rfl⟩ := Int.eq_ofNat_of_zero_le hz1
  refine rng_loop (fun _ => KeepJ sc sv cell) hh hr (by omega) F N ⟨hm, o, v, rfl, ho⟩ ?_ ?_
  · rintro i t m nx h tk own hi ⟨hm', o', v', rfl, ho'⟩ hoff F₁ N₁
    rw [same m hm'] at F₁
    exact turn i m o' v' t h tk own (by omega) hm' ho' (fun p hp => hoff p hp _ (.head _)) F₁ N₁
  · rintro m nx h tk ⟨hm', o', v', rfl, ho'⟩ F₁ N₁
    rw [same m hm'] at F₁
    exact done m o' v' h tk hm' ho' F₁ N₁
end
section
variable (w : World) (p : Program) (loose : List Str) (mean : ExcName → Option Value) (mg mb : Str → Option Value)
theorem pool_use {ns : List Int} {ws : List Value} {sa : Addr} (hI : IntsAre ws ns) (hlen : ns.length ≤ 63) (k : Int) (h01 : k = 0 ∨ k = 1) (tk0 : Tok)
    (dp un : Nat) (gd : Option (List Code)) (cn : Str) (cs : Scope) (a : Addr) (ccd : Value) (cl : List (Str × Addr)) (outer : List Env) (A₀ : Around) (base h₀ : Heap) (L : Addr) (m : Str → Option Value) (news : Led) (s : Shared)
    (Q E : Value → Shared → Prop) (B : Below A₀ base outer h₀) (F : Fr h₀ L s.heap m) (X : (hd.heap_39 w.params).In h₀) (N : News h₀ L s.heap news) (T : Top p loose mean mg mb h₀) (hk : cs.kind = .function) (hL : h₀.IsList sa ws.toArray) (hd : dp + 4 < recursionLimit) (hu : un + 8 * 4 < cLine)
    (hret : ∀ D o h' tk', Fr h₀ L h' m → News h₀ L h' ((D, o) :: news) → SrcO o → (∀ p ∈ news, p.1 < D) → Q (.ref D) { s with heap := h', toks := tk' }) :
    wpAny (model Challenge.rw_on0228_01.row.prog w) (ktrTop dp un gd cn cs L a ccd cl outer) (call (.ref 158) [.ref sa, .int k tk0]) Q E s :=
  wpAny_call (pool_ok w p loose mean mg mb hI hlen k h01 tk0 dp un gd cn cs a ccd cl outer A₀ base h₀ L m news s Q E B F X N T hk hL hd hu fun D o h' tk' a1 a2 a3 a4 => hret D o h' tk' a1 a2 a3 (allLt_iff.mp a4))
end
section
variable {prog : Program} {w : World} {A : Around} {E : Value → Shared → Prop} {s : Shared} {env : Env} {Q : Flow → Shared → Prop} {h₀ : Heap} {L : Addr} {m : Str → Option Value}
theorem AL_halt {elt : PySem.Expr} {gens : List Comprehension} {scope : Scope} {pos spos : Pos} {y : Str} {py : Pos} (F : Fr h₀ L s.heap m) (h : Halt (wpAny (model prog w) A (exec (.Assign [.Name y py] (.ListComp elt gens scope pos) spos) env) Q E s)) : wpAny (model prog w) A (exec (.Assign [.Name y py] (.ListComp elt gens scope pos) spos) env) Q E s := h
end
theorem off_t_src : True := by
  w_top off
  trivial
/-! ## the comprehension that draws the contours -/
def IterSrc (h₀ : Heap) (L : Addr) (s : Shared) (m : Str → Option Value) (D : Addr) (rest : Led) (xv : Value) (s₁ : Shared) : Prop :=
  ∃ r z t u v o h tk, xv = .ref r ∧ s₁ = { s with heap := h, toks := tk } ∧ Fr h₀ L h m ∧ News h₀ L h ((D, o) :: rest) ∧ SrcO o ∧ IsRange h r 0 z 1 t u v ∧ Fig 4 z
def ElS (h₀ : Heap) (L : Addr) (s : Shared) (m : Str → Option Value) (D : Addr) (Z : Led) (y : Value) (s₂ : Shared) : Prop :=
  ∃ o' tl h' tk' c, s₂ = { s with heap := h', toks := tk' } ∧ Fr h₀ L h' m ∧ News h₀ L h' ((D, o') :: (Z ++ tl)) ∧ SrcO o' ∧ Lo ((D, o') :: Z) tl ∧ List.length c ≤ 5 ∧ DatIn tl y (.list (c.map pd))
def ctr (l : List Pt) : Dat := .list (l.map pd)
section
open PySem.Calls PyProof.Rows.LCg
variable {prog : Program} {w : World} {A : Around} {E : Value → Shared → Prop} {s : Shared} {h₀ : Heap} {L : Addr} {m : Str → Option Value} {env : Env}
theorem rest_src {elt : PySem.Expr} {x : Str} {scope : Scope} {cl : List (Str × Addr)} {D : Addr} {rest : Led} {P : Nat → Value → Prop} {Fin : List Value → Led → Prop} {n : Nat}
    (hD : ∀ p ∈ rest, p.1 ≠ D)
    (el : ∀ I C Dl oI oC m₂ ys (made : Led) o h tk (E' : Value → Shared → Prop), NsObj oC m₂ → SrcO o → Fr h₀ L h m → News h₀ L h ((D, o) :: (I, oI) :: (C, oC) :: (Dl, lst ys) :: (made ++ rest)) → (∀ p ∈ (I, oI) :: (C, oC) :: (Dl, lst ys) :: (made ++ rest), p.1 ≠ D) →
      wpAny (model prog w) A (eval elt (compEnvC scope cl C env)) (ElS h₀ L s m D ((I, oI) :: (C, oC) :: (Dl, lst ys) :: (made ++ rest))) E' { s with heap := h, toks := tk })
    (fin : ∀ ys o (made : Led) cs, SrcO o → (∀ p ∈ made, p.1 ≠ D) → DatAll made ys (List.map ctr cs) → cs.length = n → (∀ l ∈ cs, l.length ≤ 5) → Fin ys ((D, o) :: (made ++ rest))) :
    ∀ (j i : Nat) ys o (made : Led) cs, i + j = n → SrcO o → (∀ p ∈ made, p.1 ≠ D) → DatAll made ys (List.map ctr cs) → cs.length = i → (∀ l ∈ cs, l.length ≤ 5) →
      CompRest prog w A h₀ L m env elt x scope cl s (fun _ => True) P Fin j i ys ((D, o) :: (made ++ rest)) := by
  intro j
  induction j with
  | zero => intro i ys o made cs hi hO hm hd hc h5; exact CompRest.zero (fin ys o made cs hO hm hd (by omega) h5)
  | succ j ih =>
    intro i ys o made cs hi hO hm hd hc h5
    refine CompRest.succ ?_
    intro v I oI C oC Dl m₂ h tk E' hv hC hx F N off ne
    have off3 := off.mem
    have hap : ∀ p ∈ (I, oI) :: (C, oC) :: (Dl, lst ys) :: (made ++ rest), p.1 ≠ D := by
      have z := off3 (D, o) (.head _)
      intro p hp
      rcases List.mem_cons.mp hp with rfl | hp
      · exact Ne.symm z.1
      · rcases List.mem_cons.mp hp with rfl | hp
        · exact Ne.symm z.2.1
        · rcases List.mem_cons.mp hp with rfl | hp
          · exact Ne.symm z.2.2
          · rcases List.mem_append.mp hp with hp | hp
            · exact hm p hp
            · exact hD p hp
    refine wpAny_mono (el I C Dl oI oC m₂ ys made o h tk E' hC hO F (fun p hp => N p ?_) hap) (fun y s₃ h₃ => ?_) fun _ _ e => e
    · simp only [List.mem_cons] at hp ⊢
      rcases hp with h | h | h | h | h
      · exact .inr (.inr (.inr (.inl h)))
      · exact .inl h
      · exact .inr (.inl h)
      · exact .inr (.inr (.inl h))
      · exact .inr (.inr (.inr (.inr h)))
    · obtain ⟨o', tl, h', tk', c, rfl, F', N', hO', hlo, hc5, hdc⟩ := h₃
      refine CompEnd.intro F' N' ((D, o') :: ((tl ++ made) ++ rest)) ?_ (Off3.of ?_) trivial (ih (i + 1) (ys ++ [y]) o' (tl ++ made) (cs ++ [c]) (by omega) hO' ?_ ?_ (by simp [hc]) ?_)
      · intro p hp
        simp only [List.mem_cons, List.mem_append] at hp ⊢
        rcases hp with h | h | h | h | (h | h) | h
        · exact .inr (.inl (.inl h))
        · exact .inr (.inl (.inr (.inl h)))
        · exact .inr (.inl (.inr (.inr (.inl h))))
        · exact .inl h
        · exact .inr (.inr h)
        · exact .inr (.inl (.inr (.inr (.inr (.inl h)))))
        · exact .inr (.inl (.inr (.inr (.inr (.inr h)))))
      · intro p hp
        rcases List.mem_cons.mp hp with rfl | hp
        · exact off3 (D, o) (.head _)
        · rcases List.mem_append.mp hp with hp | hp
          · rcases List.mem_append.mp hp with hp | hp
            · exact ⟨(Nat.ne_of_lt (hlo (I, oI) (.tail _ (.head _)) p hp)).symm, (Nat.ne_of_lt (hlo (C, oC) (.tail _ (.tail _ (.head _))) p hp)).symm, (Nat.ne_of_lt (hlo (Dl, lst ys) (.tail _ (.tail _ (.tail _ (.head _)))) p hp)).symm⟩
            · exact off3 p (.tail _ (List.mem_append.mpr (.inl hp)))
          · exact off3 p (.tail _ (List.mem_append.mpr (.inr hp)))
      · intro p hp
        rcases List.mem_append.mp hp with hp | hp
        · exact (Nat.ne_of_lt (hlo (D, o') (.head _) p hp)).symm
        · exact hm p hp
      · rw [List.map_append]
        exact (hd.mono fun p hp => List.mem_append.mpr (.inr hp)).append (.cons (hdc.mono fun p hp => List.mem_append.mpr (.inl hp)) .nil)
      · intro l hl
        rcases List.mem_append.mp hl with hl | hl
        · exact h5 l hl
        · rw [List.mem_singleton.mp hl]; exact hc5
theorem comp_src {elt iter : PySem.Expr} {x y : Str} {px py : Pos} {scope : Scope} {cl : List (Str × Addr)} {pos spos : Pos} {Q : Flow → Shared → Prop} {D : Addr} {o₀ : Obj} {rest : Led} (F₀ : Fr h₀ L s.heap m) (N₀ : News h₀ L s.heap ((D, o₀) :: rest)) (hLe : env.locals = L) (hh : A.handled = none)
    (hsw : swapsWith (.ListComp elt [⟨.Name x px, iter, [], 0⟩] scope pos) (some (.Name y py)) spos.line env = pure true)
    (hclos : closureFor scope env = pure cl) (hcell : ∀ z ∈ scope.names, z.2 ≠ .cell) (hkind : scope.kind = .function)
    (hnames : ∀ z ∈ scope.names, z.2 = .local → scope.names.lookup z.1 = some .local) (hx : scope.names.lookup x = some .local)
    (hy : env.kindOf y = some .local) (hp : (env.scope.kind == .class || (env.scope.kind == .module && env.locals != env.globals)) = false)
    (hs : ∀ x, foldedSetIterable iter env x = pure x)
    (hD : ∀ p ∈ rest, p.1 ≠ D)
    (hit : wpAny (model prog w) A (eval iter env) (IterSrc h₀ L s m D rest) E s)
    (el : ∀ I C Dl oI oC m₂ ys (made : Led) o h tk (E' : Value → Shared → Prop), NsObj oC m₂ → SrcO o → Fr h₀ L h m → News h₀ L h ((D, o) :: (I, oI) :: (C, oC) :: (Dl, lst ys) :: (made ++ rest)) → (∀ p ∈ (I, oI) :: (C, oC) :: (Dl, lst ys) :: (made ++ rest), p.1 ≠ D) →
      wpAny (model prog w) A (eval elt (compEnvC scope cl C env)) (ElS h₀ L s m D ((I, oI) :: (C, oC) :: (Dl, lst ys) :: (made ++ rest))) E' { s with heap := h, toks := tk })
    (fin : ∀ Dl ys (made : Led) o cs h tk (R : Led), R = made ++ rest → SrcO o → Fr h₀ L h (fun z => if z = y then some (.ref Dl) else m z) → News h₀ L h ((Dl, lst ys) :: (D, o) :: R) → DatAll made ys (List.map ctr cs) → cs.length ≤ 3 → (∀ l ∈ cs, l.length ≤ 5) → Q .next { s with heap := h, toks := tk }) :
    wpAny (model prog w) A (exec (.Assign [.Name y py] (.ListComp elt [⟨.Name x px, iter, [], 0⟩] scope pos) spos) env) Q E s := by
  refine Assign_ListComp_U F₀ hLe hsw hclos hcell hkind hnames hx hy hp (wpAny_mono hit (fun xv s₁ h₁ => ?_) fun _ _ e => e) hs
  obtain ⟨r, z, t, u, v, o, h, tk, rfl, rfl, F, N, hO, hr, hz⟩ := h₁
  have hz1 := hz.lo
  have hz2 := hz.hi
  obtain ⟨n, rfl⟩ := Int.eq_ofNat_of_zero_le hz1
  have hsz : Builtin.Range.rangeSize 0 (n : Int) 1 = (n : Int) := by
    unfold Builtin.Range.rangeSize
    simp
    omega
  have hs3 : n ≤ sizeLine := by rw [sizeLine_eq]; omega
  have hsm : Builtin.Range.small 0 (n : Int) 1 = true := small_one (by omega) (by omega) (by omega) (by omega)
  refine CompSrc.range hh F N hr hsm hsz hs3 fun g => ?_
  refine rest_src (n := n) (s := { s with heap := g, toks := tk }) (made := []) (cs := []) hD el ?_ n 0 [] o (by omega) hO (fun _ h => nomatch h) DatAll.nil rfl (fun _ h => nomatch h)
  intro ys o made cs hO' hm hd hc h5 Dl h' tk' F' N' _
  exact fin Dl ys made o cs h' tk' _ rfl hO' F' N' hd (by omega) h5
end
theorem off_t_z : True := by
  w_top off
  trivial
/-! ## small things for law -/
theorem ok_all (cs : List (List Pt)) : okD 12 (.list (segsAll cs)) = true := by
  refine ok_list fun d hd => ?_
  obtain ⟨l, _, hl⟩ := List.mem_flatMap.mp hd
  rcases l with _ | ⟨q, _ | ⟨r, c⟩⟩
  · exact nomatch hl
  · exact nomatch hl
  · exact ok_segs q (r :: c) d hl
section
variable {prog : Program} {w : World} {A : Around} {E : Value → Shared → Prop} {s : Shared} {h₀ : Heap} {L l : Addr} {news nw : Led} {ds : List Dat} {v : Value} {Q : Value → Shared → Prop} {n : Nat}
theorem d_ne_nil0 {b : Bool} (N : News h₀ L s.heap news) (D1 : DatIn nw v (.list ds)) (S1 : ∀ p ∈ nw, p ∈ news) (hm : (l, PySem.W.listOf #[] n) ∈ news) (hb : ds.isEmpty = b) (hk : okD 12 (.list ds) = true) (hu : A.units + 64 < cLine)
    (h : Q (.bool (!b)) s) : wpAny (model prog w) A (compareOp .NotEq v (.ref l)) Q E s := by
  subst hb
  exact d_ne_nil N D1 S1 (nw2 := news) (DatIn.list (vs := []) hm .nil) (fun _ h => h) hk hu h
end
/-! ## the written contours -/
abbrev lit1 : List Dat := [pd (0, 0, true), pd (2, 4, false), pd (6, 4, false), pd (8, 0, true)]
abbrev lit2 : List Dat := [pd (0, 0, false), pd (4, 2, false)]
abbrev lit3 : List Dat := [pd (0, 0, true), pd (2, 0, true)]
def toldL : List Dat := [moveD (spotD (0, 0, true)), lineD (spotD (2, 0, true)), lineD (spotD (0, 0, true)), closeD]
theorem segs_told : segs (0, 0, true) [(2, 0, true)] = toldL := rfl
theorem ok_told : okD 12 (.list toldL) = true := by
  rw [← segs_told]
  exact ok_list (ok_segs _ _)
section
variable (w : World) (p : Program) (loose : List Str) (mean : ExcName → Option Value) (mg mb : Str → Option Value)
theorem right1 : Ct w p loose mean mg mb 226 12 (fun nw vs => ∃ a, vs = [.ref a] ∧ DatIn nw (.ref a) (.list lit1)) (fun nw tl r => r = .bool true) :=
  right_ok w p loose mean mg mb (0, 0, true) [(2, 4, false), (6, 4, false), (8, 0, true)] (Nat.le_of_ble_eq_true rfl)
theorem right2 : Ct w p loose mean mg mb 226 12 (fun nw vs => ∃ a, vs = [.ref a] ∧ DatIn nw (.ref a) (.list lit2)) (fun nw tl r => r = .bool true) :=
  right_ok w p loose mean mg mb (0, 0, false) [(4, 2, false)] (Nat.le_of_ble_eq_true rfl)
theorem seg3 : Ct w p loose mean mg mb 144 6 (fun nw vs => ∃ a, vs = [.ref a] ∧ DatIn nw (.ref a) (.list lit3)) (fun nw tl r => DatIn (nw ++ tl) r (.list toldL)) := by
  rw [← segs_told]
  exact seg_ok w p loose mean mg mb (0, 0, true) [(2, 0, true)] (Nat.le_of_ble_eq_true rfl)
end
theorem segs_of_two {q : Pt} {c : List Pt} (h : 0 < c.length) : segsOf (q :: c) = segs q c := by
  cases c with
  | nil => exact absurd h (Nat.lt_irrefl 0)
  | cons r c => rfl
theorem segs_of_one {q : Pt} {c : List Pt} (h : c = []) : segsOf (q :: c) = [] := by subst h; rfl
theorem off_u_law : True := by
  w_top off
  k_with "W call ref" => ((with_reducible show wpAny _ _ (call (Value.ref 158) _) _ _ _); k_dflt (refine' pool_use _ _ _ _ _ _ ?kI_k ?kl_k _ ?k01_k _ _ _ _ _ _ _ _ _ _ _ _ _ _ _ _ _ _ _ ?k1_k ?k2_k ?k3_k ?k4_k ?k5_k ?kK_k ?kL_k ?kd_k ?ku_k ?_; (case k1_k => k_asm); (case k2_k => k_asm); (case k3_k => k_asm); (case k4_k => k_asm); (case k5_k => k_asm); (case kK_k => exact rfl); (case kd_k => decide); (case ku_k => decide); (case kI_k => assumption); (case kl_k => assumption); (case k01_k => assumption); (case kL_k => assumption); intro D9_k o9_k h9_k tk9_k F9_k N9_k hO9_k l1_k; (try k_lt l1_k); (try dsimp only); (try k_fold)))
  k_with "W call ref" => ((with_reducible show wpAny _ _ (call (Value.ref 165) _) _ _ _); k_dflt (refine' cm_use (take_ok _ _ _ _ _ _ _ ?kt1_k ?kt2_k) ?k1_k ?k2_k ?k3_k ?k4_k ?k5_k ?kK_k ?kO_k ?kS_k ⟨_, rfl⟩ ?kd_k ?ku_k ?_; (case k1_k => k_asm); (case k2_k => k_asm); (case k3_k => k_asm); (case k4_k => assumption); (case k5_k => k_asm); (case kK_k => exact rfl); (case kd_k => decide); (case ku_k => decide); (case kt1_k => decide); (case kt2_k => decide); (case kO_k => assumption); (case kS_k => walk_at "M ne"); intro r9_k o9_k tl9_k h9_k tk9_k F9_k N9_k hO9_k hl9_k ho9_k; (obtain ⟨hv9_k, _, _, hv8_k, hv7_k⟩ := ho9_k); subst hv9_k; subst hv8_k; (simp only [List.append_nil] at N9_k); (try dsimp only); (try k_fold)))
  k_with "W call ref" => ((with_reducible show wpAny _ _ (call (Value.ref 179) _) _ _ _); k_dflt (refine' cm_use (cont_ok _ _ _ _ _ _) ?k1_k ?k2_k ?k3_k ?k4_k ?k5_k ?kK_k ?kO_k ?kS_k rfl ?kd_k ?ku_k ?_; (case k1_k => k_asm); (case k2_k => k_asm); (case k3_k => k_asm); (case k4_k => assumption); (case k5_k => k_asm); (case kK_k => exact rfl); (case kd_k => decide); (case ku_k => decide); (case kO_k => assumption); (case kS_k => first | assumption | walk_at "M ne"); intro r9_k o9_k tl9_k h9_k tk9_k F9_k N9_k hO9_k hl9_k ho9_k; (try dsimp only); (try k_fold)))
  k_with "W eval Name" => (k_here; (with_reducible show wpAny _ _ (eval (Expr.Name (Str.ofString "source") _) (compEnvC _ _ _ _)) _ _ _); k_dflt (refine' lcf_cell ?xN_k ?xc_k ?xm_k ?xd_k ?_ ?xa_k ?xb_k; (case xN_k => assumption); (case xc_k => rfl); (case xm_k => exact .tail _ (.tail _ (.tail _ (.tail _ (List.mem_append.mpr (.inr (.head _))))))); (case xd_k => assumption); (case xa_k => rfl); (case xb_k => rfl); k_whole))
  k_with "W M use" => (
      (case k1_k => k_asm)
      (case k2_k => k_asm)
      (case k3_k => k_asm)
      (case k4_k => k_asm)
      (case k5_k => k_asm)
      (case kK_k => exact rfl)
      (case kd_k => decide)
      (case ku_k => decide))
  k_with "W M kc" => first | assumption | exact Nat.le_of_ble_eq_true rfl
  k_with "W M same_d" => (
      (case k1_k => k_asm)
      (case k2_k => with_reducible assumption)
      (case k3_k => walk_at "M sub")
      (case k4_k => with_reducible assumption)
      (case k5_k => walk_at "M sub")
      (case k6_k => first | assumption | rfl)
      (case k7_k => assumption)
      (case k8_k => exact Nat.le_of_ble_eq_true rfl))
  k_with "W compareOp NotEq ref ref" => (k_here; (with_reducible show wpAny _ _ (compareOp _ (Value.ref _) (Value.ref _)) _ _ _); k_dflt (first | (refine' d_ne_nil0 (b := false) ?k1_k ?k2_k ?k3_k ?k4_k ?k5_k ?k6_k ?k7_k ?_; (case k1_k => k_asm); (case k2_k => with_reducible assumption); (case k5_k => exact rfl); (case k3_k => walk_at "M sub"); (case k4_k => k_mem); (case k6_k => exact ok_pts _ 10); (case k7_k => exact Nat.le_of_ble_eq_true rfl); k_whole; (try dsimp only [Bool.not_true, Bool.not_false])) | (refine' d_ne_nil0 (b := true) ?k1_k ?k2_k ?k3_k ?k4_k ?k5_k ?k6_k ?k7_k ?_; (case k1_k => k_asm); (case k2_k => with_reducible assumption); (case k5_k => exact rfl); (case k3_k => walk_at "M sub"); (case k4_k => k_mem); (case k6_k => exact ok_pts _ 10); (case k7_k => exact Nat.le_of_ble_eq_true rfl); k_whole; (try dsimp only [Bool.not_true, Bool.not_false]))))
  k_with "W call ref" => ((with_reducible show wpAny _ _ (call (Value.ref 112) _) _ _ _); k_dflt (refine' ct_use (outline_ok _ _ _ _ _ _ _) ?k1_k ?k2_k ?k3_k ?k4_k ?k5_k ?kK_k (List.forall_mem_nil _) rfl ?kd_k ?ku_k ?_; walk_at "M use"; intro r9_k tl9_k h9_k tk9_k F9_k N9_k hl9_k ho9_k; (try simp only [List.nil_append, List.cons_append, List.append_nil, List.append_assoc] at N9_k); (try simp only [List.nil_append, List.cons_append, List.append_nil, List.append_assoc] at ho9_k); (obtain ⟨_, hv8_k, hx8_k⟩ := ho9_k; subst hv8_k); (try dsimp only); (try k_fold)))
  k_with "W call ref" => ((with_reducible show wpAny _ _ (call (Value.ref 151) _) _ _ _); k_dflt (refine' ct_use (segof_ok _ _ _ _ _ _ _ ?ka_k ?kb_k) ?k1_k ?k2_k ?k3_k ?k4_k ?k5_k ?kK_k ?kS_k ⟨_, _, rfl, IsOut.mono (by assumption) (fun p hp => List.mem_append.mpr (.inl hp)), DatIn.mono (fun p hp => List.mem_append.mpr (.inr hp)) (by assumption)⟩ ?kd_k ?ku_k ?_; walk_at "M use"; (case kS_k => walk_at "M sub"); (case ka_k => assumption); (case kb_k => assumption); intro r9_k tl9_k h9_k tk9_k F9_k N9_k hl9_k ho9_k; (try simp only [List.nil_append, List.cons_append, List.append_nil, List.append_assoc] at N9_k); (try simp only [List.nil_append, List.cons_append, List.append_nil, List.append_assoc] at ho9_k); (obtain ⟨_, hv8_k⟩ := dl_ref ho9_k; subst hv8_k); (try dsimp only); (try k_fold)))
  k_with "W M updF" => first | (refine' UpdF.head ?mua_k; (case mua_k => walk_at "M ne")) | (refine' UpdF.tail ?mua_k ?mub_k; (case mua_k => k_ne); (case mub_k => walk_at "M updF"))
  k_with "W storeName" => (k_here; k_dflt (refine' storeX_C ?F_k ?N_k ?c_k ?U_k ?d_k ?_ ?a_k ?b_k; (case a_k => rfl); (case b_k => rfl); (case F_k => k_asm); (case N_k => k_asm); (case c_k => rfl); (case U_k => walk_at "M updF"); (case d_k => k_asm); k_whole; intro h'_k o'_k F'_k N'_k d'_k; (try dsimp only at N'_k); (try k_sweep)))
  k_with "W exec Assign cons ListComp" => (k_here; (rename Fr _ _ _ _ => lF'_k); refine AL_halt lF'_k ?_)
  k_with "W call ref" => ((with_reducible show wpAny _ _ (call (Value.ref 226) _) _ _ _); k_dflt (refine' ct_use (right1 _ _ _ _ _ _) ?k1_k ?k2_k ?k3_k ?k4_k ?k5_k ?kK_k (fun _ h => h) ⟨_, rfl, ?kD_k⟩ ?kd_k ?ku_k ?_; walk_at "M use"; (case kD_k => walk_at "M in"); intro r9_k tl9_k h9_k tk9_k F9_k N9_k hl9_k ho9_k; (try simp only [List.nil_append, List.cons_append, List.append_nil, List.append_assoc] at N9_k); (try simp only [List.nil_append, List.cons_append, List.append_nil, List.append_assoc] at ho9_k); subst ho9_k; (try dsimp only); (try k_fold)))
  k_with "W call ref" => ((with_reducible show wpAny _ _ (call (Value.ref 226) _) _ _ _); k_dflt (refine' ct_use (right2 _ _ _ _ _ _) ?k1_k ?k2_k ?k3_k ?k4_k ?k5_k ?kK_k (fun _ h => h) ⟨_, rfl, ?kD_k⟩ ?kd_k ?ku_k ?_; walk_at "M use"; (case kD_k => walk_at "M in"); intro r9_k tl9_k h9_k tk9_k F9_k N9_k hl9_k ho9_k; (try simp only [List.nil_append, List.cons_append, List.append_nil, List.append_assoc] at N9_k); (try simp only [List.nil_append, List.cons_append, List.append_nil, List.append_assoc] at ho9_k); subst ho9_k; (try dsimp only); (try k_fold)))
  k_with "W call ref" => ((with_reducible show wpAny _ _ (call (Value.ref 144) _) _ _ _); k_dflt (refine' ct_use (seg3 _ _ _ _ _ _) ?k1_k ?k2_k ?k3_k ?k4_k ?k5_k ?kK_k (fun _ h => h) ⟨_, rfl, ?kD_k⟩ ?kd_k ?ku_k ?_; walk_at "M use"; (case kD_k => walk_at "M in"); intro r9_k tl9_k h9_k tk9_k F9_k N9_k hl9_k ho9_k; (try simp only [List.nil_append, List.cons_append, List.append_nil, List.append_assoc] at N9_k); (try simp only [List.nil_append, List.cons_append, List.append_nil, List.append_assoc] at ho9_k); (obtain ⟨_, hv8_k⟩ := dl_ref ho9_k; subst hv8_k); (try dsimp only); (try k_fold)))
  k_with "W compareOp Eq ref ref" => (k_here; (with_reducible show wpAny _ _ (compareOp _ (Value.ref _) (Value.ref _)) _ _ _); k_dflt (refine' d_eq_same ?k1_k ?k2_k ?k3_k ?k4_k (fun _ h => h) rfl ok_told ?k8_k ?_; (case k1_k => k_asm); (case k2_k => with_reducible assumption); (case k3_k => walk_at "M sub"); (case k4_k => walk_at "M in"); (case k8_k => exact Nat.le_of_ble_eq_true rfl); k_whole))
  k_with "W call ref" => ((with_reducible show wpAny _ _ (call (Value.ref 226) _) _ _ _); k_dflt (refine' ct_use (right_ok _ _ _ _ _ _ _ _ ?kc_k) ?k1_k ?k2_k ?k3_k ?k4_k ?k5_k ?kK_k ?kS_k ⟨_, rfl, ?kD_k⟩ ?kd_k ?ku_k ?_; (case k1_k => k_asm); (case k2_k => k_asm); (case k3_k => k_asm); (case k4_k => k_asm); (case k5_k => k_asm); (case kK_k => exact rfl); (case kd_k => decide); (case ku_k => decide); (case kD_k => with_reducible assumption); (case kS_k => walk_at "M sub"); (case kc_k => walk_at "M kc"); intro r9_k tl9_k h9_k tk9_k F9_k N9_k hl9_k ho9_k; (try simp only [List.nil_append, List.cons_append, List.append_nil, List.append_assoc] at N9_k); (try simp only [List.nil_append, List.cons_append, List.append_nil, List.append_assoc] at ho9_k); subst ho9_k; (try dsimp only); (try k_fold)))
  trivial
/-! ## law -/
theorem main0 : PySem.Challenge.rw_on0228_01.Holds := hd (by
  k_go0
  all_goals (try k_fold)
  all_goals k_steps
  unfold Halt
  (rename Fr _ _ _ _ => lF); (rename News _ _ _ _ => lN); (rename IsRange _ _ _ _ _ _ _ _ => lR); (rename Obj.data _ = Data.cell _ => lC); (rename IntsAre _ _ => lI); (rename ¬_ < _ => lL); (rename Heap.IsList _ _ _ => lX)
  have lL2 := Int.ofNat_le.mp (Int.not_lt.mp lL)
  refine range_cell (sc := Str.ofString "script") rfl lR ?hz lF lN lC rfl (by decide) ?turn ?done
  case hz => constructor <;> split <;> (try split) <;> omega
  case' turn =>
    intro i m o v t h tk own h01 hm hO hap F1 N1
    clear lF lN lR lC
  case' done =>
    intro m o v h tk hm hO F1 N1
    clear lF lN lR lC
  all_goals (try k_fold)
  all_goals k_steps
  · unfold Halt
    (rename Fr _ _ _ _ => lF); (rename News _ _ _ _ => lN)
    refine comp_src lF lN rfl rfl (by with_unfolding_all rfl) (by rfl) (by decide) (by rfl) (by decide) (by rfl) (by rfl) (by rfl) (by intro _; rfl) ?hD ?hit ?el ?fin
    case hD => walk_at "M ne"
    all_goals (try k_fold)
    · k_steps
      exact ⟨_, _, _, _, _, _, _, _, rfl, rfl, by assumption, by assumption, by assumption, by assumption, by assumption⟩
    · intro I C Dl oI oC m₂ ys made o h tk E' hns hO F1 N1 hap1
      clear lF lN
      k_steps
      (obtain ⟨_, hv6, hv7⟩ := ‹∃ c : List Pt, _›)
      exact ⟨_, _, _, _, _, rfl, by assumption, by assumption, by assumption, by assumption, hv6, hv7⟩
    · intro Dl ys made o cs h tk R hR hO F1 N1 hda hcs hc5
      have hRm : Inn made R := ⟨fun p hp => hR ▸ List.mem_append.mpr (.inl hp)⟩
      clear lF lN
      k_steps
      unfold Halt
      (rename Fr _ _ _ _ => lF); (rename News _ _ _ _ => lN)
      refine my_for_h (σ := Value × List Dat) (fun c => [(Str.ofString "due", c.1)]) (AllJ cs) (fun D => (.ref D, [])) rfl lF lN (ds := cs.map ctr) (nw := (Dl, LCg.lst ys) :: made) ?yD ?yS ?yhp ?yhI ?yturn ?ydone
      case yhp => exact List.forall_mem_cons.mpr ⟨rfl, List.forall_mem_nil _⟩
      case yhI => exact ⟨DatIn.list (.head _) .nil, rfl, Nat.le_refl _⟩
      case yD => exact DatIn.list (.head _) (hda.mono fun p hp => .tail _ hp)
      case yS => exact List.forall_mem_cons.mpr ⟨.head _, fun p hp => .tail _ (.tail _ (hRm.out p hp))⟩
      case' yturn =>
        intro j z new v d h tk own2 hd1 hs hI hD ho2 F2 N2
        obtain ⟨fv, ds⟩ := z
        obtain ⟨hI1, hI2, hI3⟩ := hI
        dsimp only at hI1 hI2 hI3 F2
        simp only [ovr] at F2
        obtain ⟨l, hl, rfl⟩ : ∃ l, cs[j]? = some l ∧ Dat.list (l.map pd) = d := by simpa [List.getElem?_map, Option.map_eq_some_iff, ctr] using hd1
        have hlm : l ∈ cs := List.mem_of_getElem? hl
        have hl5 := hc5 l hlm
        obtain ⟨b1, rfl⟩ := dl_ref hD
        obtain ⟨b2, rfl⟩ := dl_ref hI1
        have hT : cs.take (j + 1) = cs.take j ++ [l] := by rw [List.take_add_one, hl]; rfl
        have hi : j < 5 := by have := (List.getElem?_eq_some_iff.mp hl).1; omega
        have hz : ds.length ≤ 1000 := by omega
        have hz4 : (l.map pd).length ≤ 1000 := by rw [List.length_map]; omega
        rcases l with _ | ⟨q, c⟩
        rotate_left 1
        have hsl := segs_len q c
        have hz3 : ds.length + (segs q c).length ≤ 1000 := by (simp only [List.length_cons] at hl5); omega
        have hk1 : c.length ≤ 5 := by (simp only [List.length_cons] at hl5); omega
        have hk2 : c.length ≤ 20 := Nat.le_trans hk1 (by decide)
        rotate_right 1
        all_goals (simp only [List.length_cons, List.length_nil] at hl5)
      case' ydone =>
        intro z new u h tk hs hI F2 N2
        obtain ⟨fv, ds⟩ := z
        obtain ⟨hI1, hI2, hI3⟩ := hI
        dsimp only at hI1 hI2 hI3 F2
        simp only [ovr] at F2
        obtain ⟨b2, rfl⟩ := dl_ref hI1
        rw [List.length_map, List.take_length] at hI2
        subst hI2
        subst hR
        have hcs5 : cs.length ≤ 5 := by omega
        have hcD : DatIn ((Dl, LCg.lst ys) :: made) (Value.ref Dl) (ctrs cs) := DatIn.list (.head _) (hda.mono fun p hp => .tail _ hp)
        have hok := ok_all cs
      all_goals clear lF lN
      all_goals (simp only [List.nil_append, List.cons_append, List.append_assoc] at hs N2)
      all_goals (try k_fold)
      · k_steps
        (rename _ = Data.cell (some _) => lD)
        refine InvEndG.intro (by assumption) (by assumption) ⟨?zJ, _, _, rfl, lD⟩ ?zO ?zS ?zT
        case zJ => rfl
        case zO => exact fun p hp b hb => List.mem_singleton.mp hb ▸ hap p hp
        case zS => walk_at "M sub"
        case zT => walk_at "M sub"
      · k_steps
        refine turn_end0 (Value.ref b2, ds) (Value.ref b2, ds) [_] (by assumption) (by assumption) rfl hs (List.forall_mem_nil _) (List.forall_mem_nil _) ho2 ?_ ?_ ⟨?_, ?_, ?_⟩
        · walk_at "M lo"
        · walk_at "M same"
        · walk_at "M in"
        · rw [hT, segsAll_snoc, ← hI2]; simp [segsOf]
        · dsimp only; omega
      · k_steps
        · refine turn_end (Value.ref b2, ds) (Value.ref _, ds ++ segs q c) [_, _] (by assumption) (by assumption) rfl hs (List.forall_mem_nil _) (List.forall_mem_nil _) ho2 ?_ ?_ ?_ ⟨DatIn.mono ?_ (by assumption), ?_, ?_⟩
          · walk_at "M lo"
          · walk_at "M lo"
          · walk_at "M same"
          · walk_at "M sub"
          · (rename (1 : Int) < _ => hlt)
            rw [hT, segsAll_snoc, ← hI2, segs_of_two (by rw [List.length_map, List.length_cons] at hlt; omega)]
          · simp only [List.length_append]; omega
        · refine turn_end (Value.ref b2, ds) (Value.ref b2, ds) [_] (by assumption) (by assumption) rfl hs (List.forall_mem_nil _) (List.forall_mem_nil _) ho2 ?_ ?_ ?_ ⟨?_, ?_, ?_⟩
          · walk_at "M lo"
          · walk_at "M lo"
          · walk_at "M same"
          · walk_at "M in"
          · (rename ¬(1 : Int) < _ => hlt)
            rw [hT, segsAll_snoc, ← hI2, segs_of_one (List.eq_nil_of_length_eq_zero (by rw [List.length_map, List.length_cons] at hlt; omega)), List.append_nil]
          · dsimp only; omega)
end Mine

theorem PySem.Challenge.cw_on0228_01_holds : PySem.Challenge.rw_on0228_01.Holds :=
  Mine.main0
