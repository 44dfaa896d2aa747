import PyProof.Rows.All
import Wide.All
import OpenK.AllK
import Wide.FinOn
import Lean
import PySem.Challenge.RW_sj0032_01
open PySem PySem.W PyProof.Rows PySem.Calls
set_option Elab.async false
set_option maxRecDepth 100000
set_option maxHeartbeats 8000000
set_option compiler.extract_closed false
namespace Mine
noncomputable def viewK : Program := { PySem.Challenge.pw_sj0032_01 with main := { PySem.Challenge.pw_sj0032_01.main with body := match PySem.Challenge.pw_sj0032_01.main.body with | [_, a1, a2, _, a4, a5, _, a7, a8, a9, a10, a11, a12, a13, a14, a15, _, a17, a18, a19, a20, a21] => [a1, a2, a4, a5, a7, a8, a9, a10, a11, a12, a13, a14, a15, a17, a18, a19, a20, a21] | l => l } }
local macro_rules | `(tactic| o_law) => `(tactic| refine holds_law (by decide +kernel) fun said => ?_)
local macro_rules | `(tactic| o_head $H) => `(tactic| (refine holds_open (q := Mine.viewK) (loose := [Str.ofString "GateloomError"]) (Xt := fun s => xlAt Mine.viewK [] s && recOk (RowW.records (OpenRow.toRowW (OpenLaw.row PySem.Challenge.rw_sj0032_01))) s) (XP := XL Mine.viewK []) (Yf := Hook.obs $H) (Ya := Hook.val $H) (YP := Hook.says $H) (N := 3230) ?hl (Hook.of $H) (Hook.keeps $H) (fun s e => xl_of s (Bool.and_eq_true_iff.mp e).1) XL.keeps (by rfl) (by rfl) (by rfl) (fun s e => recFacts_of (Bool.and_eq_true_iff.mp e).2) (by rfl) (by first | assumption | decide +kernel) (by decide +kernel) ⟨rfl, rfl, rfl, rfl, rfl, by decide +kernel⟩ ?hw ?hc; (case hl => intro w; kernel_rfl)))
open_top top0 for PySem.Challenge.rw_sj0032_01
end Mine
namespace Mine
theorem off01 : True := by (w_top off); exact True.intro

/-- the place of a call: no exception being handled, depth d, units u -/
abbrev Ar (d u : Nat) : Around := { handled := none, depth := d, frames := none, guards := none, units := u }

theorem in_le {A B : Around} {Γ : Ctx} (hh : B.handled = A.handled) (hd : A.depth ≤ B.depth) (hf : B.frames = none) (hg : B.guards = none) (hu : A.units ≤ B.units) (h : Γ.In A) : Γ.In B :=
  ⟨h.1.trans hh.symm, Nat.le_trans h.2.1 hd, fun l e => by (rw [hf] at e; cases e), fun l e => by (rw [hg] at e; cases e), Nat.le_trans h.2.2.2.2 hu⟩

theorem wp_le {α : Type} {M : Model} {A : Around} {d u : Nat} {t : Sem α} {Q : α → Shared → Prop} {E : Value → Shared → Prop} {s : Shared}
    (h : wpAny M (Ar d u) t Q (fun _ _ => False) s) (hh : A.handled = none) (hd : A.depth ≤ d) (hu : A.units ≤ u) : wpAny M A t Q E s :=
  fun Γ p i => wpAny_noRaise h Γ p (in_le hh.symm hd rfl rfl hu i)

/-- what stands of the heap but at the addresses of l -/
def Stays (l : List Addr) (h h' : Heap) : Prop := ∀ b o, b ∉ l → h.get? b = some o → h'.get? b = some o

theorem fill (K : Frag) {P : Prop} (h : K = K → P) : P := h rfl

section
variable {w : World} {b₀ : Heap} {s : Shared} {d u : Nat} {name qual : Str} {params : Arguments} {body : List Stmt} {scope : Scope} {dV kV doc pm cdv ct oc : Value} {an od : Option Addr} {osl : Array (Option Value)} {f : Addr} {args : Args} {binds : List (Str × Value)}
  {mean : ExcName → Option Value} {mg mb : Str → Option Value} {news : List (Addr × Obj)} {Q : Value → Shared → Prop}

theorem enter (X : (top0.heap_1 w.params).In b₀) (T : Top Mine.viewK (looseW Mine.viewK [Str.ofString "GateloomError"]) mean mg mb b₀) (hb : b₀.StaysIn s.heap) (hn : ∀ p ∈ news, s.heap.get? p.1 = some p.2 ∧ b₀.get? p.1 = none)
    (ho : (top0.heap_1 w.params).lookup f = some ⟨oc, od, .func (fnOf name qual params body scope dV kV doc pm an cdv ct), osl⟩) (hcd : codeIn (top0.heap_1 w.params) cdv qual = true) (hroom : d < recursionLimit)
    (hbind : BindsTo s (fnOf name qual params body scope dV kV doc pm an cdv ct) args binds) (hloc : ∀ y ∈ binds, scope.names.lookup y.1 = some .local)
    (h : ∀ g L' h₁, b₀.StaysIn g → (top0.heap_1 w.params).In g → Top Mine.viewK (looseW Mine.viewK [Str.ofString "GateloomError"]) mean mg mb g → (∀ b o, b ∉ news.map (·.1) → s.heap.get? b = some o → g.get? b = some o) →
      Fr g L' h₁ (fun y => binds.reverse.lookup y) → News g L' h₁ news → s.heap.objs.size ≤ L' →
      wpAny (model Challenge.rw_sj0032_01.row.prog w) ((Ar d u).deeper (envOf qual scope L' f cdv)) (execs body (envOf qual scope L' f cdv))
        (fun fl s' => Q (match fl with | .ret v => v | _ => .none) s') (fun _ _ => False)
        { s with heap := h₁, toks := s.toks + binds.length })
    (hcell : ∀ x ∈ scope.names, x.2 ≠ .cell) (hco : scope.isCoroutine = false) (hgen : scope.isGenerator = false) (hk : scope.kind = .function) :
    codeAny (model Challenge.rw_sj0032_01.row.prog w) (Ar d u) (.call (.ref f) args) (fun r s' => match r with | .ok (.ret v) => Q v s' | .ok _ => False | .error _ => False) s := by
  have st : b₀.StaysIn (hideAll s.heap (news.map (·.1))) := fun b o e => hideAll_get _ (hb b o e) fun q => by
    obtain ⟨p, hp, rfl⟩ := List.mem_map.mp q
    rw [(hn p hp).2] at e; cases e
  refine codeAny_call_def (fd := fnOf name qual params body scope dV kV doc pm an cdv ct) (body := body) (binds := binds) hroom ((X.keeps hb) _ _ ho) rfl (T.nolimit.keeps hb) (codeRec_of (X.keeps hb) hcd) rfl hbind hcell hloc (fun h₁ hns hk₁ => ?_) hco hgen hk
  refine wpAny_mono (h (hideAll s.heap (news.map (·.1))) s.heap.objs.size h₁ st (Frag.In.keeps X fun b o e => st b o e) (Top.keeps T fun b o e => st b o e) (fun b o n e => hideAll_get _ e n) ⟨hns, fun b o e => hk₁ b o (of_hideAll _ e), Nat.le_of_eq (hideAll_size _ _)⟩
    (fun p hp => ⟨hk₁ _ _ (hn p hp).1, Nat.ne_of_lt (Heap.lt_size (hn p hp).1), hideAll_none _ (List.mem_map_of_mem hp)⟩) (Nat.le_refl _)) (fun fl s' hl => hl) fun _ _ y => y.elim
end

/-- the heap after a call that may have changed the addresses of l alone -/
theorem fr_after {g h h' : Heap} {L : Addr} {m : Str → Option Value} {news : List (Addr × Obj)} {l : List Addr} (F : Fr g L h m) (N : News g L h news) (S : Stays l h h') (hl : ∀ a ∈ l, ∃ o, (a, o) ∈ news) : Fr g L h' m := by
  have nL : L ∉ l := fun q => by
    obtain ⟨o, ho⟩ := hl L q
    exact (N _ ho).2.1 rfl
  obtain ⟨oL, es, ep, hL, r⟩ := F.ns
  refine ⟨⟨oL, es, ep, S L oL nL hL, r⟩, fun b o e => S b o (fun q => ?_) (F.keep b o e), F.above⟩
  obtain ⟨o', ho⟩ := hl b q
  have h2 := (N _ ho).2.2
  rw [e] at h2; cases h2
theorem news_after {g h h' : Heap} {L : Addr} {news : List (Addr × Obj)} (N : News g L h news) (S : Stays [] h h') : News g L h' news := fun p hp => ⟨S _ _ (by simp) (N p hp).1, (N p hp).2⟩
theorem news_after1 {g h h' : Heap} {L d : Addr} {o o' : Obj} {news : List (Addr × Obj)} {u : Obj → List (Addr × Obj)} (N : News g L h news) (U : UpdF d o news u) (S : Stays [d] h h') (hd : h'.get? d = some o') : News g L h' (u o') := by
  obtain ⟨pre, post, rfl, hu, h1, h2⟩ := U.split
  rw [hu]
  intro p hp
  rcases List.mem_append.mp hp with q | q
  · have P := N p (List.mem_append_left _ q); exact ⟨S _ _ (by simpa using h1 p q) P.1, P.2⟩
  · rcases List.mem_cons.mp q with rfl | q
    · exact ⟨hd, (N (d, o) (by simp)).2⟩
    · have P := N p (List.mem_append_right _ (.tail _ q)); exact ⟨S _ _ (by simpa using h2 p q) P.1, P.2⟩
theorem updF_mem {d : Addr} {o : Obj} {news : List (Addr × Obj)} {u : Obj → List (Addr × Obj)} (U : UpdF d o news u) : (d, o) ∈ news := by
  obtain ⟨pre, post, rfl, _⟩ := U.split
  simp
/-- an object that the call made -/
theorem news_cons {g h h' : Heap} {L r : Addr} {m : Str → Option Value} {o : Obj} {news : List (Addr × Obj)} (F : Fr g L h m) (N : News g L h' news) (hr : h'.get? r = some o) (hn : h.objs.size ≤ r) : News g L h' ((r, o) :: news) := by
  intro p hp
  rcases List.mem_cons.mp hp with rfl | hp
  · refine ⟨hr, fun e => ?_, ?_⟩
    · obtain ⟨oL, _, _, hL, _⟩ := F.ns
      have := Heap.lt_size hL
      subst e
      exact absurd (Nat.lt_of_lt_of_le this hn) (Nat.lt_irrefl _)
    · cases q : g.get? r with
      | none => rfl
      | some o' => exact absurd (Nat.lt_of_lt_of_le (Heap.lt_size (F.keep _ _ q)) hn) (Nat.lt_irrefl _)
  · exact N p hp
/-- a mark that halts the walk -/
def Stop (P : Prop) : Prop := P
theorem Stop.go {P : Prop} (h : Stop P) : P := h
/-- what the names stand for -/
def Nm (m : Str → Option Value) : List (Str × Value) → Prop
  | [] => True
  | p :: r => m p.1 = some p.2 ∧ Nm m r
theorem Nm.all {m : Str → Option Value} : ∀ {ps : List (Str × Value)}, Nm m ps → ∀ p ∈ ps, m p.1 = some p.2
  | _ :: _, ⟨h, _⟩, _, .head _ => h
  | _ :: _, ⟨_, r⟩, _, .tail _ hp => r.all _ hp
theorem fr_names {g h : Heap} {L : Addr} {m : Str → Option Value} {ps : List (Str × Value)} (F : Fr g L h m) (hk : Nm m ps) : Fr g L h (kstB m ps) := by
  have hk := hk.all
  have e : kstB m ps = m := by
    funext y
    exact kstB_eq hk fun _ => rfl
  rw [e]
  exact F
theorem fr_hide {g h : Heap} {L : Addr} {m : Str → Option Value} {ps : List (Str × Value)} (F : Fr g L h m) (hk : Nm m ps) : ∃ m₀, Fr g L h (kstB m₀ ps) := ⟨m, fr_names F hk⟩

/-- the state behind a piece of a body: the frame's names and the ledger are as Out says -/
def EndSt (g : Heap) (L : Addr) (s : Shared) (Out : (Str → Option Value) → List (Addr × Obj) → Prop) (s₂ : Shared) : Prop :=
  ∃ h' tk m' news', s₂ = { s with heap := h', toks := tk } ∧ Fr g L h' m' ∧ News g L h' news' ∧ Out m' news'
def NextEnd (g : Heap) (L : Addr) (s : Shared) (Out : (Str → Option Value) → List (Addr × Obj) → Prop) (f : Flow) (s₂ : Shared) : Prop := f = .next ∧ EndSt g L s Out s₂
def TurnEnd (g : Heap) (L : Addr) (s : Shared) (J : Nat → (Str → Option Value) → List (Addr × Obj) → Prop) (n : Nat) (f : Flow) (s₂ : Shared) : Prop := f = .next ∧ ∃ n', n' < n ∧ EndSt g L s (J n') s₂
theorem endSt {g : Heap} {L : Addr} {s : Shared} {Out : (Str → Option Value) → List (Addr × Obj) → Prop} {h' : Heap} {tk : Nat} {m' : Str → Option Value} {news' : List (Addr × Obj)} (F : Fr g L h' m') (N : News g L h' news') (H : Out m' news') : EndSt g L s Out { s with heap := h', toks := tk } := ⟨h', tk, m', news', rfl, F, N, H⟩
theorem nextEnd {g : Heap} {L : Addr} {s : Shared} {Out : (Str → Option Value) → List (Addr × Obj) → Prop} {h' : Heap} {tk : Nat} {m' : Str → Option Value} {news' : List (Addr × Obj)} (F : Fr g L h' m') (N : News g L h' news') (H : Out m' news') : NextEnd g L s Out .next { s with heap := h', toks := tk } := ⟨rfl, endSt F N H⟩
theorem turnEnd {g : Heap} {L : Addr} {s : Shared} {J : Nat → (Str → Option Value) → List (Addr × Obj) → Prop} {n : Nat} {h' : Heap} {tk : Nat} {m' : Str → Option Value} {news' : List (Addr × Obj)} (n' : Nat) (hn : n' < n) (F : Fr g L h' m') (N : News g L h' news') (H : J n' m' news') : TurnEnd g L s J n .next { s with heap := h', toks := tk } := ⟨rfl, n', hn, endSt F N H⟩
section
variable {prog : Program} {w : World} {A : Around} {E : Value → Shared → Prop} {Q : Flow → Shared → Prop} {s : Shared} {env : Env} {g : Heap} {L : Addr}
theorem while_cut {test : Expr} {body : List Stmt} {pos : Pos} {m : Str → Option Value} {news : List (Addr × Obj)} (J : Nat → (Str → Option Value) → List (Addr × Obj) → Prop) (Out : (Str → Option Value) → List (Addr × Obj) → Prop) {n₀ : Nat}
    (F : Fr g L s.heap m) (N : News g L s.heap news) (hJ : J n₀ m news)
    (turn : ∀ n m₁ news₁ h₁ tk₁, Fr g L h₁ m₁ → News g L h₁ news₁ → J n m₁ news₁ → ∀ (RT : Flow → Shared → Prop) (RE : Shared → Prop), (∀ f s₂, TurnEnd g L s J n f s₂ → RT f s₂) → (∀ s₂, EndSt g L s Out s₂ → RE s₂) →
      wpAny (model prog w) A (isTrue test env (eval test env)) (fun b s₂ => if b = true then wpAny (model prog w) A (execs body env) RT (fun _ _ => False) s₂ else RE s₂) (fun _ _ => False) { s with heap := h₁, toks := tk₁ })
    (done : ∀ h' tk m' news', Fr g L h' m' → News g L h' news' → Out m' news' → Q .next { s with heap := h', toks := tk }) :
    wpAny (model prog w) A (exec (.While test body [] pos) env) Q E s := by
  refine wpAny_noRaise (While_inv2 J F N hJ (fun n m₁ news₁ h₁ tk₁ F₁ N₁ J₁ => ?_) PassesOwn.never)
  refine wpAny_mono (turn n m₁ news₁ h₁ tk₁ F₁ N₁ J₁ _ _ (fun _ _ x => x) fun _ x => x) (fun b s₂ h₂ => ?_) fun _ _ x => x
  cases b with
  | false =>
    simp only [Bool.false_eq_true, if_false] at h₂ ⊢
    obtain ⟨h', tk, m', news', rfl, F', N', H⟩ := h₂
    exact done _ _ _ _ F' N' H
  | true =>
    simp only [if_true] at h₂ ⊢
    refine wpAny_mono h₂ (fun f s₃ h₃ => ?_) fun _ _ x => x
    obtain ⟨rfl, n', hn, h', tk, m', news', e, F', N', H⟩ := h₃
    exact ⟨h', tk, m', news', n', e, F', N', hn, H⟩
theorem seq_cut {st : Stmt} {rest : List Stmt} (Mid : (Str → Option Value) → List (Addr × Obj) → Prop)
    (h1 : ∀ RN : Flow → Shared → Prop, (∀ f s₂, NextEnd g L s Mid f s₂ → RN f s₂) → wpAny (model prog w) A (exec st env) RN (fun _ _ => False) s)
    (h2 : ∀ h' tk m' news', Fr g L h' m' → News g L h' news' → Mid m' news' → wpAny (model prog w) A (execs rest env) Q E { s with heap := h', toks := tk }) :
    wpAny (model prog w) A (execs (st :: rest) env) Q E s := by
  refine wpAny_execs_cons (wpAny_noRaise (wpAny_mono (h1 _ fun _ _ x => x) (fun f s' h => ?_) fun _ _ x => x))
  obtain ⟨rfl, h', tk, m', news', rfl, F', N', H⟩ := h
  exact h2 _ _ _ _ F' N' H
end
theorem item_text {prog : Program} {w : World} {A : Around} {E : Value → Shared → Prop} {s : Shared} {value slice : Expr} {x : Str} {t u : Tok} {i : Int} {c : Nat} {Q : Value → Shared → Prop} (h0 : 0 ≤ i) (h1 : i < 2 ^ 62) (hc : x.cps.toList[i.toNat]? = some c)
    (h : Q (.str ⟨#[c]⟩ s.toks) { s with toks := s.toks + 1 })
    (hs : subscripted slice false (.str x t) (.int i u) = operate [.str x t, .int i u] (getItem (.str x t) (.int i u)) := by with_unfolding_all rfl) :
    wpAny (model prog w) A (subscriptTail value slice (.str x t) (.int i u)) Q E s := by
  have hlt : i.toNat < x.cps.size := by
    have := List.getElem?_eq_some_iff.mp hc
    obtain ⟨q, _⟩ := this
    simpa using q
  refine tail_any (typeIs_str s x t) F.slot_str_getitem.lookup (P.getItem_str (c := c) ?_ ?_ h) hs
  · simp only [Bool.or_eq_false_iff, decide_eq_false_iff_not]; omega
  · have e : seqIndex? i x.length = some i.toNat := by
      unfold seqIndex?
      have h2 : ¬ i < 0 := by omega
      have h3 : i < (x.length : Int) := by show i < (x.cps.size : Int); omega
      simp [h2, h0, h3]
    rw [e]
    show x.cps[i.toNat]? = some c
    rw [← Array.getElem?_toList]; exact hc
theorem get_some {l : List Nat} {i : Nat} (h : i < l.length) : l[(i : Int).toNat]? = some (l.getD i 0) := by
  rw [Int.toNat_natCast, List.getD_eq_getElem?_getD, List.getElem?_eq_getElem h]
  rfl
theorem ite_posB {b : Bool} {P R : Prop} (hc : b = true) (h : P) : if b = true then P else R := by rw [if_pos hc]; exact h
theorem ite_negB {b : Bool} {P R : Prop} (hc : b = false) (h : R) : if b = true then P else R := by rw [hc, if_neg Bool.false_ne_true]; exact h
section
variable {M : Model} {A : Around} {E : Value → Shared → Prop} {s : Shared} {h₀ : Heap} {L : Addr} {m : Str → Option Value} {news : List (Addr × Obj)} {vs : List Value} {Q : Value → Shared → Prop}
theorem newList_L (F : Fr h₀ L s.heap m) (N : News h₀ L s.heap news)
    (h : ∀ l h', Fr h₀ L h' m → News h₀ L h' ((l, listOf vs.toArray 0) :: news) → (∀ p ∈ news, p.1 < l) → L < l → Q (.ref l) { s with heap := h' }) (hsz : vs.length ≤ sizeLine) : wpAny M A (newList vs) Q E s :=
  newList_N F N (fun h' F' N' => h _ h' F' N' (fun p hp => Heap.lt_size (N p hp).1) F.ns.lt) hsz
theorem newTuple_L (F : Fr h₀ L s.heap m) (N : News h₀ L s.heap news)
    (h : ∀ l h', Fr h₀ L h' m → News h₀ L h' ((l, { cls := .type "tuple", data := .seq vs.toArray }) :: news) → (∀ p ∈ news, p.1 < l) → L < l → Q (.ref l) { s with heap := h' }) (hsz : vs.length ≤ sizeLine) : wpAny M A (newTuple vs) Q E s :=
  newTuple_N F N (fun h' F' N' => h _ h' F' N' (fun p hp => Heap.lt_size (N p hp).1) F.ns.lt) hsz
end
theorem stays_trans {l : List Addr} {a b c : Heap} (h : Stays l a b) (k : Stays l b c) : Stays l a c := fun x o n e => k x o n (h x o n e)
theorem stays_mono {l l' : List Addr} {a b : Heap} (h : Stays l a b) (k : ∀ x ∈ l, x ∈ l') : Stays l' a b := fun x o n e => h x o (fun q => n (k x q)) e
/-- what a callee's frame says of the heap that the caller had -/
theorem stays_of {l : List Addr} {h g h' : Heap} {L : Addr} {m : Str → Option Value} (st : ∀ b o, b ∉ l → h.get? b = some o → g.get? b = some o) (F : Fr g L h' m) : Stays l h h' := fun b o n e => F.keep b o (st b o n e)
/-- an address that the call only read -/
theorem stays_less {l l' : List Addr} {h h' : Heap} (S : Stays l h h') (k : ∀ x ∈ l, x ∈ l' ∨ ∃ o, h.get? x = some o ∧ h'.get? x = some o) : Stays l' h h' := fun b o n e => by
  by_cases q : b ∈ l
  · rcases k b q with q' | ⟨o', e1, e2⟩
    · exact absurd q' n
    · rw [e] at e1; cases e1; exact e2
  · exact S b o q e
theorem ne_new {l a : Addr} {o : Obj} {news : List (Addr × Obj)} (h : ∀ p ∈ news, @LT.lt Nat _ p.1 l) (m : (a, o) ∈ news) : @Ne Nat a l := Nat.ne_of_lt (h _ m)
theorem ne_new' {l a : Addr} {o : Obj} {news : List (Addr × Obj)} (h : ∀ p ∈ news, @LT.lt Nat _ p.1 l) (m : (a, o) ∈ news) : @Ne Nat l a := Nat.ne_of_gt (h _ m)
structure Srt (l : List Nat) : Prop where
  p : l.Pairwise (fun a b => a < b)
inductive At : List Nat → Nat → Nat → Prop
  | z {x : Nat} {r : List Nat} : At (x :: r) x 0
  | s {x y : Nat} {r : List Nat} {i : Nat} : At r x i → At (y :: r) x (i + 1)
theorem At.mem {l : List Nat} {x i : Nat} (h : At l x i) : x ∈ l := by
  induction h with
  | z => exact .head _
  | s _ ih => exact .tail _ ih
theorem Srt.lt {l : List Nat} {x i : Nat} (a : At l x i) : ∀ {y j : Nat}, l.Pairwise (fun a b => a < b) → At l y j → i < j → x < y := by
  induction a with
  | z =>
    intro y j h b k
    cases b with
    | z => exact absurd k (Nat.lt_irrefl _)
    | s b => exact (List.pairwise_cons.mp h).1 _ b.mem
  | s a ih =>
    intro y j h b k
    cases b with
    | z => exact absurd k (Nat.not_lt_zero _)
    | s b => exact ih (List.pairwise_cons.mp h).2 b (Nat.lt_of_succ_lt_succ k)
theorem srt_ne {l : List Nat} {x y i j : Nat} (h : Srt l) (a : At l x i) (b : At l y j) (k : Nat.beq i j = false) : @Ne Nat x y := by
  rcases Nat.lt_trichotomy i j with q | q | q
  · exact Nat.ne_of_lt (Srt.lt a h.p b q)
  · subst q; rw [Nat.beq_refl] at k; cases k
  · exact Nat.ne_of_gt (Srt.lt b h.p a q)
theorem Srt.one {a : Nat} : Srt [a] := ⟨List.pairwise_singleton _ _⟩
theorem Srt.add {a b : Nat} {r : List Nat} (h : a < b) (S : Srt (b :: r)) : Srt (a :: b :: r) :=
  ⟨List.pairwise_cons.mpr ⟨fun c hc => by rcases List.mem_cons.mp hc with rfl | hc; exact h; exact Nat.lt_trans h ((List.pairwise_cons.mp S.p).1 c hc), S.p⟩⟩
local macro_rules | `(tactic| k_lt $h:ident) => `(tactic| skip)
local macro_rules | `(tactic| walk_at "mine at") => `(tactic| with_reducible first | exact At.z | (apply At.s; walk_at "mine at"))
local macro_rules | `(tactic| k_ne) => `(tactic| (refine neN ?_; first | with_reducible assumption | exact srt_ne (by with_reducible assumption) (by walk_at "mine at") (by walk_at "mine at") (by exact rfl) | exact ne_new (by with_reducible assumption) (by k_mem) | exact ne_new' (by with_reducible assumption) (by k_mem) | fail))
local macro_rules | `(tactic| walk_at "mine nil") => `(tactic| try dsimp only [List.nil_append, List.cons_append])
local macro_rules | `(tactic| walk_at "mine side") => `(tactic| ((show (_ : Prop)); first | with_reducible assumption | k_dflt (first | assumption | k_updF | k_mem | is_list | with_unfolding_all exact rfl | with_unfolding_all exact Nat.le_of_ble_eq_true rfl | decide | (fail_if_success intro _; omega))))
local macro_rules | `(tactic| walk_at "mine side2") => `(tactic| ((show (_ : Prop)); first | assumption | k_is | decide | exact BindsTo.of_eq rfl | exact locs rfl | exact rfl))
local macro_rules | `(tactic| walk_at "mine end0") => `(tactic| (intros; (try (rename News _ _ _ _ => N9; dsimp only at N9))))
local macro_rules | `(tactic| walk_at "mine end") => `(tactic| (walk_at "mine end0"; (try k_sweep)))
local macro_rules | `(tactic| walk_at "mine enter") => `(tactic| refine wpAny_call ?_; apply enter <;> try (first | exact Fr.keep (by assumption) | walk_at "mine side2"))
local macro_rules | `(tactic| walk_at "mine go") => `(tactic| repeat' (first | (k_unfold; (try dsimp only)) | walk1 | (dsimp only; walk1) | (leave1; (try dsimp only)) | fail "no step"))
local macro_rules | `(tactic| walk_at "exec While BoolOp cons nil") => `(tactic| refine Stop.go ?_)
local macro_rules | `(tactic| walk_at "exec While Compare cons nil") => `(tactic| refine Stop.go ?_)
local macro_rules | `(tactic| walk_at "call builtin:len") => `(tactic| ((with_reducible show wpAny _ _ (call (Value.builtin "len") [Value.str _ _]) _ _ _); refine PySem.P.len_str (by first | exact Nat.le_of_ble_eq_true rfl | omega) ?_))
local macro_rules | `(tactic| walk_at "ite") => `(tactic| first | (refine ite_posB ?c ?_; (case c => with_reducible assumption)) | (refine ite_negB ?c ?_; (case c => with_reducible assumption)))
local macro_rules | `(tactic| walk_at "call builtin:list.append") => `(tactic| (k_here; (with_reducible show wpAny _ _ (call (Value.builtin _) [Value.ref _, _]) _ _ _); k_dflt (refine' append_K ?k1 ?k2 ?k3 ?_ ?z; (case k1 => k_asm); (case k2 => k_asm); (case k3 => k_upd); (case z => (rw [sizeLine_eq]; (simp only [List.size_toArray, List.length_append, List.length_cons, List.length_nil]); omega)); k_whole); intro h' F' N'; (try k_sweep); (try simp only [List.push_toArray] at N')))
local macro_rules | `(tactic| walk_at "newList") => `(tactic| (k_here; k_dflt (refine' newList_L ?k1 ?k2 ?_ ?z; (case k1 => k_asm); (case k2 => k_asm); (case z => size_fits); k_whole); intro l' h' F' N' l1 lL; (try k_lt l1); (try k_lt2 lL); (try k_sweep)))
local macro_rules | `(tactic| walk_at "newTuple") => `(tactic| (k_here; k_dflt (refine' newTuple_L ?k1 ?k2 ?_ ?z; (case k1 => k_asm); (case k2 => k_asm); (case z => size_fits); k_whole); intro l' h' F' N' l1 lL; (try k_lt l1); (try k_lt2 lL); (try k_sweep)))
theorem off02 : True := by (w_top off); exact True.intro
/-- a sign that parts two words -/
def isL (c : Nat) : Bool := c == 32 || c == 9 || c == 13 || c == 10 || c == 11 || c == 12
def notL (c : Nat) : Bool := !isL c
def skipL (l : List Nat) : List Nat := l.dropWhile isL
def wordOf (l : List Nat) : List Nat := (skipL l).takeWhile notL
def restOf (l : List Nat) : List Nat := (skipL l).dropWhile notL
def wordsA : List Nat → List Nat → List (List Nat)
  | [], cur => if cur = [] then [] else [cur]
  | c :: l, cur => if isL c then (if cur = [] then wordsA l [] else cur :: wordsA l []) else wordsA l (cur ++ [c])
def words (l : List Nat) : List (List Nat) := wordsA l []

theorem words_skip (l : List Nat) : words (skipL l) = words l := by
  unfold words skipL
  induction l with
  | nil => rfl
  | cons c l ih =>
    rw [List.dropWhile_cons]
    cases h : isL c with
    | true => simp only [if_true]; rw [ih]; simp [wordsA, h]
    | false => simp
theorem wordsA_take (l cur : List Nat) : wordsA l cur = if cur ++ l.takeWhile notL = [] then words (l.dropWhile notL) else (cur ++ l.takeWhile notL) :: words (l.dropWhile notL) := by
  induction l generalizing cur with
  | nil => simp [wordsA, words]
  | cons c l ih =>
    cases h : isL c with
    | true =>
      have hn : notL c = false := by simp [notL, h]
      simp only [wordsA, h, if_true, List.takeWhile_cons, List.dropWhile_cons, hn, Bool.false_eq_true, if_false, List.append_nil, words]
    | false =>
      have hn : notL c = true := by simp [notL, h]
      simp only [wordsA, h, Bool.false_eq_true, if_false, List.takeWhile_cons, List.dropWhile_cons, hn, if_true]
      rw [ih]
      simp [List.append_assoc]
theorem words_cons (l : List Nat) : words l = if wordOf l = [] then [] else wordOf l :: words (restOf l) := by
  rw [← words_skip]
  show wordsA (skipL l) [] = _
  rw [wordsA_take]
  simp only [List.nil_append]
  show (if wordOf l = [] then words (restOf l) else wordOf l :: words (restOf l)) = _
  by_cases h : wordOf l = []
  · rw [if_pos h, if_pos h]
    -- no word: nothing behind the layout
    have : restOf l = [] := by
      unfold wordOf at h
      unfold restOf
      have hs : ∀ x : List Nat, (x.dropWhile isL).takeWhile notL = [] → x.dropWhile isL = [] := by
        intro x
        induction x with
        | nil => simp
        | cons c x ih =>
          rw [List.dropWhile_cons]
          cases hc : isL c with
          | true => simpa using ih
          | false => simp [notL, hc]
      have := hs l h
      unfold skipL
      rw [this]; rfl
    rw [this]; rfl
  · rw [if_neg h, if_neg h]
/-- texts joined at layout: the words one behind the other -/
theorem wordsA_sep (a b cur : List Nat) (c : Nat) (hc : isL c = true) : wordsA (a ++ c :: b) cur = wordsA a cur ++ words b := by
  induction a generalizing cur with
  | nil => simp only [List.nil_append, wordsA, hc, if_true, words]; by_cases h : cur = [] <;> simp [h]
  | cons x a ih =>
    simp only [List.cons_append, wordsA]
    cases hx : isL x with
    | true => simp only [if_true]; by_cases h : cur = [] <;> simp [h, ih]
    | false => simp only [Bool.false_eq_true, if_false]; exact ih _
theorem words_sep (a b : List Nat) (c : Nat) (hc : isL c = true) : words (a ++ c :: b) = words a ++ words b := wordsA_sep a b [] c hc
theorem words_layout (a b : List Nat) (ha : ∀ c ∈ a, isL c = true) : words (a ++ b) = words b := by
  induction a with
  | nil => rfl
  | cons c a ih =>
    have h1 := ha c (.head _)
    show wordsA (c :: (a ++ b)) [] = _
    simp only [wordsA, h1, if_true]
    exact ih fun x hx => ha x (.tail _ hx)
theorem words_one (a : List Nat) (ha : ∀ c ∈ a, isL c = false) : words a = if a = [] then [] else [a] := by
  have : ∀ cur, wordsA a cur = if cur ++ a = [] then [] else [cur ++ a] := by
    induction a with
    | nil => intro cur; simp [wordsA]
    | cons c a ih =>
      intro cur
      simp only [wordsA, ha c (.head _), Bool.false_eq_true, if_false]
      rw [ih fun x hx => ha x (.tail _ hx)]
      simp
  simpa [words] using this []
abbrev toS (w : List Nat) : Str := ⟨w.toArray⟩
theorem toS_append (a b : List Nat) : toS a ++ toS b = toS (a ++ b) := by
  show Str.mk (a.toArray ++ b.toArray) = Str.mk _
  simp
theorem words_head {l w : List Nat} {ws : List (List Nat)} (h : words l = w :: ws) : wordOf l = w ∧ words (restOf l) = ws ∧ w ≠ [] := by
  rw [words_cons] at h
  split at h
  · cases h
  · rename_i q
    cases h
    exact ⟨rfl, rfl, q⟩
theorem words_none {l : List Nat} (h : words l = []) : wordOf l = [] := by
  rw [words_cons] at h
  split at h
  · assumption
  · cases h
theorem drop_getD {l : List Nat} {i : Nat} (h : i < l.length) : l.drop i = l.getD i 0 :: l.drop (i + 1) := by
  rw [List.drop_eq_getElem_cons h, List.getD_eq_getElem?_getD, List.getElem?_eq_getElem h]
  rfl
theorem skip_step {l : List Nat} {i : Nat} (h : i < l.length) (hc : isL (l.getD i 0) = true) : skipL (l.drop (i + 1)) = skipL (l.drop i) := by
  rw [drop_getD h]
  revert hc
  generalize l.getD i 0 = c
  intro hc
  simp [skipL, hc]
theorem skip_here {l : List Nat} {i : Nat} (h : i < l.length → isL (l.getD i 0) = false) : skipL (l.drop i) = l.drop i := by
  by_cases hi : i < l.length
  · have hc := h hi
    rw [drop_getD hi]
    revert hc
    generalize l.getD i 0 = c
    intro hc
    simp [skipL, hc]
  · rw [List.drop_eq_nil_of_le (by omega)]; rfl
theorem span_at {l : List Nat} {a b : Nat} (hab : a ≤ b) (hb : b ≤ l.length) (hin : ∀ i, a ≤ i → i < b → isL (l.getD i 0) = false) (hx : b < l.length → isL (l.getD b 0) = true) :
    (l.drop a).takeWhile notL = (l.drop a).take (b - a) ∧ (l.drop a).dropWhile notL = l.drop b := by
  obtain ⟨n, rfl⟩ : ∃ n, b = a + n := ⟨b - a, by omega⟩
  induction n generalizing a with
  | zero =>
    by_cases hi : a < l.length
    · have hc := hx (by omega)
      simp only [Nat.add_zero] at hc ⊢
      rw [drop_getD hi]
      revert hc
      generalize l.getD a 0 = c
      intro hc
      simp [notL, hc]
    · rw [List.drop_eq_nil_of_le (by omega)]
      rw [List.drop_eq_nil_of_le (by omega)]; simp
  | succ n ih =>
    have hi : a < l.length := by omega
    have h1 := ih (a := a + 1) (by omega) (by omega) (fun i h1 h2 => hin i (by omega) (by omega)) (by rw [show a + 1 + n = a + (n + 1) by omega]; exact hx)
    have h2 := hin a (by omega) (by omega)
    have e : a + (n + 1) - a = (a + 1 + n - (a + 1)) + 1 := by omega
    rw [drop_getD hi, e]
    simp only [List.takeWhile_cons, List.dropWhile_cons, notL, h2, Bool.not_false, if_true, List.take_succ_cons]
    rw [show a + (n + 1) = a + 1 + n by omega]
    exact ⟨congrArg _ h1.1, h1.2⟩
theorem off03 : True := by (w_top off); exact True.intro
variable {w : World} {b₀ : Heap} {mean : ExcName → Option Value} {mg mb : Str → Option Value}

theorem occ_one (x : Str) (c : Nat) : (Builtin.Str.occurrences x ⟨#[c]⟩ 0 x.length 1).isEmpty = !decide (c ∈ x.cps.toList) := by
  rw [← StrLaws.found_one, Bool.not_not]
theorem is_layout_eq (c : Nat) : (!(Builtin.Str.occurrences (Str.ofString " \t\x0d\n\x0b\x0c") { cps := #[c] } 0 (Str.ofString " \t\x0d\n\x0b\x0c").length 1).isEmpty) = isL c := by
  rw [show Str.ofString " \t\x0d\n\x0b\x0c" = Str.mk #[32, 9, 13, 10, 11, 12] from by decide +kernel]
  rw [StrLaws.found_one]
  simp only [List.mem_cons, List.not_mem_nil, or_false, isL]
  rw [Bool.eq_iff_iff]
  simp [or_assoc]

theorem is_layout_spec {g : Heap} {L : Addr} {A : Around} {m : Str → Option Value} {news : List (Addr × Obj)} {s : Shared} {Q : Value → Shared → Prop} {E : Value → Shared → Prop} {c : Nat} {t : Tok}
   (X : (top0.heap_1 w.params).In g) (T : Top Mine.viewK (looseW Mine.viewK [Str.ofString "GateloomError"]) mean mg mb g) (F : Fr g L s.heap m) (N : News g L s.heap news)
   (h : ∀ h' tk', Fr g L h' m → News g L h' news → Q (.bool (isL c)) { s with heap := h', toks := tk' })
   (hh : A.handled = none) (hd : A.depth ≤ 700) (hu : A.units ≤ 6000) :
   wpAny (model Challenge.rw_sj0032_01.row.prog w) A (call (.ref 82) [.str ⟨#[c]⟩ t]) Q E s := by
  refine wp_le (d := 700) (u := 6000) ?_ hh hd hu
  refine fill (top0.heap_1 w.params) ?_
  k_fill
  intro _
  have hn : ∀ p ∈ ([] : List (Addr × Obj)), s.heap.get? p.1 = some p.2 ∧ g.get? p.1 = none := by intro p hp; cases hp
  walk_at "mine enter"
  intro g' L' h₁ hb' X' T' st F' N' lt
  dsimp only
  k_fold
  k_steps
  show Q (Value.bool _) _
  rw [is_layout_eq]
  have S := stays_of st F'
  exact h _ _ (fr_after F N S (by intro a ha; cases ha)) (news_after N S)

local macro_rules | `(tactic| walk_at "call ref") => `(tactic| (((with_reducible show wpAny _ _ (call (Value.ref 82) [Value.str _ _] _) _ _ _); apply is_layout_spec <;> try walk_at "mine side"); walk_at "mine end"))
local macro_rules | `(tactic| walk_at "binaryOp Add str str") => `(tactic| ((with_reducible show wpAny _ _ (binaryOp Operator.Add (Value.str _ _) (Value.str _ _)) _ _ _); refine SB.add ?_ ?hsz; (case hsz => (rw [sizeLine_eq]; omega)); intro t9 k9; (try rw [toS_append])))
local macro_rules | `(tactic| walk_at "subscriptTail Name Constant str int") => `(tactic| ((with_reducible show wpAny _ _ (subscriptTail _ _ (Value.str _ _) (Value.int _ _)) _ _ _); refine item_text (by first | decide | omega) (by first | decide | omega) (by assumption) ?_))
local macro_rules | `(tactic| walk_at "subscriptTail Name Attribute str int") => `(tactic| ((with_reducible show wpAny _ _ (subscriptTail _ _ (Value.str _ _) (Value.int _ _)) _ _ _); refine item_text (by first | decide | omega) (by first | decide | omega) (by assumption) ?_))
/-- a row of words: its text, its place, the last word's place -/
abbrev wrD (w : World) (k1 k2 k3 : Tok) (x : Str) (tx : Tok) (p : Int) (tp : Tok) (a : Int) (ta : Tok) : Obj :=
  dictOf [⟨PyData.keyHash w.params (Str.ofString "text"), .str (Str.ofString "text") k1, .str x tx⟩, ⟨PyData.keyHash w.params (Str.ofString "place"), .str (Str.ofString "place") k2, .int p tp⟩, ⟨PyData.keyHash w.params (Str.ofString "at"), .str (Str.ofString "at") k3, .int a ta⟩] 3

theorem take_spec {g : Heap} {L x dx : Addr} {A : Around} {m : Str → Option Value} {news : List (Addr × Obj)} {u : Obj → List (Addr × Obj)} {s : Shared} {Q : Value → Shared → Prop} {E : Value → Shared → Prop} {k1 k2 k3 tx tp ta : Tok} {txt : Str} {p : Nat} {a : Int}
   (X : (top0.heap_1 w.params).In g) (T : Top Mine.viewK (looseW Mine.viewK [Str.ofString "GateloomError"]) mean mg mb g) (F : Fr g L s.heap m) (N : News g L s.heap news)
   (hx0 : (x, instObj 113 dx) ∈ news) (U : UpdF dx (wrD w k1 k2 k3 txt tx p tp a ta) news u) (hp : p ≤ txt.length) (hl : txt.length ≤ 1000000)
   (h : ∀ h' tk' (p' : Nat) tp' (a' : Int) ta' t, Fr g L h' m → News g L h' (u (wrD w k1 k2 k3 txt tx p' tp' a' ta')) → p' ≤ txt.length → 0 ≤ a' → a' ≤ 1000000 → txt.cps.toList.drop p' = restOf (txt.cps.toList.drop p) →
     Q (.str ⟨(wordOf (txt.cps.toList.drop p)).toArray⟩ t) { s with heap := h', toks := tk' })
   (hh : A.handled = none) (hd : A.depth ≤ 650) (hu : A.units ≤ 5000) :
   wpAny (model Challenge.rw_sj0032_01.row.prog w) A (call (.ref 103) [.ref x]) Q E s := by
  refine wp_le (d := 650) (u := 5000) ?_ hh hd hu
  refine fill (top0.heap_1 w.params) ?_
  k_fill
  intro _
  have hdm := updF_mem U
  have hn : ∀ q ∈ [(x, instObj 113 dx), (dx, wrD w k1 k2 k3 txt tx p tp a ta)], s.heap.get? q.1 = some q.2 ∧ g.get? q.1 = none := by
    intro q hq
    rcases List.mem_cons.mp hq with rfl | hq
    · exact ⟨(N _ hx0).1, (N _ hx0).2.2⟩
    · rw [List.mem_singleton.mp hq]; exact ⟨(N _ hdm).1, (N _ hdm).2.2⟩
  have hne : (x : Nat) ≠ dx := by
    intro e
    have h1 := (N _ hx0).1
    have h2 := (N _ hdm).1
    rw [e] at h1
    rw [h1] at h2
    exact absurd (congrArg Obj.cls (Option.some.inj h2)) (by simp [instObj])
  walk_at "mine enter"
  intro g' L' h₁ hb' X' T' st F' N' lt
  dsimp only
  obtain ⟨m₀, F'⟩ := fr_hide (ps := [(Str.ofString "self", .ref x)]) F' ⟨rfl, trivial⟩
  dsimp only [kstB] at F'
  k_fold
  walk_at "mine go"
  rename_i F1 N1
  refine Stop.go ?_
  unfold Stop
  refine while_cut (fun n m₁ news₁ => Nm m₁ [(Str.ofString "self", .ref x), (Str.ofString "text", .str txt tx)] ∧ ∃ (p' : Nat) (tp' : Tok), news₁ = [(x, instObj 113 dx), (dx, wrD w k1 k2 k3 txt tx p' tp' a ta)] ∧ p' ≤ txt.length ∧ n = txt.length - p' ∧ skipL (txt.cps.toList.drop p') = skipL (txt.cps.toList.drop p))
    (fun m₁ news₁ => Nm m₁ [(Str.ofString "self", .ref x), (Str.ofString "text", .str txt tx)] ∧ ∃ (p' : Nat) (tp' : Tok), news₁ = [(x, instObj 113 dx), (dx, wrD w k1 k2 k3 txt tx p' tp' a ta)] ∧ p' ≤ txt.length ∧ txt.cps.toList.drop p' = skipL (txt.cps.toList.drop p))
    F1 N1 (n₀ := txt.length - p) ⟨⟨rfl, rfl, trivial⟩, p, tp, rfl, hp, rfl, rfl⟩ ?_ ?_
  · intro n m₁ news₁ h₂ tk₂ F2 N2 HJ RT RE hT hE
    obtain ⟨hm, p', tp', rfl, hp', hn', hsk⟩ := HJ
    have F2 := fr_names F2 hm
    dsimp only [kstB] at F2
    have hc : p' < txt.length → txt.cps.toList[(p' : Int).toNat]? = some (txt.cps.toList.getD p' 0) := fun hlt => get_some (by simpa [Str.length] using hlt)
    by_cases hlt : p' < txt.length
    · have hc := hc hlt
      walk_at "mine go"
      · rename_i hi h' F' N'
        exact hT _ _ <| turnEnd (txt.length - (p' + 1)) (by omega) F' N' ⟨⟨rfl, rfl, trivial⟩, p' + 1, _, rfl, hlt, rfl, (skip_step (by simpa [Str.length] using hlt) hi).trans hsk⟩
      · rename_i F9 N9 hi
        exact hE _ <| endSt F9 N9 ⟨⟨rfl, rfl, trivial⟩, p', tp', rfl, hp', hsk ▸ (skip_here fun _ => hi).symm⟩
    · clear hc
      walk_at "mine go"
      exact hE _ <| endSt F2 N2 ⟨⟨rfl, rfl, trivial⟩, p', tp', rfl, hp', hsk ▸ (skip_here fun q => absurd (by simpa [Str.length] using q) hlt).symm⟩
  · intro h2 tk2 m2 news2 F2 N2 HO
    obtain ⟨hm, p', tp', rfl, hp', hsk⟩ := HO
    have F2 := fr_names F2 hm
    dsimp only [kstB] at F2
    walk_at "mine go"
    rename_i F3 N3
    refine Stop.go ?_
    unfold Stop
    refine while_cut (fun n m₁ news₁ => Nm m₁ [(Str.ofString "self", .ref x), (Str.ofString "text", .str txt tx)] ∧ ∃ (p2 : Nat) (tp2 : Tok), news₁ = [(x, instObj 113 dx), (dx, wrD w k1 k2 k3 txt tx p2 tp2 p' tp')] ∧ p' ≤ p2 ∧ p2 ≤ txt.length ∧ n = txt.length - p2 ∧ ∀ i, p' ≤ i → i < p2 → isL (txt.cps.toList.getD i 0) = false)
      (fun m₁ news₁ => Nm m₁ [(Str.ofString "self", .ref x), (Str.ofString "text", .str txt tx)] ∧ ∃ (p2 : Nat) (tp2 : Tok), news₁ = [(x, instObj 113 dx), (dx, wrD w k1 k2 k3 txt tx p2 tp2 p' tp')] ∧ p' ≤ p2 ∧ p2 ≤ txt.length ∧ (∀ i, p' ≤ i → i < p2 → isL (txt.cps.toList.getD i 0) = false) ∧ (p2 < txt.cps.toList.length → isL (txt.cps.toList.getD p2 0) = true))
      F3 N3 (n₀ := txt.length - p') ⟨⟨rfl, rfl, trivial⟩, p', tp', rfl, Nat.le_refl _, hp', rfl, by omega⟩ ?_ ?_
    · intro n m₁ news₁ h₂ tk₂ F2 N2 HJ RT RE hT hE
      obtain ⟨hm, p2, tp2, rfl, hp1, hp2, hn', hin⟩ := HJ
      have F2 := fr_names F2 hm
      dsimp only [kstB] at F2
      have hc : p2 < txt.length → txt.cps.toList[(p2 : Int).toNat]? = some (txt.cps.toList.getD p2 0) := fun hlt => get_some (by simpa [Str.length] using hlt)
      by_cases hlt : p2 < txt.length
      · have hc := hc hlt
        walk_at "mine go"
        · rename_i F9 N9 hi
          exact hE _ <| endSt F9 N9 ⟨⟨rfl, rfl, trivial⟩, p2, tp2, rfl, hp1, hp2, hin, fun _ => hi⟩
        · rename_i hi h' F' N'
          refine hT _ _ <| turnEnd (txt.length - (p2 + 1)) (by omega) F' N' ⟨⟨rfl, rfl, trivial⟩, p2 + 1, _, rfl, by omega, hlt, rfl, fun i h1 h2 => ?_⟩
          by_cases e : i = p2
          · rw [e]; exact hi
          · exact hin i h1 (by omega)
      · clear hc
        walk_at "mine go"
        exact hE _ <| endSt F2 N2 ⟨⟨rfl, rfl, trivial⟩, p2, tp2, rfl, hp1, hp2, hin, fun q => absurd (by simpa [Str.length] using q) hlt⟩
    · intro h2 tk2 m2 news2 F2 N2 HO
      obtain ⟨hm, p2, tp2, rfl, hp1, hp2, hin, hx⟩ := HO
      have F2 := fr_names F2 hm
      dsimp only [kstB] at F2
      walk_at "mine go"
      rename_i h' t' k F4 N4 hle
      show Q (Value.str (Txt.slice txt (some (p' : Int)) (some (p2 : Int))) t') _
      rw [show Txt.slice txt (some (p' : Int)) (some (p2 : Int)) = ⟨((txt.cps.toList.drop p').take (p2 - p')).toArray⟩ from StrLaws.sliceText_nat txt hp1 hp2]
      have hs := span_at hp1 (by simpa [Str.length] using hp2) hin hx
      rw [← hs.1, hsk]
      have hd' := hs.2
      rw [hsk] at hd'
      have S : Stays [dx] s.heap h' := stays_less (stays_of st F4) (by
        intro q hq
        rcases List.mem_cons.mp hq with rfl | hq
        · exact .inr ⟨_, (N _ hx0).1, (N4 _ (.head _)).1⟩
        · exact .inl hq)
      refine h _ _ p2 tp2 (p' : Int) tp' t' (fr_after F N S ?_) (news_after1 N U S ?_) hp2 (by omega) (by omega) hd'.symm
      · intro a ha; rw [List.mem_singleton.mp ha]; exact ⟨_, hdm⟩
      · exact (N4 _ (.tail _ (.head _))).1
local macro_rules | `(tactic| walk_at "call ref") => `(tactic| ((walk_at "mine nil"; (with_reducible show wpAny _ _ (call (Value.ref 103) [Value.ref _] _) _ _ _); apply take_spec <;> try walk_at "mine side"); walk_at "mine end"))
theorem off04 : True := by (w_top off); exact True.intro
def LoopEnd (g : Heap) (L : Addr) (J : (Str → Option Value) → List (Addr × Obj) → Prop) (own : List (Addr × Obj)) (s : Shared) (f : Flow) (s₂ : Shared) : Prop := f = .next ∧ InvEndG g L J own s s₂
theorem loopEnd {g : Heap} {L : Addr} {J : (Str → Option Value) → List (Addr × Obj) → Prop} {m' : Str → Option Value} {own news' : List (Addr × Obj)} {s₁ : Shared} {h' : Heap} {tk : Nat} (nx : List (Addr × Obj)) (F : Fr g L h' m') (N : News g L h' news')
    (hj : J m' nx) (ha : OwnOff own (nx.map (·.1))) (hn : ∀ p ∈ nx, p ∈ news') (ho : ∀ p ∈ own, p ∈ news') : LoopEnd g L J own s₁ .next { s₁ with heap := h', toks := tk } := ⟨rfl, InvEndG.intro F N hj ha hn ho⟩
section
variable {prog : Program} {w : World} {A : Around} {E : Value → Shared → Prop} {s : Shared} {env : Env} {g : Heap} {x : Str} {body : List Stmt} {Q : Flow → Shared → Prop} {m₀ : Str → Option Value} {news : List (Addr × Obj)}
theorem loop_cut {n : Nat} {P : Nat → Value → Prop} {St : Nat → Heap → Prop} {o : Obj} (J : Nat → (Str → Option Value) → List (Addr × Obj) → Prop)
    (W : Walks prog w A s.heap.objs.size [s.heap.objs.size] [s.heap.objs.size] n P St) (hst : St 0 (s.heap.push o)) (hob : ∀ i h, St i h → ∃ o, h.get? s.heap.objs.size = some o)
    (F : Fr g env.locals s.heap m₀) (N : News g env.locals s.heap news) (hj : J 0 m₀ news)
    (turn : ∀ i v m₁ nx h tk own, i < n → P i v → OwnOff own (nx.map (·.1)) → J i m₁ nx → Fr g env.locals h (fun y => if y = x then some v else m₁ y) → News g env.locals h (nx ++ own) →
      ∀ RL : Flow → Shared → Prop, (∀ f s₂, LoopEnd g env.locals (J (i + 1)) own { s with heap := h, toks := tk } f s₂ → RL f s₂) → wpAny (model prog w) A (execs body env) RL (fun _ _ => False) { s with heap := h, toks := tk })
    (done : ∀ m₁ nx h tk, J n m₁ nx → Fr g env.locals h m₁ → News g env.locals h nx → Q .next { s with heap := h, toks := tk }) :
    LoopAtV prog w A g env x body Q E (.ref s.heap.objs.size) { s with heap := s.heap.push o } := by
  refine kdr_loop J W (fun _ h => h) (fun _ h => h) ?_ ?_ ?_ ?_ hst (F.push _) (fun p hp => ⟨Heap.get?_push_of_some _ (N p hp).1, (N p hp).2⟩) hj ?_ (fun m₁ nx h tk a b c => done m₁ nx h tk a b c)
  · intro i h hi b hb
    rw [List.mem_singleton.mp hb]
    exact hob i h hi
  · intro hm
    exact absurd F.ns.lt ((List.mem_singleton.mp hm) ▸ Nat.lt_irrefl _)
  · intro b hb
    rw [List.mem_singleton.mp hb]
    exact next_is_new F
  · intro p hp hI
    exact absurd (Heap.lt_size (N p hp).1) ((List.mem_singleton.mp hI) ▸ Nat.lt_irrefl _)
  · intro i v m₁ nx h tk own hi hP hoff hJ F₁ N₁
    refine wpAny_noRaise (wpAny_mono (turn i v m₁ nx h tk own hi hP hoff hJ F₁ N₁ _ fun _ _ p => p) (fun f s₂ p => ?_) fun _ _ y => y)
    obtain ⟨rfl, p⟩ := p
    exact p
theorem iter_text_cut {xt : Str} {tx : Tok} (J : Nat → (Str → Option Value) → List (Addr × Obj) → Prop)
    (hh : A.handled = none) (F : Fr g env.locals s.heap m₀) (N : News g env.locals s.heap news) (hj : J 0 m₀ news)
    (turn : ∀ i c t m₁ nx h tk own, i < xt.length → xt.cps.toList[i]? = some c → OwnOff own (nx.map (·.1)) → J i m₁ nx → Fr g env.locals h (fun y => if y = x then some (.str ⟨#[c]⟩ t) else m₁ y) → News g env.locals h (nx ++ own) →
      ∀ RL : Flow → Shared → Prop, (∀ f s₂, LoopEnd g env.locals (J (i + 1)) own { s with heap := h, toks := tk } f s₂ → RL f s₂) → wpAny (model prog w) A (execs body env) RL (fun _ _ => False) { s with heap := h, toks := tk })
    (done : ∀ m₁ nx h tk, J xt.length m₁ nx → Fr g env.locals h m₁ → News g env.locals h nx → Q .next { s with heap := h, toks := tk }) :
    wpAny (model prog w) A (pyIter (.str xt tx)) (fun it s₂ => LoopAtV prog w A g env x body Q E it s₂) E s := by
  cases ha : xt.cps.all (· < 128)
  · refine wpAny_pyIter_wide ha ?_
    refine loop_cut J (Walks.strWide hh _ xt tx) ⟨_, Heap.get?_push_size _ rfl, rfl, rfl⟩ (fun i h st => ⟨_, st.choose_spec.1⟩) F N hj (fun i v m₁ nx h tk own hi hP => ?_) done
    obtain ⟨c, u, hc, rfl⟩ := hP
    exact turn i c u m₁ nx h tk own hi (by rw [Array.getElem?_toList]; exact hc)
  · refine wpAny_pyIter_ascii ha ?_
    refine loop_cut J (Walks.strAscii hh _ xt tx) ⟨_, Heap.get?_push_size _ rfl, rfl, rfl⟩ (fun i h st => ⟨_, st.choose_spec.1⟩) F N hj (fun i v m₁ nx h tk own hi hP => ?_) done
    obtain ⟨c, u, hc, rfl⟩ := hP
    exact turn i c u m₁ nx h tk own hi (by rw [Array.getElem?_toList]; exact hc)
theorem iter_range_cut {r : Addr} {a b c : Int} {t₀ u₀ v₀ : Tok} {n : Nat} (J : Nat → (Str → Option Value) → List (Addr × Obj) → Prop)
    (hh : A.handled = none) (hr : IsRange s.heap r a b c t₀ u₀ v₀) (hsmall : Builtin.Range.small a b c = true) (hn : Builtin.Range.rangeSize a b c = (n : Int)) (F : Fr g env.locals s.heap m₀) (N : News g env.locals s.heap news) (hj : J 0 m₀ news)
    (turn : ∀ (i : Nat) t m₁ nx h tk own, i < n → OwnOff own (nx.map (·.1)) → J i m₁ nx → Fr g env.locals h (fun y => if y = x then some (.int (a + i * c) t) else m₁ y) → News g env.locals h (nx ++ own) →
      ∀ RL : Flow → Shared → Prop, (∀ f s₂, LoopEnd g env.locals (J (i + 1)) own { s with heap := h, toks := tk } f s₂ → RL f s₂) → wpAny (model prog w) A (execs body env) RL (fun _ _ => False) { s with heap := h, toks := tk })
    (done : ∀ m₁ nx h tk, J n m₁ nx → Fr g env.locals h m₁ → News g env.locals h nx → Q .next { s with heap := h, toks := tk }) :
    wpAny (model prog w) A (pyIter (.ref r)) (fun it s₂ => LoopAtV prog w A g env x body Q E it s₂) E s := by
  refine wpAny_pyIter_range hr hsmall ?_
  have W : Walks prog w A s.heap.objs.size [s.heap.objs.size] [s.heap.objs.size] n (fun i v => i < n ∧ ∃ t, v = .int (a + i * c) t)
      (fun i h => IsRangeIter h s.heap.objs.size (a + (i : Nat) * c) ((n : Int) - (i : Nat)) c) := (Walks.range hh _ a c n).bound
  refine loop_cut J W (by show IsRangeIter _ _ _ _ _; rw [hn]; simpa using Heap.get?_push_size _ rfl) (fun i h hi => ⟨_, hi⟩) F N hj (fun i v m₁ nx h tk own hi hP => ?_) done
  obtain ⟨_, t, rfl⟩ := hP
  exact turn i t m₁ nx h tk own hi
theorem iter_list_cut {l : Addr} {vs : List Value} {nn : Nat} (J : Nat → (Str → Option Value) → List (Addr × Obj) → Prop)
    (hh : A.handled = none) (hl : (l, listOf vs.toArray nn) ∈ news) (F : Fr g env.locals s.heap m₀) (N : News g env.locals s.heap news) (hj : J 0 m₀ news)
    (turn : ∀ i v m₁ news₁ h tk own, vs[i]? = some v → OwnOff own (news₁.map (·.1)) → (l, listOf vs.toArray nn) ∈ news₁ → J i m₁ news₁ → Fr g env.locals h (fun y => if y = x then some v else m₁ y) → News g env.locals h (news₁ ++ own) →
      ∀ RL : Flow → Shared → Prop, (∀ f s₂, LoopEnd g env.locals (fun m' nx => (l, listOf vs.toArray nn) ∈ nx ∧ J (i + 1) m' nx) own { s with heap := h, toks := tk } f s₂ → RL f s₂) → wpAny (model prog w) A (execs body env) RL (fun _ _ => False) { s with heap := h, toks := tk })
    (done : ∀ m₁ news₁ h tk, J vs.length m₁ news₁ → Fr g env.locals h m₁ → News g env.locals h news₁ → Q .next { s with heap := h, toks := tk }) :
    wpAny (model prog w) A (pyIter (.ref l)) (fun it s₂ => LoopAtV prog w A g env x body Q E it s₂) E s := by
  refine kdl_iter J hh hl F N hj (fun i v m₁ nx h tk own h1 h2 h3 h4 F₁ N₁ => ?_) (fun m₁ nx h tk a b c => done m₁ nx h tk a b c)
  refine wpAny_noRaise (wpAny_mono (turn i v m₁ nx h tk own h1 h2 h3 h4 F₁ N₁ _ fun _ _ p => p) (fun f s₂ p => ?_) fun _ _ y => y)
  obtain ⟨rfl, p⟩ := p
  exact p
theorem For_go {iter : Expr} {px pos : Pos} (F : Fr g env.locals s.heap m₀) (hx : env.kindOf x = some .local)
    (hp : (env.scope.kind == .class || (env.scope.kind == .module && env.locals != env.globals)) = false)
    (h : wpAny (model prog w) A (eval iter env) (fun xv s₁ => wpAny (model prog w) A (pyIter xv) (fun it s₂ => LoopAtV prog w A g env x body Q (fun _ _ => False) it s₂) (fun _ _ => False) s₁) (fun _ _ => False) s)
    (hs : ∀ y, foldedSetIterable iter env y = pure y := by intro _; rfl) :
    wpAny (model prog w) A (exec (.For (.Name x px) iter body [] pos) env) Q E s :=
  wpAny_noRaise (For_invVF F hx hp h hs PassesOwn.never)
end
local macro_rules | `(tactic| walk_at "exec For Name Name cons nil") => `(tactic| ((with_reducible rename Fr _ _ _ _ => lF'); with_unfolding_all refine' For_go lF' ?k1 ?k2 ?_; (case k1 => exact rfl); (case k2 => exact rfl)))
local macro_rules | `(tactic| walk_at "exec For Name Call cons nil") => `(tactic| ((with_reducible rename Fr _ _ _ _ => lF'); with_unfolding_all refine' For_go lF' ?k1 ?k2 ?_; (case k1 => exact rfl); (case k2 => exact rfl)))
local macro_rules | `(tactic| walk_at "pyIter str") => `(tactic| refine Stop.go ?_)
local macro_rules | `(tactic| walk_at "pyIter ref") => `(tactic| refine Stop.go ?_)
section
variable {M : Model} {A : Around} {E : Value → Shared → Prop} {s : Shared} {env : Env} {pos p : Pos} {id : String} {first : List Value} {rest : List Expr} {Q : Value → Shared → Prop}
theorem cw_name {nm : Str} (h : wpAny M A (spliced (backTo pos (starEach ((.Name nm p) :: rest) env))) (fun vs s₁ => wpAny M A (call (.builtin id) (first ++ vs)) Q E s₁) E s)
    (hplain : (backTo pos (starEach rest env)).any (·.1) = false) : wpAny M A (callWith pos (.builtin id) first (backTo pos (starEach ((.Name nm p) :: rest) env)) []) Q E s := PyProof.Rows.callWith_method1 h rfl hplain
theorem cw_sub {a b : Expr} (h : wpAny M A (spliced (backTo pos (starEach ((.Subscript a b p) :: rest) env))) (fun vs s₁ => wpAny M A (call (.builtin id) (first ++ vs)) Q E s₁) E s)
    (hplain : (backTo pos (starEach rest env)).any (·.1) = false) : wpAny M A (callWith pos (.builtin id) first (backTo pos (starEach ((.Subscript a b p) :: rest) env)) []) Q E s := PyProof.Rows.callWith_method1 h rfl hplain
theorem cw_attr {a : Expr} {nm : Str} (h : wpAny M A (spliced (backTo pos (starEach ((.Attribute a nm p) :: rest) env))) (fun vs s₁ => wpAny M A (call (.builtin id) (first ++ vs)) Q E s₁) E s)
    (hplain : (backTo pos (starEach rest env)).any (·.1) = false) : wpAny M A (callWith pos (.builtin id) first (backTo pos (starEach ((.Attribute a nm p) :: rest) env)) []) Q E s := PyProof.Rows.callWith_method1 h rfl hplain
theorem cw_const {c : Const} {k : _} (h : wpAny M A (spliced (backTo pos (starEach ((.Constant c k p) :: rest) env))) (fun vs s₁ => wpAny M A (call (.builtin id) (first ++ vs)) Q E s₁) E s)
    (hplain : (backTo pos (starEach rest env)).any (·.1) = false) : wpAny M A (callWith pos (.builtin id) first (backTo pos (starEach ((.Constant c k p) :: rest) env)) []) Q E s := PyProof.Rows.callWith_method1 h rfl hplain
theorem cw_call {a : Expr} {as : List Expr} {ks : List Keyword} (h : wpAny M A (spliced (backTo pos (starEach ((.Call a as ks p) :: rest) env))) (fun vs s₁ => wpAny M A (call (.builtin id) (first ++ vs)) Q E s₁) E s)
    (hplain : (backTo pos (starEach rest env)).any (·.1) = false) : wpAny M A (callWith pos (.builtin id) first (backTo pos (starEach ((.Call a as ks p) :: rest) env)) []) Q E s := PyProof.Rows.callWith_method1 h rfl hplain
theorem cw_bin {a b : Expr} {op : Operator} (h : wpAny M A (spliced (backTo pos (starEach ((.BinOp a op b p) :: rest) env))) (fun vs s₁ => wpAny M A (call (.builtin id) (first ++ vs)) Q E s₁) E s)
    (hplain : (backTo pos (starEach rest env)).any (·.1) = false) : wpAny M A (callWith pos (.builtin id) first (backTo pos (starEach ((.BinOp a op b p) :: rest) env)) []) Q E s := PyProof.Rows.callWith_method1 h rfl hplain
theorem cw_list {as : List Expr} (h : wpAny M A (spliced (backTo pos (starEach ((.List as p) :: rest) env))) (fun vs s₁ => wpAny M A (call (.builtin id) (first ++ vs)) Q E s₁) E s)
    (hplain : (backTo pos (starEach rest env)).any (·.1) = false) : wpAny M A (callWith pos (.builtin id) first (backTo pos (starEach ((.List as p) :: rest) env)) []) Q E s := PyProof.Rows.callWith_method1 h rfl hplain
theorem cw_tup {as : List Expr} (h : wpAny M A (spliced (backTo pos (starEach ((.Tuple as k p) :: rest) env))) (fun vs s₁ => wpAny M A (call (.builtin id) (first ++ vs)) Q E s₁) E s)
    (hplain : (backTo pos (starEach rest env)).any (·.1) = false) : wpAny M A (callWith pos (.builtin id) first (backTo pos (starEach ((.Tuple as k p) :: rest) env)) []) Q E s := PyProof.Rows.callWith_method1 h rfl hplain
theorem cw_joined {as : List Expr} (h : wpAny M A (spliced (backTo pos (starEach ((.JoinedStr as p) :: rest) env))) (fun vs s₁ => wpAny M A (call (.builtin id) (first ++ vs)) Q E s₁) E s)
    (hplain : (backTo pos (starEach rest env)).any (·.1) = false) : wpAny M A (callWith pos (.builtin id) first (backTo pos (starEach ((.JoinedStr as p) :: rest) env)) []) Q E s := PyProof.Rows.callWith_method1 h rfl hplain
end
local macro_rules | `(tactic| walk_at "callWith") => `(tactic| first | (refine cw_name ?_ (by with_unfolding_all exact rfl)) | (refine cw_sub ?_ (by with_unfolding_all exact rfl)) | (refine cw_attr ?_ (by with_unfolding_all exact rfl)) | (refine cw_const ?_ (by with_unfolding_all exact rfl)) | (refine cw_call ?_ (by with_unfolding_all exact rfl)) | (refine cw_bin ?_ (by with_unfolding_all exact rfl)) | (refine cw_list ?_ (by with_unfolding_all exact rfl)) | (refine cw_tup ?_ (by with_unfolding_all exact rfl)) | (refine cw_joined ?_ (by with_unfolding_all exact rfl)))
theorem off05 : True := by (w_top off); exact True.intro
abbrev END : List Nat := [36, 101, 110, 100]
theorem toS_end : Str.ofString "$end" = toS END := by decide +kernel
theorem toS_empty : Str.ofString "" = toS [] := by decide +kernel
theorem toS_inj {a b : List Nat} (h : toS a = toS b) : a = b := by
  have := congrArg (fun x : Str => x.cps.toList) h
  simpa using this
inductive UntilJ (w : World) (x : Addr) (fl : Addr) (dx : Addr) (a : Int) (ta : Tok) (k1 : Tok) (k2 : Tok) (k3 : Tok) (txt : Str) (tx : Tok) (parts : List (List Nat)) (rest : List (List Nat)) (n : Nat) (m₁ : Str → Option Value) (news₁ : List (Addr × Obj)) : Prop
  | mk (dn rem : List (List Nat)) (c : List Nat) (tc : Tok) (p' : Nat) (tp' : Tok) (a' : Int) (ta' : Tok) (vs : List Value) (k : Nat) (q0 : Nm m₁ [(Str.ofString "self", .ref x), (Str.ofString "found", .ref fl), (Str.ofString "start", .int a ta), (Str.ofString "word", .str (toS c) tc)]) (q1 : news₁ = [(fl, listOf vs.toArray k), (x, instObj 113 dx), (dx, wrD w k1 k2 k3 txt tx p' tp' a' ta')]) (q2 : parts = dn ++ rem) (q3 : StrsAre vs (dn.map toS)) (q4 : c :: words (txt.cps.toList.drop p') = rem ++ END :: rest) (q5 : c ≠ []) (q6 : n = rem.length) (q7 : p' ≤ txt.length) (q8 : 0 ≤ a') (q9 : a' ≤ 1000000) : UntilJ w x fl dx a ta k1 k2 k3 txt tx parts rest n m₁ news₁
inductive UntilO (w : World) (x : Addr) (fl : Addr) (dx : Addr) (k1 : Tok) (k2 : Tok) (k3 : Tok) (txt : Str) (tx : Tok) (parts : List (List Nat)) (rest : List (List Nat)) (m₁ : Str → Option Value) (news₁ : List (Addr × Obj)) : Prop
  | mk (p' : Nat) (tp' : Tok) (a' : Int) (ta' : Tok) (vs : List Value) (k : Nat) (q0 : Nm m₁ [(Str.ofString "found", .ref fl)]) (q1 : news₁ = [(fl, listOf vs.toArray k), (x, instObj 113 dx), (dx, wrD w k1 k2 k3 txt tx p' tp' a' ta')]) (q2 : StrsAre vs (parts.map toS)) (q3 : words (txt.cps.toList.drop p') = rest) (q4 : p' ≤ txt.length) (q5 : 0 ≤ a') (q6 : a' ≤ 1000000) : UntilO w x fl dx k1 k2 k3 txt tx parts rest m₁ news₁
theorem until_end_spec {w : World} {mean : ExcName → Option Value} {mg mb : Str → Option Value} {g : Heap} {L x dx : Addr} {A : Around} {m : Str → Option Value} {news : List (Addr × Obj)} {u : Obj → List (Addr × Obj)} {s : Shared} {Q : Value → Shared → Prop} {E : Value → Shared → Prop} {k1 k2 k3 tx tp ta : Tok} {txt : Str} {p : Nat} {a : Int} {parts rest : List (List Nat)}
   (X : (top0.heap_1 w.params).In g) (T : Top Mine.viewK (looseW Mine.viewK [Str.ofString "GateloomError"]) mean mg mb g) (F : Fr g L s.heap m) (N : News g L s.heap news)
   (hx0 : (x, instObj 113 dx) ∈ news) (U : UpdF dx (wrD w k1 k2 k3 txt tx p tp a ta) news u) (hp : p ≤ txt.length) (hl : txt.length ≤ 1000000)
   (hw : words (txt.cps.toList.drop p) = parts ++ END :: rest) (hne : END ∉ parts) (hpl : parts.length ≤ 1000000)
   (h : ∀ h' tk' (p' : Nat) tp' (a' : Int) ta' r vs k, Fr g L h' m → News g L h' ((r, listOf vs.toArray k) :: u (wrD w k1 k2 k3 txt tx p' tp' a' ta')) → s.heap.objs.size ≤ r → StrsAre vs (parts.map toS) → p' ≤ txt.length → 0 ≤ a' → a' ≤ 1000000 → words (txt.cps.toList.drop p') = rest →
     Q (.ref r) { s with heap := h', toks := tk' })
   (hh : A.handled = none) (hd : A.depth ≤ 600) (hu : A.units ≤ 4000) :
   wpAny (model Challenge.rw_sj0032_01.row.prog w) A (call (.ref 110) [.ref x]) Q E s := by
  refine wp_le (d := 600) (u := 4000) ?_ hh hd hu
  refine fill (top0.heap_1 w.params) ?_
  k_fill
  intro _
  have hdm := updF_mem U
  have hn : ∀ q ∈ [(x, instObj 113 dx), (dx, wrD w k1 k2 k3 txt tx p tp a ta)], s.heap.get? q.1 = some q.2 ∧ g.get? q.1 = none := by
    intro q hq
    rcases List.mem_cons.mp hq with rfl | hq
    · exact ⟨(N _ hx0).1, (N _ hx0).2.2⟩
    · rw [List.mem_singleton.mp hq]; exact ⟨(N _ hdm).1, (N _ hdm).2.2⟩
  have hxd : (x : Nat) ≠ dx := by
    intro e
    have h1 := (N _ hx0).1
    have h2 := (N _ hdm).1
    rw [e] at h1
    rw [h1] at h2
    exact absurd (congrArg Obj.cls (Option.some.inj h2)) (by simp)
  walk_at "mine enter"
  intro g' L' h₁ hb' X' T' st F' N' lt
  dsimp only
  obtain ⟨m₀, F'⟩ := fr_hide (ps := [(Str.ofString "self", .ref x)]) F' ⟨rfl, trivial⟩
  dsimp only [kstB] at F'
  k_fold
  walk_at "mine go"
  rename_i fl hx1 l1 lL hx2 tkx hx3 hx9 tk9 p9 tp9 a9 ta9 t9 hp9 ha9 hb9 hd9 hx4 F9 N9
  have hA1 : ∃ c w0, parts ++ END :: rest = c :: w0 ∧ wordOf (txt.cps.toList.drop p) = c ∧ words (txt.cps.toList.drop p9) = w0 ∧ c ≠ [] := by
    cases hpr : parts ++ END :: rest with
    | nil => simp at hpr
    | cons c w0 =>
      have := words_head (hw.trans hpr)
      exact ⟨c, w0, rfl, this.1, by rw [hd9]; exact this.2.1, this.2.2⟩
  obtain ⟨c, w0, e1, e2, e3, e4⟩ := hA1
  rw [e2] at F9
  refine Stop.go ?_
  unfold Stop
  refine while_cut (UntilJ w x fl dx a ta k1 k2 k3 txt tx parts rest)
    (UntilO w x fl dx k1 k2 k3 txt tx parts rest)
    F9 N9 (n₀ := parts.length) ⟨[], parts, c, t9, p9, tp9, a9, ta9, [], 0, ⟨rfl, rfl, rfl, rfl, trivial⟩, rfl, rfl, .nil, by rw [e3]; exact e1.symm, e4, rfl, hp9, ha9, hb9⟩ ?_ ?_
  · intro n m₁ news₁ h₂ tk₂ F2 N2 HJ RT RE hT hE
    obtain ⟨dn, rem, c, tc, p', tp', a', ta', vs, k, hm, rfl, hpa, hvs, hcw, hc0, hn', hp', ha', hb'⟩ := HJ
    have F2 := fr_names F2 hm
    dsimp only [kstB] at F2
    cases rem with
    | nil =>
      have hc : (toS c != Str.ofString "$end") = false := by rw [toS_end, (List.cons.inj hcw).1]; exact bne_self_eq_false _
      walk_at "mine go"
      rw [List.append_nil] at hpa
      exact hE _ <| endSt F2 N2 ⟨p', tp', a', ta', vs, k, ⟨rfl, trivial⟩, rfl, hpa ▸ hvs, (List.cons.inj hcw).2, hp', ha', hb'⟩
    | cons r rem =>
      obtain ⟨hcr, hcw'⟩ := List.cons.inj hcw
      have hc : (toS c != Str.ofString "$end") = true := by
        rw [toS_end]
        refine bne_iff_ne.mpr fun e => hne ?_
        have e' : c = END := toS_inj e
        rw [hpa, ← e', hcr]
        simp
      have hc0 : (toS c == Str.ofString "") = false := by
        rw [toS_empty]
        exact beq_eq_false_iff_ne.mpr fun e => hc0 (toS_inj e)
      have hvl : vs.length ≤ 1000000 := by
        have h1 := hvs.length
        rw [List.length_map] at h1
        rw [hpa, List.length_append] at hpl
        omega
      walk_at "mine go"
      rename_i hx5 tk5 hx6 tk6 p9 tp9 a9 ta9 t9 hp9 ha9 hb9 hd9 hx7 F9 N9
      have hr : rem ++ END :: rest ≠ [] := by simp
      obtain ⟨c2, w2, e⟩ : ∃ c2 w2, rem ++ END :: rest = c2 :: w2 := by
        cases h9 : rem ++ END :: rest with
        | nil => exact absurd h9 hr
        | cons c2 w2 => exact ⟨c2, w2, rfl⟩
      obtain ⟨e1, e2, e3⟩ := words_head (hcw'.trans e)
      rw [e1] at F9
      rw [← hd9] at e2
      exact hT _ _ <| turnEnd rem.length (by rw [hn']; simp) F9 N9 ⟨dn ++ [r], rem, c2, t9, p9, tp9, a9, ta9, vs ++ [.str (toS c) tc], k + 1, ⟨rfl, rfl, rfl, rfl, trivial⟩, rfl, by rw [hpa]; simp, by rw [List.map_append, hcr]; exact strsAre_append hvs (.cons _ _ .nil), by rw [e2]; exact e.symm, e3, rfl, hp9, ha9, hb9⟩
  · intro h2 tk2 m2 news2 F2 N2 HO
    obtain ⟨p', tp', a', ta', vs, k, hm, rfl, hvs, hrest, hp', ha', hb'⟩ := HO
    have F2 := fr_names F2 hm
    dsimp only [kstB] at F2
    walk_at "mine go"
    have S : Stays [dx] s.heap h2 := stays_less (stays_of st F2) (by
        intro q hq
        rcases List.mem_cons.mp hq with rfl | hq
        · exact .inr ⟨_, (N _ hx0).1, (N2 _ (.tail _ (.head _))).1⟩
        · exact .inl hq)
    refine h _ _ p' tp' a' ta' fl vs k (fr_after F N S ?_) (news_cons F (news_after1 N U S (N2 _ (.tail _ (.tail _ (.head _)))).1) (N2 _ (.head _)).1 ?_) ?_ hvs hp' ha' hb' hrest
    · intro a ha; rw [List.mem_singleton.mp ha]; exact ⟨_, hdm⟩
    · exact Nat.le_of_lt (Nat.lt_of_le_of_lt lt lL)
    · exact Nat.le_of_lt (Nat.lt_of_le_of_lt lt lL)
theorem off06 : True := by (w_top off); exact True.intro
theorem whole_spec {w : World} {mean : ExcName → Option Value} {mg mb : Str → Option Value} {g : Heap} {L : Addr} {A : Around} {m : Str → Option Value} {news : List (Addr × Obj)} {s : Shared} {Q : Value → Shared → Prop} {E : Value → Shared → Prop} {t ta : Tok} {ds : List Nat} {a : Int}
   (X : (top0.heap_1 w.params).In g) (T : Top Mine.viewK (looseW Mine.viewK [Str.ofString "GateloomError"]) mean mg mb g) (F : Fr g L s.heap m) (N : News g L s.heap news)
   (hd0 : ds ≠ []) (hda : NumText.AllDigits ds) (hdl : ds.length ≤ 600)
   (h : ∀ h' tk' t', Fr g L h' m → News g L h' news → Q (.int ((NumText.digitsVal ds : Nat) : Int) t') { s with heap := h', toks := tk' })
   (hh : A.handled = none) (hd : A.depth ≤ 700) (hu : A.units ≤ 6000) :
   wpAny (model Challenge.rw_sj0032_01.row.prog w) A (call (.ref 124) [.str (toS ds) t, .int a ta]) Q E s := by
  refine wp_le (d := 700) (u := 6000) ?_ hh hd hu
  refine fill (top0.heap_1 w.params) ?_
  k_fill
  intro _
  have hn : ∀ p ∈ ([] : List (Addr × Obj)), s.heap.get? p.1 = some p.2 ∧ g.get? p.1 = none := by intro p hp; cases hp
  walk_at "mine enter"
  intro g' L' h₁ hb' X' T' st F' N' lt
  dsimp only
  obtain ⟨m₀, F'⟩ := fr_hide (ps := [(Str.ofString "word", .str (toS ds) t), (Str.ofString "at", .int a ta)]) F' ⟨rfl, rfl, trivial⟩
  dsimp only [kstB] at F'
  k_fold
  have hc0 : (toS ds == Str.ofString "") = false := by
    rw [toS_empty]
    exact beq_eq_false_iff_ne.mpr fun e => hd0 (toS_inj e)
  have hlen : (toS ds).length ≤ 600 := by simpa [Str.length] using hdl
  walk_at "mine go"
  refine Stop.go ?_
  unfold Stop
  rename Fr g' L' _ _ => F1
  rename News g' L' _ _ => N1
  refine iter_text_cut (fun _ m₁ nx => Nm m₁ [(Str.ofString "word", .str (toS ds) t)] ∧ nx = []) rfl F1 N1 ⟨⟨rfl, trivial⟩, rfl⟩ ?_ ?_
  · intro i c tc m₁ nx h₂ tk₂ own hi hc hoff hJ F2 N2 RL hLp
    obtain ⟨hm, rfl⟩ := hJ
    have F2 := fr_names F2 (ps := [(Str.ofString "sign", .str ⟨#[c]⟩ tc), (Str.ofString "word", .str (toS ds) t)]) ⟨rfl, hm.1, trivial⟩
    dsimp only [kstB] at F2
    have hocc : (Builtin.Str.occurrences (Str.ofString "0123456789") ⟨#[c]⟩ 0 (Str.ofString "0123456789").length 1).isEmpty = false := by
      have hr := hda c (List.mem_of_getElem? hc)
      rw [occ_one, show Str.ofString "0123456789" = Str.mk #[48, 49, 50, 51, 52, 53, 54, 55, 56, 57] from by decide +kernel]
      simp
      omega
    walk_at "mine go"
    exact hLp _ _ <| loopEnd [] F2 N2 ⟨⟨rfl, trivial⟩, rfl⟩ hoff (by intro p hp; cases hp) (fun p hp => hp)
  · intro m₁ nx h₂ tk₂ hJ F2 N2
    obtain ⟨hm, rfl⟩ := hJ
    have F2 := fr_names F2 hm
    dsimp only [kstB] at F2
    walk_at "mine go"
    refine KIN.call_text (intText_digits (x := toS ds) hda hd0 (by omega)) (by omega) ?_
    walk_at "mine go"
    have S := stays_of st F2
    exact h _ _ _ (fr_after F N S (by intro a ha; cases ha)) (news_after N S)
local macro_rules | `(tactic| walk_at "call ref") => `(tactic| (((with_reducible show wpAny _ _ (call (Value.ref 124) [Value.str _ _, Value.int _ _] _) _ _ _); apply whole_spec <;> try walk_at "mine side"); walk_at "mine end"))
theorem off07 : True := by (w_top off); exact True.intro
def extOf (c : Nat) : Nat := if c = 49 then 48 else c
theorem extension_spec {w : World} {mean : ExcName → Option Value} {mg mb : Str → Option Value} {g : Heap} {L : Addr} {A : Around} {m : Str → Option Value} {news : List (Addr × Obj)} {s : Shared} {Q : Value → Shared → Prop} {E : Value → Shared → Prop} {t : Tok} {c : Nat}
   (X : (top0.heap_1 w.params).In g) (T : Top Mine.viewK (looseW Mine.viewK [Str.ofString "GateloomError"]) mean mg mb g) (F : Fr g L s.heap m) (N : News g L s.heap news)
   (h : ∀ h' tk' t', Fr g L h' m → News g L h' news → Q (.str ⟨#[extOf c]⟩ t') { s with heap := h', toks := tk' })
   (hh : A.handled = none) (hd : A.depth ≤ 800) (hu : A.units ≤ 7000) :
   wpAny (model Challenge.rw_sj0032_01.row.prog w) A (call (.ref 68) [.str ⟨#[c]⟩ t]) Q E s := by
  refine wp_le (d := 800) (u := 7000) ?_ hh hd hu
  refine fill (top0.heap_1 w.params) ?_
  k_fill
  intro _
  have hn : ∀ p ∈ ([] : List (Addr × Obj)), s.heap.get? p.1 = some p.2 ∧ g.get? p.1 = none := by intro p hp; cases hp
  walk_at "mine enter"
  intro g' L' h₁ hb' X' T' st F' N' lt
  dsimp only
  obtain ⟨m₀, F'⟩ := fr_hide (ps := [(Str.ofString "sign", .str ⟨#[c]⟩ t)]) F' ⟨rfl, trivial⟩
  dsimp only [kstB] at F'
  k_fold
  have S := stays_of st F'
  have F1 := fr_after F N S (by intro a ha; cases ha)
  have N1 := news_after N S
  by_cases hc : c = 49
  · subst hc
    have hb : ((⟨#[49]⟩ : Str) == Str.ofString "1") = true := by decide +kernel
    walk_at "mine go"
    rw [show Str.ofString "0" = Str.mk #[48] from by decide +kernel]
    exact h _ _ _ F1 N1
  · have hb : ((⟨#[c]⟩ : Str) == Str.ofString "1") = false := by
      rw [show Str.ofString "1" = Str.mk #[49] from by decide +kernel]
      refine beq_eq_false_iff_ne.mpr fun e => hc ?_
      have := congrArg (fun x : Str => x.cps.toList) e
      simpa using this
    walk_at "mine go"
    have e : extOf c = c := by unfold extOf; rw [if_neg hc]
    have h' := h h₁ 0 0 F1 N1
    rw [e] at h
    exact h _ _ _ F1 N1
local macro_rules | `(tactic| walk_at "call ref") => `(tactic| (((with_reducible show wpAny _ _ (call (Value.ref 68) [Value.str _ _] _) _ _ _); apply extension_spec <;> try walk_at "mine side"); walk_at "mine end"))
theorem mul_one_sign (c : Nat) (n : Int) : Txt.mul ⟨#[c]⟩ n = toS (List.replicate n.toNat c) := by
  have hf : ∀ (k : Nat) (a : Array Nat), ((List.replicate k (#[c] : Array Nat)).foldl (· ++ ·) a) = a ++ (List.replicate k c).toArray := by
    intro k
    induction k with
    | zero => intro a; simp
    | succ k ih => intro a; rw [List.replicate_succ, List.foldl_cons, ih, List.replicate_succ]; apply Array.toList_inj.mp; simp
  unfold Txt.mul
  split
  · rename_i h
    rw [show n.toNat = 0 by omega]; rfl
  · split
    · rename_i h1 h2
      have : n = 1 := by
        rcases Bool.or_eq_true_iff.mp h2 with q | q
        · exact beq_iff_eq.mp q
        · exact absurd q (by simp [Str.length])
      subst this
      rfl
    · rw [hf]; simp
local macro_rules | `(tactic| walk_at "binaryOp Mult str int") => `(tactic| ((with_reducible show wpAny _ _ (binaryOp Operator.Mult (Value.str (Str.mk #[_]) _) (Value.int _ _)) _ _ _); refine KXi.mul (n := 1) rfl (by decide) (by omega) (by omega) ?_; intro t9 k9 z9 n9; clear z9 n9; (try rw [mul_one_sign])))
theorem lengthened_spec {w : World} {mean : ExcName → Option Value} {mg mb : Str → Option Value} {g : Heap} {L : Addr} {A : Around} {m : Str → Option Value} {news : List (Addr × Obj)} {s : Shared} {Q : Value → Shared → Prop} {E : Value → Shared → Prop} {t tw : Tok} {c : Nat} {ds : List Nat} {wd : Int}
   (X : (top0.heap_1 w.params).In g) (T : Top Mine.viewK (looseW Mine.viewK [Str.ofString "GateloomError"]) mean mg mb g) (F : Fr g L s.heap m) (N : News g L s.heap news)
   (hl : ((c :: ds).length : Int) ≤ wd) (hw : wd ≤ 100)
   (h : ∀ h' tk' t', Fr g L h' m → News g L h' news → Q (.str (toS (List.replicate (wd.toNat - (c :: ds).length) (extOf c) ++ c :: ds)) t') { s with heap := h', toks := tk' })
   (hh : A.handled = none) (hd : A.depth ≤ 700) (hu : A.units ≤ 6000) :
   wpAny (model Challenge.rw_sj0032_01.row.prog w) A (call (.ref 75) [.str (toS (c :: ds)) t, .int wd tw]) Q E s := by
  refine wp_le (d := 700) (u := 6000) ?_ hh hd hu
  refine fill (top0.heap_1 w.params) ?_
  k_fill
  intro _
  have hn : ∀ p ∈ ([] : List (Addr × Obj)), s.heap.get? p.1 = some p.2 ∧ g.get? p.1 = none := by intro p hp; cases hp
  walk_at "mine enter"
  intro g' L' h₁ hb' X' T' st F' N' lt
  dsimp only
  obtain ⟨m₀, F'⟩ := fr_hide (ps := [(Str.ofString "text", .str (toS (c :: ds)) t), (Str.ofString "width", .int wd tw)]) F' ⟨rfl, rfl, trivial⟩
  dsimp only [kstB] at F'
  k_fold
  have hlen : (toS (c :: ds)).length ≤ 100 := by simp [Str.length] at hl ⊢; omega
  have hc : (toS (c :: ds)).cps.toList[(0 : Int).toNat]? = some c := rfl
  have e : toS (List.replicate (wd - ((toS (c :: ds)).length : Int)).toNat (extOf c)) = toS (List.replicate (wd.toNat - (c :: ds).length) (extOf c)) := by
    congr 2
    simp only [Str.length, List.size_toArray]
    omega
  have hl2 : (toS (List.replicate (wd - ((toS (c :: ds)).length : Int)).toNat (extOf c))).length ≤ 100 := by
    rw [e]
    simp only [Str.length, List.size_toArray, List.length_replicate]; omega
  walk_at "mine go"
  rename Fr g' L' _ _ => F9
  rename News g' L' _ _ => N9
  have S := stays_of st F9
  rw [show (wd - ((toS (c :: ds)).length : Int)).toNat = wd.toNat - (c :: ds).length by simp only [Str.length, List.size_toArray]; omega]
  exact h _ _ _ (fr_after F N S (by intro a ha; cases ha)) (news_after N S)
local macro_rules | `(tactic| walk_at "call ref") => `(tactic| (((with_reducible show wpAny _ _ (call (Value.ref 75) [Value.str _ _, Value.int _ _] _) _ _ _); apply lengthened_spec <;> try walk_at "mine side"); walk_at "mine end"))
theorem off08 : True := by (w_top off); exact True.intro
/-- a number of two signs: the first the least -/
def numW (f : Nat → Nat) : List Nat → Nat
  | [] => 0
  | c :: r => f c + 2 * numW f r
theorem numW_snoc (f : Nat → Nat) (l : List Nat) (c : Nat) : numW f (l ++ [c]) = numW f l + f c * 2 ^ l.length := by
  induction l with
  | nil => simp [numW]
  | cons d l ih =>
    simp only [List.cons_append, numW, ih, List.length_cons, Nat.pow_succ]
    have : f c * (2 ^ l.length * 2) = 2 * (f c * 2 ^ l.length) := by rw [Nat.mul_comm (2 ^ l.length) 2, Nat.mul_left_comm]
    omega
theorem numW_lt (f : Nat → Nat) (l : List Nat) (hf : ∀ c ∈ l, f c ≤ 1) : numW f l < 2 ^ l.length := by
  induction l with
  | nil => simp [numW]
  | cons d l ih =>
    have h1 := hf d (.head _)
    have h2 := ih fun c hc => hf c (.tail _ hc)
    simp only [numW, List.length_cons, Nat.pow_succ]
    omega
theorem numW_foldl (f : Nat → Nat) (l : List Nat) : l.foldl (fun a c => 2 * a + f c) 0 = numW f l.reverse := by
  have : ∀ (l : List Nat), l.reverse.foldl (fun a c => 2 * a + f c) 0 = numW f l := by
    intro l
    induction l with
    | nil => rfl
    | cons c l ih => simp only [List.reverse_cons, List.foldl_append, List.foldl_cons, List.foldl_nil, ih, numW]; omega
  have h := this l.reverse
  rwa [List.reverse_reverse] at h
theorem bitOr_add {a x i : Nat} (ha : a < 2 ^ i) : Builtin.bitOr (a : Int) ((x : Int) * 2 ^ i) = ((a + x * 2 ^ i : Nat) : Int) := by
  have e : (x : Int) * 2 ^ i = ((2 ^ i * x : Nat) : Int) := by rw [Int.natCast_mul, Int.natCast_pow, Int.mul_comm]; rfl
  rw [e]
  have h : ∀ a b : Nat, Builtin.bitOr (a : Int) (b : Int) = ((a ||| b : Nat) : Int) := by
    intro a b
    unfold Builtin.bitOr Builtin.bitAnd Builtin.bitNot
    have h1 : decide (0 ≤ (-(a : Int) - 1)) = false := by simp; omega
    have h2 : decide (0 ≤ (-(b : Int) - 1)) = false := by simp; omega
    rw [h1, h2]
    have e1 : (-(-(a : Int) - 1) - 1).toNat = a := by omega
    have e2 : (-(-(b : Int) - 1) - 1).toNat = b := by omega
    simp only [e1, e2]
    omega
  rw [h, Nat.or_comm, ← Nat.two_pow_add_eq_or_of_lt ha]
  congr 1
  rw [Nat.mul_comm]; omega
theorem bitAnd_one (n : Nat) : Builtin.bitAnd (n : Int) 1 = ((n % 2 : Nat) : Int) := by
  unfold Builtin.bitAnd
  have h1 : decide (0 ≤ (n : Int)) = true := by simp
  rw [h1]
  show ((n &&& 1 : Nat) : Int) = _
  rw [Nat.and_one_is_mod]
theorem fdiv_two (n : Nat) : Int.fdiv (n : Int) (2 ^ Int.toNat 1) = ((n / 2 : Nat) : Int) := by
  show Int.fdiv (n : Int) 2 = _
  rw [Int.fdiv_eq_ediv_of_nonneg _ (by decide)]
  omega
theorem range_one (n : Nat) : Builtin.Range.rangeSize 0 (n : Int) 1 = (n : Int) := by
  unfold Builtin.Range.rangeSize
  simp only [show (1 : Int) > 0 by decide, if_true, Int.ediv_one]
  split <;> omega
theorem from_codes_spec {w : World} {mean : ExcName → Option Value} {mg mb : Str → Option Value} {g : Heap} {L : Addr} {A : Around} {m : Str → Option Value} {news : List (Addr × Obj)} {s : Shared} {Q : Value → Shared → Prop} {E : Value → Shared → Prop} {r : Addr} {vs : List Value} {cs : List Nat} {k : Nat}
   (X : (top0.heap_1 w.params).In g) (T : Top Mine.viewK (looseW Mine.viewK [Str.ofString "GateloomError"]) mean mg mb g) (F : Fr g L s.heap m) (N : News g L s.heap news)
   (hr : (r, listOf vs.toArray k) ∈ news) (hi : IntsAre vs (cs.map fun n : Nat => (n : Int))) (hl : cs.length ≤ 10) (hb : ∀ n ∈ cs, n ≤ 3)
   (h : ∀ h' tk' d t1 t2 t3, Fr g L h' m → News g L h' ((d, { cls := .type "tuple", data := .seq [.int cs.length t1, .int (numW (· % 2) cs : Nat) t2, .int (numW (· / 2) cs : Nat) t3].toArray }) :: news) → s.heap.objs.size ≤ d → Q (.ref d) { s with heap := h', toks := tk' })
   (hh : A.handled = none) (hd : A.depth ≤ 700) (hu : A.units ≤ 6000) :
   wpAny (model Challenge.rw_sj0032_01.row.prog w) A (call (.ref 54) [.ref r]) Q E s := by
  refine wp_le (d := 700) (u := 6000) ?_ hh hd hu
  refine fill (top0.heap_1 w.params) ?_
  k_fill
  intro _
  have hn : ∀ p ∈ ([] : List (Addr × Obj)), s.heap.get? p.1 = some p.2 ∧ g.get? p.1 = none := by intro p hp; cases hp
  walk_at "mine enter"
  intro g' L' h₁ hb' X' T' st F' N' lt
  dsimp only
  obtain ⟨m₀, F'⟩ := fr_hide (ps := [(Str.ofString "row", .ref r)]) F' ⟨rfl, trivial⟩
  dsimp only [kstB] at F'
  k_fold
  have hL : g'.IsList r vs.toArray := ⟨_, st _ _ (by simp) (N _ hr).1, rfl, k, rfl⟩
  have hll : (cs.map fun n : Nat => (n : Int)).length ≤ 10 := by rw [List.length_map]; exact hl
  walk_at "mine go"
  refine Stop.go ?_
  unfold Stop
  rename Fr g' L' _ _ => F1
  rename News g' L' _ _ => N1
  rename IsRange _ _ _ _ _ _ _ _ => R1
  rw [List.length_map] at R1
  refine iter_range_cut (n := cs.length) (fun i m₁ nx => ∃ (ta tb : Tok), Nm m₁ [(Str.ofString "row", .ref r), (Str.ofString "a", .int (numW (· % 2) (cs.take i) : Nat) ta), (Str.ofString "b", .int (numW (· / 2) (cs.take i) : Nat) tb)] ∧ nx = []) rfl R1 (small_one (by omega) (by omega) (by omega) (by omega)) (range_one _) F1 N1 ⟨_, _, ⟨rfl, rfl, rfl, trivial⟩, rfl⟩ ?_ ?_
  · intro i t m₁ nx h₂ tk₂ own hi' hoff hJ F2 N2 RL hLp
    obtain ⟨ta, tb, hm, rfl⟩ := hJ
    have F2 := fr_names F2 (ps := [(Str.ofString "i", .int (0 + i * 1) t), (Str.ofString "row", .ref r), (Str.ofString "a", .int (numW (· % 2) (cs.take i) : Nat) ta), (Str.ofString "b", .int (numW (· / 2) (cs.take i) : Nat) tb)]) ⟨rfl, hm.1, hm.2.1, hm.2.2.1, trivial⟩
    dsimp only [kstB] at F2
    rw [show (0 : Int) + i * 1 = (i : Int) by omega] at F2
    have hce : (cs.map fun n : Nat => (n : Int)).getD (i : Int).toNat 0 = ((cs.getD i 0 : Nat) : Int) := by
      rw [Int.toNat_natCast, List.getD_eq_getElem?_getD, List.getD_eq_getElem?_getD, List.getElem?_map]
      simp [hi']
    have hc3 : cs.getD i 0 ≤ 3 := by
      rw [List.getD_eq_getElem?_getD, List.getElem?_eq_getElem hi']
      exact hb _ (List.getElem_mem _)
    have hs : cs.take (i + 1) = cs.take i ++ [cs.getD i 0] := by
      rw [List.take_add_one, List.getD_eq_getElem?_getD, List.getElem?_eq_getElem hi']
      rfl
    have hti : (cs.take i).length = i := by rw [List.length_take]; omega
    have hx1 : Builtin.bitAnd ((cs.map fun n : Nat => (n : Int)).getD (i : Int).toNat 0) 1 = ((cs.getD i 0 % 2 : Nat) : Int) := by rw [hce, bitAnd_one]
    have hx2 : Int.fdiv ((cs.map fun n : Nat => (n : Int)).getD (i : Int).toNat 0) (2 ^ Int.toNat 1) = ((cs.getD i 0 / 2 : Nat) : Int) := by rw [hce, fdiv_two]
    have hA : numW (· % 2) (cs.take i) < 2 ^ i := by
      have := numW_lt (· % 2) (cs.take i) (fun c _ => by show c % 2 ≤ 1; omega)
      rwa [hti] at this
    have hB : numW (· / 2) (cs.take i) < 2 ^ i := by
      have := numW_lt (· / 2) (cs.take i) (fun c hc => by have := hb c (List.mem_of_mem_take hc); show c / 2 ≤ 1; omega)
      rwa [hti] at this
    walk_at "mine go"
    rename Fr g' _ _ _ => F3
    rename News g' _ _ _ => N3
    rw [hx1, hx2, Int.toNat_natCast, bitOr_add hA, bitOr_add hB] at F3
    have eA : numW (· % 2) (cs.take i) + cs.getD i 0 % 2 * 2 ^ i = numW (· % 2) (cs.take (i + 1)) := by rw [hs, numW_snoc, hti]
    have eB : numW (· / 2) (cs.take i) + cs.getD i 0 / 2 * 2 ^ i = numW (· / 2) (cs.take (i + 1)) := by rw [hs, numW_snoc, hti]
    rw [eA, eB] at F3
    exact hLp _ _ <| loopEnd [] F3 N3 ⟨_, _, ⟨rfl, rfl, rfl, trivial⟩, rfl⟩ hoff (by intro p hp; cases hp) (fun p hp => hp)
  · intro m₁ nx h₂ tk₂ hJ F2 N2
    obtain ⟨ta, tb, hm, rfl⟩ := hJ
    rw [List.take_length] at hm
    have F2 := fr_names F2 hm
    dsimp only [kstB] at F2
    walk_at "mine go"
    rename Fr g' _ _ _ => F3
    rename News g' _ _ _ => N3
    rename _ < _ => lL
    rw [List.length_map] at N3
    have S := stays_of st F3
    exact h _ _ _ _ _ _ (fr_after F N S (by intro a ha; cases ha)) (news_cons F (news_after N S) (N3 _ (.head _)).1 (Nat.le_of_lt (Nat.lt_of_le_of_lt lt lL))) (Nat.le_of_lt (Nat.lt_of_le_of_lt lt lL))
local macro_rules | `(tactic| walk_at "call ref") => `(tactic| (((with_reducible show wpAny _ _ (call (Value.ref 54) [Value.ref _] _) _ _ _); apply from_codes_spec <;> try walk_at "mine side"); walk_at "mine end"))
theorem off09 : True := by (w_top off); exact True.intro
def codeOf (c : Nat) : Nat := if c = 48 then 0 else if c = 49 then 1 else if c = 122 then 2 else 3
theorem range_down (n : Nat) : Builtin.Range.rangeSize ((n : Int) - 1) (-1) (-1) = (n : Int) := by
  rw [rangeSize_downNat]; omega
theorem find_use {prog : Program} {w : World} {A : Around} {E : Value → Shared → Prop} {s : Shared} {x y : Str} {t u : Tok} {k : Int} {Q : Value → Shared → Prop} (hk : Txt.find x y = k) (h : ∀ t' tk, Q (.int k t') { s with toks := tk }) :
    wpAny (model prog w) A (call (.builtin "str.find") [.str x t, .str y u]) Q E s := SC.find (by rw [hk]; exact h _ _)
local macro_rules | `(tactic| walk_at "call builtin:str.find") => `(tactic| ((with_reducible show wpAny _ _ (call (Value.builtin "str.find") [Value.str _ _, Value.str _ _]) _ _ _); refine find_use (by assumption) ?_; intro t9 k9))
local macro_rules | `(tactic| walk_at "subscriptTail Name Name str int") => `(tactic| ((with_reducible show wpAny _ _ (subscriptTail _ _ (Value.str _ _) (Value.int _ _)) _ _ _); refine item_text (by first | decide | omega) (by first | decide | omega) (by assumption) ?_))
local macro_rules | `(tactic| walk_at "subscriptTail Tuple") => `(tactic| ((with_reducible show wpAny _ _ (subscriptTail _ _ (Value.ref _) (Value.int _ _)) _ _ _); k_dflt (refine' item_tupleT ?t ?a ?b ?c ?d ?_; (case t => exact News.isTup (by k_asm) (by k_mem)); (case a => decide); (case b => decide); (case c => rfl); (case d => rfl); k_whole)))
theorem from_text_spec {w : World} {mean : ExcName → Option Value} {mg mb : Str → Option Value} {g : Heap} {L : Addr} {A : Around} {m : Str → Option Value} {news : List (Addr × Obj)} {s : Shared} {Q : Value → Shared → Prop} {E : Value → Shared → Prop} {ds : List Nat} {t : Tok}
   (X : (top0.heap_1 w.params).In g) (T : Top Mine.viewK (looseW Mine.viewK [Str.ofString "GateloomError"]) mean mg mb g) (F : Fr g L s.heap m) (N : News g L s.heap news)
   (hl : ds.length ≤ 10) (hb : ∀ c ∈ ds, c = 48 ∨ c = 49 ∨ c = 122 ∨ c = 120)
   (h : ∀ h' tk' d t1 t2 t3, Fr g L h' m → News g L h' ((d, { cls := .type "tuple", data := .seq [.int ds.length t1, .int (numW (· % 2) (ds.reverse.map codeOf) : Nat) t2, .int (numW (· / 2) (ds.reverse.map codeOf) : Nat) t3].toArray }) :: news) → s.heap.objs.size ≤ d → (∀ p ∈ news, p.1 < d) → Q (.ref d) { s with heap := h', toks := tk' })
   (hh : A.handled = none) (hd : A.depth ≤ 650) (hu : A.units ≤ 5000) :
   wpAny (model Challenge.rw_sj0032_01.row.prog w) A (call (.ref 61) [.str (toS ds) t]) Q E s := by
  refine wp_le (d := 650) (u := 5000) ?_ hh hd hu
  refine fill (top0.heap_1 w.params) ?_
  k_fill
  intro _
  have hn : ∀ p ∈ ([] : List (Addr × Obj)), s.heap.get? p.1 = some p.2 ∧ g.get? p.1 = none := by intro p hp; cases hp
  walk_at "mine enter"
  intro g' L' h₁ hb' X' T' st F' N' lt
  dsimp only
  obtain ⟨m₀, F'⟩ := fr_hide (ps := [(Str.ofString "text", .str (toS ds) t)]) F' ⟨rfl, trivial⟩
  dsimp only [kstB] at F'
  k_fold
  have hll : (toS ds).length = ds.length := by simp [Str.length]
  have hll2 : (toS ds).length ≤ 10 := by omega
  walk_at "mine go"
  refine Stop.go ?_
  unfold Stop
  rename Fr g' L' _ _ => F1
  rename News g' L' _ _ => N1
  rename IsRange _ _ _ _ _ _ _ _ => R1
  rw [hll] at R1
  rename_i fl hx1 l1 lL hx2 F0 N0 hx3 tk1 t1 u1 v1 hx4
  refine iter_range_cut (n := ds.length) (fun i m₁ nx => ∃ (vs : List Value) (k : Nat), Nm m₁ [(Str.ofString "text", .str (toS ds) t), (Str.ofString "row", .ref fl)] ∧ nx = [(fl, listOf vs.toArray k)] ∧ IntsAre vs (((ds.reverse.take i).map codeOf).map fun n : Nat => (n : Int))) rfl R1 (small_down (by omega) (by omega) (by omega) (by omega)) (range_down _) F1 N1 ⟨[], 0, ⟨rfl, rfl, trivial⟩, rfl, .nil⟩ ?_ ?_
  · intro i ti m₁ nx h₂ tk₂ own hi' hoff hJ F2 N2 RL hLp
    obtain ⟨vs, k, hm, rfl, hi⟩ := hJ
    have F2 := fr_names F2 (ps := [(Str.ofString "i", .int ((ds.length : Int) - 1 + i * (-1)) ti), (Str.ofString "text", .str (toS ds) t), (Str.ofString "row", .ref fl)]) ⟨rfl, hm.1, hm.2.1, trivial⟩
    dsimp only [kstB] at F2
    simp only [List.cons_append, List.nil_append] at N2
    simp only [List.map_cons, List.map_nil] at hoff
    have hti : (ds.reverse.take i).length = i := by rw [List.length_take, List.length_reverse]; omega
    have hvl : vs.length ≤ 10 := by
      have := hi.length
      simp only [List.length_map] at this
      omega
    have hcm : ds.reverse.getD i 0 ∈ ds := by
      rw [List.getD_eq_getElem?_getD, List.getElem?_eq_getElem (by simpa using hi')]
      exact List.mem_reverse.mp (List.getElem_mem _)
    have hs : ds.reverse.take (i + 1) = ds.reverse.take i ++ [ds.reverse.getD i 0] := by
      rw [List.take_add_one, List.getD_eq_getElem?_getD, List.getElem?_eq_getElem (by simpa using hi')]
      rfl
    have hc : (toS ds).cps.toList[((ds.length : Int) - 1 + i * (-1)).toNat]? = some (ds.reverse.getD i 0) := by
      rw [show ((ds.length : Int) - 1 + i * (-1)).toNat = ds.length - 1 - i by omega]
      show ds[ds.length - 1 - i]? = _
      rw [List.getD_eq_getElem?_getD, List.getElem?_reverse (by omega), List.getElem?_eq_getElem (by omega)]
      rfl
    have hb4 := hb _ hcm
    rw [hs, List.map_append, List.map_append] at hLp
    generalize ds.reverse.getD i 0 = c at hc hb4 hLp
    rcases hb4 with rfl | rfl | rfl | rfl
    · have hf : Txt.find (Str.ofString "01zxZX?") ⟨#[48]⟩ = 0 := by decide +kernel
      walk_at "mine go"
      rename Fr g' L' _ _ => F3
      rename News g' L' _ _ => N3
      exact hLp _ _ <| loopEnd [(fl, _)] F3 N3 ⟨_, _, ⟨rfl, rfl, trivial⟩, rfl, hi.append (.cons _ _ .nil)⟩ hoff (by intro p hp; rw [List.mem_singleton.mp hp]; exact .tail _ (.head _)) (fun p hp => .tail _ (.tail _ hp))
    · have hf : Txt.find (Str.ofString "01zxZX?") ⟨#[49]⟩ = 1 := by decide +kernel
      walk_at "mine go"
      rename Fr g' L' _ _ => F3
      rename News g' L' _ _ => N3
      exact hLp _ _ <| loopEnd [(fl, _)] F3 N3 ⟨_, _, ⟨rfl, rfl, trivial⟩, rfl, hi.append (.cons _ _ .nil)⟩ hoff (by intro p hp; rw [List.mem_singleton.mp hp]; exact .tail _ (.head _)) (fun p hp => .tail _ (.tail _ hp))
    · have hf : Txt.find (Str.ofString "01zxZX?") ⟨#[122]⟩ = 2 := by decide +kernel
      walk_at "mine go"
      rename Fr g' L' _ _ => F3
      rename News g' L' _ _ => N3
      exact hLp _ _ <| loopEnd [(fl, _)] F3 N3 ⟨_, _, ⟨rfl, rfl, trivial⟩, rfl, hi.append (.cons _ _ .nil)⟩ hoff (by intro p hp; rw [List.mem_singleton.mp hp]; exact .tail _ (.head _)) (fun p hp => .tail _ (.tail _ hp))
    · have hf : Txt.find (Str.ofString "01zxZX?") ⟨#[120]⟩ = 3 := by decide +kernel
      walk_at "mine go"
      rename Fr g' L' _ _ => F3
      rename News g' L' _ _ => N3
      exact hLp _ _ <| loopEnd [(fl, _)] F3 N3 ⟨_, _, ⟨rfl, rfl, trivial⟩, rfl, hi.append (.cons _ _ .nil)⟩ hoff (by intro p hp; rw [List.mem_singleton.mp hp]; exact .tail _ (.head _)) (fun p hp => .tail _ (.tail _ hp))
  · intro m₁ nx h₂ tk₂ hJ F2 N2
    obtain ⟨vs, k, hm, rfl, hi⟩ := hJ
    have F2 := fr_names F2 hm
    dsimp only [kstB] at F2
    rw [List.take_of_length_le (by rw [List.length_reverse]; exact Nat.le_refl _)] at hi
    have hl3 : (ds.reverse.map codeOf).length ≤ 10 := by simpa using hl
    have hb3 : ∀ n ∈ ds.reverse.map codeOf, n ≤ 3 := by
      intro n hn
      obtain ⟨c, _, rfl⟩ := List.mem_map.mp hn
      unfold codeOf
      (repeat' split) <;> omega
    have hL2 := F2.ns.lt
    walk_at "mine go"
    rename_i h9 tk9 d9 t1 t2 t3 F9 N9 l9
    have S := stays_of st F9
    rw [List.length_map, List.length_reverse] at N9
    have hz := Nat.le_of_lt (Nat.lt_of_le_of_lt lt (Nat.lt_of_lt_of_le hL2 l9))
    exact h _ _ _ _ _ _ (fr_after F N S (by intro a ha; cases ha)) (news_cons F (news_after N S) (N9 _ (.head _)).1 hz) hz (fun p hp => Nat.lt_of_lt_of_le (Heap.lt_size (N p hp).1) hz)
theorem off10 : True := by (w_top off); exact True.intro
/-- a reader: where its objects lie -/
structure RdA where
  self : Addr
  ds : Addr
  wr : Addr
  dw : Addr
  lsc : Addr
  lvar : Addr
  dwid : Addr
  lch : Addr
  k1 : Tok
  k2 : Tok
  k3 : Tok
  k4 : Tok
  k5 : Tok
  k6 : Tok
  k7 : Tok
  q1 : Tok
  q2 : Tok
  q3 : Tok
  txt : Str
  tx : Tok
/-- what it holds -/
structure RdV where
  scale : Str
  tsc : Tok
  scv : List Value
  nsc : Nat
  vvs : List Value
  nv : Nat
  wid : Obj
  cvs : List Value
  nc : Nat
  now : Int
  tn : Tok
  p : Nat
  tp : Tok
  a : Int
  ta : Tok
abbrev rdD (w : World) (A : RdA) (V : RdV) : Obj :=
  dictOf [⟨PyData.keyHash w.params (Str.ofString "words"), .str (Str.ofString "words") A.k1, .ref A.wr⟩, ⟨PyData.keyHash w.params (Str.ofString "scale"), .str (Str.ofString "scale") A.k2, .str V.scale V.tsc⟩,
    ⟨PyData.keyHash w.params (Str.ofString "scopes"), .str (Str.ofString "scopes") A.k3, .ref A.lsc⟩, ⟨PyData.keyHash w.params (Str.ofString "variables"), .str (Str.ofString "variables") A.k4, .ref A.lvar⟩,
    ⟨PyData.keyHash w.params (Str.ofString "widths"), .str (Str.ofString "widths") A.k5, .ref A.dwid⟩, ⟨PyData.keyHash w.params (Str.ofString "changes"), .str (Str.ofString "changes") A.k6, .ref A.lch⟩,
    ⟨PyData.keyHash w.params (Str.ofString "now"), .str (Str.ofString "now") A.k7, .int V.now V.tn⟩] 7
abbrev led (w : World) (A : RdA) (V : RdV) : List (Addr × Obj) :=
  [(A.self, instObj 176 A.ds), (A.ds, rdD w A V), (A.wr, instObj 113 A.dw), (A.dw, wrD w A.q1 A.q2 A.q3 A.txt A.tx V.p V.tp V.a V.ta), (A.lsc, listOf V.scv.toArray V.nsc), (A.lvar, listOf V.vvs.toArray V.nv), (A.dwid, V.wid), (A.lch, listOf V.cvs.toArray V.nc)]
abbrev adrs (A : RdA) : List Addr := [A.self, A.ds, A.wr, A.dw, A.lsc, A.lvar, A.dwid, A.lch]
def ltN (a b : Nat) : Prop := a < b
structure OrdA (A : RdA) : Prop where
  h1 : @LT.lt Nat _ A.ds A.self
  h2 : @LT.lt Nat _ A.self A.dw
  h3 : @LT.lt Nat _ A.dw A.wr
  h4 : @LT.lt Nat _ A.wr A.lsc
  h5 : @LT.lt Nat _ A.lsc A.lvar
  h6 : @LT.lt Nat _ A.lvar A.dwid
  h7 : @LT.lt Nat _ A.dwid A.lch
theorem OrdA.srt {A : RdA} (o : OrdA A) : Srt [A.ds, A.self, A.dw, A.wr, A.lsc, A.lvar, A.dwid, A.lch] := .add o.h1 (.add o.h2 (.add o.h3 (.add o.h4 (.add o.h5 (.add o.h6 (.add o.h7 .one))))))
theorem led_adrs (w : World) (A : RdA) (V : RdV) : (led w A V).map (·.1) = adrs A := rfl
theorem news_led {w : World} {A : RdA} {V V' : RdV} {g h h' : Heap} {L : Addr} {news rest : List (Addr × Obj)} (N : News g L h news) (hsub : ∀ p ∈ led w A V, p ∈ news) (S : Stays (adrs A) h h')
    (R : ∀ p ∈ led w A V', h'.get? p.1 = some p.2) (hr : ∀ p ∈ rest, p ∈ news ∧ p.1 ∉ adrs A) : News g L h' (led w A V' ++ rest) := by
  intro p hp
  rcases List.mem_append.mp hp with hp | hp
  · have h1 : p.1 ∈ (led w A V).map (·.1) := by rw [led_adrs, ← led_adrs w A V']; exact List.mem_map_of_mem hp
    obtain ⟨q, hq, e⟩ := List.mem_map.mp h1
    have h2 := N q (hsub q hq)
    rw [e] at h2
    exact ⟨R p hp, h2.2⟩
  · obtain ⟨h1, h2⟩ := hr p hp
    exact ⟨S _ _ h2 (N p h1).1, (N p h1).2⟩
theorem fr_led {w : World} {A : RdA} {V : RdV} {g h h' : Heap} {L : Addr} {m : Str → Option Value} {news : List (Addr × Obj)} (F : Fr g L h m) (N : News g L h news) (hsub : ∀ p ∈ led w A V, p ∈ news) (S : Stays (adrs A) h h') : Fr g L h' m :=
  fr_after F N S fun a ha => by
    rw [← led_adrs w A V] at ha
    obtain ⟨q, hq, e⟩ := List.mem_map.mp ha
    exact ⟨q.2, by rw [← e]; exact hsub q hq⟩
theorem strTab_of {prog : Program} {w : World} {g h : Heap} {L d : Addr} {o : Obj} {news : List (Addr × Obj)} {kvs : List (Str × Value)} {c : List (Str × Int)} (N : News g L h news) (hm : (d, o) ∈ news) (hd : o.IsDictOf (strKind prog w) kvs) (hf : PyProof.V.FlatPairs PyData.str kvs (kdpD c)) (lo : (d == sysModules) = false) : StrTab prog w h d (kdpD c) :=
  TabAt.ofNews N hm lo hd hf
local macro_rules | `(tactic| walk_at "mine enter2") => `(tactic| refine wpAny_call ?_; apply enter <;> try walk_at "mine side2")
theorem len_list_L {prog : Program} {w : World} {A : Around} {E : Value → Shared → Prop} {s : Shared} {l : Addr} {vs : List Value} {Q : Value → Shared → Prop} (hl : s.heap.IsList l vs.toArray) (hfit : vs.length ≤ 10000000)
    (h : Q (.int (vs.length : Nat) (s.toks + 1)) { s with toks := s.toks + 1 + 1 }) : wpAny (model prog w) A (call (.builtin "len") [.ref l]) Q E s :=
  Calls.call_len_list hl (by rw [List.size_toArray]; omega) (by rw [List.size_toArray]; exact h)
local macro_rules | `(tactic| walk_at "call builtin:len") => `(tactic| ((with_reducible show wpAny _ _ (call (Value.builtin "len") [Value.ref _]) _ _ _); refine len_list_L (by is_list) (by (try simp only [List.length_cons, List.length_nil, List.length_append]); omega) ?_; (try simp only [List.length_cons, List.length_nil])))
local macro_rules | `(tactic| walk_at "subscriptTail Name Constant ref int") => `(tactic| ((with_reducible show wpAny _ _ (subscriptTail _ _ (Value.ref _) (Value.int _ _)) _ _ _); refine item_listL (by is_list) (by decide) (by decide) rfl ?_))
local macro_rules | `(tactic| walk_at "call builtin:dict.get") => `(tactic| ((try dsimp only [List.nil_append, List.cons_append]); (with_reducible show wpAny _ _ (call (Value.builtin "dict.get") [Value.ref _, Value.str _ _, Value.int _ _]) _ _ _); refine kdp_get2 (strTab_of (by assumption) (by k_mem) (by assumption) (by assumption) (by assumption)) ?_; intro t9))
local macro_rules | `(tactic| walk_at "setItem ref str") => `(tactic| (walk_at "mine nil"; (with_reducible show wpAny _ _ (setItem (Value.ref _) (Value.str _ _) (Value.int _ _)) _ _ _); refine kdp_setItem (by assumption) (by assumption) (by k_updF) (by assumption) (by assumption) (by omega) ?_; intro h' o' kvs' F' N' hd' hf'; (try dsimp only at N'); (try k_sweep)))
theorem isList_of {g h : Heap} {L l : Addr} {news : List (Addr × Obj)} {vs : List Value} {k : Nat} (N : News g L h news) (hm : (l, listOf vs.toArray k) ∈ news) : h.IsList l vs.toArray := ⟨_, (N _ hm).1, rfl, k, rfl⟩
local macro_rules | `(tactic| is_list) => `(tactic| exact isList_of (by assumption) (by k_mem))
theorem add_lists_L {prog : Program} {w : World} {A : Around} {E : Value → Shared → Prop} {s : Shared} {g : Heap} {L l b : Addr} {m : Str → Option Value} {news : List (Addr × Obj)} {vs ws : List Value} {Q : Value → Shared → Prop} (F : Fr g L s.heap m) (N : News g L s.heap news) (hl : s.heap.IsList l vs.toArray) (hb : s.heap.IsList b ws.toArray)
    (h : ∀ d h', Fr g L h' m → News g L h' ((d, listOf (vs ++ ws).toArray 0) :: news) → (∀ p ∈ news, p.1 < d) → L < d → Q (.ref d) { s with heap := h' }) (hz : vs.length + ws.length ≤ 1000000) : wpAny (model prog w) A (binaryOp .Add (.ref l) (.ref b)) Q E s :=
  add_lists F N hl hb (fun h' F' N' => h _ h' F' N' (fun p hp => Heap.lt_size (N p hp).1) F.ns.lt) (by rw [sizeLine_eq]; omega)
local macro_rules | `(tactic| walk_at "binaryOp Add ref ref") => `(tactic| (((with_reducible show wpAny _ _ (binaryOp Operator.Add (Value.ref _) (Value.ref _)) _ _ _); apply add_lists_L <;> try walk_at "mine side"); (try (case hz => (try simp only [List.length_append, List.length_cons, List.length_nil, List.length_reverse, List.length_map] at *); omega)); intros; (try k_sweep); (try (rename News _ _ _ _ => N9; simp only [List.cons_append, List.nil_append] at N9))))
local macro_rules | `(tactic| walk_at "call builtin:str.join") => `(tactic| ((try dsimp only [List.nil_append, List.cons_append]); (with_reducible show wpAny _ _ (call (Value.builtin "str.join") [Value.str _ _, Value.ref _]) _ _ _); refine' join_list ?a ?b ?c ?_; (case a => is_list); (case b => with_unfolding_all assumption); (case c => assumption); intro t9 k9))
theorem variable_spec {w : World} {mean : ExcName → Option Value} {mg mb : Str → Option Value} {g : Heap} {s : Shared} {Q : Value → Shared → Prop} {A : RdA} {V : RdV} {kvs : List (Str × Value)} {wd : List (Str × Int)} {scs : List Str} {at_ : Int} {tat : Tok} {pl : Addr} {pvs : List Value} {pk : Nat} {kind wds name v : List Nat} {more : List (List Nat)}
   (X : (top0.heap_1 w.params).In g) (T : Top Mine.viewK (looseW Mine.viewK [Str.ofString "GateloomError"]) mean mg mb g) (hb : g.StaysIn s.heap)
   (hR : ∀ p ∈ led w A V, s.heap.get? p.1 = some p.2 ∧ g.get? p.1 = none) (hO : OrdA A) (hpl : s.heap.get? pl = some (listOf pvs.toArray pk)) (hpn : pl ∉ adrs A) (hpv : StrsAre pvs ((kind :: wds :: name :: v :: more).map toS)) (hml : more.length ≤ 1000)
   (hd : V.wid.IsDictOf (strKind Challenge.rw_sj0032_01.row.prog w) kvs) (hf : PyProof.V.FlatPairs PyData.str kvs (kdpD wd)) (lo : (A.dwid == sysModules) = false) (hwl : wd.length ≤ 1000)
   (hsc : StrsAre V.scv scs) (hscl : scs.length ≤ 1000) (hvl : V.vvs.length ≤ 1000)
   (hw0 : wds ≠ []) (hwa : NumText.AllDigits wds) (hwn : wds.length ≤ 600) (hw1 : 1 ≤ NumText.digitsVal wds) (hw2 : NumText.digitsVal wds ≤ 100) (hlk : kdpLook wd (toS name) (NumText.digitsVal wds : Nat) = (NumText.digitsVal wds : Nat))
   (hpa : ((scs ++ [toS v]).map (·.length)).sum + (scs ++ [toS v]).length * (Str.ofString ".").length ≤ 16777216)
   (h : ∀ h' tk' wid' kvs' d t1 t2 t3 t4 nv', Stays (adrs A) s.heap h' → (∀ p ∈ led w A { V with wid := wid', vvs := V.vvs ++ [.ref d], nv := nv' }, h'.get? p.1 = some p.2) →
      wid'.IsDictOf (strKind Challenge.rw_sj0032_01.row.prog w) kvs' → PyProof.V.FlatPairs PyData.str kvs' (kdpD (kdpPut wd (toS name) (NumText.digitsVal wds : Nat))) →
      h'.get? d = some { cls := .type "tuple", data := .seq [.str (Txt.join (Str.ofString ".") (scs ++ [toS v])) t1, .int (NumText.digitsVal wds : Nat) t2, .str (toS kind) t3, .str (toS name) t4].toArray } → s.heap.objs.size ≤ d → Q .none { s with heap := h', toks := tk' }) :
   wpAny (model Challenge.rw_sj0032_01.row.prog w) (Ar 550 2000) (call (.ref 159) [.ref A.self, .int at_ tat, .ref pl]) Q (fun _ _ => False) s := by
  refine fill (top0.heap_1 w.params) ?_
  k_fill
  intro _
  have hn := hR
  walk_at "mine enter2"
  intro g' L' h₁ hb' X' T' st F' N' lt
  dsimp only
  obtain ⟨m₀, F'⟩ := fr_hide (ps := [(Str.ofString "self", .ref A.self), (Str.ofString "at", .int at_ tat), (Str.ofString "parts", .ref pl)]) F' ⟨rfl, rfl, rfl, trivial⟩
  dsimp only [kstB] at F'
  k_fold
  have hsrt := hO.srt
  have hL0 : g'.get? pl = some (listOf pvs.toArray pk) := st _ _ (by rw [led_adrs]; exact hpn) hpl
  obtain ⟨u0, p0, e0, hpv0⟩ := StrsAre.cons_inv hpv
  obtain ⟨u1, p1, e1, hpv1⟩ := StrsAre.cons_inv hpv0
  obtain ⟨u2, p2, e2, hpv2⟩ := StrsAre.cons_inv hpv1
  obtain ⟨u3, p3, e3, hpv3⟩ := StrsAre.cons_inv hpv2
  subst e3 e2 e1 e0
  have hp3 := hpv3.length
  rw [List.length_map] at hp3
  have hL : g'.IsList pl (Value.str (toS kind) u0 :: Value.str (toS wds) u1 :: Value.str (toS name) u2 :: Value.str (toS v) u3 :: p3).toArray := ⟨_, hL0, rfl, pk, rfl⟩
  dsimp only [led] at N'
  have hp4 : p3.length ≤ 1000 := by omega
  have hj : StrsAre (V.scv ++ [Value.str (toS v) u3]) (scs ++ [toS v]) := strsAre_append hsc (.cons _ _ .nil)
  have hscv : V.scv.length ≤ 1000 := by have := hsc.length; omega
  have hkl : (kdpLook wd (toS name) (NumText.digitsVal wds : Nat) != ((NumText.digitsVal wds : Nat) : Int)) = false := by rw [hlk]; exact bne_self_eq_false _
  walk_at "mine go"
  rename_i o9 kv9 hd9 hf9 lA hA l1A lLA lB hB l1B lLB tB kB hC tkC d hD l1D lLD hE F9 N9
  exact h hE _ o9 kv9 d _ _ _ _ _ (stays_of st F9) (fun p hp => (N9 p (.tail _ (.tail _ (.tail _ hp)))).1) hd9 hf9 (N9 _ (.head _)).1 (Nat.le_of_lt (Nat.lt_of_le_of_lt lt lLD))
theorem off11 : True := by (w_top off); exact True.intro
/-- what the declarations have told so far -/
structure DS where
  scale : Str
  scopes : List Str
  vars : List Dat
  wid : List (Str × Int)
abbrev wTS : List Nat := [36, 116, 105, 109, 101, 115, 99, 97, 108, 101]
abbrev wSC : List Nat := [36, 115, 99, 111, 112, 101]
abbrev wUP : List Nat := [36, 117, 112, 115, 99, 111, 112, 101]
abbrev wVAR : List Nat := [36, 118, 97, 114]
abbrev wDATE : List Nat := [36, 100, 97, 116, 101]
abbrev wVER : List Nat := [36, 118, 101, 114, 115, 105, 111, 110]
abbrev wCOM : List Nat := [36, 99, 111, 109, 109, 101, 110, 116]
abbrev wED : List Nat := [36, 101, 110, 100, 100, 101, 102, 105, 110, 105, 116, 105, 111, 110, 115]
theorem toS_ts : toS wTS = Str.ofString "$timescale" := by decide +kernel
theorem toS_sc : toS wSC = Str.ofString "$scope" := by decide +kernel
theorem toS_up : toS wUP = Str.ofString "$upscope" := by decide +kernel
theorem toS_var : toS wVAR = Str.ofString "$var" := by decide +kernel
theorem toS_date : toS wDATE = Str.ofString "$date" := by decide +kernel
theorem toS_ver : toS wVER = Str.ofString "$version" := by decide +kernel
theorem toS_com : toS wCOM = Str.ofString "$comment" := by decide +kernel
theorem toS_ed : toS wED = Str.ofString "$enddefinitions" := by decide +kernel
def sumLen (l : List Str) : Nat := (l.map (·.length)).sum
/-- one command of the declarations: its word, what stands before its $end -/
inductive Cmd : List Nat → List (List Nat) → DS → DS → Prop
  | scale (σ : DS) (parts : List (List Nat)) (h1 : parts.length ≤ 1000) (h2 : sumLen (parts.map toS) ≤ 10000) : Cmd wTS parts σ { σ with scale := Txt.join (Str.ofString " ") (parts.map toS) }
  | scope (σ : DS) (k n : List Nat) (h1 : σ.scopes.length < 100) : Cmd wSC [k, n] σ { σ with scopes := σ.scopes ++ [toS n] }
  | up (σ : DS) (sc : List Str) (x : Str) (h1 : σ.scopes = sc ++ [x]) : Cmd wUP [] σ { σ with scopes := sc }
  | skip (σ : DS) (wd : List Nat) (parts : List (List Nat)) (h1 : wd = wDATE ∨ wd = wVER ∨ wd = wCOM) : Cmd wd parts σ σ
  | var (σ : DS) (kind wds name v : List Nat) (more : List (List Nat)) (hml : more.length ≤ 1000) (hw0 : wds ≠ []) (hwa : NumText.AllDigits wds) (hwn : wds.length ≤ 600) (hw1 : 1 ≤ NumText.digitsVal wds) (hw2 : NumText.digitsVal wds ≤ 100)
      (hlk : kdpLook σ.wid (toS name) (NumText.digitsVal wds : Nat) = (NumText.digitsVal wds : Nat)) (hpa : sumLen (σ.scopes ++ [toS v]) ≤ 10000) (hvl : σ.vars.length < 100) (hwl : σ.wid.length < 100) :
      Cmd wVAR (kind :: wds :: name :: v :: more) σ { σ with vars := σ.vars ++ [.tuple [.str (Txt.join (Str.ofString ".") (σ.scopes ++ [toS v])), .int (NumText.digitsVal wds : Nat), .str (toS kind), .str (toS name)]], wid := kdpPut σ.wid (toS name) (NumText.digitsVal wds : Nat) }
structure DMatch (w : World) (V : RdV) (σ : DS) (tl : List (Addr × Obj)) : Prop where
  scale : V.scale = σ.scale
  scopes : StrsAre V.scv σ.scopes
  wid : ∃ kvs, V.wid.IsDictOf (strKind Challenge.rw_sj0032_01.row.prog w) kvs ∧ PyProof.V.FlatPairs PyData.str kvs (kdpD σ.wid)
  vars : DatAll tl V.vvs σ.vars
  scl : σ.scopes.length ≤ 100
  vl : σ.vars.length ≤ 100
  wl : σ.wid.length ≤ 100
theorem strsAre_snoc_inv : ∀ {vs : List Value} {ys : List Str} {x : Str}, StrsAre vs (ys ++ [x]) → ∃ ps t, vs = ps ++ [.str x t] ∧ StrsAre ps ys
  | _, [], x, .cons _ t .nil => ⟨[], t, rfl, .nil⟩
  | _, y :: ys, x, .cons _ t r => by
    obtain ⟨ps, t', rfl, h⟩ := strsAre_snoc_inv r
    exact ⟨_ :: ps, t', rfl, .cons _ _ h⟩
local macro_rules | `(tactic| walk_at "ite") => `(tactic| first | (refine PySem.W.ite_neg ?c ?_; (case c => with_reducible assumption)) | (refine PySem.W.ite_pos ?c ?_; (case c => with_reducible assumption)))
local macro_rules | `(tactic| walk_at "call builtin:list.pop") => `(tactic| ((try dsimp only [List.nil_append, List.cons_append]); (with_reducible show wpAny _ _ (call (Value.builtin "list.pop") [Value.ref _]) _ _ _); k_dflt (refine' kl_pop ?F ?N ?e ?U ?z ?_; (case F => assumption); (case N => assumption); (case U => k_upd); (case e => exact kpa_last _ _); (case z => (rw [sizeLine_eq]; simp only [List.length_append, List.length_cons, List.length_nil]; omega))); intro h' F' N'; (try k_sweep)))
theorem command_spec {w : World} {mean : ExcName → Option Value} {mg mb : Str → Option Value} {g : Heap} {s : Shared} {Q : Value → Shared → Prop} {A : RdA} {V : RdV} {σ σ' : DS} {tl : List (Addr × Obj)} {at_ : Int} {tat tw : Tok} {pl : Addr} {pvs : List Value} {pk : Nat} {wd : List Nat} {parts : List (List Nat)}
   (X : (top0.heap_1 w.params).In g) (T : Top Mine.viewK (looseW Mine.viewK [Str.ofString "GateloomError"]) mean mg mb g) (hb : g.StaysIn s.heap)
   (hR : ∀ p ∈ led w A V, s.heap.get? p.1 = some p.2 ∧ g.get? p.1 = none) (hO : OrdA A) (lo : (A.dwid == sysModules) = false) (hpl : s.heap.get? pl = some (listOf pvs.toArray pk)) (hpn : pl ∉ adrs A) (hpv : StrsAre pvs (parts.map toS))
   (hM : DMatch w V σ tl) (hC : Cmd wd parts σ σ')
   (h : ∀ h' tk' sc tsc scv nsc wid' vvs nv add, Stays (adrs A) s.heap h' → (∀ p ∈ led w A { V with scale := sc, tsc := tsc, scv := scv, nsc := nsc, wid := wid', vvs := vvs, nv := nv }, h'.get? p.1 = some p.2) →
      (∀ q ∈ add, h'.get? q.1 = some q.2 ∧ s.heap.objs.size ≤ q.1) → DMatch w { V with scale := sc, tsc := tsc, scv := scv, nsc := nsc, wid := wid', vvs := vvs, nv := nv } σ' (add ++ tl) → Q .none { s with heap := h', toks := tk' }) :
   wpAny (model Challenge.rw_sj0032_01.row.prog w) (Ar 500 1500) (call (.ref 152) [.ref A.self, .str (toS wd) tw, .int at_ tat, .ref pl]) Q (fun _ _ => False) s := by
  refine fill (top0.heap_1 w.params) ?_
  k_fill
  intro _
  have hn := hR
  obtain ⟨m1, m2, ⟨kvs, m3, m4⟩, m5, m6, m7, m8⟩ := hM
  walk_at "mine enter2"
  intro g' L' h₁ hb' X' T' st F' N' lt
  dsimp only
  obtain ⟨m₀, F'⟩ := fr_hide (ps := [(Str.ofString "self", .ref A.self), (Str.ofString "word", .str (toS wd) tw), (Str.ofString "at", .int at_ tat), (Str.ofString "parts", .ref pl)]) F' ⟨rfl, rfl, rfl, rfl, trivial⟩
  dsimp only [kstB] at F'
  k_fold
  have hsrt := hO.srt
  have hL0 : g'.get? pl = some (listOf pvs.toArray pk) := st _ _ (by rw [led_adrs]; exact hpn) hpl
  have hL : g'.IsList pl pvs.toArray := ⟨_, hL0, rfl, pk, rfl⟩
  have hpl2 := hpv.length
  rw [List.length_map] at hpl2
  have hscv := m2.length
  have hvvs := m5.length
  dsimp only [led] at N'
  cases hC with
  | scale _ _ h1 h2 =>
    rw [toS_ts] at F'
    have hok : ((parts.map toS).map (·.length)).sum + (parts.map toS).length * (Str.ofString " ").length ≤ 16777216 := by
      rw [List.length_map, show (Str.ofString " ").length = 1 from by decide +kernel]
      unfold sumLen at h2
      omega
    walk_at "mine go"
    rename_i tkA t9 k9 hE F9 N9
    exact h hE _ _ _ V.scv V.nsc V.wid V.vvs V.nv [] (stays_of st F9) (fun p hp => (N9 p hp).1) (by intro q hq; cases hq) ⟨rfl, m2, ⟨kvs, m3, m4⟩, m5, m6, m7, m8⟩
  | scope _ k n h1 =>
    rw [toS_sc] at F'
    obtain ⟨u0, p0, e0, hpv0⟩ := StrsAre.cons_inv hpv
    obtain ⟨u1, p1, e1, hpv1⟩ := StrsAre.cons_inv hpv0
    have e2 := StrsAre.nil_inv hpv1
    subst e2 e1 e0
    have hs1 : V.scv.length ≤ 1000 := by omega
    walk_at "mine go"
    rename Fr g' L' _ _ => F9
    rename News g' L' _ _ => N9
    exact h _ _ V.scale V.tsc (V.scv ++ [.str (toS n) u1]) (V.nsc + 1) V.wid V.vvs V.nv [] (stays_of st F9) (fun p hp => (N9 p hp).1) (by intro q hq; cases hq) ⟨m1, strsAre_append m2 (.cons _ _ .nil), ⟨kvs, m3, m4⟩, m5, by simp only [List.length_append, List.length_cons, List.length_nil]; omega, m7, m8⟩
  | up _ sc x h1 =>
    rw [toS_up] at F'
    rw [h1] at m2
    obtain ⟨ps, tx, e, m2'⟩ := strsAre_snoc_inv m2
    rw [e] at N'
    have hps := m2'.length
    have hps2 : ps.length ≤ 1000 := by rw [h1, List.length_append] at m6; omega
    have hlen2 : (ps ++ [Value.str x tx]).length = ps.length + 1 := by simp
    walk_at "mine go"
    · exfalso; omega
    rename Fr g' L' _ _ => F9
    rename News g' L' _ _ => N9
    exact h _ _ V.scale V.tsc ps (V.nsc + 1) V.wid V.vvs V.nv [] (stays_of st F9) (fun p hp => (N9 p hp).1) (by intro q hq; cases hq) ⟨m1, m2', ⟨kvs, m3, m4⟩, m5, by rw [h1, List.length_append] at m6; show sc.length ≤ 100; omega, m7, m8⟩
  | skip _ _ _ h1 =>
    rcases h1 with rfl | rfl | rfl
    · rw [toS_date] at F'
      walk_at "mine go"
      rename Fr g' L' _ _ => F9
      rename News g' L' _ _ => N9
      exact h _ _ _ _ V.scv V.nsc V.wid V.vvs V.nv [] (stays_of st F9) (fun p hp => (N9 p (.tail _ hp)).1) (by intro q hq; cases hq) ⟨m1, m2, ⟨kvs, m3, m4⟩, m5, m6, m7, m8⟩
    · rw [toS_ver] at F'
      walk_at "mine go"
      rename Fr g' L' _ _ => F9
      rename News g' L' _ _ => N9
      exact h _ _ _ _ V.scv V.nsc V.wid V.vvs V.nv [] (stays_of st F9) (fun p hp => (N9 p (.tail _ hp)).1) (by intro q hq; cases hq) ⟨m1, m2, ⟨kvs, m3, m4⟩, m5, m6, m7, m8⟩
    · rw [toS_com] at F'
      walk_at "mine go"
      rename Fr g' L' _ _ => F9
      rename News g' L' _ _ => N9
      exact h _ _ _ _ V.scv V.nsc V.wid V.vvs V.nv [] (stays_of st F9) (fun p hp => (N9 p (.tail _ hp)).1) (by intro q hq; cases hq) ⟨m1, m2, ⟨kvs, m3, m4⟩, m5, m6, m7, m8⟩
  | var _ kind wds name v more hml hw0 hwa hwn hw1 hw2 hlk hpa hvl hwl =>
    rw [toS_var] at F'
    walk_at "mine go"
    rename Fr g' L' _ _ => F2
    rename News g' L' _ _ => N2
    have hok : ((σ.scopes ++ [toS v]).map (·.length)).sum + (σ.scopes ++ [toS v]).length * (Str.ofString ".").length ≤ 16777216 := by
      rw [show (Str.ofString ".").length = 1 from by decide +kernel]
      unfold sumLen at hpa
      simp only [List.length_append, List.length_cons, List.length_nil]
      omega
    refine wp_le (d := 550) (u := 2000) (variable_spec (w := w) (A := A) (V := V) X' T' F2.keep (fun p hp => ⟨(N2 p hp).1, (N2 p hp).2.2⟩) hO (F2.keep _ _ hL0) hpn hpv hml m3 m4 lo (by omega) m2 (by omega) (by omega) hw0 hwa hwn hw1 hw2 hlk hok ?_) rfl (Nat.le_of_ble_eq_true rfl) (Nat.le_of_ble_eq_true rfl)
    intro h3 tk3 wid3 kvs3 d3 t1 t2 t3 t4 nv3 S3 R3 hd3 hf3 hg3 hz3
    have F3 := fr_led F2 N2 (fun p hp => hp) S3
    have N3 := news_led N2 (fun p hp => hp) S3 R3 (rest := []) (by intro p hp; cases hp)
    walk_at "mine go"
    have hz4 : s.heap.objs.size ≤ d3 := Nat.le_trans lt (Nat.le_trans (Nat.le_of_lt F2.ns.lt) hz3)
    refine h _ _ _ _ V.scv V.nsc wid3 (V.vvs ++ [.ref d3]) nv3 [(d3, _)] (stays_of st F3) R3 (by intro q hq; rw [List.mem_singleton.mp hq]; exact ⟨hg3, hz4⟩) ⟨m1, m2, ⟨kvs3, hd3, hf3⟩, ?_, m6, by simp only [List.length_append, List.length_cons, List.length_nil]; omega, ?_⟩
    · refine (m5.mono fun p hp => .tail _ hp).append (.one ?_)
      exact .tuple (.head _) (.cons (.str _ _) (.cons (.int _ _) (.cons (.str _ _) (.cons (.str _ _) .nil))))
    · have := kdpPut_len σ.wid (toS name) (NumText.digitsVal wds : Nat)
      show (kdpPut σ.wid (toS name) (NumText.digitsVal wds : Nat)).length ≤ 100
      omega
theorem off12 : True := by (w_top off); exact True.intro
local macro_rules | `(tactic| walk_at "call ref") => `(tactic| ((walk_at "mine nil"; (with_reducible show wpAny _ _ (call (Value.ref 110) [Value.ref _] _) _ _ _); apply until_end_spec <;> try walk_at "mine side"); walk_at "mine end0"))
local macro_rules | `(tactic| walk_at "call ref") => `(tactic| ((try dsimp only [List.nil_append, List.cons_append]); (with_reducible show wpAny _ _ (call (Value.ref 152) _ _) _ _ _); refine Stop.go ?_))
theorem cmd_word {wd : List Nat} {parts : List (List Nat)} {σ σ' : DS} (h : Cmd wd parts σ σ') : wd = wTS ∨ wd = wSC ∨ wd = wUP ∨ wd = wDATE ∨ wd = wVER ∨ wd = wCOM ∨ wd = wVAR := by
  cases h with
  | scale => exact .inl rfl
  | scope => exact .inr (.inl rfl)
  | up => exact .inr (.inr (.inl rfl))
  | skip _ _ _ h =>
    rcases h with rfl | rfl | rfl
    · exact .inr (.inr (.inr (.inl rfl)))
    · exact .inr (.inr (.inr (.inr (.inl rfl))))
    · exact .inr (.inr (.inr (.inr (.inr (.inl rfl)))))
  | var => exact .inr (.inr (.inr (.inr (.inr (.inr rfl)))))
inductive Decl : List (List Nat) → DS → DS → List (List Nat) → Prop
  | done (σ : DS) (parts rest : List (List Nat)) (h1 : END ∉ parts) (h2 : parts.length ≤ 1000) : Decl (wED :: (parts ++ END :: rest)) σ σ rest
  | step (σ σ1 σ2 : DS) (wd : List Nat) (parts rest rest' : List (List Nat)) (h1 : END ∉ parts) (h2 : parts.length ≤ 1000) (hc : Cmd wd parts σ σ1) (hr : Decl rest σ1 σ2 rest') : Decl (wd :: (parts ++ END :: rest)) σ σ2 rest'
theorem news_app {g h : Heap} {L : Addr} {a b : List (Addr × Obj)} (N1 : News g L h a) (N2 : News g L h b) : News g L h (a ++ b) := fun p hp => (List.mem_append.mp hp).elim (N1 p) (N2 p)
theorem news_new {g h h' : Heap} {L : Addr} {m : Str → Option Value} {add : List (Addr × Obj)} (F : Fr g L h m) (H : ∀ q ∈ add, h'.get? q.1 = some q.2 ∧ h.objs.size ≤ q.1) : News g L h' add := fun q hq =>
  news_cons F (news := []) (fun p hp => nomatch hp) (H q hq).1 (H q hq).2 q (.head _)
theorem off_new {g h : Heap} {L : Addr} {news add : List (Addr × Obj)} {adr : List Addr} (N : News g L h news) (ha : ∀ a ∈ adr, ∃ o, (a, o) ∈ news) (H : ∀ q ∈ add, h.objs.size ≤ q.1) : OwnOff add adr := fun q hq b hb e => by
  obtain ⟨o, ho⟩ := ha b hb
  have h1 := Heap.lt_size (N _ ho).1
  have h2 := H q hq
  rw [e] at h2
  exact absurd (Nat.lt_of_lt_of_le h1 h2) (Nat.lt_irrefl _)
theorem led_mem (w : World) (A : RdA) (V : RdV) : ∀ a ∈ adrs A, ∃ o, (a, o) ∈ led w A V := fun a ha => by
  rw [← led_adrs w A V] at ha
  obtain ⟨q, hq, e⟩ := List.mem_map.mp ha
  exact ⟨q.2, by rw [← e]; exact hq⟩
theorem off_app {a b : List (Addr × Obj)} {adr : List Addr} (h1 : OwnOff a adr) (h2 : OwnOff b adr) : OwnOff (a ++ b) adr := fun p hp => (List.mem_append.mp hp).elim (h1 p) (h2 p)
inductive DeclJ (w : World) (s : Shared) (A : RdA) (V : RdV) (σE : DS) (wsE : List (List Nat)) (n : Nat) (m₁ : Str → Option Value) (nx : List (Addr × Obj)) : Prop
  | mk (V1 : RdV) (σ1 : DS) (tl : List (Addr × Obj)) (c : List Nat) (tc : Tok) (q0 : Nm m₁ [(Str.ofString "self", .ref A.self), (Str.ofString "word", .str (toS c) tc)]) (q1 : nx = led w A V1 ++ tl) (q2 : (∀ q ∈ tl, s.heap.objs.size ≤ q.1)) (q3 : OwnOff tl (adrs A)) (q4 : DMatch w V1 σ1 tl) (q5 : Decl (c :: words (A.txt.cps.toList.drop V1.p)) σ1 σE wsE) (q6 : n = (words (A.txt.cps.toList.drop V1.p)).length) (q7 : V1.p ≤ A.txt.length) (q8 : 0 ≤ V1.a) (q9 : V1.a ≤ 1000000) (q10 : c ≠ []) (q11 : (V1.cvs = V.cvs ∧ V1.nc = V.nc ∧ V1.now = V.now ∧ V1.tn = V.tn)) : DeclJ w s A V σE wsE n m₁ nx
inductive DeclO (w : World) (s : Shared) (A : RdA) (V : RdV) (σE : DS) (wsE : List (List Nat)) (m₁ : Str → Option Value) (nx : List (Addr × Obj)) : Prop
  | mk (V1 : RdV) (tl : List (Addr × Obj)) (parts : List (List Nat)) (q0 : Nm m₁ [(Str.ofString "self", .ref A.self)]) (q1 : nx = led w A V1 ++ tl) (q2 : (∀ q ∈ tl, s.heap.objs.size ≤ q.1)) (q3 : OwnOff tl (adrs A)) (q4 : DMatch w V1 σE tl) (q5 : words (A.txt.cps.toList.drop V1.p) = parts ++ END :: wsE) (q6 : END ∉ parts) (q7 : parts.length ≤ 1000000) (q8 : V1.p ≤ A.txt.length) (q9 : (V1.cvs = V.cvs ∧ V1.nc = V.nc ∧ V1.now = V.now ∧ V1.tn = V.tn)) : DeclO w s A V σE wsE m₁ nx
theorem decl_spec {w : World} {mean : ExcName → Option Value} {mg mb : Str → Option Value} {g : Heap} {s : Shared} {Q : Value → Shared → Prop} {A : RdA} {V : RdV} {σ σE : DS} {wsE : List (List Nat)}
   (X : (top0.heap_1 w.params).In g) (T : Top Mine.viewK (looseW Mine.viewK [Str.ofString "GateloomError"]) mean mg mb g) (hb : g.StaysIn s.heap)
   (hR : ∀ p ∈ led w A V, s.heap.get? p.1 = some p.2 ∧ g.get? p.1 = none) (hO : OrdA A) (lo : (A.dwid == sysModules) = false)
   (hM : DMatch w V σ []) (hp0 : V.p ≤ A.txt.length) (hl : A.txt.length ≤ 1000000) (hD : Decl (words (A.txt.cps.toList.drop V.p)) σ σE wsE)
   (h : ∀ h' tk' (V' : RdV) add, Stays (adrs A) s.heap h' → (∀ p ∈ led w A V', h'.get? p.1 = some p.2) → (∀ q ∈ add, h'.get? q.1 = some q.2 ∧ s.heap.objs.size ≤ q.1) → DMatch w V' σE add → V'.p ≤ A.txt.length → words (A.txt.cps.toList.drop V'.p) = wsE →
      V'.cvs = V.cvs → V'.nc = V.nc → V'.now = V.now → V'.tn = V.tn → Q .none { s with heap := h', toks := tk' }) :
   wpAny (model Challenge.rw_sj0032_01.row.prog w) (Ar 450 1000) (call (.ref 145) [.ref A.self]) Q (fun _ _ => False) s := by
  refine fill (top0.heap_1 w.params) ?_
  k_fill
  intro _
  have hn := hR
  walk_at "mine enter2"
  intro g' L' h₁ hb' X' T' st F' N' lt
  dsimp only
  obtain ⟨m₀, F'⟩ := fr_hide (ps := [(Str.ofString "self", .ref A.self)]) F' ⟨rfl, trivial⟩
  dsimp only [kstB] at F'
  k_fold
  have hsrt := hO.srt
  dsimp only [led] at N'
  walk_at "mine go"
  rename_i h9 tk9 p9 tp9 a9 ta9 t9 hp9 ha9 hb9 hd9 hx F9 N9
  refine Stop.go ?_
  unfold Stop
  obtain ⟨c, w0, e1⟩ : ∃ c w0, words (A.txt.cps.toList.drop V.p) = c :: w0 := by
    generalize words (A.txt.cps.toList.drop V.p) = ws0 at hD
    cases hD with
    | done => exact ⟨_, _, rfl⟩
    | step => exact ⟨_, _, rfl⟩
  obtain ⟨e2, e3, e4⟩ := words_head e1
  rw [e2] at F9
  rw [← hd9] at e3
  rw [e1] at hD
  refine while_cut (DeclJ w s A V σE wsE)
    (DeclO w s A V σE wsE)
    F9 N9 (n₀ := w0.length) ⟨{ V with p := p9, tp := tp9, a := a9, ta := ta9 }, σ, [], c, t9, ⟨rfl, rfl, trivial⟩, rfl, (fun _ hp => nomatch hp), (fun _ hp => nomatch hp), ⟨hM.1, hM.2, hM.3, hM.4, hM.5, hM.6, hM.7⟩, by rw [e3]; exact hD, by rw [e3], hp9, ha9, hb9, e4, rfl, rfl, rfl, rfl⟩ ?_ ?_
  · intro n m₁ nx h₂ tk₂ F2 N2 HJ RT RE hT hE
    obtain ⟨V1, σ1, tl, c, tc, hm, rfl, htl, hoff, hM1, hD1, hn1, hp1, ha1, hb1, hc1, hV1⟩ := HJ
    have F2 := fr_names F2 hm
    dsimp only [kstB] at F2
    simp only [led, List.cons_append, List.nil_append] at N2
    simp only [adrs] at hoff
    generalize hws : words (A.txt.cps.toList.drop V1.p) = ws at hD1 hn1
    cases hD1 with
    | done _ parts _ h1 h2 =>
      have hc : (toS wED != Str.ofString "$enddefinitions") = false := by rw [toS_ed]; exact bne_self_eq_false _
      walk_at "mine go"
      exact hE _ <| endSt F2 N2 ⟨V1, tl, parts, ⟨rfl, trivial⟩, rfl, htl, hoff, hM1, hws, h1, by omega, hp1, hV1⟩
    | step _ σ2 _ _ parts rest _ h1 h2 hC hr =>
      have hpl2 : parts.length ≤ 1000000 := by omega
      have hcw := cmd_word hC
      have hc : (toS c != Str.ofString "$enddefinitions") = true := by
        rw [← toS_ed]
        refine bne_iff_ne.mpr fun e => ?_
        have e := toS_inj e
        rcases hcw with rfl | rfl | rfl | rfl | rfl | rfl | rfl <;> exact absurd e (by decide)
      have hce : (toS c == Str.ofString "") = false := by
        rw [toS_empty]
        exact beq_eq_false_iff_ne.mpr fun e => hc1 (toS_inj e)
      have hch : (toS c).cps.toList[(0 : Int).toNat]? = some 36 := by
        rcases hcw with rfl | rfl | rfl | rfl | rfl | rfl | rfl <;> rfl
      have hc3 : ((⟨#[36]⟩ : Str) != Str.ofString "$") = false := by decide +kernel
      have hc4 : (toS c == Str.ofString "$end") = false := by
        rw [toS_end]
        refine beq_eq_false_iff_ne.mpr fun e => ?_
        have e := toS_inj e
        rcases hcw with rfl | rfl | rfl | rfl | rfl | rfl | rfl <;> exact absurd e (by decide)
      walk_at "mine go"
      rename_i F8 N8 tkx h9 tk9 p9 tp9 a9 ta9 r9 vs9 k9 F9 N9 l9 s9 hp9 ha9 hb9 hw9
      unfold Stop
      have N8' : News g' L' _ (led w A V1 ++ tl) := N8
      have N9' : News g' L' h9 ((r9, listOf vs9.toArray k9) :: (led w A { V1 with p := p9, tp := tp9, a := a9, ta := ta9 } ++ tl)) := N9
      have hpn : r9 ∉ adrs A := fun hm => by
        obtain ⟨o, ho⟩ := led_mem w A V1 r9 hm
        exact absurd (Nat.lt_of_lt_of_le (Heap.lt_size (N8' _ (List.mem_append_left _ ho)).1) l9) (Nat.lt_irrefl _)
      have hsub : ∀ p ∈ led w A { V1 with p := p9, tp := tp9, a := a9, ta := ta9 }, p ∈ (r9, listOf vs9.toArray k9) :: (led w A { V1 with p := p9, tp := tp9, a := a9, ta := ta9 } ++ tl) := fun p hp => .tail _ (List.mem_append_left _ hp)
      refine wp_le (d := 500) (u := 1500) (command_spec (w := w) (A := A) (V := { V1 with p := p9, tp := tp9, a := a9, ta := ta9 }) (σ := σ1) (σ' := σ2) (tl := tl) X' T' F9.keep (fun p hp => ⟨(N9' p (hsub p hp)).1, (N9' p (hsub p hp)).2.2⟩) hO lo (N9' _ (.head _)).1 hpn s9 ⟨hM1.1, hM1.2, hM1.3, hM1.4, hM1.5, hM1.6, hM1.7⟩ hC ?_) rfl (Nat.le_of_ble_eq_true rfl) (Nat.le_of_ble_eq_true rfl)
      intro h3 tk3 sc tsc scv nsc wid3 vvs nv add S3 R3 hadd hM3
      have F3 := fr_led F9 N9' hsub S3
      have N3a := news_led N9' hsub S3 R3 (rest := tl) (fun p hp => ⟨.tail _ (List.mem_append_right _ hp), fun hm => hoff p hp _ hm rfl⟩)
      have N3b := news_new F9 hadd
      have hoff3 : OwnOff (add ++ tl) (adrs A) := off_app (off_new N9' (fun a ha => by obtain ⟨o, ho⟩ := led_mem w A { V1 with p := p9, tp := tp9, a := a9, ta := ta9 } a ha; exact ⟨o, hsub _ ho⟩) fun q hq => (hadd q hq).2) hoff
      have N3 : News g' L' h3 (led w A { V1 with p := p9, tp := tp9, a := a9, ta := ta9, scale := sc, tsc := tsc, scv := scv, nsc := nsc, wid := wid3, vvs := vvs, nv := nv } ++ (add ++ tl)) := fun p hp => by
        rcases List.mem_append.mp hp with q | q
        · exact N3a p (List.mem_append_left _ q)
        · rcases List.mem_append.mp q with q | q
          · exact N3b p q
          · exact N3a p (List.mem_append_right _ q)
      have htl3 : ∀ q ∈ add ++ tl, s.heap.objs.size ≤ q.1 := fun q hq => (List.mem_append.mp hq).elim (fun h => Nat.le_trans lt (Nat.le_trans (Nat.le_of_lt F9.ns.lt) (hadd q h).2)) (htl q)
      clear N9 N9' N8 N8' N3a N3b F8 F9
      simp only [led, List.cons_append, List.nil_append] at N3
      simp only [adrs] at hoff3
      walk_at "mine go"
      rename_i h10 tk10 p10 tp10 a10 ta10 t10 hp10 ha10 hb10 hd10 hy F10 N10
      obtain ⟨c2, w2, e2⟩ : ∃ c2 w2, rest = c2 :: w2 := by
        cases hr with
        | done => exact ⟨_, _, rfl⟩
        | step => exact ⟨_, _, rfl⟩
      obtain ⟨e5, e6, e7⟩ := words_head (hw9.trans e2)
      rw [e5] at F10
      rw [← hd10] at e6
      refine hT _ _ <| turnEnd w2.length ?_ F10 N10 ⟨{ V1 with p := p10, tp := tp10, a := a10, ta := ta10, scale := sc, tsc := tsc, scv := scv, nsc := nsc, wid := wid3, vvs := vvs, nv := nv }, σ2, add ++ tl, c2, t10, ⟨rfl, rfl, trivial⟩, rfl, htl3, hoff3, ⟨hM3.1, hM3.2, hM3.3, hM3.4, hM3.5, hM3.6, hM3.7⟩, ?_, ?_, hp10, ha10, hb10, e7, hV1⟩
      · rw [hn1, e2]; simp only [List.length_append, List.length_cons]; omega
      · show Decl (c2 :: words (A.txt.cps.toList.drop p10)) σ2 σE wsE
        rw [e6, ← e2]; exact hr
      · show w2.length = (words (A.txt.cps.toList.drop p10)).length
        rw [e6]
  · intro h2 tk2 m2 nx F2 N2 HO
    obtain ⟨V1, tl, parts, hm, rfl, htl, hoff, hM1, hw1, h1, hpl1, hp1, hV1⟩ := HO
    have F2 := fr_names F2 hm
    dsimp only [kstB] at F2
    simp only [led, List.cons_append, List.nil_append] at N2
    simp only [adrs] at hoff
    walk_at "mine go"
    rename_i h9 tk9 p9 tp9 a9 ta9 r9 vs9 k9 F9 N9 l9 s9 hp9 ha9 hb9 hw9
    have N9' : News g' L' h9 ((r9, listOf vs9.toArray k9) :: (led w A { V1 with p := p9, tp := tp9, a := a9, ta := ta9 } ++ tl)) := N9
    exact h h9 _ { V1 with p := p9, tp := tp9, a := a9, ta := ta9 } tl (stays_of st F9) (fun p hp => (N9' p (.tail _ (List.mem_append_left _ hp))).1) (fun q hq => ⟨(N9' q (.tail _ (List.mem_append_right _ hq))).1, htl q hq⟩) ⟨hM1.1, hM1.2, hM1.3, hM1.4, hM1.5, hM1.6, hM1.7⟩ hp9 hw9 hV1.1 hV1.2.1 hV1.2.2.1 hV1.2.2.2
theorem off13 : True := by (w_top off); exact True.intro
local macro_rules | `(tactic| walk_at "call ref") => `(tactic| ((walk_at "mine nil"; (with_reducible show wpAny _ _ (call (Value.ref 61) [Value.str _ _] _) _ _ _); apply from_text_spec <;> try walk_at "mine side"); intros))
def fullOf (ds : List Nat) (W : Nat) : List Nat := match ds.map lo1 with
  | [] => []
  | c :: r => List.replicate (W - (c :: r).length) (extOf c) ++ c :: r
def valD (ds : List Nat) (W : Nat) : Dat := .tuple [.int ((fullOf ds W).length : Nat), .int (numW (· % 2) ((fullOf ds W).reverse.map codeOf) : Nat), .int (numW (· / 2) ((fullOf ds W).reverse.map codeOf) : Nat)]
def chgD (now : Int) (name : List Nat) (ds : List Nat) (W : Nat) : Dat := .tuple [.int now, .str (toS name), valD ds W]
def SixSigns (ds : List Nat) : Prop := ∀ c ∈ ds, c = 48 ∨ c = 49 ∨ c = 120 ∨ c = 122 ∨ c = 88 ∨ c = 90
theorem lower_digits {ds : List Nat} (h : SixSigns ds) : Txt.lower (toS ds) = toS (ds.map lo1) := by
  rw [lower_ascii (x := toS ds) (fun c hc => by rcases h c hc with rfl | rfl | rfl | rfl | rfl | rfl <;> decide)]
  show Str.mk (ds.toArray.map lo1) = Str.mk _
  simp
theorem four_full {ds : List Nat} {W : Nat} (h : SixSigns ds) : ∀ c ∈ fullOf ds W, c = 48 ∨ c = 49 ∨ c = 122 ∨ c = 120 := by
  have h4 : ∀ c ∈ ds.map lo1, c = 48 ∨ c = 49 ∨ c = 122 ∨ c = 120 := by
    intro c hc
    obtain ⟨d, hd, rfl⟩ := List.mem_map.mp hc
    rcases h d hd with rfl | rfl | rfl | rfl | rfl | rfl <;> decide
  intro c hc
  unfold fullOf at hc
  split at hc
  · cases hc
  · rename_i c0 r e
    rw [e] at h4
    rcases List.mem_append.mp hc with hc | hc
    · rw [(List.mem_replicate.mp hc).2]
      rcases h4 c0 (.head _) with rfl | rfl | rfl | rfl <;> decide
    · exact h4 c hc
theorem full_length {ds : List Nat} {W : Nat} (h0 : ds ≠ []) (hl : ds.length ≤ W) : (fullOf ds W).length = W := by
  unfold fullOf
  split
  · rename_i e
    exact absurd (List.map_eq_nil_iff.mp e) h0
  · rename_i c r e
    have := congrArg List.length e
    rw [List.length_map] at this
    rw [List.length_append, List.length_replicate]
    omega
theorem kdp_item_is {prog : Program} {w : World} {A : Around} {E : Value → Shared → Prop} {s : Shared} {d : Addr} {c : List (Str × Int)} {k : Str} {tk : Tok} {W : Int} {value slice : Expr} {Q : Value → Shared → Prop} (T : StrTab prog w s.heap d (kdpD c)) (hk : kdpHas c k = true) (e : kdpLook c k 0 = W) (h : ∀ t, Q (.int W t) { s with toks := s.toks + 1 })
    (hs : subscripted slice false (.ref d) (.str k tk) = operate [.ref d, .str k tk] (getItem (.ref d) (.str k tk))) (hg : ∀ r, letTemporaryGo value (.ref d) r = pure ()) :
    wpAny (model prog w) A (subscriptTail value slice (.ref d) (.str k tk)) Q E s := kdp_item T hk (fun t => e ▸ h t) hs hg
local macro_rules | `(tactic| walk_at "subscriptTail Attribute Name Name ref str") => `(tactic| ((with_reducible show wpAny _ _ (subscriptTail _ _ (Value.ref _) (Value.str _ _)) _ _ _); refine kdp_item_is (strTab_of (by assumption) (by k_mem) (by assumption) (by assumption) (by assumption)) (by assumption) (by assumption) ?_ (by with_unfolding_all rfl) (by intro _; with_unfolding_all rfl); intro t9))
local macro_rules | `(tactic| walk_at "compareOp NotIn str ref") => `(tactic| ((with_reducible show wpAny _ _ (compareOp CmpOp.NotIn (Value.str _ _) (Value.ref _)) _ _ _); refine kdp_notin (strTab_of (by assumption) (by k_mem) (by assumption) (by assumption) (by assumption)) ?_))
local macro_rules | `(tactic| walk_at "call builtin:str.lower") => `(tactic| ((try dsimp only [List.nil_append, List.cons_append]); (with_reducible show wpAny _ _ (call (Value.builtin "str.lower") [Value.str _ _]) _ _ _); refine KXw.lower (by assumption) (by assumption) ?_; intro t9 k9))
theorem change_spec {w : World} {mean : ExcName → Option Value} {mg mb : Str → Option Value} {g : Heap} {s : Shared} {Q : Value → Shared → Prop} {A : RdA} {V : RdV} {kvs : List (Str × Value)} {wd : List (Str × Int)} {c : Nat} {ds name : List Nat} {W : Nat} {at_ : Int} {tat td tn : Tok}
   (X : (top0.heap_1 w.params).In g) (T : Top Mine.viewK (looseW Mine.viewK [Str.ofString "GateloomError"]) mean mg mb g) (hb : g.StaysIn s.heap)
   (hR : ∀ p ∈ led w A V, s.heap.get? p.1 = some p.2 ∧ g.get? p.1 = none) (hO : OrdA A) (lo : (A.dwid == sysModules) = false)
   (hd : V.wid.IsDictOf (strKind Challenge.rw_sj0032_01.row.prog w) kvs) (hf : PyProof.V.FlatPairs PyData.str kvs (kdpD wd)) (hcl : V.cvs.length ≤ 1000)
   (hk : kdpHas wd (toS name) = true) (hW : kdpLook wd (toS name) 0 = ((W : Nat) : Int)) (hl : (c :: ds).length ≤ W) (hW10 : W ≤ 10) (h6 : SixSigns (c :: ds))
   (h : ∀ h' tk' d v t1 t2 t3 t4 t5 nc', Stays (adrs A) s.heap h' → (∀ p ∈ led w A { V with cvs := V.cvs ++ [.ref d], nc := nc' }, h'.get? p.1 = some p.2) →
      h'.get? d = some { cls := .type "tuple", data := .seq [.int V.now t1, .str (toS name) t2, .ref v].toArray } →
      h'.get? v = some { cls := .type "tuple", data := .seq [.int (fullOf (c :: ds) W).length t3, .int (numW (· % 2) ((fullOf (c :: ds) W).reverse.map codeOf) : Nat) t4, .int (numW (· / 2) ((fullOf (c :: ds) W).reverse.map codeOf) : Nat) t5].toArray } → s.heap.objs.size ≤ d → s.heap.objs.size ≤ v → Q .none { s with heap := h', toks := tk' }) :
   wpAny (model Challenge.rw_sj0032_01.row.prog w) (Ar 550 2000) (call (.ref 173) [.ref A.self, .str (toS (c :: ds)) td, .str (toS name) tn, .int at_ tat]) Q (fun _ _ => False) s := by
  refine fill (top0.heap_1 w.params) ?_
  k_fill
  intro _
  have hn := hR
  walk_at "mine enter2"
  intro g' L' h₁ hb' X' T' st F' N' lt
  dsimp only
  obtain ⟨m₀, F'⟩ := fr_hide (ps := [(Str.ofString "self", .ref A.self), (Str.ofString "digits", .str (toS (c :: ds)) td), (Str.ofString "name", .str (toS name) tn), (Str.ofString "at", .int at_ tat)]) F' ⟨rfl, rfl, rfl, rfl, trivial⟩
  dsimp only [kstB] at F'
  k_fold
  have hsrt := hO.srt
  dsimp only [led] at N'
  have hk1 : (!kdpHas wd (toS name)) = false := by rw [hk]; rfl
  have hc0 : (toS (c :: ds) == Str.ofString "") = false := by
    rw [toS_empty]
    exact beq_eq_false_iff_ne.mpr fun e => absurd (toS_inj e) (by simp)
  have hlen : (toS (c :: ds)).length = (c :: ds).length := by simp [Str.length]
  walk_at "mine go"
  rename Fr g' L' _ _ => F1
  rename News g' L' _ _ => N1
  rw [hW] at F1
  refine Stop.go ?_
  unfold Stop
  refine iter_text_cut (fun _ m₁ nx => ∃ tw, Nm m₁ [(Str.ofString "self", .ref A.self), (Str.ofString "digits", .str (toS (c :: ds)) td), (Str.ofString "name", .str (toS name) tn), (Str.ofString "width", .int (W : Int) tw)] ∧ nx = led w A V) rfl F1 N1 ⟨_, ⟨rfl, rfl, rfl, rfl, trivial⟩, rfl⟩ ?_ ?_
  · intro i c1 tc m₁ nx h₂ tk₂ own hi hc hoff hJ F2 N2 RL hLp
    obtain ⟨tw, hm, rfl⟩ := hJ
    have F2 := fr_names F2 (ps := [(Str.ofString "sign", .str ⟨#[c1]⟩ tc), (Str.ofString "self", .ref A.self), (Str.ofString "digits", .str (toS (c :: ds)) td), (Str.ofString "name", .str (toS name) tn), (Str.ofString "width", .int (W : Int) tw)]) ⟨rfl, hm.1, hm.2.1, hm.2.2.1, hm.2.2.2.1, trivial⟩
    dsimp only [kstB] at F2
    have hocc : (Builtin.Str.occurrences (Str.ofString "01xzXZ") ⟨#[c1]⟩ 0 (Str.ofString "01xzXZ").length 1).isEmpty = false := by
      have hr := h6 c1 (List.mem_of_getElem? hc)
      rw [occ_one, show Str.ofString "01xzXZ" = Str.mk #[48, 49, 120, 122, 88, 90] from by decide +kernel]
      simp
      omega
    walk_at "mine go"
    exact hLp _ _ <| loopEnd (led w A V) F2 N2 ⟨tw, ⟨rfl, rfl, rfl, rfl, trivial⟩, rfl⟩ hoff (fun p hp => List.mem_append_left _ hp) (fun p hp => List.mem_append_right _ hp)
  · intro m₁ nx h₂ tk₂ hJ F2 N2
    obtain ⟨tw, hm, rfl⟩ := hJ
    have F2 := fr_names F2 hm
    dsimp only [kstB] at F2
    dsimp only [led] at N2
    have hlow := lower_digits h6
    have hll : (toS (c :: ds)).length ≤ 5592405 := by omega
    have hfit := fit_lower hll
    rw [List.map_cons] at hlow
    have hl1 : ((lo1 c :: ds.map lo1).length : Int) ≤ (W : Int) := by simp only [List.length_cons, List.length_map] at hl ⊢; omega
    have hfe : List.replicate ((W : Int).toNat - (lo1 c :: ds.map lo1).length) (extOf (lo1 c)) ++ lo1 c :: ds.map lo1 = fullOf (c :: ds) W := rfl
    have hfl := full_length (ds := c :: ds) (W := W) (by simp) hl
    have hfl2 : (List.replicate ((W : Int).toNat - (lo1 c :: ds.map lo1).length) (extOf (lo1 c)) ++ lo1 c :: ds.map lo1).length ≤ 10 := by rw [hfe]; omega
    have h44 : ∀ c1 ∈ List.replicate ((W : Int).toNat - (lo1 c :: ds.map lo1).length) (extOf (lo1 c)) ++ lo1 c :: ds.map lo1, c1 = 48 ∨ c1 = 49 ∨ c1 = 122 ∨ c1 = 120 := by rw [hfe]; exact four_full h6
    walk_at "mine go"
    rename_i h7 tk7 t7 F7 N7 h8 tk8 d9 t1 t2 t3 F8 N8 l9 ln9 hA tkA l hB l1 lL hE F9 N9
    exact h hE _ l d9 V.tn tn t1 t2 t3 (V.nc + 1) (stays_of st F9) (fun p hp => (N9 p (.tail _ (.tail _ hp))).1) (N9 _ (.head _)).1 (N9 _ (.tail _ (.head _))).1 (Nat.le_of_lt (Nat.lt_of_le_of_lt lt lL)) (Nat.le_trans lt (Nat.le_trans (Nat.le_of_lt F7.ns.lt) l9))
theorem off14 : True := by (w_top off); exact True.intro
theorem slice_one (c : Nat) (ds : List Nat) : Txt.slice (toS (c :: ds)) (some 1) none = toS ds := by
  show StrLaws.sliceText (toS (c :: ds)) (some 1) none = _
  rw [StrLaws.sliceText_from ⟨by decide, by simp; omega⟩]
  show Str.mk (((c :: ds).drop 1).take ((((c :: ds).length : Nat) : Int) - 1).toNat).toArray = Str.mk ds.toArray
  rw [show (c :: ds).drop 1 = ds from rfl, List.take_of_length_le (by simp only [List.length_cons]; omega)]
local macro_rules | `(tactic| walk_at "call ref") => `(tactic| ((try dsimp only [List.nil_append, List.cons_append]); (with_reducible show wpAny _ _ (call (Value.ref 173) _ _) _ _ _); refine Stop.go ?_))
local macro_rules | `(tactic| walk_at "call ref") => `(tactic| ((try dsimp only [List.nil_append, List.cons_append]); rw [slice_one]))
theorem News.tail1 {g : Heap} {L : Addr} {h : Heap} {p : Addr × Obj} {n : List (Addr × Obj)} (N : News g L h (p :: n)) : News g L h n := fun q hq => N q (.tail _ hq)
local macro_rules | `(tactic| walk_at "call ref") => `(tactic| ((walk_at "mine nil"; (with_reducible show wpAny _ _ (call (Value.ref 110) [Value.ref _] _) _ _ _); apply until_end_spec <;> try walk_at "mine side"); (intros; (rename News _ _ _ _ => N9); (replace N9 := News.tail1 N9); (try dsimp only at N9))))
abbrev wDV : List Nat := [36, 100, 117, 109, 112, 118, 97, 114, 115]
abbrev wDA : List Nat := [36, 100, 117, 109, 112, 97, 108, 108]
abbrev wDN : List Nat := [36, 100, 117, 109, 112, 111, 110]
abbrev wDF : List Nat := [36, 100, 117, 109, 112, 111, 102, 102]
theorem toS_dv : toS wDV = Str.ofString "$dumpvars" := by decide +kernel
theorem toS_da : toS wDA = Str.ofString "$dumpall" := by decide +kernel
theorem toS_dn : toS wDN = Str.ofString "$dumpon" := by decide +kernel
theorem toS_df : toS wDF = Str.ofString "$dumpoff" := by decide +kernel
/-- the changes, from a word on: the time told last, the changes so far -/
inductive Chg (wd : List (Str × Int)) : List (List Nat) → Nat → List Dat → Nat → List Dat → Prop
  | nil (now : Nat) (ch : List Dat) : Chg wd [] now ch now ch
  | time (ds : List Nat) (rest : List (List Nat)) (now nowE : Nat) (ch chE : List Dat) (h0 : ds ≠ []) (h1 : NumText.AllDigits ds) (h2 : ds.length ≤ 600) (h3 : now ≤ NumText.digitsVal ds) (hr : Chg wd rest (NumText.digitsVal ds) ch nowE chE) : Chg wd ((35 :: ds) :: rest) now ch nowE chE
  | scalar (c : Nat) (name : List Nat) (W : Nat) (rest : List (List Nat)) (now nowE : Nat) (ch chE : List Dat) (h1 : SixSigns [c]) (h2 : name.length ≤ 600) (hk : kdpHas wd (toS name) = true) (hW : kdpLook wd (toS name) 0 = ((W : Nat) : Int)) (hW1 : 1 ≤ W) (hW10 : W ≤ 10) (hc : ch.length < 100)
      (hr : Chg wd rest now (ch ++ [chgD now name [c] W]) nowE chE) : Chg wd ((c :: name) :: rest) now ch nowE chE
  | vector (b c : Nat) (ds name : List Nat) (W : Nat) (rest : List (List Nat)) (now nowE : Nat) (ch chE : List Dat) (hb : b = 98 ∨ b = 66) (h1 : SixSigns (c :: ds)) (hk : kdpHas wd (toS name) = true) (hW : kdpLook wd (toS name) 0 = ((W : Nat) : Int)) (hl : (c :: ds).length ≤ W) (hW10 : W ≤ 10) (hc : ch.length < 100)
      (hr : Chg wd rest now (ch ++ [chgD now name (c :: ds) W]) nowE chE) : Chg wd ((b :: c :: ds) :: name :: rest) now ch nowE chE
  | comment (parts rest : List (List Nat)) (now nowE : Nat) (ch chE : List Dat) (h1 : END ∉ parts) (h2 : parts.length ≤ 1000) (hr : Chg wd rest now ch nowE chE) : Chg wd (wCOM :: (parts ++ END :: rest)) now ch nowE chE
  | word (c : List Nat) (rest : List (List Nat)) (now nowE : Nat) (ch chE : List Dat) (h1 : c = wDV ∨ c = wDA ∨ c = wDN ∨ c = wDF ∨ c = END) (hr : Chg wd rest now ch nowE chE) : Chg wd (c :: rest) now ch nowE chE
def wsOf (c : List Nat) (ws : List (List Nat)) : List (List Nat) := if c = [] then [] else c :: ws
theorem wsOf_words (l : List Nat) : wsOf (wordOf l) (words (restOf l)) = words l := (words_cons l).symm
theorem change_spec2 {w : World} {mean : ExcName → Option Value} {mg mb : Str → Option Value} {g : Heap} {s : Shared} {Q : Value → Shared → Prop} {A : RdA} {V : RdV} {kvs : List (Str × Value)} {wd : List (Str × Int)} {c : Nat} {ds name : List Nat} {W now : Nat} {at_ : Int} {tat td tn : Tok}
   (X : (top0.heap_1 w.params).In g) (T : Top Mine.viewK (looseW Mine.viewK [Str.ofString "GateloomError"]) mean mg mb g) (hb : g.StaysIn s.heap)
   (hR : ∀ p ∈ led w A V, s.heap.get? p.1 = some p.2 ∧ g.get? p.1 = none) (hO : OrdA A) (lo : (A.dwid == sysModules) = false)
   (hd : V.wid.IsDictOf (strKind Challenge.rw_sj0032_01.row.prog w) kvs) (hf : PyProof.V.FlatPairs PyData.str kvs (kdpD wd)) (hcl : V.cvs.length ≤ 1000)
   (hk : kdpHas wd (toS name) = true) (hW : kdpLook wd (toS name) 0 = ((W : Nat) : Int)) (hl : (c :: ds).length ≤ W) (hW10 : W ≤ 10) (h6 : SixSigns (c :: ds)) (hn1 : V.now = (now : Nat))
   (h : ∀ h' tk' d nc' add, Stays (adrs A) s.heap h' → (∀ p ∈ led w A { V with cvs := V.cvs ++ [.ref d], nc := nc' }, h'.get? p.1 = some p.2) →
      (∀ q ∈ add, h'.get? q.1 = some q.2 ∧ s.heap.objs.size ≤ q.1) → DatAll add [.ref d] [chgD now name (c :: ds) W] → Q .none { s with heap := h', toks := tk' }) :
   wpAny (model Challenge.rw_sj0032_01.row.prog w) (Ar 550 2000) (call (.ref 173) [.ref A.self, .str (toS (c :: ds)) td, .str (toS name) tn, .int at_ tat]) Q (fun _ _ => False) s := by
  refine change_spec (c := c) (ds := ds) (name := name) (W := W) X T hb hR hO lo hd hf hcl hk hW hl hW10 h6 ?_
  intro h3 tk3 d3 v3 u1 u2 u3 u4 u5 nc3 S3 R3 hd3 hv3 hz1 hz2
  refine h h3 tk3 d3 nc3 [(d3, { cls := .type "tuple", data := .seq [.int V.now u1, .str (toS name) u2, .ref v3].toArray }), (v3, { cls := .type "tuple", data := .seq [.int (fullOf (c :: ds) W).length u3, .int (numW (· % 2) ((fullOf (c :: ds) W).reverse.map codeOf) : Nat) u4, .int (numW (· / 2) ((fullOf (c :: ds) W).reverse.map codeOf) : Nat) u5].toArray })] S3 R3 (List.forall_mem_cons.mpr ⟨⟨hd3, hz1⟩, List.forall_mem_cons.mpr ⟨⟨hv3, hz2⟩, List.forall_mem_nil _⟩⟩) (.one ?_)
  rw [show chgD now name (c :: ds) W = Dat.tuple [.int V.now, .str (toS name), valD (c :: ds) W] by rw [hn1]; rfl]
  exact .tuple (.head _) (.cons (.int _ _) (.cons (.str _ _) (.cons (.tuple (.tail _ (.head _)) (.cons (.int _ _) (.cons (.int _ _) (.cons (.int _ _) .nil)))) .nil)))
def Halt : Prop := True
local macro_rules | `(tactic| walk_at "compareOp NotIn str ref") => `(tactic| ((rename Halt => hH); refine Stop.go ?_))
theorem wpAny_val {α : Type} {M : Model} {A : Around} {t : Sem α} {v0 : α} {Q : α → Shared → Prop} {E : Value → Shared → Prop} {s : Shared} (h1 : wpAny M A t (fun v s' => v = v0 ∧ s' = s) E s) (h2 : Q v0 s) : wpAny M A t Q E s := wpAny_mono h1 (fun v s' h => by obtain ⟨rfl, rfl⟩ := h; exact h2) fun _ _ e => e
inductive ValsJ (w : World) (s : Shared) (A : RdA) (V : RdV) (wd : List (Str × Int)) (nowE : Nat) (chE : List Dat) (n : Nat) (m₁ : Str → Option Value) (nx : List (Addr × Obj)) : Prop
  | mk (V1 : RdV) (now1 : Nat) (ch1 : List Dat) (tl : List (Addr × Obj)) (c : List Nat) (tc : Tok) (q0 : Nm m₁ [(Str.ofString "self", .ref A.self), (Str.ofString "word", .str (toS c) tc)]) (q1 : nx = led w A V1 ++ tl) (q2 : (∀ q ∈ tl, s.heap.objs.size ≤ q.1)) (q3 : OwnOff tl (adrs A)) (q4 : V1.now = now1) (q5 : DatAll tl V1.cvs ch1) (q6 : ch1.length ≤ 100) (q7 : Chg wd (wsOf c (words (A.txt.cps.toList.drop V1.p))) now1 ch1 nowE chE) (q8 : n = (wsOf c (words (A.txt.cps.toList.drop V1.p))).length) (q9 : V1.p ≤ A.txt.length) (q10 : 0 ≤ V1.a) (q11 : V1.a ≤ 1000000) (q12 : (V1.scale = V.scale ∧ V1.vvs = V.vvs ∧ V1.nv = V.nv ∧ V1.wid = V.wid)) : ValsJ w s A V wd nowE chE n m₁ nx
inductive ValsO (w : World) (s : Shared) (A : RdA) (V : RdV) (chE : List Dat) (m₁ : Str → Option Value) (nx : List (Addr × Obj)) : Prop
  | mk (V1 : RdV) (tl : List (Addr × Obj)) (q0 : nx = led w A V1 ++ tl) (q1 : (∀ q ∈ tl, s.heap.objs.size ≤ q.1)) (q2 : DatAll tl V1.cvs chE) (q3 : (V1.scale = V.scale ∧ V1.vvs = V.vvs ∧ V1.nv = V.nv)) : ValsO w s A V chE m₁ nx
theorem vals_spec {w : World} {mean : ExcName → Option Value} {mg mb : Str → Option Value} {g : Heap} {s : Shared} {Q : Value → Shared → Prop} {A : RdA} {V : RdV} {kvs : List (Str × Value)} {wd : List (Str × Int)} {nowE : Nat} {chE : List Dat}
   (X : (top0.heap_1 w.params).In g) (T : Top Mine.viewK (looseW Mine.viewK [Str.ofString "GateloomError"]) mean mg mb g) (hb : g.StaysIn s.heap)
   (hR : ∀ p ∈ led w A V, s.heap.get? p.1 = some p.2 ∧ g.get? p.1 = none) (hO : OrdA A) (lo : (A.dwid == sysModules) = false)
   (hd : V.wid.IsDictOf (strKind Challenge.rw_sj0032_01.row.prog w) kvs) (hf : PyProof.V.FlatPairs PyData.str kvs (kdpD wd)) (hcv : V.cvs = []) (hnow : V.now = 0) (hp0 : V.p ≤ A.txt.length) (hl : A.txt.length ≤ 1000000)
   (hC : Chg wd (words (A.txt.cps.toList.drop V.p)) 0 [] nowE chE)
   (h : ∀ h' tk' (V' : RdV) add, Stays (adrs A) s.heap h' → (∀ p ∈ led w A V', h'.get? p.1 = some p.2) → (∀ q ∈ add, h'.get? q.1 = some q.2 ∧ s.heap.objs.size ≤ q.1) → DatAll add V'.cvs chE →
      V'.scale = V.scale → V'.vvs = V.vvs → V'.nv = V.nv → Q .none { s with heap := h', toks := tk' }) :
   wpAny (model Challenge.rw_sj0032_01.row.prog w) (Ar 450 1000) (call (.ref 166) [.ref A.self]) Q (fun _ _ => False) s := by
  refine fill (top0.heap_1 w.params) ?_
  k_fill
  intro _
  have hn := hR
  walk_at "mine enter2"
  intro g' L' h₁ hb' X' T' st F' N' lt
  dsimp only
  obtain ⟨m₀, F'⟩ := fr_hide (ps := [(Str.ofString "self", .ref A.self)]) F' ⟨rfl, trivial⟩
  dsimp only [kstB] at F'
  k_fold
  have hsrt := hO.srt
  dsimp only [led] at N'
  walk_at "mine go"
  rename_i h9 tk9 p9 tp9 a9 ta9 t9 hp9 ha9 hb9 hd9 hx F9 N9
  refine Stop.go ?_
  unfold Stop
  refine while_cut (ValsJ w s A V wd nowE chE)
    (ValsO w s A V chE)
    F9 N9 (n₀ := (words (A.txt.cps.toList.drop V.p)).length) ⟨{ V with p := p9, tp := tp9, a := a9, ta := ta9 }, 0, [], [], _, t9, ⟨rfl, rfl, trivial⟩, rfl, (fun _ hp => nomatch hp), (fun _ hp => nomatch hp), hnow, by (show DatAll [] V.cvs []); rw [hcv]; exact .nil, by decide, by (show Chg wd (wsOf _ (words (A.txt.cps.toList.drop p9))) 0 [] nowE chE); rw [hd9, wsOf_words]; exact hC, by (show _ = (wsOf _ (words (A.txt.cps.toList.drop p9))).length); rw [hd9, wsOf_words], hp9, ha9, hb9, rfl, rfl, rfl, rfl⟩ ?_ ?_
  · intro n m₁ nx h₂ tk₂ F2 N2 HJ RT RE hT hE
    obtain ⟨V1, now1, ch1, tl, c, tc, hm, rfl, htl, hoff, hn1, hdat, hchl, hC1, hmes, hp1, ha1, hb1, hV1⟩ := HJ
    have F2 := fr_names F2 hm
    dsimp only [kstB] at F2
    simp only [led, List.cons_append, List.nil_append] at N2
    simp only [adrs] at hoff
    by_cases hce : c = []
    · subst hce
      have hb : (toS [] != Str.ofString "") = false := by rw [toS_empty]; exact bne_self_eq_false _
      have hC2 : Chg wd [] now1 ch1 nowE chE := hC1
      walk_at "mine go"
      cases hC2
      exact hE _ <| endSt F2 N2 ⟨V1, tl, rfl, htl, hdat, hV1.1, hV1.2.1, hV1.2.2.1⟩
    · have hb : (toS c != Str.ofString "") = true := by rw [toS_empty]; exact bne_iff_ne.mpr fun e => hce (toS_inj e)
      have e0 : wsOf c (words (A.txt.cps.toList.drop V1.p)) = c :: words (A.txt.cps.toList.drop V1.p) := if_neg hce
      rw [e0] at hC1 hmes
      generalize hws : words (A.txt.cps.toList.drop V1.p) = ws at hC1 hmes
      cases hC1 with
      | time ds _ _ _ _ _ h0 h1 h2 h3 hr =>
        have hch : (toS (35 :: ds)).cps.toList[(0 : Int).toNat]? = some 35 := rfl
        have hq1 : ((⟨#[35]⟩ : Str) == Str.ofString "#") = true := by decide +kernel
        have hwl : (toS (35 :: ds)).length ≤ 1000 := by simp only [Str.length, List.size_toArray, List.length_cons]; omega
        have hnn : V1.now ≤ ((NumText.digitsVal ds : Nat) : Int) := by rw [hn1]; omega
        have hmlt : ws.length < n := by rw [hmes]; simp
        walk_at "mine go"
        rename_i tw9 hA tkA tkB hB h9 tk9 p9 tp9 a9 ta9 t9 hp9 ha9 hb9 hd9 hy F9 N9
        refine hT _ _ <| turnEnd _ (Nat.lt_of_le_of_lt (Nat.le_refl _) hmlt) F9 N9 ⟨{ V1 with now := (NumText.digitsVal ds : Nat), tn := tw9, p := p9, tp := tp9, a := a9, ta := ta9 }, NumText.digitsVal ds, ch1, tl, _, t9, ⟨rfl, rfl, trivial⟩, rfl, htl, hoff, rfl, hdat, hchl, ?_, ?_, hp9, ha9, hb9, hV1⟩
        · show Chg wd (wsOf _ (words (A.txt.cps.toList.drop p9))) _ _ nowE chE
          rw [hd9, wsOf_words, hws]; exact hr
        · show _ = (wsOf _ (words (A.txt.cps.toList.drop p9))).length
          rw [hd9, wsOf_words, hws]
      | scalar cc name W _ _ _ _ _ h1 h2 hk hW hW1 hW10 hc hr =>
        have hmlt : ws.length < n := by rw [hmes]; simp
        have h6 := h1 cc (.head _)
        have hch : (toS (cc :: name)).cps.toList[(0 : Int).toNat]? = some cc := rfl
        have hq1 : ((⟨#[cc]⟩ : Str) == Str.ofString "#") = false := by rcases h6 with rfl | rfl | rfl | rfl | rfl | rfl <;> decide +kernel
        have hq2 : (Builtin.Str.occurrences (Str.ofString "01xzXZ") ⟨#[cc]⟩ 0 (Str.ofString "01xzXZ").length 1).isEmpty = false := by rw [occ_one]; rcases h6 with rfl | rfl | rfl | rfl | rfl | rfl <;> decide +kernel
        have hwl : (toS (cc :: name)).length ≤ 1000 := by simp only [Str.length, List.size_toArray, List.length_cons]; omega
        walk_at "mine go"
        unfold Stop
        rename Fr g' L' _ _ => F8
        rename News g' L' _ _ => N8
        have N8' : News g' L' _ (led w A V1 ++ tl) := N8
        have hsub : ∀ p ∈ led w A V1, p ∈ led w A V1 ++ tl := fun p hp => List.mem_append_left _ hp
        have hcvl : V1.cvs.length ≤ 1000 := by have := hdat.length; omega
        refine wp_le (d := 550) (u := 2000) (change_spec2 (s := ⟨_, _, _, _, _⟩) (w := w) (A := A) (V := V1) (c := cc) (ds := []) (name := name) (W := W) (now := now1) X' T' F8.keep (fun p hp => ⟨(N8' p (hsub p hp)).1, (N8' p (hsub p hp)).2.2⟩) hO lo (by rw [← hV1.2.2.2] at hd; exact hd) hf hcvl hk hW (by show 1 ≤ W; exact hW1) hW10 h1 hn1 ?_) rfl (Nat.le_of_ble_eq_true rfl) (Nat.le_of_ble_eq_true rfl)
        intro h3 tk3 d3 nc3 add S3 R3 hadd hdd
        have F3 := fr_led F8 N8' hsub S3
        have N3a := news_led N8' hsub S3 R3 (rest := tl) (fun p hp => ⟨List.mem_append_right _ hp, fun hm => hoff p hp _ hm rfl⟩)
        have N3b := news_new F8 hadd
        have hoff3 : OwnOff (add ++ tl) (adrs A) := off_app (off_new N8' (fun a ha => by obtain ⟨o, ho⟩ := led_mem w A V1 a ha; exact ⟨o, hsub _ ho⟩) fun q hq => (hadd q hq).2) hoff
        have htl3 : ∀ q ∈ add ++ tl, s.heap.objs.size ≤ q.1 := fun q hq => (List.mem_append.mp hq).elim (fun h => Nat.le_trans lt (Nat.le_trans (Nat.le_of_lt F8.ns.lt) (hadd q h).2)) (htl q)
        have N3 : News g' L' h3 (led w A { V1 with cvs := V1.cvs ++ [.ref d3], nc := nc3 } ++ (add ++ tl)) := fun p hp => by
          rcases List.mem_append.mp hp with q | q
          · exact N3a p (List.mem_append_left _ q)
          · rcases List.mem_append.mp q with q | q
            · exact N3b p q
            · exact N3a p (List.mem_append_right _ q)
        have hdat3 : DatAll (add ++ tl) (V1.cvs ++ [.ref d3]) (ch1 ++ [chgD now1 name (cc :: []) W]) := (hdat.mono fun p hp => List.mem_append_right _ hp).append (hdd.mono fun p hp => List.mem_append_left _ hp)
        clear N8 N8' N3a N3b F8
        simp only [led, List.cons_append, List.nil_append] at N3 hoff3
        simp only [adrs] at hoff3
        walk_at "mine go"
        rename_i h9 tk9 p9 tp9 a9 ta9 t9 hp9 ha9 hb9 hd9 hy F9 N9
        refine hT _ _ <| turnEnd _ (Nat.lt_of_le_of_lt (Nat.le_refl _) hmlt) F9 N9 ⟨{ V1 with cvs := V1.cvs ++ [.ref d3], nc := nc3, p := p9, tp := tp9, a := a9, ta := ta9 }, now1, ch1 ++ [chgD now1 name [cc] W], add ++ tl, _, t9, ⟨rfl, rfl, trivial⟩, rfl, htl3, hoff3, hn1, hdat3, (by simp only [List.length_append, List.length_cons, List.length_nil]; omega), ?_, ?_, hp9, ha9, hb9, hV1⟩
        · show Chg wd (wsOf _ (words (A.txt.cps.toList.drop p9))) _ _ nowE chE
          rw [hd9, wsOf_words, hws]; exact hr
        · show _ = (wsOf _ (words (A.txt.cps.toList.drop p9))).length
          rw [hd9, wsOf_words, hws]
      | vector b cc ds name W rest _ _ _ _ hbb h1 hk hW hl1 hW10 hc hr =>
        have hmlt : rest.length < n := by rw [hmes]; simp only [List.length_cons]; omega
        have hch : (toS (b :: cc :: ds)).cps.toList[(0 : Int).toNat]? = some b := rfl
        have hq1 : ((⟨#[b]⟩ : Str) == Str.ofString "#") = false := by rcases hbb with rfl | rfl <;> decide +kernel
        have hq2 : (Builtin.Str.occurrences (Str.ofString "01xzXZ") ⟨#[b]⟩ 0 (Str.ofString "01xzXZ").length 1).isEmpty = true := by rw [occ_one]; rcases hbb with rfl | rfl <;> decide +kernel
        have hq3 : (Builtin.Str.occurrences (Str.ofString "bB") ⟨#[b]⟩ 0 (Str.ofString "bB").length 1).isEmpty = false := by rw [occ_one]; rcases hbb with rfl | rfl <;> decide +kernel
        have hwl : (toS (b :: cc :: ds)).length ≤ 1000 := by simp only [Str.length, List.size_toArray, List.length_cons] at hl1 ⊢; omega
        obtain ⟨x1, x2, x3⟩ := words_head hws
        walk_at "mine go"
        rename_i hTk tkT pT tpT aT taT tT F8 N8 hpT haT hbT hdT
        unfold Stop
        rw [x1]
        rw [← hdT] at x2
        have N8' : News g' L' _ (led w A { V1 with p := pT, tp := tpT, a := aT, ta := taT } ++ tl) := N8
        have hsub : ∀ p ∈ led w A { V1 with p := pT, tp := tpT, a := aT, ta := taT }, p ∈ led w A { V1 with p := pT, tp := tpT, a := aT, ta := taT } ++ tl := fun p hp => List.mem_append_left _ hp
        have hcvl : V1.cvs.length ≤ 1000 := by have := hdat.length; omega
        refine wp_le (d := 550) (u := 2000) (change_spec2 (s := ⟨_, _, _, _, _⟩) (w := w) (A := A) (V := { V1 with p := pT, tp := tpT, a := aT, ta := taT }) (c := cc) (ds := ds) (name := name) (W := W) (now := now1) X' T' F8.keep (fun p hp => ⟨(N8' p (hsub p hp)).1, (N8' p (hsub p hp)).2.2⟩) hO lo (by rw [← hV1.2.2.2] at hd; exact hd) hf hcvl hk hW hl1 hW10 h1 hn1 ?_) rfl (Nat.le_of_ble_eq_true rfl) (Nat.le_of_ble_eq_true rfl)
        intro h3 tk3 d3 nc3 add S3 R3 hadd hdd
        have F3 := fr_led F8 N8' hsub S3
        have N3a := news_led N8' hsub S3 R3 (rest := tl) (fun p hp => ⟨List.mem_append_right _ hp, fun hm => hoff p hp _ hm rfl⟩)
        have N3b := news_new F8 hadd
        have hoff3 : OwnOff (add ++ tl) (adrs A) := off_app (off_new N8' (fun a ha => by obtain ⟨o, ho⟩ := led_mem w A { V1 with p := pT, tp := tpT, a := aT, ta := taT } a ha; exact ⟨o, hsub _ ho⟩) fun q hq => (hadd q hq).2) hoff
        have htl3 : ∀ q ∈ add ++ tl, s.heap.objs.size ≤ q.1 := fun q hq => (List.mem_append.mp hq).elim (fun h => Nat.le_trans lt (Nat.le_trans (Nat.le_of_lt F8.ns.lt) (hadd q h).2)) (htl q)
        have N3 : News g' L' h3 (led w A { V1 with p := pT, tp := tpT, a := aT, ta := taT, cvs := V1.cvs ++ [.ref d3], nc := nc3 } ++ (add ++ tl)) := fun p hp => by
          rcases List.mem_append.mp hp with q | q
          · exact N3a p (List.mem_append_left _ q)
          · rcases List.mem_append.mp q with q | q
            · exact N3b p q
            · exact N3a p (List.mem_append_right _ q)
        have hdat3 : DatAll (add ++ tl) (V1.cvs ++ [.ref d3]) (ch1 ++ [chgD now1 name (cc :: ds) W]) := (hdat.mono fun p hp => List.mem_append_right _ hp).append (hdd.mono fun p hp => List.mem_append_left _ hp)
        clear N8 N8' N3a N3b F8
        simp only [led, List.cons_append, List.nil_append] at N3 hoff3
        simp only [adrs] at hoff3
        walk_at "mine go"
        rename_i h9 tk9 p9 tp9 a9 ta9 t9 hp9 ha9 hb9 hd9 hy F9 N9
        refine hT _ _ <| turnEnd _ (Nat.lt_of_le_of_lt (Nat.le_refl _) hmlt) F9 N9 ⟨{ V1 with cvs := V1.cvs ++ [.ref d3], nc := nc3, p := p9, tp := tp9, a := a9, ta := ta9 }, now1, ch1 ++ [chgD now1 name (cc :: ds) W], add ++ tl, _, t9, ⟨rfl, rfl, trivial⟩, rfl, htl3, hoff3, hn1, hdat3, (by simp only [List.length_append, List.length_cons, List.length_nil]; omega), ?_, ?_, hp9, ha9, hb9, hV1⟩
        · show Chg wd (wsOf _ (words (A.txt.cps.toList.drop p9))) _ _ nowE chE
          rw [hd9, wsOf_words, x2]; exact hr
        · show _ = (wsOf _ (words (A.txt.cps.toList.drop p9))).length
          rw [hd9, wsOf_words, x2]
      | comment parts rest _ _ _ _ h1 h2 hr =>
        have hmlt : rest.length < n := by rw [hmes]; simp only [List.length_cons, List.length_append]; omega
        have hpl2 : parts.length ≤ 1000000 := by omega
        have hch : (toS wCOM).cps.toList[(0 : Int).toNat]? = some 36 := rfl
        have hq1 : ((⟨#[36]⟩ : Str) == Str.ofString "#") = false := by decide +kernel
        have hq2 : (Builtin.Str.occurrences (Str.ofString "01xzXZ") ⟨#[36]⟩ 0 (Str.ofString "01xzXZ").length 1).isEmpty = true := by rw [occ_one]; decide +kernel
        have hq3 : (Builtin.Str.occurrences (Str.ofString "bB") ⟨#[36]⟩ 0 (Str.ofString "bB").length 1).isEmpty = true := by rw [occ_one]; decide +kernel
        have hq4 : (Builtin.Str.occurrences (Str.ofString "rR") ⟨#[36]⟩ 0 (Str.ofString "rR").length 1).isEmpty = true := by rw [occ_one]; decide +kernel
        have hq5 : (toS wCOM == Str.ofString "$comment") = true := by decide +kernel
        walk_at "mine go"
        rename_i hwU h9 tk9 p9 tp9 a9 ta9 t9 hp9 ha9 hb9 hd9 hx F9 N9
        refine hT _ _ <| turnEnd _ (Nat.lt_of_le_of_lt (Nat.le_refl _) hmlt) F9 N9 ⟨{ V1 with p := p9, tp := tp9, a := a9, ta := ta9 }, now1, ch1, tl, _, t9, ⟨rfl, rfl, trivial⟩, rfl, htl, hoff, hn1, hdat, hchl, ?_, ?_, hp9, ha9, hb9, hV1⟩
        · show Chg wd (wsOf _ (words (A.txt.cps.toList.drop p9))) _ _ nowE chE
          rw [hd9, wsOf_words, hwU]; exact hr
        · show _ = (wsOf _ (words (A.txt.cps.toList.drop p9))).length
          rw [hd9, wsOf_words, hwU]
      | word _ _ _ _ _ _ h1 hr =>
        have hmlt : ws.length < n := by rw [hmes]; simp
        have hch : (toS c).cps.toList[(0 : Int).toNat]? = some 36 := by rcases h1 with rfl | rfl | rfl | rfl | rfl <;> rfl
        have hq1 : ((⟨#[36]⟩ : Str) == Str.ofString "#") = false := by decide +kernel
        have hq2 : (Builtin.Str.occurrences (Str.ofString "01xzXZ") ⟨#[36]⟩ 0 (Str.ofString "01xzXZ").length 1).isEmpty = true := by rw [occ_one]; decide +kernel
        have hq3 : (Builtin.Str.occurrences (Str.ofString "bB") ⟨#[36]⟩ 0 (Str.ofString "bB").length 1).isEmpty = true := by rw [occ_one]; decide +kernel
        have hq4 : (Builtin.Str.occurrences (Str.ofString "rR") ⟨#[36]⟩ 0 (Str.ofString "rR").length 1).isEmpty = true := by rw [occ_one]; decide +kernel
        have hq5 : (toS c == Str.ofString "$comment") = false := by rcases h1 with rfl | rfl | rfl | rfl | rfl <;> decide +kernel
        have hH : Halt := trivial
        walk_at "mine go"
        unfold Stop
        rename Halt => hH
        clear hH
        refine wpAny_val (v0 := .bool false) ?_ ?_
        · rcases h1 with rfl | rfl | rfl | rfl | rfl
          all_goals first | rw [toS_dv] | rw [toS_da] | rw [toS_dn] | rw [toS_df] | rw [← toS_end]
          all_goals (first | walk_at "compareOp NotIn str ref" | fail)
          all_goals exact ⟨rfl, rfl⟩
        walk_at "mine go"
        rename_i h9 tk9 p9 tp9 a9 ta9 t9 hp9 ha9 hb9 hd9 hx F9 N9
        refine hT _ _ <| turnEnd _ (Nat.lt_of_le_of_lt (Nat.le_refl _) hmlt) F9 (News.tail1 N9) ⟨{ V1 with p := p9, tp := tp9, a := a9, ta := ta9 }, now1, ch1, tl, _, t9, ⟨rfl, rfl, trivial⟩, rfl, htl, hoff, hn1, hdat, hchl, ?_, ?_, hp9, ha9, hb9, hV1⟩
        · show Chg wd (wsOf _ (words (A.txt.cps.toList.drop p9))) _ _ nowE chE
          rw [hd9, wsOf_words, hws]; exact hr
        · show _ = (wsOf _ (words (A.txt.cps.toList.drop p9))).length
          rw [hd9, wsOf_words, hws]
  · intro h2 tk2 m2 nx F2 N2 HO
    obtain ⟨V1, tl, rfl, htl, hdat, hV1⟩ := HO
    walk_at "mine go"
    exact h h2 _ V1 tl (stays_of st F2) (fun p hp => (N2 p (List.mem_append_left _ hp)).1) (fun q hq => ⟨(N2 q (List.mem_append_right _ hq)).1, htl q hq⟩) hdat hV1.1 hV1.2.1 hV1.2.2
theorem off15 : True := by (w_top off); exact True.intro
theorem code_le {M : Model} {A : Around} {d u : Nat} {c : Code} {R R' : Result → Shared → Prop} {s : Shared}
    (h : codeAny M (Ar d u) c R s) (hr : ∀ r s', R r s' → R' r s') (hh : A.handled = none) (hd : A.depth ≤ d) (hu : A.units ≤ u) : codeAny M A c R' s :=
  fun Γ p hc b => wpCode_mono hr (h Γ p hc ⟨b.1.trans hh, Nat.le_trans b.2.1 hd, (fun l e => by cases e), (fun l e => by cases e), Nat.le_trans b.2.2.2.2 hu⟩)
local macro_rules | `(tactic| walk_at "mine enter3") => `(tactic| apply enter <;> try walk_at "mine side2")
theorem news_two {g h h₂ : Heap} {L x dx : Addr} {ox od od' : Obj} {news : List (Addr × Obj)} (N1 : News g L h ((x, ox) :: (dx, od) :: news)) (S : Stays [x, dx] h h₂) (e1 : h₂.get? x = some ox) (e2 : h₂.get? dx = some od')
    (hlt : ∀ p ∈ news, p.1 < dx) (hlt2 : dx < x) : News g L h₂ ((x, ox) :: (dx, od') :: news) := by
  intro q hq
  rcases List.mem_cons.mp hq with rfl | hq
  · exact ⟨e1, (N1 _ (.head _)).2⟩
  rcases List.mem_cons.mp hq with rfl | hq
  · exact ⟨e2, (N1 _ (.tail _ (.head _))).2⟩
  refine ⟨S _ _ (fun hm => ?_) (N1 q (.tail _ (.tail _ hq))).1, (N1 q (.tail _ (.tail _ hq))).2⟩
  have hq1 : @LT.lt Nat _ q.1 dx := hlt q hq
  have hq2 : @LT.lt Nat _ dx x := hlt2
  rcases List.mem_cons.mp hm with e | hm
  · have e : @Eq Nat q.1 x := e
    omega
  · have e : @Eq Nat q.1 dx := List.mem_singleton.mp hm
    omega
theorem word_row_spec {w : World} {mean : ExcName → Option Value} {mg mb : Str → Option Value} {g : Heap} {L : Addr} {A : Around} {m : Str → Option Value} {news : List (Addr × Obj)} {s : Shared} {Q : Value → Shared → Prop} {E : Value → Shared → Prop} {tx : Tok} {txt : Str}
   (X : (top0.heap_1 w.params).In g) (T : Top Mine.viewK (looseW Mine.viewK [Str.ofString "GateloomError"]) mean mg mb g) (F : Fr g L s.heap m) (N : News g L s.heap news)
   (h : ∀ h' tk' x dx k1 k2 k3 tx' tp ta, Fr g L h' m → News g L h' ((x, instObj 113 dx) :: (dx, wrD w k1 k2 k3 txt tx' 0 tp 0 ta) :: news) → (∀ p ∈ news, p.1 < dx) → dx < x → Q (.ref x) { s with heap := h', toks := tk' })
   (hh : A.handled = none) (hd : A.depth ≤ 650) (hu : A.units ≤ 5000) :
   wpAny (model Challenge.rw_sj0032_01.row.prog w) A (call (.ref 113) [.str txt tx]) Q E s := by
  refine fill (top0.heap_1 w.params) ?_
  k_fill
  intro _
  refine call_cls (fI := 96) F X N (by k_is) (by k_is) (by k_is) ?_
  intro x dx h' F1 N1 hlt hlt2
  have hn : ∀ p ∈ [(x, instObj 113 dx), (dx, dictOf [] 0)], h'.get? p.1 = some p.2 ∧ g.get? p.1 = none := fun q hq => by
    rcases List.mem_cons.mp hq with rfl | hq
    · exact ⟨(N1 _ (.head _)).1, (N1 _ (.head _)).2.2⟩
    · rw [List.mem_singleton.mp hq]; exact ⟨(N1 _ (.tail _ (.head _))).1, (N1 _ (.tail _ (.head _))).2.2⟩
  have hb : g.StaysIn h' := F1.keep
  have hxd : (x : Nat) ≠ dx := Nat.ne_of_gt hlt2
  refine code_le (d := 651) (u := 5010) (R := fun r s' => match r with | .ok (.ret v) => (v = Value.none ∧ Q (.ref x) s') | .ok _ => False | .error _ => False) ?_ ?_ hh ?_ ?_
  · walk_at "mine enter3"
    intro g' L' h₁ hb' X' T' st F' N' lt
    dsimp only
    k_fold
    walk_at "mine go"
    rename_i h₂ F2 N2
    have S := stays_of st F2
    have F3 := fr_after F1 N1 S (fun a ha => by
      rcases List.mem_cons.mp ha with rfl | ha
      · exact ⟨_, .head _⟩
      · rw [List.mem_singleton.mp ha]; exact ⟨_, .tail _ (.head _)⟩)
    exact h h₂ _ x dx _ _ _ _ _ _ F3 (news_two N1 S (N2 _ (.head _)).1 (N2 _ (.tail _ (.head _))).1 hlt hlt2) hlt hlt2
  · intro r s' hr
    match r, hr with
    | .ok (.ret v), hr => exact hr
  · exact Nat.add_le_add hd (Nat.le_of_ble_eq_true rfl : (Code.builtin "type.__call__" ⟨.ref 113 :: [.str txt tx], []⟩).weight ≤ 1)
  · exact Nat.add_le_add hu (Nat.le_of_ble_eq_true rfl : (Code.builtin "type.__call__" ⟨.ref 113 :: [.str txt tx], []⟩).cUnits ≤ 10)
theorem off16 : True := by (w_top off); exact True.intro
theorem ltAll {news : List (Addr × Obj)} {a b : Addr} (h : ∀ p ∈ news, @LT.lt Nat _ p.1 a) (k : @LT.lt Nat _ a b) : ∀ p ∈ news, @LT.lt Nat _ p.1 b := fun p hp => Nat.lt_trans (h p hp) k
local macro_rules | `(tactic| walk_at "call ref") => `(tactic| ((walk_at "mine nil"; (with_reducible show wpAny _ _ (call (Value.ref 113) [Value.str _ _] _) _ _ _); apply word_row_spec <;> try walk_at "mine side"); (intro h9 tk9 wr9 dw9 k91 k92 k93 tx9 tp9 ta9 F9 N9 ln9 lw9; (have nw9 : @LT.lt Nat _ dw9 wr9 := lw9); have mw9 := ltAll ln9 lw9)))
theorem news_out {g g' h h₂ : Heap} {L L' : Addr} {m : Str → Option Value} {l : List Addr} {n1 add : List (Addr × Obj)} (F : Fr g L h m) (N1 : News g L h n1) (hl : ∀ a ∈ l, ∃ o, (a, o) ∈ n1) (hb' : g.StaysIn g') (st : ∀ b o, b ∉ l → h.get? b = some o → g'.get? b = some o) (N : News g' L' h₂ add) : News g L h₂ add := by
  obtain ⟨oL, es, ep, hL, r⟩ := F.ns
  intro q hq
  have h1 := N q hq
  refine ⟨h1.1, fun e => ?_, ?_⟩
  · have h2 := st L oL (fun hm => by obtain ⟨o, ho⟩ := hl L hm; exact (N1 _ ho).2.1 rfl) hL
    have h3 := h1.2.2
    rw [e, h2] at h3; cases h3
  · cases hg : g.get? q.1 with
    | none => rfl
    | some o =>
      have h3 := h1.2.2
      rw [hb' _ _ hg] at h3; cases h3
theorem led_perm {w : World} {g h : Heap} {L x ds wr dw l1 l2 d l3 : Addr} {o : Obj} {k1 k2 k3 k4 k5 k6 k7 q1 q2 q3 tx tsc tn tp ta : Tok} {txt scale : Str} {now : Int}
    (N : News g L h [(l3, listOf #[] 0), (d, o), (l2, listOf #[] 0), (l1, listOf #[] 0), (wr, instObj 113 dw), (dw, wrD w q1 q2 q3 txt tx 0 tp 0 ta), (x, instObj 176 ds),
      (ds, dictOf [⟨PyData.keyHash w.params (Str.ofString "words"), .str (Str.ofString "words") k1, .ref wr⟩, ⟨PyData.keyHash w.params (Str.ofString "scale"), .str (Str.ofString "scale") k2, .str scale tsc⟩,
    ⟨PyData.keyHash w.params (Str.ofString "scopes"), .str (Str.ofString "scopes") k3, .ref l1⟩, ⟨PyData.keyHash w.params (Str.ofString "variables"), .str (Str.ofString "variables") k4, .ref l2⟩,
    ⟨PyData.keyHash w.params (Str.ofString "widths"), .str (Str.ofString "widths") k5, .ref d⟩, ⟨PyData.keyHash w.params (Str.ofString "changes"), .str (Str.ofString "changes") k6, .ref l3⟩,
    ⟨PyData.keyHash w.params (Str.ofString "now"), .str (Str.ofString "now") k7, .int now tn⟩] 7)]) :
    News g L h (led w { self := x, ds := ds, wr := wr, dw := dw, lsc := l1, lvar := l2, dwid := d, lch := l3, k1 := k1, k2 := k2, k3 := k3, k4 := k4, k5 := k5, k6 := k6, k7 := k7, q1 := q1, q2 := q2, q3 := q3, txt := txt, tx := tx }
      { scale := scale, tsc := tsc, scv := [], nsc := 0, vvs := [], nv := 0, wid := o, cvs := [], nc := 0, now := now, tn := tn, p := 0, tp := tp, a := 0, ta := ta }) := by
  intro q hq
  refine N q ?_
  rcases List.mem_cons.mp hq with e | hq
  · rw [e]; exact .tail _ (.tail _ (.tail _ (.tail _ (.tail _ (.tail _ (.head _))))))
  rcases List.mem_cons.mp hq with e | hq
  · rw [e]; exact .tail _ (.tail _ (.tail _ (.tail _ (.tail _ (.tail _ (.tail _ (.head _)))))))
  rcases List.mem_cons.mp hq with e | hq
  · rw [e]; exact .tail _ (.tail _ (.tail _ (.tail _ (.head _))))
  rcases List.mem_cons.mp hq with e | hq
  · rw [e]; exact .tail _ (.tail _ (.tail _ (.tail _ (.tail _ (.head _)))))
  rcases List.mem_cons.mp hq with e | hq
  · rw [e]; exact .tail _ (.tail _ (.tail _ (.head _)))
  rcases List.mem_cons.mp hq with e | hq
  · rw [e]; exact .tail _ (.tail _ (.head _))
  rcases List.mem_cons.mp hq with e | hq
  · rw [e]; exact .tail _ (.head _)
  rw [List.mem_singleton.mp hq]; exact .head _
theorem dump_reader_spec {w : World} {mean : ExcName → Option Value} {mg mb : Str → Option Value} {g : Heap} {L : Addr} {A₀ : Around} {m : Str → Option Value} {s : Shared} {Q : Value → Shared → Prop} {E : Value → Shared → Prop} {tx : Tok} {txt : Str}
   (X : (top0.heap_1 w.params).In g) (T : Top Mine.viewK (looseW Mine.viewK [Str.ofString "GateloomError"]) mean mg mb g) (F : Fr g L s.heap m)
   (h : ∀ h' tk' (A : RdA) (V : RdV), A.txt = txt → OrdA A → (A.dwid == sysModules) = false → V.scale = Str.ofString "" → V.scv = [] → V.vvs = [] → (∃ kvs, V.wid.IsDictOf (strKind Challenge.rw_sj0032_01.row.prog w) kvs ∧ PyProof.V.FlatPairs PyData.str kvs (kdpD [])) → V.cvs = [] → V.now = 0 → V.p = 0 → Fr g L h' m → News g L h' (led w A V) → Q (.ref A.self) { s with heap := h', toks := tk' })
   (hh : A₀.handled = none) (hd : A₀.depth ≤ 600) (hu : A₀.units ≤ 4000) :
   wpAny (model Challenge.rw_sj0032_01.row.prog w) A₀ (call (.ref 176) [.str txt tx]) Q E s := by
  refine fill (top0.heap_1 w.params) ?_
  k_fill
  intro _
  refine call_cls (fI := 138) (news := []) F X (fun p hp => nomatch hp) (by k_is) (by k_is) (by k_is) ?_
  intro x dx h' F1 N1 hlt hlt2
  have hn : ∀ p ∈ [(x, instObj 176 dx), (dx, dictOf [] 0)], h'.get? p.1 = some p.2 ∧ g.get? p.1 = none := fun q hq => ⟨(N1 q hq).1, (N1 q hq).2.2⟩
  have hb : g.StaysIn h' := F1.keep
  have hxd : @LT.lt Nat _ dx x := hlt2
  refine code_le (d := 601) (u := 4010) (R := fun r s' => match r with | .ok (.ret v) => (v = Value.none ∧ Q (.ref x) s') | .ok _ => False | .error _ => False) ?_ ?_ hh ?_ ?_
  · walk_at "mine enter3"
    intro g' L' h₁ hb' X' T' st F' N' lt
    dsimp only
    k_fold
    walk_at "mine go"
    rename_i a tk h9 tk9 wr9 dw9 k91 k92 k93 tx9 tp9 ta9 ln9 lw9 nw9 mw9 h' tk h' l9 h' l1 lL h' tk l8 h' l2 lL h' tk d7 h' o7 l3 lo' hs' fs' hi' fi' h' l6 h' l4 lL h' h2 F2 N2
    have S := stays_of st F2
    have hl : ∀ a ∈ [x, dx], ∃ o, (a, o) ∈ [(x, instObj 176 dx), (dx, dictOf [] 0)] := fun a ha => by
      rcases List.mem_cons.mp ha with rfl | ha
      · exact ⟨_, .head _⟩
      · rw [List.mem_singleton.mp ha]; exact ⟨_, .tail _ (.head _)⟩
    have F3 := fr_after F1 N1 S hl
    have N3 := led_perm (w := w) (news_out F1 N1 hl hb' st N2)
    refine h h2 _ _ _ ?_ ?_ ?_ ?_ ?_ ?_ ?_ ?_ ?_ ?_ F3 N3
    · rfl
    · exact ⟨hxd, ln9 _ (.head _), nw9, l1 _ (.head _), l2 _ (.head _), l3 _ (.head _), l4 _ (.head _)⟩
    · exact lo'
    · rfl
    · rfl
    · rfl
    · exact ⟨_, hs', fs'⟩
    · rfl
    · rfl
    · rfl
  · intro r s' hr
    match r, hr with
    | .ok (.ret v), hr => exact hr
  · exact Nat.add_le_add hd (Nat.le_of_ble_eq_true rfl : (Code.builtin "type.__call__" ⟨.ref 176 :: [.str txt tx], []⟩).weight ≤ 1)
  · exact Nat.add_le_add hu (Nat.le_of_ble_eq_true rfl : (Code.builtin "type.__call__" ⟨.ref 176 :: [.str txt tx], []⟩).cUnits ≤ 10)
theorem off17 : True := by (w_top off); exact True.intro
local macro_rules | `(tactic| walk_at "call ref") => `(tactic| ((walk_at "mine nil"; (with_reducible show wpAny _ _ (call (Value.ref 176) [Value.str _ _] _) _ _ _); apply dump_reader_spec <;> try walk_at "mine side"); intros))
local macro_rules | `(tactic| walk_at "call ref") => `(tactic| ((try dsimp only [List.nil_append, List.cons_append]); (with_reducible show wpAny _ _ (call (Value.ref 145) _ _) _ _ _); refine Stop.go ?_))
local macro_rules | `(tactic| walk_at "call ref") => `(tactic| ((try dsimp only [List.nil_append, List.cons_append]); (with_reducible show wpAny _ _ (call (Value.ref 166) _ _) _ _ _); refine Stop.go ?_))
theorem news_none {g h h₀ : Heap} {L : Addr} {n : List (Addr × Obj)} (st : ∀ b o, h₀.get? b = some o → g.get? b = some o) (N : News g L h n) : ∀ q ∈ n, h.get? q.1 = some q.2 ∧ h₀.get? q.1 = none := fun q hq => ⟨(N q hq).1, by
    cases e : h₀.get? q.1 with
    | none => rfl
    | some o =>
      have h2 := (N q hq).2.2
      rw [st _ _ e] at h2; cases h2⟩
theorem read_dump_spec {w : World} {mean : ExcName → Option Value} {mg mb : Str → Option Value} {g : Heap} {s : Shared} {Q : Value → Shared → Prop} {tx : Tok} {txt : Str} {σE : DS} {wsE : List (List Nat)} {nowE : Nat} {chE : List Dat}
   (X : (top0.heap_1 w.params).In g) (T : Top Mine.viewK (looseW Mine.viewK [Str.ofString "GateloomError"]) mean mg mb g) (hb : g.StaysIn s.heap) (hl : txt.length ≤ 1000000)
   (hD : Decl (words txt.cps.toList) ⟨Str.ofString "", [], [], []⟩ σE wsE) (hC : Chg σE.wid wsE 0 [] nowE chE)
   (h : ∀ h' tk' r lv lc tsc vvs nv cvs nc add, Stays [] s.heap h' → (∀ q ∈ (r, ({ cls := .type "tuple", data := .seq [.str σE.scale tsc, .ref lv, .ref lc].toArray } : Obj)) :: (lv, listOf vvs.toArray nv) :: (lc, listOf cvs.toArray nc) :: add, h'.get? q.1 = some q.2 ∧ s.heap.get? q.1 = none) →
      DatAll add vvs σE.vars → DatAll add cvs chE → Q (.ref r) { s with heap := h', toks := tk' }) :
   wpAny (model Challenge.rw_sj0032_01.row.prog w) (Ar 400 500) (call (.ref 187) [.str txt tx]) Q (fun _ _ => False) s := by
  refine fill (top0.heap_1 w.params) ?_
  k_fill
  intro _
  have hn : ∀ p ∈ ([] : List (Addr × Obj)), s.heap.get? p.1 = some p.2 ∧ g.get? p.1 = none := fun p hp => nomatch hp
  walk_at "mine enter2"
  intro g' L' h₁ hb' X' T' st F' N' lt
  dsimp only
  k_fold
  walk_at "mine go"
  rename_i a tk h9 tk9 A9 V9 hA1 hA2 hA3 hV1 hV2 hV3 hV4 hV5 hV6 hV7 h8 F8 N8
  unfold Stop
  obtain ⟨ka, kb⟩ := hV4
  refine wp_le (d := 450) (u := 1000) (decl_spec (s := ⟨_, _, _, _, _⟩) (w := w) (A := A9) (V := V9) (σ := ⟨Str.ofString "", [], [], []⟩) (σE := σE) (wsE := wsE) X' T' F8.keep (fun p hp => ⟨(N8 p hp).1, (N8 p hp).2.2⟩) hA2 hA3
    ⟨hV1, by rw [hV2]; exact .nil, ⟨ka, kb⟩, by rw [hV3]; exact .nil, Nat.zero_le _, Nat.zero_le _, Nat.zero_le _⟩ (by rw [hV7]; exact Nat.zero_le _) (by rw [hA1]; exact hl) (by rw [hA1, hV7]; exact hD) ?_) rfl (Nat.le_of_ble_eq_true rfl) (Nat.le_of_ble_eq_true rfl)
  intro h3 tk3 V3 add S3 R3 hadd hM3 hp3 hw3 e1 e2 e3 e4
  have F3 := fr_led F8 N8 (fun p hp => hp) S3
  have N3a := news_led N8 (fun p hp => hp) S3 R3 (rest := []) (fun p hp => nomatch hp)
  have N3b := news_new F8 hadd
  have hoff3 : OwnOff add (adrs A9) := off_new N8 (fun a ha => led_mem w A9 V9 a ha) fun q hq => (hadd q hq).2
  have N3 : News g' L' h3 (led w A9 V3 ++ add) := fun p hp => by
    rcases List.mem_append.mp hp with q | q
    · exact N3a p (List.mem_append_left _ q)
    · exact N3b p q
  have N3' := N3
  clear N3a N3b N8 F8
  simp only [led, List.cons_append, List.nil_append] at N3
  walk_at "mine go"
  unfold Stop
  obtain ⟨kvs, kc, kd⟩ := hM3.wid
  have hsub : ∀ p ∈ led w A9 V3, p ∈ led w A9 V3 ++ add := fun p hp => List.mem_append_left _ hp
  refine wp_le (d := 450) (u := 1000) (vals_spec (s := ⟨_, _, _, _, _⟩) (w := w) (A := A9) (V := V3) (wd := σE.wid) (nowE := nowE) (chE := chE) X' T' F3.keep (fun p hp => ⟨(N3' p (hsub p hp)).1, (N3' p (hsub p hp)).2.2⟩) hA2 hA3
    kc kd (by rw [e1, hV5]) (by rw [e3, hV6]) hp3 (by rw [hA1]; exact hl) (by rw [hw3]; exact hC) ?_) rfl (Nat.le_of_ble_eq_true rfl) (Nat.le_of_ble_eq_true rfl)
  intro h4 tk4 V4 add4 S4 R4 hadd4 hdat4 g1 g2 g3
  have F4 := fr_led F3 N3' hsub S4
  have N4a := news_led N3' hsub S4 R4 (rest := add) (fun p hp => ⟨List.mem_append_right _ hp, fun hm => hoff3 p hp _ hm rfl⟩)
  have N4b := news_new F3 hadd4
  have N4 : News g' L' h4 (led w A9 V4 ++ (add4 ++ add)) := fun p hp => by
    rcases List.mem_append.mp hp with q | q
    · exact N4a p (List.mem_append_left _ q)
    · rcases List.mem_append.mp q with q | q
      · exact N4b p q
      · exact N4a p (List.mem_append_right _ q)
  clear N4a N4b N3 N3' F3
  simp only [led, List.cons_append, List.nil_append] at N4
  walk_at "mine go"
  rename_i l5 h5 F5 N5 l1 lL
  rw [show V4.scale = σE.scale from g1.trans hM3.scale] at N5
  have hno := news_none (fun b o e => st b o (fun hm => nomatch hm) e) N5
  refine h h5 _ l5 A9.lvar A9.lch V4.tsc V4.vvs V4.nv V4.cvs V4.nc (add4 ++ add) (stays_of st F5) (fun q hq => hno q ?_) ?_ (hdat4.mono fun p hp => List.mem_append_left _ hp)
  · rcases List.mem_cons.mp hq with e | hq
    · rw [e]; exact .head _
    rcases List.mem_cons.mp hq with e | hq
    · rw [e]; exact .tail _ (.tail _ (.tail _ (.tail _ (.tail _ (.tail _ (.head _))))))
    rcases List.mem_cons.mp hq with e | hq
    · rw [e]; exact .tail _ (.tail _ (.tail _ (.tail _ (.tail _ (.tail _ (.tail _ (.tail _ (.head _))))))))
    exact .tail _ (.tail _ (.tail _ (.tail _ (.tail _ (.tail _ (.tail _ (.tail _ (.tail _ hq))))))))
  · rw [g2]; exact hM3.vars.mono fun p hp => List.mem_append_right _ hp
theorem off18 : True := by (w_top off); exact True.intro
local macro_rules | `(tactic| walk_at "call builtin:list.reverse") => `(tactic| ((try dsimp only [List.nil_append, List.cons_append]); (with_reducible show wpAny _ _ (call (Value.builtin _) [Value.ref _]) _ _ _); k_dflt (refine' kl_reverse ?F ?N ?e ?U ?z ?_; (case F => assumption); (case N => assumption); (case U => k_upd); (case e => exact rfl); (case z => (rw [sizeLine_eq]; simp only [List.length_map] at *; omega))); intro h' F' N'; (try k_sweep); (try simp only [List.toList_toArray] at N')))
theorem ints_app : ∀ {a : List Value} {x : List Int} {b : List Value} {y : List Int}, IntsAre a x → IntsAre b y → IntsAre (a ++ b) (x ++ y)
  | _, _, _, _, .nil, k => k
  | _, _, _, _, .cons i t r, k => .cons i t (ints_app r k)
theorem ints_rev : ∀ {a : List Value} {x : List Int}, IntsAre a x → IntsAre a.reverse x.reverse
  | _, _, .nil => .nil
  | _, _, .cons i t r => by
    rw [List.reverse_cons, List.reverse_cons]
    exact ints_app (ints_rev r) (.cons i t .nil)
theorem pool_spec {w : World} {mean : ExcName → Option Value} {mg mb : Str → Option Value} {g : Heap} {s : Shared} {Q : Value → Shared → Prop} {sc : Addr} {vs : List Value} {ns : List Int}
   (X : (top0.heap_1 w.params).In g) (T : Top Mine.viewK (looseW Mine.viewK [Str.ofString "GateloomError"]) mean mg mb g) (hb : g.StaysIn s.heap)
   (hL : g.IsList sc vs.toArray) (hI : IntsAre vs ns) (hlen : ns.length ≤ 63)
   (h : ∀ h' tk' r t5 ws ms n, Stays [] s.heap h' → h'.get? r = some (listOf (Value.int 5 t5 :: ws).toArray n) → s.heap.objs.size ≤ r → IntsAre ws ms → ms.length ≤ 40 → Q (.ref r) { s with heap := h', toks := tk' }) :
   wpAny (model Challenge.rw_sj0032_01.row.prog w) (Ar 400 500) (call (.ref 192) [.ref sc]) Q (fun _ _ => False) s := by
  refine fill (top0.heap_1 w.params) ?_
  k_fill
  intro _
  have hn : ∀ p ∈ ([] : List (Addr × Obj)), s.heap.get? p.1 = some p.2 ∧ g.get? p.1 = none := fun p hp => nomatch hp
  walk_at "mine enter2"
  intro g' L' h₁ hb' X' T' st F' N' lt
  dsimp only
  k_fold
  have hL' : g'.IsList sc vs.toArray := hL.at fun o e => hb' _ _ e
  walk_at "mine go"
  rename_i a D1 c1 h1 l1 D2 ws1 h2 hI1 hC1 hL1 l2 hk1 hk2 g1 hI8 hL8 D3 h3 tk3 o1 h4 l5 h5 l6 lL l7 h7 F7 N7 l8 lL8
  have h0 := news_none (fun b o e => st b o (fun hm => nomatch hm) e) N7 _ (.head _)
  exact h h7 _ l7 _ _ _ _ (stays_of st F7) h0.1 (Nat.le_of_lt (Nat.lt_of_le_of_lt lt lL8)) (ints_rev hI8) (by simp only [List.length_reverse, List.length_map, List.length_take]; omega)
theorem off19 : True := by (w_top off); exact True.intro
theorem pop_cons (x : Value) (p : List Value) (y : Value) : kl_last ((x :: (p ++ [y])).toArray).toList = some (x :: p, y) := kpa_last y (x :: p)
local macro_rules | `(tactic| walk_at "call builtin:list.pop") => `(tactic| ((try dsimp only [List.nil_append, List.cons_append]); (with_reducible show wpAny _ _ (call (Value.builtin "list.pop") [Value.ref _]) _ _ _); k_dflt (refine' kl_pop ?F ?N ?e ?U ?z ?_; (case F => assumption); (case N => assumption); (case U => k_upd); (case e => exact pop_cons _ _ _); (case z => (rw [sizeLine_eq]; simp only [List.length_append, List.length_cons, List.length_nil]; omega))); intro h' F' N'; (try k_sweep)))
theorem ints_last : ∀ {a : List Value} {x : List Int}, IntsAre a x → (a = [] ∧ x = []) ∨ ∃ a0 c tc x0, a = a0 ++ [Value.int c tc] ∧ x = x0 ++ [c] ∧ IntsAre a0 x0
  | _, _, .nil => .inl ⟨rfl, rfl⟩
  | _, _, .cons i t r => by
    rcases ints_last r with ⟨rfl, rfl⟩ | ⟨a0, c, tc, x0, rfl, rfl, h⟩
    · exact .inr ⟨[], i, t, [], rfl, rfl, .nil⟩
    · exact .inr ⟨_ :: a0, c, tc, _ :: x0, rfl, rfl, .cons i t h⟩
theorem drawn_spec {w : World} {mean : ExcName → Option Value} {mg mb : Str → Option Value} {g : Heap} {s : Shared} {Q : Value → Shared → Prop} {pl : Addr} {p0 lim : Int} {t0 tl : Tok} {ws : List Value} {ms : List Int} {n : Nat}
   (X : (top0.heap_1 w.params).In g) (T : Top Mine.viewK (looseW Mine.viewK [Str.ofString "GateloomError"]) mean mg mb g) (hb : g.StaysIn s.heap)
   (hp : s.heap.get? pl = some (listOf (Value.int p0 t0 :: ws).toArray n)) (hg : g.get? pl = none) (hI : IntsAre ws ms) (hlen : ms.length ≤ 40) (hlim : 1 ≤ lim) (hlim2 : lim ≤ 1000)
   (h : ∀ h' tk' p1 t1 ws' ms' n' k t, Stays [pl] s.heap h' → h'.get? pl = some (listOf (Value.int p1 t1 :: ws').toArray n') → IntsAre ws' ms' → ms'.length ≤ 40 → 0 ≤ k → k < lim → Q (.int k t) { s with heap := h', toks := tk' }) :
   wpAny (model Challenge.rw_sj0032_01.row.prog w) (Ar 550 2000) (call (.ref 199) [.ref pl, .int lim tl]) Q (fun _ _ => False) s := by
  refine fill (top0.heap_1 w.params) ?_
  k_fill
  intro _
  have hn : ∀ p ∈ [(pl, listOf (Value.int p0 t0 :: ws).toArray n)], s.heap.get? p.1 = some p.2 ∧ g.get? p.1 = none := fun q hq => by rw [List.mem_singleton.mp hq]; exact ⟨hp, hg⟩
  walk_at "mine enter2"
  intro g' L' h₁ hb' X' T' st F' N' lt
  dsimp only
  k_fold
  have hwl : ws.length = ms.length := hI.length
  rcases ints_last hI with ⟨rfl, rfl⟩ | ⟨ws0, c, tc, ms0, rfl, rfl, hI0⟩
  · walk_at "mine go"
    rename_i h9 F9 N9 t8
    have S := stays_of st F9
    exact h h9 _ _ _ _ _ _ _ _ S (N9 _ (.head _)).1 .nil (Nat.zero_le _) (Int.fmod_nonneg_of_pos _ (by omega)) (Int.fmod_lt_of_pos _ (by omega))
  · have N2 : News g' L' h₁ [(pl, listOf ((Value.int p0 t0 :: ws0) ++ [Value.int c tc]).toArray n)] := N'
    clear N'
    have hlz : lim ≠ 0 := by omega
    have hlz2 : (lim == 0) = false := beq_eq_false_iff_ne.mpr hlz
    have hl0 : ws0.length = ms0.length := hI0.length
    have hl1 : ms0.length ≤ 39 := by simp only [List.length_append, List.length_cons, List.length_nil] at hlen; omega
    have hq1 : (((ms0.length + 1 + 1 : Nat) : Int) == 1) = false := beq_eq_false_iff_ne.mpr (by omega)
    walk_at "mine go"
    · rename_i t8 h9 F9 N9
      have S := stays_of st F9
      exact h h9 _ _ _ (ws0 ++ [_]) (ms0 ++ [_]) _ _ _ S (N9 _ (.head _)).1 (ints_app hI0 (.cons _ _ .nil)) (by simp only [List.length_append, List.length_cons, List.length_nil]; omega) (Int.fmod_nonneg_of_pos _ (by omega)) (Int.fmod_lt_of_pos _ (by omega))
    · rename_i t8 h9 F9 N9
      have S := stays_of st F9
      exact h h9 _ _ _ ws0 ms0 _ _ _ S (N9 _ (.head _)).1 hI0 (by omega) (Int.fmod_nonneg_of_pos _ (by omega)) (Int.fmod_lt_of_pos _ (by omega))
theorem off20 : True := by (w_top off); exact True.intro
local macro_rules | `(tactic| walk_at "pyIter str") => `(tactic| ((with_reducible show wpAny _ _ (pyIter (Value.str _ _)) (CompPostA _ _ _ _ _ _ _ _ _ _) _ _); (rename Fr _ _ _ _ => F'); (rename News _ _ _ _ => N'); (with_reducible apply srcA_signsD (pz := fun _ => true) (d := fun x => PyData.str x)); (case hh => with_unfolding_all rfl); (case F => with_unfolding_all exact F'); (case N => with_unfolding_all exact N'); (case' g3 => intros); (case' g2 => (intros; (rename ItemKind.is _ _ _ => i'); (obtain ⟨_, e'⟩ := ItemKind.str_is i'; subst e'); (try (with_reducible refine wpAny_leafK ?_)))); (case' g1 => (intros; (rename ItemKind.is _ _ _ => i'); (obtain ⟨_, e'⟩ := ItemKind.str_is i'; subst e'); (try (with_reducible refine wpAny_leafK ?_))))))
theorem four_ext {a : Nat} (h : a = 48 ∨ a = 49 ∨ a = 122 ∨ a = 120) (k : Nat) (r : List Nat) : ∃ f r', List.replicate k (extOf a) ++ a :: r = f :: r' ∧ (f = 48 ∨ f = 49 ∨ f = 122 ∨ f = 120) ∧ extOf f = extOf a := by
  cases k with
  | zero => exact ⟨a, r, rfl, h, rfl⟩
  | succ k => exact ⟨extOf a, _, rfl, by rcases h with rfl | rfl | rfl | rfl <;> decide, by rcases h with rfl | rfl | rfl | rfl <;> decide⟩
theorem numW_map (f g : Nat → Nat) (l : List Nat) : numW f (l.map g) = numW (fun c => f (g c)) l := by
  induction l with
  | nil => rfl
  | cons c l ih => simp only [List.map_cons, numW, ih]
theorem strs_at : ∀ {vs : List Value} {ts : List Str} {i : Nat} {v : Value}, StrsAre vs ts → vs[i]? = some v → ∃ x t, v = .str x t ∧ ts[i]? = some x
  | _, _, 0, _, .cons y t _, h => ⟨y, t, by simpa using h.symm, rfl⟩
  | _, _, i + 1, v, .cons y t r, h => by
    simp only [List.getElem?_cons_succ] at h ⊢
    exact strs_at r h
inductive FillJ (c : Nat) (ds : List Nat) (W : Nat) (td : Tok) (tw : Tok) (n : Nat) (m₁ : Str → Option Value) (nx : List (Addr × Obj)) : Prop
  | mk (k : Nat) (lm : Addr) (vs : List Value) (nn : Nat) (q0 : Nm m₁ [(Str.ofString "marks", .ref lm), (Str.ofString "digits", .str (toS (c :: ds)) td), (Str.ofString "wide", .int W tw)]) (q1 : nx = [(lm, listOf vs.toArray nn)]) (q2 : StrsAre vs ((List.replicate k (extOf (lo1 c)) ++ (c :: ds).map lo1).map fun c => (toS [c]))) (q3 : k + (c :: ds).length + n = W) : FillJ c ds W td tw n m₁ nx
inductive FillO (c : Nat) (ds : List Nat) (W : Nat) (td : Tok) (tw : Tok) (m₁ : Str → Option Value) (nx : List (Addr × Obj)) : Prop
  | mk (lm : Addr) (vs : List Value) (nn : Nat) (q0 : Nm m₁ [(Str.ofString "marks", .ref lm), (Str.ofString "digits", .str (toS (c :: ds)) td), (Str.ofString "wide", .int W tw)]) (q1 : nx = [(lm, listOf vs.toArray nn)]) (q2 : StrsAre vs ((fullOf (c :: ds) W).map fun c => (toS [c]))) : FillO c ds W td tw m₁ nx
inductive FillL (c : Nat) (ds : List Nat) (W : Nat) (tw : Tok) (lm : Addr) (vs : List Value) (nn : Nat) (i : Nat) (m₁ : Str → Option Value) (nx : List (Addr × Obj)) : Prop
  | mk (a b : Nat) (tl th : Tok) (q0 : a = ((fullOf (c :: ds) W).take i).foldl (fun a c => 2 * a + codeOf c % 2) 0) (q1 : b = ((fullOf (c :: ds) W).take i).foldl (fun a c => 2 * a + codeOf c / 2) 0) (q2 : Nm m₁ [(Str.ofString "wide", .int W tw), (Str.ofString "low", .int (a : Nat) tl), (Str.ofString "high", .int (b : Nat) th)]) (q3 : nx = [(lm, listOf vs.toArray nn)]) : FillL c ds W tw lm vs nn i m₁ nx
theorem filled_spec {w : World} {mean : ExcName → Option Value} {mg mb : Str → Option Value} {g : Heap} {s : Shared} {Q : Value → Shared → Prop} {c : Nat} {ds : List Nat} {W : Nat} {td tw : Tok}
   (X : (top0.heap_1 w.params).In g) (T : Top Mine.viewK (looseW Mine.viewK [Str.ofString "GateloomError"]) mean mg mb g) (hb : g.StaysIn s.heap)
   (h6 : SixSigns (c :: ds)) (hl : (c :: ds).length ≤ W) (hW : W ≤ 10)
   (h : ∀ h' tk' r t1 t2 t3, Stays [] s.heap h' → h'.get? r = some { cls := .type "tuple", data := .seq [.int (W : Nat) t1, .int (numW (· % 2) ((fullOf (c :: ds) W).reverse.map codeOf) : Nat) t2, .int (numW (· / 2) ((fullOf (c :: ds) W).reverse.map codeOf) : Nat) t3].toArray } → s.heap.objs.size ≤ r → Q (.ref r) { s with heap := h', toks := tk' }) :
   wpAny (model Challenge.rw_sj0032_01.row.prog w) (Ar 550 2000) (call (.ref 204) [.str (toS (c :: ds)) td, .int W tw]) Q (fun _ _ => False) s := by
  refine fill (top0.heap_1 w.params) ?_
  k_fill
  intro _
  have hn : ∀ p ∈ ([] : List (Addr × Obj)), s.heap.get? p.1 = some p.2 ∧ g.get? p.1 = none := fun p hp => nomatch hp
  walk_at "mine enter2"
  intro g' L' h₁ hb' X' T' st F' N' lt
  dsimp only
  obtain ⟨m₀, F'⟩ := fr_hide (ps := [(Str.ofString "digits", .str (toS (c :: ds)) td), (Str.ofString "wide", .int W tw)]) F' ⟨rfl, rfl, trivial⟩
  dsimp only [kstB] at F'
  k_fold
  have hlow := lower_digits h6
  have hll : (toS (c :: ds)).length ≤ 5592405 := by simp [Str.length] at hl ⊢; omega
  have hfit := fit_lower hll
  have hll2 : (toS ((c :: ds).map lo1)).length ≤ 10 := by simp [Str.length] at hl ⊢; omega
  walk_at "mine go"
  rename_i t9 k9 D ys h2 tk2 F3 N3 hD hL hC nX NX
  have hsg : signs (toS ((c :: ds).map lo1)) = ((c :: ds).map lo1).map fun c => (toS [c]) := by simp [signs]
  rw [hsg, List.filter_eq_self.mpr (fun _ _ => rfl)] at hC
  have hS := StrsAre.of_carried hC
  have hlm : ((c :: ds).map lo1).length = (c :: ds).length := List.length_map _
  have h4 : lo1 c = 48 ∨ lo1 c = 49 ∨ lo1 c = 122 ∨ lo1 c = 120 := by rcases h6 c (.head _) with e | e | e | e | e | e <;> rw [e] <;> decide
  unfold Stop
  refine while_cut (FillJ c ds W td tw)
    (FillO c ds W td tw)
    (n₀ := W - (c :: ds).length) F3 NX ⟨0, D, ys, nX, ⟨rfl, rfl, rfl, trivial⟩, rfl, hS, by omega⟩ ?_ ?_
  · intro n m₁ nx h3 tk3 F4 N4 hJ RT RE hT hE
    obtain ⟨k, lm, vs, nn, hm, rfl, hS4, hk⟩ := hJ
    have F4 := fr_names F4 hm
    dsimp only [kstB] at F4
    have hvl : vs.length = k + (c :: ds).length := by rw [hS4.length]; simp
    by_cases hlt : n = 0
    · have hq : ¬ ((vs.length : Nat) : Int) < (W : Int) := by omega
      walk_at "mine go"
      refine hE _ <| endSt F4 N4 ⟨lm, vs, nn, ⟨rfl, rfl, rfl, trivial⟩, rfl, ?_⟩
      have e : fullOf (c :: ds) W = List.replicate k (extOf (lo1 c)) ++ (c :: ds).map lo1 := by
        unfold fullOf
        rw [List.map_cons]
        simp only [List.length_cons, List.length_map] at hk ⊢
        congr 2
        omega
      rw [e]; exact hS4
    · have hq : ((vs.length : Nat) : Int) < (W : Int) := by omega
      obtain ⟨f, r', e1, e2, e3⟩ := four_ext h4 k (ds.map lo1)
      rw [List.map_cons, e1, List.map_cons] at hS4
      cases hS4 with
      | cons _ tf hS5 => 
      rename_i vs'
      simp only [List.length_cons] at hvl hq hk
      have hv9 : vs'.length ≤ 9 := by omega
      have fin : ∀ (l9 : Addr) (h9 : Heap) (tk9 n9 : Nat) (m9 : Str → Option Value) (N9 : List (Addr × Obj)) (t9 : Tok), Fr g' L' h9 m9 → News g' L' h9 N9 → (l9, listOf (Value.str (toS [extOf f]) t9 :: .str (toS [f]) tf :: vs').toArray n9) ∈ N9 → Nm m9 [(Str.ofString "marks", .ref l9), (Str.ofString "digits", .str (toS (c :: ds)) td), (Str.ofString "wide", .int W tw)] →
          RT .next { s with heap := h9, toks := tk9 } := by
        intro l9 h9 tk9 n9 m9 N9 t9 F9 M9 hm9 hn9
        refine hT _ _ <| turnEnd (news' := [(l9, listOf (Value.str (toS [extOf f]) t9 :: .str (toS [f]) tf :: vs').toArray n9)]) (n - 1) (by omega) F9 (fun p hp => by rw [List.mem_singleton.mp hp]; exact M9 _ hm9) ⟨k + 1, l9, _, n9, hn9, rfl, ?_, by simp only [List.length_cons]; omega⟩
        rw [List.replicate_succ, List.map_cons, List.cons_append, e1, ← e3]
        exact .cons _ _ (.cons _ _ hS5)
      cases ho : List.isEmpty (Builtin.Str.occurrences (Str.ofString "01") (toS [f]) 0 (Str.length (Str.ofString "01")) 1) with
      | false =>
        walk_at "mine go"
        rename_i h9 F9 N9
        rw [show Str.ofString "0" = toS [extOf f] from by rcases e2 with rfl | rfl | rfl | rfl <;> first | decide +kernel | (exact absurd ho (by decide +kernel))] at N9
        exact fin _ _ _ _ _ _ _ F9 N9 (.head _) ⟨rfl, rfl, rfl, trivial⟩
      | true =>
        walk_at "mine go"
        rename_i h9 F9 N9
        have he : extOf f = f := by rcases e2 with rfl | rfl | rfl | rfl <;> first | rfl | (exact absurd ho (by decide +kernel))
        rw [he] at fin
        exact fin _ _ _ _ _ _ _ F9 N9 (.head _) ⟨rfl, rfl, rfl, trivial⟩
  · intro h3 tk3 m₁ nx F4 N4 hJ
    obtain ⟨lm, vs, nn, hm, rfl, hS4⟩ := hJ
    have F4 := fr_names F4 hm
    dsimp only [kstB] at F4
    have hvl : vs.length = (fullOf (c :: ds) W).length := by rw [hS4.length, List.length_map]
    have hfl := full_length (ds := c :: ds) (W := W) (by simp) hl
    have h44 := four_full (W := W) h6
    have hlow2 : ∀ i, (((fullOf (c :: ds) W).take i).foldl (fun a c => 2 * a + codeOf c % 2) 0 : Nat) ≤ 1024 := fun i => by
      rw [numW_foldl (fun c => codeOf c % 2)]
      refine Nat.le_of_lt (Nat.lt_of_lt_of_le (numW_lt _ _ fun c _ => by show codeOf c % 2 ≤ 1; omega) ?_)
      rw [List.length_reverse, show 1024 = 2 ^ 10 by rfl]
      exact Nat.pow_le_pow_right (by omega) (by rw [List.length_take]; omega)
    have hcod : ∀ c : Nat, codeOf c ≤ 3 := fun c => by unfold codeOf; (repeat' split) <;> omega
    have hhigh2 : ∀ i, (((fullOf (c :: ds) W).take i).foldl (fun a c => 2 * a + codeOf c / 2) 0 : Nat) ≤ 1024 := fun i => by
      rw [numW_foldl (fun c => codeOf c / 2)]
      refine Nat.le_of_lt (Nat.lt_of_lt_of_le (numW_lt _ _ fun c _ => by have := hcod c; show codeOf c / 2 ≤ 1; omega) ?_)
      rw [List.length_reverse, show 1024 = 2 ^ 10 by rfl]
      exact Nat.pow_le_pow_right (by omega) (by rw [List.length_take]; omega)
    walk_at "mine go"
    unfold Stop
    rename Fr _ _ _ _ => F5
    rename News _ _ _ _ => N5
    refine iter_list_cut (FillL c ds W tw lm vs nn) rfl (.head _) F5 N5 ⟨0, 0, _, _, rfl, rfl, ⟨rfl, rfl, rfl, trivial⟩, rfl⟩ ?_ ?_
    · intro i v m₁ nx h6' tk6 own hv hoff hmem hJ F6 N6 RL hLp
      obtain ⟨a, b, tl, th, ha, hb6, hm6, rfl⟩ := hJ
      have ha1 : a ≤ 1024 := by rw [ha]; exact hlow2 i
      have hb1 : b ≤ 1024 := by rw [hb6]; exact hhigh2 i
      have hil : i < (fullOf (c :: ds) W).length := by
        have := (List.getElem?_eq_some_iff.mp hv).1
        omega
      obtain ⟨tv, rfl⟩ : ∃ tv, v = .str (toS [(fullOf (c :: ds) W)[i]]) tv := by
        obtain ⟨x, tv, e, hx⟩ := strs_at hS4 hv
        rw [List.getElem?_map, List.getElem?_eq_getElem hil] at hx
        exact ⟨tv, by rw [e, ← Option.some.inj hx]⟩
      have htk : (fullOf (c :: ds) W).take (i + 1) = (fullOf (c :: ds) W).take i ++ [(fullOf (c :: ds) W)[i]] := by
        rw [List.take_add_one, List.getElem?_eq_getElem hil]; rfl
      have hf := h44 _ (List.getElem_mem hil)
      have hfoldA : ((fullOf (c :: ds) W).take (i + 1)).foldl (fun a c => 2 * a + codeOf c % 2) 0 = 2 * a + codeOf (fullOf (c :: ds) W)[i] % 2 := by rw [htk, List.foldl_append, ← ha]; rfl
      have hfoldB : ((fullOf (c :: ds) W).take (i + 1)).foldl (fun a c => 2 * a + codeOf c / 2) 0 = 2 * b + codeOf (fullOf (c :: ds) W)[i] / 2 := by rw [htk, List.foldl_append, ← hb6]; rfl
      generalize (fullOf (c :: ds) W)[i] = f at F6 hf hfoldA hfoldB
      have F6 := fr_names F6 (ps := [(Str.ofString "mark_now", .str (toS [f]) tv), (Str.ofString "wide", .int W tw), (Str.ofString "low", .int (a : Nat) tl), (Str.ofString "high", .int (b : Nat) th)]) ⟨rfl, hm6.1, hm6.2.1, hm6.2.2.1, trivial⟩
      dsimp only [kstB] at F6
      cases ho1 : List.isEmpty (Builtin.Str.occurrences (Str.ofString "1x") (toS [f]) 0 (Str.length (Str.ofString "1x")) 1) <;> cases ho2 : List.isEmpty (Builtin.Str.occurrences (Str.ofString "xz") (toS [f]) 0 (Str.length (Str.ofString "xz")) 1)
      · have hA : codeOf f % 2 = 1 := by rcases hf with rfl | rfl | rfl | rfl <;> first | rfl | (exact absurd ho1 (by decide +kernel)) | (exact absurd ho2 (by decide +kernel))
        have hB : codeOf f / 2 = 1 := by rcases hf with rfl | rfl | rfl | rfl <;> first | rfl | (exact absurd ho1 (by decide +kernel)) | (exact absurd ho2 (by decide +kernel))
        rw [hA] at hfoldA
        rw [hB] at hfoldB
        walk_at "mine go"
        rename_i h9 F9 N9
        exact hLp _ _ <| loopEnd [(lm, listOf vs.toArray nn)] F9 N9 ⟨.head _, 2 * a + 1, 2 * b + 1, _, _, hfoldA.symm, hfoldB.symm, ⟨rfl, rfl, rfl, trivial⟩, rfl⟩ hoff (fun p hp => List.mem_append_left _ hp) (fun p hp => List.mem_append_right _ hp)
      · have hA : codeOf f % 2 = 1 := by rcases hf with rfl | rfl | rfl | rfl <;> first | rfl | (exact absurd ho1 (by decide +kernel)) | (exact absurd ho2 (by decide +kernel))
        have hB : codeOf f / 2 = 0 := by rcases hf with rfl | rfl | rfl | rfl <;> first | rfl | (exact absurd ho1 (by decide +kernel)) | (exact absurd ho2 (by decide +kernel))
        rw [hA] at hfoldA
        rw [hB] at hfoldB
        walk_at "mine go"
        rename_i h9 F9 N9
        exact hLp _ _ <| loopEnd [(lm, listOf vs.toArray nn)] F9 N9 ⟨.head _, 2 * a + 1, 2 * b + 0, _, _, hfoldA.symm, hfoldB.symm, ⟨rfl, rfl, rfl, trivial⟩, rfl⟩ hoff (fun p hp => List.mem_append_left _ hp) (fun p hp => List.mem_append_right _ hp)
      · have hA : codeOf f % 2 = 0 := by rcases hf with rfl | rfl | rfl | rfl <;> first | rfl | (exact absurd ho1 (by decide +kernel)) | (exact absurd ho2 (by decide +kernel))
        have hB : codeOf f / 2 = 1 := by rcases hf with rfl | rfl | rfl | rfl <;> first | rfl | (exact absurd ho1 (by decide +kernel)) | (exact absurd ho2 (by decide +kernel))
        rw [hA] at hfoldA
        rw [hB] at hfoldB
        walk_at "mine go"
        rename_i h9 F9 N9
        exact hLp _ _ <| loopEnd [(lm, listOf vs.toArray nn)] F9 N9 ⟨.head _, 2 * a + 0, 2 * b + 1, _, _, hfoldA.symm, hfoldB.symm, ⟨rfl, rfl, rfl, trivial⟩, rfl⟩ hoff (fun p hp => List.mem_append_left _ hp) (fun p hp => List.mem_append_right _ hp)
      · have hA : codeOf f % 2 = 0 := by rcases hf with rfl | rfl | rfl | rfl <;> first | rfl | (exact absurd ho1 (by decide +kernel)) | (exact absurd ho2 (by decide +kernel))
        have hB : codeOf f / 2 = 0 := by rcases hf with rfl | rfl | rfl | rfl <;> first | rfl | (exact absurd ho1 (by decide +kernel)) | (exact absurd ho2 (by decide +kernel))
        rw [hA] at hfoldA
        rw [hB] at hfoldB
        walk_at "mine go"
        rename_i h9 F9 N9
        exact hLp _ _ <| loopEnd [(lm, listOf vs.toArray nn)] F9 N9 ⟨.head _, 2 * a + 0, 2 * b + 0, _, _, hfoldA.symm, hfoldB.symm, ⟨rfl, rfl, rfl, trivial⟩, rfl⟩ hoff (fun p hp => List.mem_append_left _ hp) (fun p hp => List.mem_append_right _ hp)
    · intro m₁ nx h6' tk6 hJ F6 N6
      obtain ⟨a, b, tl, th, ha, hb6, hm6, rfl⟩ := hJ
      rw [hvl, List.take_length] at ha hb6
      have F6 := fr_names F6 hm6
      dsimp only [kstB] at F6
      walk_at "mine go"
      rename_i l9 h9 F9 N9 l1 lL
      have h0 := news_none (fun b o e => st b o (fun hm => nomatch hm) e) N9 _ (.head _)
      rw [ha, hb6, numW_foldl (fun c => codeOf c % 2), numW_foldl (fun c => codeOf c / 2), ← numW_map (· % 2) codeOf, ← numW_map (· / 2) codeOf] at h0
      exact h h9 _ l9 _ _ _ (stays_of st F9) h0.1 (Nat.le_of_lt (Nat.lt_of_le_of_lt lt lL))
theorem off21 : True := by (w_top off); exact True.intro
/-- the pool's list -/
def PoolL (o : Obj) : Prop := ∃ (p0 : Int) (t0 : Tok) (ws : List Value) (ms : List Int) (n : Nat), o = listOf (Value.int p0 t0 :: ws).toArray n ∧ IntsAre ws ms ∧ ms.length ≤ 40
theorem drawn_at {w : World} {mean : ExcName → Option Value} {mg mb : Str → Option Value} {g : Heap} {L : Addr} {A : Around} {m : Str → Option Value} {news : List (Addr × Obj)} {s : Shared} {Q : Value → Shared → Prop} {E : Value → Shared → Prop} {pl : Addr} {po : Obj} {lim : Int} {tl : Tok} {u : Obj → List (Addr × Obj)}
   (X : (top0.heap_1 w.params).In g) (T : Top Mine.viewK (looseW Mine.viewK [Str.ofString "GateloomError"]) mean mg mb g) (F : Fr g L s.heap m) (N : News g L s.heap news) (U : UpdF pl po news u)
   (hp : PoolL po) (hlim : 1 ≤ lim) (hlim2 : lim ≤ 1000)
   (h : ∀ h' tk' po' k t, Fr g L h' m → News g L h' (u po') → PoolL po' → 0 ≤ k → k < lim → Q (.int k t) { s with heap := h', toks := tk' })
   (hh : A.handled = none) (hd : A.depth ≤ 550) (hu : A.units ≤ 2000) :
   wpAny (model Challenge.rw_sj0032_01.row.prog w) A (call (.ref 199) [.ref pl, .int lim tl]) Q E s := by
  obtain ⟨p0, t0, ws, ms, n, rfl, hI, hlen⟩ := hp
  have hm := updF_mem U
  refine wp_le (drawn_spec X T F.keep (N _ hm).1 (N _ hm).2.2 hI hlen hlim hlim2 fun h' tk' p1 t1 ws' ms' n' k t S hg hI' hl' h0 h1 => ?_) hh hd hu
  exact h h' tk' _ k t (fr_after F N S fun a ha => ⟨_, List.mem_singleton.mp ha ▸ hm⟩) (news_after1 N U S hg) ⟨p1, t1, ws', ms', n', rfl, hI', hl'⟩ h0 h1
local macro_rules | `(tactic| walk_at "call ref") => `(tactic| ((walk_at "mine nil"; (with_reducible show wpAny _ _ (call (Value.ref 199) [Value.ref _, Value.int _ _] _) _ _ _); apply drawn_at <;> try walk_at "mine side"); walk_at "mine end"))
def joinL (gap : List Nat) : List (List Nat) → List Nat
  | [] => []
  | [x] => x
  | x :: y :: r => x ++ gap ++ joinL gap (y :: r)
theorem join_toS (gap : List Nat) (xs : List (List Nat)) : Txt.join (toS gap) (xs.map toS) = toS (joinL gap xs) := by
  have h : ∀ xs : List (List Nat), Str.join (toS gap) (xs.map toS) = toS (joinL gap xs) := by
    intro xs
    induction xs with
    | nil => rfl
    | cons x r ih =>
      cases r with
      | nil => rfl
      | cons y r =>
        show toS x ++ toS gap ++ Str.join (toS gap) ((y :: r).map toS) = _
        rw [ih, toS_append, toS_append]
        rfl
  exact (StrLaws.glued_eq_join _ _).trans (h xs)
theorem words_joinL {g0 : Nat} {gap : List Nat} (h0 : ∀ c ∈ g0 :: gap, isL c = true) {e : Nat} (he : isL e = true) (rest : List Nat) : ∀ xs : List (List Nat), (∀ x ∈ xs, ∀ c ∈ x, isL c = false) → words (joinL (g0 :: gap) xs ++ e :: rest) = xs.filter (fun x => decide (x ≠ [])) ++ words rest
  | [], _ => by
    show words ([] ++ e :: rest) = _
    rw [words_sep _ _ _ he]; rfl
  | [x], hx => by
    show words (x ++ e :: rest) = _
    rw [words_sep _ _ _ he, words_one x (hx x (.head _))]
    by_cases hn : x = [] <;> simp [hn]
  | x :: y :: r, hx => by
    have ih := words_joinL h0 he rest (y :: r) fun z hz => hx z (.tail _ hz)
    show words ((x ++ (g0 :: gap) ++ joinL (g0 :: gap) (y :: r)) ++ e :: rest) = _
    rw [List.append_assoc, List.append_assoc, List.cons_append, words_sep _ _ _ (h0 _ (.head _)), words_layout gap _ (fun c hc => h0 c (.tail _ hc)), ih, words_one x (hx x (.head _))]
    by_cases hn : x = [] <;> simp [hn]
theorem joinL_length (gap : List Nat) : ∀ xs : List (List Nat), (joinL gap xs).length ≤ sumLen (xs.map toS) + xs.length * gap.length
  | [] => Nat.zero_le _
  | [x] => by simp [joinL, sumLen, Str.length]
  | x :: y :: r => by
    have ih := joinL_length gap (y :: r)
    have e : (x :: y :: r).length * gap.length = gap.length + (y :: r).length * gap.length := by rw [List.length_cons, Nat.add_mul, Nat.one_mul, Nat.add_comm]
    rw [e]
    simp only [joinL, List.length_append, sumLen, List.map_cons, List.sum_cons, Str.length, List.size_toArray] at ih ⊢
    omega
theorem toS_eta (x : Str) : x = toS x.cps.toList := by
  cases x with
  | mk c => simp
theorem str_len (y : List Nat) : (toS y).length = y.length := by simp [Str.length]
section
variable {prog : Program} {w : World} {A : Around} {E : Value → Shared → Prop} {s : Shared} {value slice : PySem.Expr} {l : Addr} {vs : List Value} {ws : List Str} {xs : List (List Nat)} {ns : List Int} {x : Str} {i : Int} {t u : Tok} {Q : Value → Shared → Prop}
theorem pick_text (hl : s.heap.IsList l vs.toArray) (hw : StrsAre vs ws) (h0 : 0 ≤ i) (h1 : i < (ws.length : Int)) (hf : i < 2 ^ 62) (h : ∀ t' y, y ∈ ws.map (fun x => x.cps.toList) → Q (.str (toS y) t') s)
    (hs : subscripted slice false (.ref l) (.int i u) = operate [.ref l, .int i u] (getItem (.ref l) (.int i u)) := by with_unfolding_all rfl) :
    wpAny (model prog w) A (subscriptTail value slice (.ref l) (.int i u)) Q E s := by
  have hlt : i.toNat < ws.length := by omega
  obtain ⟨t', e⟩ := hw.get i.toNat ws[i.toNat] (List.getElem?_eq_getElem hlt)
  refine tail_any hl.typeIs slot_list_getitem.lookup (wpAny_getItem_list hl h0 (by omega) (x := .str _ t') (by simpa using e) ?_) hs
  have := h t' ws[i.toNat].cps.toList (List.mem_map_of_mem (List.getElem_mem hlt))
  rwa [← toS_eta] at this
theorem pick_sign (hl : s.heap.IsList l vs.toArray) (hw : StrsAre vs (xs.map toS)) (h0 : 0 ≤ i) (h1 : i < (xs.length : Int)) (hf : i < 2 ^ 62) (h : ∀ t', Q (.str (toS (xs.getD i.toNat [])) t') s)
    (hs : subscripted slice false (.ref l) (.int i u) = operate [.ref l, .int i u] (getItem (.ref l) (.int i u)) := by with_unfolding_all rfl) :
    wpAny (model prog w) A (subscriptTail value slice (.ref l) (.int i u)) Q E s := by
  have hlt : i.toNat < xs.length := by omega
  obtain ⟨t', e⟩ := hw.get i.toNat (toS xs[i.toNat]) (by rw [List.getElem?_map, List.getElem?_eq_getElem hlt]; rfl)
  refine tail_any hl.typeIs slot_list_getitem.lookup (wpAny_getItem_list hl h0 (by omega) (x := .str _ t') (by simpa using e) ?_) hs
  have := h t'
  rwa [List.getD_eq_getElem?_getD, List.getElem?_eq_getElem hlt] at this
theorem pick_int (hl : s.heap.IsList l vs.toArray) (hw : IntsAre vs ns) (h0 : 0 ≤ i) (h1 : i < (ns.length : Int)) (hf : i < 2 ^ 62) (h : ∀ t', Q (.int (ns.getD i.toNat 0) t') s)
    (hs : subscripted slice false (.ref l) (.int i u) = operate [.ref l, .int i u] (getItem (.ref l) (.int i u)) := by with_unfolding_all rfl) :
    wpAny (model prog w) A (subscriptTail value slice (.ref l) (.int i u)) Q E s := by
  have hlt : i.toNat < ns.length := by omega
  obtain ⟨t', e⟩ : ∃ t', vs[i.toNat]? = some (.int (ns.getD i.toNat 0) t') := by
    have hv : i.toNat < vs.length := by rw [hw.length]; exact hlt
    obtain ⟨k, t, e, hk⟩ := IntsAre.at hw i.toNat vs[i.toNat] (List.getElem?_eq_getElem hv)
    exact ⟨t, by rw [List.getElem?_eq_getElem hv, e, List.getD_eq_getElem?_getD, hk]; rfl⟩
  exact tail_any hl.typeIs slot_list_getitem.lookup (wpAny_getItem_list hl h0 (by omega) (x := .int _ t') (by simpa using e) (h t')) hs
theorem pick_char (h0 : 0 ≤ i) (h1 : i < (x.cps.toList.length : Int)) (hf : i < 2 ^ 62) (h : ∀ c t k, c ∈ x.cps.toList → Q (.str ⟨#[c]⟩ t) { s with toks := k })
    (hs : subscripted slice false (.str x t) (.int i u) = operate [.str x t, .int i u] (getItem (.str x t) (.int i u)) := by with_unfolding_all rfl) :
    wpAny (model prog w) A (subscriptTail value slice (.str x t) (.int i u)) Q E s := by
  have hlt : i.toNat < x.cps.toList.length := by omega
  exact item_text h0 hf (List.getElem?_eq_getElem hlt) (h _ _ _ (List.getElem_mem hlt)) hs
end
local macro_rules | `(tactic| walk_at "subscriptTail") => `(tactic| ((with_reducible show wpAny _ _ (subscriptTail (Expr.List _ _) _ (Value.ref _) (Value.int _ _)) _ _ _); refine' pick_text ?l ?w ?h0 ?h1 ?f ?_; (case l => with_unfolding_all is_list); (case w => with_unfolding_all repeat constructor); (case h0 => first | assumption | omega); (case h1 => first | assumption | ((try simp only [List.length_cons, List.length_nil]); omega)); (case f => first | exact Int.lt_trans (by assumption) (by decide) | omega); intro t9 y9 hy9))
section
variable {prog : Program} {w : World} {A : Around} {E : Value → Shared → Prop} {s : Shared} {a b : List Nat} {t u : Tok} {Q : Value → Shared → Prop}
theorem add_toS (hsz : a.length + b.length ≤ 16777216) (h : ∀ t' k, Q (.str (toS (a ++ b)) t') { s with toks := k }) : wpAny (model prog w) A (binaryOp .Add (.str (toS a) t) (.str (toS b) u)) Q E s := by
  refine PyProof.Rows.add_str (fun t' k => ?_) (by rw [sizeLine_eq, str_len, str_len]; exact hsz)
  rw [toS_append]
  exact h t' k
theorem join_words {D : Addr} {vs : List Value} {xs : List (List Nat)} (hl : s.heap.IsList D vs.toArray) (hi : StrsAre vs (xs.map toS)) (hok : sumLen (xs.map toS) + xs.length * a.length ≤ 16777216)
    (h : ∀ t' k, Q (.str (toS (joinL a xs)) t') { s with toks := k }) : wpAny (model prog w) A (call (.builtin "str.join") [.str (toS a) t, .ref D]) Q E s := by
  refine join_list (ys := xs.map toS) hl (by simpa using hi) (by rw [List.length_map, str_len]; exact hok) (fun t' k => ?_)
  rw [join_toS]
  exact h t' k
end
local macro_rules | `(tactic| walk_at "binaryOp Add str str") => `(tactic| ((with_reducible show wpAny _ _ (binaryOp Operator.Add (Value.str (Str.mk (List.toArray _)) _) (Value.str (Str.mk (List.toArray _)) _)) _ _ _); first | (refine add_toS (by (try simp only [List.length_append]); omega) ?_; intro t9 k9) | refine Stop.go ?_))
local macro_rules | `(tactic| walk_at "call builtin:str.join") => `(tactic| ((try dsimp only [List.nil_append, List.cons_append]); (with_reducible show wpAny _ _ (call (Value.builtin "str.join") [Value.str (Str.mk (List.toArray _)) _, Value.ref _]) _ _ _); refine' join_words ?a ?b ?c ?_; (case a => is_list); (case b => assumption); (case c => assumption); intro t9 k9))
theorem laid_spec {w : World} {mean : ExcName → Option Value} {mg mb : Str → Option Value} {g : Heap} {s : Shared} {Q : Value → Shared → Prop} {pl wl : Addr} {po : Obj} {wvs : List Value} {nw : Nat} {xs : List (List Nat)}
   (X : (top0.heap_1 w.params).In g) (T : Top Mine.viewK (looseW Mine.viewK [Str.ofString "GateloomError"]) mean mg mb g) (hb : g.StaysIn s.heap)
   (hp : s.heap.get? pl = some po ∧ g.get? pl = none) (hpo : PoolL po) (hw : s.heap.get? wl = some (listOf wvs.toArray nw) ∧ g.get? wl = none) (hne : @LT.lt Nat _ pl wl) (hS : StrsAre wvs (xs.map toS)) (hsz : sumLen (xs.map toS) ≤ 5000) (hxl : xs.length ≤ 100) (hc : ∀ x ∈ xs, ∀ c ∈ x, isL c = false)
   (h : ∀ h' tk' po' x t, Stays [pl] s.heap h' → h'.get? pl = some po' → PoolL po' → x.length ≤ sumLen (xs.map toS) + 2 * xs.length + 1 → (∀ rest, words (x ++ rest) = xs.filter (fun x => decide (x ≠ [])) ++ words rest) → Q (.str (toS x) t) { s with heap := h', toks := tk' }) :
   wpAny (model Challenge.rw_sj0032_01.row.prog w) (Ar 450 1000) (call (.ref 211) [.ref pl, .ref wl]) Q (fun _ _ => False) s := by
  refine fill (top0.heap_1 w.params) ?_
  k_fill
  intro _
  have hn : ∀ p ∈ [(pl, po), (wl, listOf wvs.toArray nw)], s.heap.get? p.1 = some p.2 ∧ g.get? p.1 = none := fun q hq => by
    rcases List.mem_cons.mp hq with rfl | hq
    · exact hp
    · rw [List.mem_singleton.mp hq]; exact hw
  walk_at "mine enter2"
  intro g' L' h₁ hb' X' T' st F' N' lt
  dsimp only
  obtain ⟨m₀, F'⟩ := fr_hide (ps := [(Str.ofString "pool", .ref pl), (Str.ofString "words", .ref wl)]) F' ⟨rfl, rfl, trivial⟩
  dsimp only [kstB] at F'
  k_fold
  walk_at "mine go"
  rename_i t9 y9 hy9 h4 F4 N4
  have hq : ∀ y ∈ [Str.ofString " ", Str.ofString "\n", Str.ofString "\t ", Str.ofString "\x0d\n"].map (fun x => x.cps.toList), y.length ≤ 2 ∧ y ≠ [] ∧ ∀ c ∈ y, isL c = true := by decide +kernel
  obtain ⟨hq1, hq2, hq3⟩ := hq _ hy9
  obtain ⟨g0, gap, rfl⟩ := List.exists_cons_of_ne_nil hq2
  clear hy9 hq
  have hml : xs.length * (g0 :: gap).length ≤ xs.length * 2 := Nat.mul_le_mul_left _ hq1
  have hok : sumLen (xs.map toS) + xs.length * (g0 :: gap).length ≤ 16777216 := by omega
  have hjl := joinL_length (g0 :: gap) xs
  walk_at "mine go"
  rename_i t5 k5 l5 h5 l1 lL h6 tk6 po6 k6 t6 F6 N6 hp6 k0 k1 t7 y7 hy7
  have hq : ∀ y ∈ [Str.ofString "\n", Str.ofString " "].map (fun x => x.cps.toList), ∃ e, y = [e] ∧ isL e = true := by
    intro y hy
    rcases List.mem_cons.mp hy with rfl | hy
    · exact ⟨10, by decide +kernel, rfl⟩
    · rw [List.mem_singleton.mp hy]; exact ⟨32, by decide +kernel, rfl⟩
  obtain ⟨e, rfl, he⟩ := hq _ hy7
  have hel : [e].length = 1 := rfl
  clear hy7 hq
  unfold Stop
  walk_at "mine go"
  rename_i t8 k8
  have S : Stays [pl] s.heap h6 := stays_less (stays_of st F6) fun x hx => by
    rcases List.mem_cons.mp hx with rfl | hx
    · exact .inl (.head _)
    · rw [List.mem_singleton.mp hx]
      exact .inr ⟨_, hw.1, (N6 _ (.tail _ (.tail _ (.tail _ (.head _))))).1⟩
  refine h h6 _ po6 (joinL (g0 :: gap) xs ++ [e]) t8 S (N6 _ (.tail _ (.tail _ (.head _)))).1 hp6 ?_ fun rest => ?_
  · rw [List.length_append]; omega
  · rw [List.append_assoc]
    exact words_joinL hq3 he rest xs hc
theorem off22 : True := by (w_top off); exact True.intro
/-- the text so far: it tells what σ holds -/
def DecT (txt : List Nat) (σ : DS) : Prop := ∀ rest σE wsE, Decl (words rest) σ σE wsE → Decl (words (txt ++ rest)) ⟨Str.ofString "", [], [], []⟩ σE wsE
theorem DecT.step {txt x : List Nat} {σ σ1 : DS} {wd : List Nat} {parts : List (List Nat)} (h : DecT txt σ) (hx : ∀ rest, words (x ++ rest) = (wd :: (parts ++ [END])) ++ words rest) (h1 : END ∉ parts) (h2 : parts.length ≤ 1000) (hc : Cmd wd parts σ σ1) : DecT (txt ++ x) σ1 := fun rest σE wsE hd => by
  rw [List.append_assoc]
  refine h _ _ _ ?_
  rw [hx, List.cons_append, List.append_assoc]
  exact .step σ σ1 σE wd parts _ _ h1 h2 hc hd
theorem DecT.nil : DecT [] ⟨Str.ofString "", [], [], []⟩ := fun _ _ _ h => h
theorem DecT.done {txt x : List Nat} {σ : DS} (h : DecT txt σ) (hx : ∀ rest, words (x ++ rest) = [wED, END] ++ words rest) (rest : List Nat) : Decl (words (txt ++ x ++ rest)) ⟨Str.ofString "", [], [], []⟩ σ (words rest) := by
  rw [List.append_assoc]
  refine h _ _ _ ?_
  rw [hx]
  exact .done σ [] _ (by simp) (by simp)
/-- the changes' text so far -/
def ChgT (wd : List (Str × Int)) (x : List Nat) (now : Nat) (ch : List Dat) : Prop := ∀ rest nowE chE, Chg wd (words rest) now ch nowE chE → Chg wd (words (x ++ rest)) 0 [] nowE chE
theorem ChgT.nil (wd : List (Str × Int)) : ChgT wd [] 0 [] := fun _ _ _ h => h
theorem ChgT.step {wd : List (Str × Int)} {x y : List Nat} {now now' : Nat} {ch ch' : List Dat} {ws : List (List Nat)} (h : ChgT wd x now ch) (hy : ∀ rest, words (y ++ rest) = ws ++ words rest) (hs : ∀ rest nowE chE, Chg wd rest now' ch' nowE chE → Chg wd (ws ++ rest) now ch nowE chE) : ChgT wd (x ++ y) now' ch' := fun rest nowE chE hc => by
  rw [List.append_assoc]
  refine h _ _ _ ?_
  rw [hy]
  exact hs _ _ _ hc
theorem ChgT.done {wd : List (Str × Int)} {x : List Nat} {now : Nat} {ch : List Dat} (h : ChgT wd x now ch) : Chg wd (words x) 0 [] now ch := by
  have := h [] now ch (.nil now ch)
  rwa [List.append_nil] at this
/-- what _law_laid is handed: its words, none with a layout sign -/
inductive Laid : List Value → List (List Nat) → Nat → Prop
  | nil : Laid [] [] 0
  | cons {x : Str} {a : List Nat} {vs : List Value} {xs : List (List Nat)} {n : Nat} (k : Nat) (t : Tok) (e : x = toS a) (hc : a.all (fun c => !isL c) = true) (hk : a.length ≤ k) (r : Laid vs xs n) : Laid (.str x t :: vs) (a :: xs) (k + n)
theorem Laid.strs : ∀ {vs : List Value} {xs : List (List Nat)} {n : Nat}, Laid vs xs n → StrsAre vs (xs.map toS)
  | _, _, _, .nil => .nil
  | _, _, _, .cons k t e hc hk r => by
    subst e
    exact .cons _ t r.strs
theorem Laid.sum : ∀ {vs : List Value} {xs : List (List Nat)} {n : Nat}, Laid vs xs n → sumLen (xs.map toS) ≤ n
  | _, _, _, .nil => Nat.le_refl _
  | _, _, _, .cons k t e hc hk r => by
    have ih := r.sum
    simp only [List.map_cons, sumLen, List.sum_cons, str_len] at ih ⊢
    omega
theorem Laid.plain : ∀ {vs : List Value} {xs : List (List Nat)} {n : Nat}, Laid vs xs n → ∀ x ∈ xs, ∀ c ∈ x, isL c = false
  | _, _, _, .nil, _, hx, _, _ => by cases hx
  | _, _, _, .cons k t e hc hk r, x, hx, c, hcx => by
    rcases List.mem_cons.mp hx with rfl | hx
    · simpa using List.all_eq_true.mp hc c hcx
    · exact r.plain x hx c hcx
theorem Laid.app : ∀ {vs us : List Value} {xs ys : List (List Nat)} {n m : Nat}, Laid vs xs n → Laid us ys m → Laid (vs ++ us) (xs ++ ys) (n + m)
  | _, _, _, _, _, _, .nil, h => by rw [Nat.zero_add]; exact h
  | _, _, _, _, _, _, .cons k t e hc hk r, h => by
    rw [Nat.add_assoc]
    exact .cons k t e hc hk (r.app h)
theorem laid_at {w : World} {mean : ExcName → Option Value} {mg mb : Str → Option Value} {g : Heap} {L : Addr} {A : Around} {m : Str → Option Value} {news : List (Addr × Obj)} {s : Shared} {Q : Value → Shared → Prop} {E : Value → Shared → Prop} {pl wl : Addr} {po : Obj} {u : Obj → List (Addr × Obj)} {wvs : List Value} {nw n : Nat} {xs : List (List Nat)}
   (X : (top0.heap_1 w.params).In g) (T : Top Mine.viewK (looseW Mine.viewK [Str.ofString "GateloomError"]) mean mg mb g) (F : Fr g L s.heap m) (N : News g L s.heap news) (U : UpdF pl po news u)
   (hp : PoolL po) (hw : (wl, listOf wvs.toArray nw) ∈ news) (hne : @LT.lt Nat _ pl wl) (hL : Laid wvs xs n) (hn : n ≤ 5000) (hxl : xs.length ≤ 100)
   (h : ∀ h' tk' po' x t, Fr g L h' m → News g L h' (u po') → PoolL po' → x.length ≤ n + 2 * xs.length + 1 → (∀ rest, words (x ++ rest) = xs.filter (fun x => decide (x ≠ [])) ++ words rest) → Q (.str (toS x) t) { s with heap := h', toks := tk' })
   (hh : A.handled = none) (hd : A.depth ≤ 450) (hu : A.units ≤ 1000) :
   wpAny (model Challenge.rw_sj0032_01.row.prog w) A (call (.ref 211) [.ref pl, .ref wl]) Q E s := by
  have hm := updF_mem U
  refine wp_le (laid_spec X T F.keep ⟨(N _ hm).1, (N _ hm).2.2⟩ hp ⟨(N _ hw).1, (N _ hw).2.2⟩ hne hL.strs (Nat.le_trans hL.sum hn) hxl hL.plain fun h' tk' po' x t S hg hp' hx hws => ?_) hh hd hu
  have := hL.sum
  exact h h' tk' po' x t (fr_after F N S fun a ha => ⟨_, List.mem_singleton.mp ha ▸ hm⟩) (news_after1 N U S hg) hp' (by omega) hws
theorem filled_at {w : World} {mean : ExcName → Option Value} {mg mb : Str → Option Value} {g : Heap} {L : Addr} {A : Around} {m : Str → Option Value} {news : List (Addr × Obj)} {s : Shared} {Q : Value → Shared → Prop} {E : Value → Shared → Prop} {x : Str} {c : Nat} {ds : List Nat} {W : Nat} {Wi : Int} {td tw : Tok}
   (X : (top0.heap_1 w.params).In g) (T : Top Mine.viewK (looseW Mine.viewK [Str.ofString "GateloomError"]) mean mg mb g) (F : Fr g L s.heap m) (N : News g L s.heap news)
   (hx : x = toS (c :: ds)) (hWi : Wi = (W : Nat)) (h6 : SixSigns (c :: ds)) (hl : (c :: ds).length ≤ W) (hW : W ≤ 10)
   (h : ∀ h' tk' r o, Fr g L h' m → News g L h' ((r, o) :: news) → (∀ p ∈ news, p.1 < r) → L < r → DatIn [(r, o)] (.ref r) (valD (c :: ds) W) → Q (.ref r) { s with heap := h', toks := tk' })
   (hh : A.handled = none) (hd : A.depth ≤ 550) (hu : A.units ≤ 2000) :
   wpAny (model Challenge.rw_sj0032_01.row.prog w) A (call (.ref 204) [.str x td, .int Wi tw]) Q E s := by
  subst hx hWi
  have hfl := full_length (ds := c :: ds) (W := W) (by simp) hl
  refine wp_le (filled_spec X T F.keep h6 hl hW fun h' tk' r t1 t2 t3 S hr hn => ?_) hh hd hu
  refine h h' tk' r _ (fr_after F N S (fun a ha => nomatch ha)) (news_cons F (news_after N S) hr hn) (fun p hp => Nat.lt_of_lt_of_le (Heap.lt_size (N p hp).1) hn) (Nat.lt_of_lt_of_le F.ns.lt hn) ?_
  unfold valD
  rw [hfl]
  exact .tuple (.head _) (.cons (.int _ _) (.cons (.int _ _) (.cons (.int _ _) .nil)))
theorem pool_at {w : World} {mean : ExcName → Option Value} {mg mb : Str → Option Value} {g : Heap} {L : Addr} {A : Around} {m : Str → Option Value} {news : List (Addr × Obj)} {s : Shared} {Q : Value → Shared → Prop} {E : Value → Shared → Prop} {sc : Addr} {vs : List Value} {ns : List Int}
   (X : (top0.heap_1 w.params).In g) (T : Top Mine.viewK (looseW Mine.viewK [Str.ofString "GateloomError"]) mean mg mb g) (F : Fr g L s.heap m) (N : News g L s.heap news)
   (hL : g.IsList sc vs.toArray) (hI : IntsAre vs ns) (hlen : ns.length ≤ 63)
   (h : ∀ h' tk' r o, Fr g L h' m → News g L h' ((r, o) :: news) → (∀ p ∈ news, p.1 < r) → L < r → PoolL o → Q (.ref r) { s with heap := h', toks := tk' })
   (hh : A.handled = none) (hd : A.depth ≤ 400) (hu : A.units ≤ 500) :
   wpAny (model Challenge.rw_sj0032_01.row.prog w) A (call (.ref 192) [.ref sc]) Q E s := by
  refine wp_le (pool_spec X T F.keep hL hI hlen fun h' tk' r t5 ws ms n S hr hn hi hl => ?_) hh hd hu
  exact h h' tk' r _ (fr_after F N S (fun a ha => nomatch ha)) (news_cons F (news_after N S) hr hn) (fun p hp => Nat.lt_of_lt_of_le (Heap.lt_size (N p hp).1) hn) (Nat.lt_of_lt_of_le F.ns.lt hn) ⟨5, t5, ws, ms, n, rfl, hi, hl⟩
local macro_rules | `(tactic| walk_at "call ref") => `(tactic| ((walk_at "mine nil"; (with_reducible show wpAny _ _ (call (Value.ref 192) [Value.ref _] _) _ _ _); apply pool_at <;> try walk_at "mine side"); (intros; (try k_sweep))))
local macro_rules | `(tactic| walk_at "call ref") => `(tactic| ((try dsimp only [List.nil_append, List.cons_append]); (with_reducible show wpAny _ _ (call (Value.ref 204) _ _) _ _ _); refine Stop.go ?_))
local macro_rules | `(tactic| walk_at "call ref") => `(tactic| ((try dsimp only [List.nil_append, List.cons_append]); (with_reducible show wpAny _ _ (call (Value.ref 211) _ _) _ _ _); refine Stop.go ?_))
local macro_rules | `(tactic| walk_at "call ref") => `(tactic| ((try dsimp only [List.nil_append, List.cons_append]); (with_reducible show wpAny _ _ (call (Value.ref 187) _ _) _ _ _); refine Stop.go ?_))
theorem off23 : True := by (w_top off); exact True.intro
def sgN : List (List Nat) := [[33], [48, 120], [35, 36]]
theorem kdpLook_put (c : List (Str × Int)) (k j : Str) (v d : Int) : kdpLook (kdpPut c k v) j d = if j = k then v else kdpLook c j d := by
  unfold kdpPut
  split
  · rename_i h
    induction c with
    | nil => simp at h
    | cons p c ih =>
      unfold kdpLook at ih ⊢
      simp only [List.map_cons, List.find?_cons]
      by_cases hp : p.1 = k
      · simp only [hp, decide_true, if_true]
        by_cases hj : j = k
        · subst hj; simp
        · have hk : ¬ k = j := fun e => hj e.symm
          simp only [hk, hj, decide_false, if_false]
          by_cases hc : (c.any fun p => decide (p.1 = k)) = true
          · have := ih hc
            rw [this, if_neg hj]
          · have e : c.map (fun p => if decide (p.1 = k) = true then (p.1, v) else p) = c := by
              refine (List.map_congr_left fun q hq => ?_).trans (List.map_id c)
              rw [if_neg]
              · rfl
              · intro hq2
                exact hc (List.any_eq_true.mpr ⟨q, hq, hq2⟩)
            rw [e]
      · have hc : (c.any fun p => decide (p.1 = k)) = true := by simpa [hp] using h
        simp only [hp, decide_false, Bool.false_eq_true, if_false]
        by_cases hj : p.1 = j
        · have : ¬ j = k := fun e => hp (hj.trans e)
          simp [hj, this]
        · simp only [hj, decide_false]
          exact ih hc
  · rename_i h
    unfold kdpLook
    rw [List.find?_append]
    by_cases hj : j = k
    · subst hj
      have : c.find? (fun p => decide (p.1 = j)) = none := by
        rw [List.find?_eq_none]
        intro q hq hq2
        exact h (List.any_eq_true.mpr ⟨q, hq, hq2⟩)
      simp [this]
    · have hk : ¬ k = j := fun e => hj e.symm
      simp [hk, hj]
theorem kdpLook_none {c : List (Str × Int)} {k : Str} (d : Int) (h : kdpHas c k = false) : kdpLook c k d = d := by
  unfold kdpLook
  have : c.find? (fun p => decide (p.1 = k)) = none := by
    rw [List.find?_eq_none]
    intro q hq hq2
    rw [show kdpHas c k = true from List.any_eq_true.mpr ⟨q, hq, hq2⟩] at h
    cases h
  rw [this]; rfl
def WidOK (wd : List (Str × Int)) (ns : List Int) : Prop := ∀ k, k < 3 → ∀ d, kdpLook wd (toS (sgN.getD k [])) d = if kdpHas wd (toS (sgN.getD k [])) = true then ns.getD k 0 else d
theorem sgN_inj : ∀ k : Nat, k < 3 → ∀ j : Nat, j < 3 → sgN.getD k [] = sgN.getD j [] → k = j := by decide
theorem WidOK.put {wd : List (Str × Int)} {ns : List Int} {k : Nat} (h : WidOK wd ns) (hk : k < 3) : WidOK (kdpPut wd (toS (sgN.getD k [])) (ns.getD k 0)) ns := fun j hj d => by
  rw [kdpLook_put, kdpHas_put]
  by_cases e : toS (sgN.getD j []) = toS (sgN.getD k [])
  · have := sgN_inj j hj k hk (toS_inj e)
    subst this
    simp
  · rw [if_neg e, h j hj d, decide_eq_false e, Bool.false_or]
def VarsOK (vars : List Dat) (wid : List (Str × Int)) : Prop := ∀ v ∈ vars, ∃ (a : Str) (b : Int) (c : Str) (k : Nat), k < 3 ∧ v = .tuple [.str a, .int b, .str c, .str (toS (sgN.getD k []))] ∧ kdpHas wid (toS (sgN.getD k [])) = true
structure LSx (ns : List Int) (due : Str) (a b i : Nat) (txt : List Nat) (σ : DS) : Prop where
  dec : DecT txt σ
  len : txt.length ≤ b
  scale : σ.scale = due
  scl : σ.scopes.length ≤ a
  scs : sumLen σ.scopes ≤ 2 * a
  vl : σ.vars.length = i
  wl : σ.wid.length ≤ i
  wid : WidOK σ.wid ns
  vars : VarsOK σ.vars σ.wid
  first : 1 ≤ i → kdpHas σ.wid (toS [33]) = true
  sok : ∀ x ∈ σ.scopes, PyData.strOk x = true
  vok : ∀ v ∈ σ.vars, kqdOk 8 v = true
theorem sumLen_app (a b : List Str) : sumLen (a ++ b) = sumLen a + sumLen b := by simp [sumLen]
theorem strOk_toS (l : List Nat) : PyData.strOk (toS l) = l.all (fun c => decide (c < 0x110000)) := by
  unfold PyData.strOk
  simp
theorem joinL_all (p : Nat → Bool) (gap : List Nat) (hg : gap.all p = true) : ∀ xs : List (List Nat), (∀ x ∈ xs, x.all p = true) → (joinL gap xs).all p = true
  | [], _ => rfl
  | [x], h => h x (.head _)
  | x :: y :: r, h => by
    have ih := joinL_all p gap hg (y :: r) fun z hz => h z (.tail _ hz)
    simp only [joinL, List.all_append, Bool.and_eq_true]
    exact ⟨⟨h x (.head _), hg⟩, ih⟩
theorem strOk_join {xs : List Str} (h : ∀ x ∈ xs, PyData.strOk x = true) : PyData.strOk (Txt.join (Str.ofString ".") xs) = true := by
  have e : xs = (xs.map fun x => x.cps.toList).map toS := by
    rw [List.map_map]
    refine (List.map_id xs).symm.trans (List.map_congr_left fun x hx => toS_eta x)
  rw [e, show Str.ofString "." = toS [46] from by decide +kernel, join_toS, strOk_toS]
  refine joinL_all _ _ (by decide) _ fun l hl => ?_
  obtain ⟨x, hx, rfl⟩ := List.mem_map.mp hl
  rw [← strOk_toS, ← toS_eta]
  exact h x hx
theorem LSx.mono {ns : List Int} {due : Str} {a b a' b' i : Nat} {txt : List Nat} {σ : DS} (h : LSx ns due a b i txt σ) (ha : a ≤ a') (hb : b ≤ b') : LSx ns due a' b' i txt σ :=
  ⟨h.dec, Nat.le_trans h.len hb, h.scale, Nat.le_trans h.scl ha, Nat.le_trans h.scs (by omega), h.vl, h.wl, h.wid, h.vars, h.first, h.sok, h.vok⟩
theorem LSx.scope {ns : List Int} {due : Str} {a b i : Nat} {txt x y n : List Nat} {σ : DS} (h : LSx ns due a b i txt σ) (hy : y ≠ END) (hn : n ≠ END) (hn2 : n.length ≤ 2) (hn3 : PyData.strOk (toS n) = true) (ha : a < 50) (hxl : x.length ≤ 100)
    (hx : ∀ rest, words (x ++ rest) = [wSC, y, n, END] ++ words rest) : LSx ns due (a + 1) (b + 100) i (txt ++ x) { σ with scopes := σ.scopes ++ [toS n] } :=
  ⟨h.dec.step (parts := [y, n]) hx (by simp only [List.mem_cons, List.not_mem_nil, or_false, not_or]; exact ⟨fun e => hy e.symm, fun e => hn e.symm⟩) (by simp) (.scope σ y n (by have := h.scl; omega)),
    by have := h.len; rw [List.length_append]; omega, h.scale, by have := h.scl; simp only [List.length_append, List.length_cons, List.length_nil]; omega,
    by have := h.scs; rw [sumLen_app]; simp only [sumLen, List.map_cons, List.map_nil, List.sum_cons, List.sum_nil, str_len] at this ⊢; omega, h.vl, h.wl, h.wid, h.vars, h.first, (fun z hz => by rcases List.mem_append.mp hz with hz | hz; exact h.sok z hz; rw [List.mem_singleton.mp hz]; exact hn3), h.vok⟩
theorem LSx.up {ns : List Int} {due : Str} {a b i : Nat} {txt x : List Nat} {σ : DS} {sc : List Str} {z : Str} (h : LSx ns due a b i txt σ) (hs : σ.scopes = sc ++ [z]) (hxl : x.length ≤ 100)
    (hx : ∀ rest, words (x ++ rest) = [wUP, END] ++ words rest) : LSx ns due a (b + 100) i (txt ++ x) { σ with scopes := sc } :=
  ⟨h.dec.step (parts := []) hx (by simp) (by simp) (.up σ sc z hs),
    by have := h.len; rw [List.length_append]; omega, h.scale, by have := h.scl; rw [hs] at this; simp only [List.length_append, List.length_cons, List.length_nil] at this ⊢; omega,
    by have := h.scs; rw [hs, sumLen_app] at this; show sumLen sc ≤ _; omega, h.vl, h.wl, h.wid, h.vars, h.first, (fun z hz => h.sok z (by rw [hs]; exact List.mem_append_left _ hz)), h.vok⟩
theorem LSx.skip {ns : List Int} {due : Str} {a b i : Nat} {txt x wd p q : List Nat} {σ : DS} (h : LSx ns due a b i txt σ) (hw : wd = wDATE ∨ wd = wVER ∨ wd = wCOM) (hp : p ≠ END) (hq : q ≠ END) (hxl : x.length ≤ 100)
    (hx : ∀ rest, words (x ++ rest) = [wd, p, q, END] ++ words rest) : LSx ns due a (b + 100) i (txt ++ x) σ :=
  ⟨h.dec.step (parts := [p, q]) hx (by simp only [List.mem_cons, List.not_mem_nil, or_false, not_or]; exact ⟨fun e => hp e.symm, fun e => hq e.symm⟩) (by simp) (.skip σ wd _ hw),
    by have := h.len; rw [List.length_append]; omega, h.scale, h.scl, h.scs, h.vl, h.wl, h.wid, h.vars, h.first, h.sok, h.vok⟩
def wdK (ns : List Int) (k : Nat) : Nat := (ns.getD k 0).toNat
def varD (σ : DS) (v kind : List Nat) (ns : List Int) (k : Nat) : Dat := .tuple [.str (Txt.join (Str.ofString ".") (σ.scopes ++ [toS v])), .int (ns.getD k 0), .str (toS kind), .str (toS (sgN.getD k []))]
theorem LSx.var {ns : List Int} {due : Str} {a b i k : Nat} {txt x kind v : List Nat} {more : List (List Nat)} {σ : DS} (h : LSx ns due a b i txt σ) (hk : k < 3) (hns : ∀ j, j < 3 → 1 ≤ ns.getD j 0 ∧ ns.getD j 0 ≤ 6) (hi : i < 50) (ha : a < 50) (h0 : i = 0 → k = 0) (hv : v.length ≤ 2)
    (hks : PyData.strOk (toS kind) = true) (hvs : PyData.strOk (toS v) = true) (hkind : kind ≠ END) (hve : v ≠ END) (hm : END ∉ more) (hml : more.length ≤ 10) (hxl : x.length ≤ 200)
    (hx : ∀ rest, words (x ++ rest) = (wVAR :: kind :: [48 + wdK ns k] :: sgN.getD k [] :: v :: more ++ [END]) ++ words rest) :
    LSx ns due a (b + 200) (i + 1) (txt ++ x) { σ with vars := σ.vars ++ [varD σ v kind ns k], wid := kdpPut σ.wid (toS (sgN.getD k [])) (ns.getD k 0) } := by
  obtain ⟨w1, w6⟩ := hns k hk
  have hW : ((wdK ns k : Nat) : Int) = ns.getD k 0 := Int.toNat_of_nonneg (by omega)
  have hW6 : wdK ns k ≤ 6 := by omega
  have hW1 : 1 ≤ wdK ns k := by omega
  have hdv : NumText.digitsVal [48 + wdK ns k] = wdK ns k := by
    show 0 * 10 + (48 + wdK ns k - 48) = _
    omega
  have hsg : ∀ j, j < 3 → sgN.getD j [] ≠ END := by decide
  have hc := Cmd.var σ kind [48 + wdK ns k] (sgN.getD k []) v more (by omega) (by simp) (by intro c hc; rw [List.mem_singleton.mp hc]; omega) (by simp) (by rw [hdv]; exact hW1) (by rw [hdv]; omega)
    (by rw [hdv, h.wid k hk, hW]; split <;> rfl) (by have := h.scs; rw [sumLen_app]; simp only [sumLen, List.map_cons, List.map_nil, List.sum_cons, List.sum_nil, str_len] at this ⊢; omega) (by have := h.vl; omega) (by have := h.wl; omega)
  rw [hdv, hW] at hc
  refine ⟨h.dec.step (parts := kind :: [48 + wdK ns k] :: sgN.getD k [] :: v :: more) hx ?_ (by simp only [List.length_cons]; omega) hc, by have := h.len; rw [List.length_append]; omega, h.scale, h.scl, h.scs,
    by have := h.vl; simp only [List.length_append, List.length_cons, List.length_nil]; omega, Nat.le_trans (kdpPut_len _ _ _) (by have := h.wl; omega), h.wid.put hk, ?_, ?_, h.sok, ?_⟩
  · simp only [List.mem_cons, not_or]
    refine ⟨fun e => hkind e.symm, fun e => ?_, fun e => hsg k hk e.symm, fun e => hve e.symm, hm⟩
    exact absurd (congrArg List.length e) (by show ¬ (4 = 1); decide)
  · intro z hz
    rcases List.mem_append.mp hz with hz | hz
    · obtain ⟨p, q, r, j, hj, e, hh⟩ := h.vars z hz
      exact ⟨p, q, r, j, hj, e, by rw [kdpHas_put, hh, Bool.or_true]⟩
    · rw [List.mem_singleton.mp hz]
      exact ⟨_, _, _, k, hk, rfl, by rw [kdpHas_put]; simp⟩
  · intro _
    rw [kdpHas_put]
    by_cases h1 : 1 ≤ i
    · rw [h.first h1, Bool.or_true]
    · rw [h0 (by omega)]
      rfl
  · intro z hz
    rcases List.mem_append.mp hz with hz | hz
    · exact h.vok z hz
    · rw [List.mem_singleton.mp hz]
      have h1 : PyData.strOk (Txt.join (Str.ofString ".") (σ.scopes ++ [toS v])) = true := strOk_join fun y hy => by
        rcases List.mem_append.mp hy with hy | hy
        · exact h.sok y hy
        · rw [List.mem_singleton.mp hy]; exact hvs
      have h2 : ∀ j, j < 3 → PyData.strOk (toS (sgN.getD j [])) = true := by decide +kernel
      simp only [varD, kqdOk, List.all_cons, List.all_nil, h1, hks, h2 k hk, Bool.and_true]
theorem off24 : True := by (w_top off); exact True.intro
structure CS (wd : List (Str × Int)) (b i : Nat) (x : List Nat) (now : Nat) (ch : List Dat) : Prop where
  chg : ChgT wd x now ch
  len : x.length ≤ b
  cl : ch.length ≤ i
  nb : now ≤ i * 10 ^ 30
  cok : ∀ c ∈ ch, kqdOk 8 c = true
theorem sgN_le : ∀ k : Nat, k < 3 → (sgN.getD k []).length ≤ 2 ∧ sgN.getD k [] ≠ END ∧ sgN.getD k [] ≠ [] ∧ (sgN.getD k []).all (fun c => !isL c) = true := by decide
section
variable {wd : List (Str × Int)} {ns : List Int} {b i now k : Nat} {x y : List Nat} {ch : List Dat}
theorem look_of (hw : WidOK wd ns) (hk : k < 3) (hh : kdpHas wd (toS (sgN.getD k [])) = true) (hns : ∀ j, j < 3 → 1 ≤ ns.getD j 0 ∧ ns.getD j 0 ≤ 6) : kdpLook wd (toS (sgN.getD k [])) 0 = ((wdK ns k : Nat) : Int) := by
  rw [hw k hk, if_pos hh]
  exact (Int.toNat_of_nonneg (by have := (hns k hk).1; omega)).symm
theorem CS.mono {b' i' : Nat} (h : CS wd b i x now ch) (hb : b ≤ b') (hi : i ≤ i') : CS wd b' i' x now ch := ⟨h.chg, Nat.le_trans h.len hb, Nat.le_trans h.cl hi, Nat.le_trans h.nb (Nat.mul_le_mul_right _ hi), h.cok⟩
theorem chg_ok {c : List Nat} {W : Nat} (hk : k < 3) (h : ∀ c ∈ ch, kqdOk 8 c = true) : ∀ z ∈ ch ++ [chgD now (sgN.getD k []) c W], kqdOk 8 z = true := fun z hz => by
  rcases List.mem_append.mp hz with hz | hz
  · exact h z hz
  · rw [List.mem_singleton.mp hz]
    have h2 : ∀ j, j < 3 → PyData.strOk (toS (sgN.getD j [])) = true := by decide +kernel
    simp only [chgD, valD, kqdOk, List.all_cons, List.all_nil, h2 k hk, Bool.and_true]
theorem CS.vec {f c : Nat} {ds : List Nat} (h : CS wd b i x now ch) (hw : WidOK wd ns) (hns : ∀ j, j < 3 → 1 ≤ ns.getD j 0 ∧ ns.getD j 0 ≤ 6) (hk : k < 3) (hh : kdpHas wd (toS (sgN.getD k [])) = true) (hi : i < 50)
    (hf : f = 98 ∨ f = 66) (h6 : SixSigns (c :: ds)) (hl : (c :: ds).length ≤ wdK ns k) (hyl : y.length ≤ 100) (hy : ∀ rest, words (y ++ rest) = [f :: c :: ds, sgN.getD k []] ++ words rest) :
    CS wd (b + 100) (i + 1) (x ++ y) now (ch ++ [chgD now (sgN.getD k []) (c :: ds) (wdK ns k)]) :=
  ⟨h.chg.step hy fun rest nowE chE hr => .vector f c ds (sgN.getD k []) (wdK ns k) rest now nowE ch chE hf h6 hh (look_of hw hk hh hns) hl (by have := (hns k hk).2; unfold wdK; omega) (by have := h.cl; omega) hr,
    by have := h.len; rw [List.length_append]; omega, by have := h.cl; simp only [List.length_append, List.length_cons, List.length_nil]; omega, Nat.le_trans h.nb (Nat.mul_le_mul_right _ (Nat.le_succ i)), chg_ok hk h.cok⟩
theorem CS.sca {c : Nat} (h : CS wd b i x now ch) (hw : WidOK wd ns) (hns : ∀ j, j < 3 → 1 ≤ ns.getD j 0 ∧ ns.getD j 0 ≤ 6) (hk : k < 3) (hh : kdpHas wd (toS (sgN.getD k [])) = true) (hi : i < 50)
    (h6 : SixSigns [c]) (hyl : y.length ≤ 100) (hy : ∀ rest, words (y ++ rest) = [c :: sgN.getD k []] ++ words rest) :
    CS wd (b + 100) (i + 1) (x ++ y) now (ch ++ [chgD now (sgN.getD k []) [c] (wdK ns k)]) :=
  ⟨h.chg.step hy fun rest nowE chE hr => .scalar c (sgN.getD k []) (wdK ns k) rest now nowE ch chE h6 (by have := (sgN_le k hk).1; omega) hh (look_of hw hk hh hns) (by have := (hns k hk).1; unfold wdK; omega) (by have := (hns k hk).2; unfold wdK; omega) (by have := h.cl; omega) hr,
    by have := h.len; rw [List.length_append]; omega, by have := h.cl; simp only [List.length_append, List.length_cons, List.length_nil]; omega, Nat.le_trans h.nb (Nat.mul_le_mul_right _ (Nat.le_succ i)), chg_ok hk h.cok⟩
theorem CS.time {ds : List Nat} {now' : Nat} (h : CS wd b i x now ch) (h0 : ds ≠ []) (h1 : NumText.AllDigits ds) (h2 : ds.length ≤ 90) (hv : NumText.digitsVal ds = now') (hn : now ≤ now') (hn2 : now' ≤ now + 10 ^ 30) (hyl : y.length ≤ 100) (hy : ∀ rest, words (y ++ rest) = [35 :: ds] ++ words rest) :
    CS wd (b + 100) (i + 1) (x ++ y) now' ch := by
  subst hv
  exact ⟨h.chg.step hy fun rest nowE chE hr => .time ds rest now nowE ch chE h0 h1 (by omega) hn hr, by have := h.len; rw [List.length_append]; omega, Nat.le_trans h.cl (Nat.le_succ i), by have := h.nb; rw [Nat.add_mul]; omega, h.cok⟩
theorem CS.com {p q r : List Nat} (h : CS wd b i x now ch) (hp : p ≠ END) (hq : q ≠ END) (hr' : r ≠ END) (hyl : y.length ≤ 100) (hy : ∀ rest, words (y ++ rest) = [wCOM, p, q, r, END] ++ words rest) : CS wd (b + 100) (i + 1) (x ++ y) now ch :=
  ⟨h.chg.step hy fun rest nowE chE hr => .comment [p, q, r] rest now nowE ch chE (by simp only [List.mem_cons, List.not_mem_nil, or_false, not_or]; exact ⟨fun e => hp e.symm, fun e => hq e.symm, fun e => hr' e.symm⟩) (by simp) hr,
    by have := h.len; rw [List.length_append]; omega, Nat.le_trans h.cl (Nat.le_succ i), Nat.le_trans h.nb (Nat.mul_le_mul_right _ (Nat.le_succ i)), h.cok⟩
theorem CS.word {c : List Nat} (h : CS wd b i x now ch) (h1 : c = wDV ∨ c = wDA ∨ c = wDN ∨ c = wDF ∨ c = END) (hyl : y.length ≤ 100) (hy : ∀ rest, words (y ++ rest) = [c] ++ words rest) : CS wd (b + 100) (i + 1) (x ++ y) now ch :=
  ⟨h.chg.step hy fun rest nowE chE hr => .word c rest now nowE ch chE h1 hr, by have := h.len; rw [List.length_append]; omega, Nat.le_trans h.cl (Nat.le_succ i), Nat.le_trans h.nb (Nat.mul_le_mul_right _ (Nat.le_succ i)), h.cok⟩
end
/-- the digits of a number -/
def decN (n : Nat) : List Nat := (Nat.toDigits 10 n).map Char.toNat
theorem decN_text (n : Nat) : Str.ofString (toString ((n : Nat) : Int)) = toS (decN n) := by
  have h := KIN.signs_num n
  rw [toS_eta (Str.ofString (toString ((n : Nat) : Int))), h]
  rfl
theorem decN_digits (n : Nat) : NumText.AllDigits (decN n) := by
  intro c hc
  obtain ⟨ch, hch, e⟩ := List.mem_map.mp hc
  have r := digit_range (Nat.isDigit_of_mem_toDigits (by decide) (by decide) hch)
  rw [← e]
  exact r
theorem decN_val (n : Nat) : NumText.digitsVal (decN n) = n := KIN.val_back n
theorem decN_len {n k : Nat} (hk : 1 ≤ k) (h : n < 10 ^ k) : (decN n).length ≤ k := by
  unfold decN
  rw [List.length_map]
  exact digits10_le hk h
theorem decN_ne (n : Nat) : decN n ≠ [] := by
  unfold decN
  intro e
  have h := toDigits_len_ge 10 n
  rw [List.map_eq_nil_iff.mp e] at h
  exact absurd h (by decide)
theorem noughts_val : ∀ (k : Nat) (ds : List Nat), NumText.digitsVal (List.replicate k 48 ++ ds) = NumText.digitsVal ds
  | 0, _ => rfl
  | k + 1, ds => by
    rw [List.replicate_succ, List.cons_append]
    exact (NumText.digitsVal_zero).trans (noughts_val k ds)
theorem noughts_digits (k : Nat) {ds : List Nat} (h : NumText.AllDigits ds) : NumText.AllDigits (List.replicate k 48 ++ ds) := fun c hc => by
  rcases List.mem_append.mp hc with hc | hc
  · rw [(List.mem_replicate.mp hc).2]; decide
  · exact h c hc
theorem digits_plain {ds : List Nat} (h : NumText.AllDigits ds) : ds.all (fun c => !isL c) = true := by
  rw [List.all_eq_true]
  intro c hc
  have := h c hc
  have e : isL c = false := by
    simp only [isL, Bool.or_eq_false_iff, beq_eq_false_iff_ne]
    omega
  rw [e]; rfl
/-- a list comprehension by turns: each gives what R says of its place -/
theorem comp_turns {prog : Program} {w : World} {A : Around} {h₀ : Heap} {L : Addr} {m : Str → Option Value} {env : Env} {elt : Expr} {x : Str} {scope : Scope} {cl : List (Str × Addr)} {s : Shared} {S : List (Addr × Obj) → Prop} {P : Nat → Value → Prop} {Fin : List Value → List (Addr × Obj) → Prop} {news : List (Addr × Obj)} {n : Nat}
    (R : Nat → Value → Prop)
    (turn : ∀ i v I oI C oC D m₂ ys h tk (E' : Value → Shared → Prop), i < n → P i v → LCg.NsObj oC m₂ → m₂ x = some v → Fr h₀ L h m → News h₀ L h ((I, oI) :: (C, oC) :: (D, LCg.lst ys) :: news) → LCg.Off3 I C D news → ((@Ne Nat I C) ∧ (@Ne Nat I D) ∧ (@Ne Nat C D)) →
      wpAny (model prog w) A (eval elt (compEnvC scope cl C env)) (LCg.CompEnd h₀ L m { s with heap := h, toks := tk } I oI C oC D (LCg.lst ys) S (fun y news' => news' = news ∧ R i y)) E' { s with heap := h, toks := tk })
    (fin : ∀ ys, ys.length = n → (∀ i y, ys[i]? = some y → R i y) → Fin ys news) : LCg.CompRest prog w A h₀ L m env elt x scope cl s S P Fin n 0 [] news := by
  have key : ∀ (j i : Nat) (ys : List Value), i + j = n → ys.length = i → (∀ i y, ys[i]? = some y → R i y) → LCg.CompRest prog w A h₀ L m env elt x scope cl s S P Fin j i ys news := by
    intro j
    induction j with
    | zero =>
      intro i ys hi hy hr
      exact LCg.CompRest.zero (fin ys (by omega) hr)
    | succ j ih =>
      intro i ys hi hy hr
      refine LCg.CompRest.succ ?_
      intro v I oI C oC D m₂ h tk E' hv hC hx F N off ne
      refine wpAny_mono (turn i v I oI C oC D m₂ ys h tk E' (by omega) hv hC hx F N off ne) (fun y s₂ hq => ?_) fun _ _ e => e
      obtain ⟨h', tk', nw, e, F', N', off', hS, hn, hR⟩ := hq
      rw [hn] at N' off' hS
      refine ⟨h', tk', news, e, F', N', off', hS, ?_⟩
      refine ih (i + 1) _ (by omega) (by simp [hy]) fun i' y' hy' => ?_
      rw [List.getElem?_append] at hy'
      split at hy'
      · exact hr i' y' hy'
      · rename_i hge
        have : i' - ys.length = 0 := by
          rcases Nat.eq_zero_or_pos (i' - ys.length) with h | h
          · exact h
          · rw [List.getElem?_eq_none (by simp only [List.length_cons, List.length_nil]; omega)] at hy'
            cases hy'
        rw [this] at hy'
        simp only [List.getElem?_cons_zero, Option.some.injEq] at hy'
        have e2 : i' = i := by omega
        rw [e2, ← hy']
        exact hR
  exact key n 0 [] (by omega) rfl (fun i y h => by simp at h)
theorem off25 : True := by (w_top off); exact True.intro
theorem fn_inj {K : Option Obj} {a a' : _} {b b' : _} {c c' : _} {n n' q q' : Str} {p p' : Arguments} {body body' : List Stmt} {sc sc' : Scope} {d d' k k' o o' m m' : Value} {an an' : Option Addr} {cd cd' ct ct' : Value}
    (h : K = some ⟨a, b, .func (fnOf n q p body sc d k o m an cd ct), c⟩) (h' : K = some ⟨a', b', .func (fnOf n' q' p' body' sc' d' k' o' m' an' cd' ct'), c'⟩) : body = body' ∧ sc = sc' := by
  rw [h] at h'
  have h2 := Option.some.inj h'
  injection h2 with _ _ h3 _
  injection h3 with h4
  injection h4 with _ _ _ h5 h6
  injection h5 with h7
  exact ⟨h7, h6⟩
def LawIs (w : World) (body : List Stmt) (scope : Scope) : Prop := ∃ (oc : Value) (od : Option Addr) (osl : Array (Option Value)) (n q : Str) (p : Arguments) (d k o m : Value) (an : Option Addr) (cd ct : Value),
  (top0.heap_1 w.params).lookup 216 = some ⟨oc, od, .func (fnOf n q p body scope d k o m an cd ct), osl⟩
theorem law_lit {P : List Stmt → Scope → Prop} {w : World} {body body0 : List Stmt} {scope scope0 : Scope} {oc : Value} {od : Option Addr} {osl : Array (Option Value)} {n q : Str} {p : Arguments} {d k o m : Value} {an : Option Addr} {cd ct : Value}
    (hl : LawIs w body scope) (ho : (top0.heap_1 w.params).lookup 216 = some ⟨oc, od, .func (fnOf n q p body0 scope0 d k o m an cd ct), osl⟩) (h : P body0 scope0) : P body scope := by
  obtain ⟨_, _, _, _, _, _, _, _, _, _, _, _, _, h1⟩ := hl
  obtain ⟨rfl, rfl⟩ := fn_inj ho h1
  exact h
abbrev lawEnv (scope : Scope) (L fa : Addr) (cd : Value) : Env := envOfC (Str.ofString "law") scope L fa cd
abbrev lawA (scope : Scope) (L fa : Addr) (cd : Value) : Around := callerA.deeper (lawEnv scope L fa cd)
structure NsOK (ns : List Int) : Prop where
  len : ns.length = 3
  bnd : ∀ j, j < 3 → 1 ≤ ns.getD j 0 ∧ ns.getD j 0 ≤ 6
/-- the places of law's objects -/
structure Pl where
  L : Addr
  pl : Addr
  sg : Addr
  wi : Addr
  op : Addr
  du : Addr
structure Pl.Ok (a : Pl) : Prop where
  h1 : @LT.lt Nat _ (a.L + 1) a.pl
  h2 : @LT.lt Nat _ a.pl a.sg
  h3 : @LT.lt Nat _ a.sg a.wi
  h4 : @LT.lt Nat _ a.wi a.op
  h5 : @LT.lt Nat _ a.op a.du
theorem news_sub {g h : Heap} {L : Addr} {n n' : List (Addr × Obj)} (N : News g L h n) (hs : ∀ p ∈ n', p ∈ n) : News g L h n' := fun p hp => N p (hs p hp)
inductive T1 (L pl sg wi op du : Addr) (ns : List Int) (due : Str) (a b i : Nat) (dvs : List Value) (ndv : Nat) (add R : List (Addr × Obj)) (ex : List (Str × Value)) (pre : List (Addr × Obj)) (m : Str → Option Value) (news : List (Addr × Obj)) : Prop
  | mk (po co : Obj) (svs : List Value) (nsv : Nat) (wvs : List Value) (nwv : Nat) (ovs : List Value) (nov : Nat) (txt : List Nat) (tt td : Tok) (σ : DS)
    (hpo : PoolL po) (hco : co.data = .cell (some (.ref sg))) (hsv : StrsAre svs (sgN.map toS)) (hwv : IntsAre wvs ns) (hov : StrsAre ovs σ.scopes) (hdv : DatAll add dvs σ.vars) (hls : LSx ns due a b i txt σ)
    (hm : Nm m ([(Str.ofString "pool", .ref pl), (Str.ofString "wides", .ref wi), (Str.ofString "text", .str (toS txt) tt), (Str.ofString "due_scale", .str due td), (Str.ofString "opened", .ref op), (Str.ofString "dues", .ref du)] ++ ex))
    (hn : news = pre ++ ((du, listOf dvs.toArray ndv) :: (op, listOf ovs.toArray nov) :: (wi, listOf wvs.toArray nwv) :: (sg, listOf svs.toArray nsv) :: (pl, po) :: (L + 1, co) :: R)) : T1 L pl sg wi op du ns due a b i dvs ndv add R ex pre m news
theorem T1.own {L pl sg wi op du : Addr} {ns : List Int} {due : Str} {a b i : Nat} {dvs : List Value} {ndv : Nat} {add own : List (Addr × Obj)} {ex : List (Str × Value)} {m : Str → Option Value} {nx : List (Addr × Obj)}
    (h : T1 L pl sg wi op du ns due a b i dvs ndv add add ex [] m nx) : T1 L pl sg wi op du ns due a b i dvs ndv add (add ++ own) ex [] m (nx ++ own) := by
  obtain ⟨po, co, svs, nsv, wvs, nwv, ovs, nov, txt, tt, td, σ, h1, h2, h3, h4, h5, h6, h7, h8, rfl⟩ := h
  exact ⟨po, co, svs, nsv, wvs, nwv, ovs, nov, txt, tt, td, σ, h1, h2, h3, h4, h5, h6, h7, h8, rfl⟩
theorem T1.off {L pl sg wi op du : Addr} {ns : List Int} {due : Str} {a b i : Nat} {dvs : List Value} {ndv : Nat} {add own : List (Addr × Obj)} {ex : List (Str × Value)} {m : Str → Option Value} {nx : List (Addr × Obj)}
    (h : T1 L pl sg wi op du ns due a b i dvs ndv add add ex [] m nx) (ha : OwnOff add [du, op, wi, sg, pl, L + 1]) (ho : OwnOff own (nx.map (·.1))) : OwnOff (add ++ own) [du, op, wi, sg, pl, L + 1] := by
  obtain ⟨po, co, svs, nsv, wvs, nwv, ovs, nov, txt, tt, td, σ, h1, h2, h3, h4, h5, h6, h7, h8, rfl⟩ := h
  intro p hp q hq
  rcases List.mem_append.mp hp with hp | hp
  · exact ha p hp q hq
  · exact ho p hp q (by
      have e : (([] : List (Addr × Obj)) ++ ((du, listOf dvs.toArray ndv) :: (op, listOf ovs.toArray nov) :: (wi, listOf wvs.toArray nwv) :: (sg, listOf svs.toArray nsv) :: (pl, po) :: (L + 1, co) :: add)).map Prod.fst = [du, op, wi, sg, pl, L + 1] ++ add.map Prod.fst := rfl
      show q ∈ List.map Prod.fst _
      rw [e]
      exact List.mem_append_left _ hq)
theorem scope_name : ∀ i : Nat, i < 4 → Str.ofString "s" ++ Str.ofString (toString ((i : Nat) : Int)) = toS [115, 48 + i] := by decide +kernel
theorem var_name : ∀ i : Nat, i < 4 → Str.ofString "v" ++ Str.ofString (toString ((i : Nat) : Int)) = toS [118, 48 + i] := by decide +kernel
theorem wide_name {ns : List Int} (h : NsOK ns) {k : Nat} (hk : k < 3) : Str.ofString (toString (ns.getD k 0)) = toS [48 + wdK ns k] := by
  obtain ⟨h1, h6⟩ := h.bnd k hk
  have e : ns.getD k 0 = ((wdK ns k : Nat) : Int) := (Int.toNat_of_nonneg (by omega)).symm
  rw [e]
  have hw : wdK ns k < 7 := by omega
  have : ∀ i : Nat, i < 7 → Str.ofString (toString ((i : Nat) : Int)) = toS [48 + i] := by decide +kernel
  exact this _ hw
local macro_rules | `(tactic| walk_at "call type:range") => `(tactic| ((rename Fr _ _ _ _ => F'); (rename News _ _ _ _ => N'); (with_unfolding_all refine range1_rows F' N' ?_); intro _ _ _ _ _ _ _ _ _))
theorem lt_new {l a : Addr} {o : Obj} {news : List (Addr × Obj)} (h : ∀ p ∈ news, @LT.lt Nat _ p.1 l) (m : (a, o) ∈ news) : @LT.lt Nat _ a l := h _ m
local macro_rules | `(tactic| walk_at "mine laid") => `(tactic| (refine' laid_at ?X ?T ?F ?N ?U ?hp ?hw ?hne ?hL ?hn ?hxl ?_ ?hh ?hd ?hu; (case X => assumption); (case T => assumption); (case F => assumption); (case N => assumption); (case U => k_updF); (case hp => assumption); (case hw => k_mem); (case hne => first | with_reducible assumption | exact lt_new (by with_reducible assumption) (by k_mem) | omega); (case hh => with_unfolding_all exact rfl); (case hd => with_unfolding_all exact Nat.le_of_ble_eq_true rfl); (case hu => with_unfolding_all exact Nat.le_of_ble_eq_true rfl)))
local macro_rules | `(tactic| walk_at "mine sub") => `(tactic| ((try dsimp only [List.nil_append, List.cons_append]); (repeat (refine List.forall_mem_cons.mpr ⟨by (repeat (first | exact .head _ | apply List.mem_cons_of_mem)), ?_⟩)); exact fun p hp => by repeat (first | exact hp | apply List.mem_cons_of_mem)))
theorem strs_dat {n : List (Addr × Obj)} : ∀ {vs : List Value} {ss : List Str}, StrsAre vs ss → DatAll n vs (ss.map Dat.str)
  | _, _, .nil => .nil
  | _, _, .cons y t r => .cons (.str y t) (strs_dat r)
theorem strs_ok {ss : List Str} (h : ∀ x ∈ ss, PyData.strOk x = true) : ∀ d ∈ ss.map Dat.str, kqdOk 8 d = true := fun d hd => by
  obtain ⟨x, hx, rfl⟩ := List.mem_map.mp hd
  exact h x hx
section
variable {prog : Program} {w : World} {A : Around} {E : Value → Shared → Prop} {s : Shared} {g : Heap} {L a b : Addr} {news : List (Addr × Obj)} {ovs : List Value} {scs : List Str} {ka kb : Nat} {Q : Value → Shared → Prop}
theorem opened_some (N : News g L s.heap news) (ma : (a, listOf ovs.toArray ka) ∈ news) (mb : (b, listOf ([] : List Value).toArray kb) ∈ news) (hS : StrsAre ovs scs) (hok : ∀ x ∈ scs, PyData.strOk x = true) (hu : A.units + 64 < cLine) (hne : scs ≠ []) (h : Q (.bool true) s) :
    wpAny (model prog w) A (compareOp .NotEq (.ref a) (.ref b)) Q E s := by
  refine kqd_ne (n₁ := []) (n₂ := []) (es := []) N ma rfl rfl (strs_dat hS) (fun p hp => nomatch hp) mb rfl rfl .nil (fun p hp => nomatch hp) (strs_ok hok) (fun d hd => nomatch hd) hu ?_
  rw [decide_eq_false (by simpa using hne)]
  exact h
theorem opened_none (N : News g L s.heap news) (ma : (a, listOf ovs.toArray ka) ∈ news) (mb : (b, listOf ([] : List Value).toArray kb) ∈ news) (hS : StrsAre ovs scs) (hok : ∀ x ∈ scs, PyData.strOk x = true) (hu : A.units + 64 < cLine) (hne : scs = []) (h : Q (.bool false) s) :
    wpAny (model prog w) A (compareOp .NotEq (.ref a) (.ref b)) Q E s := by
  refine kqd_ne (n₁ := []) (n₂ := []) (es := []) N ma rfl rfl (strs_dat hS) (fun p hp => nomatch hp) mb rfl rfl .nil (fun p hp => nomatch hp) (strs_ok hok) (fun d hd => nomatch hd) hu ?_
  rw [decide_eq_true (by simpa using hne)]
  exact h
end
theorem strs_snoc : ∀ {a : List Value} {x : List Str} {y : Str} {t : Tok}, StrsAre a x → StrsAre (a ++ [.str y t]) (x ++ [y])
  | _, _, y, t, .nil => .cons y t .nil
  | _, _, _, _, .cons z u r => .cons z u (strs_snoc r)
theorem strs_last : ∀ {a : List Value} {x : List Str} {y : Str}, StrsAre a (x ++ [y]) → ∃ a0 t, a = a0 ++ [Value.str y t] ∧ StrsAre a0 x
  | _, [], _, .cons y t .nil => ⟨[], t, rfl, .nil⟩
  | _, _ :: _, _, .cons z u r => by
    obtain ⟨a0, t, rfl, h⟩ := strs_last r
    exact ⟨_ :: a0, t, rfl, .cons z u h⟩
theorem empty_app (x : Str) : Str.empty ++ x = x := by
  cases x with
  | mk c =>
    show Str.mk (#[] ++ c) = _
    simp
local macro_rules | `(tactic| walk_at "compareOp NotEq ref ref") => `(tactic| refine Stop.go ?_)
theorem filter_ne {xs : List (List Nat)} (h : ∀ x ∈ xs, x ≠ []) : xs.filter (fun x => decide (x ≠ [])) = xs := List.filter_eq_self.mpr fun x hx => decide_eq_true (h x hx)
theorem words_of {x : List Nat} {xs : List (List Nat)} (hw : ∀ rest, words (x ++ rest) = xs.filter (fun x => decide (x ≠ [])) ++ words rest) (h : ∀ x ∈ xs, x ≠ []) : ∀ rest, words (x ++ rest) = xs ++ words rest := fun rest => by rw [hw, filter_ne h]
theorem plain_num {i a : Nat} (hi : i < 7) (ha : a = 115 ∨ a = 118) : [a, 48 + i].all (fun c => !isL c) = true := by
  have : ∀ i, i < 7 → [115, 48 + i].all (fun c => !isL c) = true ∧ [118, 48 + i].all (fun c => !isL c) = true := by decide
  rcases ha with rfl | rfl
  · exact (this i hi).1
  · exact (this i hi).2
section
variable {prog : Program} {w : World} {A : Around} {E : Value → Shared → Prop} {s : Shared} {value slice : PySem.Expr} {l : Addr} {vs : List Value} {xs : List (List Nat)} {ns : List Int} {k : Nat} {u : Tok} {Q : Value → Shared → Prop}
theorem pick_signN (hl : s.heap.IsList l vs.toArray) (hw : StrsAre vs (xs.map toS)) (hk : k < xs.length) (hx : xs.length ≤ 1000) (h : ∀ t', Q (.str (toS (xs.getD k [])) t') s)
    (hs : subscripted slice false (.ref l) (.int (k : Int) u) = operate [.ref l, .int (k : Int) u] (getItem (.ref l) (.int (k : Int) u)) := by with_unfolding_all rfl) :
    wpAny (model prog w) A (subscriptTail value slice (.ref l) (.int (k : Int) u)) Q E s :=
  pick_sign hl hw (by omega) (by omega) (by omega) (by rw [Int.toNat_natCast]; exact h) hs
theorem pick_intN (hl : s.heap.IsList l vs.toArray) (hw : IntsAre vs ns) (hk : k < ns.length) (hx : ns.length ≤ 1000) (h : ∀ t', Q (.int (ns.getD k 0) t') s)
    (hs : subscripted slice false (.ref l) (.int (k : Int) u) = operate [.ref l, .int (k : Int) u] (getItem (.ref l) (.int (k : Int) u)) := by with_unfolding_all rfl) :
    wpAny (model prog w) A (subscriptTail value slice (.ref l) (.int (k : Int) u)) Q E s :=
  pick_int hl hw (by omega) (by omega) (by omega) (by rw [Int.toNat_natCast]; exact h) hs
end
structure MoreOK (more : List (List Nat)) : Prop where
  len : more.length ≤ 3
  fin : END ∉ more
  ne : ∀ x ∈ more, x ≠ []
theorem ext_name {ns : List Int} (h : NsOK ns) {k : Nat} (hk : k < 3) : ∃ c, c.length = 5 ∧ c.all (fun c => !isL c) = true ∧ Str.ofString "[" ++ Str.ofString (toString (ns.getD k 0 - 1)) ++ Str.ofString ":0]" = toS c := by
  obtain ⟨h1, h6⟩ := h.bnd k hk
  have e : ns.getD k 0 - 1 = (((ns.getD k 0 - 1).toNat : Nat) : Int) := (Int.toNat_of_nonneg (by omega)).symm
  rw [e]
  have hw : (ns.getD k 0 - 1).toNat < 6 := by omega
  have : ∀ i : Nat, i < 6 → [91, 48 + i, 58, 48, 93].all (fun c => !isL c) = true ∧ Str.ofString "[" ++ Str.ofString (toString ((i : Nat) : Int)) ++ Str.ofString ":0]" = toS [91, 48 + i, 58, 48, 93] := by decide +kernel
  exact ⟨_, rfl, (this _ hw).1, (this _ hw).2⟩
theorem wide_plain {ns : List Int} (h : NsOK ns) {k : Nat} (hk : k < 3) : [48 + wdK ns k].all (fun c => !isL c) = true := by
  obtain ⟨h1, h6⟩ := h.bnd k hk
  have hw : wdK ns k < 7 := by unfold wdK; omega
  have : ∀ i : Nat, i < 7 → [48 + i].all (fun c => !isL c) = true := by decide
  exact this _ hw
local macro_rules | `(tactic| walk_at "subscriptTail Name Name ref int") => `(tactic| ((with_reducible show wpAny _ _ (subscriptTail (Expr.Name _ _) (Expr.Name _ _) (Value.ref _) (Value.int (Nat.cast _) _)) _ _ _); first | (refine' pick_intN ?l ?w ?h0 ?h1 ?_; (case l => with_unfolding_all is_list); (case w => assumption); (case h0 => first | assumption | omega); (case h1 => first | decide | omega); intro t9) | (refine' pick_signN ?l ?w ?h0 ?h1 ?_; (case l => with_unfolding_all is_list); (case w => assumption); (case h0 => first | assumption | omega); (case h1 => first | decide | omega); intro t9)))
local macro_rules | `(tactic| walk_at "call builtin:str.join") => `(tactic| ((try dsimp only [List.nil_append, List.cons_append]); (with_reducible show wpAny _ _ (call (Value.builtin "str.join") [Value.str (Str.ofString _) _, Value.ref _]) _ _ _); refine Stop.go ?_))
theorem allLt_mem {d : Nat} {l : List (Addr × Obj)} (h : AllLt d l) (p : Addr × Obj) (hp : p ∈ l) : @LT.lt Nat _ p.1 d := by
  induction l with
  | nil => cases hp
  | cons q r ih =>
    unfold AllLt at h
    rcases List.mem_cons.mp hp with e | hp
    · rw [e]; exact h.1
    · exact ih h.2 hp
theorem DatAll.snoc {n : List (Addr × Obj)} {vs : List Value} {ds : List Dat} {p : Addr × Obj} {v : Value} {d : Dat} (h : DatAll n vs ds) (k : DatIn (p :: n) v d) : DatAll (p :: n) (vs ++ [v]) (ds ++ [d]) :=
  (h.mono fun q hq => List.mem_cons_of_mem _ hq).append (.one k)
theorem T1.offA {L pl sg wi op du : Addr} {ns : List Int} {due : Str} {a b i : Nat} {dvs : List Value} {ndv : Nat} {add own : List (Addr × Obj)} {ex : List (Str × Value)} {m : Str → Option Value} {nx : List (Addr × Obj)}
    (h : T1 L pl sg wi op du ns due a b i dvs ndv add add ex [] m nx) (ho : OwnOff own (nx.map (·.1))) : OwnOff own ([du, op, wi, sg, pl, L + 1] ++ add.map Prod.fst) := by
  obtain ⟨po, co, svs, nsv, wvs, nwv, ovs, nov, txt, tt, td, σ, h1, h2, h3, h4, h5, h6, h7, h8, rfl⟩ := h
  exact ho
theorem off26 : True := by (w_top off); exact True.intro
theorem law_for1 {w : World} {mean : ExcName → Option Value} {mg mb : Str → Option Value} {g : Heap} {L fa pl sg wi op du : Addr} {cd : Value} {s : Shared} {body : List Stmt} {scope : Scope} {stm : Stmt} {ns : List Int} {due : Str} {m : Str → Option Value} {news : List (Addr × Obj)}
   (hl : LawIs w body scope) (hst : body[8]? = some stm) (X : (top0.heap_1 w.params).In g) (T : Top Mine.viewK (looseW Mine.viewK [Str.ofString "GateloomError"]) mean mg mb g)
   (F : Fr g L s.heap m) (N : News g L s.heap news) (oa : @LT.lt Nat _ (L + 1) pl) (ob : @LT.lt Nat _ pl sg) (oc : @LT.lt Nat _ sg wi) (od : @LT.lt Nat _ wi op) (oe : @LT.lt Nat _ op du) (hns : NsOK ns)
   (H : T1 L pl sg wi op du ns due 0 200 0 [] 0 [] [] [] [] m news) :
   wpAny (model Challenge.rw_sj0032_01.row.prog w) (lawA scope L fa cd) (exec stm (lawEnv scope L fa cd))
     (NextEnd g L s fun m nx => ∃ i dvs ndv add, 1 ≤ i ∧ i ≤ 4 ∧ OwnOff add [du, op, wi, sg, pl, L + 1] ∧ T1 L pl sg wi op du ns due i (200 + i * 400) i dvs ndv add add [] [] m nx) (fun _ _ => False) s := by
  refine fill (top0.heap_1 w.params) ?_
  k_fill
  intro _
  refine' law_lit (P := fun body scope => body[8]? = some stm → wpAny (model Challenge.rw_sj0032_01.row.prog w) (lawA scope L fa cd) (exec stm (lawEnv scope L fa cd)) _ _ s) hl ?ho ?_ hst
  case ho => k_is
  clear hl hst
  intro hst
  k_fold
  have hst := Option.some.inj hst
  subst hst
  have hsrt : Srt [L + 1, pl, sg, wi, op, du] := .add oa (.add ob (.add oc (.add od (.add oe .one))))
  dsimp only [lawA, lawEnv]
  obtain ⟨po, co, svs, nsv, wvs, nwv, ovs, nov, txt, tt, td, σ, hpo, hco, hsv, hwv, hov, hdv, hls, hm, rfl⟩ := H
  have F1 := fr_names F hm
  dsimp only [List.cons_append, List.nil_append] at F1 N
  walk_at "mine go"
  unfold Stop
  rename_i h9 tk9 po9 k9 t9 F2 N2 hp9 k0 k1 h3' tk3 ta tb tc R3 F3 N3 up3
  obtain ⟨n, hn⟩ : ∃ n : Nat, 2 + k9 = (n : Int) := ⟨(2 + k9).toNat, by omega⟩
  rw [hn] at R3
  have hn4 : n ≤ 4 := by omega
  refine iter_range_cut (n := n) (fun i m nx => ∃ dvs ndv add, OwnOff add [du, op, wi, sg, pl, L + 1] ∧ T1 L pl sg wi op du ns due i (200 + i * 400) i dvs ndv add add [] [] m nx) rfl R3 (small_one (by omega) (by omega) (by omega) (by omega)) (range_one _) F3 N3
    ⟨[], 0, [], (fun p hp => nomatch hp), ⟨po9, co, svs, nsv, wvs, nwv, ovs, nov, txt, tt, td, σ, hp9, hco, hsv, hwv, hov, hdv, hls, ⟨rfl, rfl, rfl, rfl, rfl, rfl, trivial⟩, rfl⟩⟩ ?_ ?_
  · intro i t m₁ nx h4' tk4 own hi hoff hJ F4 N4 RL hLp
    obtain ⟨dvs, ndv, add, hadd, hT⟩ := hJ
    have hoR := hT.off hadd hoff
    have hoA := hT.offA hoff
    replace hT := hT.own (own := own)
    generalize hR : add ++ own = R at hT hoR
    have hT2 : T1 L pl sg wi op du ns due i (200 + i * 400) i dvs ndv add R [(Str.ofString "turn", .int (i : Int) t)] [] (fun y => if y = Str.ofString "turn" then some (.int (0 + (i : Int) * 1) t) else m₁ y) (nx ++ own) := by
      obtain ⟨po, co, svs, nsv, wvs, nwv, ovs, nov, txt, tt, td, σ, q1, q2, q3, q4, q5, q6, q7, q8, q9⟩ := hT
      refine ⟨po, co, svs, nsv, wvs, nwv, ovs, nov, txt, tt, td, σ, q1, q2, q3, q4, q5, q6, q7, ⟨q8.1, q8.2.1, q8.2.2.1, q8.2.2.2.1, q8.2.2.2.2.1, q8.2.2.2.2.2.1, ?_, trivial⟩, q9⟩
      show some (Value.int (0 + (i : Int) * 1) t) = some (Value.int (i : Int) t)
      rw [Int.mul_one, Int.zero_add]
    clear hT
    have hsub : ∀ p ∈ own, p ∈ R := fun p hp => hR ▸ List.mem_append_right _ hp
    have hsubA : ∀ p ∈ add, p ∈ R := fun p hp => hR ▸ List.mem_append_left _ hp
    have hi4 : i < 4 := by omega
    clear hp9 hpo hco hsv hwv hov hdv hls hm R3 up3
    refine seq_cut (g := g) (L := L) (fun m nx => ∃ kk tw, 0 ≤ kk ∧ kk < 4 ∧ T1 L pl sg wi op du ns due i (200 + i * 400) i dvs ndv add R [(Str.ofString "turn", .int (i : Int) t), (Str.ofString "way", .int kk tw)] [] m nx) ?_ ?_
    · intro RN hN
      obtain ⟨po, co, svs, nsv, wvs, nwv, ovs, nov, txt, tt, td, σ, hpo, hco, hsv, hwv, hov, hdv, hls, hm, hq⟩ := hT2
      rw [hq] at N4
      have F4 := fr_names F4 hm
      dsimp only [List.cons_append, List.nil_append] at F4 N4
      walk_at "mine go"
      rename_i h9 tk9 po9 k9 t9 F9 N9 hp9 k0 k1 h7 F7 N7
      exact hN _ _ <| nextEnd F7 N7 ⟨k9, t9, k0, k1, ⟨po9, co, svs, nsv, wvs, nwv, ovs, nov, txt, tt, td, σ, hp9, hco, hsv, hwv, hov, hdv, hls, ⟨rfl, rfl, rfl, rfl, rfl, rfl, rfl, rfl, trivial⟩, rfl⟩⟩
    · intro h5 tk5 m5 nx5 F5 N5 hM
      clear hT2 F4 N4
      obtain ⟨kk, tw, hk0, hk4, hT⟩ := hM
      refine seq_cut (g := g) (L := L) (T1 L pl sg wi op du ns due (i + 1) (300 + i * 400) i dvs ndv add R [(Str.ofString "turn", .int (i : Int) t)] []) ?_ ?_
      · intro RN hN
        obtain ⟨po, co, svs, nsv, wvs, nwv, ovs, nov, txt, tt, td, σ, hpo, hco, hsv, hwv, hov, hdv, hls, hm, rfl⟩ := hT
        have F5 := fr_names F5 hm
        dsimp only [List.cons_append, List.nil_append] at F5 N5
        have htl := hls.len
        have hend : END.all (fun c => !isL c) = true := by decide
        walk_at "mine go"
        · rename_i a0 l7 h7 l71 lL7 h8 tk8 po8 k8 t8 hp8 k80 k81 t9 y9 hy9 l9 h9 F9 N9 l91 lL9
          unfold Stop
          have hq : ∀ y ∈ [Str.ofString "module", Str.ofString "begin"].map (fun x => x.cps.toList), y.length ≤ 6 ∧ y ≠ END ∧ y ≠ [] ∧ y.all (fun c => !isL c) = true := by decide +kernel
          obtain ⟨y1, y2, y3, y4⟩ := hq _ hy9
          have hne : ([115, 48 + i] : List Nat) ≠ END := fun e => absurd (congrArg List.length e) (by show ¬ (2 = 4); decide)
          have hsn : Str.empty ++ Str.ofString "s" ++ Str.ofString (toString ((i : Nat) : Int)) = toS [115, 48 + i] := by rw [empty_app]; exact scope_name i hi4
          have hsn2 : PyData.strOk (toS [115, 48 + i]) = true := by rw [strOk_toS]; simp; omega
          walk_at "mine laid"
          case hL => exact .cons 6 _ toS_sc.symm (by decide) (by decide) (.cons 6 _ rfl y4 y1 (.cons 2 _ hsn (plain_num (by omega) (.inl rfl)) (Nat.le_refl 2) (.cons 4 _ toS_end (by decide) (by decide) .nil)))
          case hn => decide
          case hxl => exact Nat.le_of_ble_eq_true rfl
          intro h10 tk10 po10 x10 t10 F10 N10 hp10 hx10 hw10
          (try dsimp only at N10)
          have hxl10 : x10.length ≤ 100 := Nat.le_trans hx10 (Nat.le_of_ble_eq_true rfl)
          have hws := words_of hw10 (by
            simp only [List.forall_mem_cons]
            exact ⟨by decide, y3, by simp, by decide, fun x hx => nomatch hx⟩)
          rw [hsn] at N10
          have hovl : ovs.length ≤ 10 := by rw [hov.length]; have := hls.scl; omega
          walk_at "mine go"
          rename_i t11 k11 h11 tk11 h12 F12 N12
          have ho12 : ∀ t12, StrsAre (ovs ++ [Value.str (Str.empty ++ Str.ofString "s" ++ Str.ofString (toString ((i : Nat) : Int))) t12]) (σ.scopes ++ [toS [115, 48 + i]]) := fun t12 => by rw [hsn]; exact strs_snoc hov
          refine' hN _ _ <| nextEnd F12 (news_sub N12 ?hs) ⟨po10, co, svs, nsv, wvs, nwv, _, _, txt ++ x10, _, td, { σ with scopes := σ.scopes ++ [toS [115, 48 + i]] }, hp10, hco, hsv, hwv, ho12 _, hdv, (hls.scope y2 hne (Nat.le_refl 2) hsn2 (by omega) hxl10 hws).mono (Nat.le_refl _) (by omega), ⟨rfl, rfl, rfl, rfl, rfl, rfl, rfl, trivial⟩, rfl⟩
          case hs => walk_at "mine sub"
        · rename_i a0 a1 l7 h7 F7 N7 l71 lL7
          unfold Stop
          by_cases hsc : σ.scopes = []
          · refine opened_none N7 (by k_mem) (by k_mem) hov hls.sok (by ke_room) hsc ?_
            subst a1
            walk_at "mine go"
            exact hN _ _ <| nextEnd F7 (news_sub N7 (by walk_at "mine sub")) ⟨po, co, svs, nsv, wvs, nwv, ovs, nov, txt, tt, td, σ, hpo, hco, hsv, hwv, hov, hdv, hls.mono (Nat.le_succ i) (by omega), ⟨rfl, rfl, rfl, rfl, rfl, rfl, rfl, trivial⟩, rfl⟩
          · obtain ⟨sc, z, hsz⟩ : ∃ sc z, σ.scopes = sc ++ [z] := ⟨σ.scopes.dropLast, σ.scopes.getLast hsc, (List.dropLast_concat_getLast hsc).symm⟩
            refine opened_some N7 (by k_mem) (by k_mem) hov hls.sok (by ke_room) hsc ?_
            rw [hsz] at hov
            obtain ⟨ov0, tz, rfl, hov0⟩ := strs_last hov
            have hovl : ov0.length ≤ 10 := by rw [hov0.length]; have := hls.scl; rw [hsz, List.length_append] at this; omega
            walk_at "mine go"
            unfold Stop
            walk_at "mine laid"
            case hL => exact .cons 8 _ toS_up.symm (by decide) (by decide) (.cons 4 _ toS_end (by decide) (by decide) .nil)
            case hn => decide
            case hxl => exact Nat.le_of_ble_eq_true rfl
            intro h10 tk10 po10 x10 t10 F10 N10 hp10 hx10 hw10
            (try dsimp only at N10)
            have hxl10 : x10.length ≤ 100 := Nat.le_trans hx10 (Nat.le_of_ble_eq_true rfl)
            have hws := words_of hw10 (by
              simp only [List.forall_mem_cons]
              exact ⟨by decide, by decide, fun x hx => nomatch hx⟩)
            walk_at "mine go"
            rename_i l8 h8 l81 lL8 t11 k11 h11 tk11 h12 F12 N12
            refine' hN _ _ <| nextEnd F12 (news_sub N12 ?hs) ⟨po10, co, svs, nsv, wvs, nwv, ov0, _, txt ++ x10, _, td, { σ with scopes := sc }, hp10, hco, hsv, hwv, hov0, hdv, (hls.up hsz hxl10 hws).mono (Nat.le_succ i) (by omega), ⟨rfl, rfl, rfl, rfl, rfl, rfl, rfl, trivial⟩, rfl⟩
            case hs => walk_at "mine sub"
        · rename_i a0 a1 a2 l7 h7 l71 lL7 h8 tk8 po8 k8 t8 hp8 k80 k81 t9 y9 hy9 l9 h9 F9 N9 l91 lL9
          unfold Stop
          have hq : ∀ y ∈ [Str.ofString "$date", Str.ofString "$version", Str.ofString "$comment"].map (fun x => x.cps.toList), (y = wDATE ∨ y = wVER ∨ y = wCOM) ∧ y.length ≤ 8 ∧ y ≠ [] ∧ y.all (fun c => !isL c) = true := by decide +kernel
          obtain ⟨y1, y2, y3, y4⟩ := hq _ hy9
          walk_at "mine laid"
          case hL => exact .cons 8 _ rfl y4 y2 (.cons (a := [35, 55]) 2 _ (by decide +kernel) (by decide) (by decide) (.cons 4 _ toS_var.symm (by decide) (by decide) (.cons 4 _ toS_end (by decide) (by decide) .nil)))
          case hn => decide
          case hxl => exact Nat.le_of_ble_eq_true rfl
          intro h10 tk10 po10 x10 t10 F10 N10 hp10 hx10 hw10
          (try dsimp only at N10)
          have hxl10 : x10.length ≤ 100 := Nat.le_trans hx10 (Nat.le_of_ble_eq_true rfl)
          have hws := words_of hw10 (by
            simp only [List.forall_mem_cons]
            exact ⟨y3, by decide, by decide, by decide, fun x hx => nomatch hx⟩)
          walk_at "mine go"
          rename_i t11 k11 h12 F12 N12
          exact hN _ _ <| nextEnd F12 (news_sub N12 (by walk_at "mine sub")) ⟨po10, co, svs, nsv, wvs, nwv, ovs, nov, txt ++ x10, _, td, σ, hp10, hco, hsv, hwv, hov, hdv, (hls.skip y1 (by decide) (by decide) hxl10 hws).mono (Nat.le_succ i) (by omega), ⟨rfl, rfl, rfl, rfl, rfl, rfl, rfl, trivial⟩, rfl⟩
        · exact hN _ _ <| nextEnd F5 N5 ⟨po, co, svs, nsv, wvs, nwv, ovs, nov, txt, tt, td, σ, hpo, hco, hsv, hwv, hov, hdv, hls.mono (Nat.le_succ i) (by omega), ⟨rfl, rfl, rfl, rfl, rfl, rfl, rfl, trivial⟩, rfl⟩
      · intro h6 tk6 m6 nx6 F6 N6 hT
        clear F5 N5
        have hnl : ns.length = 3 := hns.len
        have hsl : sgN.length = 3 := rfl
        refine seq_cut (g := g) (L := L) (fun m nx => ∃ (kk : Nat) (tw : Tok), kk < 3 ∧ (i = 0 → kk = 0) ∧ T1 L pl sg wi op du ns due (i + 1) (300 + i * 400) i dvs ndv add R [(Str.ofString "turn", .int (i : Int) t), (Str.ofString "which", .int (kk : Int) tw)] [] m nx) ?_ ?_
        · intro RN hN
          obtain ⟨po, co, svs, nsv, wvs, nwv, ovs, nov, txt, tt, td, σ, hpo, hco, hsv, hwv, hov, hdv, hls, hm, rfl⟩ := hT
          have F6 := fr_names F6 hm
          dsimp only [List.cons_append, List.nil_append] at F6 N6
          walk_at "mine go"
          · rename_i a0 h9 F9 N9
            exact hN _ _ <| nextEnd F9 N9 ⟨0, _, by omega, fun _ => rfl, ⟨po, co, svs, nsv, wvs, nwv, ovs, nov, txt, tt, td, σ, hpo, hco, hsv, hwv, hov, hdv, hls, ⟨rfl, rfl, rfl, rfl, rfl, rfl, rfl, rfl, trivial⟩, rfl⟩⟩
          · rename_i a0 h8 tk8 po8 k8 t8 hp8 k80 k81 h9 F9 N9
            obtain ⟨q, rfl⟩ := Int.eq_ofNat_of_zero_le k80
            exact hN _ _ <| nextEnd F9 N9 ⟨q, t8, by omega, fun e => absurd (by rw [e]; rfl) a0, ⟨po8, co, svs, nsv, wvs, nwv, ovs, nov, txt, tt, td, σ, hp8, hco, hsv, hwv, hov, hdv, hls, ⟨rfl, rfl, rfl, rfl, rfl, rfl, rfl, rfl, trivial⟩, rfl⟩⟩
        · intro h7 tk7 m7 nx7 F7 N7 hM
          clear F6 N6 hT
          obtain ⟨kk, tw, hk3, hk0', hT⟩ := hM
          refine seq_cut (g := g) (L := L) (fun m nx => ∃ (y : List Nat) (ty : Tok), (y.length ≤ 7 ∧ y ≠ END ∧ y ≠ [] ∧ y.all (fun c => !isL c) = true ∧ PyData.strOk (toS y) = true) ∧ T1 L pl sg wi op du ns due (i + 1) (300 + i * 400) i dvs ndv add R [(Str.ofString "turn", .int (i : Int) t), (Str.ofString "which", .int (kk : Int) tw), (Str.ofString "kind", .str (toS y) ty)] [] m nx) ?_ ?_
          · intro RN hN
            obtain ⟨po, co, svs, nsv, wvs, nwv, ovs, nov, txt, tt, td, σ, hpo, hco, hsv, hwv, hov, hdv, hls, hm, rfl⟩ := hT
            have F7 := fr_names F7 hm
            dsimp only [List.cons_append, List.nil_append] at F7 N7
            walk_at "mine go"
            rename_i l9 h9' l91 lL9 h9 tk9 po9 k9 t9 hp9 k0 k1 t10 y9 hy9 h10 F10 N10
            have hq : ∀ y ∈ [Str.ofString "wire", Str.ofString "reg", Str.ofString "integer"].map (fun x => x.cps.toList), y.length ≤ 7 ∧ y ≠ END ∧ y ≠ [] ∧ y.all (fun c => !isL c) = true ∧ PyData.strOk (toS y) = true := by decide +kernel
            exact hN _ _ <| nextEnd F10 (news_sub N10 (by walk_at "mine sub")) ⟨y9, t10, hq _ hy9, ⟨po9, co, svs, nsv, wvs, nwv, ovs, nov, txt, tt, td, σ, hp9, hco, hsv, hwv, hov, hdv, hls, ⟨rfl, rfl, rfl, rfl, rfl, rfl, rfl, rfl, rfl, trivial⟩, rfl⟩⟩
          · intro h8 tk8 m8 nx8 F8 N8 hM
            clear F7 N7 hT
            obtain ⟨y, ty, ⟨y1, y2, y3, y4, y5⟩, hT⟩ := hM
            obtain ⟨hW1, hW6⟩ := hns.bnd kk hk3
            have hsg := sgN_le kk hk3
            refine seq_cut (g := g) (L := L) (fun m nx => ∃ (wl : Addr) (wv : List Value) (nn : Nat), @LT.lt Nat _ du wl ∧ AllLt wl R ∧ Laid wv [wVAR, y, [48 + wdK ns kk], sgN.getD kk [], [118, 48 + i]] (4 + (7 + (1 + (2 + (2 + 0))))) ∧
              T1 L pl sg wi op du ns due (i + 1) (300 + i * 400) i dvs ndv add R [(Str.ofString "turn", .int (i : Int) t), (Str.ofString "which", .int (kk : Int) tw), (Str.ofString "kind", .str (toS y) ty), (Str.ofString "words", .ref wl)] [(wl, listOf wv.toArray nn)] m nx) ?_ ?_
            · intro RN hN
              obtain ⟨po, co, svs, nsv, wvs, nwv, ovs, nov, txt, tt, td, σ, hpo, hco, hsv, hwv, hov, hdv, hls, hm, rfl⟩ := hT
              have F8 := fr_names F8 hm
              dsimp only [List.cons_append, List.nil_append] at F8 N8
              have hvn : Str.empty ++ Str.ofString "v" ++ Str.ofString (toString ((i : Nat) : Int)) = toS [118, 48 + i] := by rw [empty_app]; exact var_name i hi4
              walk_at "mine go"
              rename_i l9 h9' l91 lL9 h10 F10 N10
              exact hN _ _ <| nextEnd F10 N10 ⟨l9, _, _, (l91 _ (.head _)), (allLt_of fun p hp => l91 p (by repeat (first | exact hp | apply List.mem_cons_of_mem))), .cons 4 _ toS_var.symm (by decide) (by decide) (.cons 7 _ rfl y4 y1 (.cons 1 _ (wide_name hns hk3) (wide_plain hns hk3) (Nat.le_refl 1) (.cons 2 _ rfl hsg.2.2.2 hsg.1 (.cons 2 _ hvn (plain_num (by omega) (.inr rfl)) (Nat.le_refl 2) .nil)))),
                ⟨po, co, svs, nsv, wvs, nwv, ovs, nov, txt, tt, td, σ, hpo, hco, hsv, hwv, hov, hdv, hls, ⟨rfl, rfl, rfl, rfl, rfl, rfl, rfl, rfl, rfl, rfl, trivial⟩, rfl⟩⟩
            · intro h9 tk9 m9 nx9 F9 N9 hM
              clear F8 N8 hT
              obtain ⟨wl, wv, nn, hwl, hwR, hLd, hT⟩ := hM
              have hsrt : Srt [L + 1, pl, sg, wi, op, du, wl] := .add oa (.add ob (.add oc (.add od (.add oe (.add hwl .one)))))
              refine seq_cut (g := g) (L := L) (fun m nx => ∃ (ee : Int) (te : Tok), T1 L pl sg wi op du ns due (i + 1) (300 + i * 400) i dvs ndv add R [(Str.ofString "turn", .int (i : Int) t), (Str.ofString "which", .int (kk : Int) tw), (Str.ofString "kind", .str (toS y) ty), (Str.ofString "words", .ref wl), (Str.ofString "extent", .int ee te)] [(wl, listOf wv.toArray nn)] m nx) ?_ ?_
              · intro RN hN
                obtain ⟨po, co, svs, nsv, wvs, nwv, ovs, nov, txt, tt, td, σ, hpo, hco, hsv, hwv, hov, hdv, hls, hm, rfl⟩ := hT
                have F9 := fr_names F9 hm
                dsimp only [List.cons_append, List.nil_append] at F9 N9
                walk_at "mine go"
                rename_i h10 tk10 po10 k10 t10 hp10 k100 k101 h11 F11 N11
                exact hN _ _ <| nextEnd F11 N11 ⟨k10, t10, ⟨po10, co, svs, nsv, wvs, nwv, ovs, nov, txt, tt, td, σ, hp10, hco, hsv, hwv, hov, hdv, hls, ⟨rfl, rfl, rfl, rfl, rfl, rfl, rfl, rfl, rfl, rfl, rfl, trivial⟩, rfl⟩⟩
              · intro h10 tk10 m10 nx10 F10 N10 hM
                clear F9 N9 hT
                obtain ⟨ee, te, hT⟩ := hM
                refine seq_cut (g := g) (L := L) (fun m nx => ∃ (wl : Addr) (wv : List Value) (nn : Nat) (more : List (List Nat)) (n : Nat), @LT.lt Nat _ du wl ∧ AllLt wl R ∧ MoreOK more ∧ n ≤ 30 ∧ Laid wv ([wVAR, y, [48 + wdK ns kk], sgN.getD kk [], [118, 48 + i]] ++ more) n ∧
                  T1 L pl sg wi op du ns due (i + 1) (300 + i * 400) i dvs ndv add R [(Str.ofString "turn", .int (i : Int) t), (Str.ofString "which", .int (kk : Int) tw), (Str.ofString "kind", .str (toS y) ty), (Str.ofString "words", .ref wl)] [(wl, listOf wv.toArray nn)] m nx) ?_ ?_
                · intro RN hN
                  obtain ⟨po, co, svs, nsv, wvs, nwv, ovs, nov, txt, tt, td, σ, hpo, hco, hsv, hwv, hov, hdv, hls, hm, rfl⟩ := hT
                  have F10 := fr_names F10 hm
                  dsimp only [List.cons_append, List.nil_append] at F10 N10
                  have hwvl : wv.length = 5 := by rw [hLd.strs.length]; rfl
                  walk_at "mine go"
                  · rename_i t11 h12 F12 N12
                    obtain ⟨c, c5, cp, ce⟩ := ext_name hns hk3
                    exact hN _ _ <| nextEnd F12 N12 ⟨wl, _, _, [c], _, hwl, hwR, ⟨by simp, (fun hm => by rw [← List.mem_singleton.mp hm] at c5; cases c5), fun x hx => by rw [List.mem_singleton.mp hx]; intro e; rw [e] at c5; cases c5⟩, by decide, hLd.app (.cons 5 _ (by rw [empty_app]; exact ce) cp (by omega) .nil),
                      ⟨po, co, svs, nsv, wvs, nwv, ovs, nov, txt, tt, td, σ, hpo, hco, hsv, hwv, hov, hdv, hls, ⟨rfl, rfl, rfl, rfl, rfl, rfl, rfl, rfl, rfl, rfl, trivial⟩, rfl⟩⟩
                  · rename_i l7 h7 l71 lL7 l8 h8 l81 lL8 h12 F12 N12
                    exact hN _ _ <| nextEnd F12 (news_sub N12 (by walk_at "mine sub")) ⟨l8, _, _, [[91], [55], [93]], _, (l81 _ (.tail _ (.tail _ (.head _)))), (allLt_of fun p hp => l81 p (by repeat (first | exact hp | apply List.mem_cons_of_mem))), ⟨by simp, by decide, by decide⟩, by decide, hLd.app (.cons (a := [91]) 1 _ (by decide +kernel) (by decide) (by decide) (.cons (a := [55]) 1 _ (by decide +kernel) (by decide) (by decide) (.cons (a := [93]) 1 _ (by decide +kernel) (by decide) (by decide) .nil))),
                      ⟨po, co, svs, nsv, wvs, nwv, ovs, nov, txt, tt, td, σ, hpo, hco, hsv, hwv, hov, hdv, hls, ⟨rfl, rfl, rfl, rfl, rfl, rfl, rfl, rfl, rfl, rfl, trivial⟩, rfl⟩⟩
                  · exact hN _ _ <| nextEnd F10 N10 ⟨wl, wv, nn, [], _, hwl, hwR, ⟨by simp, by simp, by simp⟩, by decide, hLd,
                      ⟨po, co, svs, nsv, wvs, nwv, ovs, nov, txt, tt, td, σ, hpo, hco, hsv, hwv, hov, hdv, hls, ⟨rfl, rfl, rfl, rfl, rfl, rfl, rfl, rfl, rfl, rfl, trivial⟩, rfl⟩⟩
                · intro h11 tk11 m11 nx11 F11 N11 hM
                  clear F10 N10 hT
                  obtain ⟨wl, wv, nn, more, n', hwl, hwR, hmo, hn30, hLd, hT⟩ := hM
                  have hsrt : Srt [L + 1, pl, sg, wi, op, du, wl] := .add oa (.add ob (.add oc (.add od (.add oe (.add hwl .one)))))
                  obtain ⟨po, co, svs, nsv, wvs, nwv, ovs, nov, txt, tt, td, σ, hpo, hco, hsv, hwv, hov, hdv, hls, hm, rfl⟩ := hT
                  have F11 := fr_names F11 hm
                  dsimp only [List.cons_append, List.nil_append] at F11 N11
                  have hml := hmo.len
                  have hwvl : wv.length ≤ 8 := by rw [hLd.strs.length, List.length_map, List.length_append]; show 5 + more.length ≤ 8; omega
                  have htl := hls.len
                  have hovl : ovs.length ≤ 10 := by rw [hov.length]; have := hls.scl; omega
                  have hdvl : dvs.length ≤ 10 := by rw [hdv.length, hls.vl]; omega
                  have hvn : Str.empty ++ Str.ofString "v" ++ Str.ofString (toString ((i : Nat) : Int)) = toS [118, 48 + i] := by rw [empty_app]; exact var_name i hi4
                  walk_at "mine go"
                  unfold Stop
                  walk_at "mine laid"
                  case hL => exact hLd.app (.cons 4 _ toS_end (by decide) (by decide) .nil)
                  case hn => omega
                  case hxl => simp only [List.length_append, List.length_cons, List.length_nil]; omega
                  intro h12 tk12 po12 x12 t12 F12 N12 hp12 hx12 hw12
                  (try dsimp only at N12)
                  have hxl12 : x12.length ≤ 200 := by simp only [List.length_append, List.length_cons, List.length_nil] at hx12; omega
                  have hws := words_of hw12 (by
                    simp only [List.forall_mem_append, List.forall_mem_cons]
                    exact ⟨⟨⟨by decide, y3, by simp, hsg.2.2.1, by simp, fun x hx => nomatch hx⟩, hmo.ne⟩, by decide, fun x hx => nomatch hx⟩)
                  walk_at "mine go"
                  unfold Stop
                  refine' join_list (ys := σ.scopes ++ [toS [118, 48 + i]]) ?ja ?jb ?jc ?_
                  case ja => with_unfolding_all is_list
                  case jb => (show StrsAre (ovs ++ [_]) _); rw [hvn]; exact strs_snoc hov
                  case jc =>
                    have q1 := hls.scs
                    have q2 := hls.scl
                    have q3 : (Str.ofString ".").length = 1 := by decide +kernel
                    have q4 : ((σ.scopes ++ [toS [118, 48 + i]]).map (·.length)).sum = sumLen σ.scopes + 2 := by rw [← sumLen, sumLen_app]; rfl
                    rw [q3, q4, List.length_append, List.length_singleton]
                    omega
                  intro t13 k13
                  walk_at "mine go"
                  rename_i ta tb lt ht lt1 ltL hF FF NF
                  have hA : AllLt lt R := (allLt_of fun p hp => lt1 p (by repeat (first | exact hp | apply List.mem_cons_of_mem)))
                  have hlt := allLt_mem hA
                  have hve : ([118, 48 + i] : List Nat) ≠ END := fun e => absurd (congrArg List.length e) (by show ¬ (2 = 4); decide)
                  have hvs2 : PyData.strOk (toS [118, 48 + i]) = true := by rw [strOk_toS]; simp; omega
                  have hLS := (hls.var (v := [118, 48 + i]) (more := more) (kind := y) hk3 hns.bnd (by omega) (by omega) hk0' (Nat.le_refl 2) y5 hvs2 y2 hve hmo.fin (by omega) hxl12 hws).mono (a' := i + 1) (b' := 200 + (i + 1) * 400) (Nat.le_refl _) (by omega)
                  have hdu : @LT.lt Nat _ du lt := (lt1 _ (.tail _ (.tail _ (.tail _ (.tail _ (.tail _ (.head _)))))))
                  refine' hLp _ _ <| loopEnd ((du, listOf (dvs ++ [Value.ref lt]).toArray _) :: (op, listOf ovs.toArray nov) :: (wi, listOf wvs.toArray nwv) :: (sg, listOf svs.toArray nsv) :: (pl, po12) :: (L + 1, co) :: ((lt, _) :: add)) FF NF
                    ⟨dvs ++ [Value.ref lt], _, (lt, _) :: add, ?hoadd, ⟨po12, co, svs, nsv, wvs, nwv, ovs, nov, txt ++ x12, _, td, { σ with vars := σ.vars ++ [varD σ [118, 48 + i] y ns kk], wid := kdpPut σ.wid (toS (sgN.getD kk [])) (ns.getD kk 0) }, hp12, hco, hsv, hwv, hov, DatAll.snoc hdv (.tuple (.head _) (.cons (.str _ _) (.cons (.int _ _) (.cons (.str _ _) (.cons (.str _ _) .nil))))), hLS, ⟨rfl, rfl, rfl, rfl, rfl, rfl, trivial⟩, rfl⟩⟩ ?hown ?hnx ?hin
                  case hnx =>
                    (try dsimp only [List.nil_append, List.cons_append])
                    (repeat (refine List.forall_mem_cons.mpr ⟨by (repeat (first | exact .head _ | apply List.mem_cons_of_mem)), ?_⟩))
                    exact fun p hp => by
                      have hp := hsubA p hp
                      repeat (first | exact hp | apply List.mem_cons_of_mem)
                  case hin =>
                    exact fun p hp => by
                      have hp := hsub p hp
                      repeat (first | exact hp | apply List.mem_cons_of_mem)
                  case hoadd =>
                    intro p hp q hq
                    rcases List.mem_cons.mp hp with e | hp
                    · rw [e]
                      have hle : ∀ q ∈ [du, op, wi, sg, pl, L + 1], @LT.lt Nat _ q lt := by
                        simp only [List.forall_mem_cons]
                        have d1 := Nat.lt_trans oe hdu
                        have d2 := Nat.lt_trans od d1
                        have d3 := Nat.lt_trans oc d2
                        have d4 := Nat.lt_trans ob d3
                        exact ⟨hdu, d1, d2, d3, d4, Nat.lt_trans oa d4, fun x hx => nomatch hx⟩
                      exact Ne.symm (Nat.ne_of_lt (hle q hq))
                    · exact hadd p hp q hq
                  case hown =>
                    intro p hp q hq
                    have h0 := hoA p hp
                    have hpl := hlt p (hsub p hp)
                    have e1 : q ∈ [du, op, wi, sg, pl, L + 1] ++ (lt :: add.map Prod.fst) := hq
                    rcases List.mem_append.mp e1 with e1 | e1
                    · exact h0 q (List.mem_append_left _ e1)
                    · rcases List.mem_cons.mp e1 with e1 | e1
                      · rw [e1]; exact Nat.ne_of_lt hpl
                      · exact h0 q (List.mem_append_right _ e1)
  · intro m₁ nx h4' tk4 hJ F4 N4
    obtain ⟨dvs, ndv, add, hadd, hT⟩ := hJ
    exact nextEnd F4 N4 ⟨n, dvs, ndv, add, by omega, hn4, hadd, hT⟩
theorem off27 : True := by (w_top off); exact True.intro
inductive T2 (L pl sg wi du kn ch : Addr) (ns : List Int) (due : Str) (wd : List (Str × Int)) (P : List Nat) (b i : Nat) (dvs : List Value) (ndv : Nat) (kvs : List Value) (nkv : Nat) (add0 add R : List (Addr × Obj)) (ex : List (Str × Value)) (pre : List (Addr × Obj)) (m : Str → Option Value) (news : List (Addr × Obj)) : Prop
  | mk (po co : Obj) (svs : List Value) (nsv : Nat) (wvs : List Value) (nwv : Nat) (x : List Nat) (tt td : Tok) (now : Nat) (tn : Tok) (cvs : List Value) (ncv : Nat) (chD : List Dat)
    (hpo : PoolL po) (hco : co.data = .cell (some (.ref sg))) (hsv : StrsAre svs (sgN.map toS)) (hwv : IntsAre wvs ns) (hs0 : ∀ p ∈ add0, p ∈ add) (hcv : DatAll add cvs chD) (hcs : CS wd b i x now chD)
    (hm : Nm m ([(Str.ofString "pool", .ref pl), (Str.ofString "wides", .ref wi), (Str.ofString "text", .str (toS (P ++ x)) tt), (Str.ofString "due_scale", .str due td), (Str.ofString "dues", .ref du), (Str.ofString "known", .ref kn), (Str.ofString "now", .int (now : Nat) tn), (Str.ofString "changes", .ref ch)] ++ ex))
    (hn : news = pre ++ ((ch, listOf cvs.toArray ncv) :: (kn, listOf kvs.toArray nkv) :: (du, listOf dvs.toArray ndv) :: (wi, listOf wvs.toArray nwv) :: (sg, listOf svs.toArray nsv) :: (pl, po) :: (L + 1, co) :: R)) : T2 L pl sg wi du kn ch ns due wd P b i dvs ndv kvs nkv add0 add R ex pre m news
section
variable {L pl sg wi du kn ch : Addr} {ns : List Int} {due : Str} {wd : List (Str × Int)} {P : List Nat} {b i : Nat} {dvs : List Value} {ndv : Nat} {kvs : List Value} {nkv : Nat} {add0 add ow : List (Addr × Obj)} {ex : List (Str × Value)} {m : Str → Option Value} {nx : List (Addr × Obj)}
theorem T2.own (h : T2 L pl sg wi du kn ch ns due wd P b i dvs ndv kvs nkv add0 add add ex [] m nx) : T2 L pl sg wi du kn ch ns due wd P b i dvs ndv kvs nkv add0 add (add ++ ow) ex [] m (nx ++ ow) := by
  obtain ⟨po, co, svs, nsv, wvs, nwv, x, tt, td, now, tn, cvs, ncv, chD, h1, h2, h3, h4, h5, h6, h7, h8, rfl⟩ := h
  exact ⟨po, co, svs, nsv, wvs, nwv, x, tt, td, now, tn, cvs, ncv, chD, h1, h2, h3, h4, h5, h6, h7, h8, rfl⟩
theorem T2.offA (h : T2 L pl sg wi du kn ch ns due wd P b i dvs ndv kvs nkv add0 add add ex [] m nx) (ho : OwnOff ow (nx.map (·.1))) : OwnOff ow ([ch, kn, du, wi, sg, pl, L + 1] ++ add.map Prod.fst) := by
  obtain ⟨po, co, svs, nsv, wvs, nwv, x, tt, td, now, tn, cvs, ncv, chD, h1, h2, h3, h4, h5, h6, h7, h8, rfl⟩ := h
  exact ho
theorem T2.off (h : T2 L pl sg wi du kn ch ns due wd P b i dvs ndv kvs nkv add0 add add ex [] m nx) (ha : OwnOff add [ch, kn, du, wi, sg, pl, L + 1]) (ho : OwnOff ow (nx.map (·.1))) : OwnOff (add ++ ow) [ch, kn, du, wi, sg, pl, L + 1] := by
  intro p hp q hq
  rcases List.mem_append.mp hp with hp | hp
  · exact ha p hp q hq
  · exact h.offA ho p hp q (List.mem_append_left _ hq)
end
structure KsOK (wd : List (Str × Int)) (ks : List Int) : Prop where
  lo : 1 ≤ ks.length
  hi : ks.length ≤ 4
  k : ∀ k ∈ ks, ∃ q : Nat, k = (q : Int) ∧ q < 3 ∧ kdpHas wd (toS (sgN.getD q [])) = true
local macro_rules | `(tactic| walk_at "subscriptTail") => `(tactic| ((with_reducible show wpAny _ _ (subscriptTail (Expr.Constant _ _ _) _ (Value.str _ _) (Value.int _ _)) _ _ _); refine' pick_char ?h0 ?h1 ?f ?_; (case h0 => first | assumption | omega); (case h1 => (have hq := (by decide +kernel : (Str.ofString "01xzXZ").cps.toList.length = 6); rw [hq]; omega)); (case f => omega); intro c9 t9 k9 hc9))
local macro_rules | `(tactic| walk_at "subscriptTail") => `(tactic| ((with_reducible show wpAny _ _ (subscriptTail (Expr.Name _ _) (Expr.Call _ _ _ _) (Value.ref _) (Value.int _ _)) _ _ _); refine' pick_int ?l ?w ?h0 ?h1 ?f ?_; (case l => with_unfolding_all is_list); (case w => assumption); (case h0 => first | assumption | omega); (case h1 => omega); (case f => first | exact Int.lt_trans (by assumption) (by decide) | omega); intro t9))
local macro_rules | `(tactic| walk_at "subscriptTail") => `(tactic| ((with_reducible show wpAny _ _ (subscriptTail (Expr.List _ _) _ (Value.ref _) (Value.int _ _)) _ _ _); refine' pick_int ?l ?w ?h0 ?h1 ?f ?_; (case l => with_unfolding_all is_list); (case w => with_unfolding_all repeat constructor); (case h0 => first | assumption | omega); (case h1 => first | assumption | ((try simp only [List.length_cons, List.length_nil]); omega)); (case f => first | exact Int.lt_trans (by assumption) (by decide) | omega); intro t9))
theorem six_of {c : Nat} (h : c ∈ (Str.ofString "01xzXZ").cps.toList) : c = 48 ∨ c = 49 ∨ c = 120 ∨ c = 122 ∨ c = 88 ∨ c = 90 := by
  have e : (Str.ofString "01xzXZ").cps.toList = [48, 49, 120, 122, 88, 90] := by decide +kernel
  rw [e] at h
  simpa using h
theorem six_plain {f : Nat} {ds : List Nat} (hf : f = 98 ∨ f = 66) (h : SixSigns ds) : (f :: ds).all (fun c => !isL c) = true := by
  rw [List.all_eq_true]
  intro c hc
  rcases List.mem_cons.mp hc with rfl | hc
  · rcases hf with rfl | rfl <;> decide
  · rcases h c hc with rfl | rfl | rfl | rfl | rfl | rfl <;> decide
local macro_rules | `(tactic| walk_at "binaryOp Add str str") => `(tactic| ((with_reducible show wpAny _ _ (binaryOp Operator.Add (Value.str (Str.mk (List.toArray _)) _) (Value.str (Str.mk (List.toArray _)) _)) _ _ _); first | (refine add_toS (by (try simp only [List.length_append, List.length_cons, List.length_nil]); omega) ?_; intro t9 k9) | refine Stop.go ?_))
local macro_rules | `(tactic| walk_at "mine filled") => `(tactic| (refine' filled_at ?X ?T ?F ?N ?hx ?hWi ?h6 ?hl ?hW ?_ ?hh ?hd ?hu; (case X => assumption); (case T => assumption); (case F => assumption); (case N => assumption); (case hh => with_unfolding_all exact rfl); (case hd => with_unfolding_all exact Nat.le_of_ble_eq_true rfl); (case hu => with_unfolding_all exact Nat.le_of_ble_eq_true rfl)))
section
variable {prog : Program} {w : World} {A : Around} {E : Value → Shared → Prop} {s : Shared} {y : List Nat} {t u : Tok} {Q : Value → Shared → Prop}
theorem add_hash (hl : y.length ≤ 100) (h : ∀ t' k, Q (.str (toS (35 :: y)) t') { s with toks := k }) : wpAny (model prog w) A (binaryOp .Add (.str (Str.ofString "#") t) (.str (toS y) u)) Q E s := by
  rw [show Str.ofString "#" = toS [35] from by decide +kernel]
  exact add_toS (a := [35]) (by simp only [List.length_cons, List.length_nil]; omega) h
end
theorem field_big {prog : Program} {w : World} {A : Around} {E : Value → Shared → Prop} {s : Shared} {t : Tok} {Q : Value → Shared → Prop} {n : Nat} (hn : n ≤ 10 ^ 40) (h : ∀ t' k, Q (.str (toS (decN n)) t') { s with toks := k }) : wpAny (model prog w) A (formatField (.int (n : Nat) t) Str.empty) Q E s := by
  have hl : Nat.log2 n < 1920 := by
    rcases Nat.eq_zero_or_pos n with h0 | h0
    · subst h0; decide
    · exact (Nat.log2_lt (Nat.ne_of_gt h0)).mpr (Nat.lt_of_le_of_lt hn (by decide))
  refine wpAny_formatField_int (a := (n : Int)) hl ?_
  rw [decN_text]
  exact h _ _
local macro_rules | `(tactic| walk_at "formatField int") => `(tactic| refine Stop.go ?_)
theorem off28 : True := by (w_top off); exact True.intro
theorem law_for2 {w : World} {mean : ExcName → Option Value} {mg mb : Str → Option Value} {g : Heap} {L fa pl sg wi du kn ch : Addr} {cd : Value} {s : Shared} {body : List Stmt} {scope : Scope} {stm : Stmt} {ns : List Int} {due : Str} {wd : List (Str × Int)} {P : List Nat} {dvs kvs : List Value} {ndv nkv : Nat} {add0 add1 : List (Addr × Obj)} {ks : List Int} {m : Str → Option Value} {news : List (Addr × Obj)}
   (hl : LawIs w body scope) (hst : body[14]? = some stm) (X : (top0.heap_1 w.params).In g) (T : Top Mine.viewK (looseW Mine.viewK [Str.ofString "GateloomError"]) mean mg mb g)
   (F : Fr g L s.heap m) (N : News g L s.heap news) (h1 : @LT.lt Nat _ (L + 1) pl) (h2 : @LT.lt Nat _ pl sg) (h3 : @LT.lt Nat _ sg wi) (h4 : @LT.lt Nat _ wi du) (h5 : @LT.lt Nat _ du ch) (h6 : @LT.lt Nat _ kn ch) (hk1 : @Ne Nat du kn) (hk2 : @Ne Nat wi kn) (hk3 : @Ne Nat sg kn) (hk4 : @Ne Nat pl kn) (hk5 : @Ne Nat (L + 1) kn) (hns : NsOK ns) (hki : IntsAre kvs ks) (hks : KsOK wd ks) (hwd : WidOK wd ns) (hP : P.length ≤ 5000)
   (ha1 : OwnOff add1 [ch, kn, du, wi, sg, pl, L + 1]) (H : T2 L pl sg wi du kn ch ns due wd P 200 1 dvs ndv kvs nkv add0 add1 add1 [] [] m news) :
   wpAny (model Challenge.rw_sj0032_01.row.prog w) (lawA scope L fa cd) (exec stm (lawEnv scope L fa cd))
     (NextEnd g L s fun m nx => ∃ i add, i ≤ 6 ∧ T2 L pl sg wi du kn ch ns due wd P (200 + i * 100) (1 + i) dvs ndv kvs nkv add0 add add [] [] m nx) (fun _ _ => False) s := by
  refine fill (top0.heap_1 w.params) ?_
  k_fill
  intro _
  refine' law_lit (P := fun body scope => body[14]? = some stm → wpAny (model Challenge.rw_sj0032_01.row.prog w) (lawA scope L fa cd) (exec stm (lawEnv scope L fa cd)) _ _ s) hl ?ho ?_ hst
  case ho => k_is
  clear hl hst
  intro hst
  k_fold
  have hst := Option.some.inj hst
  subst hst
  have hsrt : Srt [L + 1, pl, sg, wi, du, ch] := .add h1 (.add h2 (.add h3 (.add h4 (.add h5 .one))))
  dsimp only [lawA, lawEnv]
  obtain ⟨po, co, svs, nsv, wvs, nwv, x, tt, td, now, tn, cvs, ncv, chD, hpo, hco, hsv, hwv, hs0, hcv, hcs, hm, rfl⟩ := H
  have F1 := fr_names F hm
  dsimp only [List.cons_append, List.nil_append] at F1 N
  walk_at "mine go"
  unfold Stop
  rename_i h9 tk9 po9 k9 t9 F2 N2 hp9 k0 k1 h3' tk3 ta tb tc R3 F3 N3 up3
  obtain ⟨n, rfl⟩ := Int.eq_ofNat_of_zero_le k0
  have hn6 : n ≤ 6 := by omega
  refine iter_range_cut (n := n) (fun i m nx => ∃ add, OwnOff add [ch, kn, du, wi, sg, pl, L + 1] ∧ T2 L pl sg wi du kn ch ns due wd P (200 + i * 100) (1 + i) dvs ndv kvs nkv add0 add add [] [] m nx) rfl R3 (small_one (by omega) (by omega) (by omega) (by omega)) (range_one _) F3 N3
    ⟨add1, ha1, ⟨po9, co, svs, nsv, wvs, nwv, x, tt, td, now, tn, cvs, ncv, chD, hp9, hco, hsv, hwv, hs0, hcv, hcs, ⟨rfl, rfl, rfl, rfl, rfl, rfl, rfl, rfl, trivial⟩, rfl⟩⟩ ?_ ?_
  · intro i t m₁ nx h4' tk4 own hi hoff hJ F4 N4 RL hLp
    obtain ⟨add, hadd, hT⟩ := hJ
    have hoR := hT.off hadd hoff
    have hoA := hT.offA hoff
    replace hT := hT.own (ow := own)
    generalize hR : add ++ own = R at hT hoR
    have hT2 : T2 L pl sg wi du kn ch ns due wd P (200 + i * 100) (1 + i) dvs ndv kvs nkv add0 add R [] [] (fun y => if y = Str.ofString "turn" then some (.int (0 + (i : Int) * 1) t) else m₁ y) (nx ++ own) := by
      obtain ⟨po, co, svs, nsv, wvs, nwv, x, tt, td, now, tn, cvs, ncv, chD, q1, q2, q3, q4, q5, q6, q7, q8, q9⟩ := hT
      exact ⟨po, co, svs, nsv, wvs, nwv, x, tt, td, now, tn, cvs, ncv, chD, q1, q2, q3, q4, q5, q6, q7, ⟨q8.1, q8.2.1, q8.2.2.1, q8.2.2.2.1, q8.2.2.2.2.1, q8.2.2.2.2.2.1, q8.2.2.2.2.2.2.1, q8.2.2.2.2.2.2.2.1, trivial⟩, q9⟩
    clear hT
    have hsub : ∀ p ∈ own, p ∈ R := fun p hp => hR ▸ List.mem_append_right _ hp
    have hsubA : ∀ p ∈ add, p ∈ R := fun p hp => hR ▸ List.mem_append_left _ hp
    have hi6 : i < 6 := by omega
    clear hp9 hpo hco hsv hwv hs0 hcv hcs hm R3 up3
    have hkl : kvs.length = ks.length := hki.length
    have hk1 := hks.lo
    have hk4 := hks.hi
    refine seq_cut (g := g) (L := L) (fun m nx => ∃ (so : Int) (ts : Tok), 0 ≤ so ∧ so < 6 ∧ T2 L pl sg wi du kn ch ns due wd P (200 + i * 100) (1 + i) dvs ndv kvs nkv add0 add R [(Str.ofString "sort", .int so ts)] [] m nx) ?_ ?_
    · intro RN hN
      obtain ⟨po, co, svs, nsv, wvs, nwv, x, tt, td, now, tn, cvs, ncv, chD, hpo, hco, hsv, hwv, hs0, hcv, hcs, hm, hq⟩ := hT2
      rw [hq] at N4
      have F4 := fr_names F4 hm
      dsimp only [List.cons_append, List.nil_append] at F4 N4
      walk_at "mine go"
      rename_i h9 tk9 po9 k9 t9 F9 N9 hp9 k0 k1 h7 F7 N7
      exact hN _ _ <| nextEnd F7 N7 ⟨k9, t9, k0, k1, ⟨po9, co, svs, nsv, wvs, nwv, x, tt, td, now, tn, cvs, ncv, chD, hp9, hco, hsv, hwv, hs0, hcv, hcs, ⟨rfl, rfl, rfl, rfl, rfl, rfl, rfl, rfl, rfl, trivial⟩, rfl⟩⟩
    · intro h5 tk5 m5 nx5 F5 N5 hM
      clear hT2 F4 N4
      obtain ⟨so, ts, hs0', hs6, hT⟩ := hM
      refine seq_cut (g := g) (L := L) (fun m nx => ∃ (kk : Nat) (tw : Tok), kk < 3 ∧ kdpHas wd (toS (sgN.getD kk [])) = true ∧ T2 L pl sg wi du kn ch ns due wd P (200 + i * 100) (1 + i) dvs ndv kvs nkv add0 add R [(Str.ofString "sort", .int so ts), (Str.ofString "which", .int (kk : Int) tw)] [] m nx) ?_ ?_
      · intro RN hN
        obtain ⟨po, co, svs, nsv, wvs, nwv, x, tt, td, now, tn, cvs, ncv, chD, hpo, hco, hsv, hwv, hs0, hcv, hcs, hm, rfl⟩ := hT
        have F5 := fr_names F5 hm
        dsimp only [List.cons_append, List.nil_append] at F5 N5
        walk_at "mine go"
        rename_i h9 tk9 po9 k9 t9 hp9 k0 k1 t10 h10 F10 N10
        have hkm : ks.getD k9.toNat 0 ∈ ks := by
          have hlt : k9.toNat < ks.length := by omega
          rw [List.getD_eq_getElem?_getD, List.getElem?_eq_getElem hlt]
          exact List.getElem_mem hlt
        obtain ⟨q, hq, hq3, hqh⟩ := hks.k _ hkm
        rw [hq] at F10
        exact hN _ _ <| nextEnd F10 N10 ⟨q, t10, hq3, hqh, ⟨po9, co, svs, nsv, wvs, nwv, x, tt, td, now, tn, cvs, ncv, chD, hp9, hco, hsv, hwv, hs0, hcv, hcs, ⟨rfl, rfl, rfl, rfl, rfl, rfl, rfl, rfl, rfl, rfl, trivial⟩, rfl⟩⟩
      · intro h6' tk6 m6 nx6 F6 N6 hM
        clear F5 N5 hT
        obtain ⟨kk, tw, hk3, hhas, hT⟩ := hM
        obtain ⟨hW1, hW6⟩ := hns.bnd kk hk3
        have hsg := sgN_le kk hk3
        have hnl : ns.length = 3 := hns.len
        have hsl : sgN.length = 3 := rfl
        obtain ⟨po, co, svs, nsv, wvs, nwv, x, tt, td, now, tn, cvs, ncv, chD, hpo, hco, hsv, hwv, hs0, hcv, hcs, hm, rfl⟩ := hT
        have F6 := fr_names F6 hm
        dsimp only [List.cons_append, List.nil_append] at F6 N6
        have htl := hcs.len
        have hcl : cvs.length ≤ 10 := by rw [hcv.length]; have := hcs.cl; omega
        walk_at "mine go"
        · rename_i a0 h7 t7 h9 tk9 po9 k9 t9 F9 N9 hp9 k90 k91 h10 tk10 ta' tb' tc' R10 F10 N10 up10
          unfold Stop
          obtain ⟨q, hq⟩ : ∃ q : Nat, 1 + k9 = (q : Int) := ⟨(1 + k9).toNat, by omega⟩
          rw [hq] at R10
          refine iter_range_cut (n := q) (fun j m nx => ∃ (po : Obj) (ds : List Nat) (td' : Tok), PoolL po ∧ ds.length = j ∧ SixSigns ds ∧ Nm m [(Str.ofString "pool", .ref pl), (Str.ofString "wides", .ref wi), (Str.ofString "text", .str (toS (P ++ x)) tt), (Str.ofString "due_scale", .str due td), (Str.ofString "dues", .ref du), (Str.ofString "known", .ref kn), (Str.ofString "now", .int (now : Nat) tn), (Str.ofString "changes", .ref ch), (Str.ofString "sort", .int so ts), (Str.ofString "which", .int (kk : Int) tw), (Str.ofString "digits", .str (toS ds) td')] ∧ nx = (ch, listOf cvs.toArray ncv) :: (kn, listOf kvs.toArray nkv) :: (du, listOf dvs.toArray ndv) :: (wi, listOf wvs.toArray nwv) :: (sg, listOf svs.toArray nsv) :: (pl, po) :: (L + 1, co) :: R) rfl R10 (small_one (by omega) (by omega) (by omega) (by omega)) (range_one _) F10 N10
            ⟨po9, [], _, hp9, rfl, (fun c hc => nomatch hc), ⟨rfl, rfl, rfl, rfl, rfl, rfl, rfl, rfl, rfl, rfl, (by rw [show toS [] = Str.ofString "" from by decide +kernel]; rfl), trivial⟩, rfl⟩ ?_ ?_
          · intro j t' m₂ nx₂ h11 tk11 own₂ hj hoff₂ hJ₂ F11 N11 RL hLp
            obtain ⟨po, ds, td', hpo', hdl, h6s, hm', rfl⟩ := hJ₂
            have F11 := fr_names F11 (ps := [(Str.ofString "pool", .ref pl), (Str.ofString "wides", .ref wi), (Str.ofString "text", .str (toS (P ++ x)) tt), (Str.ofString "due_scale", .str due td), (Str.ofString "dues", .ref du), (Str.ofString "known", .ref kn), (Str.ofString "now", .int (now : Nat) tn), (Str.ofString "changes", .ref ch), (Str.ofString "sort", .int so ts), (Str.ofString "which", .int (kk : Int) tw), (Str.ofString "digits", .str (toS ds) td')]) ⟨hm'.1, hm'.2.1, hm'.2.2.1, hm'.2.2.2.1, hm'.2.2.2.2.1, hm'.2.2.2.2.2.1, hm'.2.2.2.2.2.2.1, hm'.2.2.2.2.2.2.2.1, hm'.2.2.2.2.2.2.2.2.1, hm'.2.2.2.2.2.2.2.2.2.1, hm'.2.2.2.2.2.2.2.2.2.2.1, trivial⟩
            have hoR2 : OwnOff (R ++ own₂) [ch, kn, du, wi, sg, pl, L + 1] := by
              intro p hp z hz
              rcases List.mem_append.mp hp with hp | hp
              · exact hoR p hp z hz
              · exact hoff₂ p hp z (show z ∈ [ch, kn, du, wi, sg, pl, L + 1] ++ R.map Prod.fst from List.mem_append_left _ hz)
            have hsubO : ∀ p ∈ own₂, p ∈ R ++ own₂ := fun p hp => List.mem_append_right _ hp
            have hsubR : ∀ p ∈ R, p ∈ R ++ own₂ := fun p hp => List.mem_append_left _ hp
            (try dsimp only [List.cons_append, List.nil_append] at F11 N11)
            generalize R ++ own₂ = R2 at N11 hoR2 hsubO hsubR
            walk_at "mine go"
            rename_i h8 tk8 po8 k8 t8 F8 N8 hp8 k80 k81 c9 t9 k9 hc9 t10 k10 h12 F12 N12
            refine' hLp _ _ <| loopEnd ((ch, listOf cvs.toArray ncv) :: (kn, listOf kvs.toArray nkv) :: (du, listOf dvs.toArray ndv) :: (wi, listOf wvs.toArray nwv) :: (sg, listOf svs.toArray nsv) :: (pl, po8) :: (L + 1, co) :: R) F12 N12
              ⟨po8, ds ++ [c9], _, hp8, (by rw [List.length_append, hdl]; rfl), (fun z hz => by rcases List.mem_append.mp hz with hz | hz; exact h6s z hz; rw [List.mem_singleton.mp hz]; exact six_of hc9), ⟨rfl, rfl, rfl, rfl, rfl, rfl, rfl, rfl, rfl, rfl, rfl, trivial⟩, rfl⟩ hoff₂ ?hnx ?hin
            case hnx =>
              (try dsimp only [List.nil_append, List.cons_append])
              (repeat (refine List.forall_mem_cons.mpr ⟨by (repeat (first | exact .head _ | apply List.mem_cons_of_mem)), ?_⟩))
              exact fun p hp => by
                have hp := hsubR p hp
                repeat (first | exact hp | apply List.mem_cons_of_mem)
            case hin =>
              exact fun p hp => by
                have hp := hsubO p hp
                repeat (first | exact hp | apply List.mem_cons_of_mem)
          · intro m₂ nx₂ h11 tk11 hJ₂ F11 N11
            obtain ⟨po, ds, td', hpo', hdl, h6s, hm', rfl⟩ := hJ₂
            obtain ⟨c, ds', rfl⟩ : ∃ c ds', ds = c :: ds' := by
              cases ds with
              | nil => simp only [List.length_nil] at hdl; omega
              | cons c r => exact ⟨c, r, rfl⟩
            have F11 := fr_names F11 hm'
            (try dsimp only [List.cons_append, List.nil_append] at F11 N11)
            have hdW : (c :: ds').length ≤ wdK ns kk := by unfold wdK; omega
            have hW66 : wdK ns kk ≤ 6 := by unfold wdK; omega
            have hWi : ns.getD kk 0 = ((wdK ns kk : Nat) : Int) := (Int.toNat_of_nonneg (by omega)).symm
            have hdl6 : ds'.length ≤ 5 := by simp only [List.length_cons] at hdW; omega
            walk_at "mine go"
            rename_i l12 h12 F12 N12 l121 lL12 t13 y9 hy9
            have hq : ∀ y ∈ [Str.ofString "b", Str.ofString "B"].map (fun x => x.cps.toList), ∃ f, y = [f] ∧ (f = 98 ∨ f = 66) := by
              intro y hy
              rcases List.mem_cons.mp hy with e | hy
              · exact ⟨98, by rw [e]; decide +kernel, .inl rfl⟩
              · exact ⟨66, by rw [List.mem_singleton.mp hy]; decide +kernel, .inr rfl⟩
            obtain ⟨f, rfl, hf⟩ := hq _ hy9
            clear hy9 hq
            unfold Stop
            walk_at "mine go"
            unfold Stop
            walk_at "mine laid"
            case hL => exact .cons (a := f :: c :: ds') 7 _ rfl (six_plain hf h6s) (by simp only [List.length_cons]; omega) (.cons 2 _ rfl hsg.2.2.2 hsg.1 .nil)
            case hn => decide
            case hxl => exact Nat.le_of_ble_eq_true rfl
            intro h14 tk14 po14 x14 t14 F14 N14 hp14 hx14 hw14
            (try dsimp only at N14)
            have hxl14 : x14.length ≤ 100 := Nat.le_trans hx14 (Nat.le_of_ble_eq_true rfl)
            have hws := words_of hw14 (by
              simp only [List.forall_mem_cons]
              exact ⟨by simp, hsg.2.2.1, fun x hx => nomatch hx⟩)
            walk_at "mine go"
            unfold Stop
            walk_at "mine filled"
            case hx => exact rfl
            case hWi => exact hWi
            case h6 => exact h6s
            case hl => exact hdW
            case hW => omega
            intro h15 tk15 rf of F15 N15 l15 lL15 hdf
            have hAr : AllLt rf R := allLt_of fun p hp => l15 p (by repeat (first | exact hp | apply List.mem_cons_of_mem))

            k_lt2 lL15
            walk_at "mine go"
            rename_i t16 k16 h16 tk16 t17 t18 lt ht lt1 ltL h18 FF NF
            have hA : AllLt lt R := (allLt_of fun p hp => lt1 p (by repeat (first | exact hp | apply List.mem_cons_of_mem)))
            rw [List.append_assoc] at FF
            have hlt := allLt_mem hA
            refine' hLp _ _ <| loopEnd ((ch, listOf (cvs ++ [Value.ref lt]).toArray _) :: (kn, listOf kvs.toArray nkv) :: (du, listOf dvs.toArray ndv) :: (wi, listOf wvs.toArray nwv) :: (sg, listOf svs.toArray nsv) :: (pl, po14) :: (L + 1, co) :: ((lt, _) :: (rf, of) :: add)) FF NF
              ⟨(lt, _) :: (rf, of) :: add, ?hoadd, ⟨po14, co, svs, nsv, wvs, nwv, x ++ x14, _, td, now, _, cvs ++ [Value.ref lt], _, chD ++ [chgD now (sgN.getD kk []) (c :: ds') (wdK ns kk)], hp14, hco, hsv, hwv, (fun p hp => .tail _ (.tail _ (hs0 p hp))), DatAll.snoc (hcv.mono fun p hp => .tail _ hp) (.tuple (.head _) (.cons (.int _ _) (.cons (.str _ _) (.cons (hdf.mono fun p hp => by rw [List.mem_singleton.mp hp]; exact .tail _ (.head _)) .nil)))), ((hcs.vec hwd hns.bnd hk3 hhas (by omega) hf h6s hdW hxl14 hws).mono (by omega) (by omega)), ⟨rfl, rfl, rfl, rfl, rfl, rfl, rfl, rfl, trivial⟩, rfl⟩⟩ ?hown ?hnx ?hin
            case hoadd =>
              intro p hp q hq
              have hle : ∀ q ∈ [ch, kn, du, wi, sg, pl, L + 1], @LT.lt Nat _ q rf ∧ @LT.lt Nat _ q lt := by
                simp only [List.forall_mem_cons]
                exact ⟨⟨lt_new l15 (by k_mem), lt_new lt1 (by k_mem)⟩, ⟨lt_new l15 (by k_mem), lt_new lt1 (by k_mem)⟩, ⟨lt_new l15 (by k_mem), lt_new lt1 (by k_mem)⟩, ⟨lt_new l15 (by k_mem), lt_new lt1 (by k_mem)⟩, ⟨lt_new l15 (by k_mem), lt_new lt1 (by k_mem)⟩, ⟨lt_new l15 (by k_mem), lt_new lt1 (by k_mem)⟩, ⟨lt_new l15 (by k_mem), lt_new lt1 (by k_mem)⟩, fun x hx => nomatch hx⟩
              rcases List.mem_cons.mp hp with e | hp
              · rw [e]; exact Ne.symm (Nat.ne_of_lt (hle q hq).2)
              · rcases List.mem_cons.mp hp with e | hp
                · rw [e]; exact Ne.symm (Nat.ne_of_lt (hle q hq).1)
                · exact hadd p hp q hq
            case hown =>
              intro p hp q hq
              have h0 := hoA p hp
              have hpl := hlt p (hsub p hp)
              have hpr := allLt_mem hAr p (hsub p hp)
              have e1 : q ∈ [ch, kn, du, wi, sg, pl, L + 1] ++ (lt :: rf :: add.map Prod.fst) := hq
              rcases List.mem_append.mp e1 with e1 | e1
              · exact h0 q (List.mem_append_left _ e1)
              · rcases List.mem_cons.mp e1 with e1 | e1
                · rw [e1]; exact Nat.ne_of_lt hpl
                · rcases List.mem_cons.mp e1 with e1 | e1
                  · rw [e1]; exact Nat.ne_of_lt hpr
                  · exact h0 q (List.mem_append_right _ e1)
            case hnx =>
              (try dsimp only [List.nil_append, List.cons_append])
              (repeat (refine List.forall_mem_cons.mpr ⟨by (repeat (first | exact .head _ | apply List.mem_cons_of_mem)), ?_⟩))
              exact fun p hp => by
                have hp := hsubA p hp
                repeat (first | exact hp | apply List.mem_cons_of_mem)
            case hin =>
              exact fun p hp => by
                have hp := hsub p hp
                repeat (first | exact hp | apply List.mem_cons_of_mem)
        · rename_i a1 tk8 h9 tk9 po9 k9 t9 hp9 k90 k91 c t10 k10 hc h10 t11 t12 k12 l12 h12 F12 N12 l121 lL12
          unfold Stop
          have h6s : SixSigns [c] := fun z hz => by rw [List.mem_singleton.mp hz]; exact six_of hc
          have hW66 : wdK ns kk ≤ 6 := by unfold wdK; omega
          have hW61 : 1 ≤ wdK ns kk := by unfold wdK; omega
          have hWi : ns.getD kk 0 = ((wdK ns kk : Nat) : Int) := (Int.toNat_of_nonneg (by omega)).symm
          have hcp : (c :: sgN.getD kk []).all (fun c => !isL c) = true := by
            rw [List.all_cons, hsg.2.2.2, Bool.and_true]
            have h1 := six_plain (f := 98) (.inl rfl) h6s
            simp at h1
            simpa using h1.2
          walk_at "mine laid"
          case hL => exact .cons (a := c :: sgN.getD kk []) 3 _ rfl hcp (by have := hsg.1; simp only [List.length_cons]; omega) .nil
          case hn => decide
          case hxl => exact Nat.le_of_ble_eq_true rfl
          intro h14 tk14 po14 x14 t14 F14 N14 hp14 hx14 hw14
          (try dsimp only at N14)
          have hxl14 : x14.length ≤ 100 := Nat.le_trans hx14 (Nat.le_of_ble_eq_true rfl)
          have hws := words_of hw14 (by
            simp only [List.forall_mem_cons]
            exact ⟨by simp, fun x hx => nomatch hx⟩)
          walk_at "mine go"
          unfold Stop
          walk_at "mine filled"
          case hx => exact rfl
          case hWi => exact hWi
          case h6 => exact h6s
          case hl => exact hW61
          case hW => omega
          intro h15 tk15 rf of F15 N15 l15 lL15 hdf
          have hAr : AllLt rf R := allLt_of fun p hp => l15 p (by repeat (first | exact hp | apply List.mem_cons_of_mem))

          k_lt2 lL15
          walk_at "mine go"
          rename_i t16 k16 h16 tk16 t17 t18 lt ht lt1 ltL h18 FF NF
          have hA : AllLt lt R := (allLt_of fun p hp => lt1 p (by repeat (first | exact hp | apply List.mem_cons_of_mem)))
          rw [List.append_assoc] at FF
          have hlt := allLt_mem hA
          refine' hLp _ _ <| loopEnd ((ch, listOf (cvs ++ [Value.ref lt]).toArray _) :: (kn, listOf kvs.toArray nkv) :: (du, listOf dvs.toArray ndv) :: (wi, listOf wvs.toArray nwv) :: (sg, listOf svs.toArray nsv) :: (pl, po14) :: (L + 1, co) :: ((lt, _) :: (rf, of) :: add)) FF NF
            ⟨(lt, _) :: (rf, of) :: add, ?hoadd, ⟨po14, co, svs, nsv, wvs, nwv, x ++ x14, _, td, now, _, cvs ++ [Value.ref lt], _, chD ++ [chgD now (sgN.getD kk []) ([c]) (wdK ns kk)], hp14, hco, hsv, hwv, (fun p hp => .tail _ (.tail _ (hs0 p hp))), DatAll.snoc (hcv.mono fun p hp => .tail _ hp) (.tuple (.head _) (.cons (.int _ _) (.cons (.str _ _) (.cons (hdf.mono fun p hp => by rw [List.mem_singleton.mp hp]; exact .tail _ (.head _)) .nil)))), ((hcs.sca hwd hns.bnd hk3 hhas (by omega) h6s hxl14 hws).mono (by omega) (by omega)), ⟨rfl, rfl, rfl, rfl, rfl, rfl, rfl, rfl, trivial⟩, rfl⟩⟩ ?hown ?hnx ?hin
          case hoadd =>
            intro p hp q hq
            have hle : ∀ q ∈ [ch, kn, du, wi, sg, pl, L + 1], @LT.lt Nat _ q rf ∧ @LT.lt Nat _ q lt := by
              simp only [List.forall_mem_cons]
              exact ⟨⟨lt_new l15 (by k_mem), lt_new lt1 (by k_mem)⟩, ⟨lt_new l15 (by k_mem), lt_new lt1 (by k_mem)⟩, ⟨lt_new l15 (by k_mem), lt_new lt1 (by k_mem)⟩, ⟨lt_new l15 (by k_mem), lt_new lt1 (by k_mem)⟩, ⟨lt_new l15 (by k_mem), lt_new lt1 (by k_mem)⟩, ⟨lt_new l15 (by k_mem), lt_new lt1 (by k_mem)⟩, ⟨lt_new l15 (by k_mem), lt_new lt1 (by k_mem)⟩, fun x hx => nomatch hx⟩
            rcases List.mem_cons.mp hp with e | hp
            · rw [e]; exact Ne.symm (Nat.ne_of_lt (hle q hq).2)
            · rcases List.mem_cons.mp hp with e | hp
              · rw [e]; exact Ne.symm (Nat.ne_of_lt (hle q hq).1)
              · exact hadd p hp q hq
          case hown =>
            intro p hp q hq
            have h0 := hoA p hp
            have hpl := hlt p (hsub p hp)
            have hpr := allLt_mem hAr p (hsub p hp)
            have e1 : q ∈ [ch, kn, du, wi, sg, pl, L + 1] ++ (lt :: rf :: add.map Prod.fst) := hq
            rcases List.mem_append.mp e1 with e1 | e1
            · exact h0 q (List.mem_append_left _ e1)
            · rcases List.mem_cons.mp e1 with e1 | e1
              · rw [e1]; exact Nat.ne_of_lt hpl
              · rcases List.mem_cons.mp e1 with e1 | e1
                · rw [e1]; exact Nat.ne_of_lt hpr
                · exact h0 q (List.mem_append_right _ e1)
          case hnx =>
            (try dsimp only [List.nil_append, List.cons_append])
            (repeat (refine List.forall_mem_cons.mpr ⟨by (repeat (first | exact .head _ | apply List.mem_cons_of_mem)), ?_⟩))
            exact fun p hp => by
              have hp := hsubA p hp
              repeat (first | exact hp | apply List.mem_cons_of_mem)
          case hin =>
            exact fun p hp => by
              have hp := hsub p hp
              repeat (first | exact hp | apply List.mem_cons_of_mem)
        · rename_i k8 t8 hp8 k80 k81 t80 h8 l8 h80 l81 lL8 h9 tk9 po9 k9 t9 F9 N9 hp9 k90 k91 t10 y9 hy9
          unfold Stop
          have hq : ∀ y ∈ [Str.ofString "", Str.ofString "0", Str.ofString "000"].map (fun x => x.cps.toList), ∃ z, y = List.replicate z 48 ∧ z ≤ 3 := by
            intro y hy
            rcases List.mem_cons.mp hy with e | hy
            · exact ⟨0, by rw [e]; decide +kernel, by omega⟩
            · rcases List.mem_cons.mp hy with e | hy
              · exact ⟨1, by rw [e]; decide +kernel, by omega⟩
              · exact ⟨3, by rw [List.mem_singleton.mp hy]; decide +kernel, by omega⟩
          obtain ⟨z, rfl, hz3⟩ := hq _ hy9
          clear hy9 hq
          have hvv : ∀ k : Nat, k < 4 → ∃ v : Nat, ([0, 1, 9, 10 ^ Int.toNat 30] : List Int).getD k 0 = (v : Int) ∧ v ≤ 10 ^ 30 := by
            intro k hk
            have hk' : k = 0 ∨ k = 1 ∨ k = 2 ∨ k = 3 := by omega
            rcases hk' with rfl | rfl | rfl | rfl
            · exact ⟨0, rfl, by decide⟩
            · exact ⟨1, rfl, by decide⟩
            · exact ⟨9, rfl, by decide⟩
            · exact ⟨10 ^ 30, by decide, by decide⟩
          obtain ⟨v, hv, hv30⟩ := hvv k8.toNat (by omega)
          rw [hv, ← Int.natCast_add] at F9
          have nb : now ≤ 7 * 10 ^ 30 := Nat.le_trans hcs.nb (Nat.mul_le_mul_right _ (by omega))
          have nb2 : now + v ≤ 8 * 10 ^ 30 := Nat.le_trans (Nat.add_le_add nb hv30) (by decide)
          have hrl : (List.replicate z 48).length = z := List.length_replicate
          have hdl := decN_len (n := now + v) (k := 40) (by decide) (Nat.lt_of_le_of_lt nb2 (by decide))
          refine add_hash (by rw [List.length_replicate]; omega) fun t11 k11 => ?_
          walk_at "mine go"
          unfold Stop
          refine field_big (Nat.le_trans nb2 (by decide)) fun t12 k12 => ?_
          walk_at "mine go"
          unfold Stop
          walk_at "mine laid"
          case hL => exact .cons (a := 35 :: (List.replicate z 48 ++ decN (now + v))) 60 _ rfl (by rw [List.all_cons, digits_plain (noughts_digits z (decN_digits _))]; rfl) (by simp only [List.length_cons, List.length_append]; omega) .nil
          case hn => decide
          case hxl => exact Nat.le_of_ble_eq_true rfl
          intro h13 tk13 po13 x13 t13 F13 N13 hp13 hx13 hw13
          (try dsimp only at N13)
          have hxl13 : x13.length ≤ 100 := Nat.le_trans hx13 (Nat.le_of_ble_eq_true rfl)
          have hws := words_of hw13 (by
            simp only [List.forall_mem_cons]
            exact ⟨by simp, fun x hx => nomatch hx⟩)
          walk_at "mine go"
          rename_i t14 k14 h14 F14 N14
          rw [List.append_assoc] at F14
          refine' hLp _ _ <| loopEnd ((ch, listOf cvs.toArray ncv) :: (kn, listOf kvs.toArray nkv) :: (du, listOf dvs.toArray ndv) :: (wi, listOf wvs.toArray nwv) :: (sg, listOf svs.toArray nsv) :: (pl, po13) :: (L + 1, co) :: add) F14 N14
            ⟨add, hadd, ⟨po13, co, svs, nsv, wvs, nwv, x ++ x13, _, td, (now + v), _, cvs, ncv, chD, hp13, hco, hsv, hwv, hs0, hcv, ((hcs.time (ds := List.replicate z 48 ++ decN (now + v)) (now' := now + v) (by simp [decN_ne]) (noughts_digits z (decN_digits _)) (by rw [List.length_append]; omega) ((noughts_val z _).trans (decN_val _)) (Nat.le_add_right _ _) (Nat.add_le_add_left hv30 _) hxl13 hws).mono (by omega) (by omega)), ⟨rfl, rfl, rfl, rfl, rfl, rfl, rfl, rfl, trivial⟩, rfl⟩⟩ ?hown ?hnx ?hin
          case hown => exact hoA
          case hnx =>
            (try dsimp only [List.nil_append, List.cons_append])
            (repeat (refine List.forall_mem_cons.mpr ⟨by (repeat (first | exact .head _ | apply List.mem_cons_of_mem)), ?_⟩))
            exact fun p hp => by
              have hp := hsubA p hp
              repeat (first | exact hp | apply List.mem_cons_of_mem)
          case hin =>
            exact fun p hp => by
              have hp := hsub p hp
              repeat (first | exact hp | apply List.mem_cons_of_mem)
        · rename_i a0 tk7 a1 tk8 a2 tk9 a3 l7 h7 F7 N7 l71 lL7
          unfold Stop
          walk_at "mine laid"
          case hL => exact .cons 8 _ toS_com.symm (by decide) (by decide) (.cons (a := [35, 57, 57]) 3 _ (by decide +kernel) (by decide) (by decide) (.cons (a := [49, 33]) 2 _ (by decide +kernel) (by decide) (by decide) (.cons 8 _ toS_df.symm (by decide) (by decide) (.cons 4 _ toS_end (by decide) (by decide) .nil))))
          case hn => decide
          case hxl => exact Nat.le_of_ble_eq_true rfl
          intro h12 tk12 po12 x12 t12 F12 N12 hp12 hx12 hw12
          (try dsimp only at N12)
          have hxl12 : x12.length ≤ 100 := Nat.le_trans hx12 (Nat.le_of_ble_eq_true rfl)
          have hws := words_of hw12 (by decide)
          walk_at "mine go"
          rename_i t13 k13 h13 F13 N13
          rw [List.append_assoc] at F13
          refine' hLp _ _ <| loopEnd ((ch, listOf cvs.toArray ncv) :: (kn, listOf kvs.toArray nkv) :: (du, listOf dvs.toArray ndv) :: (wi, listOf wvs.toArray nwv) :: (sg, listOf svs.toArray nsv) :: (pl, po12) :: (L + 1, co) :: add) F13 N13
            ⟨add, hadd, ⟨po12, co, svs, nsv, wvs, nwv, x ++ x12, _, td, now, _, cvs, ncv, chD, hp12, hco, hsv, hwv, hs0, hcv, (hcs.com (by decide) (by decide) (by decide) hxl12 hws).mono (by omega) (by omega), ⟨rfl, rfl, rfl, rfl, rfl, rfl, rfl, rfl, trivial⟩, rfl⟩⟩ ?hown ?hnx ?hin
          case hown => exact hoA
          case hnx =>
            (try dsimp only [List.nil_append, List.cons_append])
            (repeat (refine List.forall_mem_cons.mpr ⟨by (repeat (first | exact .head _ | apply List.mem_cons_of_mem)), ?_⟩))
            exact fun p hp => by
              have hp := hsubA p hp
              repeat (first | exact hp | apply List.mem_cons_of_mem)
          case hin =>
            exact fun p hp => by
              have hp := hsub p hp
              repeat (first | exact hp | apply List.mem_cons_of_mem)
        · rename_i a0 tk6' a1 tk7 a2 tk8 a3 l7 h7 l71 lL7 h9 tk9 po9 k9 t9 hp9 k90 k91 t10 y9 hy9 l10 h10 F10 N10 l101 lL10
          unfold Stop
          have hq : ∀ y ∈ [Str.ofString "$dumpvars", Str.ofString "$dumpall", Str.ofString "$dumpon", Str.ofString "$dumpoff", Str.ofString "$end"].map (fun x => x.cps.toList), (y = wDV ∨ y = wDA ∨ y = wDN ∨ y = wDF ∨ y = END) ∧ y.length ≤ 9 ∧ y ≠ [] ∧ y.all (fun c => !isL c) = true := by decide +kernel
          obtain ⟨y1, y2, y3, y4⟩ := hq _ hy9
          walk_at "mine laid"
          case hL => exact .cons 9 _ rfl y4 y2 .nil
          case hn => decide
          case hxl => exact Nat.le_of_ble_eq_true rfl
          intro h12 tk12 po12 x12 t12 F12 N12 hp12 hx12 hw12
          (try dsimp only at N12)
          have hxl12 : x12.length ≤ 100 := Nat.le_trans hx12 (Nat.le_of_ble_eq_true rfl)
          have hws := words_of hw12 (by
            simp only [List.forall_mem_cons]
            exact ⟨y3, fun x hx => nomatch hx⟩)
          walk_at "mine go"
          rename_i t13 k13 h13 F13 N13
          rw [List.append_assoc] at F13
          refine' hLp _ _ <| loopEnd ((ch, listOf cvs.toArray ncv) :: (kn, listOf kvs.toArray nkv) :: (du, listOf dvs.toArray ndv) :: (wi, listOf wvs.toArray nwv) :: (sg, listOf svs.toArray nsv) :: (pl, po12) :: (L + 1, co) :: add) F13 N13
            ⟨add, hadd, ⟨po12, co, svs, nsv, wvs, nwv, x ++ x12, _, td, now, _, cvs, ncv, chD, hp12, hco, hsv, hwv, hs0, hcv, (hcs.word y1 hxl12 hws).mono (by omega) (by omega), ⟨rfl, rfl, rfl, rfl, rfl, rfl, rfl, rfl, trivial⟩, rfl⟩⟩ ?hown ?hnx ?hin
          case hown => exact hoA
          case hnx =>
            (try dsimp only [List.nil_append, List.cons_append])
            (repeat (refine List.forall_mem_cons.mpr ⟨by (repeat (first | exact .head _ | apply List.mem_cons_of_mem)), ?_⟩))
            exact fun p hp => by
              have hp := hsubA p hp
              repeat (first | exact hp | apply List.mem_cons_of_mem)
          case hin =>
            exact fun p hp => by
              have hp := hsub p hp
              repeat (first | exact hp | apply List.mem_cons_of_mem)
  · intro m₁ nx h4' tk4 hJ F4 N4
    obtain ⟨add, hadd, hT⟩ := hJ
    exact nextEnd F4 N4 ⟨n, add, hn6, hT⟩
theorem off29 : True := by (w_top off); exact True.intro
/-- the time scale's words -/
inductive ScaleIs : List Value → List (List Nat) → Prop
  | a (t u : Tok) : ScaleIs [.str (Str.ofString "1") t, .str (Str.ofString "ns") u] [[49], [110, 115]]
  | b (t : Tok) : ScaleIs [.str (Str.ofString "10us") t] [[49, 48, 117, 115]]
  | c (t u v : Tok) : ScaleIs [.str (Str.ofString "100") t, .str (Str.ofString "") u, .str (Str.ofString "fs") v] [[49, 48, 48], [], [102, 115]]
theorem ScaleIs.laid {slv : List Value} {xs : List (List Nat)} (h : ScaleIs slv xs) : ∃ n, n ≤ 10 ∧ xs.length ≤ 3 ∧ slv.length ≤ 3 ∧ Laid slv xs n := by
  cases h with
  | a t u => exact ⟨_, by decide, by decide, Nat.le_of_ble_eq_true rfl, .cons 1 _ (by decide +kernel) (by decide) (by decide) (.cons 2 _ (by decide +kernel) (by decide) (by decide) .nil)⟩
  | b t => exact ⟨_, by decide, by decide, Nat.le_of_ble_eq_true rfl, .cons 4 _ (by decide +kernel) (by decide) (by decide) .nil⟩
  | c t u v => exact ⟨_, by decide, by decide, Nat.le_of_ble_eq_true rfl, .cons 3 _ (by decide +kernel) (by decide) (by decide) (.cons 0 _ (by decide +kernel) (by decide) (by decide) (.cons 2 _ (by decide +kernel) (by decide) (by decide) .nil))⟩
def dueOf (xs : List (List Nat)) : Str := Txt.join (Str.ofString " ") ((xs.filter fun x => decide (x ≠ [])).map toS)
theorem pick_ref3 {prog : Program} {w : World} {A : Around} {E : Value → Shared → Prop} {s : Shared} {value slice : PySem.Expr} {l a b c : Addr} {i : Int} {u : Tok} {Q : Value → Shared → Prop}
    (hl : s.heap.IsList l [Value.ref a, Value.ref b, Value.ref c].toArray) (h0 : 0 ≤ i) (h1 : i < 3) (h : ∀ r, r = a ∨ r = b ∨ r = c → Q (.ref r) s)
    (hs : subscripted slice false (.ref l) (.int i u) = operate [.ref l, .int i u] (getItem (.ref l) (.int i u)) := by with_unfolding_all rfl) :
    wpAny (model prog w) A (subscriptTail value slice (.ref l) (.int i u)) Q E s := by
  have hi : i = 0 ∨ i = 1 ∨ i = 2 := by omega
  rcases hi with rfl | rfl | rfl
  · exact tail_any hl.typeIs slot_list_getitem.lookup (wpAny_getItem_list hl h0 (by omega) (x := .ref a) rfl (h a (.inl rfl))) hs
  · exact tail_any hl.typeIs slot_list_getitem.lookup (wpAny_getItem_list hl h0 (by omega) (x := .ref b) rfl (h b (.inr (.inl rfl)))) hs
  · exact tail_any hl.typeIs slot_list_getitem.lookup (wpAny_getItem_list hl h0 (by omega) (x := .ref c) rfl (h c (.inr (.inr rfl)))) hs
theorem ns_ok {a b c : Int} (h1 : 0 ≤ a) (h2 : a < 4) (h3 : 0 ≤ b) (h4 : b < 3) (h5 : 0 ≤ c) (h6 : c < 6) : NsOK [2 + a, 1 + b, 1 + c] := by
  refine ⟨rfl, fun j hj => ?_⟩
  have : j = 0 ∨ j = 1 ∨ j = 2 := by omega
  rcases this with rfl | rfl | rfl
  · show 1 ≤ 2 + a ∧ 2 + a ≤ 6; omega
  · show 1 ≤ 1 + b ∧ 1 + b ≤ 6; omega
  · show 1 ≤ 1 + c ∧ 1 + c ≤ 6; omega
local macro_rules | `(tactic| walk_at "exec For Name Call cons nil") => `(tactic| refine Stop.go ?_)
theorem cw_comp {M : Model} {A : Around} {E : Value → Shared → Prop} {s : Shared} {env : Env} {pos p : Pos} {id : String} {first : List Value} {rest : List Expr} {Q : Value → Shared → Prop} {e : Expr} {gs : List Comprehension} {sc : Scope} (h : wpAny M A (spliced (backTo pos (starEach ((.ListComp e gs sc p) :: rest) env))) (fun vs s₁ => wpAny M A (call (.builtin id) (first ++ vs)) Q E s₁) E s)
    (hplain : (backTo pos (starEach rest env)).any (·.1) = false) : wpAny M A (callWith pos (.builtin id) first (backTo pos (starEach ((.ListComp e gs sc p) :: rest) env)) []) Q E s := PyProof.Rows.callWith_method1 h rfl hplain
local macro_rules | `(tactic| walk_at "callWith") => `(tactic| (refine cw_comp ?_ (by with_unfolding_all exact rfl)))
theorem ScaleIs.fits {slv : List Value} {xs : List (List Nat)} (h : ScaleIs slv xs) : (((xs.filter fun x => decide (x ≠ [])).map toS).map (·.length)).sum + ((xs.filter fun x => decide (x ≠ [])).map toS).length * (Str.ofString " ").length ≤ 16777216 := by
  cases h <;> decide +kernel
theorem ScaleIs.start {slv : List Value} {xs : List (List Nat)} {ns : List Int} {x : List Nat} (h : ScaleIs slv xs) (hx : ∀ rest, words (x ++ rest) = (wTS :: (xs ++ [END])).filter (fun x => decide (x ≠ [])) ++ words rest) (hl : x.length ≤ 200) :
    LSx ns (dueOf xs) 0 200 0 x ⟨dueOf xs, [], [], []⟩ := by
  have hd : DecT x ⟨dueOf xs, [], [], []⟩ := by
    have e : ∀ ys, dueOf xs = Txt.join (Str.ofString " ") (ys.map toS) → (∀ rest, words (x ++ rest) = (wTS :: (ys ++ [END])) ++ words rest) → END ∉ ys → ys.length ≤ 1000 → sumLen (ys.map toS) ≤ 10000 → DecT x ⟨dueOf xs, [], [], []⟩ := by
      intro ys h1 h2 h3 h4 h5
      rw [h1]
      exact DecT.nil.step (x := x) h2 h3 h4 (.scale _ ys h4 h5)
    cases h with
    | a t u => exact e [[49], [110, 115]] rfl hx (by decide) (by decide) (by decide)
    | b t => exact e [[49, 48, 117, 115]] rfl hx (by decide) (by decide) (by decide)
    | c t u v => exact e [[49, 48, 48], [102, 115]] rfl hx (by decide) (by decide) (by decide)
  exact ⟨hd, hl, rfl, Nat.le_refl _, Nat.le_refl _, rfl, Nat.le_refl _, (fun k hk d => by rfl), (fun v hv => nomatch hv), (fun h => by omega), (fun x hx => nomatch hx), (fun x hx => nomatch hx)⟩
local macro_rules | `(tactic| walk_at "subscriptTail") => `(tactic| ((with_reducible show wpAny _ _ (subscriptTail (Expr.List (Expr.List _ _ :: _) _) _ (Value.ref _) (Value.int _ _)) _ _ _); refine Stop.go ?_))
theorem ScaleIs.strs {slv : List Value} {xs : List (List Nat)} (h : ScaleIs slv xs) : StrsAre slv (xs.map toS) := h.laid.choose_spec.2.2.2.strs
theorem filter_toS (xs : List (List Nat)) : (xs.map toS).filter (fun x : Str => x != Str.ofString "") = (xs.filter fun x => decide (x ≠ [])).map toS := by
  rw [List.filter_map]
  congr 1
  refine List.filter_congr fun x hx => ?_
  show (toS x != Str.ofString "") = _
  rw [show Str.ofString "" = toS [] from by decide +kernel]
  by_cases h : x = []
  · rw [h]; decide
  · rw [decide_eq_true h]
    exact bne_iff_ne.mpr fun e => h (toS_inj e)
local macro_rules | `(tactic| walk_at "exec Assign cons ListComp") => `(tactic| refine Stop.go ?_)
def sgEq (x : Str) : Value → Bool
  | .str a _ => a == x
  | _ => false
theorem index_sign {prog : Program} {w : World} {A : Around} {E : Value → Shared → Prop} {s : Shared} {g : Heap} {L D : Addr} {news : List (Addr × Obj)} {vs : List Value} {n k : Nat} {t : Tok} {Q : Value → Shared → Prop} (N : News g L s.heap news) (hm : (D, listOf vs.toArray n) ∈ news) (hS : StrsAre vs (sgN.map toS)) (hk : k < 3) (h : ∀ t' k', Q (.int (k : Nat) t') { s with toks := k' }) :
    wpAny (model prog w) A (call (.builtin "list.index") [.ref D, .str (toS (sgN.getD k [])) t]) Q E s := by
  obtain ⟨t0, t1, t2, rfl⟩ : ∃ t0 t1 t2, vs = [Value.str (toS [33]) t0, .str (toS [48, 120]) t1, .str (toS [35, 36]) t2] := by
    cases hS with
    | cons _ t0 r => cases r with
      | cons _ t1 r => cases r with
        | cons _ t2 r => cases r; exact ⟨t0, t1, t2, rfl⟩
  have hk3 : k = 0 ∨ k = 1 ∨ k = 2 := by omega
  refine call_meets PySem.F.slot_list_index ⟨_, (N _ hm).1, rfl⟩ PySem.F.entry_list_index (PySem.F.args_list_index_2 _ _)
    (PySem.SeqAt.list_indexAt D [Value.str (toS [33]) t0, .str (toS [48, 120]) t1, .str (toS [35, 36]) t2].toArray n none #[] (.str (toS (sgN.getD k [])) t) (sgEq (toS (sgN.getD k []))) k (by simp; omega) (by omega) ?_ ?_) ⟨(N _ hm).1, ?_, h _ _⟩
  · rcases hk3 with rfl | rfl | rfl
    · show (toS [33] == toS [33]) = true; decide +kernel
    · show (toS [48, 120] == toS [48, 120]) = true; decide +kernel
    · show (toS [35, 36] == toS [35, 36]) = true; decide +kernel
  · intro m hm hlt
    rcases hk3 with rfl | rfl | rfl
    · omega
    · have : m = 0 := by omega
      subst this
      show (toS [33] == toS [48, 120]) = false; decide +kernel
    · have : m = 0 ∨ m = 1 := by omega
      rcases this with rfl | rfl
      · show (toS [33] == toS [35, 36]) = false; decide +kernel
      · show (toS [48, 120] == toS [35, 36]) = false; decide +kernel
  · intro y hy
    have : y = .str (toS [33]) t0 ∨ y = .str (toS [48, 120]) t1 ∨ y = .str (toS [35, 36]) t2 := by simpa using hy
    rcases this with rfl | rfl | rfl <;> exact PySem.SeqAt.EqAt.str_str _ _ _ _
theorem ints_of : ∀ {ys : List Value} {n : Nat} {R : Int → Prop}, ys.length = n → (∀ (i : Nat) (y : Value), ys[i]? = some y → ∃ k t, y = Value.int k t ∧ R k) → ∃ ks : List Int, IntsAre ys ks ∧ ks.length = n ∧ ∀ k ∈ ks, R k
  | [], _, _, h, _ => ⟨[], .nil, h, fun k hk => nomatch hk⟩
  | y :: ys, n, R, h, hr => by
    obtain ⟨k, t, rfl, hk⟩ := hr 0 y rfl
    obtain ⟨ks, h1, h2, h3⟩ := ints_of (ys := ys) (R := R) rfl fun i y hy => hr (i + 1) y (by simpa using hy)
    exact ⟨k :: ks, .cons k t h1, by simp [h2, ← h], fun z hz => by
      rcases List.mem_cons.mp hz with rfl | hz
      · exact hk
      · exact h3 z hz⟩
theorem DatAll.at {n : List (Addr × Obj)} {vs : List Value} {ds : List Dat} (h : DatAll n vs ds) {i : Nat} {v : Value} (hv : vs[i]? = some v) : ∃ d ∈ ds, DatIn n v d := by
  have hi : i < ds.length := by
    have := (List.getElem?_eq_some_iff.mp hv).1
    rw [h.length] at this; exact this
  obtain ⟨v', hv', hd⟩ := h.get hi
  rw [hv] at hv'
  cases hv'
  exact ⟨_, List.getElem_mem hi, hd⟩
theorem row_of {n : List (Addr × Obj)} {v : Value} {a : Str} {b : Int} {c x : Str} (h : DatIn n v (.tuple [.str a, .int b, .str c, .str x])) : ∃ ra k t1 t2 t3 t4, v = .ref ra ∧ (ra, ({ cls := .type "tuple", data := .seq [Value.str a t1, .int b t2, .str c t3, .str x t4].toArray k } : Obj)) ∈ n := by
  cases h with
  | tuple hm hd => cases hd with
    | cons h1 r => cases r with
      | cons h2 r => cases r with
        | cons h3 r => cases r with
          | cons h4 r =>
            cases r; cases h1; cases h2; cases h3; cases h4
            exact ⟨_, _, _, _, _, _, rfl, hm⟩
theorem news_fresh {g h h' : Heap} {L : Addr} {m : Str → Option Value} {news new : List (Addr × Obj)} (F : Fr g L h m) (N : News g L h news) (S : Stays [] h h') (hq : ∀ q ∈ new, h'.get? q.1 = some q.2 ∧ h.get? q.1 = none) : News g L h' (new ++ news) := fun p hp => by
  rcases List.mem_append.mp hp with hp | hp
  · obtain ⟨h1, h2⟩ := hq p hp
    refine ⟨h1, fun e => ?_, ?_⟩
    · obtain ⟨oL, _, _, hL, _⟩ := F.ns
      rw [e, hL] at h2; cases h2
    · cases q : g.get? p.1 with
      | none => rfl
      | some o => rw [F.keep _ _ q] at h2; cases h2
  · exact news_after N S p hp
local macro_rules | `(tactic| walk_at "compareOp Eq ref ref") => `(tactic| refine Stop.go ?_)
local macro_rules | `(tactic| walk_at "compareOp Eq str str") => `(tactic| refine Stop.go ?_)
theorem off30 : True := by (w_top off); exact True.intro
open Classical in
theorem law_tail {w : World} {mean : ExcName → Option Value} {mg mb : Str → Option Value} {g : Heap} {L fa pl sg wi du kn ch : Addr} {cd : Value} {s : Shared} {body rest : List Stmt} {scope : Scope} {ns : List Int} {due : Str} {P : List Nat} {b i n a0 b0 : Nat} {dvs kvs : List Value} {ndv nkv : Nat} {add0 add : List (Addr × Obj)} {txt0 : List Nat} {σ : DS} {m : Str → Option Value} {news : List (Addr × Obj)}
   (hl : LawIs w body scope) (hst : body.drop 15 = rest) (X : (top0.heap_1 w.params).In g) (T : Top Mine.viewK (looseW Mine.viewK [Str.ofString "GateloomError"]) mean mg mb g)
   (F : Fr g L s.heap m) (N : News g L s.heap news) (H : T2 L pl sg wi du kn ch ns due σ.wid P b i dvs ndv kvs nkv add0 add add [] [] m news)
   (hdv : DatAll add0 dvs σ.vars) (hls : LSx ns due a0 b0 n txt0 σ) (hD : ∀ x, Decl (words (P ++ x)) ⟨Str.ofString "", [], [], []⟩ σ (words x)) (hP : P.length ≤ 5000) (hb : b ≤ 5000) :
   wpAny (model Challenge.rw_sj0032_01.row.prog w) (lawA scope L fa cd) (execs rest (lawEnv scope L fa cd))
     (fun f s' => f = .ret (.bool true) ∧ ∃ h' tk', s' = { s with heap := h', toks := tk' } ∧ g.StaysIn h') (fun _ _ => False) s := by
  refine fill (top0.heap_1 w.params) ?_
  k_fill
  intro _
  refine' law_lit (P := fun body scope => body.drop 15 = rest → wpAny (model Challenge.rw_sj0032_01.row.prog w) (lawA scope L fa cd) (execs rest (lawEnv scope L fa cd)) _ _ s) hl ?ho ?_ hst
  case ho => k_is
  clear hl hst
  intro hst
  k_fold
  subst hst
  dsimp only [lawA, lawEnv, List.drop]
  obtain ⟨po, co, svs, nsv, wvs, nwv, x, tt, td, now, tn, cvs, ncv, chD, hpo, hco, hsv, hwv, hs0, hcv, hcs, hm, rfl⟩ := H
  have F1 := fr_names F hm
  dsimp only [kstB, List.cons_append, List.nil_append] at F1 N
  walk_at "mine go"
  unfold Stop
  have hxl := hcs.len
  refine wp_le (d := 400) (u := 500) (read_dump_spec (s := ⟨_, _, _, _, _⟩) (σE := σ) (wsE := words x) (nowE := now) (chE := chD) X T F1.keep (by rw [str_len, List.length_append]; omega) (hD x) hcs.chg.done ?_) rfl (by with_unfolding_all exact Nat.le_of_ble_eq_true rfl) (by with_unfolding_all exact Nat.le_of_ble_eq_true rfl)
  intro h2 tk2 r lv lc tsc vvs nv cvs2 nc addR S2 hq2 hd1 hd2
  have N2 := news_fresh F1 N S2 hq2
  have F2 := fr_after F1 N S2 (fun a ha => nomatch ha)
  rw [hls.scale] at N2
  dsimp only [List.cons_append] at N2
  walk_at "mine go"
  rename_i h6 F6 N6
  unfold Stop
  refine PySem.P.eq_str ?_
  rw [beq_self_eq_true]
  walk_at "mine go"
  unfold Stop
  have hvd : ∀ p ∈ addR, p ∈ (r, ({ cls := .type "tuple", data := .seq [Value.str due tsc, .ref lv, .ref lc].toArray } : Obj)) :: (lv, listOf vvs.toArray nv) :: (lc, listOf cvs2.toArray nc) :: (addR ++ ((ch, listOf cvs.toArray ncv) :: (kn, listOf kvs.toArray nkv) :: (du, listOf dvs.toArray ndv) :: (wi, listOf wvs.toArray nwv) :: (sg, listOf svs.toArray nsv) :: (pl, po) :: (L + 1, co) :: add)) := fun p hp => .tail _ (.tail _ (.tail _ (List.mem_append_left _ hp)))
  have hva : ∀ p ∈ add, p ∈ (r, ({ cls := .type "tuple", data := .seq [Value.str due tsc, .ref lv, .ref lc].toArray } : Obj)) :: (lv, listOf vvs.toArray nv) :: (lc, listOf cvs2.toArray nc) :: (addR ++ ((ch, listOf cvs.toArray ncv) :: (kn, listOf kvs.toArray nkv) :: (du, listOf dvs.toArray ndv) :: (wi, listOf wvs.toArray nwv) :: (sg, listOf svs.toArray nsv) :: (pl, po) :: (L + 1, co) :: add)) := fun p hp => .tail _ (.tail _ (.tail _ (List.mem_append_right _ (.tail _ (.tail _ (.tail _ (.tail _ (.tail _ (.tail _ (.tail _ hp))))))))))
  refine kqd_eq N6 (.tail _ (.head _)) rfl rfl hd1 hvd (.tail _ (.tail _ (.tail _ (List.mem_append_right _ (.tail _ (.tail _ (.head _))))))) rfl rfl hdv (fun p hp => hva p (hs0 p hp)) hls.vok hls.vok (by ke_room) ?_
  rw [decide_eq_true (rfl : σ.vars = σ.vars)]
  walk_at "mine go"
  unfold Stop
  refine kqd_eq N6 (.tail _ (.tail _ (.head _))) rfl rfl hd2 hvd (.tail _ (.tail _ (.tail _ (List.mem_append_right _ (.head _))))) rfl rfl hcv hva hcs.cok hcs.cok (by ke_room) ?_
  rw [decide_eq_true (rfl : chD = chD)]
  walk_at "mine go"
  exact F6.keep
theorem off31 : True := by (w_top off); exact True.intro
theorem law_run {w : World} {mean : ExcName → Option Value} {mg mb : Str → Option Value} {g : Heap} {L fa sc : Addr} {cd : Value} {s : Shared} {body : List Stmt} {scope : Scope} {vs : List Value} {ns : List Int} {m : Str → Option Value} {co0 : Obj}
   (hl : LawIs w body scope) (X : (top0.heap_1 w.params).In g) (T : Top Mine.viewK (looseW Mine.viewK [Str.ofString "GateloomError"]) mean mg mb g)
   (hL : g.IsList sc vs.toArray) (hI : IntsAre vs ns) (hlen : ns.length ≤ 63) (F : Fr g L s.heap m) (N : News g L s.heap [(L + 1, co0)]) (hco0 : co0.data = .cell none) (hm : m (Str.ofString "script") = some (.ref sc)) :
   wpAny (model Challenge.rw_sj0032_01.row.prog w) (lawA scope L fa cd) (execs body (lawEnv scope L fa cd))
     (fun f s' => f = .ret (.bool true) ∧ ∃ h' tk', s' = { s with heap := h', toks := tk' } ∧ g.StaysIn h') (fun _ _ => False) s := by
  refine fill (top0.heap_1 w.params) ?_
  k_fill
  intro _
  have hlw := hl
  revert hlw
  refine' law_lit (P := fun body scope => LawIs w body scope → wpAny (model Challenge.rw_sj0032_01.row.prog w) (lawA scope L fa cd) (execs body (lawEnv scope L fa cd)) _ _ s) hl ?ho ?_
  case ho => k_is
  clear hl
  intro hl
  k_fold
  have F1 := fr_names F (ps := [(Str.ofString "script", .ref sc)]) ⟨hm, trivial⟩
  dsimp only [kstB, lawA, lawEnv] at F1 ⊢
  walk_at "mine go"
  rename_i a h1' tk1 pl po1 l1 lL1 hp1 hh1 tk2 sg hh2 l2 lL2 hh3 co hco tk3 hh4 tk4 po4 ka ta hpa ka0 ka1 hh5 tk5 po5 kb tb hpb kb0 kb1 hh6 tk6 po6 kc tc hpc kc0 kc1 wi hh7 l7 lL7 hh8 sa hh9 l9 lL9 sb hh10 l10 lL10 sd hh11 l11 lL11 so hh12 l12 lL12 hh13 tk13 po13 k13 t13 F13 N13 hp13 k130 k131
  unfold Stop
  have hns := ns_ok ka0 ka1 kb0 kb1 kc0 kc1
  refine pick_ref3 (isList_of N13 (by k_mem)) k130 k131 fun r hr => ?_
  obtain ⟨slv, xs, wvs, svs, hsc, hwr, hwv, hsv, N14⟩ : ∃ slv xs wvs svs, ScaleIs slv xs ∧ @LT.lt Nat _ wi r ∧ IntsAre wvs [2 + ka, 1 + kb, 1 + kc] ∧ StrsAre svs (sgN.map toS) ∧ News g L hh13 [(r, listOf slv.toArray 0), (wi, listOf wvs.toArray 0), (sg, listOf svs.toArray 0), (pl, po13), (L + 1, co)] := by
    have hI3 : ∀ t u v, IntsAre [Value.int (2 + ka) t, .int (1 + kb) u, .int (1 + kc) v] [2 + ka, 1 + kb, 1 + kc] := fun t u v => .cons _ _ (.cons _ _ (.cons _ _ .nil))
    have hS3 : ∀ t u v, StrsAre [Value.str (Str.ofString "!") t, .str (Str.ofString "0x") u, .str (Str.ofString "#$") v] (sgN.map toS) := fun t u v =>
      (Laid.cons (a := [33]) 1 t (by decide +kernel) (by decide) (by decide) (.cons (a := [48, 120]) 2 u (by decide +kernel) (by decide) (by decide) (.cons (a := [35, 36]) 2 v (by decide +kernel) (by decide) (by decide) .nil))).strs
    rcases hr with rfl | rfl | rfl
    · exact ⟨_, _, _, _, .a _ _, by first | with_reducible assumption | exact lt_new (by with_reducible assumption) (by k_mem) | omega, hI3 _ _ _, hS3 _ _ _, news_sub N13 (by walk_at "mine sub")⟩
    · exact ⟨_, _, _, _, .b _, by first | with_reducible assumption | exact lt_new (by with_reducible assumption) (by k_mem) | omega, hI3 _ _ _, hS3 _ _ _, news_sub N13 (by walk_at "mine sub")⟩
    · exact ⟨_, _, _, _, .c _ _ _, by first | with_reducible assumption | exact lt_new (by with_reducible assumption) (by k_mem) | omega, hI3 _ _ _, hS3 _ _ _, news_sub N13 (by walk_at "mine sub")⟩
  clear N13
  have ha1 : @LT.lt Nat _ (L + 1) pl := by first | with_reducible assumption | exact lt_new (by with_reducible assumption) (by k_mem) | omega
  have ha2 : @LT.lt Nat _ pl sg := by first | with_reducible assumption | exact lt_new (by with_reducible assumption) (by k_mem) | omega
  have ha3 : @LT.lt Nat _ sg wi := by first | with_reducible assumption | exact lt_new (by with_reducible assumption) (by k_mem) | omega
  have hsr : Srt [L + 1, pl, sg, wi, r] := .add ha1 (.add ha2 (.add ha3 (.add hwr .one)))
  obtain ⟨nn, hn10, hxl, hsl, hLd⟩ := hsc.laid
  walk_at "mine go"
  unfold Stop
  walk_at "mine laid"
  case hL => exact .cons 10 _ toS_ts.symm (by decide) (by decide) (hLd.app (.cons 4 _ toS_end (by decide) (by decide) .nil))
  case hn => omega
  case hxl => simp only [List.length_append, List.length_cons, List.length_nil]; omega
  intro h15 tk15 po15 x15 t15 F15 N15 hp15 hx15 hw15
  (try dsimp only at N15)
  walk_at "mine go"
  rename_i lA hA' lA1 lAL lB hB' lB1 lBL lC hC' lC1 lCL lD hD' lD1 lDL h17 F17 N17
  unfold Stop
  have N18 : News g L h17 [(r, listOf slv.toArray 0), (wi, listOf wvs.toArray 0), (sg, listOf svs.toArray 0), (pl, po15), (L + 1, co)] := news_sub N17 (by walk_at "mine sub")
  have hfit := hsc.fits
  have hst := hsc.start (ns := [2 + ka, 1 + kb, 1 + kc]) hw15 (by simp only [List.length_append, List.length_cons, List.length_nil] at hx15; omega)
  have hss := hsc.strs.areOf
  clear N17
  refine' srcC_listDW (K := .str) (as := xs.map toS) (pz := fun x : Str => x != Str.ofString "") (d := fun x => PyData.str x) ?hh ?hl ?hi ?F ?N ?g1 ?g2 ?g3 ?hsz
  case hh => exact rfl
  case hl => is_list
  case hi => exact hss
  case F => exact F17
  case N => exact N18
  case hsz => rw [sizeLine_eq, List.length_map]; omega
  case g1 =>
    intros
    rename ItemKind.is _ _ _ => i'
    obtain ⟨_, e'⟩ := ItemKind.str_is i'
    subst e'
    walk_at "mine go"
    exact ⟨_, _, rfl, fun _ _ e => e⟩
  case g2 =>
    intros
    rename ItemKind.is _ _ _ => i'
    obtain ⟨_, e'⟩ := ItemKind.str_is i'
    subst e'
    (try (with_reducible refine wpAny_leafK ?_))
    walk_at "mine go"
  case g3 =>
    intro D ys h18 tk18 F18 N19 hD hlD hPD hC
    have hys := StrsAre.of_carried hC
    rw [filter_toS] at hys
    clear N18 F17
    walk_at "mine go"
    unfold Stop
    refine' join_list (ys := (xs.filter fun x => decide (x ≠ [])).map toS) hlD ?jb ?jc ?_
    case jb => simpa using hys
    case jc => exact hfit
    intro t19 k19
    clear hlD hPD hC
    walk_at "mine go"
    unfold Stop
    rename_i op hA1 l20 lL20 hA2 tk20 du hA3 l21 lL21 h20 F20 N20
    refine' wpAny_noRaise (wpAny_mono (law_for1 (g := g) (L := L) (fa := fa) (pl := pl) (sg := sg) (wi := wi) (op := op) (du := du) (cd := cd) (ns := [2 + ka, 1 + kb, 1 + kc]) (due := dueOf xs) hl rfl X T ?F ?N ?c1 ?c2 ?c3 ?c4 ?c5 hns ?H) (fun f s' hv => ?_) fun _ _ e => e)
    case F => exact F20
    case N => exact news_sub N20 (n' := [(du, listOf ([] : List Value).toArray 0), (op, listOf ([] : List Value).toArray 0), (wi, listOf wvs.toArray 0), (sg, listOf svs.toArray 0), (pl, po15), (L + 1, co)]) (by walk_at "mine sub")
    case c1 => (first | with_reducible assumption | exact lt_new (by with_reducible assumption) (by k_mem) | omega)
    case c2 => (first | with_reducible assumption | exact lt_new (by with_reducible assumption) (by k_mem) | omega)
    case c3 => (first | with_reducible assumption | exact lt_new (by with_reducible assumption) (by k_mem) | omega)
    case c4 => (first | with_reducible assumption | exact lt_new (by with_reducible assumption) (by k_mem) | omega)
    case c5 => (first | with_reducible assumption | exact lt_new (by with_reducible assumption) (by k_mem) | omega)
    case H => exact ⟨po15, co, svs, 0, wvs, 0, [], 0, x15, t15, t19, ⟨dueOf xs, [], [], []⟩, hp15, hco, hsv, hwv, .nil, .nil, hst, ⟨rfl, rfl, rfl, rfl, rfl, rfl, trivial⟩, rfl⟩
    obtain ⟨rfl, h21, tk21, m21, nx21, rfl, F21, N21, i, dvs, ndv, add, hi1, hi4, hadd, hT⟩ := hv
    have hc1 : @LT.lt Nat _ (L + 1) pl := by first | with_reducible assumption | exact lt_new (by with_reducible assumption) (by k_mem) | omega
    have hc2 : @LT.lt Nat _ pl sg := by first | with_reducible assumption | exact lt_new (by with_reducible assumption) (by k_mem) | omega
    have hc3 : @LT.lt Nat _ sg wi := by first | with_reducible assumption | exact lt_new (by with_reducible assumption) (by k_mem) | omega
    have hc4 : @LT.lt Nat _ wi op := by first | with_reducible assumption | exact lt_new (by with_reducible assumption) (by k_mem) | omega
    have hc5 : @LT.lt Nat _ op du := by first | with_reducible assumption | exact lt_new (by with_reducible assumption) (by k_mem) | omega
    clear F20 N20 hst hsc hfit hss hys
    generalize hdue : dueOf xs = due at hT
    generalize hnsE : ([2 + ka, 1 + kb, 1 + kc] : List Int) = nsL at hT hns
    clear hdue hnsE
    obtain ⟨po, co, svs, nsv, wvs, nwv, ovs, nov, txt, tt, td, σ, hpo, hco, hsv, hwv, hov, hdv, hls, hm', rfl⟩ := hT
    have F21 := fr_names F21 hm'
    dsimp only [kstB, List.cons_append, List.nil_append] at F21 N21
    have htl := hls.len
    walk_at "mine go"
    unfold Stop
    walk_at "mine laid"
    case hL => exact .cons 15 _ toS_ed.symm (by decide) (by decide) (.cons 4 _ toS_end (by decide) (by decide) .nil)
    case hn => decide
    case hxl => decide
    intro h22 tk22 po22 x22 t22 F22 N22 hp22 hx22 hw22
    (try dsimp only at N22)
    have hxl22 : x22.length ≤ 100 := Nat.le_trans hx22 (Nat.le_of_ble_eq_true rfl)
    have hws22 := words_of hw22 (by decide)
    walk_at "mine go"
    unfold Stop
    rename_i l23 h23' l231 lL23 t23 k23 h23 F23 N23
    have hdvl : dvs.length = i := by rw [hdv.length, hls.vl]
    have N24 : News g L h23 ((du, listOf dvs.toArray ndv) :: (wi, listOf wvs.toArray nwv) :: (sg, listOf svs.toArray nsv) :: (pl, po22) :: (L + 1, co) :: add) := news_sub N23 (by walk_at "mine sub")
    refine LCg.Assign_ListComp_U (F₀ := F23) (by rfl) (by with_unfolding_all rfl) (by with_unfolding_all rfl) (by decide) (by rfl) (by decide) (by rfl) (by rfl) (by rfl) ?_
    walk1
    clear N23
    refine LCg.CompSrc.ledger (by rfl) F23 N24 (.head _) (by rw [sizeLine_eq, List.size_toArray]; omega) ?_
    intro g'
    refine comp_turns (fun _ y => ∃ k t, y = Value.int k t ∧ ∃ q : Nat, k = (q : Int) ∧ q < 3 ∧ kdpHas σ.wid (toS (sgN.getD q [])) = true) ?_ ?_
    · intro j v I oI C oC D m₂ ys h tk9 E' hj hv hC hx F25 N25 off ne
      obtain ⟨d, hdm, hd⟩ := DatAll.at hdv (i := j) (v := v) (by simpa using hv)
      obtain ⟨pa, pb, pc, q, hq3, rfl, hqh⟩ := hls.vars d hdm
      obtain ⟨ra, kr, t1, t2, t3, t4, rfl, hra⟩ := row_of hd
      have N26 : News g L h ((ra, ({ cls := .type "tuple", data := .seq [Value.str pa t1, .int pb t2, .str pc t3, .str (toS (sgN.getD q [])) t4].toArray kr } : Obj)) :: (I, oI) :: (C, oC) :: (sg, listOf svs.toArray nsv) :: (L + 1, co) :: []) := news_sub N25 (by
        refine List.forall_mem_cons.mpr ⟨?_, ?_⟩
        · exact .tail _ (.tail _ (.tail _ (.tail _ (.tail _ (.tail _ (.tail _ (.tail _ hra)))))))
        · (repeat (refine List.forall_mem_cons.mpr ⟨by (repeat (first | exact .head _ | apply List.mem_cons_of_mem)), ?_⟩)); exact fun p hp => nomatch hp)
      clear hv N24
      walk_at "mine go"
      refine index_sign N26 (by k_mem) hsv hq3 fun t' k' => ?_
      exact ⟨h, _, _, rfl, F25, N25, off, .inr ⟨_, .head _, rfl, _, rfl⟩, rfl, ⟨_, _, rfl, q, rfl, hq3, hqh⟩⟩
    · intro ys hyl hr
      unfold LCg.FinA
      intro D h26 tk26 F26 N26 o26
      obtain ⟨ks, hki, hkl, hkk⟩ := ints_of hyl hr
      rw [List.size_toArray, hdvl] at hkl
      have F27 := fr_names F26 (ps := [(Str.ofString "known", .ref D), (Str.ofString "pool", .ref pl), (Str.ofString "wides", .ref wi), (Str.ofString "text", .str (toS (txt ++ x22)) t23), (Str.ofString "due_scale", .str due td), (Str.ofString "dues", .ref du)]) ⟨rfl, rfl, rfl, rfl, rfl, rfl, trivial⟩
      have N27 : News g L h26 ((D, listOf ys.toArray ys.length) :: (du, listOf dvs.toArray ndv) :: (wi, listOf wvs.toArray nwv) :: (sg, listOf svs.toArray nsv) :: (pl, po22) :: (L + 1, co) :: add) := N26
      dsimp only [kstB] at F27 ⊢
      clear F26 N26 F23 N24
      obtain ⟨o1, o2, o3, o4, o5, o6⟩ := o26
      obtain ⟨n0, t0, wr, rfl, hn0⟩ : ∃ n0 t0 wr, wvs = Value.int n0 t0 :: wr ∧ nsL.getD 0 0 = n0 := by
        cases hwv with
        | nil => exact absurd hns.len (by decide)
        | cons n0 t0 r => exact ⟨n0, t0, _, rfl, rfl⟩
      obtain ⟨hW1, hW6⟩ := hns.bnd 0 (by decide)
      have hW66 : wdK nsL 0 ≤ 6 := by unfold wdK; omega
      have hW61 : 1 ≤ wdK nsL 0 := by unfold wdK; omega
      have hWi : n0 = ((wdK nsL 0 : Nat) : Int) := by rw [← hn0]; exact (Int.toNat_of_nonneg (by omega)).symm
      walk_at "mine go"
      unfold Stop
      walk_at "mine laid"
      case hL => exact .cons (a := [98, 88]) 2 _ (by decide +kernel) (by decide) (by decide) (.cons (a := [33]) 1 _ (by decide +kernel) (by decide) (by decide) .nil)
      case hn => decide
      case hxl => decide
      intro h28 tk28 po28 x28 t28 F28 N28 hp28 hx28 hw28
      (try dsimp only at N28)
      have hxl28 : x28.length ≤ 100 := Nat.le_trans hx28 (Nat.le_of_ble_eq_true rfl)
      have hws28 := words_of hw28 (by decide)
      walk_at "mine go"
      unfold Stop
      walk_at "mine filled"
      case hx => exact (by decide +kernel : Str.ofString "x" = toS [120])
      case hWi => exact hWi
      case h6 => intro c hc; rw [List.mem_singleton.mp hc]; decide
      case hl => exact hW61
      case hW => omega
      intro h29 tk29 rf of F29 N29 l29 lL29 hdf
      k_lt l29
      k_lt2 lL29
      walk_at "mine go"
      unfold Stop
      rename_i t30 k30 h30 tk30 lt h31 lt1 ltL chA h32 ch1 chL h33 F33 N33
      obtain ⟨tka, tkb, N35⟩ : ∃ ta tb, News g L h33 ((chA, listOf [Value.ref lt].toArray 0) :: (D, listOf ys.toArray ys.length) :: (du, listOf dvs.toArray ndv) :: (wi, listOf (Value.int n0 t0 :: wr).toArray nwv) :: (sg, listOf svs.toArray nsv) :: (pl, po28) :: (L + 1, co) :: (lt, ({ cls := .type "tuple", data := .seq [Value.int 0 ta, .str (Str.ofString "!") tb, .ref rf].toArray } : Obj)) :: (rf, of) :: add) := ⟨_, _, news_sub N33 (by walk_at "mine sub")⟩
      have hAch : AllLt chA add := allLt_of fun p hp => ch1 p (by repeat (first | exact hp | apply List.mem_cons_of_mem))
      have hAlt := allLt_mem hAch
      have hCS0 : CS σ.wid 0 0 [] 0 [] := ⟨ChgT.nil _, Nat.le_refl _, Nat.le_refl _, Nat.zero_le _, fun c hc => nomatch hc⟩
      have hCS := (hCS0.vec (f := 98) (c := 88) (ds := []) (k := 0) (y := x28) hls.wid hns.bnd (by decide) (hls.first hi1) (by decide) (.inl rfl) (fun c hc => by rw [List.mem_singleton.mp hc]; decide) hW61 hxl28 hws28).mono (b' := 200) (i' := 1) (by decide) (Nat.le_refl _)
      have ho6 : ∀ p ∈ add, @Ne Nat p.1 D := by
        clear hdv hadd hls hAlt hAch ch1 chL lt1 l29
        have hh : ∀ l : List (Addr × Obj), LCg.Off1 D l → ∀ p ∈ l, @Ne Nat p.1 D := by
          intro l
          induction l with
          | nil => intro _ p hp; cases hp
          | cons q r ih =>
            intro h p hp
            rcases List.mem_cons.mp hp with e | hp
            · rw [e]; exact h.1
            · exact ih h.2 p hp
        exact hh add o6
      refine' wpAny_noRaise (wpAny_mono (law_for2 (g := g) (L := L) (fa := fa) (pl := pl) (sg := sg) (wi := wi) (du := du) (kn := D) (ch := chA) (cd := cd) (ns := nsL) (due := due) (wd := σ.wid) (P := txt ++ x22) (dvs := dvs) (kvs := ys) (ndv := ndv) (nkv := ys.length) (add0 := add) (ks := ks) hl rfl X T ?F ?N ?c1 ?c2 ?c3 ?c4 ?c5 ?c6 ?c7 ?c8 ?c9 ?c10 ?c11 hns hki ?hks hls.wid ?hP ?ha1 ?H) (fun f s' hv => ?_) fun _ _ e => e)
      case F => exact F33
      case N => exact N35
      case c1 => (first | with_reducible assumption | exact lt_new (by with_reducible assumption) (by k_mem) | omega)
      case c2 => (first | with_reducible assumption | exact lt_new (by with_reducible assumption) (by k_mem) | omega)
      case c3 => (first | with_reducible assumption | exact lt_new (by with_reducible assumption) (by k_mem) | omega)
      case c4 => (first | with_reducible assumption | exact lt_new (by with_reducible assumption) (by k_mem) | omega)
      case c5 => exact lt_new ch1 (by k_mem)
      case c6 => exact lt_new ch1 (by k_mem)
      case c7 => (first | with_reducible assumption | exact Ne.symm (by with_reducible assumption) | k_ne)
      case c8 => (first | with_reducible assumption | exact Ne.symm (by with_reducible assumption) | k_ne)
      case c9 => (first | with_reducible assumption | exact Ne.symm (by with_reducible assumption) | k_ne)
      case c10 => (first | with_reducible assumption | exact Ne.symm (by with_reducible assumption) | k_ne)
      case c11 => (first | with_reducible assumption | exact Ne.symm (by with_reducible assumption) | k_ne)
      case hks => exact ⟨by omega, by omega, hkk⟩
      case hP => rw [List.length_append]; omega
      case H => exact ⟨po28, co, svs, nsv, Value.int n0 t0 :: wr, nwv, x28, t30, td, 0, _, [Value.ref lt], 0, [chgD 0 (sgN.getD 0 []) [88] (wdK nsL 0)], hp28, hco, hsv, hwv, (fun p hp => .tail _ (.tail _ hp)),
          .one (.tuple (.head _) (.cons (.int _ _) (.cons (by rw [show toS (sgN.getD 0 []) = Str.ofString "!" from by decide +kernel]; exact .str _ _) (.cons (hdf.mono fun p hp => by rw [List.mem_singleton.mp hp]; exact .tail _ (.head _)) .nil)))), hCS, ⟨rfl, rfl, rfl, rfl, rfl, rfl, rfl, rfl, trivial⟩, rfl⟩
      case ha1 =>
        intro p hp q hq
        have hle : ∀ q ∈ [chA, D, du, wi, sg, pl, L + 1], @Ne Nat rf q ∧ @Ne Nat lt q := by
          simp only [List.forall_mem_cons]
          exact ⟨⟨ne_new ch1 (by k_mem), ne_new ch1 (by k_mem)⟩, ⟨by k_ne, by k_ne⟩, ⟨by k_ne, by k_ne⟩, ⟨by k_ne, by k_ne⟩, ⟨by k_ne, by k_ne⟩, ⟨by k_ne, by k_ne⟩, ⟨by k_ne, by k_ne⟩, fun x hx => nomatch hx⟩
        rcases List.mem_cons.mp hp with e | hp
        · rw [e]; exact (hle q hq).2
        · rcases List.mem_cons.mp hp with e | hp
          · rw [e]; exact (hle q hq).1
          · rcases List.mem_cons.mp hq with e | hq
            · rw [e]; exact Nat.ne_of_lt (hAlt p hp)
            · rcases List.mem_cons.mp hq with e | hq
              · rw [e]; exact ho6 p hp
              · refine hadd p hp q ?_
                have : ∀ q ∈ [du, wi, sg, pl, L + 1], q ∈ [du, op, wi, sg, pl, L + 1] := by simp
                exact this q hq
      obtain ⟨rfl, h34, tk34, m34, nx34, rfl, F34, N34, j, addE, hj6, hT2⟩ := hv
      clear F33 N33 N35 hCS hCS0 hdf hwv hsv hco hp28 hm
      refine' wpAny_noRaise (wpAny_mono (law_tail hl rfl X T ?F ?N hT2 hdv hls (fun x => hls.dec.done hws22 x) ?hP2 ?hb2) (fun f s' hp => ?_) fun _ _ e => e)
      case F => exact F34
      case N => exact N34
      case hP2 => rw [List.length_append]; omega
      case hb2 => omega
      obtain ⟨rfl, h35, tk35, rfl, hb35⟩ := hp
      exact ⟨rfl, _, _, rfl, hb35⟩
end Mine
local macro_rules | `(tactic| k_qdec) => `(tactic| decide +kernel)
set_option maxHeartbeats 8000000 in
theorem PySem.Challenge.cw_sj0032_01_holds : PySem.Challenge.rw_sj0032_01.Holds :=
  Mine.top0 (by
  k_go0
  rename Top _ _ _ _ _ _ => T
  rename (Mine.top0.heap_1 _).In _ => KX
  rename Fr _ _ _ _ => F
  rename News _ _ _ _ => N
  rename Heap.IsList _ _ _ => hL
  rename IntsAre _ _ => hI
  rename Obj.data _ = Data.cell _ => hco
  refine' wpAny_noRaise (wpAny_mono (Mine.law_run ?hl ?X ?T ?hL ?hI ?hlen ?F ?N ?hco ?hm) (fun f s' hp => ?_) fun _ _ e => e)
  case hl => exact ⟨_, _, _, _, _, _, _, _, _, _, _, _, _, by k_is⟩
  case X => exact KX
  case T => exact T
  case hL => exact hL
  case hI => exact hI
  case hlen => omega
  case F => exact F
  case N => exact N
  case hco => rw [hco]; rfl
  case hm => rfl
  obtain ⟨rfl, h', tk', rfl, hb⟩ := hp
  rename Shared.gens _ = #[] => hg
  refine ⟨.inl ⟨Value.bool true, ?d, ?as, rfl, ?h1, ?h2, ?h3, ?h4⟩, ?h5, rfl, hg⟩
  case h5 => exact fun b o e => hb b o e
  case h2 => exact .bool true
  case h3 => exact postW_of (by wrow_shape) (by wtm_val) rfl
  case h1 => intro cls; rfl
  case h4 => exact fun _ => ⟨List.nodup_nil, fun a ha => nomatch ha⟩)
