import PyProof.Rows.All
import Wide.All
import OpenK.AllK
import Wide.FinOn
import Lean
import PySem.Challenge.RW_xm0582_01

set_option Elab.async false
section
open PySem PySem.W PyProof.Rows
namespace Mine
set_option maxRecDepth 100000
set_option maxHeartbeats 8000000
/-- the law's text without the lines that bind a name anew, and without the def that has a default -/
noncomputable def view : Program := { PySem.Challenge.rw_xm0582_01.row.prog with main := { PySem.Challenge.rw_xm0582_01.row.prog.main with body := (PySem.Challenge.rw_xm0582_01.row.prog.main.body.drop 1).take 1 ++ ((PySem.Challenge.rw_xm0582_01.row.prog.main.body.drop 3).take 9 ++ PySem.Challenge.rw_xm0582_01.row.prog.main.body.drop 13) } }
theorem saidA : OpenLaw.wellSaid PySem.Challenge.rw_xm0582_01 = true := by decide +kernel
local macro_rules | `(tactic| o_law) => `(tactic| refine holds_law saidA fun said => ?_)
noncomputable def xt9 : Shared → Bool := fun s => xlAt view [] s && recOk (RowW.records PySem.Challenge.rw_xm0582_01.row.toRowW) s
theorem xl9 (s : Shared) (e : xt9 s = true) : XL view [] (s.heap.nsMap mainGlobals) s.heap := xl_of s (Bool.and_eq_true_iff.mp e).1
theorem rf9 (s : Shared) (e : xt9 s = true) : RecFacts (RowW.records PySem.Challenge.rw_xm0582_01.row.toRowW) s.heap := recFacts_of (Bool.and_eq_true_iff.mp e).2
local macro_rules | `(tactic| o_head $H) => `(tactic| (refine holds_open (q := view) (loose := [Str.ofString "write_path"]) (N := 1180) ?hl (Hook.of $H) (Hook.keeps $H) xl9 XL.keeps (by rfl) (by rfl) (by rfl) rf9 (by rfl) (by assumption) (by decide +kernel) ⟨rfl, rfl, rfl, rfl, rfl, by decide +kernel⟩ ?hw ?hc; (case hl => (intro w; kernel_rfl))))
open_top hd for PySem.Challenge.rw_xm0582_01
end Mine
end

section
open PySem PySem.W PyProof.Rows PySem.Calls
namespace Mine
theorem anew_Rules : True := by
  w_top off
  trivial
set_option maxRecDepth 100000
set_option maxHeartbeats 8000000

abbrev Grows (h h' : Heap) : Prop := ∀ b o, h.get? b = some o → h'.get? b = some o
theorem istup_mono {h g : Heap} {a : Addr} {its : Array Value} (k : Grows h g) (x : IsTup h a its) : IsTup g a its := let ⟨o, e, r⟩ := x; ⟨o, k _ _ e, r⟩

theorem psh0 (x : Value) : (#[] : Array Value).push x = #[x] := rfl
theorem psh1 (a x : Value) : (#[a] : Array Value).push x = #[a, x] := rfl
theorem psh2 (a b x : Value) : (#[a, b] : Array Value).push x = #[a, b, x] := rfl
/-- the values that come out of turns, each up to its token -/
inductive Inst : List (Tok → Value) → List Value → Prop
  | nil : Inst [] []
  | cons {f fs ys} (t : Tok) : Inst fs ys → Inst (f :: fs) (f t :: ys)
noncomputable def AllToks : List (Tok → Value) → (List Value → Prop) → Prop
  | [], k => k []
  | f :: r, k => ∀ t, AllToks r fun ys => k (f t :: ys)
theorem AllToks.at : ∀ {fs : List (Tok → Value)} {k : List Value → Prop} {ys : List Value}, AllToks fs k → Inst fs ys → k ys
  | _, _, _, h, .nil => h
  | _ :: _, k, _, h, .cons t r => AllToks.at (k := fun ys => k (_ :: ys)) (h t) r
theorem Inst.length : ∀ {fs : List (Tok → Value)} {ys : List Value}, Inst fs ys → ys.length = fs.length
  | _, _, .nil => rfl
  | _, _, .cons _ r => congrArg (· + 1) r.length
theorem Inst.snoc {f : Tok → Value} (t : Tok) : ∀ {fs : List (Tok → Value)} {ys : List Value}, Inst fs ys → Inst (fs ++ [f]) (ys ++ [f t])
  | _, _, .nil => .cons t .nil
  | _, _, .cons u r => .cons u (r.snoc t)
theorem Inst.next {f : Tok → Value} (t : Tok) {fs : List (Tok → Value)} {ys : List Value} {i : Nat} (h : Inst (fs.take i) ys) (e : fs[i]? = some f) : Inst (fs.take (i + 1)) (ys ++ [f t]) := by
  rw [List.take_add_one, e]
  exact h.snoc t

/-- how a turn of a growing block ends -/
def GrowEnd (h : Heap) (f : Tok → Value) (s₂ : Shared) (y : Value) (s' : Shared) : Prop :=
  ∃ h' tk', s' = { s₂ with heap := h', toks := tk' } ∧ (∃ t, y = f t) ∧ Grows h h'
theorem GrowEnd.intro {h h' : Heap} {f : Tok → Value} {s₂ : Shared} {y : Value} {tk' : Nat} (e : ∃ t, y = f t) (g : Grows h h') : GrowEnd h f s₂ y { s₂ with heap := h', toks := tk' } := ⟨h', tk', rfl, e, g⟩

section
variable {prog : Program} {w : World} {A : Around} {E : Value → Shared → Prop}

theorem growBlock {elt target iter : Expr} {scope : Scope} {cl : List (Str × Addr)} {pos : Pos} {env : Env} {s₂ : Shared} {I : Addr} {fp wr : List Addr} {P Md : Nat → Value → Heap → Prop} {St : Nat → Heap → Prop}
    {RR : Value → Addr → Result → Shared → Prop} {Bd : Nat → (Str → Option Value) → Prop} {fs : List (Tok → Value)} {H : Heap}
    (W : KTurns prog w A target I fp wr fs.length P Md St)
    (self : ∀ (s : Shared) (Q : Value → Shared → Prop) (E : Value → Shared → Prop), St 0 s.heap → Q (.ref I) s → wpAny (model prog w) A (pyIter (.ref I)) Q E s)
    (hsz : fs.length ≤ sizeLine) (hcell : ∀ y ∈ scope.names, y.2 ≠ .cell) (hkind : scope.kind = .function)
    (hst : St 0 s₂.heap) (hfp : ∀ b ∈ fp, b < s₂.heap.objs.size) (hwr : ∀ b ∈ wr, H.get? b = none) (hH : Grows H s₂.heap)
    (asg : ∀ i v C m h tk (Q : Unit → Shared → Prop) (E : Value → Shared → Prop), P i v h → h.Ns C m → Grows H h →
      (∀ h' tk' m', h'.Ns C m' → Bd i m' → (∀ b o, b ≠ C → h.get? b = some o → h'.get? b = some o) → Q () { s₂ with heap := h', toks := tk' }) → wpAny (model prog w) A (assign target (compEnvC scope cl C env) v) Q E { s₂ with heap := h, toks := tk })
    (turn : ∀ i f C m h tk (E' : Value → Shared → Prop), fs[i]? = some f → Bd i m → h.Ns C m → H.get? C = none → s₂.heap.objs.size ≤ C → Grows H h →
      wpAny (model prog w) A (eval elt (compEnvC scope cl C env)) (GrowEnd h f s₂) E' { s₂ with heap := h, toks := tk })
    (hRR : ∀ D C h tk m' ys, Grows H h → h.get? D = some (LCg.lst ys) → h.Ns C m' → H.get? C = none → H.get? D = none → s₂.heap.objs.size ≤ C → s₂.heap.objs.size ≤ D → C ≠ D → Inst fs ys → RR (.ref D) C (.ok .next) { s₂ with heap := h, toks := tk }) :
    wpAny (model prog w) A (newList []) (fun acc s₃ => wpAny (model prog w) A (newFunctionEnv scope env.globals cl [] env.qual none .none (some env)) (fun cenv s₄ =>
      codeAny (model prog w) A (.compStart (.ListComp elt [⟨target, iter, [], 0⟩] scope pos) 0 (.ref I) acc { cenv with scope := relabel scope env }) (RR acc cenv.locals) s₄) E s₃) E s₂ := by
  refine wpAny_newObj_type (wpAny_newFunctionEnv hcell (by intro y hy; simp at hy) (fun h₁ hns₁ hsb₁ => ?_) hkind)
  dsimp only at hns₁ hsb₁ ⊢
  generalize hK : s₂.heap.push { cls := .type "list", dict := none, data := .seq ([] : List Value).toArray } = K at hns₁ hsb₁ ⊢
  have hC : K.objs.size = s₂.heap.objs.size + 1 := by rw [← hK, Heap.size_push]
  have hDC : s₂.heap.objs.size ≠ K.objs.size := by rw [hC]; exact Nat.ne_of_lt (Nat.lt_succ_self _)
  have apart : ∀ b, b < s₂.heap.objs.size → b ≠ K.objs.size ∧ b ≠ s₂.heap.objs.size := fun b hb => ⟨by rw [hC]; exact Nat.ne_of_lt (Nat.lt_succ_of_lt hb), Nat.ne_of_lt hb⟩
  have none₂ : ∀ a, s₂.heap.objs.size ≤ a → H.get? a = none := fun a ha => by
    cases e : H.get? a with
    | none => rfl
    | some o => exact absurd (Heap.lt_size (hH a o e)) (Nat.not_lt.mpr ha)
  have old : Grows s₂.heap h₁ := fun b o e => hsb₁.extBut b o (apart b (Heap.lt_size e)).1 (Heap.get?_push_of_some _ (hK ▸ Heap.get?_push_of_some _ e))
  have hD₁ : h₁.get? s₂.heap.objs.size = some (LCg.lst []) := hsb₁.extBut _ _ hDC (Heap.get?_push_of_some _ (hK ▸ Heap.get?_push_size _ rfl))
  have hst₁ : St 0 h₁ := W.frame _ _ _ hst fun b _ o e => old b o e
  have loop : ∀ s₃ : Shared, s₃ = { s₂ with heap := h₁, toks := s₂.toks + ([] : List (Str × Value)).length } →
      codeAny (model prog w) A (.compLoop (.ListComp elt [⟨target, iter, [], 0⟩] scope pos) 0 (.ref I) (.ref s₂.heap.objs.size) (compEnvC scope cl K.objs.size env))
        (RR (.ref s₂.heap.objs.size) K.objs.size) s₃ := by
    rintro s₃ rfl
    refine kcp_loop (fun k s' => ∃ h tk i ys m, s' = { s₂ with heap := h, toks := tk } ∧ i ≤ fs.length ∧ k = fs.length + 1 - i ∧ St i h ∧ Grows H h ∧ h.Ns K.objs.size m ∧ h.get? s₂.heap.objs.size = some (LCg.lst ys) ∧ Inst (fs.take i) ys) ?_
      (fs.length + 1) ⟨h₁, _, 0, [], _, rfl, Nat.zero_le _, rfl, hst₁, fun b o e => old b o (hH b o e), hns₁, hD₁, .nil⟩
    rintro k s' ⟨h, tk, i, ys, m, rfl, hi, rfl, hs, hg, hn, hd, hy⟩
    have ne : ∀ b ∈ fp, b ≠ K.objs.size ∧ b ≠ s₂.heap.objs.size := fun b hb => apart b (hfp b hb)
    have wne : ∀ {b o}, H.get? b = some o → b ∉ wr := fun e hb => by rw [hwr _ hb] at e; cases e
    have hCw : K.objs.size ∉ wr := fun hb => (ne _ (W.sub _ hb)).1 rfl
    have hDw : s₂.heap.objs.size ∉ wr := fun hb => (ne _ (W.sub _ hb)).2 rfl
    by_cases hlt : i < fs.length
    · refine W.item i _ _ _ hlt hs fun v h₂ tk₂ hMd hk₂ => ?_
      refine W.go i v _ _ _ hMd fun h₃ hP hs₃ hk₃ => ?_
      have n₃ : h₃.Ns K.objs.size m := hn.at' fun o e => hk₃ _ o hCw (hk₂ _ o hCw e)
      have d₃ : h₃.get? s₂.heap.objs.size = some (LCg.lst ys) := hk₃ _ _ hDw (hk₂ _ _ hDw hd)
      have g₃ : Grows H h₃ := fun b o e => hk₃ b o (wne e) (hk₂ b o (wne e) (hg b o e))
      refine asg i v _ _ h₃ _ _ _ hP n₃ g₃ fun h₄ tk₄ m₄ hn₄ hB hk₄ => ?_
      have g₄ : Grows H h₄ := fun b o e => hk₄ b o (fun q => by rw [q, none₂ _ (by rw [hC]; exact Nat.le_succ _)] at e; cases e) (g₃ b o e)
      have hs₄ : St (i + 1) h₄ := W.frame _ _ _ hs₃ fun b hb o e => hk₄ b o (ne b hb).1 e
      have d₄ := hk₄ _ _ hDC d₃
      refine wpAny_mono (turn i fs[i] _ _ h₄ _ _ (by simp [hlt]) hB hn₄ (none₂ _ (by rw [hC]; exact Nat.le_succ _)) (by rw [hC]; exact Nat.le_succ _) g₄) (fun y s₅ h₅ => ?_) fun _ _ e => e
      obtain ⟨h₅, tk₅, rfl, ⟨t, rfl⟩, g₅⟩ := h₅
      have hyl : ys.length = i := by rw [hy.length, List.length_take]; omega
      refine append_at (hsz := by show ys.toArray.size ≤ sizeLine; rw [List.size_toArray, hyl]; exact Nat.le_trans hi hsz) (g₅ _ _ d₄) fun h₆ hs₆ hD₆ => ?_
      refine ⟨fs.length + 1 - (i + 1), by omega, h₆, tk₅, i + 1, ys ++ [fs[i] t], _, rfl, hlt, rfl, W.frame _ _ _ hs₄ fun b hb o e => hs₆.extBut b o (ne b hb).2 (g₅ b o e), fun b o e => hs₆.extBut b o (fun q => by rw [q, none₂ _ (Nat.le_refl _)] at e; cases e) (g₅ b o (g₄ b o e)),
        (hn₄.at' fun o e => g₅ _ o e).sameBut hs₆ (Ne.symm hDC), hD₆.trans (congrArg some (LCg.lst_snoc ys (fs[i] t))), hy.next t (by simp [hlt])⟩
    · have hin : i = fs.length := by omega
      subst hin
      refine W.done _ _ _ hs fun h₂ tk₂ hk₂ => ?_
      rw [List.take_length] at hy
      exact hRR _ _ h₂ tk₂ _ ys (fun b o e => hk₂ b o (wne e) (hg b o e)) (hk₂ _ _ hDw hd) (hn.at' fun o e => hk₂ _ o hCw e) (none₂ _ (by rw [hC]; exact Nat.le_succ _)) (none₂ _ (Nat.le_refl _)) (by rw [hC]; exact Nat.le_succ _) (Nat.le_refl _) (Ne.symm hDC) hy
  exact codeAny_compStart_list (loop _ rfl) (self _ _ _ hst₁ (loop _ rfl))
end

/-- the values of a block's turns, said ahead -/
structure CompFs (fs : List (Tok → Value)) : Prop where

section
variable {prog : Program} {w : World} {A : Around} {E : Value → Shared → Prop} {s : Shared} {h₀ : Heap} {L : Addr} {m : Str → Option Value} {env : Env}

def FinG (h₀ : Heap) (L : Addr) (m : Str → Option Value) (s : Shared) (Q : Value → Shared → Prop) (news : List (Addr × Obj)) (fs : List (Tok → Value)) : Prop :=
  AllToks fs fun ys => ∀ D h tk, Fr h₀ L h m → News h₀ L h ((D, LCg.lst ys) :: news) → (∀ p ∈ news, p.1 < D) → Q (.ref D) { s with heap := h, toks := tk }
def FinGA (h₀ : Heap) (L : Addr) (m : Str → Option Value) (s : Shared) (y : Str) (Q : Flow → Shared → Prop) (news : List (Addr × Obj)) (fs : List (Tok → Value)) : Prop :=
  AllToks fs fun ys => ∀ D h tk, Fr h₀ L h (fun z => if z = y then some (.ref D) else m z) → News h₀ L h ((D, LCg.lst ys) :: news) → (∀ p ∈ news, p.1 < D) → Q .next { s with heap := h, toks := tk }

/-- a turn of a block: one name holds v -/
def TurnG (prog : Program) (w : World) (A : Around) (h₀ : Heap) (L : Addr) (m : Str → Option Value) (env : Env) (elt : Expr) (scope : Scope) (cl : List (Str × Addr)) (s₁ : Shared) (news : List (Addr × Obj)) (bd : (Str → Option Value) → Prop) (f : Tok → Value) : Prop :=
  ∀ C oC m' h tk (E' : Value → Shared → Prop), LCg.NsObj oC m' → bd m' → Fr h₀ L h m → News h₀ L h ((C, oC) :: news) → (∀ p ∈ news, p.1 < C) → Grows s₁.heap h →
    wpAny (model prog w) A (eval elt (compEnvC scope cl C env)) (GrowEnd h f s₁) E' { s₁ with heap := h, toks := tk }

theorem fr_same {h h' : Heap} {C : Addr} (F : Fr h₀ L h m) (hs : Heap.SameBut C h h') (hL : C ≠ L) (h0 : h₀.get? C = none) : Fr h₀ L h' m := F.change hs hL h0
theorem turn_at {elt : Expr} {scope : Scope} {cl : List (Str × Addr)} {s₁ : Shared} {news : List (Addr × Obj)} {bd : (Str → Option Value) → Prop} {f : Tok → Value} {C : Addr} {h : Heap} {tk : Nat} {m' : Str → Option Value} {E' : Value → Shared → Prop}
    (T : TurnG prog w A h₀ L m env elt scope cl s₁ news bd f) (F : Fr h₀ L s₁.heap m) (N : News h₀ L s₁.heap news) (hb : bd m') (hn : h.Ns C m') (hC : s₁.heap.get? C = none) (hCs : s₁.heap.objs.size ≤ C) (g : Grows s₁.heap h) :
    wpAny (model prog w) A (eval elt (compEnvC scope cl C env)) (GrowEnd h f s₁) E' { s₁ with heap := h, toks := tk } := by
  obtain ⟨oC, heC, hoC⟩ := LCg.ns_obj hn
  refine T C oC m' h tk E' hoC hb (F.keeps g) (fun p hp => ?_) (fun p hp => Nat.lt_of_lt_of_le (Heap.lt_size (N p hp).1) hCs) g
  rcases List.mem_cons.mp hp with rfl | hp
  · refine ⟨heC, fun q => ?_, ?_⟩
    · exact Nat.ne_of_gt (Nat.lt_of_lt_of_le F.ns.lt hCs) q
    · cases e : h₀.get? C with
      | none => rfl
      | some o => rw [F.keep _ _ e] at hC; cases hC
  · exact (N.grown g) p hp

/-- the end of a block, as a value -/
theorem fin_at {s₁ : Shared} {news : List (Addr × Obj)} {fs : List (Tok → Value)} {ys : List Value} {D C : Addr} {h : Heap} {tk : Nat} {Q : Value → Shared → Prop} {m' : Str → Option Value}
    (X : FinG h₀ L m s₁ Q news fs) (F : Fr h₀ L s₁.heap m) (N : News h₀ L s₁.heap news) (g : Grows s₁.heap h) (hd : h.get? D = some (LCg.lst ys)) (hn : h.Ns C m') (hC : s₁.heap.get? C = none) (hD : s₁.heap.get? D = none)
    (hCs : s₁.heap.objs.size ≤ C) (hDs : s₁.heap.objs.size ≤ D) (hCD : C ≠ D) (hi : Inst fs ys) :
    ∃ m, h.Ns C m ∧ ∀ h', Heap.SameBut C h h' → Q (.ref D) { s₁ with heap := h', toks := tk } := by
  have z₀ : ∀ a, s₁.heap.get? a = none → h₀.get? a = none := fun a ha => by
    cases e : h₀.get? a with
    | none => rfl
    | some o => rw [F.keep _ _ e] at ha; cases ha
  refine ⟨m', hn, fun h' hs' => AllToks.at X hi D h' tk ((F.keeps g).change hs' (Nat.ne_of_gt (Nat.lt_of_lt_of_le F.ns.lt hCs)) (z₀ _ hC)) (fun p hp => ?_) fun p hp => Nat.lt_of_lt_of_le (Heap.lt_size (N p hp).1) hDs⟩
  rcases List.mem_cons.mp hp with rfl | hp
  · exact ⟨hs'.extBut _ _ (Ne.symm hCD) hd, Nat.ne_of_gt (Nat.lt_of_lt_of_le F.ns.lt hDs), z₀ _ hD⟩
  · exact ⟨hs'.extBut _ _ (Nat.ne_of_lt (Nat.lt_of_lt_of_le (Heap.lt_size (N p hp).1) hCs)) (g _ _ (N p hp).1), (N p hp).2⟩

/-- a block over a tuple, one name -/
def SrcT (prog : Program) (w : World) (A : Around) (h₀ : Heap) (L : Addr) (m : Str → Option Value) (env : Env) (elt : Expr) (x : Str) (scope : Scope) (cl : List (Str × Addr)) (Q : Value → Shared → Prop) (xv : Value) (s₁ : Shared) : Prop :=
  ∃ (ax : Addr) (its : Array Value) (news : List (Addr × Obj)) (fs : List (Tok → Value)), xv = .ref ax ∧ A.handled = none ∧ Fr h₀ L s₁.heap m ∧ News h₀ L s₁.heap news ∧ IsTup s₁.heap ax its ∧ its.size = fs.length ∧ fs.length ≤ 1000 ∧
    (∀ (i : Nat) (f : Tok → Value) (v : Value), fs[i]? = some f → its[i]? = some v → TurnG prog w A h₀ L m env elt scope cl s₁ news (fun m' => m' x = some v) f) ∧ FinG h₀ L m s₁ Q news fs

theorem ListComp_T {elt iter : Expr} {x : Str} {px : Pos} {scope : Scope} {cl : List (Str × Addr)} {pos : Pos} {Q : Value → Shared → Prop} (_F₀ : Fr h₀ L s.heap m)
    (hclos : closureFor scope env = pure cl) (hcell : ∀ y ∈ scope.names, y.2 ≠ .cell) (hkind : scope.kind = .function)
    (hnames : ∀ y ∈ scope.names, y.2 = .local → scope.names.lookup y.1 = some .local) (hx : scope.names.lookup x = some .local)
    (h : wpAny (model prog w) A (eval iter env) (SrcT prog w A h₀ L m env elt x scope cl Q) E s)
    (hs : ∀ x, foldedSetIterable iter env x = pure x := by intro _; rfl) :
    wpAny (model prog w) A (eval (.ListComp elt [⟨.Name x px, iter, [], 0⟩] scope pos) env) Q E s := by
  rw [eval_ListComp]
  refine wpAny_comprehension_free (use := none) rfl hs hclos hkind hnames (wpAny_mono h (fun xv s₁ h₁ => ?_) fun _ _ e => e)
  obtain ⟨ax, its, news, fs, rfl, hh, F, N, T, hl, hz, turn, fin⟩ := h₁
  have hl' : s₁.heap.IsTuple ax its := T
  have hlt : ax < s₁.heap.objs.size := by obtain ⟨_, e, _⟩ := T; exact Heap.lt_size e
  have up : Grows s₁.heap (s₁.heap.push { cls := .type "tuple_iterator", data := .fields #[.ref ax, .int 0 0] }) := fun b o e => Heap.get?_push_of_some _ e
  refine wpAny_pyIter_tuple hl' ?_
  have W := Walks.tuple (prog := prog) (w := w) hh s₁.heap.objs.size ax (Nat.ne_of_lt hlt) its
  rw [hl] at W
  refine growBlock (fs := fs) (H := s₁.heap) (Bd := fun i m' => ∃ v, its[i]? = some v ∧ m' x = some v) (KTurns.ofWalks W fun i v s Q E st q => letGo_tupleiter st.1 q) (fun s Q E st q => wpAny_pyIter_tupleiter st.1 q) (by rw [sizeLine_eq]; omega) hcell hkind
    ⟨⟨_, Heap.get?_push_size _ rfl, rfl, rfl⟩, hl'.at fun o e => up _ o e⟩ (fun b hb => ?_) (fun b hb => ?_) up (fun i v C m h tk Q E hP hn hg k => ?_) (fun i f C m h tk E' hf hB hn hC hCs hg => ?_) (fun D C h tk m' ys hg hd hn hC hD hCs hDs hCD hi => ?_)
  · rw [Heap.size_push]
    rcases List.mem_cons.mp hb with rfl | hb
    · exact Nat.lt_succ_self _
    · rw [List.mem_singleton.mp hb]; exact Nat.lt_succ_of_lt hlt
  · rw [List.mem_singleton.mp hb]
    exact Heap.get?_none_of_le (Nat.le_refl _)
  · refine wpAny_assign_Name (wpAny_storeName_local (lookup_relabel_local hx) hn (fun h₃ hn₃ hs₃ => ?_) (by simp [compEnvC, relabel, hkind]))
    exact k h₃ _ _ hn₃ ⟨v, hP, by simp⟩ fun b o hb e => hs₃.extBut b o hb e
  · obtain ⟨v, hv, hm⟩ := hB
    exact turn_at (s₁ := s₁) (turn i f v hf hv) F N hm hn hC (Nat.le_trans (by rw [Heap.size_push]; exact Nat.le_add_right _ _) hCs) hg
  · exact fin_at (s₁ := s₁) fin F N hg hd hn hC hD (Nat.le_trans (by rw [Heap.size_push]; exact Nat.le_add_right _ _) hCs) (Nat.le_trans (by rw [Heap.size_push]; exact Nat.le_add_right _ _) hDs) hCD hi

theorem SrcT.zero {elt : Expr} {x : Str} {scope : Scope} {cl : List (Str × Addr)} {Q : Value → Shared → Prop} {ax : Addr} {news : List (Addr × Obj)} {s₁ : Shared} (hh : A.handled = none) (F : Fr h₀ L s₁.heap m) (N : News h₀ L s₁.heap news) (T : IsTup s₁.heap ax #[])
    (fin : FinG h₀ L m s₁ Q news []) : SrcT prog w A h₀ L m env elt x scope cl Q (.ref ax) s₁ :=
  ⟨ax, #[], news, [], rfl, hh, F, N, T, rfl, Nat.zero_le _, fun i f v hf _ => by simp at hf, fin⟩
theorem SrcT.one {elt : Expr} {x : Str} {scope : Scope} {cl : List (Str × Addr)} {Q : Value → Shared → Prop} {ax : Addr} {a : Value} {f : Tok → Value} {news : List (Addr × Obj)} {s₁ : Shared} (hh : A.handled = none) (F : Fr h₀ L s₁.heap m) (N : News h₀ L s₁.heap news) (T : IsTup s₁.heap ax #[a]) (_c : CompFs [f])
    (t0 : TurnG prog w A h₀ L m env elt scope cl s₁ news (fun m' => m' x = some a) f) (fin : FinG h₀ L m s₁ Q news [f]) : SrcT prog w A h₀ L m env elt x scope cl Q (.ref ax) s₁ :=
  ⟨ax, #[a], news, [f], rfl, hh, F, N, T, rfl, Nat.le_of_ble_eq_true rfl, fun i g v hf hv => by
    match i with
    | 0 => simp at hf hv; subst hf hv; exact t0
    | i + 1 => simp at hf, fin⟩
theorem SrcT.two {elt : Expr} {x : Str} {scope : Scope} {cl : List (Str × Addr)} {Q : Value → Shared → Prop} {ax : Addr} {a b : Value} {f g : Tok → Value} {news : List (Addr × Obj)} {s₁ : Shared} (hh : A.handled = none) (F : Fr h₀ L s₁.heap m) (N : News h₀ L s₁.heap news) (T : IsTup s₁.heap ax #[a, b]) (_c : CompFs [f, g])
    (t0 : TurnG prog w A h₀ L m env elt scope cl s₁ news (fun m' => m' x = some a) f) (t1 : TurnG prog w A h₀ L m env elt scope cl s₁ news (fun m' => m' x = some b) g) (fin : FinG h₀ L m s₁ Q news [f, g]) : SrcT prog w A h₀ L m env elt x scope cl Q (.ref ax) s₁ :=
  ⟨ax, #[a, b], news, [f, g], rfl, hh, F, N, T, rfl, Nat.le_of_ble_eq_true rfl, fun i k v hf hv => by
    match i with
    | 0 => simp at hf hv; subst hf hv; exact t0
    | 1 => simp at hf hv; subst hf hv; exact t1
    | i + 2 => simp at hf, fin⟩

theorem istup_inj {h : Heap} {t : Addr} {xs ys : Array Value} (a : IsTup h t xs) (b : IsTup h t ys) : xs = ys := by
  obtain ⟨o, e, _, n, d⟩ := a
  obtain ⟨o', e', _, n', d'⟩ := b
  rw [e] at e'
  cases e'
  rw [d] at d'
  cases d'
  rfl
/-- a block over a tuple of pairs, two names; its list goes to a name -/
def SrcPA (prog : Program) (w : World) (A : Around) (h₀ : Heap) (L : Addr) (m : Str → Option Value) (env : Env) (elt : Expr) (a b : Str) (scope : Scope) (cl : List (Str × Addr)) (y : Str) (Q : Flow → Shared → Prop) (xv : Value) (s₁ : Shared) : Prop :=
  ∃ (ax : Addr) (its : Array Value) (news : List (Addr × Obj)) (fs : List (Tok → Value)), xv = .ref ax ∧ A.handled = none ∧ Fr h₀ L s₁.heap m ∧ News h₀ L s₁.heap news ∧ IsTup s₁.heap ax its ∧ its.size = fs.length ∧ fs.length ≤ 1000 ∧
    (∀ (i : Nat) (f : Tok → Value) (v : Value), fs[i]? = some f → its[i]? = some v → ∃ t u z, v = .ref t ∧ IsTup s₁.heap t #[u, z] ∧ TurnG prog w A h₀ L m env elt scope cl s₁ news (fun m' => m' a = some u ∧ m' b = some z) f) ∧ FinGA h₀ L m s₁ y Q news fs

theorem Assign_ListComp_P {elt iter : Expr} {a b y : Str} {pa pb tp py : Pos} {kk : Nat} {scope : Scope} {cl : List (Str × Addr)} {pos spos : Pos} {Q : Flow → Shared → Prop} (_F₀ : Fr h₀ L s.heap m) (hLe : env.locals = L)
    (hsw : swapsWith (.ListComp elt [⟨.Tuple [.Name a pa, .Name b pb] kk tp, iter, [], 0⟩] scope pos) (some (.Name y py)) spos.line env = pure true)
    (hclos : closureFor scope env = pure cl) (hcell : ∀ z ∈ scope.names, z.2 ≠ .cell) (hkind : scope.kind = .function)
    (hnames : ∀ z ∈ scope.names, z.2 = .local → scope.names.lookup z.1 = some .local) (ha : scope.names.lookup a = some .local) (hb : scope.names.lookup b = some .local) (hab : a ≠ b)
    (hy : env.kindOf y = some .local) (hp : (env.scope.kind == .class || (env.scope.kind == .module && env.locals != env.globals)) = false)
    (h : wpAny (model prog w) A (eval iter env) (SrcPA prog w A h₀ L m env elt a b scope cl y Q) E s)
    (hs : ∀ x, foldedSetIterable iter env x = pure x := by intro _; rfl) :
    wpAny (model prog w) A (exec (.Assign [.Name y py] (.ListComp elt [⟨.Tuple [.Name a pa, .Name b pb] kk tp, iter, [], 0⟩] scope pos) spos) env) Q E s := by
  subst hLe
  rw [exec_Assign_Name_used _ _ _ _ hsw]
  refine wpAny_bind (wpAny_standAt (wpAny_bind ?_))
  show wpAny _ A (do let _ ← comprehension (.ListComp elt [⟨.Tuple [.Name a pa, .Name b pb] kk tp, iter, [], 0⟩] scope pos) scope env _ (newList []) false (eval iter env) (some (assign (.Name y py) env))) _ _ s
  refine wpAny_bind (wpAny_mono (wpAny_comprehension_free (use := some (assign (.Name y py) env)) (Q := fun _ s' => Q .next s') rfl hs hclos hkind hnames
    (wpAny_mono h (fun xv s₁ h₁ => ?_) fun _ _ e => e)) (fun _ s' hq => wpAny_pure (wpAny_pure hq)) fun _ _ e => e)
  obtain ⟨ax, its, news, fs, rfl, hh, F, N, T, hl, hz, turn, fin⟩ := h₁
  have hl' : s₁.heap.IsTuple ax its := T
  have hlt : ax < s₁.heap.objs.size := by obtain ⟨_, e, _⟩ := T; exact Heap.lt_size e
  have up : Grows s₁.heap (s₁.heap.push { cls := .type "tuple_iterator", data := .fields #[.ref ax, .int 0 0] }) := fun b o e => Heap.get?_push_of_some _ e
  have z₀ : ∀ c, s₁.heap.get? c = none → h₀.get? c = none := fun c hc => by
    cases e : h₀.get? c with
    | none => rfl
    | some o => rw [F.keep _ _ e] at hc; cases hc
  refine wpAny_pyIter_tuple hl' ?_
  have W := Walks.tuple (prog := prog) (w := w) hh s₁.heap.objs.size ax (Nat.ne_of_lt hlt) its
  rw [hl] at W
  refine growBlock (fs := fs) (H := s₁.heap) (Bd := fun i m' => ∃ t u z, its[i]? = some (.ref t) ∧ IsTup s₁.heap t #[u, z] ∧ m' a = some u ∧ m' b = some z) (KTurns.ofWalks W fun i v s Q E st q => letGo_tupleiter st.1 q) (fun s Q E st q => wpAny_pyIter_tupleiter st.1 q) (by rw [sizeLine_eq]; omega) hcell hkind
    ⟨⟨_, Heap.get?_push_size _ rfl, rfl, rfl⟩, hl'.at fun o e => up _ o e⟩ (fun b hb => ?_) (fun b hb => ?_) up (fun i v C m h tk Q E hP hn hg k => ?_) (fun i f C m h tk E' hf hB hn hC hCs hg => ?_) (fun D C h tk m' ys hg hd hn hC hD hCs hDs hCD hi => ?_)
  · rw [Heap.size_push]
    rcases List.mem_cons.mp hb with rfl | hb
    · exact Nat.lt_succ_self _
    · rw [List.mem_singleton.mp hb]; exact Nat.lt_succ_of_lt hlt
  · rw [List.mem_singleton.mp hb]
    exact Heap.get?_none_of_le (Nat.le_refl _)
  · have hi : i < fs.length := by
      rw [← hl]
      exact (Array.getElem?_eq_some_iff.mp hP).1
    obtain ⟨t, u, z, rfl, hT, _⟩ := turn i fs[i] v (by simp [hi]) hP
    refine kcp_assign hh (istup_mono hg hT) (lookup_relabel_local ha) (lookup_relabel_local hb) (by simp [compEnvC, relabel, hkind]) hn fun h' tk' hn' hk' => ?_
    exact k h' tk' _ hn' ⟨t, u, z, hP, hT, by simp [hab], by simp⟩ hk'
  · obtain ⟨t, u, z, hv, hT, h1, h2⟩ := hB
    obtain ⟨t', u', z', e, hT', tn⟩ := turn i f _ hf hv
    cases e
    have q := istup_inj hT hT'
    cases q
    exact turn_at (s₁ := s₁) tn F N ⟨h1, h2⟩ hn hC (Nat.le_trans (by rw [Heap.size_push]; exact Nat.le_add_right _ _) hCs) hg
  · have sz : s₁.heap.objs.size ≤ (s₁.heap.push { cls := .type "tuple_iterator", data := .fields #[.ref ax, .int 0 0] }).objs.size := by rw [Heap.size_push]; exact Nat.le_add_right _ _
    have hDs' := Nat.le_trans sz hDs
    have hCs' := Nat.le_trans sz hCs
    have F' : Fr h₀ env.locals h m := F.keeps hg
    show wpAny _ A (assign (.Name y py) env (.ref D)) _ _ _
    refine wpAny_assign_Name (wpAny_storeName_local hy F'.ns (fun h₂ hn₂ hs₂ => ?_) hp)
    have hLC : env.locals ≠ C := Nat.ne_of_lt (Nat.lt_of_lt_of_le F.ns.lt hCs')
    have hLD : env.locals ≠ D := Nat.ne_of_lt (Nat.lt_of_lt_of_le F.ns.lt hDs')
    have hL₀ : h₀.get? env.locals = none := Heap.get?_none_of_le F'.above
    have F₂ : Fr h₀ env.locals h₂ (fun z => if z = y then some (.ref D) else m z) := ⟨hn₂, fun b o e => hs₂.extBut b o (fun q => by rw [q, hL₀] at e; cases e) (F'.keep b o e), F'.above⟩
    refine ⟨m', hn.sameBut hs₂ (Ne.symm hLC), fun h'' hs'' => AllToks.at fin hi D h'' _ (F₂.change hs'' (Ne.symm hLC) (z₀ _ hC)) (fun p hp => ?_) fun p hp => Nat.lt_of_lt_of_le (Heap.lt_size (N p hp).1) hDs'⟩
    rcases List.mem_cons.mp hp with rfl | hp
    · exact ⟨hs''.extBut _ _ (Ne.symm hCD) (hs₂.extBut _ _ (Ne.symm hLD) hd), Ne.symm hLD, z₀ _ hD⟩
    · exact ⟨hs''.extBut _ _ (Nat.ne_of_lt (Nat.lt_of_lt_of_le (Heap.lt_size (N p hp).1) hCs')) (hs₂.extBut _ _ (N p hp).2.1 (hg _ _ (N p hp).1)), (N p hp).2⟩

theorem SrcPA.one {elt : Expr} {a b y : Str} {scope : Scope} {cl : List (Str × Addr)} {Q : Flow → Shared → Prop} {ax t : Addr} {u z : Value} {f : Tok → Value} {news : List (Addr × Obj)} {s₁ : Shared} (hh : A.handled = none) (F : Fr h₀ L s₁.heap m) (N : News h₀ L s₁.heap news) (T : IsTup s₁.heap ax #[.ref t]) (T0 : IsTup s₁.heap t #[u, z]) (_c : CompFs [f])
    (t0 : TurnG prog w A h₀ L m env elt scope cl s₁ news (fun m' => m' a = some u ∧ m' b = some z) f) (fin : FinGA h₀ L m s₁ y Q news [f]) : SrcPA prog w A h₀ L m env elt a b scope cl y Q (.ref ax) s₁ :=
  ⟨ax, #[.ref t], news, [f], rfl, hh, F, N, T, rfl, Nat.le_of_ble_eq_true rfl, fun i g v hf hv => by
    match i with
    | 0 => simp at hf hv; subst hf hv; exact ⟨t, u, z, rfl, T0, t0⟩
    | i + 1 => simp at hf, fin⟩
theorem SrcPA.two {elt : Expr} {a b y : Str} {scope : Scope} {cl : List (Str × Addr)} {Q : Flow → Shared → Prop} {ax t t' : Addr} {u z u' z' : Value} {f g : Tok → Value} {news : List (Addr × Obj)} {s₁ : Shared} (hh : A.handled = none) (F : Fr h₀ L s₁.heap m) (N : News h₀ L s₁.heap news) (T : IsTup s₁.heap ax #[.ref t, .ref t']) (T0 : IsTup s₁.heap t #[u, z]) (T1 : IsTup s₁.heap t' #[u', z']) (_c : CompFs [f, g])
    (t0 : TurnG prog w A h₀ L m env elt scope cl s₁ news (fun m' => m' a = some u ∧ m' b = some z) f) (t1 : TurnG prog w A h₀ L m env elt scope cl s₁ news (fun m' => m' a = some u' ∧ m' b = some z') g) (fin : FinGA h₀ L m s₁ y Q news [f, g]) : SrcPA prog w A h₀ L m env elt a b scope cl y Q (.ref ax) s₁ :=
  ⟨ax, #[.ref t, .ref t'], news, [f, g], rfl, hh, F, N, T, rfl, Nat.le_of_ble_eq_true rfl, fun i k v hf hv => by
    match i with
    | 0 => simp at hf hv; subst hf hv; exact ⟨t, u, z, rfl, T0, t0⟩
    | 1 => simp at hf hv; subst hf hv; exact ⟨t', u', z', rfl, T1, t1⟩
    | i + 2 => simp at hf, fin⟩

/-- a for over a tuple of the ground -/
theorem iter_tupB {target : Expr} {body : List Stmt} {Q : Flow → Shared → Prop} {ax : Addr} {vs : List Value} {m₀ : Str → Option Value} {news : List (Addr × Obj)}
    (hh : A.handled = none) (F : Fr h₀ env.locals s.heap m₀) (N : News h₀ env.locals s.heap news) (T : IsTup h₀ ax vs.toArray) (hz : vs.length ≤ 24)
    (rest₀ : ∀ I : Addr, (∀ p ∈ news, p.1 < I) → ItemsRest prog w A E h₀ env target body Q s [(I, "tuple_iterator")] [] (vs.map .val) m₀ news) :
    wpAny (model prog w) A (pyIter (.ref ax)) (fun it s₂ => TurnsAt prog w A h₀ env target body Q E it s₂) E s := by
  obtain ⟨lo, e, hc, n, hd⟩ := T
  refine iter_tupK (K := [(ax, lo)]) hh F N (fun a o ha => ?_) (by simp) hc hd hz rest₀
  simp only [List.lookup] at ha
  split at ha
  · rename_i q
    rw [beq_iff_eq.mp q]
    exact Option.some.inj ha ▸ e
  · cases ha
theorem restV {target : Expr} {body : List Stmt} {Q : Flow → Shared → Prop} {ws : List (Addr × String)} {keep : List (Addr × Obj)} {v : Value} {r : List Value} {m : Str → Option Value} {news : List (Addr × Obj)}
    (h : ∀ h tk, Fr h₀ env.locals h m → AllObj ws (fun its => News h₀ env.locals h (its ++ news) →
      wpAny (model prog w) A (assign target env v) (fun _ s₂ => wpAny (model prog w) A (execs body env) (UnrPostW h₀ env.locals { s with heap := h, toks := tk } its (fun m' n' => SubL keep n' ∧ ItemsRest prog w A E h₀ env target body Q s ws keep (List.map Itm.val r) m' n') Q) E s₂) E { s with heap := h, toks := tk })) :
    ItemsRest prog w A E h₀ env target body Q s ws keep (List.map Itm.val (v :: r)) m news := ItemsRest.val h
theorem rest0 {target : Expr} {body : List Stmt} {Q : Flow → Shared → Prop} {ws : List (Addr × String)} {keep : List (Addr × Obj)} {m : Str → Option Value} {news : List (Addr × Obj)} (h : ∀ h tk, Fr h₀ env.locals h m → News h₀ env.locals h news → Q .next { s with heap := h, toks := tk }) :
    ItemsRest prog w A E h₀ env target body Q s ws keep (List.map Itm.val []) m news := ItemsRest.zero h
end
end Mine
end

section
open PySem PySem.W PyProof.Rows
namespace Mine
set_option maxRecDepth 100000
set_option maxHeartbeats 8000000
def Filler (_ : OpenLaw) (_ : Params → Frag) : Prop := True

abbrev Led := List (Addr × Obj)
noncomputable abbrev tupOf (its : Array Value) (n : Nat) : Obj := { cls := .type "tuple", data := .seq its n }

/-- a writer's contract: whatever stood stands, a value comes back -/
def WSpec (w : World) (f : Addr) (vs : List Value) (pre : Heap → Prop) (R : Tok → Value) (cost : Nat) : Prop :=
  ∀ (p : Program) (loose : List Str) (mean : ExcName → Option Value) (mg mb : Str → Option Value) (dp un : Nat) (gd : Option (List Code)) (cn : Str) (cs : Scope) (a : Addr) (ccd : Value) (cl : List (Str × Addr)) (outer : List Env)
    (A₀ : Around) (base h₀ : Heap) (L : Addr) (m : Str → Option Value) (s : Shared) (Q E : Value → Shared → Prop),
    Below A₀ base outer h₀ → Fr h₀ L s.heap m → (hd.heap_1 w.params).In h₀ → Top p loose mean mg mb h₀ → cs.kind = .function →
    dp + cost < recursionLimit → un + 8 * cost < cLine → pre s.heap →
    (∀ t h' tk', (∀ b o, s.heap.get? b = some o → h'.get? b = some o) → Q (R t) { s with heap := h', toks := tk' }) →
    wpAny (model PySem.Challenge.rw_xm0582_01.row.prog w) (ktrTop dp un gd cn cs L a ccd cl outer) (call (.ref f) vs) Q E s

theorem wuse {w : World} {f : Addr} {vs : List Value} {pre : Heap → Prop} {R : Tok → Value} {cost : Nat} (S : WSpec w f vs pre R cost)
    {p : Program} {loose : List Str} {mean : ExcName → Option Value} {mg mb : Str → Option Value} {dp un : Nat} {gd : Option (List Code)} {cn : Str} {cs : Scope} {a : Addr} {ccd : Value} {cl : List (Str × Addr)} {outer : List Env}
    {A₀ : Around} {base h₀ : Heap} {L : Addr} {m : Str → Option Value} {news : Led} {s : Shared} {Q E : Value → Shared → Prop}
    (B : Below A₀ base outer h₀) (F : Fr h₀ L s.heap m) (X : (hd.heap_1 w.params).In h₀) (N : News h₀ L s.heap news) (T : Top p loose mean mg mb h₀) (hk : cs.kind = .function)
    (hd : dp + cost < recursionLimit) (hu : un + 8 * cost < cLine) (hp : pre s.heap)
    (ret : ∀ t h' tk', Grows s.heap h' → Fr h₀ L h' m → News h₀ L h' news → Q (R t) { s with heap := h', toks := tk' }) :
    wpAny (model PySem.Challenge.rw_xm0582_01.row.prog w) (ktrTop dp un gd cn cs L a ccd cl outer) (call (.ref f) vs) Q E s :=
  S _ _ _ _ _ _ _ _ _ _ _ _ _ _ _ _ _ _ _ _ _ _ B F X T hk hd hu hp fun t h' tk' st => ret t h' tk' st (F.keeps st) (N.grown st)

theorem gsub_all {s g : Heap} (k : GSub s g []) : ∀ b o, s.get? b = some o → g.get? b = some o := fun b o e => k b o e (by simp)
theorem wret {R : Tok → Value} {g s h' : Heap} {L : Addr} {m : Str → Option Value} {sh : Shared} {Q : Value → Shared → Prop} {v : Value} {tk' : Nat}
    (hret : ∀ t h' tk', (∀ b o, s.get? b = some o → h'.get? b = some o) → Q (R t) { sh with heap := h', toks := tk' })
    (hg : ∀ b o, s.get? b = some o → g.get? b = some o) (F : Fr g L h' m) (e : ∃ t, v = R t) : Q v { sh with heap := h', toks := tk' } := by
  obtain ⟨t, rfl⟩ := e
  exact hret t h' tk' fun b o q => F.keep b o (hg b o q)

abbrev emptyT (h : Heap) (a : Addr) : Prop := IsTup h a #[]
/-- one entry of a path: a name, regions, types -/
inductive EntAt (h : Heap) : Value → Str → Nat → Prop
  | none {a r y : Addr} {n : Str} {t : Tok} : IsTup h a #[.str n t, .ref r, .ref y] → IsTup h r #[] → IsTup h y #[] → EntAt h (.ref a) n 0
  | one {a r y e q : Addr} {b' : Value} {n : Str} {t t1 t2 : Tok} : IsTup h a #[.str n t, .ref r, .ref y] → IsTup h r #[] → IsTup h y #[.ref e] →
      IsTup h e #[.str (Str.ofString "path") t1, .int 0 t2, .ref q] → IsTup h q #[b'] → EntAt h b' (Str.ofString "u8") 0 → EntAt h (.ref a) n 1
  | two {a r y e q i : Addr} {b' : Value} {n : Str} {t t0 t1 t2 t3 t4 : Tok} : IsTup h a #[.str n t, .ref r, .ref y] → IsTup h r #[.str (Str.ofString "'a") t0] → IsTup h y #[.ref e, .ref i] →
      IsTup h e #[.str (Str.ofString "path") t1, .int 0 t2, .ref q] → IsTup h q #[b'] → EntAt h b' (Str.ofString "T") 0 → IsTup h i #[.str (Str.ofString "infer") t3, .int 0 t4] → EntAt h (.ref a) n 2
inductive PathAt (h : Heap) : Value → List Str → Nat → Prop
  | one {a : Addr} {e : Value} {n : Str} {way : Nat} : IsTup h a #[e] → EntAt h e n way → PathAt h (.ref a) [n] way
  | two {a : Addr} {e e2 : Value} {n n2 : Str} {way : Nat} : IsTup h a #[e, e2] → EntAt h e n 0 → EntAt h e2 n2 way → PathAt h (.ref a) [n, n2] way
  | three {a : Addr} {e e2 e3 : Value} {n n2 n3 : Str} {way : Nat} : IsTup h a #[e, e2, e3] → EntAt h e n 0 → EntAt h e2 n2 0 → EntAt h e3 n3 way → PathAt h (.ref a) [n, n2, n3] way

theorem EntAt.mono {h g : Heap} {v : Value} {n : Str} {way : Nat} (k : ∀ b o, h.get? b = some o → g.get? b = some o) (x : EntAt h v n way) : EntAt g v n way := by
  induction x with
  | none a b c => exact .none (istup_mono k a) (istup_mono k b) (istup_mono k c)
  | one a b c d e _ ih => exact .one (istup_mono k a) (istup_mono k b) (istup_mono k c) (istup_mono k d) (istup_mono k e) ih
  | two a b c d e _ i ih => exact .two (istup_mono k a) (istup_mono k b) (istup_mono k c) (istup_mono k d) (istup_mono k e) ih (istup_mono k i)
theorem PathAt.mono {h g : Heap} {v : Value} {ns : List Str} {way : Nat} (k : ∀ b o, h.get? b = some o → g.get? b = some o) (x : PathAt h v ns way) : PathAt g v ns way := by
  cases x with
  | one a b => exact .one (istup_mono k a) (b.mono k)
  | two a b c => exact .two (istup_mono k a) (b.mono k) (c.mono k)
  | three a b c d => exact .three (istup_mono k a) (b.mono k) (c.mono k) (d.mono k)
/-- the angles of a way -/
noncomputable def angT : Nat → Str
  | 0 => Str.ofString ""
  | 1 => Str.ofString "<u8>"
  | _ => Str.ofString "<'a, T, _>"
theorem ln_e : (Str.ofString "").length = 0 := by decide +kernel
theorem ln_28 : (Str.ofString "(").length = 1 := by decide +kernel
theorem ln_29 : (Str.ofString ")").length = 1 := by decide +kernel
theorem ln_2c20 : (Str.ofString ", ").length = 2 := by decide +kernel
theorem ln_2c : (Str.ofString ",").length = 1 := by decide +kernel
theorem ln_2c29 : (Str.ofString ",)").length = 2 := by decide +kernel
theorem ln_3c : (Str.ofString "<").length = 1 := by decide +kernel
theorem ln_3e : (Str.ofString ">").length = 1 := by decide +kernel
theorem ln_3a3a : (Str.ofString "::").length = 2 := by decide +kernel
theorem ln_26 : (Str.ofString "&").length = 1 := by decide +kernel
theorem ln_6d757420 : (Str.ofString "mut ").length = 4 := by decide +kernel
theorem ln_72656620 : (Str.ofString "ref ").length = 4 := by decide +kernel
theorem ln_204020 : (Str.ofString " @ ").length = 3 := by decide +kernel
theorem ln_2e2e3d : (Str.ofString "..=").length = 3 := by decide +kernel
theorem ln_207b20 : (Str.ofString " { ").length = 3 := by decide +kernel
theorem ln_207d : (Str.ofString " }").length = 2 := by decide +kernel
theorem ln_7d : (Str.ofString "}").length = 1 := by decide +kernel
theorem ln_2e2e : (Str.ofString "..").length = 2 := by decide +kernel
theorem ln_3a20 : (Str.ofString ": ").length = 2 := by decide +kernel
theorem ln_207c20 : (Str.ofString " | ").length = 3 := by decide +kernel
theorem ln_5f : (Str.ofString "_").length = 1 := by decide +kernel
theorem ln_21 : (Str.ofString "!").length = 1 := by decide +kernel
theorem ln_2761 : (Str.ofString "'a").length = 2 := by decide +kernel
theorem ln_54 : (Str.ofString "T").length = 1 := by decide +kernel
theorem ln_7538 : (Str.ofString "u8").length = 2 := by decide +kernel
theorem ln_78 : (Str.ofString "x").length = 1 := by decide +kernel
theorem ln_79 : (Str.ofString "y").length = 1 := by decide +kernel
theorem ln_6e : (Str.ofString "n").length = 1 := by decide +kernel
theorem ln_6d : (Str.ofString "m").length = 1 := by decide +kernel
theorem ln_74727565 : (Str.ofString "true").length = 4 := by decide +kernel
theorem ln_66616c7365 : (Str.ofString "false").length = 5 := by decide +kernel
theorem ln_37 : (Str.ofString "7").length = 1 := by decide +kernel
theorem ln_2d31 : (Str.ofString "-1").length = 2 := by decide +kernel
theorem ln_2d33 : (Str.ofString "-3").length = 2 := by decide +kernel
theorem ln_39 : (Str.ofString "9").length = 1 := by decide +kernel
theorem ln_31 : (Str.ofString "1").length = 1 := by decide +kernel
theorem ln_32 : (Str.ofString "2").length = 1 := by decide +kernel
theorem ln_73656c66 : (Str.ofString "self").length = 4 := by decide +kernel
theorem ln_53656c66 : (Str.ofString "Self").length = 4 := by decide +kernel
theorem ln_7375706572 : (Str.ofString "super").length = 5 := by decide +kernel
theorem ln_6372617465 : (Str.ofString "crate").length = 5 := by decide +kernel
theorem ln_41 : (Str.ofString "A").length = 1 := by decide +kernel
theorem ln_62 : (Str.ofString "b").length = 1 := by decide +kernel
theorem ln_4332 : (Str.ofString "C2").length = 2 := by decide +kernel
theorem ln_3c75383e : (Str.ofString "<u8>").length = 4 := by decide +kernel
theorem ln_3c27612c20542c205f3e : (Str.ofString "<'a, T, _>").length = 10 := by decide +kernel

theorem ape (x : Str) : x ++ Str.ofString "" = x := (congrArg (x ++ ·) (show Str.ofString "" = Str.empty by decide +kernel)).trans (Str.append_empty x)
theorem epa (x : Str) : Str.ofString "" ++ x = x := (congrArg (· ++ x) (show Str.ofString "" = Str.empty by decide +kernel)).trans (Str.empty_append x)
theorem lt_u8 : Str.ofString "<" ++ (Str.ofString "u8" ++ Str.ofString ">") = Str.ofString "<u8>" := by decide +kernel
theorem lt_aT : Str.ofString "<" ++ (Str.ofString "'a" ++ (Str.ofString ", " ++ (Str.ofString "T" ++ (Str.ofString ", " ++ (Str.ofString "_" ++ Str.ofString ">"))))) = Str.ofString "<'a, T, _>" := by decide +kernel
/-- what stands behind a path's last name -/
noncomputable def tailT (b : Str) : Nat → Str
  | 0 => Str.ofString ""
  | 1 => b ++ Str.ofString "<u8>"
  | _ => b ++ Str.ofString "<'a, T, _>"
noncomputable def pathT (b : Str) (way : Nat) : List Str → Str
  | [] => tailT b way
  | [n] => n ++ tailT b way
  | n :: r => n ++ (Str.ofString "::" ++ pathT b way r)
theorem wretS {x y : Str} {t : Tok} {g s h' : Heap} {L : Addr} {m : Str → Option Value} {sh : Shared} {Q : Value → Shared → Prop} {tk' : Nat}
    (hret : ∀ t h' tk', (∀ b o, s.get? b = some o → h'.get? b = some o) → Q (.str y t) { sh with heap := h', toks := tk' })
    (hg : ∀ b o, s.get? b = some o → g.get? b = some o) (F : Fr g L h' m) (e : x = y) : Q (.str x t) { sh with heap := h', toks := tk' } := by
  subst e
  exact hret t h' tk' fun b o q => F.keep b o (hg b o q)
theorem j0 (s : Str) : Txt.join s [] = Str.ofString "" := by rw [show Txt.join s [] = Str.empty from StrLaws.glued_eq_join s []]; decide +kernel
theorem j1 (s x : Str) : Txt.join s [x] = x := StrLaws.glued_eq_join s [x]
theorem j2 (s x y : Str) : Txt.join s [x, y] = x ++ s ++ y := StrLaws.glued_eq_join s [x, y]
theorem j3 (s x y z : Str) : Txt.join s [x, y, z] = x ++ s ++ (y ++ s ++ z) := StrLaws.glued_eq_join s [x, y, z]

/-- cheap arithmetic -/
theorem le_of_ble {n k : Nat} (h : Nat.ble n k = true) : n ≤ k := Nat.le_of_ble_eq_true h
theorem room_a {dp k c c' R : Nat} (h : dp + c < R) (hc : k + c' ≤ c) : dp + k + c' < R := Nat.lt_of_le_of_lt (Nat.le_trans (Nat.le_of_eq (Nat.add_assoc dp k c')) (Nat.add_le_add_left hc dp)) h
theorem room_0 {dp c R : Nat} (h : dp + c < R) : dp < R := Nat.lt_of_le_of_lt (Nat.le_add_right dp c) h
theorem units_a {un k c c' R : Nat} (h : un + 8 * c < R) (hc : 1 + c' ≤ c) (hk : Nat.ble k 8 = true) : un + k + 8 * c' < R :=
  room_a h (Nat.le_trans (Nat.add_le_add_right (le_of_ble hk) (8 * c')) (Nat.le_trans (Nat.le_of_eq (Nat.mul_add 8 1 c').symm) (Nat.mul_le_mul_left 8 hc)))
theorem units_b {un k c R : Nat} (h : un + 8 * c < R) (hc : 1 + 0 ≤ c) (hk : Nat.ble k 8 = true) : un + k < R := units_a (c' := 0) h hc hk
theorem dS {k a x y : Nat} (h : Nat.ble (k + x) y = true) : k + (40 * a + x) ≤ 40 * a + y := Nat.le_trans (Nat.le_of_eq (Nat.add_left_comm k (40 * a) x)) (Nat.add_le_add_left (le_of_ble h) _)
theorem dUp {a b m y : Nat} (h : m ≤ 40 * a + y) (k : a ≤ b) : m ≤ 40 * b + y := Nat.le_trans h (Nat.add_le_add_right (Nat.mul_le_mul_left 40 k) y)
theorem dL {k a b x y : Nat} (h : Nat.ble (k + x) y = true) : k + (40 * a + x) ≤ 40 * max a b + y := dUp (dS h) (Nat.le_max_left a b)
theorem dR {k a b x y : Nat} (h : Nat.ble (k + x) y = true) : k + (40 * b + x) ≤ 40 * max a b + y := dUp (dS h) (Nat.le_max_right a b)
theorem dUp1 {a m y : Nat} (h : m ≤ 40 * a + (40 + y)) : m ≤ 40 * (a + 1) + y := Nat.le_trans h (Nat.le_of_eq (Nat.add_assoc (40 * a) 40 y).symm)
theorem dS1 {k a x y : Nat} (h : Nat.ble (k + x) (40 + y) = true) : k + (40 * a + x) ≤ 40 * (a + 1) + y := dUp1 (dS h)
theorem dL1 {k a b x y : Nat} (h : Nat.ble (k + x) (40 + y) = true) : k + (40 * a + x) ≤ 40 * (max a b + 1) + y := dUp1 (dL h)
theorem dR1 {k a b x y : Nat} (h : Nat.ble (k + x) (40 + y) = true) : k + (40 * b + x) ≤ 40 * (max a b + 1) + y := dUp1 (dR h)
theorem d0 {k a x y : Nat} (h : Nat.ble (k + x) y = true) : k + x ≤ 40 * a + y := Nat.le_trans (le_of_ble h) (Nat.le_add_left _ _)
theorem dV {k c y : Nat} (h : Nat.ble k y = true) : k + c ≤ c + y := Nat.le_trans (Nat.le_of_eq (Nat.add_comm k c)) (Nat.add_le_add_left (le_of_ble h) c)
theorem dW {k c x y : Nat} (h : Nat.ble (k + x) y = true) : k + x ≤ c + y := Nat.le_trans (le_of_ble h) (Nat.le_add_left _ _)
theorem dd0 {D : Nat} : 0 ≤ D + 1 := Nat.zero_le _
theorem dd1 {p D : Nat} (h : p ≤ D) : p + 1 ≤ D + 1 := Nat.add_le_add_right h 1
theorem dd2 {p q D : Nat} (h : p ≤ D) (k : q ≤ D) : max p q + 1 ≤ D + 1 := Nat.add_le_add_right (Nat.max_le.mpr ⟨h, k⟩) 1
theorem ww0 {W k : Nat} (h : Nat.ble k 1000 = true) : k ≤ W + W + 1000 := Nat.le_trans (le_of_ble h) (Nat.le_add_left _ _)
theorem ww1 {p W k : Nat} (h : p ≤ W) (q : Nat.ble k 1000 = true) : p + k ≤ W + W + 1000 := Nat.add_le_add (Nat.le_trans h (Nat.le_add_left W W)) (le_of_ble q)
theorem ww2 {p p' W k : Nat} (h : p ≤ W) (h' : p' ≤ W) (q : Nat.ble k 1000 = true) : p + p' + k ≤ W + W + 1000 := Nat.add_le_add (Nat.add_le_add h h') (le_of_ble q)
theorem ww3 {W : Nat} : W ≤ W + W + 1000 := Nat.le_trans (Nat.le_add_left W W) (Nat.le_add_right _ _)
theorem size_of {e n N : Nat} (h : e ≤ n) (q : Nat.ble n N = true) : e ≤ N := Nat.le_trans h (Nat.le_of_ble_eq_true q)
theorem lenApp {x y : Str} {m n : Nat} (h : x.length ≤ m) (k : y.length ≤ n) : (x ++ y).length ≤ m + n := by
  rw [PySem.Str.length_append]; exact Nat.add_le_add h k
theorem iteLe {c : Prop} [Decidable c] {x y : Nat} {m n : Nat} (h : x ≤ m) (k : y ≤ n) : (if c then x else y) ≤ m + n := by
  by_cases e : c
  · rw [if_pos e]; exact Nat.le_trans h (Nat.le_add_right _ _)
  · rw [if_neg e]; exact Nat.le_trans k (Nat.le_add_left _ _)
theorem lenIte {c : Prop} [Decidable c] {x y : Str} {m n : Nat} (h : x.length ≤ m) (k : y.length ≤ n) : (if c then x else y).length ≤ m + n := by
  by_cases e : c
  · rw [if_pos e]; exact Nat.le_trans h (Nat.le_add_right _ _)
  · rw [if_neg e]; exact Nat.le_trans k (Nat.le_add_left _ _)
theorem addLe {x y m n : Nat} (h : x ≤ m) (k : y ≤ n) : x + y ≤ m + n := Nat.add_le_add h k
theorem mulLe {c x m : Nat} (h : x ≤ m) : c * x ≤ c * m := Nat.mul_le_mul_left c h
theorem lenW1 {a b w m : Nat} (h : a ≤ w ∧ b ≤ w) (k : w ≤ m) : a ≤ m := Nat.le_trans h.1 k
theorem lenW2 {a b w m : Nat} (h : a ≤ w ∧ b ≤ w) (k : w ≤ m) : b ≤ m := Nat.le_trans h.2 k
theorem lenV1 {a b w v m : Nat} (h : a ≤ w ∧ b ≤ w) (k : w ≤ v) (q : v ≤ m) : a ≤ m := Nat.le_trans h.1 (Nat.le_trans k q)
theorem lenV2 {a b w v m : Nat} (h : a ≤ w ∧ b ≤ w) (k : w ≤ v) (q : v ≤ m) : b ≤ m := Nat.le_trans h.2 (Nat.le_trans k q)

section
variable {prog : Program} {w : World} {A : Around} {E : Value → Shared → Prop} {s : Shared} {D : Addr} {p a b c : Str} {t u v x : Tok} {Q : Value → Shared → Prop}
theorem jn0 (hl : s.heap.IsList D #[]) (h : ∀ t' k, Q (.str (Str.ofString "") t') { s with toks := k }) : wpAny (model prog w) A (call (.builtin "str.join") [.str p x, .ref D]) Q E s :=
  join_list hl .nil (by simp) (by rw [j0]; exact h)
theorem jn1 (hl : s.heap.IsList D #[.str a t]) (hz : p.length + a.length ≤ 16000000) (h : ∀ t' k, Q (.str a t') { s with toks := k }) : wpAny (model prog w) A (call (.builtin "str.join") [.str p x, .ref D]) Q E s :=
  join_list hl (.cons _ _ .nil) (by simp; omega) (by rw [j1]; exact h)
theorem jn2 (hl : s.heap.IsList D #[.str a t, .str b u]) (hz : 2 * p.length + a.length + b.length ≤ 16000000) (h : ∀ t' k, Q (.str (a ++ p ++ b) t') { s with toks := k }) : wpAny (model prog w) A (call (.builtin "str.join") [.str p x, .ref D]) Q E s :=
  join_list hl (.cons _ _ (.cons _ _ .nil)) (by simp; omega) (by rw [j2]; exact h)
theorem jn3 (hl : s.heap.IsList D #[.str a t, .str b u, .str c v]) (hz : 3 * p.length + a.length + b.length + c.length ≤ 16000000) (h : ∀ t' k, Q (.str (a ++ p ++ (b ++ p ++ c)) t') { s with toks := k }) : wpAny (model prog w) A (call (.builtin "str.join") [.str p x, .ref D]) Q E s :=
  join_list hl (.cons _ _ (.cons _ _ (.cons _ _ .nil))) (by simp; omega) (by rw [j3]; exact h)
end
end Mine
end

section
open PySem PySem.W PyProof.Rows PySem.Calls
namespace Mine
set_option maxRecDepth 100000
set_option maxHeartbeats 8000000

/-- a value up to its token -/
inductive PV | s (x : Str) | i (n : Int) | b (p : Bool) | v (u : Value)
noncomputable def PV.is : PV → Value → Prop
  | .s x, u => ∃ t, u = .str x t
  | .i n, u => ∃ t, u = .int n t
  | .b p, u => u = .bool p
  | .v w, u => u = w
noncomputable def strOf : Value → Option Str
  | .str x _ => some x
  | _ => none
noncomputable def intOf : Value → Option Int
  | .int n _ => some n
  | _ => none
noncomputable def boolOf : Value → Option Bool
  | .bool p => some p
  | _ => none
noncomputable def PV.str? : PV → Option Str
  | .s x => some x
  | .v u => strOf u
  | _ => none
noncomputable def PV.int? : PV → Option Int
  | .i n => some n
  | .v u => intOf u
  | _ => none
noncomputable def PV.bool? : PV → Option Bool
  | .b p => some p
  | .v u => boolOf u
  | _ => none
theorem strOf_is {u : Value} {x : Str} (e : strOf u = some x) : ∃ t, u = .str x t := by
  cases u <;> first | (cases e; exact ⟨_, rfl⟩) | cases e
theorem intOf_is {u : Value} {x : Int} (e : intOf u = some x) : ∃ t, u = .int x t := by
  cases u <;> first | (cases e; exact ⟨_, rfl⟩) | cases e
theorem boolOf_is {u : Value} {x : Bool} (e : boolOf u = some x) : u = .bool x := by
  cases u <;> first | (cases e; exact rfl) | cases e
theorem PV.str_is {r : PV} {x : Str} {u : Value} (e : r.str? = some x) (h : r.is u) : ∃ t, u = .str x t := by
  cases r with
  | s y => cases e; exact h
  | i _ => exact nomatch e
  | b _ => exact nomatch e
  | v w => obtain ⟨t, q⟩ := strOf_is e; exact ⟨t, Eq.trans h q⟩
theorem PV.int_is {r : PV} {x : Int} {u : Value} (e : r.int? = some x) (h : r.is u) : ∃ t, u = .int x t := by
  cases r with
  | i y => cases e; exact h
  | s _ => exact nomatch e
  | b _ => exact nomatch e
  | v w => obtain ⟨t, q⟩ := intOf_is e; exact ⟨t, Eq.trans h q⟩
theorem PV.bool_is {r : PV} {x : Bool} {u : Value} (e : r.bool? = some x) (h : r.is u) : u = .bool x := by
  cases r with
  | b y => cases e; exact h
  | s _ => exact nomatch e
  | i _ => exact nomatch e
  | v w => exact Eq.trans h (boolOf_is e)

/-- a name that is one of the frame's own -/
noncomputable def ownName (k : Str → Option NameKind) (x : Str) : Bool := k x == some .local && !(x == Str.ofString "__debug__")
noncomputable def pvConst : Const → Option (PV × Nat)
  | .str x => some (.s x, 0)
  | .int n => some (.i n, 0)
  | .bool c => some (.b c, 0)
  | .none => some (.v .none, 0)
  | _ => none
noncomputable def pvAddS (n : Nat) : Option Str → Option Str → Option (PV × Nat)
  | some x, some y => some (.s (x ++ y), n + (x.length + y.length))
  | _, _ => none
noncomputable def pvAdd : Option (PV × Nat) → Option (PV × Nat) → Option (PV × Nat)
  | some (a, p), some (b, q) => pvAddS (p + q) a.str? b.str?
  | _, _ => none
noncomputable def pvCmpI (n : Nat) : Option Int → Option Int → Option (PV × Nat)
  | some x, some y => some (.b (x == y), n)
  | _, _ => none
noncomputable def pvCmpS (ne : Bool) (n : Nat) (e : Option (PV × Nat)) : Option Str → Option Str → Option (PV × Nat)
  | some x, some y => match ne with | true => some (.b (x != y), n) | false => some (.b (x == y), n)
  | _, _ => match ne with | true => none | false => e
noncomputable def pvCmp (ne : Bool) : Option (PV × Nat) → Option (PV × Nat) → Option (PV × Nat)
  | some (a, p), some (b, q) => pvCmpS ne (p + q) (pvCmpI (p + q) a.int? b.int?) a.str? b.str?
  | _, _ => none
noncomputable def pvIfB (n : Nat) (a b : Option (PV × Nat)) : Option Bool → Option (PV × Nat)
  | some true => a.map fun r => (r.1, n + r.2)
  | some false => b.map fun r => (r.1, n + r.2)
  | none => none
noncomputable def pvIf : Option (PV × Nat) → Option (PV × Nat) → Option (PV × Nat) → Option (PV × Nat)
  | some (t, n), a, b => pvIfB n a b t.bool?
  | none, _, _ => none
noncomputable def oneL {α : Type} : List α → Option α
  | [] => none
  | a :: r => match r with | [] => some a | _ :: _ => none
theorem oneL_some {α : Type} {l : List α} {a : α} (e : oneL l = some a) : l = [a] := by
  cases l with
  | nil => exact nomatch e
  | cons b r => cases r with
    | nil => cases e; rfl
    | cons _ _ => exact nomatch e
noncomputable def isCmp : CmpOp → Option Bool
  | .Eq => some false
  | .NotEq => some true
  | _ => none
theorem isCmp_some {op : CmpOp} {ne : Bool} (e : isCmp op = some ne) : op = if ne = true then .NotEq else .Eq := by
  cases op <;> first | (cases e; exact rfl) | cases e
noncomputable def plainTest : Expr → Bool
  | .Name _ _ => true
  | .Constant _ _ _ => true
  | .Compare _ _ _ _ => true
  | _ => false
noncomputable def pvBin (x y : Option (PV × Nat)) : Operator → Option (PV × Nat)
  | .Add => pvAdd x y
  | _ => none
noncomputable def pvComp (ev : Expr → Option (PV × Nat)) (l : Expr) (op : CmpOp) (r : Expr) : Option Bool → Option (PV × Nat)
  | some ne => if behindInMarks op r = false then pvCmp ne (ev l) (ev r) else none
  | none => none
noncomputable def pvComps (ev : Expr → Option (PV × Nat)) (l : Expr) : Option CmpOp → Option Expr → Option (PV × Nat)
  | some op, some r => pvComp ev l op r (isCmp op)
  | _, _ => none
noncomputable def pvStep (k : Str → Option NameKind) (m : Str → Option Value) (ev : Expr → Option (PV × Nat)) : Expr → Option (PV × Nat)
  | .Name x _ => if ownName k x = true then (m x).map fun u => (.v u, 0) else none
  | .Constant c _ _ => pvConst c
  | .BinOp l op r _ => pvBin (ev l) (ev r) op
  | .Compare l ops rs _ => pvComps ev l (oneL ops) (oneL rs)
  | .IfExp t a b _ => if plainTest t = true then pvIf (ev t) (ev a) (ev b) else none
  | _ => none
theorem if_some {α : Type} {c : Prop} [Decidable c] {x : Option α} {y : α} (e : (if c then x else none) = some y) : c ∧ x = some y := by
  by_cases h : c
  · rw [if_pos h] at e; exact ⟨h, e⟩
  · rw [if_neg h] at e; exact nomatch e
/-- a plain expression's value, and what its texts' lengths add up to -/
noncomputable def pv (k : Str → Option NameKind) (m : Str → Option Value) : Nat → Expr → Option (PV × Nat)
  | 0, _ => none
  | f + 1, e => pvStep k m (pv k m f) e

section
variable {prog : Program} {w : World} {A : Around} {E : Value → Shared → Prop} {h₀ : Heap} {L a : Addr} {m : Str → Option Value} {cn : Str} {cs : Scope} {ccd : Value} {cl : List (Str × Addr)}
theorem pvAdd_some {x y : Option (PV × Nat)} {r : PV} {n : Nat} (e : pvAdd x y = some (r, n)) : ∃ a p b q u v, x = some (a, p) ∧ y = some (b, q) ∧ a.str? = some u ∧ b.str? = some v ∧ r = .s (u ++ v) ∧ n = p + q + (u.length + v.length) := by
  cases x with
  | none => exact nomatch e
  | some x => cases y with
    | none => exact nomatch e
    | some y =>
      replace e : pvAddS (x.2 + y.2) x.1.str? y.1.str? = some (r, n) := e
      cases hu : x.1.str? with
      | none => rw [hu] at e; exact nomatch e
      | some u => cases hv : y.1.str? with
        | none => rw [hu, hv] at e; exact nomatch e
        | some v => rw [hu, hv] at e; cases e; exact ⟨_, _, _, _, _, _, rfl, rfl, hu, hv, rfl, rfl⟩
theorem pvCmpI_some {m n : Nat} {a b : Option Int} {r : PV} (e : pvCmpI m a b = some (r, n)) : n = m ∧ ∃ u v, a = some u ∧ b = some v ∧ r = .b (u == v) := by
  cases a with
  | none => exact nomatch e
  | some u => cases b with
    | none => exact nomatch e
    | some v => cases e; exact ⟨rfl, _, _, rfl, rfl, rfl⟩
theorem pvCmpS_some {ne : Bool} {m n : Nat} {z : Option (PV × Nat)} {a b : Option Str} {r : PV} (e : pvCmpS ne m z a b = some (r, n)) : (n = m ∧ ∃ u v, a = some u ∧ b = some v ∧ r = .b (if ne then u != v else u == v)) ∨ (ne = false ∧ z = some (r, n)) := by
  cases ne with
  | true => cases a with
    | none => exact nomatch e
    | some u => cases b with
      | none => exact nomatch e
      | some v => cases e; exact .inl ⟨rfl, _, _, rfl, rfl, rfl⟩
  | false => cases a with
    | none => exact .inr ⟨rfl, e⟩
    | some u => cases b with
      | none => exact .inr ⟨rfl, e⟩
      | some v => cases e; exact .inl ⟨rfl, _, _, rfl, rfl, rfl⟩
theorem pvCmp_some {ne : Bool} {x y : Option (PV × Nat)} {r : PV} {n : Nat} (e : pvCmp ne x y = some (r, n)) : ∃ a p b q, x = some (a, p) ∧ y = some (b, q) ∧ n = p + q ∧
    ((∃ u v, a.str? = some u ∧ b.str? = some v ∧ r = .b (if ne then u != v else u == v)) ∨ (∃ u v, ne = false ∧ a.int? = some u ∧ b.int? = some v ∧ r = .b (u == v))) := by
  cases x with
  | none => exact nomatch e
  | some x => cases y with
    | none => exact nomatch e
    | some y => rcases pvCmpS_some e with ⟨rfl, u, v, h1, h2, h3⟩ | ⟨h0, h⟩
                · exact ⟨_, _, _, _, rfl, rfl, rfl, .inl ⟨u, v, h1, h2, h3⟩⟩
                · obtain ⟨h4, u, v, h1, h2, h3⟩ := pvCmpI_some h
                  exact ⟨_, _, _, _, rfl, rfl, h4, .inr ⟨u, v, h0, h1, h2, h3⟩⟩
theorem pvIf_some {t x y : Option (PV × Nat)} {r : PV} {n : Nat} (e : pvIf t x y = some (r, n)) : ∃ a p c, t = some (a, p) ∧ a.bool? = some c ∧ ∃ q, (if c = true then x else y) = some (r, q) ∧ n = p + q := by
  cases t with
  | none => exact nomatch e
  | some t =>
    replace e : pvIfB t.2 x y t.1.bool? = some (r, n) := e
    cases hc : t.1.bool? with
    | none => rw [hc] at e; exact nomatch e
    | some c =>
      rw [hc] at e
      cases c with
      | true => obtain ⟨z, h, q⟩ := Option.map_eq_some_iff.mp e; cases q; exact ⟨_, _, true, rfl, hc, _, h, rfl⟩
      | false => obtain ⟨z, h, q⟩ := Option.map_eq_some_iff.mp e; cases q; exact ⟨_, _, false, rfl, hc, _, h, rfl⟩

theorem cmp_sound {op : CmpOp} {ne : Bool} (hop : op = if ne then .NotEq else .Eq) {env : Env} {x y : Option (PV × Nat)} {l r' : Expr} {r : PV} {n : Nat} {s : Shared} {Q : Value → Shared → Prop}
    (hx : ∀ r n (s : Shared) (Q : Value → Shared → Prop), Fr h₀ L s.heap m → x = some (r, n) → n ≤ sizeLine → (∀ v tk, r.is v → Q v { s with toks := tk }) → wpAny (model prog w) A (eval l env) Q E s)
    (hy : ∀ r n (s : Shared) (Q : Value → Shared → Prop), Fr h₀ L s.heap m → y = some (r, n) → n ≤ sizeLine → (∀ v tk, r.is v → Q v { s with toks := tk }) → wpAny (model prog w) A (eval r' env) Q E s)
    (F : Fr h₀ L s.heap m) (h : pvCmp ne x y = some (r, n)) (hn : n ≤ sizeLine) (q : ∀ v tk, r.is v → Q v { s with toks := tk }) :
    wpAny (model prog w) A (eval l env) (fun a s₁ => wpAny (model prog w) A (eval r' env) (fun b s₂ => wpAny (model prog w) A (compareOp op a b) Q E s₂) E s₁) E s := by
  obtain ⟨a, p, b, p', h1, h2, rfl, h3⟩ := pvCmp_some h
  refine hx _ _ _ _ F h1 (by omega) fun u tk hu' => hy _ _ _ _ F h2 (by omega) fun u' tk' hv' => ?_
  rcases h3 with ⟨u, v, hu, hv, rfl⟩ | ⟨u, v, hne, hu, hv, rfl⟩
  · obtain ⟨t, rfl⟩ := PV.str_is hu hu'
    obtain ⟨t', rfl⟩ := PV.str_is hv hv'
    cases ne with
    | false => subst hop; exact eq_str (q _ _ rfl)
    | true => subst hop; exact ne_str (q _ _ rfl)
  · obtain ⟨t, rfl⟩ := PV.int_is hu hu'
    obtain ⟨t', rfl⟩ := PV.int_is hv hv'
    subst hne
    subst hop
    exact eq_int (q _ _ rfl)

theorem pvComps_some {ev : Expr → Option (PV × Nat)} {l : Expr} {ops : List CmpOp} {rs : List Expr} {r : PV} {n : Nat} (e : pvComps ev l (oneL ops) (oneL rs) = some (r, n)) :
    ∃ op r' ne, ops = [op] ∧ rs = [r'] ∧ op = (if ne = true then .NotEq else .Eq) ∧ behindInMarks op r' = false ∧ pvCmp ne (ev l) (ev r') = some (r, n) := by
  cases ho : oneL ops with
  | none => rw [ho] at e; exact nomatch e
  | some op => cases hr : oneL rs with
    | none => rw [ho, hr] at e; exact nomatch e
    | some r' =>
      rw [ho, hr] at e
      replace e : pvComp ev l op r' (isCmp op) = some (r, n) := e
      cases hi : isCmp op with
      | none => rw [hi] at e; exact nomatch e
      | some ne => rw [hi] at e; obtain ⟨h1, h2⟩ := if_some e; exact ⟨op, r', ne, oneL_some ho, oneL_some hr, isCmp_some hi, h1, h2⟩
theorem pv_both (hk : cs.kind = .function) : ∀ (f : Nat),
    (∀ (e : Expr) (r : PV) (n : Nat) (s : Shared) (Q : Value → Shared → Prop), Fr h₀ L s.heap m → pv (envX cn cs L a ccd cl).kindOf m f e = some (r, n) → n ≤ sizeLine →
      (∀ v tk, r.is v → Q v { s with toks := tk }) → wpAny (model prog w) A (eval e (envX cn cs L a ccd cl)) Q E s) ∧
    (∀ (e : Expr) (r : PV) (n : Nat) (c : Bool) (s : Shared) (Q : Bool → Shared → Prop), plainTest e = true → Fr h₀ L s.heap m → pv (envX cn cs L a ccd cl).kindOf m f e = some (r, n) → r.bool? = some c → n ≤ sizeLine →
      (∀ tk, Q c { s with toks := tk }) → wpAny (model prog w) A (PySem.isTrue e (envX cn cs L a ccd cl) (eval e (envX cn cs L a ccd cl))) Q E s) := by
  intro f
  induction f with
  | zero => exact ⟨fun e r n s Q F h => (nomatch h), fun e r n c s Q _ F h => (nomatch h)⟩
  | succ f ih =>
    have ev : ∀ (e : Expr) (r : PV) (n : Nat) (s : Shared) (Q : Value → Shared → Prop), Fr h₀ L s.heap m → pv (envX cn cs L a ccd cl).kindOf m (f + 1) e = some (r, n) → n ≤ sizeLine →
      (∀ v tk, r.is v → Q v { s with toks := tk }) → wpAny (model prog w) A (eval e (envX cn cs L a ccd cl)) Q E s := by
      intro e r n s Q F h hn q
      cases e with
      | Name x p =>
        obtain ⟨ho, h⟩ := if_some (h : (if ownName (envX cn cs L a ccd cl).kindOf x = true then (m x).map fun u => (PV.v u, 0) else none) = some (r, n))
        obtain ⟨u, hu, e⟩ := Option.map_eq_some_iff.mp h
        cases e
        simp only [ownName, Bool.and_eq_true, beq_iff_eq, Bool.not_eq_true'] at ho
        exact nameX_L F hu (q u s.toks rfl) hk ho.1 ho.2
      | Constant c k p =>
        replace h : pvConst c = some (r, n) := h
        cases c with
        | str x => cases h; exact Constant_str (q _ _ ⟨_, rfl⟩)
        | int x => cases h; exact wpAny_Constant_int (q _ _ ⟨_, rfl⟩)
        | bool x => cases h; exact Constant_bool (q _ _ rfl)
        | none => cases h; exact Constant_none (q _ _ rfl)
        | _ => exact nomatch h
      | BinOp l op r' p =>
        replace h : pvBin (pv (envX cn cs L a ccd cl).kindOf m f l) (pv (envX cn cs L a ccd cl).kindOf m f r') op = some (r, n) := h
        cases op with
        | Add =>
          obtain ⟨a, p, b, p', u, v, h1, h2, hu, hv, rfl, rfl⟩ := pvAdd_some h
          refine wpAny_BinOp (ih.1 _ _ _ _ _ F h1 (by omega) fun x tk hx => ih.1 _ _ _ _ _ F h2 (by omega) fun y tk' hy => ?_)
          obtain ⟨t, rfl⟩ := PV.str_is hu hx
          obtain ⟨t', rfl⟩ := PV.str_is hv hy
          exact add_str (fun t'' tk'' => q _ _ ⟨_, rfl⟩) (by omega)
        | _ => exact nomatch h
      | Compare l ops rs p =>
        obtain ⟨op, r', ne, rfl, rfl, ho, hb, h⟩ := pvComps_some h
        exact wpAny_Compare1 (cmp_sound ho (fun r n s Q F => ih.1 _ r n s Q F) (fun r n s Q F => ih.1 _ r n s Q F) F h hn q) hb
      | IfExp t' a' b' p =>
        obtain ⟨hp, h⟩ := if_some (h : (if plainTest t' = true then pvIf (pv (envX cn cs L a ccd cl).kindOf m f t') (pv (envX cn cs L a ccd cl).kindOf m f a') (pv (envX cn cs L a ccd cl).kindOf m f b') else none) = some (r, n))
        obtain ⟨t, p, c, h1, hc, p', h2, rfl⟩ := pvIf_some h
        refine IfExp_ (ih.2 _ _ _ _ _ _ hp F h1 hc (by omega) fun tk => ?_)
        cases c with
        | true => exact ih.1 _ _ _ _ _ F h2 (by omega) fun y tk' hy => q _ _ hy
        | false => exact ih.1 _ _ _ _ _ F h2 (by omega) fun y tk' hy => q _ _ hy
      | _ => exact nomatch h
    refine ⟨ev, fun e r n c s Q hp F h hc hn q => ?_⟩
    cases e with
    | Name x p => exact isTrue_plain (ev _ _ _ _ _ F h hn fun v tk hv => by rw [PV.bool_is hc hv]; exact wpAny_truthy_bool (q _)) rfl
    | Constant x k p => exact isTrue_plain (ev _ _ _ _ _ F h hn fun v tk hv => by rw [PV.bool_is hc hv]; exact wpAny_truthy_bool (q _)) rfl
    | Compare l ops rs p =>
      obtain ⟨op, r', ne, rfl, rfl, ho, hb, h⟩ := pvComps_some h
      exact wpAny_isTrue_Compare1 (cmp_sound ho (fun r n s Q F => ih.1 _ r n s Q F) (fun r n s Q F => ih.1 _ r n s Q F) F h hn fun v tk hv => by rw [PV.bool_is hc hv]; exact wpAny_truthy_bool (q _)) hb
    | _ => exact nomatch hp

/-- a frame's names, one of them set -/
noncomputable def upd (m : Str → Option Value) (x : Str) (v : Value) : Str → Option Value := fun y => if y = x then some v else m y
/-- a look at the form alone -/
noncomputable def plainE : Nat → Expr → Bool
  | 0, _ => false
  | _ + 1, .Name _ _ => true
  | _ + 1, .Constant _ _ _ => true
  | f + 1, .BinOp l .Add r _ => plainE f l && plainE f r
  | f + 1, .Compare l [_] [r] _ => plainE f l && plainE f r
  | f + 1, .IfExp t a b _ => plainE f t && (plainE f a && plainE f b)
  | _ + 1, _ => false
theorem lenIf {c : Bool} {x y : Str} : (if c = true then x else y).length = if c = true then x.length else y.length := by cases c <;> rfl
noncomputable def PV.at : PV → Tok → Value
  | .s x, t => .str x t
  | .i n, t => .int n t
  | .b p, _ => .bool p
  | .v u, _ => u
theorem PV.is_at : ∀ {r : PV} {v : Value}, r.is v → ∃ t, v = r.at t
  | .s _, _, h => h
  | .i _, _, h => h
  | .b _, _, h => ⟨0, h⟩
  | .v _, _, h => ⟨0, h⟩
/-- a plain expression -/
theorem pure_eval0 {e : Expr} {r : PV} {n : Nat} {s : Shared} {Q : Value → Shared → Prop} (F : Fr h₀ L s.heap m) (hk : cs.kind = .function) (h : pv (envX cn cs L a ccd cl).kindOf m 12 e = some (r, n)) (hn : n ≤ sizeLine)
    (q : ∀ t tk, Q (r.at t) { s with toks := tk }) : wpAny (model prog w) A (eval e (envX cn cs L a ccd cl)) Q E s :=
  (pv_both hk 12).1 e r n s Q F h hn fun v tk hv => by
    obtain ⟨t, rfl⟩ := PV.is_at hv
    exact q t tk
theorem pure_eval {e : Expr} (_ : plainE 12 e = true) {r : PV} {n : Nat} {s : Shared} {Q : Value → Shared → Prop} (F : Fr h₀ L s.heap m) (hk : cs.kind = .function) (h : pv (envX cn cs L a ccd cl).kindOf m 12 e = some (r, n)) (hn : n ≤ sizeLine)
    (q : ∀ t tk, Q (r.at t) { s with toks := tk }) : wpAny (model prog w) A (eval e (envX cn cs L a ccd cl)) Q E s := pure_eval0 F hk h hn q
/-- a plain test -/
theorem pure_test0 {e : Expr} {r : PV} {n : Nat} {c : Bool} {s : Shared} {Q : Bool → Shared → Prop} (F : Fr h₀ L s.heap m) (hk : cs.kind = .function) (hp : plainTest e = true) (h : pv (envX cn cs L a ccd cl).kindOf m 12 e = some (r, n)) (hc : r.bool? = some c) (hn : n ≤ sizeLine)
    (q : ∀ tk, Q c { s with toks := tk }) : wpAny (model prog w) A (PySem.isTrue e (envX cn cs L a ccd cl) (eval e (envX cn cs L a ccd cl))) Q E s :=
  (pv_both hk 12).2 e r n c s Q hp F h hc hn q
theorem pure_test {e : Expr} (_ : plainE 12 e = true) {r : PV} {n : Nat} {c : Bool} {s : Shared} {Q : Bool → Shared → Prop} (F : Fr h₀ L s.heap m) (hk : cs.kind = .function) (hp : plainTest e = true) (h : pv (envX cn cs L a ccd cl).kindOf m 12 e = some (r, n)) (hc : r.bool? = some c) (hn : n ≤ sizeLine)
    (q : ∀ tk, Q c { s with toks := tk }) : wpAny (model prog w) A (PySem.isTrue e (envX cn cs L a ccd cl) (eval e (envX cn cs L a ccd cl))) Q E s := pure_test0 F hk hp h hc hn q
/-- a name takes a plain value -/
theorem pure_assign {x : Str} {px pa : Pos} {e : Expr} (hpl : plainE 12 e = true) {rest : List Stmt} {r : PV} {n : Nat} {s : Shared} {Q : Flow → Shared → Prop} {news : List (Addr × Obj)} (F : Fr h₀ L s.heap m) (N : News h₀ L s.heap news) (hk : cs.kind = .function)
    (h : pv (envX cn cs L a ccd cl).kindOf m 12 e = some (r, n)) (hn : n ≤ sizeLine) (hx : (envX cn cs L a ccd cl).kindOf x = some .local) (sw : swapsWith e (some (.Name x px)) pa.line (envX cn cs L a ccd cl) = pure false)
    (q : ∀ t h' tk, Fr h₀ L h' (upd m x (r.at t)) → News h₀ L h' news → wpAny (model prog w) A (execs rest (envX cn cs L a ccd cl)) Q E { s with heap := h', toks := tk }) :
    wpAny (model prog w) A (execs (.Assign [.Name x px] e pa :: rest) (envX cn cs L a ccd cl)) Q E s :=
  wpAny_execs_cons (wpAny_Assign_Name (pure_eval hpl F hk h hn fun t tk => storeX_L (s := { s with toks := tk }) F N (fun h' F' N' => q t h' _ F' N') hk hx) sw)
/-- a plain test that holds, that does not hold -/
theorem pure_if_t {e : Expr} {body orelse : List Stmt} {pi : Pos} {rest : List Stmt} {r : PV} {n : Nat} {s : Shared} {Q : Flow → Shared → Prop} (F : Fr h₀ L s.heap m) (hk : cs.kind = .function) (hp : plainTest e = true)
    (h : pv (envX cn cs L a ccd cl).kindOf m 12 e = some (r, n)) (hn : n ≤ sizeLine) (hc : r.bool? = some true)
    (q : ∀ tk, wpAny (model prog w) A (execs body (envX cn cs L a ccd cl)) (fun f s' => match f with | .next => wpAny (model prog w) A (execs rest (envX cn cs L a ccd cl)) Q E s' | f => Q f s') E { s with toks := tk }) :
    wpAny (model prog w) A (execs (.If e body orelse pi :: rest) (envX cn cs L a ccd cl)) Q E s :=
  wpAny_execs_cons (wpAny_If (pure_test0 F hk hp h hc hn fun tk => q tk))
theorem pure_if_f {e : Expr} {body : List Stmt} {pi : Pos} {rest : List Stmt} {r : PV} {n : Nat} {s : Shared} {Q : Flow → Shared → Prop} (F : Fr h₀ L s.heap m) (hk : cs.kind = .function) (hp : plainTest e = true)
    (h : pv (envX cn cs L a ccd cl).kindOf m 12 e = some (r, n)) (hn : n ≤ sizeLine) (hc : r.bool? = some false)
    (q : ∀ tk, wpAny (model prog w) A (execs rest (envX cn cs L a ccd cl)) Q E { s with toks := tk }) :
    wpAny (model prog w) A (execs (.If e body [] pi :: rest) (envX cn cs L a ccd cl)) Q E s :=
  wpAny_execs_cons (wpAny_If (pure_test0 F hk hp h hc hn fun tk => wpAny_execs_nil (q tk)))
theorem pure_if {e : Expr} (_ : plainE 12 e = true) {body : List Stmt} {pi : Pos} {rest : List Stmt} {r : PV} {n : Nat} {c : Bool} {s : Shared} {Q : Flow → Shared → Prop} (F : Fr h₀ L s.heap m) (hk : cs.kind = .function) (hp : plainTest e = true)
    (h : pv (envX cn cs L a ccd cl).kindOf m 12 e = some (r, n)) (hn : n ≤ sizeLine) (hc : r.bool? = some c)
    (q : ∀ tk, if c = true then wpAny (model prog w) A (execs body (envX cn cs L a ccd cl)) (fun f s' => match f with | .next => wpAny (model prog w) A (execs rest (envX cn cs L a ccd cl)) Q E s' | f => Q f s') E { s with toks := tk }
      else wpAny (model prog w) A (execs rest (envX cn cs L a ccd cl)) Q E { s with toks := tk }) :
    wpAny (model prog w) A (execs (.If e body [] pi :: rest) (envX cn cs L a ccd cl)) Q E s := by
  cases c with
  | true => exact pure_if_t F hk hp h hn hc q
  | false => exact pure_if_f F hk hp h hn hc q
theorem ite_int_one {k n : Int} {P R : Prop} (hne : k ≠ n) (h : R) : if (k == n) = true then P else R := by
  rw [show (k == n) = false from beq_eq_false_iff_ne.mpr hne]; exact h
theorem ite_int_two {k n : Int} {P R : Prop} (h1 : k = n → P) (h2 : k ≠ n → R) : if (k == n) = true then P else R := by
  by_cases e : k = n
  · rw [show (k == n) = true from beq_iff_eq.mpr e]; exact h1 e
  · rw [show (k == n) = false from beq_eq_false_iff_ne.mpr e]; exact h2 e
/-- a plain value goes back -/
theorem pure_return {e : Expr} (hpl : plainE 12 e = true) {pa : Pos} {rest : List Stmt} {r : PV} {n : Nat} {s : Shared} {Q : Flow → Shared → Prop} (F : Fr h₀ L s.heap m) (hk : cs.kind = .function)
    (h : pv (envX cn cs L a ccd cl).kindOf m 12 e = some (r, n)) (hn : n ≤ sizeLine) (q : ∀ t tk, Q (.ret (r.at t)) { s with toks := tk }) :
    wpAny (model prog w) A (execs (.Return (some e) pa :: rest) (envX cn cs L a ccd cl)) Q E s :=
  wpAny_execs_cons (wpAny_Return_some (pure_eval hpl F hk h hn fun t tk => q t tk))

/-- plain expressions in a row -/
noncomputable def pvCons : Option (PV × Nat) → Option (List PV × Nat) → Option (List PV × Nat)
  | some v, some w => some (v.1 :: w.1, v.2 + w.2)
  | _, _ => none
theorem pvCons_some {a : Option (PV × Nat)} {b : Option (List PV × Nat)} {rs : List PV} {n : Nat} (e : pvCons a b = some (rs, n)) : ∃ v p vs q, a = some (v, p) ∧ b = some (vs, q) ∧ rs = v :: vs ∧ n = p + q := by
  cases a with
  | none => exact nomatch e
  | some a => cases b with
    | none => exact nomatch e
    | some b => cases e; exact ⟨_, _, _, _, rfl, rfl, rfl, rfl⟩
noncomputable def pvs (k : Str → Option NameKind) (m : Str → Option Value) : List Expr → Option (List PV × Nat)
  | [] => some ([], 0)
  | e :: r => pvCons (pv k m 12 e) (pvs k m r)
noncomputable def AllAt : List PV → (List Value → Prop) → Prop
  | [], K => K []
  | .s x :: r, K => ∀ t, AllAt r fun vs => K (.str x t :: vs)
  | .i n :: r, K => ∀ t, AllAt r fun vs => K (.int n t :: vs)
  | .b p :: r, K => AllAt r fun vs => K (.bool p :: vs)
  | .v u :: r, K => AllAt r fun vs => K (u :: vs)
theorem AllAt.at {r : PV} {rs : List PV} {K : List Value → Prop} (h : AllAt (r :: rs) K) (t : Tok) : AllAt rs fun vs => K (r.at t :: vs) := by
  cases r with
  | s x => exact h t
  | i n => exact h t
  | b p => exact h
  | v u => exact h
theorem starEach_plain {k : Str → Option NameKind} {f : Nat} {e : Expr} {x : PV × Nat} {rest : List Expr} {env : Env} (h : pv k m f e = some x) : starEach (e :: rest) env = (false, eval e env) :: starEach rest env := by
  cases f with
  | zero => exact nomatch h
  | succ f => cases e <;> first | rfl | cases h
theorem pure_args0 (hk : cs.kind = .function) {pos : Pos} : ∀ (es : List Expr) (rs : List PV) (n : Nat) (s : Shared) (Q : List Value → Shared → Prop), Fr h₀ L s.heap m → pvs (envX cn cs L a ccd cl).kindOf m es = some (rs, n) → n ≤ sizeLine →
    (∀ tk, AllAt rs fun vs => Q vs { s with toks := tk }) → wpAny (model prog w) A (spliced (backTo pos (starEach es (envX cn cs L a ccd cl)))) Q E s := by
  intro es
  induction es with
  | nil =>
    intro rs n s Q F h hn q
    cases h
    exact args_nil (q s.toks)
  | cons e es ih =>
    intro rs n s Q F h hn q
    obtain ⟨v, p, vs, p', h1, h2, rfl, rfl⟩ := pvCons_some h
    exact args_cons (pure_eval0 F hk h1 (by omega) fun t tk => ih _ _ _ _ F h2 (by omega) fun tk' => (q tk').at t) (starEach_plain h1)
theorem pure_args {es : List Expr} (_ : es.all (plainE 12) = true) (hk : cs.kind = .function) {pos : Pos} {rs : List PV} {n : Nat} {s : Shared} {Q : List Value → Shared → Prop} (F : Fr h₀ L s.heap m) (h : pvs (envX cn cs L a ccd cl).kindOf m es = some (rs, n)) (hn : n ≤ sizeLine)
    (q : ∀ tk, AllAt rs fun vs => Q vs { s with toks := tk }) : wpAny (model prog w) A (spliced (backTo pos (starEach es (envX cn cs L a ccd cl)))) Q E s := pure_args0 hk es rs n s Q F h hn q
/-- a tuple of plain values -/
theorem pure_tuple {es : List Expr} (_ : es.all (plainE 12) = true) {k : Nat} {pos : Pos} {rs : List PV} {n : Nat} {s : Shared} {Q : Value → Shared → Prop} {news : List (Addr × Obj)} (F : Fr h₀ L s.heap m) (N : News h₀ L s.heap news) (hk : cs.kind = .function)
    (h : pvs (envX cn cs L a ccd cl).kindOf m es = some (rs, n)) (hn : n ≤ sizeLine) (hz : es.length ≤ sizeLine)
    (q : ∀ tk, AllAt rs fun vs => ∀ D h', Fr h₀ L h' m → News h₀ L h' ((D, { cls := Value.type "tuple", data := Data.seq vs.toArray }) :: news) → (∀ p ∈ news, p.1 < D) → Q (.ref D) { s with heap := h', toks := tk }) :
    wpAny (model prog w) A (eval (.Tuple es k pos) (envX cn cs L a ccd cl)) Q E s := by
  have len : ∀ (es : List Expr) (rs : List PV) (n : Nat), pvs (envX cn cs L a ccd cl).kindOf m es = some (rs, n) → rs.length = es.length := by
    intro es
    induction es with
    | nil => intro rs n h; cases h; rfl
    | cons e es ih =>
      intro rs n h
      obtain ⟨v, p, vs, p', h1, h2, rfl, rfl⟩ := pvCons_some h
      exact congrArg (· + 1) (ih _ _ h2)
  have all : ∀ (rs : List PV) (K K' : List Value → Prop), AllAt rs K → (∀ vs, vs.length = rs.length → K vs → K' vs) → AllAt rs K' := by
    intro rs
    induction rs with
    | nil => exact fun K K' h k => k [] rfl h
    | cons r rs ih =>
      intro K K' h k
      have st : ∀ t, AllAt rs fun vs => K' (r.at t :: vs) := fun t => ih _ _ (h.at t) fun vs hl x => k _ (by simp only [List.length_cons, hl]) x
      cases r with
      | s x => exact st
      | i n => exact st
      | b p => exact st 0
      | v u => exact st 0
  refine Tuple_ (pure_args0 hk es rs n s _ F h hn fun tk => all _ _ _ (q tk) fun vs hl x => ?_)
  exact kup_newTuple F N (fun D h' F' N' l => x D h' F' N' l) (by rw [hl, len _ _ _ h]; exact hz)

theorem txt_mul_one (y : Str) : Txt.mul y 1 = y := by
  unfold Txt.mul; simp
theorem txt_mul_zero (y : Str) : Txt.mul y 0 = Str.ofString "" := by
  unfold Txt.mul
  rw [if_pos (by decide)]
  rfl
/-- a text times a truth -/
theorem mulP_int {K : Frag} {p : Program} {loose : List Str} {mg mb : Str → Option Value} {y x : Str} {b : Bool} {k1 : Nat} {p1 p2 p3 p4 p5 : Pos} {s : Shared} {Q : Value → Shared → Prop} (F : Fr h₀ L s.heap m) (X : K.In h₀) (T : TopRead p loose mg mb h₀)
    (hI : nsIn K mainGlobals (Str.ofString "int") = some none) (hx : m x = some (.bool b)) (hk : cs.kind = .function) (hi : (envX cn cs L a ccd cl).kindOf (Str.ofString "int") = some .globalImplicit) (hxl : ownName (envX cn cs L a ccd cl).kindOf x = true) (hl : y.length ≤ 100)
    (q : ∀ t tk, Q (.str (if b then y else Str.ofString "") t) { s with toks := tk }) :
    wpAny (model prog w) A (eval (.BinOp (.Constant (.str y) k1 p1) .Mult (.Call (.Name (Str.ofString "int") p2) [.Name x p3] [] p4) p5) (envX cn cs L a ccd cl)) Q E s := by
  simp only [ownName, Bool.and_eq_true, beq_iff_eq, Bool.not_eq_true'] at hxl
  refine wpAny_BinOp (Constant_str (Call_ (nameX_B (s := { s with toks := s.toks + 1 }) F X T hI boot_int (by decide +kernel) ?_ hk hi (by decide +kernel))))
  refine Pv.callWith_type1 (args_cons (nameX_L (s := { s with toks := s.toks + 1 }) F hx (args_nil (call_int_bool ?_)) hk hxl.1 hxl.2))
  cases b with
  | true => exact SB.mul (mulOk_of 100 1 hl (by decide) (by decide) (by decide) (by decide)) fun t k => by rw [show Txt.mul y (if true = true then 1 else 0) = y from txt_mul_one y]; exact q t k
  | false => exact SB.mul (mulOk_of 100 1 hl (by decide) (by decide) (by decide) (by decide)) fun t k => by rw [show Txt.mul y (if false = true then 1 else 0) = Str.ofString "" from txt_mul_zero y]; exact q t k
theorem pure_evalE {env : Env} (he : env = envX cn cs L a ccd cl) {e : Expr} (hz0 : plainE 12 e = true) {r : PV} {n : Nat} {s : Shared} {Q : Value → Shared → Prop} (F : Fr h₀ L s.heap m) (hk : cs.kind = .function) (h : pv env.kindOf m 12 e = some (r, n)) (hn : n ≤ sizeLine)
    (q : ∀ t tk, Q (r.at t) { s with toks := tk }) : wpAny (model prog w) A (eval e env) Q E s := by
  subst he
  exact pure_eval hz0 F hk h hn q
theorem pure_testE {env : Env} (he : env = envX cn cs L a ccd cl) {e : Expr} (hz0 : plainE 12 e = true) {r : PV} {n : Nat} {c : Bool} {s : Shared} {Q : Bool → Shared → Prop} (F : Fr h₀ L s.heap m) (hk : cs.kind = .function) (hp : plainTest e = true) (h : pv env.kindOf m 12 e = some (r, n)) (hc : r.bool? = some c) (hn : n ≤ sizeLine)
    (q : ∀ tk, Q c { s with toks := tk }) : wpAny (model prog w) A (PySem.isTrue e env (eval e env)) Q E s := by
  subst he
  exact pure_test hz0 F hk hp h hc hn q
theorem pure_assignE {env : Env} (he : env = envX cn cs L a ccd cl) {x : Str} {px pa : Pos} {e : Expr} (hpl : plainE 12 e = true) {rest : List Stmt} {r : PV} {n : Nat} {s : Shared} {Q : Flow → Shared → Prop} {news : List (Addr × Obj)} (F : Fr h₀ L s.heap m) (N : News h₀ L s.heap news) (hk : cs.kind = .function)
    (h : pv env.kindOf m 12 e = some (r, n)) (hn : n ≤ sizeLine) (hx : env.kindOf x = some .local) (sw : swapsWith e (some (.Name x px)) pa.line env = pure false)
    (q : ∀ t h' tk, let mm := upd m x (r.at t); Fr h₀ L h' mm → News h₀ L h' news → wpAny (model prog w) A (execs rest env) Q E { s with heap := h', toks := tk }) :
    wpAny (model prog w) A (execs (.Assign [.Name x px] e pa :: rest) env) Q E s := by
  subst he
  exact pure_assign hpl F N hk h hn hx sw q
theorem pure_ifE {env : Env} (he : env = envX cn cs L a ccd cl) {e : Expr} (hz0 : plainE 12 e = true) {body : List Stmt} {pi : Pos} {rest : List Stmt} {r : PV} {n : Nat} {c : Bool} {s : Shared} {Q : Flow → Shared → Prop} (F : Fr h₀ L s.heap m) (hk : cs.kind = .function) (hp : plainTest e = true)
    (h : pv env.kindOf m 12 e = some (r, n)) (hn : n ≤ sizeLine) (hc : r.bool? = some c)
    (q : ∀ tk, if c = true then wpAny (model prog w) A (execs body env) (fun f s' => match f with | .next => wpAny (model prog w) A (execs rest env) Q E s' | f => Q f s') E { s with toks := tk }
      else wpAny (model prog w) A (execs rest env) Q E { s with toks := tk }) :
    wpAny (model prog w) A (execs (.If e body [] pi :: rest) env) Q E s := by
  subst he
  exact pure_if hz0 F hk hp h hn hc q
theorem pure_argsE {env : Env} (he : env = envX cn cs L a ccd cl) {es : List Expr} (hz0 : es.all (plainE 12) = true) (hk : cs.kind = .function) {pos : Pos} {rs : List PV} {n : Nat} {s : Shared} {Q : List Value → Shared → Prop} (F : Fr h₀ L s.heap m) (h : pvs env.kindOf m es = some (rs, n)) (hn : n ≤ sizeLine)
    (q : ∀ tk, AllAt rs fun vs => Q vs { s with toks := tk }) : wpAny (model prog w) A (spliced (backTo pos (starEach es env))) Q E s := by
  subst he
  exact pure_args hz0 hk F h hn q
theorem pure_tupleE {env : Env} (he : env = envX cn cs L a ccd cl) {es : List Expr} (hz0 : es.all (plainE 12) = true) {k : Nat} {pos : Pos} {rs : List PV} {n : Nat} {s : Shared} {Q : Value → Shared → Prop} {news : List (Addr × Obj)} (F : Fr h₀ L s.heap m) (N : News h₀ L s.heap news) (hk : cs.kind = .function)
    (h : pvs env.kindOf m es = some (rs, n)) (hn : n ≤ sizeLine) (hz : es.length ≤ sizeLine)
    (q : ∀ tk, AllAt rs fun vs => ∀ D h', Fr h₀ L h' m → News h₀ L h' ((D, { cls := Value.type "tuple", data := Data.seq vs.toArray }) :: news) → (∀ p ∈ news, p.1 < D) → Q (.ref D) { s with heap := h', toks := tk }) :
    wpAny (model prog w) A (eval (.Tuple es k pos) env) Q E s := by
  subst he
  exact pure_tuple hz0 F N hk h hn hz q
theorem mul_intE {env : Env} (he : env = envX cn cs L a ccd cl) {K : Frag} {p : Program} {loose : List Str} {mg mb : Str → Option Value} {y x : Str} {b : Bool} {k1 : Nat} {p1 p2 p3 p4 p5 : Pos} {s : Shared} {Q : Value → Shared → Prop} (F : Fr h₀ L s.heap m) (X : K.In h₀) (T : TopRead p loose mg mb h₀)
    (hI : nsIn K mainGlobals (Str.ofString "int") = some none) (hx : m x = some (.bool b)) (hk : cs.kind = .function) (hi : env.kindOf (Str.ofString "int") = some .globalImplicit) (hxl : ownName env.kindOf x = true) (hl : y.length ≤ 100)
    (q : ∀ t tk, Q (.str (if b then y else Str.ofString "") t) { s with toks := tk }) :
    wpAny (model prog w) A (eval (.BinOp (.Constant (.str y) k1 p1) .Mult (.Call (.Name (Str.ofString "int") p2) [.Name x p3] [] p4) p5) env) Q E s := by
  subst he
  exact mulP_int F X T hI hx hk hi hxl hl q
theorem storeU {M : Model} {env : Env} (he : env = envX cn cs L a ccd cl) {s : Shared} {x : Str} {v : Value} {Q : Unit → Shared → Prop} {news : List (Addr × Obj)} (F : Fr h₀ L s.heap m) (N : News h₀ L s.heap news) (hk : cs.kind = .function) (hx : env.kindOf x = some .local)
    (q : ∀ h', let mm := upd m x v; Fr h₀ L h' mm → News h₀ L h' news → Q () { s with heap := h', toks := s.toks + 1 }) : wpAny M A (storeName env x v) Q E s := by
  subst he
  exact storeX_L F N q hk hx
end
end Mine
end

section
open PySem PySem.W PyProof.Rows
namespace Mine
set_option maxRecDepth 100000
set_option maxHeartbeats 8000000

set_option genSizeOf false in
set_option genInjectivity false in
/-- a pattern as the law builds it -/
inductive Pt where
  | wild | litT | litF | lit7 | litm | rngA | rngB
  | name (r m : Bool)
  | bind (p : Pt)
  | ref (m : Bool) (p : Pt)
  | tup1 (p : Pt) | tup2 (p q : Pt)
  | var0 (ns : List Str) (way : Nat) | var1 (ns : List Str) (way : Nat) (p : Pt) | var2 (ns : List Str) (way : Nat) (p q : Pt)
  | fld1 (ns : List Str) (way : Nat) (rest : Bool) (p : Pt) | fld2 (ns : List Str) (way : Nat) (rest : Bool) (p q : Pt)
  | or2 (p q : Pt)

abbrev S (x : String) : Str := Str.ofString x
noncomputable def longB : List Str → Bool
  | [n] => S "Self" == n || (S "self" == n || (S "super" == n || S "crate" == n))
  | _ => true
/-- a name of its own that is to be changed, or a range -/
noncomputable def Pt.own : Pt → Bool
  | .name r m => m && !r
  | .rngA => true
  | .rngB => true
  | .wild => false
  | .litT => false
  | .litF => false
  | .lit7 => false
  | .litm => false
  | .bind _ => false
  | .ref _ _ => false
  | .tup1 _ => false
  | .tup2 _ _ => false
  | .var0 _ _ => false
  | .var1 _ _ _ => false
  | .var2 _ _ _ _ => false
  | .fld1 _ _ _ _ => false
  | .fld2 _ _ _ _ _ => false
  | .or2 _ _ => false
/-- the text of a part, the text of a pattern -/
noncomputable def Pt.T : Pt → Str × Str
  | .wild => (S "_", S "_")
  | .litT => (S "true", S "true")
  | .litF => (S "false", S "false")
  | .lit7 => (S "7", S "7")
  | .litm => (S "-1", S "-1")
  | .rngA => (S "-3..=9", S "-3..=9")
  | .rngB => (S "1..=2", S "1..=2")
  | .name r m => let x := (if r then S "ref " else S "") ++ ((if m then S "mut " else S "") ++ S "x"); (x, x)
  | .bind p => let x := S "y" ++ (S " @ " ++ p.T.1); (x, x)
  | .ref m p => let x := S "&" ++ ((if m then S "mut " else S "") ++ (if p.own then S "(" ++ (p.T.1 ++ S ")") else p.T.1)); (x, x)
  | .tup1 p => let x := S "(" ++ (p.T.2 ++ (S "," ++ S ")")); (x, x)
  | .tup2 p q => let x := S "(" ++ (p.T.2 ++ (S ", " ++ (q.T.2 ++ S ")"))); (x, x)
  | .var0 ns way => let x := if longB ns then pathT (S "::") way ns else pathT (S "::") way ns ++ (S "(" ++ S ")"); (x, x)
  | .var1 ns way p => let x := pathT (S "::") way ns ++ (S "(" ++ (p.T.2 ++ S ")")); (x, x)
  | .var2 ns way p q => let x := pathT (S "::") way ns ++ (S "(" ++ (p.T.2 ++ (S ", " ++ (q.T.2 ++ S ")")))); (x, x)
  | .fld1 ns way rest p => let x := pathT (S "::") way ns ++ (S " { " ++ (S "n" ++ (S ": " ++ (p.T.2 ++ (if rest then S ", " ++ (S ".." ++ S " }") else S " }"))))); (x, x)
  | .fld2 ns way rest p q => let x := pathT (S "::") way ns ++ (S " { " ++ (S "n" ++ (S ": " ++ (p.T.2 ++ (S ", " ++ (S "m" ++ (S ": " ++ (q.T.2 ++ (if rest then S ", " ++ (S ".." ++ S " }") else S " }"))))))))); (x, x)
  | .or2 p q => let x := p.T.1 ++ (S " | " ++ q.T.1); (S "(" ++ (x ++ S ")"), x)
noncomputable def Pt.wt : Pt → Nat
  | .bind p => p.wt + 20
  | .ref _ p => p.wt + 20
  | .tup1 p => p.wt + 20
  | .tup2 p q => p.wt + q.wt + 20
  | .var0 _ _ => 1000
  | .var1 _ _ p => p.wt + 1000
  | .var2 _ _ p q => p.wt + q.wt + 1000
  | .fld1 _ _ _ p => p.wt + 1000
  | .fld2 _ _ _ p q => p.wt + q.wt + 1000
  | .or2 p q => p.wt + q.wt + 20
  | .wild => 20
  | .litT => 20
  | .litF => 20
  | .lit7 => 20
  | .litm => 20
  | .rngA => 20
  | .rngB => 20
  | .name _ _ => 20
noncomputable def Pt.dep : Pt → Nat
  | .bind p => p.dep + 1
  | .ref _ p => p.dep + 1
  | .tup1 p => p.dep + 1
  | .tup2 p q => max p.dep q.dep + 1
  | .var1 _ _ p => p.dep + 1
  | .var2 _ _ p q => max p.dep q.dep + 1
  | .fld1 _ _ _ p => p.dep + 1
  | .fld2 _ _ _ p q => max p.dep q.dep + 1
  | .or2 p q => max p.dep q.dep + 1
  | .wild => 0
  | .litT => 0
  | .litF => 0
  | .lit7 => 0
  | .litm => 0
  | .rngA => 0
  | .rngB => 0
  | .name _ _ => 0
  | .var0 _ _ => 0
inductive PathOk : List Str → Nat → Prop
  | one {n : Str} {way : Nat} : n.length ≤ 100 → way ≤ 2 → PathOk [n] way
  | two {n n2 : Str} {way : Nat} : n.length ≤ 100 → n2.length ≤ 100 → way ≤ 2 → PathOk [n, n2] way
  | three {n n2 n3 : Str} {way : Nat} : n.length ≤ 100 → n2.length ≤ 100 → n3.length ≤ 100 → way ≤ 2 → PathOk [n, n2, n3] way
noncomputable def Pt.Ok : Pt → Prop
  | .bind p => p.Ok
  | .ref _ p => p.Ok
  | .tup1 p => p.Ok
  | .tup2 p q => p.Ok ∧ q.Ok
  | .var0 ns way => PathOk ns way
  | .var1 ns way p => PathOk ns way ∧ p.Ok
  | .var2 ns way p q => PathOk ns way ∧ p.Ok ∧ q.Ok
  | .fld1 ns way _ p => PathOk ns way ∧ p.Ok
  | .fld2 ns way _ p q => PathOk ns way ∧ p.Ok ∧ q.Ok
  | .or2 p q => p.Ok ∧ q.Ok
  | .wild => True
  | .litT => True
  | .litF => True
  | .lit7 => True
  | .litm => True
  | .rngA => True
  | .rngB => True
  | .name _ _ => True

theorem pT_wild  : Pt.T (.wild) = ((S "_", S "_")) := rfl
theorem pT_litT  : Pt.T (.litT) = ((S "true", S "true")) := rfl
theorem pT_litF  : Pt.T (.litF) = ((S "false", S "false")) := rfl
theorem pT_lit7  : Pt.T (.lit7) = ((S "7", S "7")) := rfl
theorem pT_litm  : Pt.T (.litm) = ((S "-1", S "-1")) := rfl
theorem pT_rngA  : Pt.T (.rngA) = ((S "-3..=9", S "-3..=9")) := rfl
theorem pT_rngB  : Pt.T (.rngB) = ((S "1..=2", S "1..=2")) := rfl
theorem pT_name {r : Bool} {m : Bool} : Pt.T (.name r m) = (let x := (if r then S "ref " else S "") ++ ((if m then S "mut " else S "") ++ S "x"); (x, x)) := rfl
theorem pT_bind {p : Pt} : Pt.T (.bind p) = (let x := S "y" ++ (S " @ " ++ p.T.1); (x, x)) := rfl
theorem pT_ref {m : Bool} {p : Pt} : Pt.T (.ref m p) = (let x := S "&" ++ ((if m then S "mut " else S "") ++ (if p.own then S "(" ++ (p.T.1 ++ S ")") else p.T.1)); (x, x)) := rfl
theorem pT_tup1 {p : Pt} : Pt.T (.tup1 p) = (let x := S "(" ++ (p.T.2 ++ (S "," ++ S ")")); (x, x)) := rfl
theorem pT_tup2 {p : Pt} {q : Pt} : Pt.T (.tup2 p q) = (let x := S "(" ++ (p.T.2 ++ (S ", " ++ (q.T.2 ++ S ")"))); (x, x)) := rfl
theorem pT_var0 {ns : List Str} {way : Nat} : Pt.T (.var0 ns way) = (let x := if longB ns then pathT (S "::") way ns else pathT (S "::") way ns ++ (S "(" ++ S ")"); (x, x)) := rfl
theorem pT_var1 {ns : List Str} {way : Nat} {p : Pt} : Pt.T (.var1 ns way p) = (let x := pathT (S "::") way ns ++ (S "(" ++ (p.T.2 ++ S ")")); (x, x)) := rfl
theorem pT_var2 {ns : List Str} {way : Nat} {p : Pt} {q : Pt} : Pt.T (.var2 ns way p q) = (let x := pathT (S "::") way ns ++ (S "(" ++ (p.T.2 ++ (S ", " ++ (q.T.2 ++ S ")")))); (x, x)) := rfl
theorem pT_fld1 {ns : List Str} {way : Nat} {rest : Bool} {p : Pt} : Pt.T (.fld1 ns way rest p) = (let x := pathT (S "::") way ns ++ (S " { " ++ (S "n" ++ (S ": " ++ (p.T.2 ++ (if rest then S ", " ++ (S ".." ++ S " }") else S " }"))))); (x, x)) := rfl
theorem pT_fld2 {ns : List Str} {way : Nat} {rest : Bool} {p : Pt} {q : Pt} : Pt.T (.fld2 ns way rest p q) = (let x := pathT (S "::") way ns ++ (S " { " ++ (S "n" ++ (S ": " ++ (p.T.2 ++ (S ", " ++ (S "m" ++ (S ": " ++ (q.T.2 ++ (if rest then S ", " ++ (S ".." ++ S " }") else S " }"))))))))); (x, x)) := rfl
theorem pT_or2 {p : Pt} {q : Pt} : Pt.T (.or2 p q) = (let x := p.T.1 ++ (S " | " ++ q.T.1); (S "(" ++ (x ++ S ")"), x)) := rfl
theorem pW_bind {p : Pt} : Pt.wt (.bind p) = (p.wt + 20) := rfl
theorem pW_ref {m : Bool} {p : Pt} : Pt.wt (.ref m p) = (p.wt + 20) := rfl
theorem pW_tup1 {p : Pt} : Pt.wt (.tup1 p) = (p.wt + 20) := rfl
theorem pW_tup2 {p : Pt} {q : Pt} : Pt.wt (.tup2 p q) = (p.wt + q.wt + 20) := rfl
theorem pW_var0 {ns : List Str} {way : Nat} : Pt.wt (.var0 ns way) = (1000) := rfl
theorem pW_var1 {ns : List Str} {way : Nat} {p : Pt} : Pt.wt (.var1 ns way p) = (p.wt + 1000) := rfl
theorem pW_var2 {ns : List Str} {way : Nat} {p : Pt} {q : Pt} : Pt.wt (.var2 ns way p q) = (p.wt + q.wt + 1000) := rfl
theorem pW_fld1 {ns : List Str} {way : Nat} {rest : Bool} {p : Pt} : Pt.wt (.fld1 ns way rest p) = (p.wt + 1000) := rfl
theorem pW_fld2 {ns : List Str} {way : Nat} {rest : Bool} {p : Pt} {q : Pt} : Pt.wt (.fld2 ns way rest p q) = (p.wt + q.wt + 1000) := rfl
theorem pW_or2 {p : Pt} {q : Pt} : Pt.wt (.or2 p q) = (p.wt + q.wt + 20) := rfl
theorem pW_wild  : Pt.wt (.wild) = (20) := rfl
theorem pW_litT  : Pt.wt (.litT) = (20) := rfl
theorem pW_litF  : Pt.wt (.litF) = (20) := rfl
theorem pW_lit7  : Pt.wt (.lit7) = (20) := rfl
theorem pW_litm  : Pt.wt (.litm) = (20) := rfl
theorem pW_rngA  : Pt.wt (.rngA) = (20) := rfl
theorem pW_rngB  : Pt.wt (.rngB) = (20) := rfl
theorem pW_name {r : Bool} {m : Bool} : Pt.wt (.name r m) = (20) := rfl
theorem pD_bind {p : Pt} : Pt.dep (.bind p) = (p.dep + 1) := rfl
theorem pD_ref {m : Bool} {p : Pt} : Pt.dep (.ref m p) = (p.dep + 1) := rfl
theorem pD_tup1 {p : Pt} : Pt.dep (.tup1 p) = (p.dep + 1) := rfl
theorem pD_tup2 {p : Pt} {q : Pt} : Pt.dep (.tup2 p q) = (max p.dep q.dep + 1) := rfl
theorem pD_var1 {ns : List Str} {way : Nat} {p : Pt} : Pt.dep (.var1 ns way p) = (p.dep + 1) := rfl
theorem pD_var2 {ns : List Str} {way : Nat} {p : Pt} {q : Pt} : Pt.dep (.var2 ns way p q) = (max p.dep q.dep + 1) := rfl
theorem pD_fld1 {ns : List Str} {way : Nat} {rest : Bool} {p : Pt} : Pt.dep (.fld1 ns way rest p) = (p.dep + 1) := rfl
theorem pD_fld2 {ns : List Str} {way : Nat} {rest : Bool} {p : Pt} {q : Pt} : Pt.dep (.fld2 ns way rest p q) = (max p.dep q.dep + 1) := rfl
theorem pD_or2 {p : Pt} {q : Pt} : Pt.dep (.or2 p q) = (max p.dep q.dep + 1) := rfl
theorem pD_wild  : Pt.dep (.wild) = (0) := rfl
theorem pD_litT  : Pt.dep (.litT) = (0) := rfl
theorem pD_litF  : Pt.dep (.litF) = (0) := rfl
theorem pD_lit7  : Pt.dep (.lit7) = (0) := rfl
theorem pD_litm  : Pt.dep (.litm) = (0) := rfl
theorem pD_rngA  : Pt.dep (.rngA) = (0) := rfl
theorem pD_rngB  : Pt.dep (.rngB) = (0) := rfl
theorem pD_name {r : Bool} {m : Bool} : Pt.dep (.name r m) = (0) := rfl
theorem pD_var0 {ns : List Str} {way : Nat} : Pt.dep (.var0 ns way) = (0) := rfl
theorem pO_bind {p : Pt} : Pt.Ok (.bind p) = (p.Ok) := rfl
theorem pO_ref {m : Bool} {p : Pt} : Pt.Ok (.ref m p) = (p.Ok) := rfl
theorem pO_tup1 {p : Pt} : Pt.Ok (.tup1 p) = (p.Ok) := rfl
theorem pO_tup2 {p : Pt} {q : Pt} : Pt.Ok (.tup2 p q) = (p.Ok ∧ q.Ok) := rfl
theorem pO_var0 {ns : List Str} {way : Nat} : Pt.Ok (.var0 ns way) = (PathOk ns way) := rfl
theorem pO_var1 {ns : List Str} {way : Nat} {p : Pt} : Pt.Ok (.var1 ns way p) = (PathOk ns way ∧ p.Ok) := rfl
theorem pO_var2 {ns : List Str} {way : Nat} {p : Pt} {q : Pt} : Pt.Ok (.var2 ns way p q) = (PathOk ns way ∧ p.Ok ∧ q.Ok) := rfl
theorem pO_fld1 {ns : List Str} {way : Nat} {rest : Bool} {p : Pt} : Pt.Ok (.fld1 ns way rest p) = (PathOk ns way ∧ p.Ok) := rfl
theorem pO_fld2 {ns : List Str} {way : Nat} {rest : Bool} {p : Pt} {q : Pt} : Pt.Ok (.fld2 ns way rest p q) = (PathOk ns way ∧ p.Ok ∧ q.Ok) := rfl
theorem pO_or2 {p : Pt} {q : Pt} : Pt.Ok (.or2 p q) = (p.Ok ∧ q.Ok) := rfl
theorem pO_wild  : Pt.Ok (.wild) = (True) := rfl
theorem pO_litT  : Pt.Ok (.litT) = (True) := rfl
theorem pO_litF  : Pt.Ok (.litF) = (True) := rfl
theorem pO_lit7  : Pt.Ok (.lit7) = (True) := rfl
theorem pO_litm  : Pt.Ok (.litm) = (True) := rfl
theorem pO_rngA  : Pt.Ok (.rngA) = (True) := rfl
theorem pO_rngB  : Pt.Ok (.rngB) = (True) := rfl
theorem pO_name {r : Bool} {m : Bool} : Pt.Ok (.name r m) = (True) := rfl
theorem wA {a k m : Nat} (h : a + k ≤ m) : a ≤ m := Nat.le_trans (Nat.le_add_right a k) h
theorem wB {a b k m : Nat} (h : a + b + k ≤ m) : a ≤ m ∧ b ≤ m := ⟨wA (wA h), Nat.le_trans (Nat.le_add_left b a) (wA h)⟩
theorem wM {a b k m : Nat} (h : max a b + k ≤ m) : a ≤ m ∧ b ≤ m := ⟨Nat.le_trans (Nat.le_max_left a b) (wA h), Nat.le_trans (Nat.le_max_right a b) (wA h)⟩
theorem tailT_len (way : Nat) : (tailT (S "::") way).length ≤ 20 := by
  match way with
  | 0 => exact Nat.le_of_ble_eq_true (by decide +kernel)
  | 1 => exact Nat.le_of_ble_eq_true (by decide +kernel)
  | n + 2 => show (S "::" ++ S "<'a, T, _>").length ≤ 20; exact Nat.le_of_ble_eq_true (by decide +kernel)
theorem pathT_len {ns : List Str} {way : Nat} (h : PathOk ns way) : (pathT (S "::") way ns).length ≤ 400 := by
  have t := tailT_len way
  have c : (S "::").length ≤ 2 := Nat.le_of_eq ln_3a3a
  cases h with
  | one h1 _ => exact Nat.le_trans (lenApp h1 t) (le_of_ble rfl)
  | two h1 h2 _ => exact Nat.le_trans (lenApp h1 (lenApp c (lenApp h2 t))) (le_of_ble rfl)
  | three h1 h2 h3 _ => exact Nat.le_trans (lenApp h1 (lenApp c (lenApp h2 (lenApp c (lenApp h3 t))))) (le_of_ble rfl)
/-- bounds of the form weight and number -/
theorem bL {x : Str} {n : Nat} (h : x.length = n) : x.length ≤ 0 + n := Nat.le_trans (Nat.le_of_eq h) (Nat.le_of_eq (Nat.zero_add n).symm)
theorem bK {x : Str} {n : Nat} (h : x.length ≤ n) : x.length ≤ 0 + n := Nat.le_trans h (Nat.le_of_eq (Nat.zero_add n).symm)
theorem bC {x y : Str} {m w n : Nat} (h : x.length ≤ m) (k : y.length ≤ w + n) : (x ++ y).length ≤ w + (m + n) := Nat.le_trans (lenApp h k) (Nat.le_of_eq (Nat.add_left_comm m w n))
theorem bD {x y : Str} {v w n : Nat} (h : x.length ≤ v) (k : y.length ≤ w + n) : (x ++ y).length ≤ (v + w) + n := Nat.le_trans (lenApp h k) (Nat.le_of_eq (Nat.add_assoc v w n).symm)
theorem bI {c : Prop} [Decidable c] {x y : Str} {m : Nat} (h : x.length ≤ m) (k : y.length ≤ m) : (if c then x else y).length ≤ m := by
  by_cases e : c
  · rw [if_pos e]; exact h
  · rw [if_neg e]; exact k
theorem bF {e w n k : Nat} (h : e ≤ w + n) (q : Nat.ble n k = true) : e ≤ w + k ∧ e ≤ w + k := ⟨Nat.le_trans h (Nat.add_le_add_left (le_of_ble q) w), Nat.le_trans h (Nat.add_le_add_left (le_of_ble q) w)⟩
theorem bM {m : Bool} : (if m = true then S "mut " else S "").length ≤ 4 := bI (Nat.le_of_eq ln_6d757420) (Nat.le_trans (Nat.le_of_eq ln_e) (le_of_ble rfl))
theorem bR {r : Bool} : (if r = true then S ", " ++ (S ".." ++ S " }") else S " }").length ≤ 0 + 6 := bI (bC (Nat.le_of_eq ln_2c20) (bC (Nat.le_of_eq ln_2e2e) (bL ln_207d))) (Nat.le_trans (bL ln_207d) (le_of_ble rfl))
theorem bO {c : Bool} {x : Str} {w : Nat} (h : x.length ≤ w) : (if c = true then S "(" ++ (x ++ S ")") else x).length ≤ w + 2 := bI (bC (Nat.le_of_eq ln_28) (bD h (bL ln_29))) (Nat.le_trans h (Nat.le_add_right w 2))
theorem Pt.len : ∀ p : Pt, p.Ok → p.T.1.length ≤ p.wt ∧ p.T.2.length ≤ p.wt := by
  intro p
  induction p with
  | wild => intro _; exact ⟨Nat.le_of_ble_eq_true (by decide +kernel), Nat.le_of_ble_eq_true (by decide +kernel)⟩
  | litT => intro _; exact ⟨Nat.le_of_ble_eq_true (by decide +kernel), Nat.le_of_ble_eq_true (by decide +kernel)⟩
  | litF => intro _; exact ⟨Nat.le_of_ble_eq_true (by decide +kernel), Nat.le_of_ble_eq_true (by decide +kernel)⟩
  | lit7 => intro _; exact ⟨Nat.le_of_ble_eq_true (by decide +kernel), Nat.le_of_ble_eq_true (by decide +kernel)⟩
  | litm => intro _; exact ⟨Nat.le_of_ble_eq_true (by decide +kernel), Nat.le_of_ble_eq_true (by decide +kernel)⟩
  | rngA => intro _; exact ⟨Nat.le_of_ble_eq_true (by decide +kernel), Nat.le_of_ble_eq_true (by decide +kernel)⟩
  | rngB => intro _; exact ⟨Nat.le_of_ble_eq_true (by decide +kernel), Nat.le_of_ble_eq_true (by decide +kernel)⟩
  | name r m => intro _; cases r <;> cases m <;> exact ⟨Nat.le_of_ble_eq_true (by decide +kernel), Nat.le_of_ble_eq_true (by decide +kernel)⟩
  | bind p ih => intro h; exact bF (w := p.wt) (k := 20) (bC (Nat.le_of_eq ln_79) (bC (Nat.le_of_eq ln_204020) (Nat.le_trans (ih h).1 (Nat.le_add_right p.wt 0)))) rfl
  | ref m p ih => intro h; exact bF (w := p.wt) (k := 20) (bC (Nat.le_of_eq ln_26) (bC bM (bO (ih h).1))) rfl
  | tup1 p ih => intro h; exact bF (w := p.wt) (k := 20) (bC (Nat.le_of_eq ln_28) (bD (ih h).2 (bC (Nat.le_of_eq ln_2c) (bL ln_29)))) rfl
  | tup2 p q ih ih2 => intro h; exact bF (w := p.wt + q.wt) (k := 20) (bC (Nat.le_of_eq ln_28) (bD (ih h.1).2 (bC (Nat.le_of_eq ln_2c20) (bD (ih2 h.2).2 (bL ln_29))))) rfl
  | var0 ns way => intro h; exact bF (w := 0) (k := 1000) (bI (m := 0 + 402) (Nat.le_trans (pathT_len h) (le_of_ble rfl)) (bC (pathT_len h) (bC (Nat.le_of_eq ln_28) (bL ln_29)))) rfl
  | var1 ns way p ih => intro h; exact bF (w := p.wt) (k := 1000) (bC (pathT_len h.1) (bC (Nat.le_of_eq ln_28) (bD (ih h.2).2 (bL ln_29)))) rfl
  | var2 ns way p q ih ih2 => intro h; exact bF (w := p.wt + q.wt) (k := 1000) (bC (pathT_len h.1) (bC (Nat.le_of_eq ln_28) (bD (ih h.2.1).2 (bC (Nat.le_of_eq ln_2c20) (bD (ih2 h.2.2).2 (bL ln_29)))))) rfl
  | fld1 ns way rest p ih => intro h; exact bF (w := p.wt) (k := 1000) (bC (pathT_len h.1) (bC (Nat.le_of_eq ln_207b20) (bC (Nat.le_of_eq ln_6e) (bC (Nat.le_of_eq ln_3a20) (bD (ih h.2).2 bR))))) rfl
  | fld2 ns way rest p q ih ih2 => intro h; exact bF (w := p.wt + q.wt) (k := 1000) (bC (pathT_len h.1) (bC (Nat.le_of_eq ln_207b20) (bC (Nat.le_of_eq ln_6e) (bC (Nat.le_of_eq ln_3a20) (bD (ih h.2.1).2 (bC (Nat.le_of_eq ln_2c20) (bC (Nat.le_of_eq ln_6d) (bC (Nat.le_of_eq ln_3a20) (bD (ih2 h.2.2).2 bR))))))))) rfl
  | or2 p q ih ih2 =>
    intro h
    have e : (p.T.1 ++ (S " | " ++ q.T.1)).length ≤ (p.wt + q.wt) + 3 := bD (ih h.1).1 (bC (Nat.le_of_eq ln_207c20) (Nat.le_trans (ih2 h.2).1 (Nat.le_add_right q.wt 0)))
    have e2 : ((p.T.1 ++ (S " | " ++ q.T.1)) ++ S ")").length ≤ (p.wt + q.wt) + 4 := Nat.le_trans (lenApp e (Nat.le_of_eq ln_29)) (Nat.le_of_eq rfl)
    exact ⟨(bF (k := 20) (bC (Nat.le_of_eq ln_28) e2) rfl).1, (bF (k := 20) e rfl).1⟩

/-- the heap bears the pattern at v -/
inductive PatAt (h : Heap) : Addr → Pt → Prop
  | wild {a t u} : IsTup h a #[.str (S "wild") t, .int 0 u] → PatAt h a .wild
  | litT {a t u} : IsTup h a #[.str (S "lit") t, .int 0 u, .bool true] → PatAt h a .litT
  | litF {a t u} : IsTup h a #[.str (S "lit") t, .int 0 u, .bool false] → PatAt h a .litF
  | lit7 {a t u x} : IsTup h a #[.str (S "lit") t, .int 0 u, .int 7 x] → PatAt h a .lit7
  | litm {a t u x} : IsTup h a #[.str (S "lit") t, .int 0 u, .int (-1) x] → PatAt h a .litm
  | rngA {a t u x y} : IsTup h a #[.str (S "range") t, .int 0 u, .int (-3) x, .int 9 y] → PatAt h a .rngA
  | rngB {a t u x y} : IsTup h a #[.str (S "range") t, .int 0 u, .int 1 x, .int 2 y] → PatAt h a .rngB
  | name {a t u x} {r m : Bool} : IsTup h a #[.str (S "name") t, .int 0 u, .str (S "x") x, .bool r, .bool m, .none] → PatAt h a (.name r m)
  | bind {a t u x b p} : IsTup h a #[.str (S "name") t, .int 0 u, .str (S "y") x, .bool false, .bool false, .ref b] → PatAt h b p → PatAt h a (.bind p)
  | ref {a t u b p} {m : Bool} : IsTup h a #[.str (S "ref") t, .int 0 u, .bool m, .ref b] → PatAt h b p → PatAt h a (.ref m p)
  | tup1 {a t u c b p} : IsTup h a #[.str (S "tuple") t, .int 0 u, .ref c] → IsTup h c #[.ref b] → PatAt h b p → PatAt h a (.tup1 p)
  | tup2 {a t u c b d p q} : IsTup h a #[.str (S "tuple") t, .int 0 u, .ref c] → IsTup h c #[.ref b, .ref d] → PatAt h b p → PatAt h d q → PatAt h a (.tup2 p q)
  | var0 {a t u z c ns way} : IsTup h a #[.str (S "variant") t, .int 0 u, .ref z, .ref c] → IsTup h c #[] → PathAt h (.ref z) ns way → PatAt h a (.var0 ns way)
  | var1 {a t u z c b p ns way} : IsTup h a #[.str (S "variant") t, .int 0 u, .ref z, .ref c] → IsTup h c #[.ref b] → PathAt h (.ref z) ns way → PatAt h b p → PatAt h a (.var1 ns way p)
  | var2 {a t u z c b d p q ns way} : IsTup h a #[.str (S "variant") t, .int 0 u, .ref z, .ref c] → IsTup h c #[.ref b, .ref d] → PathAt h (.ref z) ns way → PatAt h b p → PatAt h d q → PatAt h a (.var2 ns way p q)
  | fld1 {a t u z c e b x p ns way} {rest : Bool} : IsTup h a #[.str (S "fields") t, .int 0 u, .ref z, .ref c, .bool rest] → IsTup h c #[.ref e] → IsTup h e #[.str (S "n") x, .ref b] → PathAt h (.ref z) ns way → PatAt h b p → PatAt h a (.fld1 ns way rest p)
  | fld2 {a t u z c e b x f d y p q ns way} {rest : Bool} : IsTup h a #[.str (S "fields") t, .int 0 u, .ref z, .ref c, .bool rest] → IsTup h c #[.ref e, .ref f] → IsTup h e #[.str (S "n") x, .ref b] → IsTup h f #[.str (S "m") y, .ref d] → PathAt h (.ref z) ns way → PatAt h b p → PatAt h d q → PatAt h a (.fld2 ns way rest p q)
  | or2 {a t u c b d p q} : IsTup h a #[.str (S "or") t, .int 0 u, .ref c] → IsTup h c #[.ref b, .ref d] → PatAt h b p → PatAt h d q → PatAt h a (.or2 p q)
/-- what a pattern's tuple is, by its kind -/
def PatK (h : Heap) (a : Addr) (C : Prop) : Pt → Prop
  | .wild => (∀ t u, IsTup h a #[.str (S "wild") t, .int 0 u] → C) → C
  | .litT => (∀ t u, IsTup h a #[.str (S "lit") t, .int 0 u, .bool true] → C) → C
  | .litF => (∀ t u, IsTup h a #[.str (S "lit") t, .int 0 u, .bool false] → C) → C
  | .lit7 => (∀ t u x, IsTup h a #[.str (S "lit") t, .int 0 u, .int 7 x] → C) → C
  | .litm => (∀ t u x, IsTup h a #[.str (S "lit") t, .int 0 u, .int (-1) x] → C) → C
  | .rngA => (∀ t u x y, IsTup h a #[.str (S "range") t, .int 0 u, .int (-3) x, .int 9 y] → C) → C
  | .rngB => (∀ t u x y, IsTup h a #[.str (S "range") t, .int 0 u, .int 1 x, .int 2 y] → C) → C
  | .name r m => (∀ t u x, IsTup h a #[.str (S "name") t, .int 0 u, .str (S "x") x, .bool r, .bool m, .none] → C) → C
  | .bind p => (∀ t u x b, IsTup h a #[.str (S "name") t, .int 0 u, .str (S "y") x, .bool false, .bool false, .ref b] → PatAt h b p → C) → C
  | .ref m p => (∀ t u b, IsTup h a #[.str (S "ref") t, .int 0 u, .bool m, .ref b] → PatAt h b p → C) → C
  | .tup1 p => (∀ t u c b, IsTup h a #[.str (S "tuple") t, .int 0 u, .ref c] → IsTup h c #[.ref b] → PatAt h b p → C) → C
  | .tup2 p q => (∀ t u c b d, IsTup h a #[.str (S "tuple") t, .int 0 u, .ref c] → IsTup h c #[.ref b, .ref d] → PatAt h b p → PatAt h d q → C) → C
  | .var0 ns way => (∀ t u z c, IsTup h a #[.str (S "variant") t, .int 0 u, .ref z, .ref c] → IsTup h c #[] → PathAt h (.ref z) ns way → C) → C
  | .var1 ns way p => (∀ t u z c b, IsTup h a #[.str (S "variant") t, .int 0 u, .ref z, .ref c] → IsTup h c #[.ref b] → PathAt h (.ref z) ns way → PatAt h b p → C) → C
  | .var2 ns way p q => (∀ t u z c b d, IsTup h a #[.str (S "variant") t, .int 0 u, .ref z, .ref c] → IsTup h c #[.ref b, .ref d] → PathAt h (.ref z) ns way → PatAt h b p → PatAt h d q → C) → C
  | .fld1 ns way rest p => (∀ t u z c e b x, IsTup h a #[.str (S "fields") t, .int 0 u, .ref z, .ref c, .bool rest] → IsTup h c #[.ref e] → IsTup h e #[.str (S "n") x, .ref b] → PathAt h (.ref z) ns way → PatAt h b p → C) → C
  | .fld2 ns way rest p q => (∀ t u z c e b x f d y, IsTup h a #[.str (S "fields") t, .int 0 u, .ref z, .ref c, .bool rest] → IsTup h c #[.ref e, .ref f] → IsTup h e #[.str (S "n") x, .ref b] → IsTup h f #[.str (S "m") y, .ref d] → PathAt h (.ref z) ns way → PatAt h b p → PatAt h d q → C) → C
  | .or2 p q => (∀ t u c b d, IsTup h a #[.str (S "or") t, .int 0 u, .ref c] → IsTup h c #[.ref b, .ref d] → PatAt h b p → PatAt h d q → C) → C
theorem PatAt.elim {h : Heap} {a : Addr} {p : Pt} (x : PatAt h a p) (C : Prop) : PatK h a C p := by
  cases x with
  | wild x0 => exact fun k => k _ _ x0
  | litT x0 => exact fun k => k _ _ x0
  | litF x0 => exact fun k => k _ _ x0
  | lit7 x0 => exact fun k => k _ _ _ x0
  | litm x0 => exact fun k => k _ _ _ x0
  | rngA x0 => exact fun k => k _ _ _ _ x0
  | rngB x0 => exact fun k => k _ _ _ _ x0
  | name x0 => exact fun k => k _ _ _ x0
  | bind x0 x1 => exact fun k => k _ _ _ _ x0 x1
  | ref x0 x1 => exact fun k => k _ _ _ x0 x1
  | tup1 x0 x1 x2 => exact fun k => k _ _ _ _ x0 x1 x2
  | tup2 x0 x1 x2 x3 => exact fun k => k _ _ _ _ _ x0 x1 x2 x3
  | var0 x0 x1 x2 => exact fun k => k _ _ _ _ x0 x1 x2
  | var1 x0 x1 x2 x3 => exact fun k => k _ _ _ _ _ x0 x1 x2 x3
  | var2 x0 x1 x2 x3 x4 => exact fun k => k _ _ _ _ _ _ x0 x1 x2 x3 x4
  | fld1 x0 x1 x2 x3 x4 => exact fun k => k _ _ _ _ _ _ _ x0 x1 x2 x3 x4
  | fld2 x0 x1 x2 x3 x4 x5 x6 => exact fun k => k _ _ _ _ _ _ _ _ _ _ x0 x1 x2 x3 x4 x5 x6
  | or2 x0 x1 x2 x3 => exact fun k => k _ _ _ _ _ x0 x1 x2 x3

theorem PatAt.mono {h g : Heap} {v : Addr} {p : Pt} (k : Grows h g) (x : PatAt h v p) : PatAt g v p := by
  induction x with
  | wild a => exact .wild (istup_mono k a)
  | litT a => exact .litT (istup_mono k a)
  | litF a => exact .litF (istup_mono k a)
  | lit7 a => exact .lit7 (istup_mono k a)
  | litm a => exact .litm (istup_mono k a)
  | rngA a => exact .rngA (istup_mono k a)
  | rngB a => exact .rngB (istup_mono k a)
  | name a => exact .name (istup_mono k a)
  | bind a _ ih => exact .bind (istup_mono k a) ih
  | ref a _ ih => exact .ref (istup_mono k a) ih
  | tup1 a b _ ih => exact .tup1 (istup_mono k a) (istup_mono k b) ih
  | tup2 a b _ _ ih ih2 => exact .tup2 (istup_mono k a) (istup_mono k b) ih ih2
  | var0 a b c => exact .var0 (istup_mono k a) (istup_mono k b) (c.mono k)
  | var1 a b c _ ih => exact .var1 (istup_mono k a) (istup_mono k b) (c.mono k) ih
  | var2 a b c _ _ ih ih2 => exact .var2 (istup_mono k a) (istup_mono k b) (c.mono k) ih ih2
  | fld1 a b c d _ ih => exact .fld1 (istup_mono k a) (istup_mono k b) (istup_mono k c) (d.mono k) ih
  | fld2 a b c d e _ _ ih ih2 => exact .fld2 (istup_mono k a) (istup_mono k b) (istup_mono k c) (istup_mono k d) (e.mono k) ih ih2
  | or2 a b _ _ ih ih2 => exact .or2 (istup_mono k a) (istup_mono k b) ih ih2

/-- what a holder of a reference looks at -/
inductive RootAt (h : Heap) (b : Addr) (own : Bool) : Prop
  | name {t u x v} {nm : Str} {r m : Bool} : IsTup h b #[.str (S "name") t, .int 0 u, .str nm x, .bool r, .bool m, v] → own = (m && !r) → RootAt h b own
  | range {t u x y} : IsTup h b #[.str (S "range") t, .int 0 u, x, y] → own = true → RootAt h b own
  | other {l : List Value} {k : Str} {t : Tok} : IsTup h b (Value.str k t :: l).toArray → (k == S "name") = false → (k == S "range") = false → own = false → RootAt h b own
theorem PatAt.root {h : Heap} {b : Addr} {p : Pt} (x : PatAt h b p) : RootAt h b p.own := by
  cases x with
  | wild a => exact .other a (by decide +kernel) (by decide +kernel) rfl
  | litT a => exact .other a (by decide +kernel) (by decide +kernel) rfl
  | litF a => exact .other a (by decide +kernel) (by decide +kernel) rfl
  | lit7 a => exact .other a (by decide +kernel) (by decide +kernel) rfl
  | litm a => exact .other a (by decide +kernel) (by decide +kernel) rfl
  | rngA a => exact .range a rfl
  | rngB a => exact .range a rfl
  | name a => exact .name a rfl
  | bind a _ => exact .name a rfl
  | ref a _ => exact .other a (by decide +kernel) (by decide +kernel) rfl
  | tup1 a b _ => exact .other a (by decide +kernel) (by decide +kernel) rfl
  | tup2 a b _ _ => exact .other a (by decide +kernel) (by decide +kernel) rfl
  | var0 a b c => exact .other a (by decide +kernel) (by decide +kernel) rfl
  | var1 a b c _ => exact .other a (by decide +kernel) (by decide +kernel) rfl
  | var2 a b c _ _ => exact .other a (by decide +kernel) (by decide +kernel) rfl
  | fld1 a b c d _ => exact .other a (by decide +kernel) (by decide +kernel) rfl
  | fld2 a b c d e _ _ => exact .other a (by decide +kernel) (by decide +kernel) rfl
  | or2 a b _ _ => exact .other a (by decide +kernel) (by decide +kernel) rfl

/-- a tuple whose first item is k -/
def KindAt (h : Heap) (b : Addr) (k : Str) : Prop := ∃ l t, IsTup h b (Value.str k t :: l).toArray
theorem PatAt.kind0 {h : Heap} {b : Addr} {ns : List Str} {way : Nat} (x : PatAt h b (.var0 ns way)) : KindAt h b (S "variant") := x.elim _ (fun _ _ _ _ x0 _ _ => ⟨_, _, x0⟩)
theorem PatAt.kind1 {h : Heap} {b : Addr} {ns : List Str} {way : Nat} {p : Pt} (x : PatAt h b (.var1 ns way p)) : KindAt h b (S "variant") := x.elim _ (fun _ _ _ _ _ x0 _ _ _ => ⟨_, _, x0⟩)
theorem PatAt.kind2 {h : Heap} {b : Addr} {ns : List Str} {way : Nat} {p q : Pt} (x : PatAt h b (.var2 ns way p q)) : KindAt h b (S "variant") := x.elim _ (fun _ _ _ _ _ _ x0 _ _ _ _ => ⟨_, _, x0⟩)
theorem PatAt.kind3 {h : Heap} {b : Addr} {ns : List Str} {way : Nat} {r : Bool} {p : Pt} (x : PatAt h b (.fld1 ns way r p)) : KindAt h b (S "fields") := x.elim _ (fun _ _ _ _ _ _ _ x0 _ _ _ _ => ⟨_, _, x0⟩)
theorem PatAt.kind4 {h : Heap} {b : Addr} {ns : List Str} {way : Nat} {r : Bool} {p q : Pt} (x : PatAt h b (.fld2 ns way r p q)) : KindAt h b (S "fields") := x.elim _ (fun _ _ _ _ _ _ _ _ _ _ x0 _ _ _ _ _ _ => ⟨_, _, x0⟩)

section
variable {prog : Program} {w : World} {A : Around} {E : Value → Shared → Prop} {s : Shared} {Q : Value → Shared → Prop} {l b : Addr} {xs ys : Array Value}
theorem ne_lists (hl : s.heap.IsList l xs) (hb : s.heap.IsList b ys) (hsz : (xs.size != ys.size) = true) (hu : A.units < cLine) (h : Q (.bool true) s) : wpAny (model prog w) A (compareOp .NotEq (.ref l) (.ref b)) Q E s :=
  cmp_ofNotEq (SeqAt.RcNeAt.lists_lengths hl hb hsz hu prog w E Q h)
theorem ne_empty (hl : s.heap.IsList l #[]) (hb : s.heap.IsList b #[]) (hu : A.units < cLine) (h : Q (.bool false) s) : wpAny (model prog w) A (compareOp .NotEq (.ref l) (.ref b)) Q E s :=
  cmp_ofNotEq (SeqAt.RcNeAt.lists (e := fun _ => true) hl hb rfl hu (fun j h1 _ => absurd h1 (Nat.not_lt_zero _)) prog w E Q h)
theorem item0 {value slice : PySem.Expr} {r : List Value} {u : Tok} {v : Value} (T : IsTup s.heap l (v :: r).toArray) (h : Q v s)
    (hs : subscripted slice false (.ref l) (.int 0 u) = operate [.ref l, .int 0 u] (getItem (.ref l) (.int 0 u)) := by with_unfolding_all rfl) :
    wpAny (model prog w) A (subscriptTail value slice (.ref l) (.int 0 u)) Q E s := by
  refine item_tupleT T (by decide) (by decide) (j := 0) ?_ rfl h hs
  unfold seqIndex?
  simp
end

theorem WSpec.lift {w : World} {f : Addr} {vs : List Value} {pre : Heap → Prop} {R : Tok → Value} {c c' : Nat} (h : WSpec w f vs pre R c) (hc : c ≤ c') : WSpec w f vs pre R c' :=
  fun p loose mean mg mb dp un gd cn cs a ccd cl outer A₀ base h₀ L m s Q E B F X T hk hd hu hp hr => h p loose mean mg mb dp un gd cn cs a ccd cl outer A₀ base h₀ L m s Q E B F X T hk (by omega) (by omega) hp hr
theorem WSpec.pre {w : World} {f : Addr} {vs : List Value} {pre pre' : Heap → Prop} {R : Tok → Value} {c : Nat} (h : WSpec w f vs pre R c) (hp : ∀ h, pre' h → pre h) : WSpec w f vs pre' R c :=
  fun p loose mean mg mb dp un gd cn cs a ccd cl outer A₀ base h₀ L m s Q E B F X T hk hd hu hq hr => h p loose mean mg mb dp un gd cn cs a ccd cl outer A₀ base h₀ L m s Q E B F X T hk hd hu (hp _ hq) hr
/-- what the two writers give of a pattern; and the writer of variants, of fields, of what is referred to -/
def PS (w : World) (p : Pt) : Prop := ∀ a, WSpec w 49 [.ref a] (fun h => PatAt h a p) (fun t => .str p.T.1 t) (40 * p.dep + 40)
def QS (w : World) (p : Pt) : Prop := ∀ a, WSpec w 44 [.ref a] (fun h => PatAt h a p) (fun t => .str p.T.2 t) (40 * p.dep + 40)
def VS (w : World) (p : Pt) (c : Nat) : Prop := ∀ a, WSpec w 68 [.ref a] (fun h => PatAt h a p) (fun t => .str p.T.1 t) c
def DS (w : World) (p : Pt) (c : Nat) : Prop := ∀ a, WSpec w 80 [.ref a] (fun h => PatAt h a p) (fun t => .str p.T.1 t) c
noncomputable def heldT (p : Pt) : Str := if p.own then S "(" ++ (p.T.1 ++ S ")") else p.T.1
def RS (w : World) (p : Pt) : Prop := ∀ (a : Addr) (m : Bool) (b : Addr) (t u : Tok), WSpec w 56 [.ref a] (fun h => IsTup h a #[.str (S "ref") t, .int 0 u, .bool m, .ref b] ∧ PatAt h b p) (fun t => .str (heldT p) t) (40 * p.dep + 44)
theorem PS.at {w : World} {p : Pt} (h : PS w p) (a : Addr) : WSpec w 49 [.ref a] (fun h => PatAt h a p) (fun t => .str p.T.1 t) (40 * p.dep + 40) := h a
theorem QS.at {w : World} {p : Pt} (h : QS w p) (a : Addr) : WSpec w 44 [.ref a] (fun h => PatAt h a p) (fun t => .str p.T.2 t) (40 * p.dep + 40) := h a
theorem VS.at {w : World} {p : Pt} {c : Nat} (h : VS w p c) (a : Addr) : WSpec w 68 [.ref a] (fun h => PatAt h a p) (fun t => .str p.T.1 t) c := h a
theorem DS.at {w : World} {p : Pt} {c : Nat} (h : DS w p c) (a : Addr) : WSpec w 80 [.ref a] (fun h => PatAt h a p) (fun t => .str p.T.1 t) c := h a
theorem RS.at {w : World} {p : Pt} (h : RS w p) (a : Addr) (m : Bool) (b : Addr) (t u : Tok) : WSpec w 56 [.ref a] (fun h => IsTup h a #[.str (S "ref") t, .int 0 u, .bool m, .ref b] ∧ PatAt h b p) (fun t => .str (heldT p) t) (40 * p.dep + 44) := h a m b t u
theorem rng_A : S "-3" ++ (S "..=" ++ S "9") = S "-3..=9" := by decide +kernel
theorem rng_B : S "1" ++ (S "..=" ++ S "2") = S "1..=2" := by decide +kernel
theorem ts_m3 : S (toString (-3 : Int)) = S "-3" := by decide +kernel
theorem ts_9 : S (toString (9 : Int)) = S "9" := by decide +kernel
theorem ts_1 : S (toString (1 : Int)) = S "1" := by decide +kernel
theorem ts_2 : S (toString (2 : Int)) = S "2" := by decide +kernel
theorem rm_x : S "ref mut " ++ S "x" = S "ref " ++ (S "mut " ++ S "x") := by decide +kernel
theorem heldT_len {p : Pt} (h : p.T.1.length ≤ p.wt ∧ p.T.2.length ≤ p.wt) : (heldT p).length ≤ p.wt + 10 := by
  unfold heldT
  cases p.own <;> simp only [S, Str.length_append, ln_28, ln_29, Bool.false_eq_true, if_true, if_false] <;> omega
theorem ref_text (m : Bool) (p : Pt) : (Pt.ref m p).T.1 = S "&" ++ ((if m then S "mut " else S "") ++ heldT p) := rfl
theorem EntAt.item {h : Heap} {v : Value} {n : Str} {way : Nat} (x : EntAt h v n way) : ∃ a t r y, v = .ref a ∧ IsTup h a #[.str n t, .ref r, .ref y] := by
  cases x with
  | none a _ _ => exact ⟨_, _, _, _, rfl, a⟩
  | one a _ _ _ _ _ => exact ⟨_, _, _, _, rfl, a⟩
  | two a _ _ _ _ _ _ => exact ⟨_, _, _, _, rfl, a⟩
section
variable {prog : Program} {w : World} {A : Around} {E : Value → Shared → Prop} {s : Shared} {Q : Value → Shared → Prop} {D : Addr}
noncomputable def strIs (n : Str) : Value → Bool
  | .str c _ => c == n
  | _ => false
theorem in_four {n : Str} {t u1 u2 u3 u4 : Tok} (T : IsTup s.heap D #[.str (S "Self") u1, .str (S "self") u2, .str (S "super") u3, .str (S "crate") u4]) (h : Q (.bool (longB [n])) s) : wpAny (model prog w) A (compareOp .In (.str n t) (.ref D)) Q E s := by
  refine SeqAt.in_tupleAt (strIs n) T (fun y hy => ?_) ?_
  · simp only [List.mem_toArray, List.mem_cons, List.not_mem_nil, or_false] at hy
    rcases hy with rfl | rfl | rfl | rfl <;> exact SeqAt.EqAt.str_str _ _ _ _
  · have e : (#[Value.str (S "Self") u1, .str (S "self") u2, .str (S "super") u3, .str (S "crate") u4].any (strIs n)) = longB [n] := by
      simp [longB, strIs]
    rw [e]; exact h
theorem in_fourL {n : Str} {t u1 u2 u3 u4 : Tok} (T : s.heap.IsList D #[.str (S "self") u1, .str (S "Self") u2, .str (S "super") u3, .str (S "crate") u4]) (h : Q (.bool (longB [n])) s) : wpAny (model prog w) A (compareOp .In (.str n t) (.ref D)) Q E s := by
  refine SeqAt.in_listAt (strIs n) T (fun y hy => ?_) ?_
  · simp only [List.mem_toArray, List.mem_cons, List.not_mem_nil, or_false] at hy
    rcases hy with rfl | rfl | rfl | rfl <;> exact SeqAt.EqAt.str_str _ _ _ _
  · have e : (#[Value.str (S "self") u1, .str (S "Self") u2, .str (S "super") u3, .str (S "crate") u4].any (strIs n)) = longB [n] := by
      simp only [longB, strIs, List.any_toArray, List.any_cons, List.any_nil, Bool.or_false]
      cases (S "Self" == n) <;> cases (S "self" == n) <;> rfl
    rw [e]; exact h
end
/-- the tuple's first item, other than of alternatives -/
theorem PatAt.kindAny {h : Heap} {b : Addr} {p : Pt} (x : PatAt h b p) (hp : ∀ q r, p ≠ .or2 q r) : ∃ k, KindAt h b k ∧ (k == S "or") = false := by
  cases x with
  | wild a => exact ⟨_, ⟨_, _, a⟩, by decide +kernel⟩
  | litT a => exact ⟨_, ⟨_, _, a⟩, by decide +kernel⟩
  | litF a => exact ⟨_, ⟨_, _, a⟩, by decide +kernel⟩
  | lit7 a => exact ⟨_, ⟨_, _, a⟩, by decide +kernel⟩
  | litm a => exact ⟨_, ⟨_, _, a⟩, by decide +kernel⟩
  | rngA a => exact ⟨_, ⟨_, _, a⟩, by decide +kernel⟩
  | rngB a => exact ⟨_, ⟨_, _, a⟩, by decide +kernel⟩
  | name a => exact ⟨_, ⟨_, _, a⟩, by decide +kernel⟩
  | bind a _ => exact ⟨_, ⟨_, _, a⟩, by decide +kernel⟩
  | ref a _ => exact ⟨_, ⟨_, _, a⟩, by decide +kernel⟩
  | tup1 a b _ => exact ⟨_, ⟨_, _, a⟩, by decide +kernel⟩
  | tup2 a b _ _ => exact ⟨_, ⟨_, _, a⟩, by decide +kernel⟩
  | var0 a b c => exact ⟨_, ⟨_, _, a⟩, by decide +kernel⟩
  | var1 a b c _ => exact ⟨_, ⟨_, _, a⟩, by decide +kernel⟩
  | var2 a b c _ _ => exact ⟨_, ⟨_, _, a⟩, by decide +kernel⟩
  | fld1 a b c d _ => exact ⟨_, ⟨_, _, a⟩, by decide +kernel⟩
  | fld2 a b c d e _ _ => exact ⟨_, ⟨_, _, a⟩, by decide +kernel⟩
  | or2 a b _ _ => exact absurd rfl (hp _ _)
end Mine
end

local macro_rules | `(tactic| walk_at $s:str) => do
  let t := Lean.Syntax.mkStrLit ("my " ++ s.getString)
  `(tactic| k_extra $t)
local macro_rules | `(tactic| k_steps) => `(tactic| k_extra "my k_steps")
local macro_rules | `(tactic| units_room) => `(tactic| k_extra "my units_room")
local macro_rules | `(tactic| k_ne) => `(tactic| k_extra "my k_ne")
local macro_rules | `(tactic| k_all) => `(tactic| k_extra "my k_all")
local macro_rules | `(tactic| k_updF) => `(tactic| k_extra "my k_updF")
local macro_rules | `(tactic| lcg_off) => `(tactic| k_extra "my lcg_off")
local macro_rules | `(tactic| lcg_sub) => `(tactic| k_extra "my lcg_sub")
local macro_rules | `(tactic| k_memK) => `(tactic| k_extra "my k_memK")
local macro_rules | `(tactic| tb_start) => `(tactic| k_extra "my tb_start")
local macro_rules | `(tactic| k_lt $h:ident) => `(tactic| (k_extra "my k_lt on"; (try simp only [List.nil_append, List.cons_append] at $h:ident)))
set_option linter.all false

section
open PySem PySem.W PyProof.Rows
namespace Mine
theorem anew_W6 : True := by
  w_top off
  trivial
set_option maxRecDepth 100000
set_option maxHeartbeats 8000000
theorem filler_w6 : Filler PySem.Challenge.rw_xm0582_01 hd.heap_1 := by k_fill; trivial

theorem words_W6_0 : True := by
  k_with_none
  k_with "my dep9" => ((first | ((with_reducible refine dS ?_); k_dflt (exact rfl)) | ((with_reducible refine dL ?_); k_dflt (exact rfl)) | ((with_reducible refine dR ?_); k_dflt (exact rfl)) | ((with_reducible refine dS1 ?_); k_dflt (exact rfl)) | ((with_reducible refine dL1 ?_); k_dflt (exact rfl)) | ((with_reducible refine dR1 ?_); k_dflt (exact rfl)) | ((with_reducible refine d0 ?_); k_dflt (exact rfl)) | ((with_reducible refine dV ?_); k_dflt (exact rfl)) | ((with_reducible refine dW ?_); k_dflt (exact rfl)) | k_dflt (exact le_of_ble rfl) | omega))
  k_with "my room9" => ((first | k_dflt (exact room_0 hdp) | (k_dflt (refine room_a hdp ?_); k_extra "my dep9") | k_dflt (exact Nat.le_of_ble_eq_true rfl) | ktr_room))
  k_with "my units9" => ((first | (k_dflt (refine' units_a hun ?zqua ?zqub); (case zqua => k_extra "my dep9"); (case zqub => k_dflt (exact rfl))) | k_dflt (exact Nat.le_of_ble_eq_true rfl) | ktr_units))
  k_with "my len9" => (((with_reducible show (_ : Nat) ≤ _); first | with_reducible exact Nat.le_refl 0 | ((with_reducible refine' lenApp ?_ ?_) <;> (first | k_extra "my len9" | with_reducible show Nat)) | ((with_reducible refine' addLe ?_ ?_) <;> (first | k_extra "my len9" | with_reducible show Nat)) | ((with_reducible refine' mulLe ?_) <;> (first | k_extra "my len9" | with_reducible show Nat)) | with_reducible assumption | with_reducible exact Nat.le_of_eq ln_e | with_reducible exact Nat.le_of_eq ln_28 | with_reducible exact Nat.le_of_eq ln_29 | with_reducible exact Nat.le_of_eq ln_2c20 | with_reducible exact Nat.le_of_eq ln_2c | with_reducible exact Nat.le_of_eq ln_2c29 | with_reducible exact Nat.le_of_eq ln_3c | with_reducible exact Nat.le_of_eq ln_3e | with_reducible exact Nat.le_of_eq ln_3a3a | with_reducible exact Nat.le_of_eq ln_26 | with_reducible exact Nat.le_of_eq ln_6d757420 | with_reducible exact Nat.le_of_eq ln_72656620 | with_reducible exact Nat.le_of_eq ln_204020 | with_reducible exact Nat.le_of_eq ln_2e2e3d | with_reducible exact Nat.le_of_eq ln_207b20 | with_reducible exact Nat.le_of_eq ln_207d | with_reducible exact Nat.le_of_eq ln_7d | with_reducible exact Nat.le_of_eq ln_2e2e | with_reducible exact Nat.le_of_eq ln_3a20 | with_reducible exact Nat.le_of_eq ln_207c20 | with_reducible exact Nat.le_of_eq ln_5f | with_reducible exact Nat.le_of_eq ln_21 | with_reducible exact Nat.le_of_eq ln_2761 | with_reducible exact Nat.le_of_eq ln_54 | with_reducible exact Nat.le_of_eq ln_7538 | with_reducible exact Nat.le_of_eq ln_78 | with_reducible exact Nat.le_of_eq ln_79 | with_reducible exact Nat.le_of_eq ln_6e | with_reducible exact Nat.le_of_eq ln_6d | with_reducible exact Nat.le_of_eq ln_74727565 | with_reducible exact Nat.le_of_eq ln_66616c7365 | with_reducible exact Nat.le_of_eq ln_37 | with_reducible exact Nat.le_of_eq ln_2d31 | with_reducible exact Nat.le_of_eq ln_2d33 | with_reducible exact Nat.le_of_eq ln_39 | with_reducible exact Nat.le_of_eq ln_31 | with_reducible exact Nat.le_of_eq ln_32 | with_reducible exact Nat.le_of_eq ln_73656c66 | with_reducible exact Nat.le_of_eq ln_53656c66 | with_reducible exact Nat.le_of_eq ln_7375706572 | with_reducible exact Nat.le_of_eq ln_6372617465 | with_reducible exact Nat.le_of_eq ln_41 | with_reducible exact Nat.le_of_eq ln_62 | with_reducible exact Nat.le_of_eq ln_4332 | with_reducible exact Nat.le_of_eq ln_3c75383e | with_reducible exact Nat.le_of_eq ln_3c27612c20542c205f3e | with_reducible exact lenW1 (by with_reducible assumption) (by with_reducible assumption) | with_reducible exact lenW2 (by with_reducible assumption) (by with_reducible assumption) | with_reducible exact lenV1 (by with_reducible assumption) (by with_reducible assumption) (by with_reducible assumption) | with_reducible exact lenV2 (by with_reducible assumption) (by with_reducible assumption) (by with_reducible assumption) | with_reducible exact And.left (by with_reducible assumption) | with_reducible exact And.right (by with_reducible assumption) | ((with_reducible refine' lenIte ?_ ?_) <;> (first | k_extra "my len9" | with_reducible show Nat)) | ((with_reducible refine' iteLe ?_ ?_) <;> (first | k_extra "my len9" | with_reducible show Nat))))
  k_with "my size9" => (((refine' size_of ?zqsa ?zqsb); (case zqsa => k_extra "my len9"); (case zqsb => k_dflt (exact rfl))))
  k_with "my k_steps" => (repeat' (first | (k_unfold; (try dsimp only)) | walk1 | (dsimp only; walk1) | fail "no step"))
  k_with "my binaryOp Add str str" => (((with_reducible show wpAny _ _ (binaryOp Operator.Add (Value.str _ _) (Value.str _ _)) _ _ _); (refine add_str (hsz := ?zqhsz) ?_); (case zqhsz => first | k_extra "my size9" | (simp only [j0, j1, j2, j3, PySem.Str.length_append, PySem.sizeLine_eq, ln_e,ln_28,ln_29,ln_2c20,ln_2c,ln_2c29,ln_3c,ln_3e,ln_3a3a,ln_26,ln_6d757420,ln_72656620,ln_204020,ln_2e2e3d,ln_207b20,ln_207d,ln_7d,ln_2e2e,ln_3a20,ln_207c20,ln_5f,ln_21,ln_2761,ln_54,ln_7538,ln_78,ln_79,ln_6e,ln_6d,ln_74727565,ln_66616c7365,ln_37,ln_2d31,ln_2d33,ln_39,ln_31,ln_32,ln_73656c66,ln_53656c66,ln_7375706572,ln_6372617465,ln_41,ln_62,ln_4332,ln_3c75383e,ln_3c27612c20542c205f3e]; omega)); intro _ _))
  k_with "my ite" => (first | ((refine' PySem.W.ite_pos ?zqhc ?_); (case zqhc => (first | (k_dflt (exact (show _ = true from rfl))) | with_reducible assumption))) | ((refine' PySem.W.ite_neg ?zqhc ?_); (case zqhc => (first | (k_dflt (exact fun hb9 => absurd (show false = true from hb9) Bool.false_ne_true)) | exact fun hb9 => absurd (hb9.symm.trans (by with_reducible assumption)) (by decide)))))
  k_with "my call builtin:str.join" => ((k_here; (with_reducible show wpAny _ _ (call (Value.builtin _) [Value.str _ _, Value.ref _]) _ _ _); k_dflt (first | refine jn0 (by is_list) ?_ | ((refine' jn1 ?zqhl ?zqhz ?_); (case zqhl => is_list); (case zqhz => first | k_extra "my size9" | (simp only [PySem.Str.length_append, ln_e,ln_28,ln_29,ln_2c20,ln_2c,ln_2c29,ln_3c,ln_3e,ln_3a3a,ln_26,ln_6d757420,ln_72656620,ln_204020,ln_2e2e3d,ln_207b20,ln_207d,ln_7d,ln_2e2e,ln_3a20,ln_207c20,ln_5f,ln_21,ln_2761,ln_54,ln_7538,ln_78,ln_79,ln_6e,ln_6d,ln_74727565,ln_66616c7365,ln_37,ln_2d31,ln_2d33,ln_39,ln_31,ln_32,ln_73656c66,ln_53656c66,ln_7375706572,ln_6372617465,ln_41,ln_62,ln_4332,ln_3c75383e,ln_3c27612c20542c205f3e]; omega))) | ((refine' jn2 ?zqhl ?zqhz ?_); (case zqhl => is_list); (case zqhz => first | k_extra "my size9" | (simp only [PySem.Str.length_append, ln_e,ln_28,ln_29,ln_2c20,ln_2c,ln_2c29,ln_3c,ln_3e,ln_3a3a,ln_26,ln_6d757420,ln_72656620,ln_204020,ln_2e2e3d,ln_207b20,ln_207d,ln_7d,ln_2e2e,ln_3a20,ln_207c20,ln_5f,ln_21,ln_2761,ln_54,ln_7538,ln_78,ln_79,ln_6e,ln_6d,ln_74727565,ln_66616c7365,ln_37,ln_2d31,ln_2d33,ln_39,ln_31,ln_32,ln_73656c66,ln_53656c66,ln_7375706572,ln_6372617465,ln_41,ln_62,ln_4332,ln_3c75383e,ln_3c27612c20542c205f3e]; omega))) | ((refine' jn3 ?zqhl ?zqhz ?_); (case zqhl => is_list); (case zqhz => first | k_extra "my size9" | (simp only [PySem.Str.length_append, ln_e,ln_28,ln_29,ln_2c20,ln_2c,ln_2c29,ln_3c,ln_3e,ln_3a3a,ln_26,ln_6d757420,ln_72656620,ln_204020,ln_2e2e3d,ln_207b20,ln_207d,ln_7d,ln_2e2e,ln_3a20,ln_207c20,ln_5f,ln_21,ln_2761,ln_54,ln_7538,ln_78,ln_79,ln_6e,ln_6d,ln_74727565,ln_66616c7365,ln_37,ln_2d31,ln_2d33,ln_39,ln_31,ln_32,ln_73656c66,ln_53656c66,ln_7375706572,ln_6372617465,ln_41,ln_62,ln_4332,ln_3c75383e,ln_3c27612c20542c205f3e]; omega)))); intro _ _))
  k_with "my units_room" => ((first | (k_dflt (refine' units_b hun ?zqua ?zqub); (case zqua => k_extra "my dep9"); (case zqub => k_dflt (exact rfl))) | (have hcL9 := cLine_is; (simp only [units_deeper, units_in1] at *); (try dsimp only [ktrTop] at *); omega)))
  k_with "my compareOp Eq ref ref" => (((with_reducible show wpAny _ _ (compareOp CmpOp.Eq (Value.ref _) (Value.ref _)) _ _ _); first | refine PySem.SeqAt.eq_list_lengthsAt (by is_list) (by is_list) (by rfl) (by units_room) ?_ | refine PySem.SeqAt.eq_listAt (e := fun _ => true) (items := #[]) (items2 := #[]) (by is_list) (by is_list) rfl (by units_room) (fun j h1 h2 => absurd h1 (Nat.not_lt_zero _)) ?_))
  trivial
theorem lit_true (w : World)  : WSpec w 63 [.bool true] (fun _ => True) (fun t => .str (Str.ofString "true") t) 1 := by
  unfold WSpec
  intro prg loose mean mg mb dp un gd cn cs a ccd cl outer A₀ base h₀ L m s Q E B F X T hk hdp hun hpre hret
  have N : News h₀ L s.heap [] := News.nil
  refine wpAny_call ?_
  k_dflt (refine' code_defG (binds := [(Str.ofString "value", .bool true)]) B F X N T ?kA ?kF ?kK ?k6 ?k7 ?k8 ?k9 ?kB ?_ ?c2 ?c3 ?c4 ?c5; (case kA => exact rfl); (case kF => exact rfl); (case kK => exact hk); (case k6 => k_is); (case k7 => k_is); (case k8 => k_extra "my room9"); (case k9 => first | exact BindsTo.of_eq rfl | exact binds_K (by k_in) rfl (by k_is) rfl rfl rfl); (case c5 => decide); (case kB => exact locs rfl); (case c2 => exact rfl); (case c3 => exact rfl); (case c4 => exact rfl))
  intro g' L' h' FG' F' N' B' X' T' kG'
  (try dsimp only); k_fold
  have hg := gsub_all kG'
  replace hpre := hpre
  k_steps
  all_goals exact wret hret hg (by assumption) ⟨_, rfl⟩
theorem lit_false (w : World)  : WSpec w 63 [.bool false] (fun _ => True) (fun t => .str (Str.ofString "false") t) 1 := by
  unfold WSpec
  intro prg loose mean mg mb dp un gd cn cs a ccd cl outer A₀ base h₀ L m s Q E B F X T hk hdp hun hpre hret
  have N : News h₀ L s.heap [] := News.nil
  refine wpAny_call ?_
  k_dflt (refine' code_defG (binds := [(Str.ofString "value", .bool false)]) B F X N T ?kA ?kF ?kK ?k6 ?k7 ?k8 ?k9 ?kB ?_ ?c2 ?c3 ?c4 ?c5; (case kA => exact rfl); (case kF => exact rfl); (case kK => exact hk); (case k6 => k_is); (case k7 => k_is); (case k8 => k_extra "my room9"); (case k9 => first | exact BindsTo.of_eq rfl | exact binds_K (by k_in) rfl (by k_is) rfl rfl rfl); (case c5 => decide); (case kB => exact locs rfl); (case c2 => exact rfl); (case c3 => exact rfl); (case c4 => exact rfl))
  intro g' L' h' FG' F' N' B' X' T' kG'
  (try dsimp only); k_fold
  have hg := gsub_all kG'
  replace hpre := hpre
  k_steps
  all_goals exact wret hret hg (by assumption) ⟨_, rfl⟩
theorem lit_7 (w : World) (t : Tok) : WSpec w 63 [.int (7) t] (fun _ => True) (fun t => .str (Str.ofString "7") t) 1 := by
  unfold WSpec
  intro prg loose mean mg mb dp un gd cn cs a ccd cl outer A₀ base h₀ L m s Q E B F X T hk hdp hun hpre hret
  have N : News h₀ L s.heap [] := News.nil
  refine wpAny_call ?_
  k_dflt (refine' code_defG (binds := [(Str.ofString "value", .int (7) t)]) B F X N T ?kA ?kF ?kK ?k6 ?k7 ?k8 ?k9 ?kB ?_ ?c2 ?c3 ?c4 ?c5; (case kA => exact rfl); (case kF => exact rfl); (case kK => exact hk); (case k6 => k_is); (case k7 => k_is); (case k8 => k_extra "my room9"); (case k9 => first | exact BindsTo.of_eq rfl | exact binds_K (by k_in) rfl (by k_is) rfl rfl rfl); (case c5 => decide); (case kB => exact locs rfl); (case c2 => exact rfl); (case c3 => exact rfl); (case c4 => exact rfl))
  intro g' L' h' FG' F' N' B' X' T' kG'
  (try dsimp only); k_fold
  have hg := gsub_all kG'
  replace hpre := hpre
  k_steps
  all_goals exact wret hret hg (by assumption) ⟨_, rfl⟩
theorem lit_m1 (w : World) (t : Tok) : WSpec w 63 [.int (-1) t] (fun _ => True) (fun t => .str (Str.ofString "-1") t) 1 := by
  unfold WSpec
  intro prg loose mean mg mb dp un gd cn cs a ccd cl outer A₀ base h₀ L m s Q E B F X T hk hdp hun hpre hret
  have N : News h₀ L s.heap [] := News.nil
  refine wpAny_call ?_
  k_dflt (refine' code_defG (binds := [(Str.ofString "value", .int (-1) t)]) B F X N T ?kA ?kF ?kK ?k6 ?k7 ?k8 ?k9 ?kB ?_ ?c2 ?c3 ?c4 ?c5; (case kA => exact rfl); (case kF => exact rfl); (case kK => exact hk); (case k6 => k_is); (case k7 => k_is); (case k8 => k_extra "my room9"); (case k9 => first | exact BindsTo.of_eq rfl | exact binds_K (by k_in) rfl (by k_is) rfl rfl rfl); (case c5 => decide); (case kB => exact locs rfl); (case c2 => exact rfl); (case c3 => exact rfl); (case c4 => exact rfl))
  intro g' L' h' FG' F' N' B' X' T' kG'
  (try dsimp only); k_fold
  have hg := gsub_all kG'
  replace hpre := hpre
  k_steps
  all_goals exact wret hret hg (by assumption) ⟨_, rfl⟩
theorem lit_1 (w : World) (t : Tok) : WSpec w 63 [.int (1) t] (fun _ => True) (fun t => .str (Str.ofString "1") t) 1 := by
  unfold WSpec
  intro prg loose mean mg mb dp un gd cn cs a ccd cl outer A₀ base h₀ L m s Q E B F X T hk hdp hun hpre hret
  have N : News h₀ L s.heap [] := News.nil
  refine wpAny_call ?_
  k_dflt (refine' code_defG (binds := [(Str.ofString "value", .int (1) t)]) B F X N T ?kA ?kF ?kK ?k6 ?k7 ?k8 ?k9 ?kB ?_ ?c2 ?c3 ?c4 ?c5; (case kA => exact rfl); (case kF => exact rfl); (case kK => exact hk); (case k6 => k_is); (case k7 => k_is); (case k8 => k_extra "my room9"); (case k9 => first | exact BindsTo.of_eq rfl | exact binds_K (by k_in) rfl (by k_is) rfl rfl rfl); (case c5 => decide); (case kB => exact locs rfl); (case c2 => exact rfl); (case c3 => exact rfl); (case c4 => exact rfl))
  intro g' L' h' FG' F' N' B' X' T' kG'
  (try dsimp only); k_fold
  have hg := gsub_all kG'
  replace hpre := hpre
  k_steps
  all_goals exact wret hret hg (by assumption) ⟨_, rfl⟩
theorem row1 (w : World) (l : Addr) (x0 : Str) (t0 : Tok) (h0 : x0.length ≤ 2000000) : WSpec w 39 [.ref l] (fun h => h.IsList l #[.str x0 t0]) (fun t => .str (Str.ofString "(" ++ x0 ++ Str.ofString "," ++ Str.ofString ")") t) 1 := by
  unfold WSpec
  intro prg loose mean mg mb dp un gd cn cs a ccd cl outer A₀ base h₀ L m s Q E B F X T hk hdp hun hpre hret
  have N : News h₀ L s.heap [] := News.nil
  refine wpAny_call ?_
  k_dflt (refine' code_defG (binds := [(Str.ofString "parts", .ref l)]) B F X N T ?kA ?kF ?kK ?k6 ?k7 ?k8 ?k9 ?kB ?_ ?c2 ?c3 ?c4 ?c5; (case kA => exact rfl); (case kF => exact rfl); (case kK => exact hk); (case k6 => k_is); (case k7 => k_is); (case k8 => k_extra "my room9"); (case k9 => first | exact BindsTo.of_eq rfl | exact binds_K (by k_in) rfl (by k_is) rfl rfl rfl); (case c5 => decide); (case kB => exact locs rfl); (case c2 => exact rfl); (case c3 => exact rfl); (case c4 => exact rfl))
  intro g' L' h' FG' F' N' B' X' T' kG'
  (try dsimp only); k_fold
  have hg := gsub_all kG'
  replace hpre := stays_list hg hpre
  k_steps
  all_goals exact wret hret hg (by assumption) ⟨_, rfl⟩
theorem row2 (w : World) (l : Addr) (x0 : Str) (t0 : Tok) (x1 : Str) (t1 : Tok) (h0 : x0.length ≤ 2000000) (h1 : x1.length ≤ 2000000) : WSpec w 39 [.ref l] (fun h => h.IsList l #[.str x0 t0, .str x1 t1]) (fun t => .str (Str.ofString "(" ++ (x0 ++ Str.ofString ", " ++ x1) ++ Str.ofString "" ++ Str.ofString ")") t) 1 := by
  unfold WSpec
  intro prg loose mean mg mb dp un gd cn cs a ccd cl outer A₀ base h₀ L m s Q E B F X T hk hdp hun hpre hret
  have N : News h₀ L s.heap [] := News.nil
  refine wpAny_call ?_
  k_dflt (refine' code_defG (binds := [(Str.ofString "parts", .ref l)]) B F X N T ?kA ?kF ?kK ?k6 ?k7 ?k8 ?k9 ?kB ?_ ?c2 ?c3 ?c4 ?c5; (case kA => exact rfl); (case kF => exact rfl); (case kK => exact hk); (case k6 => k_is); (case k7 => k_is); (case k8 => k_extra "my room9"); (case k9 => first | exact BindsTo.of_eq rfl | exact binds_K (by k_in) rfl (by k_is) rfl rfl rfl); (case c5 => decide); (case kB => exact locs rfl); (case c2 => exact rfl); (case c3 => exact rfl); (case c4 => exact rfl))
  intro g' L' h' FG' F' N' B' X' T' kG'
  (try dsimp only); k_fold
  have hg := gsub_all kG'
  replace hpre := stays_list hg hpre
  k_steps
  all_goals exact wret hret hg (by assumption) ⟨_, rfl⟩
theorem ang0 (w : World) (l : Addr)   : WSpec w 21 [.ref l] (fun h => h.IsList l #[]) (fun t => .str (Str.ofString "") t) 1 := by
  unfold WSpec
  intro prg loose mean mg mb dp un gd cn cs a ccd cl outer A₀ base h₀ L m s Q E B F X T hk hdp hun hpre hret
  have N : News h₀ L s.heap [] := News.nil
  refine wpAny_call ?_
  k_dflt (refine' code_defG (binds := [(Str.ofString "parts", .ref l)]) B F X N T ?kA ?kF ?kK ?k6 ?k7 ?k8 ?k9 ?kB ?_ ?c2 ?c3 ?c4 ?c5; (case kA => exact rfl); (case kF => exact rfl); (case kK => exact hk); (case k6 => k_is); (case k7 => k_is); (case k8 => k_extra "my room9"); (case k9 => first | exact BindsTo.of_eq rfl | exact binds_K (by k_in) rfl (by k_is) rfl rfl rfl); (case c5 => decide); (case kB => exact locs rfl); (case c2 => exact rfl); (case c3 => exact rfl); (case c4 => exact rfl))
  intro g' L' h' FG' F' N' B' X' T' kG'
  (try dsimp only); k_fold
  have hg := gsub_all kG'
  replace hpre := stays_list hg hpre
  k_steps

  all_goals first | exact wret hret hg (by assumption) ⟨_, rfl⟩ | w_report
theorem ang1 (w : World) (l : Addr) (x0 : Str) (t0 : Tok) (h0 : x0.length ≤ 2000000) : WSpec w 21 [.ref l] (fun h => h.IsList l #[.str x0 t0]) (fun t => .str (Str.ofString "<" ++ x0 ++ Str.ofString ">") t) 1 := by
  unfold WSpec
  intro prg loose mean mg mb dp un gd cn cs a ccd cl outer A₀ base h₀ L m s Q E B F X T hk hdp hun hpre hret
  have N : News h₀ L s.heap [] := News.nil
  refine wpAny_call ?_
  k_dflt (refine' code_defG (binds := [(Str.ofString "parts", .ref l)]) B F X N T ?kA ?kF ?kK ?k6 ?k7 ?k8 ?k9 ?kB ?_ ?c2 ?c3 ?c4 ?c5; (case kA => exact rfl); (case kF => exact rfl); (case kK => exact hk); (case k6 => k_is); (case k7 => k_is); (case k8 => k_extra "my room9"); (case k9 => first | exact BindsTo.of_eq rfl | exact binds_K (by k_in) rfl (by k_is) rfl rfl rfl); (case c5 => decide); (case kB => exact locs rfl); (case c2 => exact rfl); (case c3 => exact rfl); (case c4 => exact rfl))
  intro g' L' h' FG' F' N' B' X' T' kG'
  (try dsimp only); k_fold
  have hg := gsub_all kG'
  replace hpre := stays_list hg hpre
  k_steps

  all_goals first | exact wret hret hg (by assumption) ⟨_, rfl⟩ | w_report
theorem ang2 (w : World) (l : Addr) (x0 : Str) (t0 : Tok) (x1 : Str) (t1 : Tok) (h0 : x0.length ≤ 2000000) (h1 : x1.length ≤ 2000000) : WSpec w 21 [.ref l] (fun h => h.IsList l #[.str x0 t0, .str x1 t1]) (fun t => .str (Str.ofString "<" ++ (x0 ++ Str.ofString ", " ++ x1) ++ Str.ofString ">") t) 1 := by
  unfold WSpec
  intro prg loose mean mg mb dp un gd cn cs a ccd cl outer A₀ base h₀ L m s Q E B F X T hk hdp hun hpre hret
  have N : News h₀ L s.heap [] := News.nil
  refine wpAny_call ?_
  k_dflt (refine' code_defG (binds := [(Str.ofString "parts", .ref l)]) B F X N T ?kA ?kF ?kK ?k6 ?k7 ?k8 ?k9 ?kB ?_ ?c2 ?c3 ?c4 ?c5; (case kA => exact rfl); (case kF => exact rfl); (case kK => exact hk); (case k6 => k_is); (case k7 => k_is); (case k8 => k_extra "my room9"); (case k9 => first | exact BindsTo.of_eq rfl | exact binds_K (by k_in) rfl (by k_is) rfl rfl rfl); (case c5 => decide); (case kB => exact locs rfl); (case c2 => exact rfl); (case c3 => exact rfl); (case c4 => exact rfl))
  intro g' L' h' FG' F' N' B' X' T' kG'
  (try dsimp only); k_fold
  have hg := gsub_all kG'
  replace hpre := stays_list hg hpre
  k_steps

  all_goals first | exact wret hret hg (by assumption) ⟨_, rfl⟩ | w_report
theorem ang3 (w : World) (l : Addr) (x0 : Str) (t0 : Tok) (x1 : Str) (t1 : Tok) (x2 : Str) (t2 : Tok) (h0 : x0.length ≤ 2000000) (h1 : x1.length ≤ 2000000) (h2 : x2.length ≤ 2000000) : WSpec w 21 [.ref l] (fun h => h.IsList l #[.str x0 t0, .str x1 t1, .str x2 t2]) (fun t => .str (Str.ofString "<" ++ (x0 ++ Str.ofString ", " ++ (x1 ++ Str.ofString ", " ++ x2)) ++ Str.ofString ">") t) 1 := by
  unfold WSpec
  intro prg loose mean mg mb dp un gd cn cs a ccd cl outer A₀ base h₀ L m s Q E B F X T hk hdp hun hpre hret
  have N : News h₀ L s.heap [] := News.nil
  refine wpAny_call ?_
  k_dflt (refine' code_defG (binds := [(Str.ofString "parts", .ref l)]) B F X N T ?kA ?kF ?kK ?k6 ?k7 ?k8 ?k9 ?kB ?_ ?c2 ?c3 ?c4 ?c5; (case kA => exact rfl); (case kF => exact rfl); (case kK => exact hk); (case k6 => k_is); (case k7 => k_is); (case k8 => k_extra "my room9"); (case k9 => first | exact BindsTo.of_eq rfl | exact binds_K (by k_in) rfl (by k_is) rfl rfl rfl); (case c5 => decide); (case kB => exact locs rfl); (case c2 => exact rfl); (case c3 => exact rfl); (case c4 => exact rfl))
  intro g' L' h' FG' F' N' B' X' T' kG'
  (try dsimp only); k_fold
  have hg := gsub_all kG'
  replace hpre := stays_list hg hpre
  k_steps

  all_goals first | exact wret hret hg (by assumption) ⟨_, rfl⟩ | w_report
end Mine
end

section
open PySem PySem.W PyProof.Rows PySem.Calls
namespace Mine
set_option maxRecDepth 100000
set_option maxHeartbeats 8000000
section
variable {prog : Program} {w : World} {A : Around} {E : Value → Shared → Prop} {s : Shared} {h₀ : Heap} {env : Env}
theorem UnrPostW.mono {L : Addr} {its : List (Addr × Obj)} {r r' : (Str → Option Value) → List (Addr × Obj) → Prop} {Q : Flow → Shared → Prop} {f : Flow} {s₂ : Shared} (k : ∀ m n, r m n → r' m n) (h : UnrPostW h₀ L s its r Q f s₂) : UnrPostW h₀ L s its r' Q f s₂ := by
  unfold UnrPostW at *
  have e : UnrEndW h₀ L s its r s₂ → UnrEndW h₀ L s its r' s₂ := fun ⟨h', tk, m', n', a, b, c, d, e⟩ => ⟨h', tk, m', n', a, b, c, d, k _ _ e⟩
  split <;> simp_all
/-- a loop over a tuple: what holds from turn to turn -/
theorem items_ind {target : Expr} {body : List Stmt} {Q : Flow → Shared → Prop} {I : Addr} (P : List Value → (Str → Option Value) → List (Addr × Obj) → Prop)
    (step : ∀ v r m news, P (v :: r) m news → ∀ h tk, Fr h₀ env.locals h m → ∀ o : Obj, o.cls = .type "tuple_iterator" → News h₀ env.locals h ((I, o) :: news) →
      wpAny (model prog w) A (assign target env v) (fun _ s₂ => wpAny (model prog w) A (execs body env) (UnrPostW h₀ env.locals { s with heap := h, toks := tk } [(I, o)] (fun m' n' => P r m' n') Q) E s₂) E { s with heap := h, toks := tk })
    (done : ∀ m news, P [] m news → ∀ h tk, Fr h₀ env.locals h m → News h₀ env.locals h news → Q .next { s with heap := h, toks := tk }) :
    ∀ vs m news, P vs m news → ItemsRest prog w A E h₀ env target body Q s [(I, "tuple_iterator")] [] (List.map Itm.val vs) m news := by
  intro vs
  induction vs with
  | nil => exact fun m news p => rest0 fun h tk F N => done m news p h tk F N
  | cons v r ih =>
    intro m news p
    refine restV fun h tk F => AllObj.cons fun o ho => AllObj.nil fun N => ?_
    refine wpAny_mono (step v r m news p h tk F o ho N) (fun _ s₂ h₂ => wpAny_mono h₂ (fun f s₃ h₃ => UnrPostW.mono (fun m' n' q => ⟨trivial, ih m' n' q⟩) h₃) fun _ _ e => e) fun _ _ e => e
end
end Mine
end

section
open PySem PySem.W PyProof.Rows
namespace Mine
theorem anew_W7 : True := by
  w_top off
  trivial
set_option maxRecDepth 100000
set_option maxHeartbeats 8000000
theorem filler_w7 : Filler PySem.Challenge.rw_xm0582_01 hd.heap_1 := by k_fill; trivial

theorem words_W7_0 : True := by
  k_with_none
  k_with "my dep9" => ((first | ((with_reducible refine dS ?_); k_dflt (exact rfl)) | ((with_reducible refine dL ?_); k_dflt (exact rfl)) | ((with_reducible refine dR ?_); k_dflt (exact rfl)) | ((with_reducible refine dS1 ?_); k_dflt (exact rfl)) | ((with_reducible refine dL1 ?_); k_dflt (exact rfl)) | ((with_reducible refine dR1 ?_); k_dflt (exact rfl)) | ((with_reducible refine d0 ?_); k_dflt (exact rfl)) | ((with_reducible refine dV ?_); k_dflt (exact rfl)) | ((with_reducible refine dW ?_); k_dflt (exact rfl)) | k_dflt (exact le_of_ble rfl) | omega))
  k_with "my room9" => ((first | k_dflt (exact room_0 hdp) | (k_dflt (refine room_a hdp ?_); k_extra "my dep9") | k_dflt (exact Nat.le_of_ble_eq_true rfl) | ktr_room))
  k_with "my units9" => ((first | (k_dflt (refine' units_a hun ?zqua ?zqub); (case zqua => k_extra "my dep9"); (case zqub => k_dflt (exact rfl))) | k_dflt (exact Nat.le_of_ble_eq_true rfl) | ktr_units))
  k_with "my len9" => (((with_reducible show (_ : Nat) ≤ _); first | with_reducible exact Nat.le_refl 0 | ((with_reducible refine' lenApp ?_ ?_) <;> (first | k_extra "my len9" | with_reducible show Nat)) | ((with_reducible refine' addLe ?_ ?_) <;> (first | k_extra "my len9" | with_reducible show Nat)) | ((with_reducible refine' mulLe ?_) <;> (first | k_extra "my len9" | with_reducible show Nat)) | with_reducible assumption | with_reducible exact Nat.le_of_eq ln_e | with_reducible exact Nat.le_of_eq ln_28 | with_reducible exact Nat.le_of_eq ln_29 | with_reducible exact Nat.le_of_eq ln_2c20 | with_reducible exact Nat.le_of_eq ln_2c | with_reducible exact Nat.le_of_eq ln_2c29 | with_reducible exact Nat.le_of_eq ln_3c | with_reducible exact Nat.le_of_eq ln_3e | with_reducible exact Nat.le_of_eq ln_3a3a | with_reducible exact Nat.le_of_eq ln_26 | with_reducible exact Nat.le_of_eq ln_6d757420 | with_reducible exact Nat.le_of_eq ln_72656620 | with_reducible exact Nat.le_of_eq ln_204020 | with_reducible exact Nat.le_of_eq ln_2e2e3d | with_reducible exact Nat.le_of_eq ln_207b20 | with_reducible exact Nat.le_of_eq ln_207d | with_reducible exact Nat.le_of_eq ln_7d | with_reducible exact Nat.le_of_eq ln_2e2e | with_reducible exact Nat.le_of_eq ln_3a20 | with_reducible exact Nat.le_of_eq ln_207c20 | with_reducible exact Nat.le_of_eq ln_5f | with_reducible exact Nat.le_of_eq ln_21 | with_reducible exact Nat.le_of_eq ln_2761 | with_reducible exact Nat.le_of_eq ln_54 | with_reducible exact Nat.le_of_eq ln_7538 | with_reducible exact Nat.le_of_eq ln_78 | with_reducible exact Nat.le_of_eq ln_79 | with_reducible exact Nat.le_of_eq ln_6e | with_reducible exact Nat.le_of_eq ln_6d | with_reducible exact Nat.le_of_eq ln_74727565 | with_reducible exact Nat.le_of_eq ln_66616c7365 | with_reducible exact Nat.le_of_eq ln_37 | with_reducible exact Nat.le_of_eq ln_2d31 | with_reducible exact Nat.le_of_eq ln_2d33 | with_reducible exact Nat.le_of_eq ln_39 | with_reducible exact Nat.le_of_eq ln_31 | with_reducible exact Nat.le_of_eq ln_32 | with_reducible exact Nat.le_of_eq ln_73656c66 | with_reducible exact Nat.le_of_eq ln_53656c66 | with_reducible exact Nat.le_of_eq ln_7375706572 | with_reducible exact Nat.le_of_eq ln_6372617465 | with_reducible exact Nat.le_of_eq ln_41 | with_reducible exact Nat.le_of_eq ln_62 | with_reducible exact Nat.le_of_eq ln_4332 | with_reducible exact Nat.le_of_eq ln_3c75383e | with_reducible exact Nat.le_of_eq ln_3c27612c20542c205f3e | with_reducible exact lenW1 (by with_reducible assumption) (by with_reducible assumption) | with_reducible exact lenW2 (by with_reducible assumption) (by with_reducible assumption) | with_reducible exact lenV1 (by with_reducible assumption) (by with_reducible assumption) (by with_reducible assumption) | with_reducible exact lenV2 (by with_reducible assumption) (by with_reducible assumption) (by with_reducible assumption) | with_reducible exact And.left (by with_reducible assumption) | with_reducible exact And.right (by with_reducible assumption) | ((with_reducible refine' lenIte ?_ ?_) <;> (first | k_extra "my len9" | with_reducible show Nat)) | ((with_reducible refine' iteLe ?_ ?_) <;> (first | k_extra "my len9" | with_reducible show Nat))))
  k_with "my size9" => (((refine' size_of ?zqsa ?zqsb); (case zqsa => k_extra "my len9"); (case zqsb => k_dflt (exact rfl))))
  k_with "my k_steps" => (repeat' (first | (k_unfold; (try dsimp only)) | walk1 | (dsimp only; walk1) | fail "no step"))
  k_with "my binaryOp Add str str" => (((with_reducible show wpAny _ _ (binaryOp Operator.Add (Value.str _ _) (Value.str _ _)) _ _ _); (refine add_str (hsz := ?zqhsz) ?_); (case zqhsz => first | k_extra "my size9" | (simp only [j0, j1, j2, j3, PySem.Str.length_append, PySem.sizeLine_eq, ln_e,ln_28,ln_29,ln_2c20,ln_2c,ln_2c29,ln_3c,ln_3e,ln_3a3a,ln_26,ln_6d757420,ln_72656620,ln_204020,ln_2e2e3d,ln_207b20,ln_207d,ln_7d,ln_2e2e,ln_3a20,ln_207c20,ln_5f,ln_21,ln_2761,ln_54,ln_7538,ln_78,ln_79,ln_6e,ln_6d,ln_74727565,ln_66616c7365,ln_37,ln_2d31,ln_2d33,ln_39,ln_31,ln_32,ln_73656c66,ln_53656c66,ln_7375706572,ln_6372617465,ln_41,ln_62,ln_4332,ln_3c75383e,ln_3c27612c20542c205f3e]; omega)); intro _ _))
  k_with "my ite" => (first | ((refine' PySem.W.ite_pos ?zqhc ?_); (case zqhc => (first | (k_dflt (exact (show _ = true from rfl))) | with_reducible assumption))) | ((refine' PySem.W.ite_neg ?zqhc ?_); (case zqhc => (first | (k_dflt (exact fun hb9 => absurd (show false = true from hb9) Bool.false_ne_true)) | exact fun hb9 => absurd (hb9.symm.trans (by with_reducible assumption)) (by decide)))))
  k_with "my call builtin:str.join" => ((k_here; (with_reducible show wpAny _ _ (call (Value.builtin _) [Value.str _ _, Value.ref _]) _ _ _); k_dflt (first | refine jn0 (by is_list) ?_ | ((refine' jn1 ?zqhl ?zqhz ?_); (case zqhl => is_list); (case zqhz => first | k_extra "my size9" | (simp only [PySem.Str.length_append, ln_e,ln_28,ln_29,ln_2c20,ln_2c,ln_2c29,ln_3c,ln_3e,ln_3a3a,ln_26,ln_6d757420,ln_72656620,ln_204020,ln_2e2e3d,ln_207b20,ln_207d,ln_7d,ln_2e2e,ln_3a20,ln_207c20,ln_5f,ln_21,ln_2761,ln_54,ln_7538,ln_78,ln_79,ln_6e,ln_6d,ln_74727565,ln_66616c7365,ln_37,ln_2d31,ln_2d33,ln_39,ln_31,ln_32,ln_73656c66,ln_53656c66,ln_7375706572,ln_6372617465,ln_41,ln_62,ln_4332,ln_3c75383e,ln_3c27612c20542c205f3e]; omega))) | ((refine' jn2 ?zqhl ?zqhz ?_); (case zqhl => is_list); (case zqhz => first | k_extra "my size9" | (simp only [PySem.Str.length_append, ln_e,ln_28,ln_29,ln_2c20,ln_2c,ln_2c29,ln_3c,ln_3e,ln_3a3a,ln_26,ln_6d757420,ln_72656620,ln_204020,ln_2e2e3d,ln_207b20,ln_207d,ln_7d,ln_2e2e,ln_3a20,ln_207c20,ln_5f,ln_21,ln_2761,ln_54,ln_7538,ln_78,ln_79,ln_6e,ln_6d,ln_74727565,ln_66616c7365,ln_37,ln_2d31,ln_2d33,ln_39,ln_31,ln_32,ln_73656c66,ln_53656c66,ln_7375706572,ln_6372617465,ln_41,ln_62,ln_4332,ln_3c75383e,ln_3c27612c20542c205f3e]; omega))) | ((refine' jn3 ?zqhl ?zqhz ?_); (case zqhl => is_list); (case zqhz => first | k_extra "my size9" | (simp only [PySem.Str.length_append, ln_e,ln_28,ln_29,ln_2c20,ln_2c,ln_2c29,ln_3c,ln_3e,ln_3a3a,ln_26,ln_6d757420,ln_72656620,ln_204020,ln_2e2e3d,ln_207b20,ln_207d,ln_7d,ln_2e2e,ln_3a20,ln_207c20,ln_5f,ln_21,ln_2761,ln_54,ln_7538,ln_78,ln_79,ln_6e,ln_6d,ln_74727565,ln_66616c7365,ln_37,ln_2d31,ln_2d33,ln_39,ln_31,ln_32,ln_73656c66,ln_53656c66,ln_7375706572,ln_6372617465,ln_41,ln_62,ln_4332,ln_3c75383e,ln_3c27612c20542c205f3e]; omega)))); intro _ _))
  k_with "my units_room" => ((first | (k_dflt (refine' units_b hun ?zqua ?zqub); (case zqua => k_extra "my dep9"); (case zqub => k_dflt (exact rfl))) | (have hcL9 := cLine_is; (simp only [units_deeper, units_in1] at *); (try dsimp only [ktrTop] at *); omega)))
  k_with "my compareOp Eq ref ref" => (((with_reducible show wpAny _ _ (compareOp CmpOp.Eq (Value.ref _) (Value.ref _)) _ _ _); first | refine PySem.SeqAt.eq_list_lengthsAt (by is_list) (by is_list) (by rfl) (by units_room) ?_ | refine PySem.SeqAt.eq_listAt (e := fun _ => true) (items := #[]) (items2 := #[]) (by is_list) (by is_list) rfl (by units_room) (fun j h1 h2 => absurd h1 (Nat.not_lt_zero _)) ?_))
  k_with "my binaryOp Add str str" => (((with_reducible show wpAny _ _ (binaryOp Operator.Add (Value.str _ _) (Value.str _ _)) _ _ _); (refine add_str (hsz := ?zqhsz) ?_); (case zqhsz => first | exact Nat.zero_le _ | k_extra "my size9" | (simp only [PySem.Str.length_append, PySem.sizeLine_eq, ln_e,ln_28,ln_29,ln_2c20,ln_2c,ln_2c29,ln_3c,ln_3e,ln_3a3a,ln_26,ln_6d757420,ln_72656620,ln_204020,ln_2e2e3d,ln_207b20,ln_207d,ln_7d,ln_2e2e,ln_3a20,ln_207c20,ln_5f,ln_21,ln_2761,ln_54,ln_7538,ln_78,ln_79,ln_6e,ln_6d,ln_74727565,ln_66616c7365,ln_37,ln_2d31,ln_2d33,ln_39,ln_31,ln_32,ln_73656c66,ln_53656c66,ln_7375706572,ln_6372617465,ln_41,ln_62,ln_4332,ln_3c75383e,ln_3c27612c20542c205f3e]; omega) | (simp only [lenIf, PySem.Str.length_append, PySem.sizeLine_eq, ln_e,ln_28,ln_29,ln_2c20,ln_2c,ln_2c29,ln_3c,ln_3e,ln_3a3a,ln_26,ln_6d757420,ln_72656620,ln_204020,ln_2e2e3d,ln_207b20,ln_207d,ln_7d,ln_2e2e,ln_3a20,ln_207c20,ln_5f,ln_21,ln_2761,ln_54,ln_7538,ln_78,ln_79,ln_6e,ln_6d,ln_74727565,ln_66616c7365,ln_37,ln_2d31,ln_2d33,ln_39,ln_31,ln_32,ln_73656c66,ln_53656c66,ln_7375706572,ln_6372617465,ln_41,ln_62,ln_4332,ln_3c75383e,ln_3c27612c20542c205f3e]; (repeat' split) <;> omega)); intro _ _))
  k_with "my ite" => (first | ((with_reducible refine' ite_int_one ?zqhc ?_); (case zqhc => first | with_reducible assumption | decide)) | ((with_reducible refine' ite_int_two ?_ ?_) <;> intro hk9))
  k_with "my ite" => (first | ((refine' PySem.W.ite_pos ?zqhc ?_); (case zqhc => (first | (k_dflt (exact (show _ = true from rfl))) | with_reducible assumption))) | ((refine' PySem.W.ite_neg ?zqhc ?_); (case zqhc => (first | (k_dflt (exact fun hb9 => absurd (show false = true from hb9) Bool.false_ne_true)) | exact fun hb9 => absurd (hb9.symm.trans (by with_reducible assumption)) (by decide)))))
  k_with "my storeName" => ((k_here; (with_reducible show wpAny _ _ (storeName _ _ _) _ _ _); k_dflt (refine' storeU ?zqhe ?zqF ?zqN ?zqhk ?zqhx ?_; (case zqhe => exact rfl); (case zqF => k_asm); (case zqN => k_asm); (case zqhk => rfl); (case zqhx => rfl)); intro h' M' F' N'; (try dsimp only); (try k_sweep)))
  k_with "my execs cons Assign cons" => ((k_here; (with_reducible show wpAny _ _ (execs (Stmt.Assign [Expr.Name _ _] _ _ :: _) _) _ _ _); k_dflt (refine' pure_assignE ?zqhe ?zqhpl ?zqF ?zqN ?zqhk ?zqh ?zqhn ?zqhx ?zqsw ?_; (case zqhpl => exact rfl); (case zqhe => exact rfl); (case zqF => k_asm); (case zqhk => rfl); (case zqh => exact rfl); (case zqhn => first | exact Nat.zero_le _ | k_extra "my size9" | (simp only [PySem.Str.length_append, PySem.sizeLine_eq, ln_e,ln_28,ln_29,ln_2c20,ln_2c,ln_2c29,ln_3c,ln_3e,ln_3a3a,ln_26,ln_6d757420,ln_72656620,ln_204020,ln_2e2e3d,ln_207b20,ln_207d,ln_7d,ln_2e2e,ln_3a20,ln_207c20,ln_5f,ln_21,ln_2761,ln_54,ln_7538,ln_78,ln_79,ln_6e,ln_6d,ln_74727565,ln_66616c7365,ln_37,ln_2d31,ln_2d33,ln_39,ln_31,ln_32,ln_73656c66,ln_53656c66,ln_7375706572,ln_6372617465,ln_41,ln_62,ln_4332,ln_3c75383e,ln_3c27612c20542c205f3e]; omega) | (simp only [lenIf, PySem.Str.length_append, PySem.sizeLine_eq, ln_e,ln_28,ln_29,ln_2c20,ln_2c,ln_2c29,ln_3c,ln_3e,ln_3a3a,ln_26,ln_6d757420,ln_72656620,ln_204020,ln_2e2e3d,ln_207b20,ln_207d,ln_7d,ln_2e2e,ln_3a20,ln_207c20,ln_5f,ln_21,ln_2761,ln_54,ln_7538,ln_78,ln_79,ln_6e,ln_6d,ln_74727565,ln_66616c7365,ln_37,ln_2d31,ln_2d33,ln_39,ln_31,ln_32,ln_73656c66,ln_53656c66,ln_7375706572,ln_6372617465,ln_41,ln_62,ln_4332,ln_3c75383e,ln_3c27612c20542c205f3e]; (repeat' split) <;> omega)); (case zqN => k_asm); (case zqhx => rfl); (case zqsw => rfl)); (try dsimp -zeta only [PV.at]); intro t9 h9 tk9 M9 F9 N9))
  k_with "my execs cons If" => ((k_here; (with_reducible show wpAny _ _ (execs (Stmt.If _ _ [] _ :: _) _) _ _ _); k_dflt (refine' pure_ifE ?zqhe ?zqhpl ?zqF ?zqhk ?zqhp ?zqh ?zqhn ?zqhc ?_; (case zqhpl => exact rfl); (case zqhe => exact rfl); (case zqF => k_asm); (case zqhk => rfl); (case zqh => exact rfl); (case zqhn => first | exact Nat.zero_le _ | k_extra "my size9" | (simp only [PySem.Str.length_append, PySem.sizeLine_eq, ln_e,ln_28,ln_29,ln_2c20,ln_2c,ln_2c29,ln_3c,ln_3e,ln_3a3a,ln_26,ln_6d757420,ln_72656620,ln_204020,ln_2e2e3d,ln_207b20,ln_207d,ln_7d,ln_2e2e,ln_3a20,ln_207c20,ln_5f,ln_21,ln_2761,ln_54,ln_7538,ln_78,ln_79,ln_6e,ln_6d,ln_74727565,ln_66616c7365,ln_37,ln_2d31,ln_2d33,ln_39,ln_31,ln_32,ln_73656c66,ln_53656c66,ln_7375706572,ln_6372617465,ln_41,ln_62,ln_4332,ln_3c75383e,ln_3c27612c20542c205f3e]; omega) | (simp only [lenIf, PySem.Str.length_append, PySem.sizeLine_eq, ln_e,ln_28,ln_29,ln_2c20,ln_2c,ln_2c29,ln_3c,ln_3e,ln_3a3a,ln_26,ln_6d757420,ln_72656620,ln_204020,ln_2e2e3d,ln_207b20,ln_207d,ln_7d,ln_2e2e,ln_3a20,ln_207c20,ln_5f,ln_21,ln_2761,ln_54,ln_7538,ln_78,ln_79,ln_6e,ln_6d,ln_74727565,ln_66616c7365,ln_37,ln_2d31,ln_2d33,ln_39,ln_31,ln_32,ln_73656c66,ln_53656c66,ln_7375706572,ln_6372617465,ln_41,ln_62,ln_4332,ln_3c75383e,ln_3c27612c20542c205f3e]; (repeat' split) <;> omega)); (case zqhp => rfl); (case zqhc => exact rfl)); intro tk9; (try dsimp only)))
  k_with "my eval BinOp" => ((k_here; (with_reducible show wpAny _ _ (eval (Expr.BinOp _ _ _ _) _) _ _ _); k_dflt (refine' pure_evalE ?zqhe ?zqhpl ?zqF ?zqhk ?zqh ?zqhn ?_; (case zqhpl => exact rfl); (case zqhe => exact rfl); (case zqF => k_asm); (case zqhk => rfl); (case zqh => exact rfl); (case zqhn => first | exact Nat.zero_le _ | k_extra "my size9" | (simp only [PySem.Str.length_append, PySem.sizeLine_eq, ln_e,ln_28,ln_29,ln_2c20,ln_2c,ln_2c29,ln_3c,ln_3e,ln_3a3a,ln_26,ln_6d757420,ln_72656620,ln_204020,ln_2e2e3d,ln_207b20,ln_207d,ln_7d,ln_2e2e,ln_3a20,ln_207c20,ln_5f,ln_21,ln_2761,ln_54,ln_7538,ln_78,ln_79,ln_6e,ln_6d,ln_74727565,ln_66616c7365,ln_37,ln_2d31,ln_2d33,ln_39,ln_31,ln_32,ln_73656c66,ln_53656c66,ln_7375706572,ln_6372617465,ln_41,ln_62,ln_4332,ln_3c75383e,ln_3c27612c20542c205f3e]; omega) | (simp only [lenIf, PySem.Str.length_append, PySem.sizeLine_eq, ln_e,ln_28,ln_29,ln_2c20,ln_2c,ln_2c29,ln_3c,ln_3e,ln_3a3a,ln_26,ln_6d757420,ln_72656620,ln_204020,ln_2e2e3d,ln_207b20,ln_207d,ln_7d,ln_2e2e,ln_3a20,ln_207c20,ln_5f,ln_21,ln_2761,ln_54,ln_7538,ln_78,ln_79,ln_6e,ln_6d,ln_74727565,ln_66616c7365,ln_37,ln_2d31,ln_2d33,ln_39,ln_31,ln_32,ln_73656c66,ln_53656c66,ln_7375706572,ln_6372617465,ln_41,ln_62,ln_4332,ln_3c75383e,ln_3c27612c20542c205f3e]; (repeat' split) <;> omega))); intro t9 tk9; (try dsimp only [PV.at])))
  k_with "my eval BinOp" => ((k_here; (with_reducible show wpAny _ _ (eval (Expr.BinOp (Expr.Constant _ _ _) Operator.Mult (Expr.Call (Expr.Name _ _) [Expr.Name _ _] [] _) _) _) _ _ _); k_dflt (refine' mul_intE ?zqhe ?zqF ?zqX ?zqT ?zqhI ?zqhx ?zqhk ?zqhi ?zqhxl ?zqhl ?_; (case zqhe => exact rfl); (case zqF => k_asm); (case zqX => k_asm); (case zqT => k_asm); (case zqhI => k_is); (case zqhx => rfl); (case zqhk => rfl); (case zqhi => rfl); (case zqhxl => rfl); (case zqhl => decide +kernel)); intro t9 tk9; (try dsimp only)))
  k_with "my eval Compare" => ((k_here; (with_reducible show wpAny _ _ (eval (Expr.Compare _ _ _ _) _) _ _ _); k_dflt (refine' pure_evalE ?zqhe ?zqhpl ?zqF ?zqhk ?zqh ?zqhn ?_; (case zqhpl => exact rfl); (case zqhe => exact rfl); (case zqF => k_asm); (case zqhk => rfl); (case zqh => exact rfl); (case zqhn => first | exact Nat.zero_le _ | k_extra "my size9" | (simp only [PySem.Str.length_append, PySem.sizeLine_eq, ln_e,ln_28,ln_29,ln_2c20,ln_2c,ln_2c29,ln_3c,ln_3e,ln_3a3a,ln_26,ln_6d757420,ln_72656620,ln_204020,ln_2e2e3d,ln_207b20,ln_207d,ln_7d,ln_2e2e,ln_3a20,ln_207c20,ln_5f,ln_21,ln_2761,ln_54,ln_7538,ln_78,ln_79,ln_6e,ln_6d,ln_74727565,ln_66616c7365,ln_37,ln_2d31,ln_2d33,ln_39,ln_31,ln_32,ln_73656c66,ln_53656c66,ln_7375706572,ln_6372617465,ln_41,ln_62,ln_4332,ln_3c75383e,ln_3c27612c20542c205f3e]; omega) | (simp only [lenIf, PySem.Str.length_append, PySem.sizeLine_eq, ln_e,ln_28,ln_29,ln_2c20,ln_2c,ln_2c29,ln_3c,ln_3e,ln_3a3a,ln_26,ln_6d757420,ln_72656620,ln_204020,ln_2e2e3d,ln_207b20,ln_207d,ln_7d,ln_2e2e,ln_3a20,ln_207c20,ln_5f,ln_21,ln_2761,ln_54,ln_7538,ln_78,ln_79,ln_6e,ln_6d,ln_74727565,ln_66616c7365,ln_37,ln_2d31,ln_2d33,ln_39,ln_31,ln_32,ln_73656c66,ln_53656c66,ln_7375706572,ln_6372617465,ln_41,ln_62,ln_4332,ln_3c75383e,ln_3c27612c20542c205f3e]; (repeat' split) <;> omega))); intro t9 tk9; (try dsimp only [PV.at])))
  k_with "my eval IfExp" => ((k_here; (with_reducible show wpAny _ _ (eval (Expr.IfExp _ _ _ _) _) _ _ _); k_dflt (refine' pure_evalE ?zqhe ?zqhpl ?zqF ?zqhk ?zqh ?zqhn ?_; (case zqhpl => exact rfl); (case zqhe => exact rfl); (case zqF => k_asm); (case zqhk => rfl); (case zqh => exact rfl); (case zqhn => first | exact Nat.zero_le _ | k_extra "my size9" | (simp only [PySem.Str.length_append, PySem.sizeLine_eq, ln_e,ln_28,ln_29,ln_2c20,ln_2c,ln_2c29,ln_3c,ln_3e,ln_3a3a,ln_26,ln_6d757420,ln_72656620,ln_204020,ln_2e2e3d,ln_207b20,ln_207d,ln_7d,ln_2e2e,ln_3a20,ln_207c20,ln_5f,ln_21,ln_2761,ln_54,ln_7538,ln_78,ln_79,ln_6e,ln_6d,ln_74727565,ln_66616c7365,ln_37,ln_2d31,ln_2d33,ln_39,ln_31,ln_32,ln_73656c66,ln_53656c66,ln_7375706572,ln_6372617465,ln_41,ln_62,ln_4332,ln_3c75383e,ln_3c27612c20542c205f3e]; omega) | (simp only [lenIf, PySem.Str.length_append, PySem.sizeLine_eq, ln_e,ln_28,ln_29,ln_2c20,ln_2c,ln_2c29,ln_3c,ln_3e,ln_3a3a,ln_26,ln_6d757420,ln_72656620,ln_204020,ln_2e2e3d,ln_207b20,ln_207d,ln_7d,ln_2e2e,ln_3a20,ln_207c20,ln_5f,ln_21,ln_2761,ln_54,ln_7538,ln_78,ln_79,ln_6e,ln_6d,ln_74727565,ln_66616c7365,ln_37,ln_2d31,ln_2d33,ln_39,ln_31,ln_32,ln_73656c66,ln_53656c66,ln_7375706572,ln_6372617465,ln_41,ln_62,ln_4332,ln_3c75383e,ln_3c27612c20542c205f3e]; (repeat' split) <;> omega))); intro t9 tk9; (try dsimp only [PV.at])))
  k_with "my isTrue Compare" => ((k_here; (with_reducible show wpAny _ _ (PySem.isTrue (Expr.Compare _ _ _ _) _ _) _ _ _); k_dflt (refine' pure_testE ?zqhe ?zqhpl ?zqF ?zqhk ?zqhp ?zqh ?zqhc ?zqhn ?_; (case zqhpl => exact rfl); (case zqhe => exact rfl); (case zqF => k_asm); (case zqhk => rfl); (case zqh => exact rfl); (case zqhn => first | exact Nat.zero_le _ | k_extra "my size9" | (simp only [PySem.Str.length_append, PySem.sizeLine_eq, ln_e,ln_28,ln_29,ln_2c20,ln_2c,ln_2c29,ln_3c,ln_3e,ln_3a3a,ln_26,ln_6d757420,ln_72656620,ln_204020,ln_2e2e3d,ln_207b20,ln_207d,ln_7d,ln_2e2e,ln_3a20,ln_207c20,ln_5f,ln_21,ln_2761,ln_54,ln_7538,ln_78,ln_79,ln_6e,ln_6d,ln_74727565,ln_66616c7365,ln_37,ln_2d31,ln_2d33,ln_39,ln_31,ln_32,ln_73656c66,ln_53656c66,ln_7375706572,ln_6372617465,ln_41,ln_62,ln_4332,ln_3c75383e,ln_3c27612c20542c205f3e]; omega) | (simp only [lenIf, PySem.Str.length_append, PySem.sizeLine_eq, ln_e,ln_28,ln_29,ln_2c20,ln_2c,ln_2c29,ln_3c,ln_3e,ln_3a3a,ln_26,ln_6d757420,ln_72656620,ln_204020,ln_2e2e3d,ln_207b20,ln_207d,ln_7d,ln_2e2e,ln_3a20,ln_207c20,ln_5f,ln_21,ln_2761,ln_54,ln_7538,ln_78,ln_79,ln_6e,ln_6d,ln_74727565,ln_66616c7365,ln_37,ln_2d31,ln_2d33,ln_39,ln_31,ln_32,ln_73656c66,ln_53656c66,ln_7375706572,ln_6372617465,ln_41,ln_62,ln_4332,ln_3c75383e,ln_3c27612c20542c205f3e]; (repeat' split) <;> omega)); (case zqhp => rfl); (case zqhc => exact rfl)); intro tk9; (try dsimp only)))
  k_with "my eval Tuple" => ((k_here; (with_reducible show wpAny _ _ (eval (Expr.Tuple _ _ _) _) _ _ _); k_dflt (refine' pure_tupleE ?zqhe ?zqhpl ?zqF ?zqN ?zqhk ?zqh ?zqhn ?zqhz ?_; (case zqhpl => exact rfl); (case zqhe => exact rfl); (case zqF => k_asm); (case zqhk => rfl); (case zqh => exact rfl); (case zqhn => first | exact Nat.zero_le _ | k_extra "my size9" | (simp only [PySem.Str.length_append, PySem.sizeLine_eq, ln_e,ln_28,ln_29,ln_2c20,ln_2c,ln_2c29,ln_3c,ln_3e,ln_3a3a,ln_26,ln_6d757420,ln_72656620,ln_204020,ln_2e2e3d,ln_207b20,ln_207d,ln_7d,ln_2e2e,ln_3a20,ln_207c20,ln_5f,ln_21,ln_2761,ln_54,ln_7538,ln_78,ln_79,ln_6e,ln_6d,ln_74727565,ln_66616c7365,ln_37,ln_2d31,ln_2d33,ln_39,ln_31,ln_32,ln_73656c66,ln_53656c66,ln_7375706572,ln_6372617465,ln_41,ln_62,ln_4332,ln_3c75383e,ln_3c27612c20542c205f3e]; omega) | (simp only [lenIf, PySem.Str.length_append, PySem.sizeLine_eq, ln_e,ln_28,ln_29,ln_2c20,ln_2c,ln_2c29,ln_3c,ln_3e,ln_3a3a,ln_26,ln_6d757420,ln_72656620,ln_204020,ln_2e2e3d,ln_207b20,ln_207d,ln_7d,ln_2e2e,ln_3a20,ln_207c20,ln_5f,ln_21,ln_2761,ln_54,ln_7538,ln_78,ln_79,ln_6e,ln_6d,ln_74727565,ln_66616c7365,ln_37,ln_2d31,ln_2d33,ln_39,ln_31,ln_32,ln_73656c66,ln_53656c66,ln_7375706572,ln_6372617465,ln_41,ln_62,ln_4332,ln_3c75383e,ln_3c27612c20542c205f3e]; (repeat' split) <;> omega)); (case zqN => k_asm); (case zqhz => exact Nat.le_of_ble_eq_true rfl)); intro tk9; (try dsimp only [AllAt]); intros; (rename_i D' h' F' N' l1); (try k_lt l1); (try k_sweep)))
  k_with "my spliced" => ((k_here; (with_reducible show wpAny _ _ (spliced (backTo _ (starEach (_ :: _) _))) _ _ _); k_dflt (refine' pure_argsE ?zqhe ?zqhpl ?zqhk ?zqF ?zqh ?zqhn ?_; (case zqhpl => exact rfl); (case zqhe => exact rfl); (case zqF => k_asm); (case zqhk => rfl); (case zqh => exact rfl); (case zqhn => first | exact Nat.zero_le _ | k_extra "my size9" | (simp only [PySem.Str.length_append, PySem.sizeLine_eq, ln_e,ln_28,ln_29,ln_2c20,ln_2c,ln_2c29,ln_3c,ln_3e,ln_3a3a,ln_26,ln_6d757420,ln_72656620,ln_204020,ln_2e2e3d,ln_207b20,ln_207d,ln_7d,ln_2e2e,ln_3a20,ln_207c20,ln_5f,ln_21,ln_2761,ln_54,ln_7538,ln_78,ln_79,ln_6e,ln_6d,ln_74727565,ln_66616c7365,ln_37,ln_2d31,ln_2d33,ln_39,ln_31,ln_32,ln_73656c66,ln_53656c66,ln_7375706572,ln_6372617465,ln_41,ln_62,ln_4332,ln_3c75383e,ln_3c27612c20542c205f3e]; omega) | (simp only [lenIf, PySem.Str.length_append, PySem.sizeLine_eq, ln_e,ln_28,ln_29,ln_2c20,ln_2c,ln_2c29,ln_3c,ln_3e,ln_3a3a,ln_26,ln_6d757420,ln_72656620,ln_204020,ln_2e2e3d,ln_207b20,ln_207d,ln_7d,ln_2e2e,ln_3a20,ln_207c20,ln_5f,ln_21,ln_2761,ln_54,ln_7538,ln_78,ln_79,ln_6e,ln_6d,ln_74727565,ln_66616c7365,ln_37,ln_2d31,ln_2d33,ln_39,ln_31,ln_32,ln_73656c66,ln_53656c66,ln_7375706572,ln_6372617465,ln_41,ln_62,ln_4332,ln_3c75383e,ln_3c27612c20542c205f3e]; (repeat' split) <;> omega))); intro tk9; (try dsimp only [AllAt, List.cons_append, List.nil_append]); intros; (try dsimp only [List.cons_append, List.nil_append])))
  k_with "my eval Name" => ((k_here; (with_reducible show wpAny _ _ (eval (Expr.Name _ _) (envOf _ _ _ _ _)) _ _ _); k_dflt (first | (refine' nameX_L ?zqF ?zqv ?_ ?zqa ?zqb; (case zqF => k_asm); (case zqa => rfl); (case zqb => rfl); (case zqv => rfl); k_whole) | (refine' nameX_K ?zqF ?zqX ?zqT ?zqe ?_ ?zqa ?zqb; (case zqF => k_asm); (case zqX => k_asm); (case zqT => k_asm); (case zqa => rfl); (case zqb => rfl); (case zqe => k_is); k_whole))))
  trivial
inductive Ents (h : Heap) (way : Nat) : List Value → List Str → Prop
  | last {v : Value} {n : Str} : n.length ≤ 100 → EntAt h v n way → Ents h way [v] [n]
  | more {v : Value} {n : Str} {vs : List Value} {ns : List Str} : n.length ≤ 100 → EntAt h v n 0 → Ents h way vs ns → Ents h way (v :: vs) (n :: ns)
theorem PathAt.ents {h : Heap} {a : Addr} {ns : List Str} {way : Nat} (x : PathAt h (.ref a) ns way) (ok : PathOk ns way) : ∃ vs : List Value, IsTup h a vs.toArray ∧ Ents h way vs ns ∧ vs.length ≤ 24 := by
  cases x with
  | one t e => cases ok with | one h1 _ => exact ⟨[_], t, .last h1 e, Nat.le_of_ble_eq_true rfl⟩
  | two t e e2 => cases ok with | two h1 h2 _ => exact ⟨[_, _], t, .more h1 e (.last h2 e2), Nat.le_of_ble_eq_true rfl⟩
  | three t e e2 e3 => cases ok with | three h1 h2 h3 _ => exact ⟨[_, _, _], t, .more h1 e (.more h2 e2 (.last h3 e3)), Nat.le_of_ble_eq_true rfl⟩
/-- the texts of a path's entries -/
noncomputable def fs (b : Str) (way : Nat) : List Str → List Str
  | [] => []
  | [n] => [n ++ tailT b way]
  | n :: r => n :: fs b way r
/-- what holds from turn to turn -/
def TurnInv (g : Heap) (way : Nat) (b : Str) (tb : Tok) (all : List Str) (l : Addr) (vs : List Value) (m : Str → Option Value) (news : Led) : Prop :=
  ∃ (its : Array Value) (ds ns' : List Str) (c : Nat), news = [(l, W.listOf its c)] ∧ m (Str.ofString "found") = some (.ref l) ∧ m (Str.ofString "between") = some (.str b tb) ∧ StrsAre its.toList ds ∧ (vs = [] ∧ ns' = [] ∨ Ents g way vs ns') ∧ ds ++ fs b way ns' = all ∧ its.size + vs.length ≤ 24
theorem turn_ind {prog : Program} {w : World} {A : Around} {E : Value → Shared → Prop} {s : Shared} {h₀ : Heap} {env : Env} {target : Expr} {body : List Stmt} {Q : Flow → Shared → Prop} {I : Addr} {g : Heap} {way : Nat} {b : Str} {tb : Tok} {all : List Str} {l : Addr} {vs : List Value} {m : Str → Option Value} {news : Led} (iv : TurnInv g way b tb all l vs m news)
    (step : ∀ v r m news, TurnInv g way b tb all l (v :: r) m news → ∀ h tk, Fr h₀ env.locals h m → ∀ o : Obj, o.cls = .type "tuple_iterator" → News h₀ env.locals h ((I, o) :: news) →
      wpAny (model prog w) A (assign target env v) (fun _ s₂ => wpAny (model prog w) A (execs body env) (UnrPostW h₀ env.locals { s with heap := h, toks := tk } [(I, o)] (fun m' n' => TurnInv g way b tb all l r m' n') Q) E s₂) E { s with heap := h, toks := tk })
    (done : ∀ m news, TurnInv g way b tb all l [] m news → ∀ h tk, Fr h₀ env.locals h m → News h₀ env.locals h news → Q .next { s with heap := h, toks := tk }) :
    ItemsRest prog w A E h₀ env target body Q s [(I, "tuple_iterator")] [] (List.map Itm.val vs) m news := items_ind (TurnInv g way b tb all l) step done vs m news iv
theorem strs_snoc {vs : List Value} {xs : List Str} {x : Str} {t : Tok} (h : StrsAre vs xs) : StrsAre (vs ++ [.str x t]) (xs ++ [x]) := by
  induction h with
  | nil => exact .cons _ _ .nil
  | cons _ _ _ ih => exact .cons _ _ ih
theorem turn_end {g : Heap} {way : Nat} {b : Str} {tb t : Tok} {all' : List Str} {l I L : Addr} {r : List Value} {h' : Heap} {m' : Str → Option Value} {all : Led} {o : Obj} {its : Array Value} {ds ns' : List Str} {c tk : Nat} {x : Str} {s₁ : Shared}
    (F : Fr g L h' m') (N : News g L h' all) (hi : (I, o) ∈ all) (hl : (l, W.listOf (its.push (.str x t)) (c + 1)) ∈ all) (hne : l ≠ I) (hs : StrsAre its.toList ds) (m1 : m' (Str.ofString "found") = some (.ref l)) (m2 : m' (Str.ofString "between") = some (.str b tb))
    (hr : r = [] ∧ ns' = [] ∨ Ents g way r ns') (ha : (ds ++ [x]) ++ fs b way ns' = all') (hz : its.size + (r.length + 1) ≤ 24) : UnrEndW g L s₁ [(I, o)] (fun m' n' => TurnInv g way b tb all' l r m' n') { s₁ with heap := h', toks := tk } := by
  refine ⟨h', tk, m', [(l, W.listOf (its.push (.str x t)) (c + 1))], rfl, F, ?_, ?_, ⟨its.push (.str x t), ds ++ [x], ns', c + 1, rfl, m1, m2, ?_, hr, ha, ?_⟩⟩
  · intro p hp
    simp only [List.cons_append, List.nil_append, List.mem_cons, List.not_mem_nil, or_false] at hp
    rcases hp with rfl | rfl
    · exact N _ hi
    · exact N _ hl
  · intro p hp q hq
    simp only [List.mem_cons, List.not_mem_nil, or_false] at hp hq
    subst hp hq
    exact hne
  · rw [Array.toList_push]; exact strs_snoc hs
  · rw [Array.size_push]; omega
theorem strs1 {its : Array Value} {x : Str} (h : StrsAre its.toList [x]) : ∃ t, its = #[.str x t] := by
  obtain ⟨l⟩ := its
  cases h with | cons _ t h => cases h; exact ⟨_, rfl⟩
theorem strs2 {its : Array Value} {x y : Str} (h : StrsAre its.toList [x, y]) : ∃ t u, its = #[.str x t, .str y u] := by
  obtain ⟨l⟩ := its
  cases h with | cons _ t h => cases h with | cons _ u h => cases h; exact ⟨_, _, rfl⟩
theorem strs3 {its : Array Value} {x y z : Str} (h : StrsAre its.toList [x, y, z]) : ∃ t u v, its = #[.str x t, .str y u, .str z v] := by
  obtain ⟨l⟩ := its
  cases h with | cons _ t h => cases h with | cons _ u h => cases h with | cons _ v h => cases h; exact ⟨_, _, _, rfl⟩
theorem tailT_len9 {b : Str} {way : Nat} (hb : b.length ≤ 10) : (tailT b way).length ≤ 40 := by
  have h1 : (Str.ofString "<u8>").length = 4 := by decide +kernel
  have h2 : (Str.ofString "<'a, T, _>").length = 10 := by decide +kernel
  have h3 : (Str.ofString "").length = 0 := by decide +kernel
  unfold tailT
  split <;> simp only [PySem.Str.length_append, h1, h2, h3] <;> omega
/-- the types' texts -/
def TyS (w : World) : Prop := (∀ (e q : Addr) (n : Str) (t1 t2 : Tok), n.length ≤ 100 → WSpec w 32 [.ref e] (fun h => IsTup h e #[.str (Str.ofString "path") t1, .int 0 t2, .ref q] ∧ PathAt h (.ref q) [n] 0) (fun t => .str n t) 8) ∧
  (∀ (e : Addr) (t1 t2 : Tok), WSpec w 32 [.ref e] (fun h => IsTup h e #[.str (Str.ofString "infer") t1, .int 0 t2]) (fun t => .str (Str.ofString "_") t) 8)
theorem TyS.path {w : World} (h : TyS w) (e q : Addr) (n : Str) (t1 t2 : Tok) (hn : n.length ≤ 100) : WSpec w 32 [.ref e] (fun h => IsTup h e #[.str (Str.ofString "path") t1, .int 0 t2, .ref q] ∧ PathAt h (.ref q) [n] 0) (fun t => .str n t) 8 := h.1 e q n t1 t2 hn
theorem TyS.infer {w : World} (h : TyS w) (e : Addr) (t1 t2 : Tok) : WSpec w 32 [.ref e] (fun h => IsTup h e #[.str (Str.ofString "infer") t1, .int 0 t2]) (fun t => .str (Str.ofString "_") t) 8 := h.2 e t1 t2
theorem words_W7_1 : True := by
  k_with "my call ref" => ((k_here; (with_reducible show wpAny _ _ (call (Value.ref 21) _) _ _ _); k_dflt (first | (refine' wuse (ang0 _ _) ?zqB ?zqF ?zqX ?zqN ?zqT ?zqhk ?zqhd ?zqhu ?zqhp ?_; (case zqhp => is_list); (case zqB => k_asm); (case zqF => k_asm); (case zqX => k_asm); (case zqN => k_asm); (case zqT => k_asm); (case zqhk => first | exact rfl | assumption); (case zqhd => k_extra "my room9"); (case zqhu => k_extra "my units9"); intro t9 h9 tk9 g9 F9 N9; (try dsimp only); (try dsimp only at g9); (try k_sweep)) | (refine' wuse (ang1 _ _ _ _ ?zqb0) ?zqB ?zqF ?zqX ?zqN ?zqT ?zqhk ?zqhd ?zqhu ?zqhp ?_; (case zqhp => is_list); (case zqb0 => first | assumption | k_extra "my size9" | (simp only [ln_e,ln_28,ln_29,ln_2c20,ln_2c,ln_2c29,ln_3c,ln_3e,ln_3a3a,ln_26,ln_6d757420,ln_72656620,ln_204020,ln_2e2e3d,ln_207b20,ln_207d,ln_7d,ln_2e2e,ln_3a20,ln_207c20,ln_5f,ln_21,ln_2761,ln_54,ln_7538,ln_78,ln_79,ln_6e,ln_6d,ln_74727565,ln_66616c7365,ln_37,ln_2d31,ln_2d33,ln_39,ln_31,ln_32,ln_73656c66,ln_53656c66,ln_7375706572,ln_6372617465,ln_41,ln_62,ln_4332,ln_3c75383e,ln_3c27612c20542c205f3e]; omega) | omega); (case zqB => k_asm); (case zqF => k_asm); (case zqX => k_asm); (case zqN => k_asm); (case zqT => k_asm); (case zqhk => first | exact rfl | assumption); (case zqhd => k_extra "my room9"); (case zqhu => k_extra "my units9"); intro t9 h9 tk9 g9 F9 N9; (try dsimp only); (try dsimp only at g9); (try k_sweep)) | (refine' wuse (ang3 _ _ _ _ _ _ _ _ ?zqb0 ?zqb1 ?zqb2) ?zqB ?zqF ?zqX ?zqN ?zqT ?zqhk ?zqhd ?zqhu ?zqhp ?_; (case zqhp => is_list); (case zqb0 => first | assumption | k_extra "my size9" | (simp only [ln_e,ln_28,ln_29,ln_2c20,ln_2c,ln_2c29,ln_3c,ln_3e,ln_3a3a,ln_26,ln_6d757420,ln_72656620,ln_204020,ln_2e2e3d,ln_207b20,ln_207d,ln_7d,ln_2e2e,ln_3a20,ln_207c20,ln_5f,ln_21,ln_2761,ln_54,ln_7538,ln_78,ln_79,ln_6e,ln_6d,ln_74727565,ln_66616c7365,ln_37,ln_2d31,ln_2d33,ln_39,ln_31,ln_32,ln_73656c66,ln_53656c66,ln_7375706572,ln_6372617465,ln_41,ln_62,ln_4332,ln_3c75383e,ln_3c27612c20542c205f3e]; omega) | omega); (case zqb1 => first | assumption | k_extra "my size9" | (simp only [ln_e,ln_28,ln_29,ln_2c20,ln_2c,ln_2c29,ln_3c,ln_3e,ln_3a3a,ln_26,ln_6d757420,ln_72656620,ln_204020,ln_2e2e3d,ln_207b20,ln_207d,ln_7d,ln_2e2e,ln_3a20,ln_207c20,ln_5f,ln_21,ln_2761,ln_54,ln_7538,ln_78,ln_79,ln_6e,ln_6d,ln_74727565,ln_66616c7365,ln_37,ln_2d31,ln_2d33,ln_39,ln_31,ln_32,ln_73656c66,ln_53656c66,ln_7375706572,ln_6372617465,ln_41,ln_62,ln_4332,ln_3c75383e,ln_3c27612c20542c205f3e]; omega) | omega); (case zqb2 => first | assumption | k_extra "my size9" | (simp only [ln_e,ln_28,ln_29,ln_2c20,ln_2c,ln_2c29,ln_3c,ln_3e,ln_3a3a,ln_26,ln_6d757420,ln_72656620,ln_204020,ln_2e2e3d,ln_207b20,ln_207d,ln_7d,ln_2e2e,ln_3a20,ln_207c20,ln_5f,ln_21,ln_2761,ln_54,ln_7538,ln_78,ln_79,ln_6e,ln_6d,ln_74727565,ln_66616c7365,ln_37,ln_2d31,ln_2d33,ln_39,ln_31,ln_32,ln_73656c66,ln_53656c66,ln_7375706572,ln_6372617465,ln_41,ln_62,ln_4332,ln_3c75383e,ln_3c27612c20542c205f3e]; omega) | omega); (case zqB => k_asm); (case zqF => k_asm); (case zqX => k_asm); (case zqN => k_asm); (case zqT => k_asm); (case zqhk => first | exact rfl | assumption); (case zqhd => k_extra "my room9"); (case zqhu => k_extra "my units9"); intro t9 h9 tk9 g9 F9 N9; (try dsimp only); (try dsimp only at g9); (try k_sweep)))))
  k_with "my subscriptTail" => ((k_here; (with_reducible show wpAny _ _ (subscriptTail _ _ (Value.ref _) (Value.int _ _)) _ _ _); k_dflt (refine' item_tupleT ?zqt ?zqa ?zqb ?zqc ?zqd ?_; (case zqt => exact istup_mono (Fr.keep (by with_reducible assumption)) (by with_reducible assumption)); (case zqa => decide); (case zqb => decide); (case zqc => rfl); (case zqd => rfl))))
  k_with "my exec For Tuple Name cons nil" => ((k_here; (rename Fr _ _ _ _ => lF'); (with_unfolding_all refine' For_turns lF' ?_)))
  k_with "my pyIter ref" => ((k_here; (with_reducible show wpAny _ _ (pyIter (Value.ref _)) (fun it s₂ => TurnsAt _ _ _ _ _ _ _ _ _ it s₂) _ _); (with_unfolding_all refine' iter_tupB ?zqh ?zqF ?zqN ?zqT ?zqz ?_; (case zqh => with_unfolding_all rfl); (case zqF => k_asm); (case zqN => k_asm); (case zqT => k_asm); (case zqz => first | exact Nat.le_of_ble_eq_true rfl | with_reducible assumption)); intro i' l1; (try k_lt l1); (try dsimp only [List.map_cons, List.map_nil])))
  k_with "my ItemsRest" => (first | ((refine restV (fun h' tk' F' => ?_)); (refine AllObj.cons (fun o' hc' => ?_)); (try dsimp only at hc'); (refine AllObj.nil (fun N' => ?_)); (try simp only [List.cons_append, List.nil_append] at N')) | (refine rest0 (fun h' tk' F' N' => ?_)))
  k_with "my assign Tuple" => ((k_here; (with_reducible show wpAny _ _ (assign (Expr.Tuple _ _ _) _ (Value.ref _)) _ _ _); k_dflt (refine' unpackN_ ?zqF ?zqN ?zqT ?zqk1 ?zqk2 ?zqk3 ?_; (case zqF => k_asm); (case zqN => k_asm); (case zqT => exact istup_mono (Fr.keep (by with_reducible assumption)) (by with_reducible assumption)); (case zqk1 => exact rfl); (case zqk2 => exact rfl); (case zqk3 => exact rfl)); intro h' F' N'; (try k_sweep)))
  k_with "my call type:list" => ((k_here; (with_reducible show wpAny _ _ (call (Value.type _) [Value.ref _]) _ _ _); k_dflt (refine' list_copyKT ?zqF ?zqN ?zqT ?_ ?zqz; (case zqF => k_asm); (case zqN => k_asm); (case zqT => exact istup_mono (Fr.keep (by with_reducible assumption)) (by with_reducible assumption)); (case zqz => exact Nat.le_of_ble_eq_true rfl)); intro D' c' h' F' N' l1; (try k_lt l1); (try k_sweep)))
  k_with "my eval ListComp" => ((k_here; k_dflt (refine ListComp_T (by k_asm) (by rfl) (by decide) (by rfl) (by decide) (by rfl) ?_)))
  k_with "my SrcT" => ((k_here; k_dflt (first | (refine SrcT.zero (by rfl) (by k_asm) (by k_asm) (by exact istup_mono (Fr.keep (by with_reducible assumption)) (by with_reducible assumption)) ?_) | (refine SrcT.one (by rfl) (by k_asm) (by k_asm) (by exact istup_mono (Fr.keep (by with_reducible assumption)) (by with_reducible assumption)) (by assumption) ?_ ?_) | (refine SrcT.two (by rfl) (by k_asm) (by k_asm) (by exact istup_mono (Fr.keep (by with_reducible assumption)) (by with_reducible assumption)) (by assumption) ?_ ?_ ?_))))
  k_with "my TurnG" => ((unfold TurnG; intro C' oC' m' h' tk' E' hC' hx' F' N' l1 g'; (try k_lt l1); (try dsimp only); (try k_unmd); (try k_fold)))
  k_with "my call builtin:list.append" => ((k_here; (with_reducible show wpAny _ _ (call (Value.builtin _) [Value.ref _, _]) _ _ _); k_dflt (refine' append_K ?zqk1 ?zqk2 ?zqk3 ?_ ?zqz; (case zqk1 => k_asm); (case zqk2 => k_asm); (case zqk3 => k_upd); (case zqz => first | exact Nat.le_of_ble_eq_true rfl | exact Nat.le_trans (Nat.le_trans (Nat.le_add_right _ _) (by with_reducible assumption)) (by decide +kernel)); k_whole); intro h' F' N'; (try simp only [psh0, psh1, psh2] at N'); (try k_sweep)))
  k_with "my GrowEnd" => ((first | exact GrowEnd.intro ⟨_, rfl⟩ (by with_reducible assumption) | exact GrowEnd.intro ⟨_, rfl⟩ (fun _ _ e => e)))
  k_with "my FinG" => ((unfold FinG; (simp only [AllToks]); intros; rename_i D' h' tk' F' N' l1; (try dsimp only [LCg.lst] at N'); (try k_lt l1); (try dsimp only); (try k_sweep)))
  k_with "my eval Name" => ((k_here; (with_reducible show wpAny _ _ (eval (Expr.Name _ _) (envOf _ _ _ _ _)) _ _ _); k_dflt (first | (refine' nameX_L ?zqF ?zqv ?_ ?zqa ?zqb; (case zqF => k_asm); (case zqa => rfl); (case zqb => rfl); (case zqv => first | rfl | assumption); k_whole) | (refine' nameX_K ?zqF ?zqX ?zqT ?zqe ?_ ?zqa ?zqb; (case zqF => k_asm); (case zqX => k_asm); (case zqT => k_asm); (case zqa => rfl); (case zqb => rfl); (case zqe => k_is); k_whole))))
  k_with "my call ref" => ((k_here; (with_reducible show wpAny _ _ (call (Value.ref 32) _) _ _ _); k_dflt (first | (refine' wuse (TyS.path ?zqhT _ _ _ _ _ ?zqb0) ?zqB ?zqF ?zqX ?zqN ?zqT ?zqhk ?zqhd ?zqhu ?zqhp ?_; (case zqhT => with_reducible assumption); (case zqhp => exact ⟨istup_mono (Fr.keep (by with_reducible assumption)) (by with_reducible assumption), PathAt.mono (Fr.keep (by with_reducible assumption)) (by assumption)⟩); (case zqb0 => first | assumption | k_extra "my size9" | (simp only [ln_e,ln_28,ln_29,ln_2c20,ln_2c,ln_2c29,ln_3c,ln_3e,ln_3a3a,ln_26,ln_6d757420,ln_72656620,ln_204020,ln_2e2e3d,ln_207b20,ln_207d,ln_7d,ln_2e2e,ln_3a20,ln_207c20,ln_5f,ln_21,ln_2761,ln_54,ln_7538,ln_78,ln_79,ln_6e,ln_6d,ln_74727565,ln_66616c7365,ln_37,ln_2d31,ln_2d33,ln_39,ln_31,ln_32,ln_73656c66,ln_53656c66,ln_7375706572,ln_6372617465,ln_41,ln_62,ln_4332,ln_3c75383e,ln_3c27612c20542c205f3e]; omega) | omega); (case zqB => k_asm); (case zqF => k_asm); (case zqX => k_asm); (case zqN => k_asm); (case zqT => k_asm); (case zqhk => first | exact rfl | assumption); (case zqhd => k_extra "my room9"); (case zqhu => k_extra "my units9"); intro t9 h9 tk9 g9 F9 N9; (try dsimp only); (try dsimp only at g9); (try k_sweep)) | (refine' wuse (TyS.infer ?zqhT _ _ _) ?zqB ?zqF ?zqX ?zqN ?zqT ?zqhk ?zqhd ?zqhu ?zqhp ?_; (case zqhT => with_reducible assumption); (case zqhp => exact istup_mono (Fr.keep (by with_reducible assumption)) (by with_reducible assumption)); (case zqB => k_asm); (case zqF => k_asm); (case zqX => k_asm); (case zqN => k_asm); (case zqT => k_asm); (case zqhk => first | exact rfl | assumption); (case zqhd => k_extra "my room9"); (case zqhu => k_extra "my units9"); intro t9 h9 tk9 g9 F9 N9; (try dsimp only); (try dsimp only at g9); (try k_sweep)))))
  trivial
theorem path_gen (w : World) {ns : List Str} {way : Nat} (ok : PathOk ns way) (c : Nat) (h5 : 5 ≤ c) (hTy : 0 < way → 12 ≤ c ∧ TyS w) (pa : Addr) (b : Str) (tb : Tok) (hb : b.length ≤ 10) (vs : List Value)
    (hB : ∀ (s : Shared) (o : Obj) (fo : FuncData), (hd.heap_1 w.params).In s.heap → List.lookup 27 (hd.heap_1 w.params) = some o → o.data = .func fo → BindsTo s fo ⟨vs, []⟩ [(Str.ofString "path", .ref pa), (Str.ofString "between", .str b tb)]) :
    WSpec w 27 vs (fun h => PathAt h (.ref pa) ns way) (fun t => .str (pathT b way ns) t) c := by
  unfold WSpec
  intro prg loose mean mg mb dp un gd cn cs a ccd cl outer A₀ base h₀ L m s Q E B F X T hk hdp hun hpre hret
  have N : News h₀ L s.heap [] := News.nil
  refine wpAny_call ?_
  k_dflt (refine' code_defG (binds := [(Str.ofString "path", .ref pa), (Str.ofString "between", .str b tb)]) B F X N T ?kA ?kF ?kK ?k6 ?k7 ?k8 ?k9 ?kB ?_ ?c2 ?c3 ?c4 ?c5; (case kA => exact rfl); (case kF => exact rfl); (case kK => exact hk); (case k6 => k_is); (case k7 => k_is); (case k8 => k_extra "my room9"); (case k9 => exact hB _ _ _ (by k_in) (by k_is) rfl); (case c5 => decide); (case kB => exact locs rfl); (case c2 => exact rfl); (case c3 => exact rfl); (case c4 => exact rfl))
  intro g' L' h' FG' F' N' B' X' T' kG'
  (try dsimp only); k_fold
  have hg := gsub_all kG'
  replace hpre := hpre.mono hg
  obtain ⟨its, hT9, hE9, hz9⟩ := hpre.ents ok
  clear hpre
  k_steps
  refine' turn_ind (g := g') (way := way) (b := b) (tb := tb) (all := fs b way ns) ⟨#[], [], ns, 0, rfl, rfl, rfl, .nil, .inr hE9, rfl, (by simpa using hz9)⟩ ?st ?dn
  case dn =>
    rintro m9 news9 ⟨its9, ds9, ns9, c9, rfl, hm1, hm2, hs9, he9, ha9, hz9⟩ h9 tk9 F9 N9
    rcases he9 with ⟨-, rfl⟩ | he9
    rotate_left
    · cases he9
    simp only [fs, List.append_nil] at ha9
    subst ha9
    dsimp only
    have hlt9 := tailT_len9 (way := way) hb
    cases ok with
    | one h1 hw =>
      obtain ⟨t1, e⟩ := strs1 hs9
      subst e
      k_steps
      exact wretS hret hg (by assumption) rfl
    | two h1 h2 hw =>
      obtain ⟨t1, t2, e⟩ := strs2 hs9
      subst e
      k_steps
      exact wretS hret hg (by assumption) (by simp only [pathT, PySem.Str.append_assoc])
    | three h1 h2 h3 hw =>
      obtain ⟨t1, t2, t3, e⟩ := strs3 hs9
      subst e
      k_steps
      exact wretS hret hg (by assumption) (by simp only [pathT, PySem.Str.append_assoc])
  case st =>
    rintro v9 r9 m9 news9 ⟨its9, ds9, ns9, c9, rfl, hm1, hm2, hs9, he9, ha9, hz9⟩ h9 tk9 F9 o9 ho9 N9
    rcases he9 with ⟨he9, -⟩ | he9
    · cases he9
    cases he9 with
    | last hn9 e9 =>
      cases e9 with
      | none i1 i2 i3 =>
        k_steps
        refine' turn_end ?zF9 ?zN9 ?zi9 ?zl9 ?zn9 hs9 ?zm1 ?zm2 (.inl ⟨rfl, rfl⟩) ?za9 ?zz9
        case zF9 => k_asm
        case zN9 => k_asm
        case zi9 => k_mem
        case zl9 => k_mem
        case zn9 => k_ne
        case zm1 => exact hm1
        case zm2 => exact hm2
        case za9 => rw [← ha9]; simp only [fs, tailT, ape, epa, List.append_nil, PySem.Str.append_assoc, lt_u8, lt_aT]
        case zz9 => exact hz9
      | one i1 i2 i3 i4 i5 i6 =>
        obtain ⟨hc12, hTyS⟩ := hTy (by decide)
        have hp6 := PathAt.one i5 i6
        have cf1 : CompFs [fun t => .str (Str.ofString "u8") t] := ⟨⟩
        k_steps
        refine' turn_end ?zF9 ?zN9 ?zi9 ?zl9 ?zn9 hs9 ?zm1 ?zm2 (.inl ⟨rfl, rfl⟩) ?za9 ?zz9
        case zF9 => k_asm
        case zN9 => k_asm
        case zi9 => k_mem
        case zl9 => k_mem
        case zn9 => k_ne
        case zm1 => exact hm1
        case zm2 => exact hm2
        case za9 => rw [← ha9]; simp only [fs, tailT, ape, epa, List.append_nil, PySem.Str.append_assoc, lt_u8, lt_aT]
        case zz9 => exact hz9
      | two i1 i2 i3 i4 i5 i6 i7 =>
        obtain ⟨hc12, hTyS⟩ := hTy (by decide)
        have hp6 := PathAt.one i5 i6
        have cf2 : CompFs [fun t => .str (Str.ofString "T") t, fun t => .str (Str.ofString "_") t] := ⟨⟩
        k_steps
        refine' turn_end ?zF9 ?zN9 ?zi9 ?zl9 ?zn9 hs9 ?zm1 ?zm2 (.inl ⟨rfl, rfl⟩) ?za9 ?zz9
        case zF9 => k_asm
        case zN9 => k_asm
        case zi9 => k_mem
        case zl9 => k_mem
        case zn9 => k_ne
        case zm1 => exact hm1
        case zm2 => exact hm2
        case za9 => rw [← ha9]; simp only [fs, tailT, ape, epa, List.append_nil, PySem.Str.append_assoc, lt_u8, lt_aT]
        case zz9 => exact hz9
    | more hn9 e9 hr9 =>
      cases e9 with
      | none i1 i2 i3 =>
        k_steps
        refine' turn_end ?zF9 ?zN9 ?zi9 ?zl9 ?zn9 hs9 ?zm1 ?zm2 (.inr hr9) ?za9 ?zz9
        case zF9 => k_asm
        case zN9 => k_asm
        case zi9 => k_mem
        case zl9 => k_mem
        case zn9 => k_ne
        case zm1 => exact hm1
        case zm2 => exact hm2
        case za9 => rw [← ha9]; cases hr9 <;> simp [fs, ape, List.append_assoc]
        case zz9 => exact hz9
theorem path2arg (w : World) {ns : List Str} {way : Nat} (ok : PathOk ns way) (c : Nat) (h5 : 5 ≤ c) (hTy : 0 < way → 12 ≤ c ∧ TyS w) (pa : Addr) (b : Str) (tb : Tok) (hb : b.length ≤ 10) : WSpec w 27 [.ref pa, .str b tb] (fun h => PathAt h (.ref pa) ns way) (fun t => .str (pathT b way ns) t) c :=
  path_gen w ok c h5 hTy pa b tb hb _ fun s o fo X e1 e2 => by
    cases e1
    cases e2
    exact binds_K X rfl (by k_is) rfl rfl rfl
theorem path1arg (w : World) {ns : List Str} {way : Nat} (ok : PathOk ns way) (c : Nat) (h5 : 5 ≤ c) (hTy : 0 < way → 12 ≤ c ∧ TyS w) (pa : Addr) : WSpec w 27 [.ref pa] (fun h => PathAt h (.ref pa) ns way) (fun t => .str (pathT (Str.ofString "") way ns) t) c :=
  path_gen w ok c h5 hTy pa (Str.ofString "") 196 (by decide +kernel) _ fun s o fo X e1 e2 => by
    cases e1
    cases e2
    exact binds_K X rfl (by k_is) rfl rfl rfl
theorem path1_0d (w : World) (pa : Addr) (n0 : Str) (hn0 : n0.length ≤ 100) : WSpec w 27 [.ref pa] (fun h => PathAt h (.ref pa) [n0] 0) (fun t => .str (pathT (Str.ofString "") 0 [n0]) t) 5 := path1arg w (.one hn0 (by decide)) 5 (by decide) (fun h => absurd h (by decide)) pa

theorem words_W7_2 : True := by
  k_with "my call ref" => ((k_here; (with_reducible show wpAny _ _ (call (Value.ref 27) _) _ _ _); k_dflt (first | (refine' wuse (path1_0d _ _ _ ?zqb0) ?zqB ?zqF ?zqX ?zqN ?zqT ?zqhk ?zqhd ?zqhu ?zqhp ?_; (case zqhp => first | assumption | exact PathAt.mono (Fr.keep (by with_reducible assumption)) (by assumption)); (case zqb0 => first | assumption | k_extra "my size9" | (simp only [ln_e,ln_28,ln_29,ln_2c20,ln_2c,ln_2c29,ln_3c,ln_3e,ln_3a3a,ln_26,ln_6d757420,ln_72656620,ln_204020,ln_2e2e3d,ln_207b20,ln_207d,ln_7d,ln_2e2e,ln_3a20,ln_207c20,ln_5f,ln_21,ln_2761,ln_54,ln_7538,ln_78,ln_79,ln_6e,ln_6d,ln_74727565,ln_66616c7365,ln_37,ln_2d31,ln_2d33,ln_39,ln_31,ln_32,ln_73656c66,ln_53656c66,ln_7375706572,ln_6372617465,ln_41,ln_62,ln_4332,ln_3c75383e,ln_3c27612c20542c205f3e]; omega) | omega); (case zqB => k_asm); (case zqF => k_asm); (case zqX => k_asm); (case zqN => k_asm); (case zqT => k_asm); (case zqhk => first | exact rfl | assumption); (case zqhd => k_extra "my room9"); (case zqhu => k_extra "my units9"); intro t9 h9 tk9 g9 F9 N9; (try dsimp only); (try dsimp only at g9); (try k_sweep)))))
  trivial
theorem ty_path (w : World) (e q : Addr) (n : Str) (t1 t2 : Tok) (hn : n.length ≤ 100) : WSpec w 32 [.ref e] (fun h => IsTup h e #[.str (Str.ofString "path") t1, .int 0 t2, .ref q] ∧ PathAt h (.ref q) [n] 0) (fun t => .str (n) t) 8 := by
  unfold WSpec
  intro prg loose mean mg mb dp un gd cn cs a ccd cl outer A₀ base h₀ L m s Q E B F X T hk hdp hun hpre hret
  have N : News h₀ L s.heap [] := News.nil
  refine wpAny_call ?_
  k_dflt (refine' code_defG (binds := [(Str.ofString "written", .ref e)]) B F X N T ?kA ?kF ?kK ?k6 ?k7 ?k8 ?k9 ?kB ?_ ?c2 ?c3 ?c4 ?c5; (case kA => exact rfl); (case kF => exact rfl); (case kK => exact hk); (case k6 => k_is); (case k7 => k_is); (case k8 => k_extra "my room9"); (case k9 => first | exact BindsTo.of_eq rfl | exact binds_K (by k_in) rfl (by k_is) rfl rfl rfl); (case c5 => decide); (case kB => exact locs rfl); (case c2 => exact rfl); (case c3 => exact rfl); (case c4 => exact rfl))
  intro g' L' h' FG' F' N' B' X' T' kG'
  (try dsimp only); k_fold
  have hg := gsub_all kG'
  replace hpre := And.intro (istup_mono hg hpre.1) (hpre.2.mono hg)
  obtain ⟨hp1, hp2⟩ := hpre
  k_steps
  all_goals first | exact wretS hret hg (by assumption) (by simp only [pathT, tailT, ape, epa, PySem.Str.append_assoc, lt_u8, lt_aT]; done) | (w_report)
theorem ty_infer (w : World) (e : Addr) (t1 t2 : Tok) : WSpec w 32 [.ref e] (fun h => IsTup h e #[.str (Str.ofString "infer") t1, .int 0 t2]) (fun t => .str (Str.ofString "_") t) 8 := by
  unfold WSpec
  intro prg loose mean mg mb dp un gd cn cs a ccd cl outer A₀ base h₀ L m s Q E B F X T hk hdp hun hpre hret
  have N : News h₀ L s.heap [] := News.nil
  refine wpAny_call ?_
  k_dflt (refine' code_defG (binds := [(Str.ofString "written", .ref e)]) B F X N T ?kA ?kF ?kK ?k6 ?k7 ?k8 ?k9 ?kB ?_ ?c2 ?c3 ?c4 ?c5; (case kA => exact rfl); (case kF => exact rfl); (case kK => exact hk); (case k6 => k_is); (case k7 => k_is); (case k8 => k_extra "my room9"); (case k9 => first | exact BindsTo.of_eq rfl | exact binds_K (by k_in) rfl (by k_is) rfl rfl rfl); (case c5 => decide); (case kB => exact locs rfl); (case c2 => exact rfl); (case c3 => exact rfl); (case c4 => exact rfl))
  intro g' L' h' FG' F' N' B' X' T' kG'
  (try dsimp only); k_fold
  have hg := gsub_all kG'
  replace hpre := istup_mono hg hpre
  k_steps
  all_goals exact wretS hret hg (by assumption) rfl
theorem tyS (w : World) : TyS w := ⟨fun e q n t1 t2 hn => ty_path w e q n t1 t2 hn, fun e t1 t2 => ty_infer w e t1 t2⟩
theorem path_any (w : World) {ns : List Str} {way : Nat} (ok : PathOk ns way) (pa : Addr) (b : Str) (tb : Tok) (hb : b.length ≤ 10) : WSpec w 27 [.ref pa, .str b tb] (fun h => PathAt h (.ref pa) ns way) (fun t => .str (pathT b way ns) t) 20 :=
  path2arg w ok 20 (by decide) (fun _ => ⟨by decide, tyS w⟩) pa b tb hb
theorem path_anyD (w : World) {ns : List Str} {way : Nat} (ok : PathOk ns way) (pa : Addr) : WSpec w 27 [.ref pa] (fun h => PathAt h (.ref pa) ns way) (fun t => .str (pathT (S "") way ns) t) 20 :=
  path1arg w ok 20 (by decide) (fun _ => ⟨by decide, tyS w⟩) pa
end Mine
end

section
open PySem PySem.W PyProof.Rows
namespace Mine
theorem anew_W8 : True := by
  w_top off
  trivial
set_option maxRecDepth 100000
set_option maxHeartbeats 8000000
theorem filler_w8 : Filler PySem.Challenge.rw_xm0582_01 hd.heap_1 := by k_fill; trivial

theorem words_W8_0 : True := by
  k_with_none
  k_with "my dep9" => ((first | ((with_reducible refine dS ?_); k_dflt (exact rfl)) | ((with_reducible refine dL ?_); k_dflt (exact rfl)) | ((with_reducible refine dR ?_); k_dflt (exact rfl)) | ((with_reducible refine dS1 ?_); k_dflt (exact rfl)) | ((with_reducible refine dL1 ?_); k_dflt (exact rfl)) | ((with_reducible refine dR1 ?_); k_dflt (exact rfl)) | ((with_reducible refine d0 ?_); k_dflt (exact rfl)) | ((with_reducible refine dV ?_); k_dflt (exact rfl)) | ((with_reducible refine dW ?_); k_dflt (exact rfl)) | k_dflt (exact le_of_ble rfl) | omega))
  k_with "my room9" => ((first | k_dflt (exact room_0 hdp) | (k_dflt (refine room_a hdp ?_); k_extra "my dep9") | k_dflt (exact Nat.le_of_ble_eq_true rfl) | ktr_room))
  k_with "my units9" => ((first | (k_dflt (refine' units_a hun ?zqua ?zqub); (case zqua => k_extra "my dep9"); (case zqub => k_dflt (exact rfl))) | k_dflt (exact Nat.le_of_ble_eq_true rfl) | ktr_units))
  k_with "my len9" => (((with_reducible show (_ : Nat) ≤ _); first | with_reducible exact Nat.le_refl 0 | ((with_reducible refine' lenApp ?_ ?_) <;> (first | k_extra "my len9" | with_reducible show Nat)) | ((with_reducible refine' addLe ?_ ?_) <;> (first | k_extra "my len9" | with_reducible show Nat)) | ((with_reducible refine' mulLe ?_) <;> (first | k_extra "my len9" | with_reducible show Nat)) | with_reducible assumption | with_reducible exact Nat.le_of_eq ln_e | with_reducible exact Nat.le_of_eq ln_28 | with_reducible exact Nat.le_of_eq ln_29 | with_reducible exact Nat.le_of_eq ln_2c20 | with_reducible exact Nat.le_of_eq ln_2c | with_reducible exact Nat.le_of_eq ln_2c29 | with_reducible exact Nat.le_of_eq ln_3c | with_reducible exact Nat.le_of_eq ln_3e | with_reducible exact Nat.le_of_eq ln_3a3a | with_reducible exact Nat.le_of_eq ln_26 | with_reducible exact Nat.le_of_eq ln_6d757420 | with_reducible exact Nat.le_of_eq ln_72656620 | with_reducible exact Nat.le_of_eq ln_204020 | with_reducible exact Nat.le_of_eq ln_2e2e3d | with_reducible exact Nat.le_of_eq ln_207b20 | with_reducible exact Nat.le_of_eq ln_207d | with_reducible exact Nat.le_of_eq ln_7d | with_reducible exact Nat.le_of_eq ln_2e2e | with_reducible exact Nat.le_of_eq ln_3a20 | with_reducible exact Nat.le_of_eq ln_207c20 | with_reducible exact Nat.le_of_eq ln_5f | with_reducible exact Nat.le_of_eq ln_21 | with_reducible exact Nat.le_of_eq ln_2761 | with_reducible exact Nat.le_of_eq ln_54 | with_reducible exact Nat.le_of_eq ln_7538 | with_reducible exact Nat.le_of_eq ln_78 | with_reducible exact Nat.le_of_eq ln_79 | with_reducible exact Nat.le_of_eq ln_6e | with_reducible exact Nat.le_of_eq ln_6d | with_reducible exact Nat.le_of_eq ln_74727565 | with_reducible exact Nat.le_of_eq ln_66616c7365 | with_reducible exact Nat.le_of_eq ln_37 | with_reducible exact Nat.le_of_eq ln_2d31 | with_reducible exact Nat.le_of_eq ln_2d33 | with_reducible exact Nat.le_of_eq ln_39 | with_reducible exact Nat.le_of_eq ln_31 | with_reducible exact Nat.le_of_eq ln_32 | with_reducible exact Nat.le_of_eq ln_73656c66 | with_reducible exact Nat.le_of_eq ln_53656c66 | with_reducible exact Nat.le_of_eq ln_7375706572 | with_reducible exact Nat.le_of_eq ln_6372617465 | with_reducible exact Nat.le_of_eq ln_41 | with_reducible exact Nat.le_of_eq ln_62 | with_reducible exact Nat.le_of_eq ln_4332 | with_reducible exact Nat.le_of_eq ln_3c75383e | with_reducible exact Nat.le_of_eq ln_3c27612c20542c205f3e | with_reducible exact lenW1 (by with_reducible assumption) (by with_reducible assumption) | with_reducible exact lenW2 (by with_reducible assumption) (by with_reducible assumption) | with_reducible exact lenV1 (by with_reducible assumption) (by with_reducible assumption) (by with_reducible assumption) | with_reducible exact lenV2 (by with_reducible assumption) (by with_reducible assumption) (by with_reducible assumption) | with_reducible exact And.left (by with_reducible assumption) | with_reducible exact And.right (by with_reducible assumption) | ((with_reducible refine' lenIte ?_ ?_) <;> (first | k_extra "my len9" | with_reducible show Nat)) | ((with_reducible refine' iteLe ?_ ?_) <;> (first | k_extra "my len9" | with_reducible show Nat))))
  k_with "my size9" => (((refine' size_of ?zqsa ?zqsb); (case zqsa => k_extra "my len9"); (case zqsb => k_dflt (exact rfl))))
  k_with "my k_steps" => (repeat' (first | (k_unfold; (try dsimp only)) | walk1 | (dsimp only; walk1) | fail "no step"))
  k_with "my binaryOp Add str str" => (((with_reducible show wpAny _ _ (binaryOp Operator.Add (Value.str _ _) (Value.str _ _)) _ _ _); (refine add_str (hsz := ?zqhsz) ?_); (case zqhsz => first | k_extra "my size9" | (simp only [j0, j1, j2, j3, PySem.Str.length_append, PySem.sizeLine_eq, ln_e,ln_28,ln_29,ln_2c20,ln_2c,ln_2c29,ln_3c,ln_3e,ln_3a3a,ln_26,ln_6d757420,ln_72656620,ln_204020,ln_2e2e3d,ln_207b20,ln_207d,ln_7d,ln_2e2e,ln_3a20,ln_207c20,ln_5f,ln_21,ln_2761,ln_54,ln_7538,ln_78,ln_79,ln_6e,ln_6d,ln_74727565,ln_66616c7365,ln_37,ln_2d31,ln_2d33,ln_39,ln_31,ln_32,ln_73656c66,ln_53656c66,ln_7375706572,ln_6372617465,ln_41,ln_62,ln_4332,ln_3c75383e,ln_3c27612c20542c205f3e]; omega)); intro _ _))
  k_with "my ite" => (first | ((refine' PySem.W.ite_pos ?zqhc ?_); (case zqhc => (first | (k_dflt (exact (show _ = true from rfl))) | with_reducible assumption))) | ((refine' PySem.W.ite_neg ?zqhc ?_); (case zqhc => (first | (k_dflt (exact fun hb9 => absurd (show false = true from hb9) Bool.false_ne_true)) | exact fun hb9 => absurd (hb9.symm.trans (by with_reducible assumption)) (by decide)))))
  k_with "my call builtin:str.join" => ((k_here; (with_reducible show wpAny _ _ (call (Value.builtin _) [Value.str _ _, Value.ref _]) _ _ _); k_dflt (first | refine jn0 (by is_list) ?_ | ((refine' jn1 ?zqhl ?zqhz ?_); (case zqhl => is_list); (case zqhz => first | k_extra "my size9" | (simp only [PySem.Str.length_append, ln_e,ln_28,ln_29,ln_2c20,ln_2c,ln_2c29,ln_3c,ln_3e,ln_3a3a,ln_26,ln_6d757420,ln_72656620,ln_204020,ln_2e2e3d,ln_207b20,ln_207d,ln_7d,ln_2e2e,ln_3a20,ln_207c20,ln_5f,ln_21,ln_2761,ln_54,ln_7538,ln_78,ln_79,ln_6e,ln_6d,ln_74727565,ln_66616c7365,ln_37,ln_2d31,ln_2d33,ln_39,ln_31,ln_32,ln_73656c66,ln_53656c66,ln_7375706572,ln_6372617465,ln_41,ln_62,ln_4332,ln_3c75383e,ln_3c27612c20542c205f3e]; omega))) | ((refine' jn2 ?zqhl ?zqhz ?_); (case zqhl => is_list); (case zqhz => first | k_extra "my size9" | (simp only [PySem.Str.length_append, ln_e,ln_28,ln_29,ln_2c20,ln_2c,ln_2c29,ln_3c,ln_3e,ln_3a3a,ln_26,ln_6d757420,ln_72656620,ln_204020,ln_2e2e3d,ln_207b20,ln_207d,ln_7d,ln_2e2e,ln_3a20,ln_207c20,ln_5f,ln_21,ln_2761,ln_54,ln_7538,ln_78,ln_79,ln_6e,ln_6d,ln_74727565,ln_66616c7365,ln_37,ln_2d31,ln_2d33,ln_39,ln_31,ln_32,ln_73656c66,ln_53656c66,ln_7375706572,ln_6372617465,ln_41,ln_62,ln_4332,ln_3c75383e,ln_3c27612c20542c205f3e]; omega))) | ((refine' jn3 ?zqhl ?zqhz ?_); (case zqhl => is_list); (case zqhz => first | k_extra "my size9" | (simp only [PySem.Str.length_append, ln_e,ln_28,ln_29,ln_2c20,ln_2c,ln_2c29,ln_3c,ln_3e,ln_3a3a,ln_26,ln_6d757420,ln_72656620,ln_204020,ln_2e2e3d,ln_207b20,ln_207d,ln_7d,ln_2e2e,ln_3a20,ln_207c20,ln_5f,ln_21,ln_2761,ln_54,ln_7538,ln_78,ln_79,ln_6e,ln_6d,ln_74727565,ln_66616c7365,ln_37,ln_2d31,ln_2d33,ln_39,ln_31,ln_32,ln_73656c66,ln_53656c66,ln_7375706572,ln_6372617465,ln_41,ln_62,ln_4332,ln_3c75383e,ln_3c27612c20542c205f3e]; omega)))); intro _ _))
  k_with "my units_room" => ((first | (k_dflt (refine' units_b hun ?zqua ?zqub); (case zqua => k_extra "my dep9"); (case zqub => k_dflt (exact rfl))) | (have hcL9 := cLine_is; (simp only [units_deeper, units_in1] at *); (try dsimp only [ktrTop] at *); omega)))
  k_with "my compareOp Eq ref ref" => (((with_reducible show wpAny _ _ (compareOp CmpOp.Eq (Value.ref _) (Value.ref _)) _ _ _); first | refine PySem.SeqAt.eq_list_lengthsAt (by is_list) (by is_list) (by rfl) (by units_room) ?_ | refine PySem.SeqAt.eq_listAt (e := fun _ => true) (items := #[]) (items2 := #[]) (by is_list) (by is_list) rfl (by units_room) (fun j h1 h2 => absurd h1 (Nat.not_lt_zero _)) ?_))
  k_with "my binaryOp Add str str" => (((with_reducible show wpAny _ _ (binaryOp Operator.Add (Value.str _ _) (Value.str _ _)) _ _ _); (refine add_str (hsz := ?zqhsz) ?_); (case zqhsz => first | exact Nat.zero_le _ | k_extra "my size9" | (simp only [PySem.Str.length_append, PySem.sizeLine_eq, ln_e,ln_28,ln_29,ln_2c20,ln_2c,ln_2c29,ln_3c,ln_3e,ln_3a3a,ln_26,ln_6d757420,ln_72656620,ln_204020,ln_2e2e3d,ln_207b20,ln_207d,ln_7d,ln_2e2e,ln_3a20,ln_207c20,ln_5f,ln_21,ln_2761,ln_54,ln_7538,ln_78,ln_79,ln_6e,ln_6d,ln_74727565,ln_66616c7365,ln_37,ln_2d31,ln_2d33,ln_39,ln_31,ln_32,ln_73656c66,ln_53656c66,ln_7375706572,ln_6372617465,ln_41,ln_62,ln_4332,ln_3c75383e,ln_3c27612c20542c205f3e]; omega) | (simp only [lenIf, PySem.Str.length_append, PySem.sizeLine_eq, ln_e,ln_28,ln_29,ln_2c20,ln_2c,ln_2c29,ln_3c,ln_3e,ln_3a3a,ln_26,ln_6d757420,ln_72656620,ln_204020,ln_2e2e3d,ln_207b20,ln_207d,ln_7d,ln_2e2e,ln_3a20,ln_207c20,ln_5f,ln_21,ln_2761,ln_54,ln_7538,ln_78,ln_79,ln_6e,ln_6d,ln_74727565,ln_66616c7365,ln_37,ln_2d31,ln_2d33,ln_39,ln_31,ln_32,ln_73656c66,ln_53656c66,ln_7375706572,ln_6372617465,ln_41,ln_62,ln_4332,ln_3c75383e,ln_3c27612c20542c205f3e]; (repeat' split) <;> omega)); intro _ _))
  k_with "my ite" => (first | ((with_reducible refine' ite_int_one ?zqhc ?_); (case zqhc => first | with_reducible assumption | decide)) | ((with_reducible refine' ite_int_two ?_ ?_) <;> intro hk9))
  k_with "my ite" => (first | ((refine' PySem.W.ite_pos ?zqhc ?_); (case zqhc => (first | (k_dflt (exact (show _ = true from rfl))) | with_reducible assumption))) | ((refine' PySem.W.ite_neg ?zqhc ?_); (case zqhc => (first | (k_dflt (exact fun hb9 => absurd (show false = true from hb9) Bool.false_ne_true)) | exact fun hb9 => absurd (hb9.symm.trans (by with_reducible assumption)) (by decide)))))
  k_with "my storeName" => ((k_here; (with_reducible show wpAny _ _ (storeName _ _ _) _ _ _); k_dflt (refine' storeU ?zqhe ?zqF ?zqN ?zqhk ?zqhx ?_; (case zqhe => exact rfl); (case zqF => k_asm); (case zqN => k_asm); (case zqhk => rfl); (case zqhx => rfl)); intro h' M' F' N'; (try dsimp only); (try k_sweep)))
  k_with "my execs cons Assign cons" => ((k_here; (with_reducible show wpAny _ _ (execs (Stmt.Assign [Expr.Name _ _] _ _ :: _) _) _ _ _); k_dflt (refine' pure_assignE ?zqhe ?zqhpl ?zqF ?zqN ?zqhk ?zqh ?zqhn ?zqhx ?zqsw ?_; (case zqhpl => exact rfl); (case zqhe => exact rfl); (case zqF => k_asm); (case zqhk => rfl); (case zqh => exact rfl); (case zqhn => first | exact Nat.zero_le _ | k_extra "my size9" | (simp only [PySem.Str.length_append, PySem.sizeLine_eq, ln_e,ln_28,ln_29,ln_2c20,ln_2c,ln_2c29,ln_3c,ln_3e,ln_3a3a,ln_26,ln_6d757420,ln_72656620,ln_204020,ln_2e2e3d,ln_207b20,ln_207d,ln_7d,ln_2e2e,ln_3a20,ln_207c20,ln_5f,ln_21,ln_2761,ln_54,ln_7538,ln_78,ln_79,ln_6e,ln_6d,ln_74727565,ln_66616c7365,ln_37,ln_2d31,ln_2d33,ln_39,ln_31,ln_32,ln_73656c66,ln_53656c66,ln_7375706572,ln_6372617465,ln_41,ln_62,ln_4332,ln_3c75383e,ln_3c27612c20542c205f3e]; omega) | (simp only [lenIf, PySem.Str.length_append, PySem.sizeLine_eq, ln_e,ln_28,ln_29,ln_2c20,ln_2c,ln_2c29,ln_3c,ln_3e,ln_3a3a,ln_26,ln_6d757420,ln_72656620,ln_204020,ln_2e2e3d,ln_207b20,ln_207d,ln_7d,ln_2e2e,ln_3a20,ln_207c20,ln_5f,ln_21,ln_2761,ln_54,ln_7538,ln_78,ln_79,ln_6e,ln_6d,ln_74727565,ln_66616c7365,ln_37,ln_2d31,ln_2d33,ln_39,ln_31,ln_32,ln_73656c66,ln_53656c66,ln_7375706572,ln_6372617465,ln_41,ln_62,ln_4332,ln_3c75383e,ln_3c27612c20542c205f3e]; (repeat' split) <;> omega)); (case zqN => k_asm); (case zqhx => rfl); (case zqsw => rfl)); (try dsimp -zeta only [PV.at]); intro t9 h9 tk9 M9 F9 N9))
  k_with "my execs cons If" => ((k_here; (with_reducible show wpAny _ _ (execs (Stmt.If _ _ [] _ :: _) _) _ _ _); k_dflt (refine' pure_ifE ?zqhe ?zqhpl ?zqF ?zqhk ?zqhp ?zqh ?zqhn ?zqhc ?_; (case zqhpl => exact rfl); (case zqhe => exact rfl); (case zqF => k_asm); (case zqhk => rfl); (case zqh => exact rfl); (case zqhn => first | exact Nat.zero_le _ | k_extra "my size9" | (simp only [PySem.Str.length_append, PySem.sizeLine_eq, ln_e,ln_28,ln_29,ln_2c20,ln_2c,ln_2c29,ln_3c,ln_3e,ln_3a3a,ln_26,ln_6d757420,ln_72656620,ln_204020,ln_2e2e3d,ln_207b20,ln_207d,ln_7d,ln_2e2e,ln_3a20,ln_207c20,ln_5f,ln_21,ln_2761,ln_54,ln_7538,ln_78,ln_79,ln_6e,ln_6d,ln_74727565,ln_66616c7365,ln_37,ln_2d31,ln_2d33,ln_39,ln_31,ln_32,ln_73656c66,ln_53656c66,ln_7375706572,ln_6372617465,ln_41,ln_62,ln_4332,ln_3c75383e,ln_3c27612c20542c205f3e]; omega) | (simp only [lenIf, PySem.Str.length_append, PySem.sizeLine_eq, ln_e,ln_28,ln_29,ln_2c20,ln_2c,ln_2c29,ln_3c,ln_3e,ln_3a3a,ln_26,ln_6d757420,ln_72656620,ln_204020,ln_2e2e3d,ln_207b20,ln_207d,ln_7d,ln_2e2e,ln_3a20,ln_207c20,ln_5f,ln_21,ln_2761,ln_54,ln_7538,ln_78,ln_79,ln_6e,ln_6d,ln_74727565,ln_66616c7365,ln_37,ln_2d31,ln_2d33,ln_39,ln_31,ln_32,ln_73656c66,ln_53656c66,ln_7375706572,ln_6372617465,ln_41,ln_62,ln_4332,ln_3c75383e,ln_3c27612c20542c205f3e]; (repeat' split) <;> omega)); (case zqhp => rfl); (case zqhc => exact rfl)); intro tk9; (try dsimp only)))
  k_with "my eval BinOp" => ((k_here; (with_reducible show wpAny _ _ (eval (Expr.BinOp _ _ _ _) _) _ _ _); k_dflt (refine' pure_evalE ?zqhe ?zqhpl ?zqF ?zqhk ?zqh ?zqhn ?_; (case zqhpl => exact rfl); (case zqhe => exact rfl); (case zqF => k_asm); (case zqhk => rfl); (case zqh => exact rfl); (case zqhn => first | exact Nat.zero_le _ | k_extra "my size9" | (simp only [PySem.Str.length_append, PySem.sizeLine_eq, ln_e,ln_28,ln_29,ln_2c20,ln_2c,ln_2c29,ln_3c,ln_3e,ln_3a3a,ln_26,ln_6d757420,ln_72656620,ln_204020,ln_2e2e3d,ln_207b20,ln_207d,ln_7d,ln_2e2e,ln_3a20,ln_207c20,ln_5f,ln_21,ln_2761,ln_54,ln_7538,ln_78,ln_79,ln_6e,ln_6d,ln_74727565,ln_66616c7365,ln_37,ln_2d31,ln_2d33,ln_39,ln_31,ln_32,ln_73656c66,ln_53656c66,ln_7375706572,ln_6372617465,ln_41,ln_62,ln_4332,ln_3c75383e,ln_3c27612c20542c205f3e]; omega) | (simp only [lenIf, PySem.Str.length_append, PySem.sizeLine_eq, ln_e,ln_28,ln_29,ln_2c20,ln_2c,ln_2c29,ln_3c,ln_3e,ln_3a3a,ln_26,ln_6d757420,ln_72656620,ln_204020,ln_2e2e3d,ln_207b20,ln_207d,ln_7d,ln_2e2e,ln_3a20,ln_207c20,ln_5f,ln_21,ln_2761,ln_54,ln_7538,ln_78,ln_79,ln_6e,ln_6d,ln_74727565,ln_66616c7365,ln_37,ln_2d31,ln_2d33,ln_39,ln_31,ln_32,ln_73656c66,ln_53656c66,ln_7375706572,ln_6372617465,ln_41,ln_62,ln_4332,ln_3c75383e,ln_3c27612c20542c205f3e]; (repeat' split) <;> omega))); intro t9 tk9; (try dsimp only [PV.at])))
  k_with "my eval BinOp" => ((k_here; (with_reducible show wpAny _ _ (eval (Expr.BinOp (Expr.Constant _ _ _) Operator.Mult (Expr.Call (Expr.Name _ _) [Expr.Name _ _] [] _) _) _) _ _ _); k_dflt (refine' mul_intE ?zqhe ?zqF ?zqX ?zqT ?zqhI ?zqhx ?zqhk ?zqhi ?zqhxl ?zqhl ?_; (case zqhe => exact rfl); (case zqF => k_asm); (case zqX => k_asm); (case zqT => k_asm); (case zqhI => k_is); (case zqhx => rfl); (case zqhk => rfl); (case zqhi => rfl); (case zqhxl => rfl); (case zqhl => decide +kernel)); intro t9 tk9; (try dsimp only)))
  k_with "my eval Compare" => ((k_here; (with_reducible show wpAny _ _ (eval (Expr.Compare _ _ _ _) _) _ _ _); k_dflt (refine' pure_evalE ?zqhe ?zqhpl ?zqF ?zqhk ?zqh ?zqhn ?_; (case zqhpl => exact rfl); (case zqhe => exact rfl); (case zqF => k_asm); (case zqhk => rfl); (case zqh => exact rfl); (case zqhn => first | exact Nat.zero_le _ | k_extra "my size9" | (simp only [PySem.Str.length_append, PySem.sizeLine_eq, ln_e,ln_28,ln_29,ln_2c20,ln_2c,ln_2c29,ln_3c,ln_3e,ln_3a3a,ln_26,ln_6d757420,ln_72656620,ln_204020,ln_2e2e3d,ln_207b20,ln_207d,ln_7d,ln_2e2e,ln_3a20,ln_207c20,ln_5f,ln_21,ln_2761,ln_54,ln_7538,ln_78,ln_79,ln_6e,ln_6d,ln_74727565,ln_66616c7365,ln_37,ln_2d31,ln_2d33,ln_39,ln_31,ln_32,ln_73656c66,ln_53656c66,ln_7375706572,ln_6372617465,ln_41,ln_62,ln_4332,ln_3c75383e,ln_3c27612c20542c205f3e]; omega) | (simp only [lenIf, PySem.Str.length_append, PySem.sizeLine_eq, ln_e,ln_28,ln_29,ln_2c20,ln_2c,ln_2c29,ln_3c,ln_3e,ln_3a3a,ln_26,ln_6d757420,ln_72656620,ln_204020,ln_2e2e3d,ln_207b20,ln_207d,ln_7d,ln_2e2e,ln_3a20,ln_207c20,ln_5f,ln_21,ln_2761,ln_54,ln_7538,ln_78,ln_79,ln_6e,ln_6d,ln_74727565,ln_66616c7365,ln_37,ln_2d31,ln_2d33,ln_39,ln_31,ln_32,ln_73656c66,ln_53656c66,ln_7375706572,ln_6372617465,ln_41,ln_62,ln_4332,ln_3c75383e,ln_3c27612c20542c205f3e]; (repeat' split) <;> omega))); intro t9 tk9; (try dsimp only [PV.at])))
  k_with "my eval IfExp" => ((k_here; (with_reducible show wpAny _ _ (eval (Expr.IfExp _ _ _ _) _) _ _ _); k_dflt (refine' pure_evalE ?zqhe ?zqhpl ?zqF ?zqhk ?zqh ?zqhn ?_; (case zqhpl => exact rfl); (case zqhe => exact rfl); (case zqF => k_asm); (case zqhk => rfl); (case zqh => exact rfl); (case zqhn => first | exact Nat.zero_le _ | k_extra "my size9" | (simp only [PySem.Str.length_append, PySem.sizeLine_eq, ln_e,ln_28,ln_29,ln_2c20,ln_2c,ln_2c29,ln_3c,ln_3e,ln_3a3a,ln_26,ln_6d757420,ln_72656620,ln_204020,ln_2e2e3d,ln_207b20,ln_207d,ln_7d,ln_2e2e,ln_3a20,ln_207c20,ln_5f,ln_21,ln_2761,ln_54,ln_7538,ln_78,ln_79,ln_6e,ln_6d,ln_74727565,ln_66616c7365,ln_37,ln_2d31,ln_2d33,ln_39,ln_31,ln_32,ln_73656c66,ln_53656c66,ln_7375706572,ln_6372617465,ln_41,ln_62,ln_4332,ln_3c75383e,ln_3c27612c20542c205f3e]; omega) | (simp only [lenIf, PySem.Str.length_append, PySem.sizeLine_eq, ln_e,ln_28,ln_29,ln_2c20,ln_2c,ln_2c29,ln_3c,ln_3e,ln_3a3a,ln_26,ln_6d757420,ln_72656620,ln_204020,ln_2e2e3d,ln_207b20,ln_207d,ln_7d,ln_2e2e,ln_3a20,ln_207c20,ln_5f,ln_21,ln_2761,ln_54,ln_7538,ln_78,ln_79,ln_6e,ln_6d,ln_74727565,ln_66616c7365,ln_37,ln_2d31,ln_2d33,ln_39,ln_31,ln_32,ln_73656c66,ln_53656c66,ln_7375706572,ln_6372617465,ln_41,ln_62,ln_4332,ln_3c75383e,ln_3c27612c20542c205f3e]; (repeat' split) <;> omega))); intro t9 tk9; (try dsimp only [PV.at])))
  k_with "my isTrue Compare" => ((k_here; (with_reducible show wpAny _ _ (PySem.isTrue (Expr.Compare _ _ _ _) _ _) _ _ _); k_dflt (refine' pure_testE ?zqhe ?zqhpl ?zqF ?zqhk ?zqhp ?zqh ?zqhc ?zqhn ?_; (case zqhpl => exact rfl); (case zqhe => exact rfl); (case zqF => k_asm); (case zqhk => rfl); (case zqh => exact rfl); (case zqhn => first | exact Nat.zero_le _ | k_extra "my size9" | (simp only [PySem.Str.length_append, PySem.sizeLine_eq, ln_e,ln_28,ln_29,ln_2c20,ln_2c,ln_2c29,ln_3c,ln_3e,ln_3a3a,ln_26,ln_6d757420,ln_72656620,ln_204020,ln_2e2e3d,ln_207b20,ln_207d,ln_7d,ln_2e2e,ln_3a20,ln_207c20,ln_5f,ln_21,ln_2761,ln_54,ln_7538,ln_78,ln_79,ln_6e,ln_6d,ln_74727565,ln_66616c7365,ln_37,ln_2d31,ln_2d33,ln_39,ln_31,ln_32,ln_73656c66,ln_53656c66,ln_7375706572,ln_6372617465,ln_41,ln_62,ln_4332,ln_3c75383e,ln_3c27612c20542c205f3e]; omega) | (simp only [lenIf, PySem.Str.length_append, PySem.sizeLine_eq, ln_e,ln_28,ln_29,ln_2c20,ln_2c,ln_2c29,ln_3c,ln_3e,ln_3a3a,ln_26,ln_6d757420,ln_72656620,ln_204020,ln_2e2e3d,ln_207b20,ln_207d,ln_7d,ln_2e2e,ln_3a20,ln_207c20,ln_5f,ln_21,ln_2761,ln_54,ln_7538,ln_78,ln_79,ln_6e,ln_6d,ln_74727565,ln_66616c7365,ln_37,ln_2d31,ln_2d33,ln_39,ln_31,ln_32,ln_73656c66,ln_53656c66,ln_7375706572,ln_6372617465,ln_41,ln_62,ln_4332,ln_3c75383e,ln_3c27612c20542c205f3e]; (repeat' split) <;> omega)); (case zqhp => rfl); (case zqhc => exact rfl)); intro tk9; (try dsimp only)))
  k_with "my eval Tuple" => ((k_here; (with_reducible show wpAny _ _ (eval (Expr.Tuple _ _ _) _) _ _ _); k_dflt (refine' pure_tupleE ?zqhe ?zqhpl ?zqF ?zqN ?zqhk ?zqh ?zqhn ?zqhz ?_; (case zqhpl => exact rfl); (case zqhe => exact rfl); (case zqF => k_asm); (case zqhk => rfl); (case zqh => exact rfl); (case zqhn => first | exact Nat.zero_le _ | k_extra "my size9" | (simp only [PySem.Str.length_append, PySem.sizeLine_eq, ln_e,ln_28,ln_29,ln_2c20,ln_2c,ln_2c29,ln_3c,ln_3e,ln_3a3a,ln_26,ln_6d757420,ln_72656620,ln_204020,ln_2e2e3d,ln_207b20,ln_207d,ln_7d,ln_2e2e,ln_3a20,ln_207c20,ln_5f,ln_21,ln_2761,ln_54,ln_7538,ln_78,ln_79,ln_6e,ln_6d,ln_74727565,ln_66616c7365,ln_37,ln_2d31,ln_2d33,ln_39,ln_31,ln_32,ln_73656c66,ln_53656c66,ln_7375706572,ln_6372617465,ln_41,ln_62,ln_4332,ln_3c75383e,ln_3c27612c20542c205f3e]; omega) | (simp only [lenIf, PySem.Str.length_append, PySem.sizeLine_eq, ln_e,ln_28,ln_29,ln_2c20,ln_2c,ln_2c29,ln_3c,ln_3e,ln_3a3a,ln_26,ln_6d757420,ln_72656620,ln_204020,ln_2e2e3d,ln_207b20,ln_207d,ln_7d,ln_2e2e,ln_3a20,ln_207c20,ln_5f,ln_21,ln_2761,ln_54,ln_7538,ln_78,ln_79,ln_6e,ln_6d,ln_74727565,ln_66616c7365,ln_37,ln_2d31,ln_2d33,ln_39,ln_31,ln_32,ln_73656c66,ln_53656c66,ln_7375706572,ln_6372617465,ln_41,ln_62,ln_4332,ln_3c75383e,ln_3c27612c20542c205f3e]; (repeat' split) <;> omega)); (case zqN => k_asm); (case zqhz => exact Nat.le_of_ble_eq_true rfl)); intro tk9; (try dsimp only [AllAt]); intros; (rename_i D' h' F' N' l1); (try k_lt l1); (try k_sweep)))
  k_with "my spliced" => ((k_here; (with_reducible show wpAny _ _ (spliced (backTo _ (starEach (_ :: _) _))) _ _ _); k_dflt (refine' pure_argsE ?zqhe ?zqhpl ?zqhk ?zqF ?zqh ?zqhn ?_; (case zqhpl => exact rfl); (case zqhe => exact rfl); (case zqF => k_asm); (case zqhk => rfl); (case zqh => exact rfl); (case zqhn => first | exact Nat.zero_le _ | k_extra "my size9" | (simp only [PySem.Str.length_append, PySem.sizeLine_eq, ln_e,ln_28,ln_29,ln_2c20,ln_2c,ln_2c29,ln_3c,ln_3e,ln_3a3a,ln_26,ln_6d757420,ln_72656620,ln_204020,ln_2e2e3d,ln_207b20,ln_207d,ln_7d,ln_2e2e,ln_3a20,ln_207c20,ln_5f,ln_21,ln_2761,ln_54,ln_7538,ln_78,ln_79,ln_6e,ln_6d,ln_74727565,ln_66616c7365,ln_37,ln_2d31,ln_2d33,ln_39,ln_31,ln_32,ln_73656c66,ln_53656c66,ln_7375706572,ln_6372617465,ln_41,ln_62,ln_4332,ln_3c75383e,ln_3c27612c20542c205f3e]; omega) | (simp only [lenIf, PySem.Str.length_append, PySem.sizeLine_eq, ln_e,ln_28,ln_29,ln_2c20,ln_2c,ln_2c29,ln_3c,ln_3e,ln_3a3a,ln_26,ln_6d757420,ln_72656620,ln_204020,ln_2e2e3d,ln_207b20,ln_207d,ln_7d,ln_2e2e,ln_3a20,ln_207c20,ln_5f,ln_21,ln_2761,ln_54,ln_7538,ln_78,ln_79,ln_6e,ln_6d,ln_74727565,ln_66616c7365,ln_37,ln_2d31,ln_2d33,ln_39,ln_31,ln_32,ln_73656c66,ln_53656c66,ln_7375706572,ln_6372617465,ln_41,ln_62,ln_4332,ln_3c75383e,ln_3c27612c20542c205f3e]; (repeat' split) <;> omega))); intro tk9; (try dsimp only [AllAt, List.cons_append, List.nil_append]); intros; (try dsimp only [List.cons_append, List.nil_append])))
  k_with "my eval Name" => ((k_here; (with_reducible show wpAny _ _ (eval (Expr.Name _ _) (envOf _ _ _ _ _)) _ _ _); k_dflt (first | (refine' nameX_L ?zqF ?zqv ?_ ?zqa ?zqb; (case zqF => k_asm); (case zqa => rfl); (case zqb => rfl); (case zqv => rfl); k_whole) | (refine' nameX_K ?zqF ?zqX ?zqT ?zqe ?_ ?zqa ?zqb; (case zqF => k_asm); (case zqX => k_asm); (case zqT => k_asm); (case zqa => rfl); (case zqb => rfl); (case zqe => k_is); k_whole))))
  k_with "my subscriptTail" => ((k_here; (with_reducible show wpAny _ _ (subscriptTail _ _ (Value.ref _) (Value.int _ _)) _ _ _); k_dflt (refine' item_tupleT ?zqt ?zqa ?zqb ?zqc ?zqd ?_; (case zqt => exact istup_mono (Fr.keep (by with_reducible assumption)) (by with_reducible assumption)); (case zqa => decide); (case zqb => decide); (case zqc => rfl); (case zqd => rfl))))
  k_with "my exec For Tuple Name cons nil" => ((k_here; (rename Fr _ _ _ _ => lF'); (with_unfolding_all refine' For_turns lF' ?_)))
  k_with "my pyIter ref" => ((k_here; (with_reducible show wpAny _ _ (pyIter (Value.ref _)) (fun it s₂ => TurnsAt _ _ _ _ _ _ _ _ _ it s₂) _ _); (with_unfolding_all refine' iter_tupB ?zqh ?zqF ?zqN ?zqT ?zqz ?_; (case zqh => with_unfolding_all rfl); (case zqF => k_asm); (case zqN => k_asm); (case zqT => k_asm); (case zqz => exact Nat.le_of_ble_eq_true rfl)); intro i' l1; (try k_lt l1); (try dsimp only [List.map_cons, List.map_nil])))
  k_with "my ItemsRest" => (first | ((refine restV (fun h' tk' F' => ?_)); (refine AllObj.cons (fun o' hc' => ?_)); (try dsimp only at hc'); (refine AllObj.nil (fun N' => ?_)); (try simp only [List.cons_append, List.nil_append] at N')) | (refine rest0 (fun h' tk' F' N' => ?_)))
  k_with "my assign Tuple" => ((k_here; (with_reducible show wpAny _ _ (assign (Expr.Tuple _ _ _) _ (Value.ref _)) _ _ _); k_dflt (refine' unpackN_ ?zqF ?zqN ?zqT ?zqk1 ?zqk2 ?zqk3 ?_; (case zqF => k_asm); (case zqN => k_asm); (case zqT => exact istup_mono (Fr.keep (by with_reducible assumption)) (by with_reducible assumption)); (case zqk1 => exact rfl); (case zqk2 => exact rfl); (case zqk3 => exact rfl)); intro h' F' N'; (try k_sweep)))
  k_with "my call type:list" => ((k_here; (with_reducible show wpAny _ _ (call (Value.type _) [Value.ref _]) _ _ _); k_dflt (refine' list_copyKT ?zqF ?zqN ?zqT ?_ ?zqz; (case zqF => k_asm); (case zqN => k_asm); (case zqT => exact istup_mono (Fr.keep (by with_reducible assumption)) (by with_reducible assumption)); (case zqz => exact Nat.le_of_ble_eq_true rfl)); intro D' c' h' F' N' l1; (try k_lt l1); (try k_sweep)))
  k_with "my eval ListComp" => ((k_here; k_dflt (refine ListComp_T (by k_asm) (by rfl) (by decide) (by rfl) (by decide) (by rfl) ?_)))
  k_with "my SrcT" => ((k_here; k_dflt (first | (refine SrcT.zero (by rfl) (by k_asm) (by k_asm) (by exact istup_mono (Fr.keep (by with_reducible assumption)) (by with_reducible assumption)) ?_) | (refine SrcT.one (by rfl) (by k_asm) (by k_asm) (by exact istup_mono (Fr.keep (by with_reducible assumption)) (by with_reducible assumption)) (by assumption) ?_ ?_) | (refine SrcT.two (by rfl) (by k_asm) (by k_asm) (by exact istup_mono (Fr.keep (by with_reducible assumption)) (by with_reducible assumption)) (by assumption) ?_ ?_ ?_))))
  k_with "my TurnG" => ((unfold TurnG; intro C' oC' m' h' tk' E' hC' hx' F' N' l1 g'; (try k_lt l1); (try dsimp only); (try k_unmd); (try k_fold)))
  k_with "my call builtin:list.append" => ((k_here; (with_reducible show wpAny _ _ (call (Value.builtin _) [Value.ref _, _]) _ _ _); k_dflt (refine' append_K ?zqk1 ?zqk2 ?zqk3 ?_ ?zqz; (case zqk1 => k_asm); (case zqk2 => k_asm); (case zqk3 => k_upd); (case zqz => exact Nat.le_of_ble_eq_true rfl); k_whole); intro h' F' N'; (try simp only [psh0, psh1, psh2] at N'); (try k_sweep)))
  k_with "my GrowEnd" => ((first | exact GrowEnd.intro ⟨_, rfl⟩ (by with_reducible assumption) | exact GrowEnd.intro ⟨_, rfl⟩ (fun _ _ e => e)))
  k_with "my FinG" => ((unfold FinG; (simp only [AllToks]); intros; rename_i D' h' tk' F' N' l1; (try dsimp only [LCg.lst] at N'); (try k_lt l1); (try dsimp only); (try k_sweep)))
  k_with "my subscriptTail" => ((k_here; (with_reducible show wpAny _ _ (subscriptTail _ _ (Value.ref _) (Value.int 0 _)) _ _ _); (refine item0 (istup_mono (Fr.keep (by with_reducible assumption)) (by with_reducible assumption)) ?_)))
  k_with "my compareOp NotEq ref ref" => (((with_reducible show wpAny _ _ (compareOp CmpOp.NotEq (Value.ref _) (Value.ref _)) _ _ _); first | refine ne_lists (by is_list) (by is_list) (by rfl) (by units_room) ?_ | refine ne_empty (by is_list) (by is_list) (by units_room) ?_))
  k_with "my call ref" => ((k_here; (with_reducible show wpAny _ _ (call (Value.ref 63) _) _ _ _); k_dflt (first | (refine' wuse (lit_true _) ?zqB ?zqF ?zqX ?zqN ?zqT ?zqhk ?zqhd ?zqhu ?zqhp ?_; (case zqhp => trivial); (case zqB => k_asm); (case zqF => k_asm); (case zqX => k_asm); (case zqN => k_asm); (case zqT => k_asm); (case zqhk => first | exact rfl | assumption); (case zqhd => k_extra "my room9"); (case zqhu => k_extra "my units9"); intro t9 h9 tk9 g9 F9 N9; (try dsimp only); (try dsimp only at g9); (try k_sweep)) | (refine' wuse (lit_false _) ?zqB ?zqF ?zqX ?zqN ?zqT ?zqhk ?zqhd ?zqhu ?zqhp ?_; (case zqhp => trivial); (case zqB => k_asm); (case zqF => k_asm); (case zqX => k_asm); (case zqN => k_asm); (case zqT => k_asm); (case zqhk => first | exact rfl | assumption); (case zqhd => k_extra "my room9"); (case zqhu => k_extra "my units9"); intro t9 h9 tk9 g9 F9 N9; (try dsimp only); (try dsimp only at g9); (try k_sweep)) | (refine' wuse (lit_7 _ _) ?zqB ?zqF ?zqX ?zqN ?zqT ?zqhk ?zqhd ?zqhu ?zqhp ?_; (case zqhp => trivial); (case zqB => k_asm); (case zqF => k_asm); (case zqX => k_asm); (case zqN => k_asm); (case zqT => k_asm); (case zqhk => first | exact rfl | assumption); (case zqhd => k_extra "my room9"); (case zqhu => k_extra "my units9"); intro t9 h9 tk9 g9 F9 N9; (try dsimp only); (try dsimp only at g9); (try k_sweep)) | (refine' wuse (lit_m1 _ _) ?zqB ?zqF ?zqX ?zqN ?zqT ?zqhk ?zqhd ?zqhu ?zqhp ?_; (case zqhp => trivial); (case zqB => k_asm); (case zqF => k_asm); (case zqX => k_asm); (case zqN => k_asm); (case zqT => k_asm); (case zqhk => first | exact rfl | assumption); (case zqhd => k_extra "my room9"); (case zqhu => k_extra "my units9"); intro t9 h9 tk9 g9 F9 N9; (try dsimp only); (try dsimp only at g9); (try k_sweep)))))
  k_with "my call ref" => ((k_here; (with_reducible show wpAny _ _ (call (Value.ref 49) _) _ _ _); k_dflt (first | (refine' wuse (PS.at ?zqhS _) ?zqB ?zqF ?zqX ?zqN ?zqT ?zqhk ?zqhd ?zqhu ?zqhp ?_; (case zqhp => exact PatAt.mono (Fr.keep (by with_reducible assumption)) (by with_reducible assumption)); (case zqhS => assumption); (case zqB => k_asm); (case zqF => k_asm); (case zqX => k_asm); (case zqN => k_asm); (case zqT => k_asm); (case zqhk => first | exact rfl | assumption); (case zqhd => k_extra "my room9"); (case zqhu => k_extra "my units9"); intro t9 h9 tk9 g9 F9 N9; (try dsimp only); (try dsimp only at g9); (try k_sweep)))))
  k_with "my call ref" => ((k_here; (with_reducible show wpAny _ _ (call (Value.ref 44) _) _ _ _); k_dflt (first | (refine' wuse (QS.at ?zqhS _) ?zqB ?zqF ?zqX ?zqN ?zqT ?zqhk ?zqhd ?zqhu ?zqhp ?_; (case zqhp => exact PatAt.mono (Fr.keep (by with_reducible assumption)) (by with_reducible assumption)); (case zqhS => assumption); (case zqB => k_asm); (case zqF => k_asm); (case zqX => k_asm); (case zqN => k_asm); (case zqT => k_asm); (case zqhk => first | exact rfl | assumption); (case zqhd => k_extra "my room9"); (case zqhu => k_extra "my units9"); intro t9 h9 tk9 g9 F9 N9; (try dsimp only); (try dsimp only at g9); (try k_sweep)))))
  k_with "my call ref" => ((k_here; (with_reducible show wpAny _ _ (call (Value.ref 68) _) _ _ _); k_dflt (first | (refine' wuse (VS.at ?zqhS _) ?zqB ?zqF ?zqX ?zqN ?zqT ?zqhk ?zqhd ?zqhu ?zqhp ?_; (case zqhp => exact PatAt.mono (Fr.keep (by with_reducible assumption)) (by with_reducible assumption)); (case zqhS => assumption); (case zqB => k_asm); (case zqF => k_asm); (case zqX => k_asm); (case zqN => k_asm); (case zqT => k_asm); (case zqhk => first | exact rfl | assumption); (case zqhd => k_extra "my room9"); (case zqhu => k_extra "my units9"); intro t9 h9 tk9 g9 F9 N9; (try dsimp only); (try dsimp only at g9); (try k_sweep)))))
  k_with "my call ref" => ((k_here; (with_reducible show wpAny _ _ (call (Value.ref 80) _) _ _ _); k_dflt (first | (refine' wuse (DS.at ?zqhS _) ?zqB ?zqF ?zqX ?zqN ?zqT ?zqhk ?zqhd ?zqhu ?zqhp ?_; (case zqhp => exact PatAt.mono (Fr.keep (by with_reducible assumption)) (by with_reducible assumption)); (case zqhS => assumption); (case zqB => k_asm); (case zqF => k_asm); (case zqX => k_asm); (case zqN => k_asm); (case zqT => k_asm); (case zqhk => first | exact rfl | assumption); (case zqhd => k_extra "my room9"); (case zqhu => k_extra "my units9"); intro t9 h9 tk9 g9 F9 N9; (try dsimp only); (try dsimp only at g9); (try k_sweep)))))
  k_with "my call ref" => ((k_here; (with_reducible show wpAny _ _ (call (Value.ref 56) _) _ _ _); k_dflt (first | (refine' wuse (RS.at ?zqhS _ _ _ _ _) ?zqB ?zqF ?zqX ?zqN ?zqT ?zqhk ?zqhd ?zqhu ?zqhp ?_; (case zqhp => exact ⟨istup_mono (Fr.keep (by with_reducible assumption)) (by with_reducible assumption), PatAt.mono (Fr.keep (by with_reducible assumption)) (by with_reducible assumption)⟩); (case zqhS => assumption); (case zqB => k_asm); (case zqF => k_asm); (case zqX => k_asm); (case zqN => k_asm); (case zqT => k_asm); (case zqhk => first | exact rfl | assumption); (case zqhd => k_extra "my room9"); (case zqhu => k_extra "my units9"); intro t9 h9 tk9 g9 F9 N9; (try dsimp only); (try dsimp only at g9); (try k_sweep)))))
  k_with "my call ref" => ((k_here; (with_reducible show wpAny _ _ (call (Value.ref 39) _) _ _ _); k_dflt (first | (refine' wuse (row1 _ _ _ _ ?zqb0) ?zqB ?zqF ?zqX ?zqN ?zqT ?zqhk ?zqhd ?zqhu ?zqhp ?_; (case zqhp => is_list); (case zqb0 => first | k_extra "my size9" | omega | (simp only [PySem.Str.length_append, PySem.sizeLine_eq, ln_e,ln_28,ln_29,ln_2c20,ln_2c,ln_2c29,ln_3c,ln_3e,ln_3a3a,ln_26,ln_6d757420,ln_72656620,ln_204020,ln_2e2e3d,ln_207b20,ln_207d,ln_7d,ln_2e2e,ln_3a20,ln_207c20,ln_5f,ln_21,ln_2761,ln_54,ln_7538,ln_78,ln_79,ln_6e,ln_6d,ln_74727565,ln_66616c7365,ln_37,ln_2d31,ln_2d33,ln_39,ln_31,ln_32,ln_73656c66,ln_53656c66,ln_7375706572,ln_6372617465,ln_41,ln_62,ln_4332,ln_3c75383e,ln_3c27612c20542c205f3e]; omega)); (case zqB => k_asm); (case zqF => k_asm); (case zqX => k_asm); (case zqN => k_asm); (case zqT => k_asm); (case zqhk => first | exact rfl | assumption); (case zqhd => k_extra "my room9"); (case zqhu => k_extra "my units9"); intro t9 h9 tk9 g9 F9 N9; (try dsimp only); (try dsimp only at g9); (try k_sweep)) | (refine' wuse (row2 _ _ _ _ _ _ ?zqb0 ?zqb1) ?zqB ?zqF ?zqX ?zqN ?zqT ?zqhk ?zqhd ?zqhu ?zqhp ?_; (case zqhp => is_list); (case zqb0 => first | k_extra "my size9" | omega | (simp only [PySem.Str.length_append, PySem.sizeLine_eq, ln_e,ln_28,ln_29,ln_2c20,ln_2c,ln_2c29,ln_3c,ln_3e,ln_3a3a,ln_26,ln_6d757420,ln_72656620,ln_204020,ln_2e2e3d,ln_207b20,ln_207d,ln_7d,ln_2e2e,ln_3a20,ln_207c20,ln_5f,ln_21,ln_2761,ln_54,ln_7538,ln_78,ln_79,ln_6e,ln_6d,ln_74727565,ln_66616c7365,ln_37,ln_2d31,ln_2d33,ln_39,ln_31,ln_32,ln_73656c66,ln_53656c66,ln_7375706572,ln_6372617465,ln_41,ln_62,ln_4332,ln_3c75383e,ln_3c27612c20542c205f3e]; omega)); (case zqb1 => first | k_extra "my size9" | omega | (simp only [PySem.Str.length_append, PySem.sizeLine_eq, ln_e,ln_28,ln_29,ln_2c20,ln_2c,ln_2c29,ln_3c,ln_3e,ln_3a3a,ln_26,ln_6d757420,ln_72656620,ln_204020,ln_2e2e3d,ln_207b20,ln_207d,ln_7d,ln_2e2e,ln_3a20,ln_207c20,ln_5f,ln_21,ln_2761,ln_54,ln_7538,ln_78,ln_79,ln_6e,ln_6d,ln_74727565,ln_66616c7365,ln_37,ln_2d31,ln_2d33,ln_39,ln_31,ln_32,ln_73656c66,ln_53656c66,ln_7375706572,ln_6372617465,ln_41,ln_62,ln_4332,ln_3c75383e,ln_3c27612c20542c205f3e]; omega)); (case zqB => k_asm); (case zqF => k_asm); (case zqX => k_asm); (case zqN => k_asm); (case zqT => k_asm); (case zqhk => first | exact rfl | assumption); (case zqhd => k_extra "my room9"); (case zqhu => k_extra "my units9"); intro t9 h9 tk9 g9 F9 N9; (try dsimp only); (try dsimp only at g9); (try k_sweep)))))
  trivial
theorem part_wild (w : World) (pa : Addr) : WSpec w 49 [.ref pa] (fun h => PatAt h pa (.wild)) (fun t => .str ((.wild : Pt).T.1) t) 36 := by
  unfold WSpec
  intro prg loose mean mg mb dp un gd cn cs a ccd cl outer A₀ base h₀ L m s Q E B F X T hk hdp hun hpre hret
  have N : News h₀ L s.heap [] := News.nil
  refine wpAny_call ?_
  k_dflt (refine' code_defG (binds := [(Str.ofString "pattern", .ref pa)]) B F X N T ?kA ?kF ?kK ?k6 ?k7 ?k8 ?k9 ?kB ?_ ?c2 ?c3 ?c4 ?c5; (case kA => exact rfl); (case kF => exact rfl); (case kK => exact hk); (case k6 => k_is); (case k7 => k_is); (case k8 => k_extra "my room9"); (case k9 => first | exact BindsTo.of_eq rfl | exact binds_K (by k_in) rfl (by k_is) rfl rfl rfl); (case c5 => decide); (case kB => exact locs rfl); (case c2 => exact rfl); (case c3 => exact rfl); (case c4 => exact rfl))
  intro g' L' h' FG' F' N' B' X' T' kG'
  (try dsimp only); k_fold
  have hg := gsub_all kG'
  replace hpre := hpre.mono hg
  refine hpre.elim _ ?_
  intros
  clear hpre
  k_steps
  all_goals first | exact wretS hret hg (by assumption) (by simp only [heldT, pT_wild, pT_litT, pT_litF, pT_lit7, pT_litm, pT_rngA, pT_rngB, pT_name, pT_bind, pT_ref, pT_tup1, pT_tup2, pT_var0, pT_var1, pT_var2, pT_fld1, pT_fld2, pT_or2, S, ape, epa, PySem.Str.append_assoc, if_true, if_false, Bool.false_eq_true, ts_m3, ts_9, ts_1, ts_2, rm_x, rng_A, rng_B]) | (w_report)
theorem part_litT (w : World) (pa : Addr) : WSpec w 49 [.ref pa] (fun h => PatAt h pa (.litT)) (fun t => .str ((.litT : Pt).T.1) t) 36 := by
  unfold WSpec
  intro prg loose mean mg mb dp un gd cn cs a ccd cl outer A₀ base h₀ L m s Q E B F X T hk hdp hun hpre hret
  have N : News h₀ L s.heap [] := News.nil
  refine wpAny_call ?_
  k_dflt (refine' code_defG (binds := [(Str.ofString "pattern", .ref pa)]) B F X N T ?kA ?kF ?kK ?k6 ?k7 ?k8 ?k9 ?kB ?_ ?c2 ?c3 ?c4 ?c5; (case kA => exact rfl); (case kF => exact rfl); (case kK => exact hk); (case k6 => k_is); (case k7 => k_is); (case k8 => k_extra "my room9"); (case k9 => first | exact BindsTo.of_eq rfl | exact binds_K (by k_in) rfl (by k_is) rfl rfl rfl); (case c5 => decide); (case kB => exact locs rfl); (case c2 => exact rfl); (case c3 => exact rfl); (case c4 => exact rfl))
  intro g' L' h' FG' F' N' B' X' T' kG'
  (try dsimp only); k_fold
  have hg := gsub_all kG'
  replace hpre := hpre.mono hg
  refine hpre.elim _ ?_
  intros
  clear hpre
  k_steps
  all_goals first | exact wretS hret hg (by assumption) (by simp only [heldT, pT_wild, pT_litT, pT_litF, pT_lit7, pT_litm, pT_rngA, pT_rngB, pT_name, pT_bind, pT_ref, pT_tup1, pT_tup2, pT_var0, pT_var1, pT_var2, pT_fld1, pT_fld2, pT_or2, S, ape, epa, PySem.Str.append_assoc, if_true, if_false, Bool.false_eq_true, ts_m3, ts_9, ts_1, ts_2, rm_x, rng_A, rng_B]) | (w_report)
theorem part_litF (w : World) (pa : Addr) : WSpec w 49 [.ref pa] (fun h => PatAt h pa (.litF)) (fun t => .str ((.litF : Pt).T.1) t) 36 := by
  unfold WSpec
  intro prg loose mean mg mb dp un gd cn cs a ccd cl outer A₀ base h₀ L m s Q E B F X T hk hdp hun hpre hret
  have N : News h₀ L s.heap [] := News.nil
  refine wpAny_call ?_
  k_dflt (refine' code_defG (binds := [(Str.ofString "pattern", .ref pa)]) B F X N T ?kA ?kF ?kK ?k6 ?k7 ?k8 ?k9 ?kB ?_ ?c2 ?c3 ?c4 ?c5; (case kA => exact rfl); (case kF => exact rfl); (case kK => exact hk); (case k6 => k_is); (case k7 => k_is); (case k8 => k_extra "my room9"); (case k9 => first | exact BindsTo.of_eq rfl | exact binds_K (by k_in) rfl (by k_is) rfl rfl rfl); (case c5 => decide); (case kB => exact locs rfl); (case c2 => exact rfl); (case c3 => exact rfl); (case c4 => exact rfl))
  intro g' L' h' FG' F' N' B' X' T' kG'
  (try dsimp only); k_fold
  have hg := gsub_all kG'
  replace hpre := hpre.mono hg
  refine hpre.elim _ ?_
  intros
  clear hpre
  k_steps
  all_goals first | exact wretS hret hg (by assumption) (by simp only [heldT, pT_wild, pT_litT, pT_litF, pT_lit7, pT_litm, pT_rngA, pT_rngB, pT_name, pT_bind, pT_ref, pT_tup1, pT_tup2, pT_var0, pT_var1, pT_var2, pT_fld1, pT_fld2, pT_or2, S, ape, epa, PySem.Str.append_assoc, if_true, if_false, Bool.false_eq_true, ts_m3, ts_9, ts_1, ts_2, rm_x, rng_A, rng_B]) | (w_report)
theorem part_lit7 (w : World) (pa : Addr) : WSpec w 49 [.ref pa] (fun h => PatAt h pa (.lit7)) (fun t => .str ((.lit7 : Pt).T.1) t) 36 := by
  unfold WSpec
  intro prg loose mean mg mb dp un gd cn cs a ccd cl outer A₀ base h₀ L m s Q E B F X T hk hdp hun hpre hret
  have N : News h₀ L s.heap [] := News.nil
  refine wpAny_call ?_
  k_dflt (refine' code_defG (binds := [(Str.ofString "pattern", .ref pa)]) B F X N T ?kA ?kF ?kK ?k6 ?k7 ?k8 ?k9 ?kB ?_ ?c2 ?c3 ?c4 ?c5; (case kA => exact rfl); (case kF => exact rfl); (case kK => exact hk); (case k6 => k_is); (case k7 => k_is); (case k8 => k_extra "my room9"); (case k9 => first | exact BindsTo.of_eq rfl | exact binds_K (by k_in) rfl (by k_is) rfl rfl rfl); (case c5 => decide); (case kB => exact locs rfl); (case c2 => exact rfl); (case c3 => exact rfl); (case c4 => exact rfl))
  intro g' L' h' FG' F' N' B' X' T' kG'
  (try dsimp only); k_fold
  have hg := gsub_all kG'
  replace hpre := hpre.mono hg
  refine hpre.elim _ ?_
  intros
  clear hpre
  k_steps
  all_goals first | exact wretS hret hg (by assumption) (by simp only [heldT, pT_wild, pT_litT, pT_litF, pT_lit7, pT_litm, pT_rngA, pT_rngB, pT_name, pT_bind, pT_ref, pT_tup1, pT_tup2, pT_var0, pT_var1, pT_var2, pT_fld1, pT_fld2, pT_or2, S, ape, epa, PySem.Str.append_assoc, if_true, if_false, Bool.false_eq_true, ts_m3, ts_9, ts_1, ts_2, rm_x, rng_A, rng_B]) | (w_report)
theorem part_litm (w : World) (pa : Addr) : WSpec w 49 [.ref pa] (fun h => PatAt h pa (.litm)) (fun t => .str ((.litm : Pt).T.1) t) 36 := by
  unfold WSpec
  intro prg loose mean mg mb dp un gd cn cs a ccd cl outer A₀ base h₀ L m s Q E B F X T hk hdp hun hpre hret
  have N : News h₀ L s.heap [] := News.nil
  refine wpAny_call ?_
  k_dflt (refine' code_defG (binds := [(Str.ofString "pattern", .ref pa)]) B F X N T ?kA ?kF ?kK ?k6 ?k7 ?k8 ?k9 ?kB ?_ ?c2 ?c3 ?c4 ?c5; (case kA => exact rfl); (case kF => exact rfl); (case kK => exact hk); (case k6 => k_is); (case k7 => k_is); (case k8 => k_extra "my room9"); (case k9 => first | exact BindsTo.of_eq rfl | exact binds_K (by k_in) rfl (by k_is) rfl rfl rfl); (case c5 => decide); (case kB => exact locs rfl); (case c2 => exact rfl); (case c3 => exact rfl); (case c4 => exact rfl))
  intro g' L' h' FG' F' N' B' X' T' kG'
  (try dsimp only); k_fold
  have hg := gsub_all kG'
  replace hpre := hpre.mono hg
  refine hpre.elim _ ?_
  intros
  clear hpre
  k_steps
  all_goals first | exact wretS hret hg (by assumption) (by simp only [heldT, pT_wild, pT_litT, pT_litF, pT_lit7, pT_litm, pT_rngA, pT_rngB, pT_name, pT_bind, pT_ref, pT_tup1, pT_tup2, pT_var0, pT_var1, pT_var2, pT_fld1, pT_fld2, pT_or2, S, ape, epa, PySem.Str.append_assoc, if_true, if_false, Bool.false_eq_true, ts_m3, ts_9, ts_1, ts_2, rm_x, rng_A, rng_B]) | (w_report)
theorem part_rngA (w : World) (pa : Addr) : WSpec w 49 [.ref pa] (fun h => PatAt h pa (.rngA)) (fun t => .str ((.rngA : Pt).T.1) t) 36 := by
  unfold WSpec
  intro prg loose mean mg mb dp un gd cn cs a ccd cl outer A₀ base h₀ L m s Q E B F X T hk hdp hun hpre hret
  have N : News h₀ L s.heap [] := News.nil
  refine wpAny_call ?_
  k_dflt (refine' code_defG (binds := [(Str.ofString "pattern", .ref pa)]) B F X N T ?kA ?kF ?kK ?k6 ?k7 ?k8 ?k9 ?kB ?_ ?c2 ?c3 ?c4 ?c5; (case kA => exact rfl); (case kF => exact rfl); (case kK => exact hk); (case k6 => k_is); (case k7 => k_is); (case k8 => k_extra "my room9"); (case k9 => first | exact BindsTo.of_eq rfl | exact binds_K (by k_in) rfl (by k_is) rfl rfl rfl); (case c5 => decide); (case kB => exact locs rfl); (case c2 => exact rfl); (case c3 => exact rfl); (case c4 => exact rfl))
  intro g' L' h' FG' F' N' B' X' T' kG'
  (try dsimp only); k_fold
  have hg := gsub_all kG'
  replace hpre := hpre.mono hg
  refine hpre.elim _ ?_
  intros
  clear hpre
  k_steps
  all_goals first | exact wretS hret hg (by assumption) (by simp only [heldT, pT_wild, pT_litT, pT_litF, pT_lit7, pT_litm, pT_rngA, pT_rngB, pT_name, pT_bind, pT_ref, pT_tup1, pT_tup2, pT_var0, pT_var1, pT_var2, pT_fld1, pT_fld2, pT_or2, S, ape, epa, PySem.Str.append_assoc, if_true, if_false, Bool.false_eq_true, ts_m3, ts_9, ts_1, ts_2, rm_x, rng_A, rng_B]) | (w_report)
theorem part_rngB (w : World) (pa : Addr) : WSpec w 49 [.ref pa] (fun h => PatAt h pa (.rngB)) (fun t => .str ((.rngB : Pt).T.1) t) 36 := by
  unfold WSpec
  intro prg loose mean mg mb dp un gd cn cs a ccd cl outer A₀ base h₀ L m s Q E B F X T hk hdp hun hpre hret
  have N : News h₀ L s.heap [] := News.nil
  refine wpAny_call ?_
  k_dflt (refine' code_defG (binds := [(Str.ofString "pattern", .ref pa)]) B F X N T ?kA ?kF ?kK ?k6 ?k7 ?k8 ?k9 ?kB ?_ ?c2 ?c3 ?c4 ?c5; (case kA => exact rfl); (case kF => exact rfl); (case kK => exact hk); (case k6 => k_is); (case k7 => k_is); (case k8 => k_extra "my room9"); (case k9 => first | exact BindsTo.of_eq rfl | exact binds_K (by k_in) rfl (by k_is) rfl rfl rfl); (case c5 => decide); (case kB => exact locs rfl); (case c2 => exact rfl); (case c3 => exact rfl); (case c4 => exact rfl))
  intro g' L' h' FG' F' N' B' X' T' kG'
  (try dsimp only); k_fold
  have hg := gsub_all kG'
  replace hpre := hpre.mono hg
  refine hpre.elim _ ?_
  intros
  clear hpre
  k_steps
  all_goals first | exact wretS hret hg (by assumption) (by simp only [heldT, pT_wild, pT_litT, pT_litF, pT_lit7, pT_litm, pT_rngA, pT_rngB, pT_name, pT_bind, pT_ref, pT_tup1, pT_tup2, pT_var0, pT_var1, pT_var2, pT_fld1, pT_fld2, pT_or2, S, ape, epa, PySem.Str.append_assoc, if_true, if_false, Bool.false_eq_true, ts_m3, ts_9, ts_1, ts_2, rm_x, rng_A, rng_B]) | (w_report)
theorem part_name00 (w : World) (pa : Addr) : WSpec w 49 [.ref pa] (fun h => PatAt h pa (.name false false)) (fun t => .str ((.name false false : Pt).T.1) t) 36 := by
  unfold WSpec
  intro prg loose mean mg mb dp un gd cn cs a ccd cl outer A₀ base h₀ L m s Q E B F X T hk hdp hun hpre hret
  have N : News h₀ L s.heap [] := News.nil
  refine wpAny_call ?_
  k_dflt (refine' code_defG (binds := [(Str.ofString "pattern", .ref pa)]) B F X N T ?kA ?kF ?kK ?k6 ?k7 ?k8 ?k9 ?kB ?_ ?c2 ?c3 ?c4 ?c5; (case kA => exact rfl); (case kF => exact rfl); (case kK => exact hk); (case k6 => k_is); (case k7 => k_is); (case k8 => k_extra "my room9"); (case k9 => first | exact BindsTo.of_eq rfl | exact binds_K (by k_in) rfl (by k_is) rfl rfl rfl); (case c5 => decide); (case kB => exact locs rfl); (case c2 => exact rfl); (case c3 => exact rfl); (case c4 => exact rfl))
  intro g' L' h' FG' F' N' B' X' T' kG'
  (try dsimp only); k_fold
  have hg := gsub_all kG'
  replace hpre := hpre.mono hg
  refine hpre.elim _ ?_
  intros
  clear hpre
  k_steps
  all_goals first | exact wretS hret hg (by assumption) (by simp only [heldT, pT_wild, pT_litT, pT_litF, pT_lit7, pT_litm, pT_rngA, pT_rngB, pT_name, pT_bind, pT_ref, pT_tup1, pT_tup2, pT_var0, pT_var1, pT_var2, pT_fld1, pT_fld2, pT_or2, S, ape, epa, PySem.Str.append_assoc, if_true, if_false, Bool.false_eq_true, ts_m3, ts_9, ts_1, ts_2, rm_x, rng_A, rng_B]) | (w_report)
theorem part_name01 (w : World) (pa : Addr) : WSpec w 49 [.ref pa] (fun h => PatAt h pa (.name false true)) (fun t => .str ((.name false true : Pt).T.1) t) 36 := by
  unfold WSpec
  intro prg loose mean mg mb dp un gd cn cs a ccd cl outer A₀ base h₀ L m s Q E B F X T hk hdp hun hpre hret
  have N : News h₀ L s.heap [] := News.nil
  refine wpAny_call ?_
  k_dflt (refine' code_defG (binds := [(Str.ofString "pattern", .ref pa)]) B F X N T ?kA ?kF ?kK ?k6 ?k7 ?k8 ?k9 ?kB ?_ ?c2 ?c3 ?c4 ?c5; (case kA => exact rfl); (case kF => exact rfl); (case kK => exact hk); (case k6 => k_is); (case k7 => k_is); (case k8 => k_extra "my room9"); (case k9 => first | exact BindsTo.of_eq rfl | exact binds_K (by k_in) rfl (by k_is) rfl rfl rfl); (case c5 => decide); (case kB => exact locs rfl); (case c2 => exact rfl); (case c3 => exact rfl); (case c4 => exact rfl))
  intro g' L' h' FG' F' N' B' X' T' kG'
  (try dsimp only); k_fold
  have hg := gsub_all kG'
  replace hpre := hpre.mono hg
  refine hpre.elim _ ?_
  intros
  clear hpre
  k_steps
  all_goals first | exact wretS hret hg (by assumption) (by simp only [heldT, pT_wild, pT_litT, pT_litF, pT_lit7, pT_litm, pT_rngA, pT_rngB, pT_name, pT_bind, pT_ref, pT_tup1, pT_tup2, pT_var0, pT_var1, pT_var2, pT_fld1, pT_fld2, pT_or2, S, ape, epa, PySem.Str.append_assoc, if_true, if_false, Bool.false_eq_true, ts_m3, ts_9, ts_1, ts_2, rm_x, rng_A, rng_B]) | (w_report)
theorem part_name10 (w : World) (pa : Addr) : WSpec w 49 [.ref pa] (fun h => PatAt h pa (.name true false)) (fun t => .str ((.name true false : Pt).T.1) t) 36 := by
  unfold WSpec
  intro prg loose mean mg mb dp un gd cn cs a ccd cl outer A₀ base h₀ L m s Q E B F X T hk hdp hun hpre hret
  have N : News h₀ L s.heap [] := News.nil
  refine wpAny_call ?_
  k_dflt (refine' code_defG (binds := [(Str.ofString "pattern", .ref pa)]) B F X N T ?kA ?kF ?kK ?k6 ?k7 ?k8 ?k9 ?kB ?_ ?c2 ?c3 ?c4 ?c5; (case kA => exact rfl); (case kF => exact rfl); (case kK => exact hk); (case k6 => k_is); (case k7 => k_is); (case k8 => k_extra "my room9"); (case k9 => first | exact BindsTo.of_eq rfl | exact binds_K (by k_in) rfl (by k_is) rfl rfl rfl); (case c5 => decide); (case kB => exact locs rfl); (case c2 => exact rfl); (case c3 => exact rfl); (case c4 => exact rfl))
  intro g' L' h' FG' F' N' B' X' T' kG'
  (try dsimp only); k_fold
  have hg := gsub_all kG'
  replace hpre := hpre.mono hg
  refine hpre.elim _ ?_
  intros
  clear hpre
  k_steps
  all_goals first | exact wretS hret hg (by assumption) (by simp only [heldT, pT_wild, pT_litT, pT_litF, pT_lit7, pT_litm, pT_rngA, pT_rngB, pT_name, pT_bind, pT_ref, pT_tup1, pT_tup2, pT_var0, pT_var1, pT_var2, pT_fld1, pT_fld2, pT_or2, S, ape, epa, PySem.Str.append_assoc, if_true, if_false, Bool.false_eq_true, ts_m3, ts_9, ts_1, ts_2, rm_x, rng_A, rng_B]) | (w_report)
theorem part_name11 (w : World) (pa : Addr) : WSpec w 49 [.ref pa] (fun h => PatAt h pa (.name true true)) (fun t => .str ((.name true true : Pt).T.1) t) 36 := by
  unfold WSpec
  intro prg loose mean mg mb dp un gd cn cs a ccd cl outer A₀ base h₀ L m s Q E B F X T hk hdp hun hpre hret
  have N : News h₀ L s.heap [] := News.nil
  refine wpAny_call ?_
  k_dflt (refine' code_defG (binds := [(Str.ofString "pattern", .ref pa)]) B F X N T ?kA ?kF ?kK ?k6 ?k7 ?k8 ?k9 ?kB ?_ ?c2 ?c3 ?c4 ?c5; (case kA => exact rfl); (case kF => exact rfl); (case kK => exact hk); (case k6 => k_is); (case k7 => k_is); (case k8 => k_extra "my room9"); (case k9 => first | exact BindsTo.of_eq rfl | exact binds_K (by k_in) rfl (by k_is) rfl rfl rfl); (case c5 => decide); (case kB => exact locs rfl); (case c2 => exact rfl); (case c3 => exact rfl); (case c4 => exact rfl))
  intro g' L' h' FG' F' N' B' X' T' kG'
  (try dsimp only); k_fold
  have hg := gsub_all kG'
  replace hpre := hpre.mono hg
  refine hpre.elim _ ?_
  intros
  clear hpre
  k_steps
  all_goals first | exact wretS hret hg (by assumption) (by simp only [heldT, pT_wild, pT_litT, pT_litF, pT_lit7, pT_litm, pT_rngA, pT_rngB, pT_name, pT_bind, pT_ref, pT_tup1, pT_tup2, pT_var0, pT_var1, pT_var2, pT_fld1, pT_fld2, pT_or2, S, ape, epa, PySem.Str.append_assoc, if_true, if_false, Bool.false_eq_true, ts_m3, ts_9, ts_1, ts_2, rm_x, rng_A, rng_B]) | (w_report)
theorem part_bind (w : World) (p : Pt) (hSp : PS w p) (hQp : QS w p) (hwp : p.wt ≤ 1000000) (hlp : p.T.1.length ≤ p.wt ∧ p.T.2.length ≤ p.wt) (pa : Addr) : WSpec w 49 [.ref pa] (fun h => PatAt h pa (.bind p)) (fun t => .str ((.bind p : Pt).T.1) t) (40 * (p.dep + 1) + 36) := by
  unfold WSpec
  intro prg loose mean mg mb dp un gd cn cs a ccd cl outer A₀ base h₀ L m s Q E B F X T hk hdp hun hpre hret
  have N : News h₀ L s.heap [] := News.nil
  refine wpAny_call ?_
  k_dflt (refine' code_defG (binds := [(Str.ofString "pattern", .ref pa)]) B F X N T ?kA ?kF ?kK ?k6 ?k7 ?k8 ?k9 ?kB ?_ ?c2 ?c3 ?c4 ?c5; (case kA => exact rfl); (case kF => exact rfl); (case kK => exact hk); (case k6 => k_is); (case k7 => k_is); (case k8 => k_extra "my room9"); (case k9 => first | exact BindsTo.of_eq rfl | exact binds_K (by k_in) rfl (by k_is) rfl rfl rfl); (case c5 => decide); (case kB => exact locs rfl); (case c2 => exact rfl); (case c3 => exact rfl); (case c4 => exact rfl))
  intro g' L' h' FG' F' N' B' X' T' kG'
  (try dsimp only); k_fold
  have hg := gsub_all kG'
  replace hpre := hpre.mono hg
  refine hpre.elim _ ?_
  intros
  clear hpre
  k_steps
  all_goals first | exact wretS hret hg (by assumption) (by simp only [heldT, pT_wild, pT_litT, pT_litF, pT_lit7, pT_litm, pT_rngA, pT_rngB, pT_name, pT_bind, pT_ref, pT_tup1, pT_tup2, pT_var0, pT_var1, pT_var2, pT_fld1, pT_fld2, pT_or2, S, ape, epa, PySem.Str.append_assoc, if_true, if_false, Bool.false_eq_true, ts_m3, ts_9, ts_1, ts_2, rm_x, rng_A, rng_B]) | (w_report)
theorem part_ref_false (w : World) (p : Pt) (hSp : PS w p) (hQp : QS w p) (hwp : p.wt ≤ 1000000) (hlp : p.T.1.length ≤ p.wt ∧ p.T.2.length ≤ p.wt) (hR : RS w p) (hH : (heldT p).length ≤ p.wt + 10) (pa : Addr) : WSpec w 49 [.ref pa] (fun h => PatAt h pa (.ref false p)) (fun t => .str ((.ref false p : Pt).T.1) t) (40 * (p.dep + 1) + 36) := by
  unfold WSpec
  intro prg loose mean mg mb dp un gd cn cs a ccd cl outer A₀ base h₀ L m s Q E B F X T hk hdp hun hpre hret
  have N : News h₀ L s.heap [] := News.nil
  refine wpAny_call ?_
  k_dflt (refine' code_defG (binds := [(Str.ofString "pattern", .ref pa)]) B F X N T ?kA ?kF ?kK ?k6 ?k7 ?k8 ?k9 ?kB ?_ ?c2 ?c3 ?c4 ?c5; (case kA => exact rfl); (case kF => exact rfl); (case kK => exact hk); (case k6 => k_is); (case k7 => k_is); (case k8 => k_extra "my room9"); (case k9 => first | exact BindsTo.of_eq rfl | exact binds_K (by k_in) rfl (by k_is) rfl rfl rfl); (case c5 => decide); (case kB => exact locs rfl); (case c2 => exact rfl); (case c3 => exact rfl); (case c4 => exact rfl))
  intro g' L' h' FG' F' N' B' X' T' kG'
  (try dsimp only); k_fold
  have hg := gsub_all kG'
  replace hpre := hpre.mono hg
  refine hpre.elim _ ?_
  intros
  clear hpre
  k_steps
  all_goals first | exact wretS hret hg (by assumption) (by simp only [heldT, pT_wild, pT_litT, pT_litF, pT_lit7, pT_litm, pT_rngA, pT_rngB, pT_name, pT_bind, pT_ref, pT_tup1, pT_tup2, pT_var0, pT_var1, pT_var2, pT_fld1, pT_fld2, pT_or2, S, ape, epa, PySem.Str.append_assoc, if_true, if_false, Bool.false_eq_true, ts_m3, ts_9, ts_1, ts_2, rm_x, rng_A, rng_B]) | (w_report)
theorem part_ref_true (w : World) (p : Pt) (hSp : PS w p) (hQp : QS w p) (hwp : p.wt ≤ 1000000) (hlp : p.T.1.length ≤ p.wt ∧ p.T.2.length ≤ p.wt) (hR : RS w p) (hH : (heldT p).length ≤ p.wt + 10) (pa : Addr) : WSpec w 49 [.ref pa] (fun h => PatAt h pa (.ref true p)) (fun t => .str ((.ref true p : Pt).T.1) t) (40 * (p.dep + 1) + 36) := by
  unfold WSpec
  intro prg loose mean mg mb dp un gd cn cs a ccd cl outer A₀ base h₀ L m s Q E B F X T hk hdp hun hpre hret
  have N : News h₀ L s.heap [] := News.nil
  refine wpAny_call ?_
  k_dflt (refine' code_defG (binds := [(Str.ofString "pattern", .ref pa)]) B F X N T ?kA ?kF ?kK ?k6 ?k7 ?k8 ?k9 ?kB ?_ ?c2 ?c3 ?c4 ?c5; (case kA => exact rfl); (case kF => exact rfl); (case kK => exact hk); (case k6 => k_is); (case k7 => k_is); (case k8 => k_extra "my room9"); (case k9 => first | exact BindsTo.of_eq rfl | exact binds_K (by k_in) rfl (by k_is) rfl rfl rfl); (case c5 => decide); (case kB => exact locs rfl); (case c2 => exact rfl); (case c3 => exact rfl); (case c4 => exact rfl))
  intro g' L' h' FG' F' N' B' X' T' kG'
  (try dsimp only); k_fold
  have hg := gsub_all kG'
  replace hpre := hpre.mono hg
  refine hpre.elim _ ?_
  intros
  clear hpre
  k_steps
  all_goals first | exact wretS hret hg (by assumption) (by simp only [heldT, pT_wild, pT_litT, pT_litF, pT_lit7, pT_litm, pT_rngA, pT_rngB, pT_name, pT_bind, pT_ref, pT_tup1, pT_tup2, pT_var0, pT_var1, pT_var2, pT_fld1, pT_fld2, pT_or2, S, ape, epa, PySem.Str.append_assoc, if_true, if_false, Bool.false_eq_true, ts_m3, ts_9, ts_1, ts_2, rm_x, rng_A, rng_B]) | (w_report)
theorem part_tup1 (w : World) (p : Pt) (hSp : PS w p) (hQp : QS w p) (hwp : p.wt ≤ 1000000) (hlp : p.T.1.length ≤ p.wt ∧ p.T.2.length ≤ p.wt) (pa : Addr) : WSpec w 49 [.ref pa] (fun h => PatAt h pa (.tup1 p)) (fun t => .str ((.tup1 p : Pt).T.1) t) (40 * (p.dep + 1) + 36) := by
  unfold WSpec
  intro prg loose mean mg mb dp un gd cn cs a ccd cl outer A₀ base h₀ L m s Q E B F X T hk hdp hun hpre hret
  have N : News h₀ L s.heap [] := News.nil
  refine wpAny_call ?_
  k_dflt (refine' code_defG (binds := [(Str.ofString "pattern", .ref pa)]) B F X N T ?kA ?kF ?kK ?k6 ?k7 ?k8 ?k9 ?kB ?_ ?c2 ?c3 ?c4 ?c5; (case kA => exact rfl); (case kF => exact rfl); (case kK => exact hk); (case k6 => k_is); (case k7 => k_is); (case k8 => k_extra "my room9"); (case k9 => first | exact BindsTo.of_eq rfl | exact binds_K (by k_in) rfl (by k_is) rfl rfl rfl); (case c5 => decide); (case kB => exact locs rfl); (case c2 => exact rfl); (case c3 => exact rfl); (case c4 => exact rfl))
  intro g' L' h' FG' F' N' B' X' T' kG'
  (try dsimp only); k_fold
  have hg := gsub_all kG'
  replace hpre := hpre.mono hg
  refine hpre.elim _ ?_
  intros
  clear hpre
  have cf : CompFs [fun t => .str p.T.2 t] := ⟨⟩
  k_steps
  all_goals first | exact wretS hret hg (by assumption) (by simp only [heldT, pT_wild, pT_litT, pT_litF, pT_lit7, pT_litm, pT_rngA, pT_rngB, pT_name, pT_bind, pT_ref, pT_tup1, pT_tup2, pT_var0, pT_var1, pT_var2, pT_fld1, pT_fld2, pT_or2, S, ape, epa, PySem.Str.append_assoc, if_true, if_false, Bool.false_eq_true, ts_m3, ts_9, ts_1, ts_2, rm_x, rng_A, rng_B]) | (w_report)
theorem part_tup2 (w : World) (p : Pt) (hSp : PS w p) (hQp : QS w p) (hwp : p.wt ≤ 1000000) (hlp : p.T.1.length ≤ p.wt ∧ p.T.2.length ≤ p.wt) (q : Pt) (hSq : PS w q) (hQq : QS w q) (hwq : q.wt ≤ 1000000) (hlq : q.T.1.length ≤ q.wt ∧ q.T.2.length ≤ q.wt) (pa : Addr) : WSpec w 49 [.ref pa] (fun h => PatAt h pa (.tup2 p q)) (fun t => .str ((.tup2 p q : Pt).T.1) t) (40 * (max p.dep q.dep + 1) + 36) := by
  unfold WSpec
  intro prg loose mean mg mb dp un gd cn cs a ccd cl outer A₀ base h₀ L m s Q E B F X T hk hdp hun hpre hret
  have N : News h₀ L s.heap [] := News.nil
  refine wpAny_call ?_
  k_dflt (refine' code_defG (binds := [(Str.ofString "pattern", .ref pa)]) B F X N T ?kA ?kF ?kK ?k6 ?k7 ?k8 ?k9 ?kB ?_ ?c2 ?c3 ?c4 ?c5; (case kA => exact rfl); (case kF => exact rfl); (case kK => exact hk); (case k6 => k_is); (case k7 => k_is); (case k8 => k_extra "my room9"); (case k9 => first | exact BindsTo.of_eq rfl | exact binds_K (by k_in) rfl (by k_is) rfl rfl rfl); (case c5 => decide); (case kB => exact locs rfl); (case c2 => exact rfl); (case c3 => exact rfl); (case c4 => exact rfl))
  intro g' L' h' FG' F' N' B' X' T' kG'
  (try dsimp only); k_fold
  have hg := gsub_all kG'
  replace hpre := hpre.mono hg
  refine hpre.elim _ ?_
  intros
  clear hpre
  have cf : CompFs [fun t => .str p.T.2 t, fun t => .str q.T.2 t] := ⟨⟩
  k_steps
  all_goals first | exact wretS hret hg (by assumption) (by simp only [heldT, pT_wild, pT_litT, pT_litF, pT_lit7, pT_litm, pT_rngA, pT_rngB, pT_name, pT_bind, pT_ref, pT_tup1, pT_tup2, pT_var0, pT_var1, pT_var2, pT_fld1, pT_fld2, pT_or2, S, ape, epa, PySem.Str.append_assoc, if_true, if_false, Bool.false_eq_true, ts_m3, ts_9, ts_1, ts_2, rm_x, rng_A, rng_B]) | (w_report)
theorem part_var (w : World) (p : Pt) (c : Nat) (hV : VS w p c) (hkind : ∀ h b, PatAt h b p → KindAt h b (S "variant")) (pa : Addr) : WSpec w 49 [.ref pa] (fun h => PatAt h pa (p)) (fun t => .str ((p : Pt).T.1) t) (c + 2) := by
  unfold WSpec
  intro prg loose mean mg mb dp un gd cn cs a ccd cl outer A₀ base h₀ L m s Q E B F X T hk hdp hun hpre hret
  have N : News h₀ L s.heap [] := News.nil
  refine wpAny_call ?_
  k_dflt (refine' code_defG (binds := [(Str.ofString "pattern", .ref pa)]) B F X N T ?kA ?kF ?kK ?k6 ?k7 ?k8 ?k9 ?kB ?_ ?c2 ?c3 ?c4 ?c5; (case kA => exact rfl); (case kF => exact rfl); (case kK => exact hk); (case k6 => k_is); (case k7 => k_is); (case k8 => k_extra "my room9"); (case k9 => first | exact BindsTo.of_eq rfl | exact binds_K (by k_in) rfl (by k_is) rfl rfl rfl); (case c5 => decide); (case kB => exact locs rfl); (case c2 => exact rfl); (case c3 => exact rfl); (case c4 => exact rfl))
  intro g' L' h' FG' F' N' B' X' T' kG'
  (try dsimp only); k_fold
  have hg := gsub_all kG'
  replace hpre := hpre.mono hg
  obtain ⟨l8, t8, hT8⟩ := hkind _ _ hpre
  k_steps
  all_goals first | exact wretS hret hg (by assumption) (by simp only [heldT, pT_wild, pT_litT, pT_litF, pT_lit7, pT_litm, pT_rngA, pT_rngB, pT_name, pT_bind, pT_ref, pT_tup1, pT_tup2, pT_var0, pT_var1, pT_var2, pT_fld1, pT_fld2, pT_or2, S, ape, epa, PySem.Str.append_assoc, if_true, if_false, Bool.false_eq_true, ts_m3, ts_9, ts_1, ts_2, rm_x, rng_A, rng_B]) | (w_report)
theorem part_fld (w : World) (p : Pt) (c : Nat) (hD : DS w p c) (hkind : ∀ h b, PatAt h b p → KindAt h b (S "fields")) (pa : Addr) : WSpec w 49 [.ref pa] (fun h => PatAt h pa (p)) (fun t => .str ((p : Pt).T.1) t) (c + 2) := by
  unfold WSpec
  intro prg loose mean mg mb dp un gd cn cs a ccd cl outer A₀ base h₀ L m s Q E B F X T hk hdp hun hpre hret
  have N : News h₀ L s.heap [] := News.nil
  refine wpAny_call ?_
  k_dflt (refine' code_defG (binds := [(Str.ofString "pattern", .ref pa)]) B F X N T ?kA ?kF ?kK ?k6 ?k7 ?k8 ?k9 ?kB ?_ ?c2 ?c3 ?c4 ?c5; (case kA => exact rfl); (case kF => exact rfl); (case kK => exact hk); (case k6 => k_is); (case k7 => k_is); (case k8 => k_extra "my room9"); (case k9 => first | exact BindsTo.of_eq rfl | exact binds_K (by k_in) rfl (by k_is) rfl rfl rfl); (case c5 => decide); (case kB => exact locs rfl); (case c2 => exact rfl); (case c3 => exact rfl); (case c4 => exact rfl))
  intro g' L' h' FG' F' N' B' X' T' kG'
  (try dsimp only); k_fold
  have hg := gsub_all kG'
  replace hpre := hpre.mono hg
  obtain ⟨l8, t8, hT8⟩ := hkind _ _ hpre
  k_steps
  all_goals first | exact wretS hret hg (by assumption) (by simp only [heldT, pT_wild, pT_litT, pT_litF, pT_lit7, pT_litm, pT_rngA, pT_rngB, pT_name, pT_bind, pT_ref, pT_tup1, pT_tup2, pT_var0, pT_var1, pT_var2, pT_fld1, pT_fld2, pT_or2, S, ape, epa, PySem.Str.append_assoc, if_true, if_false, Bool.false_eq_true, ts_m3, ts_9, ts_1, ts_2, rm_x, rng_A, rng_B]) | (w_report)
end Mine
end

section
open PySem PySem.W PyProof.Rows
namespace Mine
theorem anew_W9 : True := by
  w_top off
  trivial
set_option maxRecDepth 100000
set_option maxHeartbeats 8000000
theorem filler_w9 : Filler PySem.Challenge.rw_xm0582_01 hd.heap_1 := by k_fill; trivial

theorem words_W9_0 : True := by
  k_with_none
  k_with "my dep9" => ((first | ((with_reducible refine dS ?_); k_dflt (exact rfl)) | ((with_reducible refine dL ?_); k_dflt (exact rfl)) | ((with_reducible refine dR ?_); k_dflt (exact rfl)) | ((with_reducible refine dS1 ?_); k_dflt (exact rfl)) | ((with_reducible refine dL1 ?_); k_dflt (exact rfl)) | ((with_reducible refine dR1 ?_); k_dflt (exact rfl)) | ((with_reducible refine d0 ?_); k_dflt (exact rfl)) | ((with_reducible refine dV ?_); k_dflt (exact rfl)) | ((with_reducible refine dW ?_); k_dflt (exact rfl)) | k_dflt (exact le_of_ble rfl) | omega))
  k_with "my room9" => ((first | k_dflt (exact room_0 hdp) | (k_dflt (refine room_a hdp ?_); k_extra "my dep9") | k_dflt (exact Nat.le_of_ble_eq_true rfl) | ktr_room))
  k_with "my units9" => ((first | (k_dflt (refine' units_a hun ?zqua ?zqub); (case zqua => k_extra "my dep9"); (case zqub => k_dflt (exact rfl))) | k_dflt (exact Nat.le_of_ble_eq_true rfl) | ktr_units))
  k_with "my len9" => (((with_reducible show (_ : Nat) ≤ _); first | with_reducible exact Nat.le_refl 0 | ((with_reducible refine' lenApp ?_ ?_) <;> (first | k_extra "my len9" | with_reducible show Nat)) | ((with_reducible refine' addLe ?_ ?_) <;> (first | k_extra "my len9" | with_reducible show Nat)) | ((with_reducible refine' mulLe ?_) <;> (first | k_extra "my len9" | with_reducible show Nat)) | with_reducible assumption | with_reducible exact Nat.le_of_eq ln_e | with_reducible exact Nat.le_of_eq ln_28 | with_reducible exact Nat.le_of_eq ln_29 | with_reducible exact Nat.le_of_eq ln_2c20 | with_reducible exact Nat.le_of_eq ln_2c | with_reducible exact Nat.le_of_eq ln_2c29 | with_reducible exact Nat.le_of_eq ln_3c | with_reducible exact Nat.le_of_eq ln_3e | with_reducible exact Nat.le_of_eq ln_3a3a | with_reducible exact Nat.le_of_eq ln_26 | with_reducible exact Nat.le_of_eq ln_6d757420 | with_reducible exact Nat.le_of_eq ln_72656620 | with_reducible exact Nat.le_of_eq ln_204020 | with_reducible exact Nat.le_of_eq ln_2e2e3d | with_reducible exact Nat.le_of_eq ln_207b20 | with_reducible exact Nat.le_of_eq ln_207d | with_reducible exact Nat.le_of_eq ln_7d | with_reducible exact Nat.le_of_eq ln_2e2e | with_reducible exact Nat.le_of_eq ln_3a20 | with_reducible exact Nat.le_of_eq ln_207c20 | with_reducible exact Nat.le_of_eq ln_5f | with_reducible exact Nat.le_of_eq ln_21 | with_reducible exact Nat.le_of_eq ln_2761 | with_reducible exact Nat.le_of_eq ln_54 | with_reducible exact Nat.le_of_eq ln_7538 | with_reducible exact Nat.le_of_eq ln_78 | with_reducible exact Nat.le_of_eq ln_79 | with_reducible exact Nat.le_of_eq ln_6e | with_reducible exact Nat.le_of_eq ln_6d | with_reducible exact Nat.le_of_eq ln_74727565 | with_reducible exact Nat.le_of_eq ln_66616c7365 | with_reducible exact Nat.le_of_eq ln_37 | with_reducible exact Nat.le_of_eq ln_2d31 | with_reducible exact Nat.le_of_eq ln_2d33 | with_reducible exact Nat.le_of_eq ln_39 | with_reducible exact Nat.le_of_eq ln_31 | with_reducible exact Nat.le_of_eq ln_32 | with_reducible exact Nat.le_of_eq ln_73656c66 | with_reducible exact Nat.le_of_eq ln_53656c66 | with_reducible exact Nat.le_of_eq ln_7375706572 | with_reducible exact Nat.le_of_eq ln_6372617465 | with_reducible exact Nat.le_of_eq ln_41 | with_reducible exact Nat.le_of_eq ln_62 | with_reducible exact Nat.le_of_eq ln_4332 | with_reducible exact Nat.le_of_eq ln_3c75383e | with_reducible exact Nat.le_of_eq ln_3c27612c20542c205f3e | with_reducible exact lenW1 (by with_reducible assumption) (by with_reducible assumption) | with_reducible exact lenW2 (by with_reducible assumption) (by with_reducible assumption) | with_reducible exact lenV1 (by with_reducible assumption) (by with_reducible assumption) (by with_reducible assumption) | with_reducible exact lenV2 (by with_reducible assumption) (by with_reducible assumption) (by with_reducible assumption) | with_reducible exact And.left (by with_reducible assumption) | with_reducible exact And.right (by with_reducible assumption) | ((with_reducible refine' lenIte ?_ ?_) <;> (first | k_extra "my len9" | with_reducible show Nat)) | ((with_reducible refine' iteLe ?_ ?_) <;> (first | k_extra "my len9" | with_reducible show Nat))))
  k_with "my size9" => (((refine' size_of ?zqsa ?zqsb); (case zqsa => k_extra "my len9"); (case zqsb => k_dflt (exact rfl))))
  k_with "my k_steps" => (repeat' (first | (k_unfold; (try dsimp only)) | walk1 | (dsimp only; walk1) | fail "no step"))
  k_with "my binaryOp Add str str" => (((with_reducible show wpAny _ _ (binaryOp Operator.Add (Value.str _ _) (Value.str _ _)) _ _ _); (refine add_str (hsz := ?zqhsz) ?_); (case zqhsz => first | k_extra "my size9" | (simp only [j0, j1, j2, j3, PySem.Str.length_append, PySem.sizeLine_eq, ln_e,ln_28,ln_29,ln_2c20,ln_2c,ln_2c29,ln_3c,ln_3e,ln_3a3a,ln_26,ln_6d757420,ln_72656620,ln_204020,ln_2e2e3d,ln_207b20,ln_207d,ln_7d,ln_2e2e,ln_3a20,ln_207c20,ln_5f,ln_21,ln_2761,ln_54,ln_7538,ln_78,ln_79,ln_6e,ln_6d,ln_74727565,ln_66616c7365,ln_37,ln_2d31,ln_2d33,ln_39,ln_31,ln_32,ln_73656c66,ln_53656c66,ln_7375706572,ln_6372617465,ln_41,ln_62,ln_4332,ln_3c75383e,ln_3c27612c20542c205f3e]; omega)); intro _ _))
  k_with "my ite" => (first | ((refine' PySem.W.ite_pos ?zqhc ?_); (case zqhc => (first | (k_dflt (exact (show _ = true from rfl))) | with_reducible assumption))) | ((refine' PySem.W.ite_neg ?zqhc ?_); (case zqhc => (first | (k_dflt (exact fun hb9 => absurd (show false = true from hb9) Bool.false_ne_true)) | exact fun hb9 => absurd (hb9.symm.trans (by with_reducible assumption)) (by decide)))))
  k_with "my call builtin:str.join" => ((k_here; (with_reducible show wpAny _ _ (call (Value.builtin _) [Value.str _ _, Value.ref _]) _ _ _); k_dflt (first | refine jn0 (by is_list) ?_ | ((refine' jn1 ?zqhl ?zqhz ?_); (case zqhl => is_list); (case zqhz => first | k_extra "my size9" | (simp only [PySem.Str.length_append, ln_e,ln_28,ln_29,ln_2c20,ln_2c,ln_2c29,ln_3c,ln_3e,ln_3a3a,ln_26,ln_6d757420,ln_72656620,ln_204020,ln_2e2e3d,ln_207b20,ln_207d,ln_7d,ln_2e2e,ln_3a20,ln_207c20,ln_5f,ln_21,ln_2761,ln_54,ln_7538,ln_78,ln_79,ln_6e,ln_6d,ln_74727565,ln_66616c7365,ln_37,ln_2d31,ln_2d33,ln_39,ln_31,ln_32,ln_73656c66,ln_53656c66,ln_7375706572,ln_6372617465,ln_41,ln_62,ln_4332,ln_3c75383e,ln_3c27612c20542c205f3e]; omega))) | ((refine' jn2 ?zqhl ?zqhz ?_); (case zqhl => is_list); (case zqhz => first | k_extra "my size9" | (simp only [PySem.Str.length_append, ln_e,ln_28,ln_29,ln_2c20,ln_2c,ln_2c29,ln_3c,ln_3e,ln_3a3a,ln_26,ln_6d757420,ln_72656620,ln_204020,ln_2e2e3d,ln_207b20,ln_207d,ln_7d,ln_2e2e,ln_3a20,ln_207c20,ln_5f,ln_21,ln_2761,ln_54,ln_7538,ln_78,ln_79,ln_6e,ln_6d,ln_74727565,ln_66616c7365,ln_37,ln_2d31,ln_2d33,ln_39,ln_31,ln_32,ln_73656c66,ln_53656c66,ln_7375706572,ln_6372617465,ln_41,ln_62,ln_4332,ln_3c75383e,ln_3c27612c20542c205f3e]; omega))) | ((refine' jn3 ?zqhl ?zqhz ?_); (case zqhl => is_list); (case zqhz => first | k_extra "my size9" | (simp only [PySem.Str.length_append, ln_e,ln_28,ln_29,ln_2c20,ln_2c,ln_2c29,ln_3c,ln_3e,ln_3a3a,ln_26,ln_6d757420,ln_72656620,ln_204020,ln_2e2e3d,ln_207b20,ln_207d,ln_7d,ln_2e2e,ln_3a20,ln_207c20,ln_5f,ln_21,ln_2761,ln_54,ln_7538,ln_78,ln_79,ln_6e,ln_6d,ln_74727565,ln_66616c7365,ln_37,ln_2d31,ln_2d33,ln_39,ln_31,ln_32,ln_73656c66,ln_53656c66,ln_7375706572,ln_6372617465,ln_41,ln_62,ln_4332,ln_3c75383e,ln_3c27612c20542c205f3e]; omega)))); intro _ _))
  k_with "my units_room" => ((first | (k_dflt (refine' units_b hun ?zqua ?zqub); (case zqua => k_extra "my dep9"); (case zqub => k_dflt (exact rfl))) | (have hcL9 := cLine_is; (simp only [units_deeper, units_in1] at *); (try dsimp only [ktrTop] at *); omega)))
  k_with "my compareOp Eq ref ref" => (((with_reducible show wpAny _ _ (compareOp CmpOp.Eq (Value.ref _) (Value.ref _)) _ _ _); first | refine PySem.SeqAt.eq_list_lengthsAt (by is_list) (by is_list) (by rfl) (by units_room) ?_ | refine PySem.SeqAt.eq_listAt (e := fun _ => true) (items := #[]) (items2 := #[]) (by is_list) (by is_list) rfl (by units_room) (fun j h1 h2 => absurd h1 (Nat.not_lt_zero _)) ?_))
  k_with "my binaryOp Add str str" => (((with_reducible show wpAny _ _ (binaryOp Operator.Add (Value.str _ _) (Value.str _ _)) _ _ _); (refine add_str (hsz := ?zqhsz) ?_); (case zqhsz => first | exact Nat.zero_le _ | k_extra "my size9" | (simp only [PySem.Str.length_append, PySem.sizeLine_eq, ln_e,ln_28,ln_29,ln_2c20,ln_2c,ln_2c29,ln_3c,ln_3e,ln_3a3a,ln_26,ln_6d757420,ln_72656620,ln_204020,ln_2e2e3d,ln_207b20,ln_207d,ln_7d,ln_2e2e,ln_3a20,ln_207c20,ln_5f,ln_21,ln_2761,ln_54,ln_7538,ln_78,ln_79,ln_6e,ln_6d,ln_74727565,ln_66616c7365,ln_37,ln_2d31,ln_2d33,ln_39,ln_31,ln_32,ln_73656c66,ln_53656c66,ln_7375706572,ln_6372617465,ln_41,ln_62,ln_4332,ln_3c75383e,ln_3c27612c20542c205f3e]; omega) | (simp only [lenIf, PySem.Str.length_append, PySem.sizeLine_eq, ln_e,ln_28,ln_29,ln_2c20,ln_2c,ln_2c29,ln_3c,ln_3e,ln_3a3a,ln_26,ln_6d757420,ln_72656620,ln_204020,ln_2e2e3d,ln_207b20,ln_207d,ln_7d,ln_2e2e,ln_3a20,ln_207c20,ln_5f,ln_21,ln_2761,ln_54,ln_7538,ln_78,ln_79,ln_6e,ln_6d,ln_74727565,ln_66616c7365,ln_37,ln_2d31,ln_2d33,ln_39,ln_31,ln_32,ln_73656c66,ln_53656c66,ln_7375706572,ln_6372617465,ln_41,ln_62,ln_4332,ln_3c75383e,ln_3c27612c20542c205f3e]; (repeat' split) <;> omega)); intro _ _))
  k_with "my ite" => (first | ((with_reducible refine' ite_int_one ?zqhc ?_); (case zqhc => first | with_reducible assumption | decide)) | ((with_reducible refine' ite_int_two ?_ ?_) <;> intro hk9))
  k_with "my ite" => (first | ((refine' PySem.W.ite_pos ?zqhc ?_); (case zqhc => (first | (k_dflt (exact (show _ = true from rfl))) | with_reducible assumption))) | ((refine' PySem.W.ite_neg ?zqhc ?_); (case zqhc => (first | (k_dflt (exact fun hb9 => absurd (show false = true from hb9) Bool.false_ne_true)) | exact fun hb9 => absurd (hb9.symm.trans (by with_reducible assumption)) (by decide)))))
  k_with "my storeName" => ((k_here; (with_reducible show wpAny _ _ (storeName _ _ _) _ _ _); k_dflt (refine' storeU ?zqhe ?zqF ?zqN ?zqhk ?zqhx ?_; (case zqhe => exact rfl); (case zqF => k_asm); (case zqN => k_asm); (case zqhk => rfl); (case zqhx => rfl)); intro h' M' F' N'; (try dsimp only); (try k_sweep)))
  k_with "my execs cons Assign cons" => ((k_here; (with_reducible show wpAny _ _ (execs (Stmt.Assign [Expr.Name _ _] _ _ :: _) _) _ _ _); k_dflt (refine' pure_assignE ?zqhe ?zqhpl ?zqF ?zqN ?zqhk ?zqh ?zqhn ?zqhx ?zqsw ?_; (case zqhpl => exact rfl); (case zqhe => exact rfl); (case zqF => k_asm); (case zqhk => rfl); (case zqh => exact rfl); (case zqhn => first | exact Nat.zero_le _ | k_extra "my size9" | (simp only [PySem.Str.length_append, PySem.sizeLine_eq, ln_e,ln_28,ln_29,ln_2c20,ln_2c,ln_2c29,ln_3c,ln_3e,ln_3a3a,ln_26,ln_6d757420,ln_72656620,ln_204020,ln_2e2e3d,ln_207b20,ln_207d,ln_7d,ln_2e2e,ln_3a20,ln_207c20,ln_5f,ln_21,ln_2761,ln_54,ln_7538,ln_78,ln_79,ln_6e,ln_6d,ln_74727565,ln_66616c7365,ln_37,ln_2d31,ln_2d33,ln_39,ln_31,ln_32,ln_73656c66,ln_53656c66,ln_7375706572,ln_6372617465,ln_41,ln_62,ln_4332,ln_3c75383e,ln_3c27612c20542c205f3e]; omega) | (simp only [lenIf, PySem.Str.length_append, PySem.sizeLine_eq, ln_e,ln_28,ln_29,ln_2c20,ln_2c,ln_2c29,ln_3c,ln_3e,ln_3a3a,ln_26,ln_6d757420,ln_72656620,ln_204020,ln_2e2e3d,ln_207b20,ln_207d,ln_7d,ln_2e2e,ln_3a20,ln_207c20,ln_5f,ln_21,ln_2761,ln_54,ln_7538,ln_78,ln_79,ln_6e,ln_6d,ln_74727565,ln_66616c7365,ln_37,ln_2d31,ln_2d33,ln_39,ln_31,ln_32,ln_73656c66,ln_53656c66,ln_7375706572,ln_6372617465,ln_41,ln_62,ln_4332,ln_3c75383e,ln_3c27612c20542c205f3e]; (repeat' split) <;> omega)); (case zqN => k_asm); (case zqhx => rfl); (case zqsw => rfl)); (try dsimp -zeta only [PV.at]); intro t9 h9 tk9 M9 F9 N9))
  k_with "my execs cons If" => ((k_here; (with_reducible show wpAny _ _ (execs (Stmt.If _ _ [] _ :: _) _) _ _ _); k_dflt (refine' pure_ifE ?zqhe ?zqhpl ?zqF ?zqhk ?zqhp ?zqh ?zqhn ?zqhc ?_; (case zqhpl => exact rfl); (case zqhe => exact rfl); (case zqF => k_asm); (case zqhk => rfl); (case zqh => exact rfl); (case zqhn => first | exact Nat.zero_le _ | k_extra "my size9" | (simp only [PySem.Str.length_append, PySem.sizeLine_eq, ln_e,ln_28,ln_29,ln_2c20,ln_2c,ln_2c29,ln_3c,ln_3e,ln_3a3a,ln_26,ln_6d757420,ln_72656620,ln_204020,ln_2e2e3d,ln_207b20,ln_207d,ln_7d,ln_2e2e,ln_3a20,ln_207c20,ln_5f,ln_21,ln_2761,ln_54,ln_7538,ln_78,ln_79,ln_6e,ln_6d,ln_74727565,ln_66616c7365,ln_37,ln_2d31,ln_2d33,ln_39,ln_31,ln_32,ln_73656c66,ln_53656c66,ln_7375706572,ln_6372617465,ln_41,ln_62,ln_4332,ln_3c75383e,ln_3c27612c20542c205f3e]; omega) | (simp only [lenIf, PySem.Str.length_append, PySem.sizeLine_eq, ln_e,ln_28,ln_29,ln_2c20,ln_2c,ln_2c29,ln_3c,ln_3e,ln_3a3a,ln_26,ln_6d757420,ln_72656620,ln_204020,ln_2e2e3d,ln_207b20,ln_207d,ln_7d,ln_2e2e,ln_3a20,ln_207c20,ln_5f,ln_21,ln_2761,ln_54,ln_7538,ln_78,ln_79,ln_6e,ln_6d,ln_74727565,ln_66616c7365,ln_37,ln_2d31,ln_2d33,ln_39,ln_31,ln_32,ln_73656c66,ln_53656c66,ln_7375706572,ln_6372617465,ln_41,ln_62,ln_4332,ln_3c75383e,ln_3c27612c20542c205f3e]; (repeat' split) <;> omega)); (case zqhp => rfl); (case zqhc => exact rfl)); intro tk9; (try dsimp only)))
  k_with "my eval BinOp" => ((k_here; (with_reducible show wpAny _ _ (eval (Expr.BinOp _ _ _ _) _) _ _ _); k_dflt (refine' pure_evalE ?zqhe ?zqhpl ?zqF ?zqhk ?zqh ?zqhn ?_; (case zqhpl => exact rfl); (case zqhe => exact rfl); (case zqF => k_asm); (case zqhk => rfl); (case zqh => exact rfl); (case zqhn => first | exact Nat.zero_le _ | k_extra "my size9" | (simp only [PySem.Str.length_append, PySem.sizeLine_eq, ln_e,ln_28,ln_29,ln_2c20,ln_2c,ln_2c29,ln_3c,ln_3e,ln_3a3a,ln_26,ln_6d757420,ln_72656620,ln_204020,ln_2e2e3d,ln_207b20,ln_207d,ln_7d,ln_2e2e,ln_3a20,ln_207c20,ln_5f,ln_21,ln_2761,ln_54,ln_7538,ln_78,ln_79,ln_6e,ln_6d,ln_74727565,ln_66616c7365,ln_37,ln_2d31,ln_2d33,ln_39,ln_31,ln_32,ln_73656c66,ln_53656c66,ln_7375706572,ln_6372617465,ln_41,ln_62,ln_4332,ln_3c75383e,ln_3c27612c20542c205f3e]; omega) | (simp only [lenIf, PySem.Str.length_append, PySem.sizeLine_eq, ln_e,ln_28,ln_29,ln_2c20,ln_2c,ln_2c29,ln_3c,ln_3e,ln_3a3a,ln_26,ln_6d757420,ln_72656620,ln_204020,ln_2e2e3d,ln_207b20,ln_207d,ln_7d,ln_2e2e,ln_3a20,ln_207c20,ln_5f,ln_21,ln_2761,ln_54,ln_7538,ln_78,ln_79,ln_6e,ln_6d,ln_74727565,ln_66616c7365,ln_37,ln_2d31,ln_2d33,ln_39,ln_31,ln_32,ln_73656c66,ln_53656c66,ln_7375706572,ln_6372617465,ln_41,ln_62,ln_4332,ln_3c75383e,ln_3c27612c20542c205f3e]; (repeat' split) <;> omega))); intro t9 tk9; (try dsimp only [PV.at])))
  k_with "my eval BinOp" => ((k_here; (with_reducible show wpAny _ _ (eval (Expr.BinOp (Expr.Constant _ _ _) Operator.Mult (Expr.Call (Expr.Name _ _) [Expr.Name _ _] [] _) _) _) _ _ _); k_dflt (refine' mul_intE ?zqhe ?zqF ?zqX ?zqT ?zqhI ?zqhx ?zqhk ?zqhi ?zqhxl ?zqhl ?_; (case zqhe => exact rfl); (case zqF => k_asm); (case zqX => k_asm); (case zqT => k_asm); (case zqhI => k_is); (case zqhx => rfl); (case zqhk => rfl); (case zqhi => rfl); (case zqhxl => rfl); (case zqhl => decide +kernel)); intro t9 tk9; (try dsimp only)))
  k_with "my eval Compare" => ((k_here; (with_reducible show wpAny _ _ (eval (Expr.Compare _ _ _ _) _) _ _ _); k_dflt (refine' pure_evalE ?zqhe ?zqhpl ?zqF ?zqhk ?zqh ?zqhn ?_; (case zqhpl => exact rfl); (case zqhe => exact rfl); (case zqF => k_asm); (case zqhk => rfl); (case zqh => exact rfl); (case zqhn => first | exact Nat.zero_le _ | k_extra "my size9" | (simp only [PySem.Str.length_append, PySem.sizeLine_eq, ln_e,ln_28,ln_29,ln_2c20,ln_2c,ln_2c29,ln_3c,ln_3e,ln_3a3a,ln_26,ln_6d757420,ln_72656620,ln_204020,ln_2e2e3d,ln_207b20,ln_207d,ln_7d,ln_2e2e,ln_3a20,ln_207c20,ln_5f,ln_21,ln_2761,ln_54,ln_7538,ln_78,ln_79,ln_6e,ln_6d,ln_74727565,ln_66616c7365,ln_37,ln_2d31,ln_2d33,ln_39,ln_31,ln_32,ln_73656c66,ln_53656c66,ln_7375706572,ln_6372617465,ln_41,ln_62,ln_4332,ln_3c75383e,ln_3c27612c20542c205f3e]; omega) | (simp only [lenIf, PySem.Str.length_append, PySem.sizeLine_eq, ln_e,ln_28,ln_29,ln_2c20,ln_2c,ln_2c29,ln_3c,ln_3e,ln_3a3a,ln_26,ln_6d757420,ln_72656620,ln_204020,ln_2e2e3d,ln_207b20,ln_207d,ln_7d,ln_2e2e,ln_3a20,ln_207c20,ln_5f,ln_21,ln_2761,ln_54,ln_7538,ln_78,ln_79,ln_6e,ln_6d,ln_74727565,ln_66616c7365,ln_37,ln_2d31,ln_2d33,ln_39,ln_31,ln_32,ln_73656c66,ln_53656c66,ln_7375706572,ln_6372617465,ln_41,ln_62,ln_4332,ln_3c75383e,ln_3c27612c20542c205f3e]; (repeat' split) <;> omega))); intro t9 tk9; (try dsimp only [PV.at])))
  k_with "my eval IfExp" => ((k_here; (with_reducible show wpAny _ _ (eval (Expr.IfExp _ _ _ _) _) _ _ _); k_dflt (refine' pure_evalE ?zqhe ?zqhpl ?zqF ?zqhk ?zqh ?zqhn ?_; (case zqhpl => exact rfl); (case zqhe => exact rfl); (case zqF => k_asm); (case zqhk => rfl); (case zqh => exact rfl); (case zqhn => first | exact Nat.zero_le _ | k_extra "my size9" | (simp only [PySem.Str.length_append, PySem.sizeLine_eq, ln_e,ln_28,ln_29,ln_2c20,ln_2c,ln_2c29,ln_3c,ln_3e,ln_3a3a,ln_26,ln_6d757420,ln_72656620,ln_204020,ln_2e2e3d,ln_207b20,ln_207d,ln_7d,ln_2e2e,ln_3a20,ln_207c20,ln_5f,ln_21,ln_2761,ln_54,ln_7538,ln_78,ln_79,ln_6e,ln_6d,ln_74727565,ln_66616c7365,ln_37,ln_2d31,ln_2d33,ln_39,ln_31,ln_32,ln_73656c66,ln_53656c66,ln_7375706572,ln_6372617465,ln_41,ln_62,ln_4332,ln_3c75383e,ln_3c27612c20542c205f3e]; omega) | (simp only [lenIf, PySem.Str.length_append, PySem.sizeLine_eq, ln_e,ln_28,ln_29,ln_2c20,ln_2c,ln_2c29,ln_3c,ln_3e,ln_3a3a,ln_26,ln_6d757420,ln_72656620,ln_204020,ln_2e2e3d,ln_207b20,ln_207d,ln_7d,ln_2e2e,ln_3a20,ln_207c20,ln_5f,ln_21,ln_2761,ln_54,ln_7538,ln_78,ln_79,ln_6e,ln_6d,ln_74727565,ln_66616c7365,ln_37,ln_2d31,ln_2d33,ln_39,ln_31,ln_32,ln_73656c66,ln_53656c66,ln_7375706572,ln_6372617465,ln_41,ln_62,ln_4332,ln_3c75383e,ln_3c27612c20542c205f3e]; (repeat' split) <;> omega))); intro t9 tk9; (try dsimp only [PV.at])))
  k_with "my isTrue Compare" => ((k_here; (with_reducible show wpAny _ _ (PySem.isTrue (Expr.Compare _ _ _ _) _ _) _ _ _); k_dflt (refine' pure_testE ?zqhe ?zqhpl ?zqF ?zqhk ?zqhp ?zqh ?zqhc ?zqhn ?_; (case zqhpl => exact rfl); (case zqhe => exact rfl); (case zqF => k_asm); (case zqhk => rfl); (case zqh => exact rfl); (case zqhn => first | exact Nat.zero_le _ | k_extra "my size9" | (simp only [PySem.Str.length_append, PySem.sizeLine_eq, ln_e,ln_28,ln_29,ln_2c20,ln_2c,ln_2c29,ln_3c,ln_3e,ln_3a3a,ln_26,ln_6d757420,ln_72656620,ln_204020,ln_2e2e3d,ln_207b20,ln_207d,ln_7d,ln_2e2e,ln_3a20,ln_207c20,ln_5f,ln_21,ln_2761,ln_54,ln_7538,ln_78,ln_79,ln_6e,ln_6d,ln_74727565,ln_66616c7365,ln_37,ln_2d31,ln_2d33,ln_39,ln_31,ln_32,ln_73656c66,ln_53656c66,ln_7375706572,ln_6372617465,ln_41,ln_62,ln_4332,ln_3c75383e,ln_3c27612c20542c205f3e]; omega) | (simp only [lenIf, PySem.Str.length_append, PySem.sizeLine_eq, ln_e,ln_28,ln_29,ln_2c20,ln_2c,ln_2c29,ln_3c,ln_3e,ln_3a3a,ln_26,ln_6d757420,ln_72656620,ln_204020,ln_2e2e3d,ln_207b20,ln_207d,ln_7d,ln_2e2e,ln_3a20,ln_207c20,ln_5f,ln_21,ln_2761,ln_54,ln_7538,ln_78,ln_79,ln_6e,ln_6d,ln_74727565,ln_66616c7365,ln_37,ln_2d31,ln_2d33,ln_39,ln_31,ln_32,ln_73656c66,ln_53656c66,ln_7375706572,ln_6372617465,ln_41,ln_62,ln_4332,ln_3c75383e,ln_3c27612c20542c205f3e]; (repeat' split) <;> omega)); (case zqhp => rfl); (case zqhc => exact rfl)); intro tk9; (try dsimp only)))
  k_with "my eval Tuple" => ((k_here; (with_reducible show wpAny _ _ (eval (Expr.Tuple _ _ _) _) _ _ _); k_dflt (refine' pure_tupleE ?zqhe ?zqhpl ?zqF ?zqN ?zqhk ?zqh ?zqhn ?zqhz ?_; (case zqhpl => exact rfl); (case zqhe => exact rfl); (case zqF => k_asm); (case zqhk => rfl); (case zqh => exact rfl); (case zqhn => first | exact Nat.zero_le _ | k_extra "my size9" | (simp only [PySem.Str.length_append, PySem.sizeLine_eq, ln_e,ln_28,ln_29,ln_2c20,ln_2c,ln_2c29,ln_3c,ln_3e,ln_3a3a,ln_26,ln_6d757420,ln_72656620,ln_204020,ln_2e2e3d,ln_207b20,ln_207d,ln_7d,ln_2e2e,ln_3a20,ln_207c20,ln_5f,ln_21,ln_2761,ln_54,ln_7538,ln_78,ln_79,ln_6e,ln_6d,ln_74727565,ln_66616c7365,ln_37,ln_2d31,ln_2d33,ln_39,ln_31,ln_32,ln_73656c66,ln_53656c66,ln_7375706572,ln_6372617465,ln_41,ln_62,ln_4332,ln_3c75383e,ln_3c27612c20542c205f3e]; omega) | (simp only [lenIf, PySem.Str.length_append, PySem.sizeLine_eq, ln_e,ln_28,ln_29,ln_2c20,ln_2c,ln_2c29,ln_3c,ln_3e,ln_3a3a,ln_26,ln_6d757420,ln_72656620,ln_204020,ln_2e2e3d,ln_207b20,ln_207d,ln_7d,ln_2e2e,ln_3a20,ln_207c20,ln_5f,ln_21,ln_2761,ln_54,ln_7538,ln_78,ln_79,ln_6e,ln_6d,ln_74727565,ln_66616c7365,ln_37,ln_2d31,ln_2d33,ln_39,ln_31,ln_32,ln_73656c66,ln_53656c66,ln_7375706572,ln_6372617465,ln_41,ln_62,ln_4332,ln_3c75383e,ln_3c27612c20542c205f3e]; (repeat' split) <;> omega)); (case zqN => k_asm); (case zqhz => exact Nat.le_of_ble_eq_true rfl)); intro tk9; (try dsimp only [AllAt]); intros; (rename_i D' h' F' N' l1); (try k_lt l1); (try k_sweep)))
  k_with "my spliced" => ((k_here; (with_reducible show wpAny _ _ (spliced (backTo _ (starEach (_ :: _) _))) _ _ _); k_dflt (refine' pure_argsE ?zqhe ?zqhpl ?zqhk ?zqF ?zqh ?zqhn ?_; (case zqhpl => exact rfl); (case zqhe => exact rfl); (case zqF => k_asm); (case zqhk => rfl); (case zqh => exact rfl); (case zqhn => first | exact Nat.zero_le _ | k_extra "my size9" | (simp only [PySem.Str.length_append, PySem.sizeLine_eq, ln_e,ln_28,ln_29,ln_2c20,ln_2c,ln_2c29,ln_3c,ln_3e,ln_3a3a,ln_26,ln_6d757420,ln_72656620,ln_204020,ln_2e2e3d,ln_207b20,ln_207d,ln_7d,ln_2e2e,ln_3a20,ln_207c20,ln_5f,ln_21,ln_2761,ln_54,ln_7538,ln_78,ln_79,ln_6e,ln_6d,ln_74727565,ln_66616c7365,ln_37,ln_2d31,ln_2d33,ln_39,ln_31,ln_32,ln_73656c66,ln_53656c66,ln_7375706572,ln_6372617465,ln_41,ln_62,ln_4332,ln_3c75383e,ln_3c27612c20542c205f3e]; omega) | (simp only [lenIf, PySem.Str.length_append, PySem.sizeLine_eq, ln_e,ln_28,ln_29,ln_2c20,ln_2c,ln_2c29,ln_3c,ln_3e,ln_3a3a,ln_26,ln_6d757420,ln_72656620,ln_204020,ln_2e2e3d,ln_207b20,ln_207d,ln_7d,ln_2e2e,ln_3a20,ln_207c20,ln_5f,ln_21,ln_2761,ln_54,ln_7538,ln_78,ln_79,ln_6e,ln_6d,ln_74727565,ln_66616c7365,ln_37,ln_2d31,ln_2d33,ln_39,ln_31,ln_32,ln_73656c66,ln_53656c66,ln_7375706572,ln_6372617465,ln_41,ln_62,ln_4332,ln_3c75383e,ln_3c27612c20542c205f3e]; (repeat' split) <;> omega))); intro tk9; (try dsimp only [AllAt, List.cons_append, List.nil_append]); intros; (try dsimp only [List.cons_append, List.nil_append])))
  k_with "my eval Name" => ((k_here; (with_reducible show wpAny _ _ (eval (Expr.Name _ _) (envOf _ _ _ _ _)) _ _ _); k_dflt (first | (refine' nameX_L ?zqF ?zqv ?_ ?zqa ?zqb; (case zqF => k_asm); (case zqa => rfl); (case zqb => rfl); (case zqv => rfl); k_whole) | (refine' nameX_K ?zqF ?zqX ?zqT ?zqe ?_ ?zqa ?zqb; (case zqF => k_asm); (case zqX => k_asm); (case zqT => k_asm); (case zqa => rfl); (case zqb => rfl); (case zqe => k_is); k_whole))))
  k_with "my subscriptTail" => ((k_here; (with_reducible show wpAny _ _ (subscriptTail _ _ (Value.ref _) (Value.int _ _)) _ _ _); k_dflt (refine' item_tupleT ?zqt ?zqa ?zqb ?zqc ?zqd ?_; (case zqt => exact istup_mono (Fr.keep (by with_reducible assumption)) (by with_reducible assumption)); (case zqa => decide); (case zqb => decide); (case zqc => rfl); (case zqd => rfl))))
  k_with "my exec For Tuple Name cons nil" => ((k_here; (rename Fr _ _ _ _ => lF'); (with_unfolding_all refine' For_turns lF' ?_)))
  k_with "my pyIter ref" => ((k_here; (with_reducible show wpAny _ _ (pyIter (Value.ref _)) (fun it s₂ => TurnsAt _ _ _ _ _ _ _ _ _ it s₂) _ _); (with_unfolding_all refine' iter_tupB ?zqh ?zqF ?zqN ?zqT ?zqz ?_; (case zqh => with_unfolding_all rfl); (case zqF => k_asm); (case zqN => k_asm); (case zqT => k_asm); (case zqz => exact Nat.le_of_ble_eq_true rfl)); intro i' l1; (try k_lt l1); (try dsimp only [List.map_cons, List.map_nil])))
  k_with "my ItemsRest" => (first | ((refine restV (fun h' tk' F' => ?_)); (refine AllObj.cons (fun o' hc' => ?_)); (try dsimp only at hc'); (refine AllObj.nil (fun N' => ?_)); (try simp only [List.cons_append, List.nil_append] at N')) | (refine rest0 (fun h' tk' F' N' => ?_)))
  k_with "my assign Tuple" => ((k_here; (with_reducible show wpAny _ _ (assign (Expr.Tuple _ _ _) _ (Value.ref _)) _ _ _); k_dflt (refine' unpackN_ ?zqF ?zqN ?zqT ?zqk1 ?zqk2 ?zqk3 ?_; (case zqF => k_asm); (case zqN => k_asm); (case zqT => exact istup_mono (Fr.keep (by with_reducible assumption)) (by with_reducible assumption)); (case zqk1 => exact rfl); (case zqk2 => exact rfl); (case zqk3 => exact rfl)); intro h' F' N'; (try k_sweep)))
  k_with "my call type:list" => ((k_here; (with_reducible show wpAny _ _ (call (Value.type _) [Value.ref _]) _ _ _); k_dflt (refine' list_copyKT ?zqF ?zqN ?zqT ?_ ?zqz; (case zqF => k_asm); (case zqN => k_asm); (case zqT => exact istup_mono (Fr.keep (by with_reducible assumption)) (by with_reducible assumption)); (case zqz => exact Nat.le_of_ble_eq_true rfl)); intro D' c' h' F' N' l1; (try k_lt l1); (try k_sweep)))
  k_with "my eval ListComp" => ((k_here; k_dflt (refine ListComp_T (by k_asm) (by rfl) (by decide) (by rfl) (by decide) (by rfl) ?_)))
  k_with "my SrcT" => ((k_here; k_dflt (first | (refine SrcT.zero (by rfl) (by k_asm) (by k_asm) (by exact istup_mono (Fr.keep (by with_reducible assumption)) (by with_reducible assumption)) ?_) | (refine SrcT.one (by rfl) (by k_asm) (by k_asm) (by exact istup_mono (Fr.keep (by with_reducible assumption)) (by with_reducible assumption)) (by assumption) ?_ ?_) | (refine SrcT.two (by rfl) (by k_asm) (by k_asm) (by exact istup_mono (Fr.keep (by with_reducible assumption)) (by with_reducible assumption)) (by assumption) ?_ ?_ ?_))))
  k_with "my TurnG" => ((unfold TurnG; intro C' oC' m' h' tk' E' hC' hx' F' N' l1 g'; (try k_lt l1); (try dsimp only); (try k_unmd); (try k_fold)))
  k_with "my call builtin:list.append" => ((k_here; (with_reducible show wpAny _ _ (call (Value.builtin _) [Value.ref _, _]) _ _ _); k_dflt (refine' append_K ?zqk1 ?zqk2 ?zqk3 ?_ ?zqz; (case zqk1 => k_asm); (case zqk2 => k_asm); (case zqk3 => k_upd); (case zqz => exact Nat.le_of_ble_eq_true rfl); k_whole); intro h' F' N'; (try simp only [psh0, psh1, psh2] at N'); (try k_sweep)))
  k_with "my GrowEnd" => ((first | exact GrowEnd.intro ⟨_, rfl⟩ (by with_reducible assumption) | exact GrowEnd.intro ⟨_, rfl⟩ (fun _ _ e => e)))
  k_with "my FinG" => ((unfold FinG; (simp only [AllToks]); intros; rename_i D' h' tk' F' N' l1; (try dsimp only [LCg.lst] at N'); (try k_lt l1); (try dsimp only); (try k_sweep)))
  k_with "my subscriptTail" => ((k_here; (with_reducible show wpAny _ _ (subscriptTail _ _ (Value.ref _) (Value.int 0 _)) _ _ _); (refine item0 (istup_mono (Fr.keep (by with_reducible assumption)) (by with_reducible assumption)) ?_)))
  k_with "my compareOp NotEq ref ref" => (((with_reducible show wpAny _ _ (compareOp CmpOp.NotEq (Value.ref _) (Value.ref _)) _ _ _); first | refine ne_lists (by is_list) (by is_list) (by rfl) (by units_room) ?_ | refine ne_empty (by is_list) (by is_list) (by units_room) ?_))
  k_with "my compareOp In str ref" => ((k_here; (refine in_four (News.isTup (by k_asm) (by k_mem)) ?_)))
  k_with "my exec Assign cons ListComp" => ((k_here; k_dflt (refine Assign_ListComp_P (by k_asm) (by rfl) (by with_unfolding_all rfl) (by with_unfolding_all rfl) (by decide) (by rfl) (by decide) (by rfl) (by rfl) (by decide) (by rfl) (by rfl) ?_)))
  k_with "my SrcPA" => ((k_here; k_dflt (first | (refine SrcPA.one (by rfl) (by k_asm) (by k_asm) (by exact istup_mono (Fr.keep (by with_reducible assumption)) (by with_reducible assumption)) (by exact istup_mono (Fr.keep (by with_reducible assumption)) (by with_reducible assumption)) (by assumption) ?_ ?_) | (refine SrcPA.two (by rfl) (by k_asm) (by k_asm) (by exact istup_mono (Fr.keep (by with_reducible assumption)) (by with_reducible assumption)) (by exact istup_mono (Fr.keep (by with_reducible assumption)) (by with_reducible assumption)) (by exact istup_mono (Fr.keep (by with_reducible assumption)) (by with_reducible assumption)) (by assumption) ?_ ?_ ?_))))
  k_with "my TurnG" => ((unfold TurnG; intro C' oC' m' h' tk' E' hC' hx' F' N' l1 g'; (have hx1 := And.left hx'); (have hx2 := And.right hx'); (try k_lt l1); (try dsimp only); (try k_unmd); (try k_fold)))
  k_with "my FinGA" => ((unfold FinGA; (simp only [AllToks]); intros; rename_i D' h' tk' F' N' l1; (try dsimp only [LCg.lst] at N'); (try k_lt l1); (try dsimp only); (try k_sweep)))
  k_with "my call ref" => ((k_here; (with_reducible show wpAny _ _ (call (Value.ref 49) _) _ _ _); k_dflt (first | (refine' wuse (PS.at ?zqhS _) ?zqB ?zqF ?zqX ?zqN ?zqT ?zqhk ?zqhd ?zqhu ?zqhp ?_; (case zqhp => exact PatAt.mono (Fr.keep (by with_reducible assumption)) (by with_reducible assumption)); (case zqhS => assumption); (case zqB => k_asm); (case zqF => k_asm); (case zqX => k_asm); (case zqN => k_asm); (case zqT => k_asm); (case zqhk => first | exact rfl | assumption); (case zqhd => k_extra "my room9"); (case zqhu => k_extra "my units9"); intro t9 h9 tk9 g9 F9 N9; (try dsimp only); (try dsimp only at g9); (try k_sweep)))))
  k_with "my call ref" => ((k_here; (with_reducible show wpAny _ _ (call (Value.ref 44) _) _ _ _); k_dflt (first | (refine' wuse (QS.at ?zqhS _) ?zqB ?zqF ?zqX ?zqN ?zqT ?zqhk ?zqhd ?zqhu ?zqhp ?_; (case zqhp => exact PatAt.mono (Fr.keep (by with_reducible assumption)) (by with_reducible assumption)); (case zqhS => assumption); (case zqB => k_asm); (case zqF => k_asm); (case zqX => k_asm); (case zqN => k_asm); (case zqT => k_asm); (case zqhk => first | exact rfl | assumption); (case zqhd => k_extra "my room9"); (case zqhu => k_extra "my units9"); intro t9 h9 tk9 g9 F9 N9; (try dsimp only); (try dsimp only at g9); (try k_sweep)))))
  k_with "my call ref" => ((k_here; (with_reducible show wpAny _ _ (call (Value.ref 27) _) _ _ _); k_dflt (first | (refine' wuse (path_any _ ?zqok _ _ _ ?zqb0) ?zqB ?zqF ?zqX ?zqN ?zqT ?zqhk ?zqhd ?zqhu ?zqhp ?_; (case zqhp => exact PathAt.mono (Fr.keep (by with_reducible assumption)) (by with_reducible assumption)); (case zqok => assumption); (case zqb0 => first | assumption | k_extra "my size9" | (simp only [ln_e,ln_28,ln_29,ln_2c20,ln_2c,ln_2c29,ln_3c,ln_3e,ln_3a3a,ln_26,ln_6d757420,ln_72656620,ln_204020,ln_2e2e3d,ln_207b20,ln_207d,ln_7d,ln_2e2e,ln_3a20,ln_207c20,ln_5f,ln_21,ln_2761,ln_54,ln_7538,ln_78,ln_79,ln_6e,ln_6d,ln_74727565,ln_66616c7365,ln_37,ln_2d31,ln_2d33,ln_39,ln_31,ln_32,ln_73656c66,ln_53656c66,ln_7375706572,ln_6372617465,ln_41,ln_62,ln_4332,ln_3c75383e,ln_3c27612c20542c205f3e]; omega) | omega); (case zqB => k_asm); (case zqF => k_asm); (case zqX => k_asm); (case zqN => k_asm); (case zqT => k_asm); (case zqhk => first | exact rfl | assumption); (case zqhd => k_extra "my room9"); (case zqhu => k_extra "my units9"); intro t9 h9 tk9 g9 F9 N9; (try dsimp only); (try dsimp only at g9); (try k_sweep)))))
  trivial
theorem long1 (w : World) (n0 : Str) (way : Nat) (pa : Addr) : WSpec w 75 [.ref pa] (fun h => PathAt h (.ref pa) [n0] way) (fun _ => .bool (longB [n0])) (3) := by
  unfold WSpec
  intro prg loose mean mg mb dp un gd cn cs a ccd cl outer A₀ base h₀ L m s Q E B F X T hk hdp hun hpre hret
  have N : News h₀ L s.heap [] := News.nil
  refine wpAny_call ?_
  k_dflt (refine' code_defG (binds := [(Str.ofString "path", .ref pa)]) B F X N T ?kA ?kF ?kK ?k6 ?k7 ?k8 ?k9 ?kB ?_ ?c2 ?c3 ?c4 ?c5; (case kA => exact rfl); (case kF => exact rfl); (case kK => exact hk); (case k6 => k_is); (case k7 => k_is); (case k8 => k_extra "my room9"); (case k9 => first | exact BindsTo.of_eq rfl | exact binds_K (by k_in) rfl (by k_is) rfl rfl rfl); (case c5 => decide); (case kB => exact locs rfl); (case c2 => exact rfl); (case c3 => exact rfl); (case c4 => exact rfl))
  intro g' L' h' FG' F' N' B' X' T' kG'
  (try dsimp only); k_fold
  have hg := gsub_all kG'
  replace hpre := hpre.mono hg
  cases hpre with
  | one h1 h2 =>
    obtain ⟨e1, t1, r1, y1, rfl, h3⟩ := h2.item
    k_steps
    all_goals first | exact wret hret hg (by assumption) ⟨0, congrArg Value.bool (by simp only [longB, List.any_cons, List.any_nil, Bool.or_false])⟩ | (fail "END")
theorem long2 (w : World) (n0 n1 : Str) (way : Nat) (pa : Addr) : WSpec w 75 [.ref pa] (fun h => PathAt h (.ref pa) [n0, n1] way) (fun _ => .bool (longB [n0, n1])) (3) := by
  unfold WSpec
  intro prg loose mean mg mb dp un gd cn cs a ccd cl outer A₀ base h₀ L m s Q E B F X T hk hdp hun hpre hret
  have N : News h₀ L s.heap [] := News.nil
  refine wpAny_call ?_
  k_dflt (refine' code_defG (binds := [(Str.ofString "path", .ref pa)]) B F X N T ?kA ?kF ?kK ?k6 ?k7 ?k8 ?k9 ?kB ?_ ?c2 ?c3 ?c4 ?c5; (case kA => exact rfl); (case kF => exact rfl); (case kK => exact hk); (case k6 => k_is); (case k7 => k_is); (case k8 => k_extra "my room9"); (case k9 => first | exact BindsTo.of_eq rfl | exact binds_K (by k_in) rfl (by k_is) rfl rfl rfl); (case c5 => decide); (case kB => exact locs rfl); (case c2 => exact rfl); (case c3 => exact rfl); (case c4 => exact rfl))
  intro g' L' h' FG' F' N' B' X' T' kG'
  (try dsimp only); k_fold
  have hg := gsub_all kG'
  replace hpre := hpre.mono hg
  cases hpre
  k_steps
  all_goals first | exact wret hret hg (by assumption) ⟨0, rfl⟩ | (fail "END")
theorem long3 (w : World) (n0 n1 n2 : Str) (way : Nat) (pa : Addr) : WSpec w 75 [.ref pa] (fun h => PathAt h (.ref pa) [n0, n1, n2] way) (fun _ => .bool (longB [n0, n1, n2])) (3) := by
  unfold WSpec
  intro prg loose mean mg mb dp un gd cn cs a ccd cl outer A₀ base h₀ L m s Q E B F X T hk hdp hun hpre hret
  have N : News h₀ L s.heap [] := News.nil
  refine wpAny_call ?_
  k_dflt (refine' code_defG (binds := [(Str.ofString "path", .ref pa)]) B F X N T ?kA ?kF ?kK ?k6 ?k7 ?k8 ?k9 ?kB ?_ ?c2 ?c3 ?c4 ?c5; (case kA => exact rfl); (case kF => exact rfl); (case kK => exact hk); (case k6 => k_is); (case k7 => k_is); (case k8 => k_extra "my room9"); (case k9 => first | exact BindsTo.of_eq rfl | exact binds_K (by k_in) rfl (by k_is) rfl rfl rfl); (case c5 => decide); (case kB => exact locs rfl); (case c2 => exact rfl); (case c3 => exact rfl); (case c4 => exact rfl))
  intro g' L' h' FG' F' N' B' X' T' kG'
  (try dsimp only); k_fold
  have hg := gsub_all kG'
  replace hpre := hpre.mono hg
  cases hpre
  k_steps
  all_goals first | exact wret hret hg (by assumption) ⟨0, rfl⟩ | (fail "END")
theorem long_any (w : World) {ns : List Str} {way : Nat} (ok : PathOk ns way) (pa : Addr) : WSpec w 75 [.ref pa] (fun h => PathAt h (.ref pa) ns way) (fun _ => .bool (longB ns)) 3 := by
  cases ok with
  | one _ _ => exact long1 w _ _ pa
  | two _ _ _ => exact long2 w _ _ _ pa
  | three _ _ _ _ => exact long3 w _ _ _ _ pa
theorem words_W9_1 : True := by
  k_with "my call ref" => ((k_here; (with_reducible show wpAny _ _ (call (Value.ref 75) _) _ _ _); k_dflt (first | (refine' wuse (long_any _ ?zqok _) ?zqB ?zqF ?zqX ?zqN ?zqT ?zqhk ?zqhd ?zqhu ?zqhp ?_; (case zqhp => exact PathAt.mono (Fr.keep (by with_reducible assumption)) (by with_reducible assumption)); (case zqok => assumption); (case zqB => k_asm); (case zqF => k_asm); (case zqX => k_asm); (case zqN => k_asm); (case zqT => k_asm); (case zqhk => first | exact rfl | assumption); (case zqhd => k_extra "my room9"); (case zqhu => k_extra "my units9"); intro t9 h9 tk9 g9 F9 N9; (try dsimp only); (try dsimp only at g9); (try k_sweep)))))
  trivial
theorem var0_true (w : World) (ns : List Str) (way : Nat) (hok : PathOk ns way) (hpl : (pathT (Str.ofString "::") way ns).length ≤ 400) (hlg : longB ns = true) (pa : Addr) : WSpec w 68 [.ref pa] (fun h => PatAt h pa (.var0 ns way)) (fun t => .str ((Pt.var0 ns way).T.1) t) (24) := by
  unfold WSpec
  intro prg loose mean mg mb dp un gd cn cs a ccd cl outer A₀ base h₀ L m s Q E B F X T hk hdp hun hpre hret
  have N : News h₀ L s.heap [] := News.nil
  refine wpAny_call ?_
  k_dflt (refine' code_defG (binds := [(Str.ofString "pattern", .ref pa)]) B F X N T ?kA ?kF ?kK ?k6 ?k7 ?k8 ?k9 ?kB ?_ ?c2 ?c3 ?c4 ?c5; (case kA => exact rfl); (case kF => exact rfl); (case kK => exact hk); (case k6 => k_is); (case k7 => k_is); (case k8 => k_extra "my room9"); (case k9 => first | exact BindsTo.of_eq rfl | exact binds_K (by k_in) rfl (by k_is) rfl rfl rfl); (case c5 => decide); (case kB => exact locs rfl); (case c2 => exact rfl); (case c3 => exact rfl); (case c4 => exact rfl))
  intro g' L' h' FG' F' N' B' X' T' kG'
  (try dsimp only); k_fold
  have hg := gsub_all kG'
  replace hpre := hpre.mono hg
  refine hpre.elim _ ?_
  intros
  clear hpre
  k_steps
  all_goals first | exact wretS hret hg (by assumption) (by simp only [hlg, heldT, pT_wild, pT_litT, pT_litF, pT_lit7, pT_litm, pT_rngA, pT_rngB, pT_name, pT_bind, pT_ref, pT_tup1, pT_tup2, pT_var0, pT_var1, pT_var2, pT_fld1, pT_fld2, pT_or2, S, ape, epa, PySem.Str.append_assoc, if_true, if_false, Bool.false_eq_true]) | (fail "END")
theorem var0_false (w : World) (ns : List Str) (way : Nat) (hok : PathOk ns way) (hpl : (pathT (Str.ofString "::") way ns).length ≤ 400) (hlg : longB ns = false) (pa : Addr) : WSpec w 68 [.ref pa] (fun h => PatAt h pa (.var0 ns way)) (fun t => .str ((Pt.var0 ns way).T.1) t) (24) := by
  unfold WSpec
  intro prg loose mean mg mb dp un gd cn cs a ccd cl outer A₀ base h₀ L m s Q E B F X T hk hdp hun hpre hret
  have N : News h₀ L s.heap [] := News.nil
  refine wpAny_call ?_
  k_dflt (refine' code_defG (binds := [(Str.ofString "pattern", .ref pa)]) B F X N T ?kA ?kF ?kK ?k6 ?k7 ?k8 ?k9 ?kB ?_ ?c2 ?c3 ?c4 ?c5; (case kA => exact rfl); (case kF => exact rfl); (case kK => exact hk); (case k6 => k_is); (case k7 => k_is); (case k8 => k_extra "my room9"); (case k9 => first | exact BindsTo.of_eq rfl | exact binds_K (by k_in) rfl (by k_is) rfl rfl rfl); (case c5 => decide); (case kB => exact locs rfl); (case c2 => exact rfl); (case c3 => exact rfl); (case c4 => exact rfl))
  intro g' L' h' FG' F' N' B' X' T' kG'
  (try dsimp only); k_fold
  have hg := gsub_all kG'
  replace hpre := hpre.mono hg
  refine hpre.elim _ ?_
  intros
  clear hpre
  k_steps
  all_goals first | exact wretS hret hg (by assumption) (by simp only [hlg, heldT, pT_wild, pT_litT, pT_litF, pT_lit7, pT_litm, pT_rngA, pT_rngB, pT_name, pT_bind, pT_ref, pT_tup1, pT_tup2, pT_var0, pT_var1, pT_var2, pT_fld1, pT_fld2, pT_or2, S, ape, epa, PySem.Str.append_assoc, if_true, if_false, Bool.false_eq_true]) | (fail "END")
theorem var1 (w : World) (ns : List Str) (way : Nat) (hok : PathOk ns way) (hpl : (pathT (Str.ofString "::") way ns).length ≤ 400) (p : Pt) (hSp : PS w p) (hQp : QS w p) (hwp : p.wt ≤ 1000000) (hlp : p.T.1.length ≤ p.wt ∧ p.T.2.length ≤ p.wt) (pa : Addr) : WSpec w 68 [.ref pa] (fun h => PatAt h pa (.var1 ns way p)) (fun t => .str ((Pt.var1 ns way p).T.1) t) (40 * p.dep + 64) := by
  unfold WSpec
  intro prg loose mean mg mb dp un gd cn cs a ccd cl outer A₀ base h₀ L m s Q E B F X T hk hdp hun hpre hret
  have N : News h₀ L s.heap [] := News.nil
  refine wpAny_call ?_
  k_dflt (refine' code_defG (binds := [(Str.ofString "pattern", .ref pa)]) B F X N T ?kA ?kF ?kK ?k6 ?k7 ?k8 ?k9 ?kB ?_ ?c2 ?c3 ?c4 ?c5; (case kA => exact rfl); (case kF => exact rfl); (case kK => exact hk); (case k6 => k_is); (case k7 => k_is); (case k8 => k_extra "my room9"); (case k9 => first | exact BindsTo.of_eq rfl | exact binds_K (by k_in) rfl (by k_is) rfl rfl rfl); (case c5 => decide); (case kB => exact locs rfl); (case c2 => exact rfl); (case c3 => exact rfl); (case c4 => exact rfl))
  intro g' L' h' FG' F' N' B' X' T' kG'
  (try dsimp only); k_fold
  have hg := gsub_all kG'
  replace hpre := hpre.mono hg
  refine hpre.elim _ ?_
  intros
  clear hpre
  have cf : CompFs [fun t => .str p.T.2 t] := ⟨⟩
  k_steps
  all_goals first | exact wretS hret hg (by assumption) (by simp only [heldT, pT_wild, pT_litT, pT_litF, pT_lit7, pT_litm, pT_rngA, pT_rngB, pT_name, pT_bind, pT_ref, pT_tup1, pT_tup2, pT_var0, pT_var1, pT_var2, pT_fld1, pT_fld2, pT_or2, S, ape, epa, PySem.Str.append_assoc, if_true, if_false, Bool.false_eq_true]) | (fail "END")
theorem var2 (w : World) (ns : List Str) (way : Nat) (hok : PathOk ns way) (hpl : (pathT (Str.ofString "::") way ns).length ≤ 400) (p : Pt) (hSp : PS w p) (hQp : QS w p) (hwp : p.wt ≤ 1000000) (hlp : p.T.1.length ≤ p.wt ∧ p.T.2.length ≤ p.wt) (q : Pt) (hSq : PS w q) (hQq : QS w q) (hwq : q.wt ≤ 1000000) (hlq : q.T.1.length ≤ q.wt ∧ q.T.2.length ≤ q.wt) (pa : Addr) : WSpec w 68 [.ref pa] (fun h => PatAt h pa (.var2 ns way p q)) (fun t => .str ((Pt.var2 ns way p q).T.1) t) (40 * max p.dep q.dep + 64) := by
  unfold WSpec
  intro prg loose mean mg mb dp un gd cn cs a ccd cl outer A₀ base h₀ L m s Q E B F X T hk hdp hun hpre hret
  have N : News h₀ L s.heap [] := News.nil
  refine wpAny_call ?_
  k_dflt (refine' code_defG (binds := [(Str.ofString "pattern", .ref pa)]) B F X N T ?kA ?kF ?kK ?k6 ?k7 ?k8 ?k9 ?kB ?_ ?c2 ?c3 ?c4 ?c5; (case kA => exact rfl); (case kF => exact rfl); (case kK => exact hk); (case k6 => k_is); (case k7 => k_is); (case k8 => k_extra "my room9"); (case k9 => first | exact BindsTo.of_eq rfl | exact binds_K (by k_in) rfl (by k_is) rfl rfl rfl); (case c5 => decide); (case kB => exact locs rfl); (case c2 => exact rfl); (case c3 => exact rfl); (case c4 => exact rfl))
  intro g' L' h' FG' F' N' B' X' T' kG'
  (try dsimp only); k_fold
  have hg := gsub_all kG'
  replace hpre := hpre.mono hg
  refine hpre.elim _ ?_
  intros
  clear hpre
  have cf : CompFs [fun t => .str p.T.2 t, fun t => .str q.T.2 t] := ⟨⟩
  k_steps
  all_goals first | exact wretS hret hg (by assumption) (by simp only [heldT, pT_wild, pT_litT, pT_litF, pT_lit7, pT_litm, pT_rngA, pT_rngB, pT_name, pT_bind, pT_ref, pT_tup1, pT_tup2, pT_var0, pT_var1, pT_var2, pT_fld1, pT_fld2, pT_or2, S, ape, epa, PySem.Str.append_assoc, if_true, if_false, Bool.false_eq_true]) | (fail "END")
theorem fld1_true (w : World) (ns : List Str) (way : Nat) (hok : PathOk ns way) (hpl : (pathT (Str.ofString "::") way ns).length ≤ 400) (p : Pt) (hSp : PS w p) (hQp : QS w p) (hwp : p.wt ≤ 1000000) (hlp : p.T.1.length ≤ p.wt ∧ p.T.2.length ≤ p.wt) (pa : Addr) : WSpec w 80 [.ref pa] (fun h => PatAt h pa (.fld1 ns way true p)) (fun t => .str ((Pt.fld1 ns way true p).T.1) t) (40 * p.dep + 64) := by
  unfold WSpec
  intro prg loose mean mg mb dp un gd cn cs a ccd cl outer A₀ base h₀ L m s Q E B F X T hk hdp hun hpre hret
  have N : News h₀ L s.heap [] := News.nil
  refine wpAny_call ?_
  k_dflt (refine' code_defG (binds := [(Str.ofString "pattern", .ref pa)]) B F X N T ?kA ?kF ?kK ?k6 ?k7 ?k8 ?k9 ?kB ?_ ?c2 ?c3 ?c4 ?c5; (case kA => exact rfl); (case kF => exact rfl); (case kK => exact hk); (case k6 => k_is); (case k7 => k_is); (case k8 => k_extra "my room9"); (case k9 => first | exact BindsTo.of_eq rfl | exact binds_K (by k_in) rfl (by k_is) rfl rfl rfl); (case c5 => decide); (case kB => exact locs rfl); (case c2 => exact rfl); (case c3 => exact rfl); (case c4 => exact rfl))
  intro g' L' h' FG' F' N' B' X' T' kG'
  (try dsimp only); k_fold
  have hg := gsub_all kG'
  replace hpre := hpre.mono hg
  refine hpre.elim _ ?_
  intros
  clear hpre
  have cf : CompFs [(fun t => .str (Str.ofString "n" ++ Str.ofString ": " ++ p.T.2) t)] := ⟨⟩
  k_steps
  all_goals first | exact wretS hret hg (by assumption) (by simp only [heldT, pT_wild, pT_litT, pT_litF, pT_lit7, pT_litm, pT_rngA, pT_rngB, pT_name, pT_bind, pT_ref, pT_tup1, pT_tup2, pT_var0, pT_var1, pT_var2, pT_fld1, pT_fld2, pT_or2, S, ape, epa, PySem.Str.append_assoc, if_true, if_false, Bool.false_eq_true]) | (fail "END")
theorem fld2_true (w : World) (ns : List Str) (way : Nat) (hok : PathOk ns way) (hpl : (pathT (Str.ofString "::") way ns).length ≤ 400) (p : Pt) (hSp : PS w p) (hQp : QS w p) (hwp : p.wt ≤ 1000000) (hlp : p.T.1.length ≤ p.wt ∧ p.T.2.length ≤ p.wt) (q : Pt) (hSq : PS w q) (hQq : QS w q) (hwq : q.wt ≤ 1000000) (hlq : q.T.1.length ≤ q.wt ∧ q.T.2.length ≤ q.wt) (pa : Addr) : WSpec w 80 [.ref pa] (fun h => PatAt h pa (.fld2 ns way true p q)) (fun t => .str ((Pt.fld2 ns way true p q).T.1) t) (40 * max p.dep q.dep + 64) := by
  unfold WSpec
  intro prg loose mean mg mb dp un gd cn cs a ccd cl outer A₀ base h₀ L m s Q E B F X T hk hdp hun hpre hret
  have N : News h₀ L s.heap [] := News.nil
  refine wpAny_call ?_
  k_dflt (refine' code_defG (binds := [(Str.ofString "pattern", .ref pa)]) B F X N T ?kA ?kF ?kK ?k6 ?k7 ?k8 ?k9 ?kB ?_ ?c2 ?c3 ?c4 ?c5; (case kA => exact rfl); (case kF => exact rfl); (case kK => exact hk); (case k6 => k_is); (case k7 => k_is); (case k8 => k_extra "my room9"); (case k9 => first | exact BindsTo.of_eq rfl | exact binds_K (by k_in) rfl (by k_is) rfl rfl rfl); (case c5 => decide); (case kB => exact locs rfl); (case c2 => exact rfl); (case c3 => exact rfl); (case c4 => exact rfl))
  intro g' L' h' FG' F' N' B' X' T' kG'
  (try dsimp only); k_fold
  have hg := gsub_all kG'
  replace hpre := hpre.mono hg
  refine hpre.elim _ ?_
  intros
  clear hpre
  have cf : CompFs [(fun t => .str (Str.ofString "n" ++ Str.ofString ": " ++ p.T.2) t), (fun t => .str (Str.ofString "m" ++ Str.ofString ": " ++ q.T.2) t)] := ⟨⟩
  k_steps
  all_goals first | exact wretS hret hg (by assumption) (by simp only [heldT, pT_wild, pT_litT, pT_litF, pT_lit7, pT_litm, pT_rngA, pT_rngB, pT_name, pT_bind, pT_ref, pT_tup1, pT_tup2, pT_var0, pT_var1, pT_var2, pT_fld1, pT_fld2, pT_or2, S, ape, epa, PySem.Str.append_assoc, if_true, if_false, Bool.false_eq_true]) | (fail "END")
theorem fld1_false (w : World) (ns : List Str) (way : Nat) (hok : PathOk ns way) (hpl : (pathT (Str.ofString "::") way ns).length ≤ 400) (p : Pt) (hSp : PS w p) (hQp : QS w p) (hwp : p.wt ≤ 1000000) (hlp : p.T.1.length ≤ p.wt ∧ p.T.2.length ≤ p.wt) (pa : Addr) : WSpec w 80 [.ref pa] (fun h => PatAt h pa (.fld1 ns way false p)) (fun t => .str ((Pt.fld1 ns way false p).T.1) t) (40 * p.dep + 64) := by
  unfold WSpec
  intro prg loose mean mg mb dp un gd cn cs a ccd cl outer A₀ base h₀ L m s Q E B F X T hk hdp hun hpre hret
  have N : News h₀ L s.heap [] := News.nil
  refine wpAny_call ?_
  k_dflt (refine' code_defG (binds := [(Str.ofString "pattern", .ref pa)]) B F X N T ?kA ?kF ?kK ?k6 ?k7 ?k8 ?k9 ?kB ?_ ?c2 ?c3 ?c4 ?c5; (case kA => exact rfl); (case kF => exact rfl); (case kK => exact hk); (case k6 => k_is); (case k7 => k_is); (case k8 => k_extra "my room9"); (case k9 => first | exact BindsTo.of_eq rfl | exact binds_K (by k_in) rfl (by k_is) rfl rfl rfl); (case c5 => decide); (case kB => exact locs rfl); (case c2 => exact rfl); (case c3 => exact rfl); (case c4 => exact rfl))
  intro g' L' h' FG' F' N' B' X' T' kG'
  (try dsimp only); k_fold
  have hg := gsub_all kG'
  replace hpre := hpre.mono hg
  refine hpre.elim _ ?_
  intros
  clear hpre
  have cf : CompFs [(fun t => .str (Str.ofString "n" ++ Str.ofString ": " ++ p.T.2) t)] := ⟨⟩
  k_steps
  all_goals first | exact wretS hret hg (by assumption) (by simp only [heldT, pT_wild, pT_litT, pT_litF, pT_lit7, pT_litm, pT_rngA, pT_rngB, pT_name, pT_bind, pT_ref, pT_tup1, pT_tup2, pT_var0, pT_var1, pT_var2, pT_fld1, pT_fld2, pT_or2, S, ape, epa, PySem.Str.append_assoc, if_true, if_false, Bool.false_eq_true]) | (fail "END")
theorem fld2_false (w : World) (ns : List Str) (way : Nat) (hok : PathOk ns way) (hpl : (pathT (Str.ofString "::") way ns).length ≤ 400) (p : Pt) (hSp : PS w p) (hQp : QS w p) (hwp : p.wt ≤ 1000000) (hlp : p.T.1.length ≤ p.wt ∧ p.T.2.length ≤ p.wt) (q : Pt) (hSq : PS w q) (hQq : QS w q) (hwq : q.wt ≤ 1000000) (hlq : q.T.1.length ≤ q.wt ∧ q.T.2.length ≤ q.wt) (pa : Addr) : WSpec w 80 [.ref pa] (fun h => PatAt h pa (.fld2 ns way false p q)) (fun t => .str ((Pt.fld2 ns way false p q).T.1) t) (40 * max p.dep q.dep + 64) := by
  unfold WSpec
  intro prg loose mean mg mb dp un gd cn cs a ccd cl outer A₀ base h₀ L m s Q E B F X T hk hdp hun hpre hret
  have N : News h₀ L s.heap [] := News.nil
  refine wpAny_call ?_
  k_dflt (refine' code_defG (binds := [(Str.ofString "pattern", .ref pa)]) B F X N T ?kA ?kF ?kK ?k6 ?k7 ?k8 ?k9 ?kB ?_ ?c2 ?c3 ?c4 ?c5; (case kA => exact rfl); (case kF => exact rfl); (case kK => exact hk); (case k6 => k_is); (case k7 => k_is); (case k8 => k_extra "my room9"); (case k9 => first | exact BindsTo.of_eq rfl | exact binds_K (by k_in) rfl (by k_is) rfl rfl rfl); (case c5 => decide); (case kB => exact locs rfl); (case c2 => exact rfl); (case c3 => exact rfl); (case c4 => exact rfl))
  intro g' L' h' FG' F' N' B' X' T' kG'
  (try dsimp only); k_fold
  have hg := gsub_all kG'
  replace hpre := hpre.mono hg
  refine hpre.elim _ ?_
  intros
  clear hpre
  have cf : CompFs [(fun t => .str (Str.ofString "n" ++ Str.ofString ": " ++ p.T.2) t), (fun t => .str (Str.ofString "m" ++ Str.ofString ": " ++ q.T.2) t)] := ⟨⟩
  k_steps
  all_goals first | exact wretS hret hg (by assumption) (by simp only [heldT, pT_wild, pT_litT, pT_litF, pT_lit7, pT_litm, pT_rngA, pT_rngB, pT_name, pT_bind, pT_ref, pT_tup1, pT_tup2, pT_var0, pT_var1, pT_var2, pT_fld1, pT_fld2, pT_or2, S, ape, epa, PySem.Str.append_assoc, if_true, if_false, Bool.false_eq_true]) | (fail "END")
end Mine
end

section
open PySem PySem.W PyProof.Rows
namespace Mine
theorem anew_W10 : True := by
  w_top off
  trivial
set_option maxRecDepth 100000
set_option maxHeartbeats 8000000
theorem filler_w10 : Filler PySem.Challenge.rw_xm0582_01 hd.heap_1 := by k_fill; trivial

theorem words_W10_0 : True := by
  k_with_none
  k_with "my dep9" => ((first | ((with_reducible refine dS ?_); k_dflt (exact rfl)) | ((with_reducible refine dL ?_); k_dflt (exact rfl)) | ((with_reducible refine dR ?_); k_dflt (exact rfl)) | ((with_reducible refine dS1 ?_); k_dflt (exact rfl)) | ((with_reducible refine dL1 ?_); k_dflt (exact rfl)) | ((with_reducible refine dR1 ?_); k_dflt (exact rfl)) | ((with_reducible refine d0 ?_); k_dflt (exact rfl)) | ((with_reducible refine dV ?_); k_dflt (exact rfl)) | ((with_reducible refine dW ?_); k_dflt (exact rfl)) | k_dflt (exact le_of_ble rfl) | omega))
  k_with "my room9" => ((first | k_dflt (exact room_0 hdp) | (k_dflt (refine room_a hdp ?_); k_extra "my dep9") | k_dflt (exact Nat.le_of_ble_eq_true rfl) | ktr_room))
  k_with "my units9" => ((first | (k_dflt (refine' units_a hun ?zqua ?zqub); (case zqua => k_extra "my dep9"); (case zqub => k_dflt (exact rfl))) | k_dflt (exact Nat.le_of_ble_eq_true rfl) | ktr_units))
  k_with "my len9" => (((with_reducible show (_ : Nat) ≤ _); first | with_reducible exact Nat.le_refl 0 | ((with_reducible refine' lenApp ?_ ?_) <;> (first | k_extra "my len9" | with_reducible show Nat)) | ((with_reducible refine' addLe ?_ ?_) <;> (first | k_extra "my len9" | with_reducible show Nat)) | ((with_reducible refine' mulLe ?_) <;> (first | k_extra "my len9" | with_reducible show Nat)) | with_reducible assumption | with_reducible exact Nat.le_of_eq ln_e | with_reducible exact Nat.le_of_eq ln_28 | with_reducible exact Nat.le_of_eq ln_29 | with_reducible exact Nat.le_of_eq ln_2c20 | with_reducible exact Nat.le_of_eq ln_2c | with_reducible exact Nat.le_of_eq ln_2c29 | with_reducible exact Nat.le_of_eq ln_3c | with_reducible exact Nat.le_of_eq ln_3e | with_reducible exact Nat.le_of_eq ln_3a3a | with_reducible exact Nat.le_of_eq ln_26 | with_reducible exact Nat.le_of_eq ln_6d757420 | with_reducible exact Nat.le_of_eq ln_72656620 | with_reducible exact Nat.le_of_eq ln_204020 | with_reducible exact Nat.le_of_eq ln_2e2e3d | with_reducible exact Nat.le_of_eq ln_207b20 | with_reducible exact Nat.le_of_eq ln_207d | with_reducible exact Nat.le_of_eq ln_7d | with_reducible exact Nat.le_of_eq ln_2e2e | with_reducible exact Nat.le_of_eq ln_3a20 | with_reducible exact Nat.le_of_eq ln_207c20 | with_reducible exact Nat.le_of_eq ln_5f | with_reducible exact Nat.le_of_eq ln_21 | with_reducible exact Nat.le_of_eq ln_2761 | with_reducible exact Nat.le_of_eq ln_54 | with_reducible exact Nat.le_of_eq ln_7538 | with_reducible exact Nat.le_of_eq ln_78 | with_reducible exact Nat.le_of_eq ln_79 | with_reducible exact Nat.le_of_eq ln_6e | with_reducible exact Nat.le_of_eq ln_6d | with_reducible exact Nat.le_of_eq ln_74727565 | with_reducible exact Nat.le_of_eq ln_66616c7365 | with_reducible exact Nat.le_of_eq ln_37 | with_reducible exact Nat.le_of_eq ln_2d31 | with_reducible exact Nat.le_of_eq ln_2d33 | with_reducible exact Nat.le_of_eq ln_39 | with_reducible exact Nat.le_of_eq ln_31 | with_reducible exact Nat.le_of_eq ln_32 | with_reducible exact Nat.le_of_eq ln_73656c66 | with_reducible exact Nat.le_of_eq ln_53656c66 | with_reducible exact Nat.le_of_eq ln_7375706572 | with_reducible exact Nat.le_of_eq ln_6372617465 | with_reducible exact Nat.le_of_eq ln_41 | with_reducible exact Nat.le_of_eq ln_62 | with_reducible exact Nat.le_of_eq ln_4332 | with_reducible exact Nat.le_of_eq ln_3c75383e | with_reducible exact Nat.le_of_eq ln_3c27612c20542c205f3e | with_reducible exact lenW1 (by with_reducible assumption) (by with_reducible assumption) | with_reducible exact lenW2 (by with_reducible assumption) (by with_reducible assumption) | with_reducible exact lenV1 (by with_reducible assumption) (by with_reducible assumption) (by with_reducible assumption) | with_reducible exact lenV2 (by with_reducible assumption) (by with_reducible assumption) (by with_reducible assumption) | with_reducible exact And.left (by with_reducible assumption) | with_reducible exact And.right (by with_reducible assumption) | ((with_reducible refine' lenIte ?_ ?_) <;> (first | k_extra "my len9" | with_reducible show Nat)) | ((with_reducible refine' iteLe ?_ ?_) <;> (first | k_extra "my len9" | with_reducible show Nat))))
  k_with "my size9" => (((refine' size_of ?zqsa ?zqsb); (case zqsa => k_extra "my len9"); (case zqsb => k_dflt (exact rfl))))
  k_with "my k_steps" => (repeat' (first | (k_unfold; (try dsimp only)) | walk1 | (dsimp only; walk1) | fail "no step"))
  k_with "my binaryOp Add str str" => (((with_reducible show wpAny _ _ (binaryOp Operator.Add (Value.str _ _) (Value.str _ _)) _ _ _); (refine add_str (hsz := ?zqhsz) ?_); (case zqhsz => first | k_extra "my size9" | (simp only [j0, j1, j2, j3, PySem.Str.length_append, PySem.sizeLine_eq, ln_e,ln_28,ln_29,ln_2c20,ln_2c,ln_2c29,ln_3c,ln_3e,ln_3a3a,ln_26,ln_6d757420,ln_72656620,ln_204020,ln_2e2e3d,ln_207b20,ln_207d,ln_7d,ln_2e2e,ln_3a20,ln_207c20,ln_5f,ln_21,ln_2761,ln_54,ln_7538,ln_78,ln_79,ln_6e,ln_6d,ln_74727565,ln_66616c7365,ln_37,ln_2d31,ln_2d33,ln_39,ln_31,ln_32,ln_73656c66,ln_53656c66,ln_7375706572,ln_6372617465,ln_41,ln_62,ln_4332,ln_3c75383e,ln_3c27612c20542c205f3e]; omega)); intro _ _))
  k_with "my ite" => (first | ((refine' PySem.W.ite_pos ?zqhc ?_); (case zqhc => (first | (k_dflt (exact (show _ = true from rfl))) | with_reducible assumption))) | ((refine' PySem.W.ite_neg ?zqhc ?_); (case zqhc => (first | (k_dflt (exact fun hb9 => absurd (show false = true from hb9) Bool.false_ne_true)) | exact fun hb9 => absurd (hb9.symm.trans (by with_reducible assumption)) (by decide)))))
  k_with "my call builtin:str.join" => ((k_here; (with_reducible show wpAny _ _ (call (Value.builtin _) [Value.str _ _, Value.ref _]) _ _ _); k_dflt (first | refine jn0 (by is_list) ?_ | ((refine' jn1 ?zqhl ?zqhz ?_); (case zqhl => is_list); (case zqhz => first | k_extra "my size9" | (simp only [PySem.Str.length_append, ln_e,ln_28,ln_29,ln_2c20,ln_2c,ln_2c29,ln_3c,ln_3e,ln_3a3a,ln_26,ln_6d757420,ln_72656620,ln_204020,ln_2e2e3d,ln_207b20,ln_207d,ln_7d,ln_2e2e,ln_3a20,ln_207c20,ln_5f,ln_21,ln_2761,ln_54,ln_7538,ln_78,ln_79,ln_6e,ln_6d,ln_74727565,ln_66616c7365,ln_37,ln_2d31,ln_2d33,ln_39,ln_31,ln_32,ln_73656c66,ln_53656c66,ln_7375706572,ln_6372617465,ln_41,ln_62,ln_4332,ln_3c75383e,ln_3c27612c20542c205f3e]; omega))) | ((refine' jn2 ?zqhl ?zqhz ?_); (case zqhl => is_list); (case zqhz => first | k_extra "my size9" | (simp only [PySem.Str.length_append, ln_e,ln_28,ln_29,ln_2c20,ln_2c,ln_2c29,ln_3c,ln_3e,ln_3a3a,ln_26,ln_6d757420,ln_72656620,ln_204020,ln_2e2e3d,ln_207b20,ln_207d,ln_7d,ln_2e2e,ln_3a20,ln_207c20,ln_5f,ln_21,ln_2761,ln_54,ln_7538,ln_78,ln_79,ln_6e,ln_6d,ln_74727565,ln_66616c7365,ln_37,ln_2d31,ln_2d33,ln_39,ln_31,ln_32,ln_73656c66,ln_53656c66,ln_7375706572,ln_6372617465,ln_41,ln_62,ln_4332,ln_3c75383e,ln_3c27612c20542c205f3e]; omega))) | ((refine' jn3 ?zqhl ?zqhz ?_); (case zqhl => is_list); (case zqhz => first | k_extra "my size9" | (simp only [PySem.Str.length_append, ln_e,ln_28,ln_29,ln_2c20,ln_2c,ln_2c29,ln_3c,ln_3e,ln_3a3a,ln_26,ln_6d757420,ln_72656620,ln_204020,ln_2e2e3d,ln_207b20,ln_207d,ln_7d,ln_2e2e,ln_3a20,ln_207c20,ln_5f,ln_21,ln_2761,ln_54,ln_7538,ln_78,ln_79,ln_6e,ln_6d,ln_74727565,ln_66616c7365,ln_37,ln_2d31,ln_2d33,ln_39,ln_31,ln_32,ln_73656c66,ln_53656c66,ln_7375706572,ln_6372617465,ln_41,ln_62,ln_4332,ln_3c75383e,ln_3c27612c20542c205f3e]; omega)))); intro _ _))
  k_with "my units_room" => ((first | (k_dflt (refine' units_b hun ?zqua ?zqub); (case zqua => k_extra "my dep9"); (case zqub => k_dflt (exact rfl))) | (have hcL9 := cLine_is; (simp only [units_deeper, units_in1] at *); (try dsimp only [ktrTop] at *); omega)))
  k_with "my compareOp Eq ref ref" => (((with_reducible show wpAny _ _ (compareOp CmpOp.Eq (Value.ref _) (Value.ref _)) _ _ _); first | refine PySem.SeqAt.eq_list_lengthsAt (by is_list) (by is_list) (by rfl) (by units_room) ?_ | refine PySem.SeqAt.eq_listAt (e := fun _ => true) (items := #[]) (items2 := #[]) (by is_list) (by is_list) rfl (by units_room) (fun j h1 h2 => absurd h1 (Nat.not_lt_zero _)) ?_))
  k_with "my binaryOp Add str str" => (((with_reducible show wpAny _ _ (binaryOp Operator.Add (Value.str _ _) (Value.str _ _)) _ _ _); (refine add_str (hsz := ?zqhsz) ?_); (case zqhsz => first | exact Nat.zero_le _ | k_extra "my size9" | (simp only [PySem.Str.length_append, PySem.sizeLine_eq, ln_e,ln_28,ln_29,ln_2c20,ln_2c,ln_2c29,ln_3c,ln_3e,ln_3a3a,ln_26,ln_6d757420,ln_72656620,ln_204020,ln_2e2e3d,ln_207b20,ln_207d,ln_7d,ln_2e2e,ln_3a20,ln_207c20,ln_5f,ln_21,ln_2761,ln_54,ln_7538,ln_78,ln_79,ln_6e,ln_6d,ln_74727565,ln_66616c7365,ln_37,ln_2d31,ln_2d33,ln_39,ln_31,ln_32,ln_73656c66,ln_53656c66,ln_7375706572,ln_6372617465,ln_41,ln_62,ln_4332,ln_3c75383e,ln_3c27612c20542c205f3e]; omega) | (simp only [lenIf, PySem.Str.length_append, PySem.sizeLine_eq, ln_e,ln_28,ln_29,ln_2c20,ln_2c,ln_2c29,ln_3c,ln_3e,ln_3a3a,ln_26,ln_6d757420,ln_72656620,ln_204020,ln_2e2e3d,ln_207b20,ln_207d,ln_7d,ln_2e2e,ln_3a20,ln_207c20,ln_5f,ln_21,ln_2761,ln_54,ln_7538,ln_78,ln_79,ln_6e,ln_6d,ln_74727565,ln_66616c7365,ln_37,ln_2d31,ln_2d33,ln_39,ln_31,ln_32,ln_73656c66,ln_53656c66,ln_7375706572,ln_6372617465,ln_41,ln_62,ln_4332,ln_3c75383e,ln_3c27612c20542c205f3e]; (repeat' split) <;> omega)); intro _ _))
  k_with "my ite" => (first | ((with_reducible refine' ite_int_one ?zqhc ?_); (case zqhc => first | with_reducible assumption | decide)) | ((with_reducible refine' ite_int_two ?_ ?_) <;> intro hk9))
  k_with "my ite" => (first | ((refine' PySem.W.ite_pos ?zqhc ?_); (case zqhc => (first | (k_dflt (exact (show _ = true from rfl))) | with_reducible assumption))) | ((refine' PySem.W.ite_neg ?zqhc ?_); (case zqhc => (first | (k_dflt (exact fun hb9 => absurd (show false = true from hb9) Bool.false_ne_true)) | exact fun hb9 => absurd (hb9.symm.trans (by with_reducible assumption)) (by decide)))))
  k_with "my storeName" => ((k_here; (with_reducible show wpAny _ _ (storeName _ _ _) _ _ _); k_dflt (refine' storeU ?zqhe ?zqF ?zqN ?zqhk ?zqhx ?_; (case zqhe => exact rfl); (case zqF => k_asm); (case zqN => k_asm); (case zqhk => rfl); (case zqhx => rfl)); intro h' M' F' N'; (try dsimp only); (try k_sweep)))
  k_with "my execs cons Assign cons" => ((k_here; (with_reducible show wpAny _ _ (execs (Stmt.Assign [Expr.Name _ _] _ _ :: _) _) _ _ _); k_dflt (refine' pure_assignE ?zqhe ?zqhpl ?zqF ?zqN ?zqhk ?zqh ?zqhn ?zqhx ?zqsw ?_; (case zqhpl => exact rfl); (case zqhe => exact rfl); (case zqF => k_asm); (case zqhk => rfl); (case zqh => exact rfl); (case zqhn => first | exact Nat.zero_le _ | k_extra "my size9" | (simp only [PySem.Str.length_append, PySem.sizeLine_eq, ln_e,ln_28,ln_29,ln_2c20,ln_2c,ln_2c29,ln_3c,ln_3e,ln_3a3a,ln_26,ln_6d757420,ln_72656620,ln_204020,ln_2e2e3d,ln_207b20,ln_207d,ln_7d,ln_2e2e,ln_3a20,ln_207c20,ln_5f,ln_21,ln_2761,ln_54,ln_7538,ln_78,ln_79,ln_6e,ln_6d,ln_74727565,ln_66616c7365,ln_37,ln_2d31,ln_2d33,ln_39,ln_31,ln_32,ln_73656c66,ln_53656c66,ln_7375706572,ln_6372617465,ln_41,ln_62,ln_4332,ln_3c75383e,ln_3c27612c20542c205f3e]; omega) | (simp only [lenIf, PySem.Str.length_append, PySem.sizeLine_eq, ln_e,ln_28,ln_29,ln_2c20,ln_2c,ln_2c29,ln_3c,ln_3e,ln_3a3a,ln_26,ln_6d757420,ln_72656620,ln_204020,ln_2e2e3d,ln_207b20,ln_207d,ln_7d,ln_2e2e,ln_3a20,ln_207c20,ln_5f,ln_21,ln_2761,ln_54,ln_7538,ln_78,ln_79,ln_6e,ln_6d,ln_74727565,ln_66616c7365,ln_37,ln_2d31,ln_2d33,ln_39,ln_31,ln_32,ln_73656c66,ln_53656c66,ln_7375706572,ln_6372617465,ln_41,ln_62,ln_4332,ln_3c75383e,ln_3c27612c20542c205f3e]; (repeat' split) <;> omega)); (case zqN => k_asm); (case zqhx => rfl); (case zqsw => rfl)); (try dsimp -zeta only [PV.at]); intro t9 h9 tk9 M9 F9 N9))
  k_with "my execs cons If" => ((k_here; (with_reducible show wpAny _ _ (execs (Stmt.If _ _ [] _ :: _) _) _ _ _); k_dflt (refine' pure_ifE ?zqhe ?zqhpl ?zqF ?zqhk ?zqhp ?zqh ?zqhn ?zqhc ?_; (case zqhpl => exact rfl); (case zqhe => exact rfl); (case zqF => k_asm); (case zqhk => rfl); (case zqh => exact rfl); (case zqhn => first | exact Nat.zero_le _ | k_extra "my size9" | (simp only [PySem.Str.length_append, PySem.sizeLine_eq, ln_e,ln_28,ln_29,ln_2c20,ln_2c,ln_2c29,ln_3c,ln_3e,ln_3a3a,ln_26,ln_6d757420,ln_72656620,ln_204020,ln_2e2e3d,ln_207b20,ln_207d,ln_7d,ln_2e2e,ln_3a20,ln_207c20,ln_5f,ln_21,ln_2761,ln_54,ln_7538,ln_78,ln_79,ln_6e,ln_6d,ln_74727565,ln_66616c7365,ln_37,ln_2d31,ln_2d33,ln_39,ln_31,ln_32,ln_73656c66,ln_53656c66,ln_7375706572,ln_6372617465,ln_41,ln_62,ln_4332,ln_3c75383e,ln_3c27612c20542c205f3e]; omega) | (simp only [lenIf, PySem.Str.length_append, PySem.sizeLine_eq, ln_e,ln_28,ln_29,ln_2c20,ln_2c,ln_2c29,ln_3c,ln_3e,ln_3a3a,ln_26,ln_6d757420,ln_72656620,ln_204020,ln_2e2e3d,ln_207b20,ln_207d,ln_7d,ln_2e2e,ln_3a20,ln_207c20,ln_5f,ln_21,ln_2761,ln_54,ln_7538,ln_78,ln_79,ln_6e,ln_6d,ln_74727565,ln_66616c7365,ln_37,ln_2d31,ln_2d33,ln_39,ln_31,ln_32,ln_73656c66,ln_53656c66,ln_7375706572,ln_6372617465,ln_41,ln_62,ln_4332,ln_3c75383e,ln_3c27612c20542c205f3e]; (repeat' split) <;> omega)); (case zqhp => rfl); (case zqhc => exact rfl)); intro tk9; (try dsimp only)))
  k_with "my eval BinOp" => ((k_here; (with_reducible show wpAny _ _ (eval (Expr.BinOp _ _ _ _) _) _ _ _); k_dflt (refine' pure_evalE ?zqhe ?zqhpl ?zqF ?zqhk ?zqh ?zqhn ?_; (case zqhpl => exact rfl); (case zqhe => exact rfl); (case zqF => k_asm); (case zqhk => rfl); (case zqh => exact rfl); (case zqhn => first | exact Nat.zero_le _ | k_extra "my size9" | (simp only [PySem.Str.length_append, PySem.sizeLine_eq, ln_e,ln_28,ln_29,ln_2c20,ln_2c,ln_2c29,ln_3c,ln_3e,ln_3a3a,ln_26,ln_6d757420,ln_72656620,ln_204020,ln_2e2e3d,ln_207b20,ln_207d,ln_7d,ln_2e2e,ln_3a20,ln_207c20,ln_5f,ln_21,ln_2761,ln_54,ln_7538,ln_78,ln_79,ln_6e,ln_6d,ln_74727565,ln_66616c7365,ln_37,ln_2d31,ln_2d33,ln_39,ln_31,ln_32,ln_73656c66,ln_53656c66,ln_7375706572,ln_6372617465,ln_41,ln_62,ln_4332,ln_3c75383e,ln_3c27612c20542c205f3e]; omega) | (simp only [lenIf, PySem.Str.length_append, PySem.sizeLine_eq, ln_e,ln_28,ln_29,ln_2c20,ln_2c,ln_2c29,ln_3c,ln_3e,ln_3a3a,ln_26,ln_6d757420,ln_72656620,ln_204020,ln_2e2e3d,ln_207b20,ln_207d,ln_7d,ln_2e2e,ln_3a20,ln_207c20,ln_5f,ln_21,ln_2761,ln_54,ln_7538,ln_78,ln_79,ln_6e,ln_6d,ln_74727565,ln_66616c7365,ln_37,ln_2d31,ln_2d33,ln_39,ln_31,ln_32,ln_73656c66,ln_53656c66,ln_7375706572,ln_6372617465,ln_41,ln_62,ln_4332,ln_3c75383e,ln_3c27612c20542c205f3e]; (repeat' split) <;> omega))); intro t9 tk9; (try dsimp only [PV.at])))
  k_with "my eval BinOp" => ((k_here; (with_reducible show wpAny _ _ (eval (Expr.BinOp (Expr.Constant _ _ _) Operator.Mult (Expr.Call (Expr.Name _ _) [Expr.Name _ _] [] _) _) _) _ _ _); k_dflt (refine' mul_intE ?zqhe ?zqF ?zqX ?zqT ?zqhI ?zqhx ?zqhk ?zqhi ?zqhxl ?zqhl ?_; (case zqhe => exact rfl); (case zqF => k_asm); (case zqX => k_asm); (case zqT => k_asm); (case zqhI => k_is); (case zqhx => rfl); (case zqhk => rfl); (case zqhi => rfl); (case zqhxl => rfl); (case zqhl => decide +kernel)); intro t9 tk9; (try dsimp only)))
  k_with "my eval Compare" => ((k_here; (with_reducible show wpAny _ _ (eval (Expr.Compare _ _ _ _) _) _ _ _); k_dflt (refine' pure_evalE ?zqhe ?zqhpl ?zqF ?zqhk ?zqh ?zqhn ?_; (case zqhpl => exact rfl); (case zqhe => exact rfl); (case zqF => k_asm); (case zqhk => rfl); (case zqh => exact rfl); (case zqhn => first | exact Nat.zero_le _ | k_extra "my size9" | (simp only [PySem.Str.length_append, PySem.sizeLine_eq, ln_e,ln_28,ln_29,ln_2c20,ln_2c,ln_2c29,ln_3c,ln_3e,ln_3a3a,ln_26,ln_6d757420,ln_72656620,ln_204020,ln_2e2e3d,ln_207b20,ln_207d,ln_7d,ln_2e2e,ln_3a20,ln_207c20,ln_5f,ln_21,ln_2761,ln_54,ln_7538,ln_78,ln_79,ln_6e,ln_6d,ln_74727565,ln_66616c7365,ln_37,ln_2d31,ln_2d33,ln_39,ln_31,ln_32,ln_73656c66,ln_53656c66,ln_7375706572,ln_6372617465,ln_41,ln_62,ln_4332,ln_3c75383e,ln_3c27612c20542c205f3e]; omega) | (simp only [lenIf, PySem.Str.length_append, PySem.sizeLine_eq, ln_e,ln_28,ln_29,ln_2c20,ln_2c,ln_2c29,ln_3c,ln_3e,ln_3a3a,ln_26,ln_6d757420,ln_72656620,ln_204020,ln_2e2e3d,ln_207b20,ln_207d,ln_7d,ln_2e2e,ln_3a20,ln_207c20,ln_5f,ln_21,ln_2761,ln_54,ln_7538,ln_78,ln_79,ln_6e,ln_6d,ln_74727565,ln_66616c7365,ln_37,ln_2d31,ln_2d33,ln_39,ln_31,ln_32,ln_73656c66,ln_53656c66,ln_7375706572,ln_6372617465,ln_41,ln_62,ln_4332,ln_3c75383e,ln_3c27612c20542c205f3e]; (repeat' split) <;> omega))); intro t9 tk9; (try dsimp only [PV.at])))
  k_with "my eval IfExp" => ((k_here; (with_reducible show wpAny _ _ (eval (Expr.IfExp _ _ _ _) _) _ _ _); k_dflt (refine' pure_evalE ?zqhe ?zqhpl ?zqF ?zqhk ?zqh ?zqhn ?_; (case zqhpl => exact rfl); (case zqhe => exact rfl); (case zqF => k_asm); (case zqhk => rfl); (case zqh => exact rfl); (case zqhn => first | exact Nat.zero_le _ | k_extra "my size9" | (simp only [PySem.Str.length_append, PySem.sizeLine_eq, ln_e,ln_28,ln_29,ln_2c20,ln_2c,ln_2c29,ln_3c,ln_3e,ln_3a3a,ln_26,ln_6d757420,ln_72656620,ln_204020,ln_2e2e3d,ln_207b20,ln_207d,ln_7d,ln_2e2e,ln_3a20,ln_207c20,ln_5f,ln_21,ln_2761,ln_54,ln_7538,ln_78,ln_79,ln_6e,ln_6d,ln_74727565,ln_66616c7365,ln_37,ln_2d31,ln_2d33,ln_39,ln_31,ln_32,ln_73656c66,ln_53656c66,ln_7375706572,ln_6372617465,ln_41,ln_62,ln_4332,ln_3c75383e,ln_3c27612c20542c205f3e]; omega) | (simp only [lenIf, PySem.Str.length_append, PySem.sizeLine_eq, ln_e,ln_28,ln_29,ln_2c20,ln_2c,ln_2c29,ln_3c,ln_3e,ln_3a3a,ln_26,ln_6d757420,ln_72656620,ln_204020,ln_2e2e3d,ln_207b20,ln_207d,ln_7d,ln_2e2e,ln_3a20,ln_207c20,ln_5f,ln_21,ln_2761,ln_54,ln_7538,ln_78,ln_79,ln_6e,ln_6d,ln_74727565,ln_66616c7365,ln_37,ln_2d31,ln_2d33,ln_39,ln_31,ln_32,ln_73656c66,ln_53656c66,ln_7375706572,ln_6372617465,ln_41,ln_62,ln_4332,ln_3c75383e,ln_3c27612c20542c205f3e]; (repeat' split) <;> omega))); intro t9 tk9; (try dsimp only [PV.at])))
  k_with "my isTrue Compare" => ((k_here; (with_reducible show wpAny _ _ (PySem.isTrue (Expr.Compare _ _ _ _) _ _) _ _ _); k_dflt (refine' pure_testE ?zqhe ?zqhpl ?zqF ?zqhk ?zqhp ?zqh ?zqhc ?zqhn ?_; (case zqhpl => exact rfl); (case zqhe => exact rfl); (case zqF => k_asm); (case zqhk => rfl); (case zqh => exact rfl); (case zqhn => first | exact Nat.zero_le _ | k_extra "my size9" | (simp only [PySem.Str.length_append, PySem.sizeLine_eq, ln_e,ln_28,ln_29,ln_2c20,ln_2c,ln_2c29,ln_3c,ln_3e,ln_3a3a,ln_26,ln_6d757420,ln_72656620,ln_204020,ln_2e2e3d,ln_207b20,ln_207d,ln_7d,ln_2e2e,ln_3a20,ln_207c20,ln_5f,ln_21,ln_2761,ln_54,ln_7538,ln_78,ln_79,ln_6e,ln_6d,ln_74727565,ln_66616c7365,ln_37,ln_2d31,ln_2d33,ln_39,ln_31,ln_32,ln_73656c66,ln_53656c66,ln_7375706572,ln_6372617465,ln_41,ln_62,ln_4332,ln_3c75383e,ln_3c27612c20542c205f3e]; omega) | (simp only [lenIf, PySem.Str.length_append, PySem.sizeLine_eq, ln_e,ln_28,ln_29,ln_2c20,ln_2c,ln_2c29,ln_3c,ln_3e,ln_3a3a,ln_26,ln_6d757420,ln_72656620,ln_204020,ln_2e2e3d,ln_207b20,ln_207d,ln_7d,ln_2e2e,ln_3a20,ln_207c20,ln_5f,ln_21,ln_2761,ln_54,ln_7538,ln_78,ln_79,ln_6e,ln_6d,ln_74727565,ln_66616c7365,ln_37,ln_2d31,ln_2d33,ln_39,ln_31,ln_32,ln_73656c66,ln_53656c66,ln_7375706572,ln_6372617465,ln_41,ln_62,ln_4332,ln_3c75383e,ln_3c27612c20542c205f3e]; (repeat' split) <;> omega)); (case zqhp => rfl); (case zqhc => exact rfl)); intro tk9; (try dsimp only)))
  k_with "my eval Tuple" => ((k_here; (with_reducible show wpAny _ _ (eval (Expr.Tuple _ _ _) _) _ _ _); k_dflt (refine' pure_tupleE ?zqhe ?zqhpl ?zqF ?zqN ?zqhk ?zqh ?zqhn ?zqhz ?_; (case zqhpl => exact rfl); (case zqhe => exact rfl); (case zqF => k_asm); (case zqhk => rfl); (case zqh => exact rfl); (case zqhn => first | exact Nat.zero_le _ | k_extra "my size9" | (simp only [PySem.Str.length_append, PySem.sizeLine_eq, ln_e,ln_28,ln_29,ln_2c20,ln_2c,ln_2c29,ln_3c,ln_3e,ln_3a3a,ln_26,ln_6d757420,ln_72656620,ln_204020,ln_2e2e3d,ln_207b20,ln_207d,ln_7d,ln_2e2e,ln_3a20,ln_207c20,ln_5f,ln_21,ln_2761,ln_54,ln_7538,ln_78,ln_79,ln_6e,ln_6d,ln_74727565,ln_66616c7365,ln_37,ln_2d31,ln_2d33,ln_39,ln_31,ln_32,ln_73656c66,ln_53656c66,ln_7375706572,ln_6372617465,ln_41,ln_62,ln_4332,ln_3c75383e,ln_3c27612c20542c205f3e]; omega) | (simp only [lenIf, PySem.Str.length_append, PySem.sizeLine_eq, ln_e,ln_28,ln_29,ln_2c20,ln_2c,ln_2c29,ln_3c,ln_3e,ln_3a3a,ln_26,ln_6d757420,ln_72656620,ln_204020,ln_2e2e3d,ln_207b20,ln_207d,ln_7d,ln_2e2e,ln_3a20,ln_207c20,ln_5f,ln_21,ln_2761,ln_54,ln_7538,ln_78,ln_79,ln_6e,ln_6d,ln_74727565,ln_66616c7365,ln_37,ln_2d31,ln_2d33,ln_39,ln_31,ln_32,ln_73656c66,ln_53656c66,ln_7375706572,ln_6372617465,ln_41,ln_62,ln_4332,ln_3c75383e,ln_3c27612c20542c205f3e]; (repeat' split) <;> omega)); (case zqN => k_asm); (case zqhz => exact Nat.le_of_ble_eq_true rfl)); intro tk9; (try dsimp only [AllAt]); intros; (rename_i D' h' F' N' l1); (try k_lt l1); (try k_sweep)))
  k_with "my spliced" => ((k_here; (with_reducible show wpAny _ _ (spliced (backTo _ (starEach (_ :: _) _))) _ _ _); k_dflt (refine' pure_argsE ?zqhe ?zqhpl ?zqhk ?zqF ?zqh ?zqhn ?_; (case zqhpl => exact rfl); (case zqhe => exact rfl); (case zqF => k_asm); (case zqhk => rfl); (case zqh => exact rfl); (case zqhn => first | exact Nat.zero_le _ | k_extra "my size9" | (simp only [PySem.Str.length_append, PySem.sizeLine_eq, ln_e,ln_28,ln_29,ln_2c20,ln_2c,ln_2c29,ln_3c,ln_3e,ln_3a3a,ln_26,ln_6d757420,ln_72656620,ln_204020,ln_2e2e3d,ln_207b20,ln_207d,ln_7d,ln_2e2e,ln_3a20,ln_207c20,ln_5f,ln_21,ln_2761,ln_54,ln_7538,ln_78,ln_79,ln_6e,ln_6d,ln_74727565,ln_66616c7365,ln_37,ln_2d31,ln_2d33,ln_39,ln_31,ln_32,ln_73656c66,ln_53656c66,ln_7375706572,ln_6372617465,ln_41,ln_62,ln_4332,ln_3c75383e,ln_3c27612c20542c205f3e]; omega) | (simp only [lenIf, PySem.Str.length_append, PySem.sizeLine_eq, ln_e,ln_28,ln_29,ln_2c20,ln_2c,ln_2c29,ln_3c,ln_3e,ln_3a3a,ln_26,ln_6d757420,ln_72656620,ln_204020,ln_2e2e3d,ln_207b20,ln_207d,ln_7d,ln_2e2e,ln_3a20,ln_207c20,ln_5f,ln_21,ln_2761,ln_54,ln_7538,ln_78,ln_79,ln_6e,ln_6d,ln_74727565,ln_66616c7365,ln_37,ln_2d31,ln_2d33,ln_39,ln_31,ln_32,ln_73656c66,ln_53656c66,ln_7375706572,ln_6372617465,ln_41,ln_62,ln_4332,ln_3c75383e,ln_3c27612c20542c205f3e]; (repeat' split) <;> omega))); intro tk9; (try dsimp only [AllAt, List.cons_append, List.nil_append]); intros; (try dsimp only [List.cons_append, List.nil_append])))
  k_with "my eval Name" => ((k_here; (with_reducible show wpAny _ _ (eval (Expr.Name _ _) (envOf _ _ _ _ _)) _ _ _); k_dflt (first | (refine' nameX_L ?zqF ?zqv ?_ ?zqa ?zqb; (case zqF => k_asm); (case zqa => rfl); (case zqb => rfl); (case zqv => rfl); k_whole) | (refine' nameX_K ?zqF ?zqX ?zqT ?zqe ?_ ?zqa ?zqb; (case zqF => k_asm); (case zqX => k_asm); (case zqT => k_asm); (case zqa => rfl); (case zqb => rfl); (case zqe => k_is); k_whole))))
  k_with "my subscriptTail" => ((k_here; (with_reducible show wpAny _ _ (subscriptTail _ _ (Value.ref _) (Value.int _ _)) _ _ _); k_dflt (refine' item_tupleT ?zqt ?zqa ?zqb ?zqc ?zqd ?_; (case zqt => exact istup_mono (Fr.keep (by with_reducible assumption)) (by with_reducible assumption)); (case zqa => decide); (case zqb => decide); (case zqc => rfl); (case zqd => rfl))))
  k_with "my exec For Tuple Name cons nil" => ((k_here; (rename Fr _ _ _ _ => lF'); (with_unfolding_all refine' For_turns lF' ?_)))
  k_with "my pyIter ref" => ((k_here; (with_reducible show wpAny _ _ (pyIter (Value.ref _)) (fun it s₂ => TurnsAt _ _ _ _ _ _ _ _ _ it s₂) _ _); (with_unfolding_all refine' iter_tupB ?zqh ?zqF ?zqN ?zqT ?zqz ?_; (case zqh => with_unfolding_all rfl); (case zqF => k_asm); (case zqN => k_asm); (case zqT => k_asm); (case zqz => exact Nat.le_of_ble_eq_true rfl)); intro i' l1; (try k_lt l1); (try dsimp only [List.map_cons, List.map_nil])))
  k_with "my ItemsRest" => (first | ((refine restV (fun h' tk' F' => ?_)); (refine AllObj.cons (fun o' hc' => ?_)); (try dsimp only at hc'); (refine AllObj.nil (fun N' => ?_)); (try simp only [List.cons_append, List.nil_append] at N')) | (refine rest0 (fun h' tk' F' N' => ?_)))
  k_with "my assign Tuple" => ((k_here; (with_reducible show wpAny _ _ (assign (Expr.Tuple _ _ _) _ (Value.ref _)) _ _ _); k_dflt (refine' unpackN_ ?zqF ?zqN ?zqT ?zqk1 ?zqk2 ?zqk3 ?_; (case zqF => k_asm); (case zqN => k_asm); (case zqT => exact istup_mono (Fr.keep (by with_reducible assumption)) (by with_reducible assumption)); (case zqk1 => exact rfl); (case zqk2 => exact rfl); (case zqk3 => exact rfl)); intro h' F' N'; (try k_sweep)))
  k_with "my call type:list" => ((k_here; (with_reducible show wpAny _ _ (call (Value.type _) [Value.ref _]) _ _ _); k_dflt (refine' list_copyKT ?zqF ?zqN ?zqT ?_ ?zqz; (case zqF => k_asm); (case zqN => k_asm); (case zqT => exact istup_mono (Fr.keep (by with_reducible assumption)) (by with_reducible assumption)); (case zqz => exact Nat.le_of_ble_eq_true rfl)); intro D' c' h' F' N' l1; (try k_lt l1); (try k_sweep)))
  k_with "my eval ListComp" => ((k_here; k_dflt (refine ListComp_T (by k_asm) (by rfl) (by decide) (by rfl) (by decide) (by rfl) ?_)))
  k_with "my SrcT" => ((k_here; k_dflt (first | (refine SrcT.zero (by rfl) (by k_asm) (by k_asm) (by exact istup_mono (Fr.keep (by with_reducible assumption)) (by with_reducible assumption)) ?_) | (refine SrcT.one (by rfl) (by k_asm) (by k_asm) (by exact istup_mono (Fr.keep (by with_reducible assumption)) (by with_reducible assumption)) (by assumption) ?_ ?_) | (refine SrcT.two (by rfl) (by k_asm) (by k_asm) (by exact istup_mono (Fr.keep (by with_reducible assumption)) (by with_reducible assumption)) (by assumption) ?_ ?_ ?_))))
  k_with "my TurnG" => ((unfold TurnG; intro C' oC' m' h' tk' E' hC' hx' F' N' l1 g'; (try k_lt l1); (try dsimp only); (try k_unmd); (try k_fold)))
  k_with "my call builtin:list.append" => ((k_here; (with_reducible show wpAny _ _ (call (Value.builtin _) [Value.ref _, _]) _ _ _); k_dflt (refine' append_K ?zqk1 ?zqk2 ?zqk3 ?_ ?zqz; (case zqk1 => k_asm); (case zqk2 => k_asm); (case zqk3 => k_upd); (case zqz => exact Nat.le_of_ble_eq_true rfl); k_whole); intro h' F' N'; (try simp only [psh0, psh1, psh2] at N'); (try k_sweep)))
  k_with "my GrowEnd" => ((first | exact GrowEnd.intro ⟨_, rfl⟩ (by with_reducible assumption) | exact GrowEnd.intro ⟨_, rfl⟩ (fun _ _ e => e)))
  k_with "my FinG" => ((unfold FinG; (simp only [AllToks]); intros; rename_i D' h' tk' F' N' l1; (try dsimp only [LCg.lst] at N'); (try k_lt l1); (try dsimp only); (try k_sweep)))
  k_with "my subscriptTail" => ((k_here; (with_reducible show wpAny _ _ (subscriptTail _ _ (Value.ref _) (Value.int 0 _)) _ _ _); (refine item0 (istup_mono (Fr.keep (by with_reducible assumption)) (by with_reducible assumption)) ?_)))
  k_with "my compareOp NotEq ref ref" => (((with_reducible show wpAny _ _ (compareOp CmpOp.NotEq (Value.ref _) (Value.ref _)) _ _ _); first | refine ne_lists (by is_list) (by is_list) (by rfl) (by units_room) ?_ | refine ne_empty (by is_list) (by is_list) (by units_room) ?_))
  k_with "my compareOp In str ref" => ((k_here; (refine in_four (News.isTup (by k_asm) (by k_mem)) ?_)))
  k_with "my exec Assign cons ListComp" => ((k_here; k_dflt (refine Assign_ListComp_P (by k_asm) (by rfl) (by with_unfolding_all rfl) (by with_unfolding_all rfl) (by decide) (by rfl) (by decide) (by rfl) (by rfl) (by decide) (by rfl) (by rfl) ?_)))
  k_with "my SrcPA" => ((k_here; k_dflt (first | (refine SrcPA.one (by rfl) (by k_asm) (by k_asm) (by exact istup_mono (Fr.keep (by with_reducible assumption)) (by with_reducible assumption)) (by exact istup_mono (Fr.keep (by with_reducible assumption)) (by with_reducible assumption)) (by assumption) ?_ ?_) | (refine SrcPA.two (by rfl) (by k_asm) (by k_asm) (by exact istup_mono (Fr.keep (by with_reducible assumption)) (by with_reducible assumption)) (by exact istup_mono (Fr.keep (by with_reducible assumption)) (by with_reducible assumption)) (by exact istup_mono (Fr.keep (by with_reducible assumption)) (by with_reducible assumption)) (by assumption) ?_ ?_ ?_))))
  k_with "my TurnG" => ((unfold TurnG; intro C' oC' m' h' tk' E' hC' hx' F' N' l1 g'; (have hx1 := And.left hx'); (have hx2 := And.right hx'); (try k_lt l1); (try dsimp only); (try k_unmd); (try k_fold)))
  k_with "my FinGA" => ((unfold FinGA; (simp only [AllToks]); intros; rename_i D' h' tk' F' N' l1; (try dsimp only [LCg.lst] at N'); (try k_lt l1); (try dsimp only); (try k_sweep)))
  k_with "my call ref" => ((k_here; (with_reducible show wpAny _ _ (call (Value.ref 49) _) _ _ _); k_dflt (first | (refine' wuse (PS.at ?zqhS _) ?zqB ?zqF ?zqX ?zqN ?zqT ?zqhk ?zqhd ?zqhu ?zqhp ?_; (case zqhp => exact PatAt.mono (Fr.keep (by with_reducible assumption)) (by with_reducible assumption)); (case zqhS => assumption); (case zqB => k_asm); (case zqF => k_asm); (case zqX => k_asm); (case zqN => k_asm); (case zqT => k_asm); (case zqhk => first | exact rfl | assumption); (case zqhd => k_extra "my room9"); (case zqhu => k_extra "my units9"); intro t9 h9 tk9 g9 F9 N9; (try dsimp only); (try dsimp only at g9); (try k_sweep)))))
  k_with "my call ref" => ((k_here; (with_reducible show wpAny _ _ (call (Value.ref 44) _) _ _ _); k_dflt (first | (refine' wuse (QS.at ?zqhS _) ?zqB ?zqF ?zqX ?zqN ?zqT ?zqhk ?zqhd ?zqhu ?zqhp ?_; (case zqhp => exact PatAt.mono (Fr.keep (by with_reducible assumption)) (by with_reducible assumption)); (case zqhS => assumption); (case zqB => k_asm); (case zqF => k_asm); (case zqX => k_asm); (case zqN => k_asm); (case zqT => k_asm); (case zqhk => first | exact rfl | assumption); (case zqhd => k_extra "my room9"); (case zqhu => k_extra "my units9"); intro t9 h9 tk9 g9 F9 N9; (try dsimp only); (try dsimp only at g9); (try k_sweep)))))
  k_with "my call ref" => ((k_here; (with_reducible show wpAny _ _ (call (Value.ref 27) _) _ _ _); k_dflt (first | (refine' wuse (path_any _ ?zqok _ _ _ ?zqb0) ?zqB ?zqF ?zqX ?zqN ?zqT ?zqhk ?zqhd ?zqhu ?zqhp ?_; (case zqhp => exact PathAt.mono (Fr.keep (by with_reducible assumption)) (by with_reducible assumption)); (case zqok => assumption); (case zqb0 => first | assumption | k_extra "my size9" | (simp only [ln_e,ln_28,ln_29,ln_2c20,ln_2c,ln_2c29,ln_3c,ln_3e,ln_3a3a,ln_26,ln_6d757420,ln_72656620,ln_204020,ln_2e2e3d,ln_207b20,ln_207d,ln_7d,ln_2e2e,ln_3a20,ln_207c20,ln_5f,ln_21,ln_2761,ln_54,ln_7538,ln_78,ln_79,ln_6e,ln_6d,ln_74727565,ln_66616c7365,ln_37,ln_2d31,ln_2d33,ln_39,ln_31,ln_32,ln_73656c66,ln_53656c66,ln_7375706572,ln_6372617465,ln_41,ln_62,ln_4332,ln_3c75383e,ln_3c27612c20542c205f3e]; omega) | omega); (case zqB => k_asm); (case zqF => k_asm); (case zqX => k_asm); (case zqN => k_asm); (case zqT => k_asm); (case zqhk => first | exact rfl | assumption); (case zqhd => k_extra "my room9"); (case zqhu => k_extra "my units9"); intro t9 h9 tk9 g9 F9 N9; (try dsimp only); (try dsimp only at g9); (try k_sweep)))))
  trivial
theorem allAt {w : World} {f : Addr} {p : Pt} {R : Tok → Value} {c : Nat} (h : ∀ a, WSpec w f [.ref a] (fun h => PatAt h a p) R c) (a : Addr) : WSpec w f [.ref a] (fun h => PatAt h a p) R c := h a
theorem words_W10_1 : True := by
  k_with "my call ref" => ((k_here; (with_reducible show wpAny _ _ (call (Value.ref 49) _) _ _ _); k_dflt (first | (refine' wuse (allAt ?zqhS _) ?zqB ?zqF ?zqX ?zqN ?zqT ?zqhk ?zqhd ?zqhu ?zqhp ?_; (case zqhp => exact PatAt.mono (Fr.keep (by with_reducible assumption)) (by with_reducible assumption)); (case zqhS => assumption); (case zqB => k_asm); (case zqF => k_asm); (case zqX => k_asm); (case zqN => k_asm); (case zqT => k_asm); (case zqhk => first | exact rfl | assumption); (case zqhd => k_extra "my room9"); (case zqhu => k_extra "my units9"); intro t9 h9 tk9 g9 F9 N9; (try dsimp only); (try dsimp only at g9); (try k_sweep)))))
  trivial
theorem pat_non (w : World) (p : Pt) (c : Nat) (hS : ∀ a, WSpec w 49 [.ref a] (fun h => PatAt h a p) (fun t => .str p.T.1 t) c) (hT : p.T.2 = p.T.1) (hk9 : ∀ q r, p ≠ .or2 q r) (pa : Addr) : WSpec w 44 [.ref pa] (fun h => PatAt h pa p) (fun t => .str (p.T.2) t) (c + 2) := by
  unfold WSpec
  intro prg loose mean mg mb dp un gd cn cs a ccd cl outer A₀ base h₀ L m s Q E B F X T hk hdp hun hpre hret
  have N : News h₀ L s.heap [] := News.nil
  refine wpAny_call ?_
  k_dflt (refine' code_defG (binds := [(Str.ofString "pattern", .ref pa)]) B F X N T ?kA ?kF ?kK ?k6 ?k7 ?k8 ?k9 ?kB ?_ ?c2 ?c3 ?c4 ?c5; (case kA => exact rfl); (case kF => exact rfl); (case kK => exact hk); (case k6 => k_is); (case k7 => k_is); (case k8 => k_extra "my room9"); (case k9 => first | exact BindsTo.of_eq rfl | exact binds_K (by k_in) rfl (by k_is) rfl rfl rfl); (case c5 => decide); (case kB => exact locs rfl); (case c2 => exact rfl); (case c3 => exact rfl); (case c4 => exact rfl))
  intro g' L' h' FG' F' N' B' X' T' kG'
  (try dsimp only); k_fold
  have hg := gsub_all kG'
  replace hpre := hpre.mono hg
  obtain ⟨k8, ⟨l8, t8, hT8⟩, hk8⟩ := hpre.kindAny hk9
  k_steps
  all_goals first | exact wretS hret hg (by assumption) (by simp only [hT, heldT, pT_wild, pT_litT, pT_litF, pT_lit7, pT_litm, pT_rngA, pT_rngB, pT_name, pT_bind, pT_ref, pT_tup1, pT_tup2, pT_var0, pT_var1, pT_var2, pT_fld1, pT_fld2, pT_or2, S, ape, epa, PySem.Str.append_assoc, if_true, if_false, Bool.false_eq_true]) | (fail "END")
theorem words_W10_2 : True := by
  k_with "my call ref" => ((k_here; (with_reducible show wpAny _ _ (call (Value.ref 49) _) _ _ _); k_dflt (first | (refine' wuse (PS.at ?zqhS _) ?zqB ?zqF ?zqX ?zqN ?zqT ?zqhk ?zqhd ?zqhu ?zqhp ?_; (case zqhp => exact PatAt.mono (Fr.keep (by with_reducible assumption)) (by with_reducible assumption)); (case zqhS => assumption); (case zqB => k_asm); (case zqF => k_asm); (case zqX => k_asm); (case zqN => k_asm); (case zqT => k_asm); (case zqhk => first | exact rfl | assumption); (case zqhd => k_extra "my room9"); (case zqhu => k_extra "my units9"); intro t9 h9 tk9 g9 F9 N9; (try dsimp only); (try dsimp only at g9); (try k_sweep)))))
  trivial
theorem pat_or (w : World) (p : Pt) (hSp : PS w p) (hQp : QS w p) (hwp : p.wt ≤ 1000000) (hlp : p.T.1.length ≤ p.wt ∧ p.T.2.length ≤ p.wt) (q : Pt) (hSq : PS w q) (hQq : QS w q) (hwq : q.wt ≤ 1000000) (hlq : q.T.1.length ≤ q.wt ∧ q.T.2.length ≤ q.wt) (pa : Addr) : WSpec w 44 [.ref pa] (fun h => PatAt h pa (.or2 p q)) (fun t => .str ((Pt.or2 p q).T.2) t) (40 * (max p.dep q.dep + 1) + 36) := by
  unfold WSpec
  intro prg loose mean mg mb dp un gd cn cs a ccd cl outer A₀ base h₀ L m s Q E B F X T hk hdp hun hpre hret
  have N : News h₀ L s.heap [] := News.nil
  refine wpAny_call ?_
  k_dflt (refine' code_defG (binds := [(Str.ofString "pattern", .ref pa)]) B F X N T ?kA ?kF ?kK ?k6 ?k7 ?k8 ?k9 ?kB ?_ ?c2 ?c3 ?c4 ?c5; (case kA => exact rfl); (case kF => exact rfl); (case kK => exact hk); (case k6 => k_is); (case k7 => k_is); (case k8 => k_extra "my room9"); (case k9 => first | exact BindsTo.of_eq rfl | exact binds_K (by k_in) rfl (by k_is) rfl rfl rfl); (case c5 => decide); (case kB => exact locs rfl); (case c2 => exact rfl); (case c3 => exact rfl); (case c4 => exact rfl))
  intro g' L' h' FG' F' N' B' X' T' kG'
  (try dsimp only); k_fold
  have hg := gsub_all kG'
  replace hpre := hpre.mono hg
  refine hpre.elim _ ?_
  intros
  clear hpre
  have cf : CompFs [fun t => .str p.T.1 t, fun t => .str q.T.1 t] := ⟨⟩
  k_steps
  all_goals first | exact wretS hret hg (by assumption) (by simp only [heldT, pT_wild, pT_litT, pT_litF, pT_lit7, pT_litm, pT_rngA, pT_rngB, pT_name, pT_bind, pT_ref, pT_tup1, pT_tup2, pT_var0, pT_var1, pT_var2, pT_fld1, pT_fld2, pT_or2, S, ape, epa, PySem.Str.append_assoc, if_true, if_false, Bool.false_eq_true]) | (fail "END")
theorem words_W10_3 : True := by
  k_with "my call ref" => ((k_here; (with_reducible show wpAny _ _ (call (Value.ref 44) _) _ _ _); k_dflt (first | (refine' wuse (allAt ?zqhS _) ?zqB ?zqF ?zqX ?zqN ?zqT ?zqhk ?zqhd ?zqhu ?zqhp ?_; (case zqhp => exact PatAt.mono (Fr.keep (by with_reducible assumption)) (by with_reducible assumption)); (case zqhS => assumption); (case zqB => k_asm); (case zqF => k_asm); (case zqX => k_asm); (case zqN => k_asm); (case zqT => k_asm); (case zqhk => first | exact rfl | assumption); (case zqhd => k_extra "my room9"); (case zqhu => k_extra "my units9"); intro t9 h9 tk9 g9 F9 N9; (try dsimp only); (try dsimp only at g9); (try k_sweep)))))
  trivial
theorem part_or (w : World) (p q : Pt) (hw : p.wt + q.wt ≤ 2000000) (hl : (Pt.or2 p q).T.2.length ≤ p.wt + q.wt + 20) (c : Nat) (hS : ∀ a, WSpec w 44 [.ref a] (fun h => PatAt h a (.or2 p q)) (fun t => .str (Pt.or2 p q).T.2 t) c) (pa : Addr) : WSpec w 49 [.ref pa] (fun h => PatAt h pa (.or2 p q)) (fun t => .str ((Pt.or2 p q).T.1) t) (c + 2) := by
  unfold WSpec
  intro prg loose mean mg mb dp un gd cn cs a ccd cl outer A₀ base h₀ L m s Q E B F X T hk hdp hun hpre hret
  have N : News h₀ L s.heap [] := News.nil
  refine wpAny_call ?_
  k_dflt (refine' code_defG (binds := [(Str.ofString "pattern", .ref pa)]) B F X N T ?kA ?kF ?kK ?k6 ?k7 ?k8 ?k9 ?kB ?_ ?c2 ?c3 ?c4 ?c5; (case kA => exact rfl); (case kF => exact rfl); (case kK => exact hk); (case k6 => k_is); (case k7 => k_is); (case k8 => k_extra "my room9"); (case k9 => first | exact BindsTo.of_eq rfl | exact binds_K (by k_in) rfl (by k_is) rfl rfl rfl); (case c5 => decide); (case kB => exact locs rfl); (case c2 => exact rfl); (case c3 => exact rfl); (case c4 => exact rfl))
  intro g' L' h' FG' F' N' B' X' T' kG'
  (try dsimp only); k_fold
  have hg := gsub_all kG'
  replace hpre := hpre.mono hg
  obtain ⟨l8, t8, hT8⟩ : KindAt g' pa (S "or") := by refine hpre.elim _ ?_; intro _ _ _ _ _ x0 _ _ _; exact ⟨_, _, x0⟩
  k_steps
  all_goals first | exact wretS hret hg (by assumption) (by simp only [heldT, pT_wild, pT_litT, pT_litF, pT_lit7, pT_litm, pT_rngA, pT_rngB, pT_name, pT_bind, pT_ref, pT_tup1, pT_tup2, pT_var0, pT_var1, pT_var2, pT_fld1, pT_fld2, pT_or2, S, ape, epa, PySem.Str.append_assoc, if_true, if_false, Bool.false_eq_true]) | (fail "END")
theorem ref_any (w : World) (p : Pt) (hSp : PS w p) (hQp : QS w p) (hwp : p.wt ≤ 1000000) (hlp : p.T.1.length ≤ p.wt ∧ p.T.2.length ≤ p.wt) (pa : Addr) (m9 : Bool) (b9 : Addr) (t9 u9 : Tok) : WSpec w 56 [.ref pa] (fun h => IsTup h pa #[.str (S "ref") t9, .int 0 u9, .bool m9, .ref b9] ∧ PatAt h b9 p) (fun t => .str (heldT p) t) (40 * p.dep + 44) := by
  unfold WSpec
  intro prg loose mean mg mb dp un gd cn cs a ccd cl outer A₀ base h₀ L m s Q E B F X T hk hdp hun hpre hret
  have N : News h₀ L s.heap [] := News.nil
  refine wpAny_call ?_
  k_dflt (refine' code_defG (binds := [(Str.ofString "pattern", .ref pa)]) B F X N T ?kA ?kF ?kK ?k6 ?k7 ?k8 ?k9 ?kB ?_ ?c2 ?c3 ?c4 ?c5; (case kA => exact rfl); (case kF => exact rfl); (case kK => exact hk); (case k6 => k_is); (case k7 => k_is); (case k8 => k_extra "my room9"); (case k9 => first | exact BindsTo.of_eq rfl | exact binds_K (by k_in) rfl (by k_is) rfl rfl rfl); (case c5 => decide); (case kB => exact locs rfl); (case c2 => exact rfl); (case c3 => exact rfl); (case c4 => exact rfl))
  intro g' L' h' FG' F' N' B' X' T' kG'
  (try dsimp only); k_fold
  have hg := gsub_all kG'
  replace hpre := And.intro (istup_mono hg hpre.1) (hpre.2.mono hg)
  obtain ⟨hp1, hp2⟩ := hpre
  have hr := hp2.root
  cases hr with
  | @name t8 u8 x8 v8 nm8 r8 m8 hi hown =>
    cases r8 <;> cases m8
    all_goals k_steps
    all_goals first | exact wretS hret hg (by assumption) (by simp only [heldT, hown, S, ape, epa, PySem.Str.append_assoc, if_true, if_false, Bool.false_eq_true, Bool.and_true, Bool.and_false, Bool.not_true, Bool.not_false, Bool.true_and, Bool.false_and]) | (fail "END")
  | @range t8 u8 x8 y8 hi hown =>
    k_steps
    all_goals first | exact wretS hret hg (by assumption) (by simp only [heldT, hown, S, ape, epa, PySem.Str.append_assoc, if_true, if_false, Bool.false_eq_true, Bool.and_true, Bool.and_false, Bool.not_true, Bool.not_false, Bool.true_and, Bool.false_and]) | (fail "END")
  | @other l8 k8 t8 hi hk1 hk2 hown =>
    k_steps
    all_goals first | exact wretS hret hg (by assumption) (by simp only [heldT, hown, S, ape, epa, PySem.Str.append_assoc, if_true, if_false, Bool.false_eq_true, Bool.and_true, Bool.and_false, Bool.not_true, Bool.not_false, Bool.true_and, Bool.false_and]) | (fail "END")
theorem all_specs (w : World) : ∀ p : Pt, p.Ok → p.wt ≤ 1000000 → PS w p ∧ QS w p ∧ RS w p := by
  have fin : ∀ p : Pt, p.Ok → p.wt ≤ 1000000 → (∀ q r, p ≠ .or2 q r) → p.T.2 = p.T.1 → (∀ a, WSpec w 49 [.ref a] (fun h => PatAt h a p) (fun t => .str p.T.1 t) (40 * p.dep + 36)) → PS w p ∧ QS w p ∧ RS w p := by
    intro p ok hw hn hT h
    have hS : PS w p := fun a => (h a).lift (by omega)
    have hQ : QS w p := fun a => (pat_non w p _ h hT hn a).lift (by omega)
    exact ⟨hS, hQ, fun a m b t u => ref_any w p hS hQ hw (Pt.len p ok) a m b t u⟩
  intro p
  induction p with
  | wild => intro ok hw; exact fin _ ok hw (fun _ _ e => nomatch e) rfl (part_wild w)
  | litT => intro ok hw; exact fin _ ok hw (fun _ _ e => nomatch e) rfl (part_litT w)
  | litF => intro ok hw; exact fin _ ok hw (fun _ _ e => nomatch e) rfl (part_litF w)
  | lit7 => intro ok hw; exact fin _ ok hw (fun _ _ e => nomatch e) rfl (part_lit7 w)
  | litm => intro ok hw; exact fin _ ok hw (fun _ _ e => nomatch e) rfl (part_litm w)
  | rngA => intro ok hw; exact fin _ ok hw (fun _ _ e => nomatch e) rfl (part_rngA w)
  | rngB => intro ok hw; exact fin _ ok hw (fun _ _ e => nomatch e) rfl (part_rngB w)
  | name r m =>
    intro ok hw
    cases r <;> cases m
    · exact fin _ ok hw (fun _ _ e => nomatch e) rfl (part_name00 w)
    · exact fin _ ok hw (fun _ _ e => nomatch e) rfl (part_name01 w)
    · exact fin _ ok hw (fun _ _ e => nomatch e) rfl (part_name10 w)
    · exact fin _ ok hw (fun _ _ e => nomatch e) rfl (part_name11 w)
  | bind p ih =>
    intro ok hw
    have hw' : p.wt ≤ 1000000 := wA hw
    obtain ⟨a, b, c⟩ := ih ok hw'
    exact fin _ ok hw (fun _ _ e => nomatch e) rfl (part_bind w p a b hw' (Pt.len p ok))
  | ref m p ih =>
    intro ok hw
    have hw' : p.wt ≤ 1000000 := wA hw
    obtain ⟨a, b, c⟩ := ih ok hw'
    cases m
    · exact fin _ ok hw (fun _ _ e => nomatch e) rfl (part_ref_false w p a b hw' (Pt.len p ok) c (heldT_len (Pt.len p ok)))
    · exact fin _ ok hw (fun _ _ e => nomatch e) rfl (part_ref_true w p a b hw' (Pt.len p ok) c (heldT_len (Pt.len p ok)))
  | tup1 p ih =>
    intro ok hw
    have hw' : p.wt ≤ 1000000 := wA hw
    obtain ⟨a, b, c⟩ := ih ok hw'
    exact fin _ ok hw (fun _ _ e => nomatch e) rfl (part_tup1 w p a b hw' (Pt.len p ok))
  | tup2 p q ih ih2 =>
    intro ok hw
    have hw' : p.wt ≤ 1000000 ∧ q.wt ≤ 1000000 := wB hw
    obtain ⟨a, b, c⟩ := ih ok.1 hw'.1
    obtain ⟨d, e, f⟩ := ih2 ok.2 hw'.2
    exact fin _ ok hw (fun _ _ e => nomatch e) rfl (part_tup2 w p a b hw'.1 (Pt.len p ok.1) q d e hw'.2 (Pt.len q ok.2))
  | var0 ns way =>
    intro ok hw
    refine fin _ ok hw (fun _ _ e => nomatch e) rfl fun a => (part_var w (.var0 ns way) 24 (fun a => ?_) (fun h b x => x.kind0) a).lift (by omega)
    cases hlg : longB ns
    · exact var0_false w ns way ok (pathT_len ok) hlg a
    · exact var0_true w ns way ok (pathT_len ok) hlg a
  | var1 ns way p ih =>
    intro ok hw
    have hw' : p.wt ≤ 1000000 := wA hw
    obtain ⟨a, b, c⟩ := ih ok.2 hw'
    exact fin _ ok hw (fun _ _ e => nomatch e) rfl fun x => (part_var w (.var1 ns way p) _ (var1 w ns way ok.1 (pathT_len ok.1) p a b hw' (Pt.len p ok.2)) (fun h b x => x.kind1) x).lift (by simp only [pD_bind, pD_ref, pD_tup1, pD_tup2, pD_var1, pD_var2, pD_fld1, pD_fld2, pD_or2, pD_wild, pD_litT, pD_litF, pD_lit7, pD_litm, pD_rngA, pD_rngB, pD_name, pD_var0]; omega)
  | var2 ns way p q ih ih2 =>
    intro ok hw
    have hw' : p.wt ≤ 1000000 ∧ q.wt ≤ 1000000 := wB hw
    obtain ⟨a, b, c⟩ := ih ok.2.1 hw'.1
    obtain ⟨d, e, f⟩ := ih2 ok.2.2 hw'.2
    exact fin _ ok hw (fun _ _ e => nomatch e) rfl fun x => (part_var w (.var2 ns way p q) _ (var2 w ns way ok.1 (pathT_len ok.1) p a b hw'.1 (Pt.len p ok.2.1) q d e hw'.2 (Pt.len q ok.2.2)) (fun h b x => x.kind2) x).lift (by simp only [pD_bind, pD_ref, pD_tup1, pD_tup2, pD_var1, pD_var2, pD_fld1, pD_fld2, pD_or2, pD_wild, pD_litT, pD_litF, pD_lit7, pD_litm, pD_rngA, pD_rngB, pD_name, pD_var0]; omega)
  | fld1 ns way r p ih =>
    intro ok hw
    have hw' : p.wt ≤ 1000000 := wA hw
    obtain ⟨a, b, c⟩ := ih ok.2 hw'
    cases r
    · exact fin _ ok hw (fun _ _ e => nomatch e) rfl fun x => (part_fld w (.fld1 ns way false p) _ (fld1_false w ns way ok.1 (pathT_len ok.1) p a b hw' (Pt.len p ok.2)) (fun h b x => x.kind3) x).lift (by simp only [pD_bind, pD_ref, pD_tup1, pD_tup2, pD_var1, pD_var2, pD_fld1, pD_fld2, pD_or2, pD_wild, pD_litT, pD_litF, pD_lit7, pD_litm, pD_rngA, pD_rngB, pD_name, pD_var0]; omega)
    · exact fin _ ok hw (fun _ _ e => nomatch e) rfl fun x => (part_fld w (.fld1 ns way true p) _ (fld1_true w ns way ok.1 (pathT_len ok.1) p a b hw' (Pt.len p ok.2)) (fun h b x => x.kind3) x).lift (by simp only [pD_bind, pD_ref, pD_tup1, pD_tup2, pD_var1, pD_var2, pD_fld1, pD_fld2, pD_or2, pD_wild, pD_litT, pD_litF, pD_lit7, pD_litm, pD_rngA, pD_rngB, pD_name, pD_var0]; omega)
  | fld2 ns way r p q ih ih2 =>
    intro ok hw
    have hw' : p.wt ≤ 1000000 ∧ q.wt ≤ 1000000 := wB hw
    obtain ⟨a, b, c⟩ := ih ok.2.1 hw'.1
    obtain ⟨d, e, f⟩ := ih2 ok.2.2 hw'.2
    cases r
    · exact fin _ ok hw (fun _ _ e => nomatch e) rfl fun x => (part_fld w (.fld2 ns way false p q) _ (fld2_false w ns way ok.1 (pathT_len ok.1) p a b hw'.1 (Pt.len p ok.2.1) q d e hw'.2 (Pt.len q ok.2.2)) (fun h b x => x.kind4) x).lift (by simp only [pD_bind, pD_ref, pD_tup1, pD_tup2, pD_var1, pD_var2, pD_fld1, pD_fld2, pD_or2, pD_wild, pD_litT, pD_litF, pD_lit7, pD_litm, pD_rngA, pD_rngB, pD_name, pD_var0]; omega)
    · exact fin _ ok hw (fun _ _ e => nomatch e) rfl fun x => (part_fld w (.fld2 ns way true p q) _ (fld2_true w ns way ok.1 (pathT_len ok.1) p a b hw'.1 (Pt.len p ok.2.1) q d e hw'.2 (Pt.len q ok.2.2)) (fun h b x => x.kind4) x).lift (by simp only [pD_bind, pD_ref, pD_tup1, pD_tup2, pD_var1, pD_var2, pD_fld1, pD_fld2, pD_or2, pD_wild, pD_litT, pD_litF, pD_lit7, pD_litm, pD_rngA, pD_rngB, pD_name, pD_var0]; omega)
  | or2 p q ih ih2 =>
    intro ok hw
    have hw' : p.wt ≤ 1000000 ∧ q.wt ≤ 1000000 := wB hw
    obtain ⟨a, b, c⟩ := ih ok.1 hw'.1
    obtain ⟨d, e, f⟩ := ih2 ok.2 hw'.2
    have hq := pat_or w p a b hw'.1 (Pt.len p ok.1) q d e hw'.2 (Pt.len q ok.2)
    have hQ : QS w (.or2 p q) := fun a => (hq a).lift (by simp only [pD_bind, pD_ref, pD_tup1, pD_tup2, pD_var1, pD_var2, pD_fld1, pD_fld2, pD_or2, pD_wild, pD_litT, pD_litF, pD_lit7, pD_litm, pD_rngA, pD_rngB, pD_name, pD_var0]; omega)
    have hS : PS w (.or2 p q) := fun a => (part_or w p q (by omega) (by have := (Pt.len (.or2 p q) ok).2; simpa only [pW_bind, pW_ref, pW_tup1, pW_tup2, pW_var0, pW_var1, pW_var2, pW_fld1, pW_fld2, pW_or2, pW_wild, pW_litT, pW_litF, pW_lit7, pW_litm, pW_rngA, pW_rngB, pW_name] using this) _ hq a).lift (by simp only [pD_bind, pD_ref, pD_tup1, pD_tup2, pD_var1, pD_var2, pD_fld1, pD_fld2, pD_or2, pD_wild, pD_litT, pD_litF, pD_lit7, pD_litm, pD_rngA, pD_rngB, pD_name, pD_var0]; omega)
    exact ⟨hS, hQ, fun a m b t u => ref_any w _ hS hQ hw (Pt.len _ ok) a m b t u⟩
end Mine
end

section
open PySem PySem.W PyProof.Rows
namespace Mine
set_option maxRecDepth 100000
set_option maxHeartbeats 8000000

/-- the law's source: two ints, nought or more -/
inductive SrcOk : Obj → Prop
  | mk {x y : Int} {tx ty : Tok} {n : Nat} : 0 ≤ x → 0 ≤ y → y < 2147483647 → SrcOk (listOf #[.int x tx, .int y ty] n)
theorem SrcOk.free {o : Obj} (h : SrcOk o) : o.isFreed = false := by cases h; rfl

/-- the contract of a function that draws from the source: it alone turns, V is made -/
def TSpec (w : World) (f : Addr) (vs : List Value) (src : Addr) (pre : Heap → Prop) (Post : Value → Led → Prop) (cost : Nat) : Prop :=
  ∀ (o : Obj) (p : Program) (loose : List Str) (mean : ExcName → Option Value) (mg mb : Str → Option Value) (dp un : Nat) (gd : Option (List Code)) (cn : Str) (cs : Scope) (a : Addr) (ccd : Value) (cl : List (Str × Addr)) (outer : List Env)
    (A₀ : Around) (base h₀ : Heap) (L : Addr) (m : Str → Option Value) (s : Shared) (Q E : Value → Shared → Prop),
    SrcOk o → Below A₀ base outer h₀ → Fr h₀ L s.heap m → (hd.heap_1 w.params).In h₀ → Top p loose mean mg mb h₀ → cs.kind = .function →
    dp + cost < recursionLimit → un + 8 * cost < cLine → s.heap.get? src = some o → src ≠ L → h₀.get? src = none → pre s.heap →
    (∀ r o' V h' tk', SrcOk o' → Fr h₀ L h' m → (∀ b ob, b ≠ src → b ≠ L → s.heap.get? b = some ob → h'.get? b = some ob) → h'.get? src = some o' →
      News h₀ L h' V → (∀ p ∈ V, s.heap.get? p.1 = none) → Post r V → Q r { s with heap := h', toks := tk' }) →
    wpAny (model PySem.Challenge.rw_xm0582_01.row.prog w) (ktrTop dp un gd cn cs L a ccd cl outer) (call (.ref f) vs) Q E s

theorem tuse {w : World} {f : Addr} {vs : List Value} {src : Addr} {pre : Heap → Prop} {Post : Value → Led → Prop} {cost : Nat} (S : TSpec w f vs src pre Post cost)
    {p : Program} {loose : List Str} {mean : ExcName → Option Value} {mg mb : Str → Option Value} {dp un : Nat} {gd : Option (List Code)} {cn : Str} {cs : Scope} {a : Addr} {ccd : Value} {cl : List (Str × Addr)} {outer : List Env}
    {A₀ : Around} {base h₀ : Heap} {L : Addr} {m : Str → Option Value} {news : Led} {g : Obj → Led} {o : Obj} {s : Shared} {Q E : Value → Shared → Prop}
    (B : Below A₀ base outer h₀) (F : Fr h₀ L s.heap m) (X : (hd.heap_1 w.params).In h₀) (N : News h₀ L s.heap news) (T : Top p loose mean mg mb h₀) (hk : cs.kind = .function)
    (hd : dp + cost < recursionLimit) (hu : un + 8 * cost < cLine) (U : UpdF src o news g) (ho : SrcOk o) (hp : pre s.heap)
    (ret : ∀ r o' V h' tk', SrcOk o' → Fr h₀ L h' m → News h₀ L h' (g o' ++ V) → (∀ p ∈ V, p.1 ≠ src) → (∀ p ∈ V, ∀ q ∈ news, p.1 ≠ q.1) → Post r V → Q r { s with heap := h', toks := tk' }) :
    wpAny (model PySem.Challenge.rw_xm0582_01.row.prog w) (ktrTop dp un gd cn cs L a ccd cl outer) (call (.ref f) vs) Q E s := by
  obtain ⟨own, rest, rfl, hg, h1, h2⟩ := U.split
  have Z := N (src, o) (List.mem_append_right _ (.head _))
  refine S o _ _ _ _ _ _ _ _ _ _ _ _ _ _ _ _ _ _ _ _ _ _ ho B F X T hk hd hu Z.1 Z.2.1 Z.2.2 hp fun r o' V h' tk' ho' F' keep hs hV hVf hP => ?_
  refine ret r o' V h' tk' ho' F' (fun q hq => ?_) (fun p hp e => by have := hVf p hp; rw [e, Z.1] at this; cases this) (fun p hp q hq e => by have := hVf p hp; rw [e, (N q hq).1] at this; cases this) hP
  rcases List.mem_append.mp hq with hq | hq
  · rw [hg] at hq
    rcases List.mem_append.mp hq with hq | hq
    · have z := N q (List.mem_append_left _ hq)
      exact ⟨keep _ _ (h1 q hq) z.2.1 z.1, z.2⟩
    · rcases List.mem_cons.mp hq with rfl | hq
      · exact ⟨hs, Z.2⟩
      · have z := N q (List.mem_append_right _ (.tail _ hq))
        exact ⟨keep _ _ (h2 q hq) z.2.1 z.1, z.2⟩
  · exact hV q hq

/-- the end of a function that draws, its frame plain -/
theorem tret {src : Addr} {Post : Value → Led → Prop} {s g h' h₀ : Heap} {L L' : Addr} {m m' : Str → Option Value} {sh : Shared} {Q : Value → Shared → Prop} {r : Value} {tk' : Nat} {news' : Led} {o' : Obj}
    (hret : ∀ r o' V h' tk', SrcOk o' → Fr h₀ L h' m → (∀ b ob, b ≠ src → b ≠ L → s.get? b = some ob → h'.get? b = some ob) → h'.get? src = some o' → News h₀ L h' V → (∀ p ∈ V, s.get? p.1 = none) → Post r V → Q r { sh with heap := h', toks := tk' })
    (kG : GSub s g [src]) (F : Fr g L' h' m') (kF : Fr h₀ L h' m) (N : News h₀ L h' news') (N' : News g L' h' news') (V : Led) (hs : (src, o') ∈ news') (ho' : SrcOk o') (sub : ∀ p ∈ V, p ∈ news' ∧ p.1 ≠ src) (post : Post r V) : Q r { sh with heap := h', toks := tk' } := by
  refine hret r o' V h' tk' ho' kF (fun b ob hb _ e => F.keep b ob (kG b ob e (by simpa using hb))) (N _ hs).1 (fun p hp => N p (sub p hp).1) (fun p hp => ?_) post
  cases e : s.get? p.1 with
  | none => rfl
  | some ob => have := kG _ _ e (by simpa using (sub p hp).2); rw [(N' p (sub p hp).1).2.2] at this; cases this
/-- the same, its frame with cells: every other object stood in the ledger -/
theorem tretC {src : Addr} {Post : Value → Led → Prop} {s h' h₀ : Heap} {L : Addr} {m : Str → Option Value} {sh : Shared} {Q : Value → Shared → Prop} {r : Value} {tk' : Nat} {news' VA : Led} {o' : Obj}
    (hret : ∀ r o' V h' tk', SrcOk o' → Fr h₀ L h' m → (∀ b ob, b ≠ src → b ≠ L → s.get? b = some ob → h'.get? b = some ob) → h'.get? src = some o' → News h₀ L h' V → (∀ p ∈ V, s.get? p.1 = none) → Post r V → Q r { sh with heap := h', toks := tk' })
    (hall : ∀ b ob, b ≠ src → b ≠ L → s.get? b = some ob → h₀.get? b = some ob ∨ (b, ob) ∈ VA) (kF : Fr h₀ L h' m) (N : News h₀ L h' news') (sA : ∀ p ∈ VA, p ∈ news') (V : Led) (hs : (src, o') ∈ news') (ho' : SrcOk o') (sub : ∀ p ∈ V, p ∈ news' ∧ p.1 ≠ src ∧ ∀ q ∈ VA, p.1 ≠ q.1) (post : Post r V) : Q r { sh with heap := h', toks := tk' } := by
  refine hret r o' V h' tk' ho' kF (fun b ob hb hL e => (hall b ob hb hL e).elim (fun z => kF.keep b ob z) fun z => (N _ (sA _ z)).1) (N _ hs).1 (fun p hp => N p (sub p hp).1) (fun p hp => ?_) post
  have z := sub p hp
  have y := N p z.1
  cases e : s.get? p.1 with
  | none => rfl
  | some ob => rcases hall _ _ z.2.1 y.2.1 e with q | q
               · rw [y.2.2] at q; cases q
               · exact absurd rfl (z.2.2 (p.1, ob) q)

theorem UpdF.app {d : Addr} {o : Obj} : ∀ {V r : Led} {g : Obj → Led}, (∀ p ∈ V, p.1 ≠ d) → UpdF d o r g → UpdF d o (V ++ r) (fun o' => V ++ g o')
  | [], _, _, _, U => U
  | p :: _, _, _, h, U => .tail (h p (.head _)) (UpdF.app (fun q hq => h q (.tail _ hq)) U)

/-- every other object that was made since the frame's ground -/
theorem all_led {h₀ h : Heap} {L src : Addr} {m : Str → Option Value} (F : Fr h₀ L h m) (hs0 : h₀.get? src = none) :
    ∃ V : Led, News h₀ L h V ∧ (∀ p ∈ V, p.1 ≠ src) ∧ ∀ b ob, b ≠ src → b ≠ L → h.get? b = some ob → h₀.get? b = some ob ∨ (b, ob) ∈ V := by
  refine ⟨(List.range h.objs.size).filterMap fun b => if b = src ∨ b = L ∨ (h₀.get? b).isSome then none else (h.get? b).map fun ob => (b, ob), ?_, ?_, ?_⟩
  · intro p hp
    obtain ⟨b, _, e⟩ := List.mem_filterMap.mp hp
    split at e
    · cases e
    · rename_i hn
      simp only [not_or] at hn
      cases q : h.get? b with
      | none => rw [q] at e; cases e
      | some ob =>
        rw [q] at e
        cases e
        refine ⟨q, hn.2.1, ?_⟩
        cases z : h₀.get? b with
        | none => rfl
        | some o => rw [z] at hn; exact absurd rfl hn.2.2
  · intro p hp
    obtain ⟨b, _, e⟩ := List.mem_filterMap.mp hp
    split at e
    · cases e
    · rename_i hn
      simp only [not_or] at hn
      cases q : h.get? b with
      | none => rw [q] at e; cases e
      | some ob => rw [q] at e; cases e; exact hn.1
  · intro b ob h1 h2 e
    cases z : h₀.get? b with
    | some o => left; rw [F.keep _ _ z] at e; exact e
    | none =>
      right
      refine List.mem_filterMap.mpr ⟨b, List.mem_range.mpr (Heap.lt_size e), ?_⟩
      simp [h1, h2, z, e]

theorem split2 {k : Int} (h0 : 0 ≤ k) (h : k < 2) : k = 0 ∨ k = 1 := by omega
theorem split3 {k : Int} (h0 : 0 ≤ k) (h : k < 3) : k = 0 ∨ k = 1 ∨ k = 2 := by omega
theorem split4 {k : Int} (h0 : 0 ≤ k) (h : k < 4) : k = 0 ∨ k = 1 ∨ k = 2 ∨ k = 3 := by omega
theorem split6 {k : Int} (h0 : 0 ≤ k) (h : k < 6) : k = 0 ∨ k = 1 ∨ k = 2 ∨ k = 3 ∨ k = 4 ∨ k = 5 := by omega
theorem split7 {k : Int} (h0 : 0 ≤ k) (h : k < 7) : k = 0 ∨ k = 1 ∨ k = 2 ∨ k = 3 ∨ k = 4 ∨ k = 5 ∨ k = 6 := by omega
theorem mulok {x z b : Int} : IntMulOk ([x, z.fmod 2147483647].getD (Int.toNat 1) 0) b := by
  have h0 : 0 ≤ z.fmod 2147483647 := Int.fmod_nonneg_of_pos _ (by decide)
  have h1 : z.fmod 2147483647 < 2147483647 := Int.fmod_lt_of_pos _ (by decide)
  exact IntMulOk.of_left (show Builtin.Int.intBits (z.fmod 2147483647) ≤ 64 from intBits_le_64 (by omega) (by omega))
theorem itemL {prog : Program} {w : World} {A : Around} {E : Value → Shared → Prop} {s : Shared} {value slice : PySem.Expr} {l : Addr} {vs : List Value} {k : Int} {u : Tok} {v : Value} {Q : Value → Shared → Prop}
    (hl : s.heap.IsList l vs.toArray) (h0 : 0 ≤ k) (hhi : k < 2 ^ 63) (hx : vs[k.toNat]? = some v) (h : Q v s)
    (hs : subscripted slice false (.ref l) (.int k u) = operate [.ref l, .int k u] (getItem (.ref l) (.int k u)) := by with_unfolding_all rfl) :
    wpAny (model prog w) A (subscriptTail value slice (.ref l) (.int k u)) Q E s :=
  tail_any hl.typeIs slot_list_getitem.lookup (wpAny_getItem_list hl h0 hhi (by simpa using hx) h) hs
theorem item_3 {prog : Program} {w : World} {A : Around} {E : Value → Shared → Prop} {s : Shared} {value slice : PySem.Expr} {l : Addr} {v0 v1 v2 : Value} {k : Int} {u : Tok} {Q : Value → Shared → Prop}
    (hl : s.heap.IsList l #[v0, v1, v2]) (h0 : 0 ≤ k) (h3 : k < 3) (q0 : k = 0 → Q v0 s) (q1 : k = 1 → Q v1 s) (q2 : k = 2 → Q v2 s)
    (hs : subscripted slice false (.ref l) (.int k u) = operate [.ref l, .int k u] (getItem (.ref l) (.int k u)) := by with_unfolding_all rfl) :
    wpAny (model prog w) A (subscriptTail value slice (.ref l) (.int k u)) Q E s := by
  have h : k = 0 ∨ k = 1 ∨ k = 2 := by omega
  rcases h with rfl | rfl | rfl
  · exact itemL (vs := [v0, v1, v2]) hl (by decide) (by decide) rfl (q0 rfl) hs
  · exact itemL (vs := [v0, v1, v2]) hl (by decide) (by decide) rfl (q1 rfl) hs
  · exact itemL (vs := [v0, v1, v2]) hl (by decide) (by decide) rfl (q2 rfl) hs
theorem islist_g {s g : Heap} {l src : Addr} {its : Array Value} (k : GSub s g [src]) (h : s.IsList l its) (hn : l ≠ src) : g.IsList l its := let ⟨o, e, r⟩ := h; ⟨o, k l o e (by simpa using hn), r⟩
theorem allLt_left {d : Addr} : ∀ {V W : Led}, AllLt d (V ++ W) → AllLt d V
  | [], _, _ => trivial
  | _ :: _, _, h => ⟨h.1, allLt_left h.2⟩
theorem allLt_ne {d : Addr} {V : Led} (h : AllLt d V) : ∀ q ∈ V, d ≠ q.1 := fun q hq e => Nat.lt_irrefl _ (show d < d from by have := ktn_ltOf h q hq; rw [← e] at this; exact this)
/-- a ledger without one entry -/
inductive Minus (d : Addr) : Led → Led → Prop
  | here {o : Obj} {r : Led} : Minus d ((d, o) :: r) r
  | there {p : Addr × Obj} {r r' : Led} : Minus d r r' → Minus d (p :: r) (p :: r')
theorem Minus.mem {d : Addr} {l l' : Led} (h : Minus d l l') : ∀ p ∈ l', p ∈ l := by
  induction h with
  | here => exact fun p hp => .tail _ hp
  | there _ ih => exact fun p hp => (List.mem_cons.mp hp).elim (fun e => e ▸ .head _) fun h => .tail _ (ih p h)
theorem comp_end {h₀ : Heap} {L I C D : Addr} {m : Str → Option Value} {s₁ : Shared} {oI oC oD : Obj} {S : Led → Prop} {rest : Value → Led → Prop} {y : Value} {h' : Heap} {tk : Nat} {all a1 a2 a3 : Led}
    (F : Fr h₀ L h' m) (N : News h₀ L h' all) (m1 : Minus I all a1) (m2 : Minus C a1 a2) (m3 : Minus D a2 a3) (hI : (I, oI) ∈ all) (hC : (C, oC) ∈ all) (hD : (D, oD) ∈ all) (off : LCg.Off3 I C D a3) (hS : S a3) (r : rest y a3) :
    LCg.CompEnd h₀ L m s₁ I oI C oC D oD S rest y { s₁ with heap := h', toks := tk } :=
  LCg.CompEnd.intro F N a3 (fun p hp => by
    rcases List.mem_cons.mp hp with rfl | hp
    · exact hI
    · rcases List.mem_cons.mp hp with rfl | hp
      · exact hC
      · rcases List.mem_cons.mp hp with rfl | hp
        · exact hD
        · exact m1.mem _ (m2.mem _ (m3.mem _ hp))) off hS r
theorem off3_app {I C D : Addr} {V W : Led} (a : LCg.Off3 I C D V) (b1 : ∀ p ∈ W, p.1 ≠ I) (b2 : ∀ p ∈ W, p.1 ≠ C) (b3 : ∀ p ∈ W, p.1 ≠ D) : LCg.Off3 I C D (V ++ W) :=
  LCg.Off3.of fun p hp => (List.mem_append.mp hp).elim (a.mem p) fun h => ⟨b1 p h, b2 p h, b3 p h⟩
theorem ne_raw {news : Led} {D a : Addr} {o : Obj} (h : ∀ p ∈ news, p.1 < D) (hm : (a, o) ∈ news) : (D : Nat) ≠ a := Nat.ne_of_gt (h _ hm)
theorem fresh_of {src L' D : Addr} {o oc : Obj} {VA news : Led} (le : ∀ p ∈ (src, o) :: VA, p.1 < L') (hD : ∀ p ∈ news, p.1 < D) (hm : (L' + 1, oc) ∈ news) : D ≠ src ∧ ∀ q ∈ VA, D ≠ q.1 := by
  have z : L' + 1 < D := hD _ hm
  have y : src < L' := le (src, o) (.head _)
  refine ⟨fun e => ?_, fun q hq e => ?_⟩
  · rw [e] at z
    exact Nat.lt_irrefl src (Nat.lt_trans y (Nat.lt_trans (Nat.lt_succ_self L') z))
  · have x : q.1 < L' := le q (.tail _ hq)
    rw [e] at z
    exact Nat.lt_irrefl q.1 (Nat.lt_trans x (Nat.lt_trans (Nat.lt_succ_self L') z))
end Mine
end

section
open PySem PySem.W PyProof.Rows
namespace Mine
set_option maxRecDepth 100000
set_option maxHeartbeats 8000000

abbrev Bears (h : Heap) (V : Led) : Prop := ∀ p ∈ V, h.get? p.1 = some p.2
/-- whatever heap bears V bears the pattern at v -/
def PatV (V : Led) (v : Addr) (P : Pt) : Prop := ∀ h, Bears h V → PatAt h v P
def PathV (V : Led) (v : Value) (ns : List Str) (way : Nat) : Prop := ∀ h, Bears h V → PathAt h v ns way
theorem PatV.sub {V W : Led} {v : Addr} {P : Pt} (h : PatV V v P) (s : ∀ p ∈ V, p ∈ W) : PatV W v P := fun g b => h g fun p hp => b p (s p hp)
theorem PathV.sub {V W : Led} {v : Value} {ns : List Str} {way : Nat} (h : PathV V v ns way) (s : ∀ p ∈ V, p ∈ W) : PathV W v ns way := fun g b => h g fun p hp => b p (s p hp)
/-- what _law_plain gives back -/
def PlainPost (r : Value) (V : Led) : Prop := ∃ (c a : Addr) (P : Pt) (t : Tok) (n : Nat), r = .ref c ∧ (c, tupOf #[.ref a, .str P.T.1 t] n) ∈ V ∧ PatV V a P ∧ P.Ok ∧ P.wt ≤ 20 ∧ P.dep = 0 ∧ P.T.2 = P.T.1 ∧ ∃ oa, (a, oa) ∈ V

theorem plain_end {src : Addr} {s g h' h₀ : Heap} {L L' : Addr} {m m' : Str → Option Value} {sh : Shared} {Q : Value → Shared → Prop} {tk' : Nat} {news' : Led} {o' : Obj} {c a : Addr} {x : Str} {t : Tok} {n : Nat} {oa : Obj} {P : Pt}
    (hret : ∀ r o' V h' tk', SrcOk o' → Fr h₀ L h' m → (∀ b ob, b ≠ src → b ≠ L → s.get? b = some ob → h'.get? b = some ob) → h'.get? src = some o' → News h₀ L h' V → (∀ p ∈ V, s.get? p.1 = none) → PlainPost r V → Q r { sh with heap := h', toks := tk' })
    (kG : GSub s g [src]) (F : Fr g L' h' m') (kF : Fr h₀ L h' m) (N : News h₀ L h' news') (N' : News g L' h' news') (hs : (src, o') ∈ news') (ho' : SrcOk o') (hc : (c, tupOf #[.ref a, .str x t] n) ∈ news') (ha : (a, oa) ∈ news') (hcs : c ≠ src) (has : a ≠ src)
    (hP : ∀ h : Heap, h.get? a = some oa → PatAt h a P) (hx : x = P.T.1) (ok : P.Ok) (hw : P.wt ≤ 20) (hd : P.dep = 0) (hT : P.T.2 = P.T.1) : Q (.ref c) { sh with heap := h', toks := tk' } := by
  subst hx
  refine tret (Post := PlainPost) hret kG F kF N N' [(c, tupOf #[.ref a, .str P.T.1 t] n), (a, oa)] hs ho' (fun p hp => ?_) ⟨c, a, P, t, n, rfl, .head _, fun h b => hP h (b (a, oa) (.tail _ (.head _))), ok, hw, hd, hT, oa, .tail _ (.head _)⟩
  rcases List.mem_cons.mp hp with rfl | hp
  · exact ⟨hc, hcs⟩
  · rw [List.mem_singleton.mp hp]; exact ⟨ha, has⟩
theorem names7 {r : Value} {t0 t1 t2 t3 t4 t5 t6 : Tok} (h : r ∈ [Value.str (S "A") t0, .str (S "b") t1, .str (S "self") t2, .str (S "Self") t3, .str (S "super") t4, .str (S "crate") t5, .str (S "C2") t6]) : ∃ n t, r = .str n t ∧ n.length ≤ 100 := by
  simp only [List.mem_cons, List.not_mem_nil, or_false] at h
  rcases h with rfl | rfl | rfl | rfl | rfl | rfl | rfl <;> exact ⟨_, _, rfl, Nat.le_of_ble_eq_true (by decide +kernel)⟩
/-- what _law_path gives back -/
def PathPost (r : Value) (V : Led) : Prop := ∃ (c z : Addr) (ns : List Str) (way : Nat) (t1 t2 : Tok) (n : Nat), r = .ref c ∧ (c, tupOf #[.ref z, .str (pathT (S "::") way ns) t1, .str (pathT (S "") way ns) t2] n) ∈ V ∧ PathV V (.ref z) ns way ∧ PathOk ns way
/-- one of the objects that a function made, at an address of no elder object -/
def Fresh (src : Addr) (VA : Led) (a : Addr) : Prop := a ≠ src ∧ ∀ q ∈ VA, a ≠ q.1
noncomputable def freshLed (src : Addr) (VA news : Led) : Led := by
  classical exact news.filter fun p => decide (Fresh src VA p.1)
theorem freshLed_mem {src : Addr} {VA news : Led} {p : Addr × Obj} : p ∈ freshLed src VA news ↔ p ∈ news ∧ Fresh src VA p.1 := by
  unfold freshLed
  simp only [List.mem_filter, decide_eq_true_eq]
theorem path_end {src : Addr} {s h' h₀ : Heap} {L : Addr} {m : Str → Option Value} {sh : Shared} {Q : Value → Shared → Prop} {tk' : Nat} {news' VA : Led} {o' : Obj} {c z : Addr} {x1 x2 : Str} {t1 t2 : Tok} {n way : Nat} {ns : List Str}
    (hret : ∀ r o' V h' tk', SrcOk o' → Fr h₀ L h' m → (∀ b ob, b ≠ src → b ≠ L → s.get? b = some ob → h'.get? b = some ob) → h'.get? src = some o' → News h₀ L h' V → (∀ p ∈ V, s.get? p.1 = none) → PathPost r V → Q r { sh with heap := h', toks := tk' })
    (hall : ∀ b ob, b ≠ src → b ≠ L → s.get? b = some ob → h₀.get? b = some ob ∨ (b, ob) ∈ VA) (kF : Fr h₀ L h' m) (N : News h₀ L h' news') (sA : ∀ p ∈ VA, p ∈ news') (hs : (src, o') ∈ news') (ho' : SrcOk o')
    (hc : (c, tupOf #[.ref z, .str x1 t1, .str x2 t2] n) ∈ news') (hcf : Fresh src VA c)
    (mk : ∀ h : Heap, (∀ a o, (a, o) ∈ news' → Fresh src VA a → h.get? a = some o) → PathAt h (.ref z) ns way)
    (e1 : x1 = pathT (S "::") way ns) (e2 : x2 = pathT (S "") way ns) (ok : PathOk ns way) : Q (.ref c) { sh with heap := h', toks := tk' } := by
  subst e1 e2
  refine tretC (Post := PathPost) hret hall kF N sA (freshLed src VA news') hs ho' (fun p hp => ?_) ⟨c, z, ns, way, t1, t2, n, rfl, freshLed_mem.mpr ⟨hc, hcf⟩, fun h b => mk h fun a o hm hf => b (a, o) (freshLed_mem.mpr ⟨hm, hf⟩), ok⟩
  obtain ⟨a, b, d⟩ := freshLed_mem.mp hp
  exact ⟨a, b, d⟩
theorem istup_of {h : Heap} {a : Addr} {its : Array Value} {n : Nat} (e : h.get? a = some (tupOf its n)) : IsTup h a its := ⟨_, e, rfl, n, rfl⟩
theorem istupG {h : Heap} {src : Addr} {VA news : Led} {a : Addr} {its : Array Value} {n : Nat} (G : ∀ a o, (a, o) ∈ news → Fresh src VA a → h.get? a = some o) (hm : (a, tupOf its n) ∈ news) (hf : Fresh src VA a) : IsTup h a its := istup_of (G _ _ hm hf)
end Mine
end

section
open PySem PySem.W PyProof.Rows
namespace Mine
theorem anew_W11 : True := by
  w_top off
  trivial
set_option maxRecDepth 100000
set_option maxHeartbeats 8000000
theorem filler_w11 : Filler PySem.Challenge.rw_xm0582_01 hd.heap_1 := by k_fill; trivial

theorem words_W11_0 : True := by
  k_with_none
  k_with "my dep9" => ((first | ((with_reducible refine dS ?_); k_dflt (exact rfl)) | ((with_reducible refine dL ?_); k_dflt (exact rfl)) | ((with_reducible refine dR ?_); k_dflt (exact rfl)) | ((with_reducible refine dS1 ?_); k_dflt (exact rfl)) | ((with_reducible refine dL1 ?_); k_dflt (exact rfl)) | ((with_reducible refine dR1 ?_); k_dflt (exact rfl)) | ((with_reducible refine d0 ?_); k_dflt (exact rfl)) | ((with_reducible refine dV ?_); k_dflt (exact rfl)) | ((with_reducible refine dW ?_); k_dflt (exact rfl)) | k_dflt (exact le_of_ble rfl) | omega))
  k_with "my room9" => ((first | k_dflt (exact room_0 hdp) | (k_dflt (refine room_a hdp ?_); k_extra "my dep9") | k_dflt (exact Nat.le_of_ble_eq_true rfl) | ktr_room))
  k_with "my units9" => ((first | (k_dflt (refine' units_a hun ?zqua ?zqub); (case zqua => k_extra "my dep9"); (case zqub => k_dflt (exact rfl))) | k_dflt (exact Nat.le_of_ble_eq_true rfl) | ktr_units))
  k_with "my len9" => (((with_reducible show (_ : Nat) ≤ _); first | with_reducible exact Nat.le_refl 0 | ((with_reducible refine' lenApp ?_ ?_) <;> (first | k_extra "my len9" | with_reducible show Nat)) | ((with_reducible refine' addLe ?_ ?_) <;> (first | k_extra "my len9" | with_reducible show Nat)) | ((with_reducible refine' mulLe ?_) <;> (first | k_extra "my len9" | with_reducible show Nat)) | with_reducible assumption | with_reducible exact Nat.le_of_eq ln_e | with_reducible exact Nat.le_of_eq ln_28 | with_reducible exact Nat.le_of_eq ln_29 | with_reducible exact Nat.le_of_eq ln_2c20 | with_reducible exact Nat.le_of_eq ln_2c | with_reducible exact Nat.le_of_eq ln_2c29 | with_reducible exact Nat.le_of_eq ln_3c | with_reducible exact Nat.le_of_eq ln_3e | with_reducible exact Nat.le_of_eq ln_3a3a | with_reducible exact Nat.le_of_eq ln_26 | with_reducible exact Nat.le_of_eq ln_6d757420 | with_reducible exact Nat.le_of_eq ln_72656620 | with_reducible exact Nat.le_of_eq ln_204020 | with_reducible exact Nat.le_of_eq ln_2e2e3d | with_reducible exact Nat.le_of_eq ln_207b20 | with_reducible exact Nat.le_of_eq ln_207d | with_reducible exact Nat.le_of_eq ln_7d | with_reducible exact Nat.le_of_eq ln_2e2e | with_reducible exact Nat.le_of_eq ln_3a20 | with_reducible exact Nat.le_of_eq ln_207c20 | with_reducible exact Nat.le_of_eq ln_5f | with_reducible exact Nat.le_of_eq ln_21 | with_reducible exact Nat.le_of_eq ln_2761 | with_reducible exact Nat.le_of_eq ln_54 | with_reducible exact Nat.le_of_eq ln_7538 | with_reducible exact Nat.le_of_eq ln_78 | with_reducible exact Nat.le_of_eq ln_79 | with_reducible exact Nat.le_of_eq ln_6e | with_reducible exact Nat.le_of_eq ln_6d | with_reducible exact Nat.le_of_eq ln_74727565 | with_reducible exact Nat.le_of_eq ln_66616c7365 | with_reducible exact Nat.le_of_eq ln_37 | with_reducible exact Nat.le_of_eq ln_2d31 | with_reducible exact Nat.le_of_eq ln_2d33 | with_reducible exact Nat.le_of_eq ln_39 | with_reducible exact Nat.le_of_eq ln_31 | with_reducible exact Nat.le_of_eq ln_32 | with_reducible exact Nat.le_of_eq ln_73656c66 | with_reducible exact Nat.le_of_eq ln_53656c66 | with_reducible exact Nat.le_of_eq ln_7375706572 | with_reducible exact Nat.le_of_eq ln_6372617465 | with_reducible exact Nat.le_of_eq ln_41 | with_reducible exact Nat.le_of_eq ln_62 | with_reducible exact Nat.le_of_eq ln_4332 | with_reducible exact Nat.le_of_eq ln_3c75383e | with_reducible exact Nat.le_of_eq ln_3c27612c20542c205f3e | with_reducible exact lenW1 (by with_reducible assumption) (by with_reducible assumption) | with_reducible exact lenW2 (by with_reducible assumption) (by with_reducible assumption) | with_reducible exact lenV1 (by with_reducible assumption) (by with_reducible assumption) (by with_reducible assumption) | with_reducible exact lenV2 (by with_reducible assumption) (by with_reducible assumption) (by with_reducible assumption) | with_reducible exact And.left (by with_reducible assumption) | with_reducible exact And.right (by with_reducible assumption) | ((with_reducible refine' lenIte ?_ ?_) <;> (first | k_extra "my len9" | with_reducible show Nat)) | ((with_reducible refine' iteLe ?_ ?_) <;> (first | k_extra "my len9" | with_reducible show Nat))))
  k_with "my size9" => (((refine' size_of ?zqsa ?zqsb); (case zqsa => k_extra "my len9"); (case zqsb => k_dflt (exact rfl))))
  k_with "my k_steps" => (repeat' (first | (k_unfold; (try dsimp only)) | walk1 | (dsimp only; walk1) | fail "no step"))
  k_with "my binaryOp Add str str" => (((with_reducible show wpAny _ _ (binaryOp Operator.Add (Value.str _ _) (Value.str _ _)) _ _ _); (refine add_str (hsz := ?zqhsz) ?_); (case zqhsz => first | k_extra "my size9" | (simp only [j0, j1, j2, j3, PySem.Str.length_append, PySem.sizeLine_eq, ln_e,ln_28,ln_29,ln_2c20,ln_2c,ln_2c29,ln_3c,ln_3e,ln_3a3a,ln_26,ln_6d757420,ln_72656620,ln_204020,ln_2e2e3d,ln_207b20,ln_207d,ln_7d,ln_2e2e,ln_3a20,ln_207c20,ln_5f,ln_21,ln_2761,ln_54,ln_7538,ln_78,ln_79,ln_6e,ln_6d,ln_74727565,ln_66616c7365,ln_37,ln_2d31,ln_2d33,ln_39,ln_31,ln_32,ln_73656c66,ln_53656c66,ln_7375706572,ln_6372617465,ln_41,ln_62,ln_4332,ln_3c75383e,ln_3c27612c20542c205f3e]; omega)); intro _ _))
  k_with "my ite" => (first | ((refine' PySem.W.ite_pos ?zqhc ?_); (case zqhc => (first | (k_dflt (exact (show _ = true from rfl))) | with_reducible assumption))) | ((refine' PySem.W.ite_neg ?zqhc ?_); (case zqhc => (first | (k_dflt (exact fun hb9 => absurd (show false = true from hb9) Bool.false_ne_true)) | exact fun hb9 => absurd (hb9.symm.trans (by with_reducible assumption)) (by decide)))))
  k_with "my call builtin:str.join" => ((k_here; (with_reducible show wpAny _ _ (call (Value.builtin _) [Value.str _ _, Value.ref _]) _ _ _); k_dflt (first | refine jn0 (by is_list) ?_ | ((refine' jn1 ?zqhl ?zqhz ?_); (case zqhl => is_list); (case zqhz => first | k_extra "my size9" | (simp only [PySem.Str.length_append, ln_e,ln_28,ln_29,ln_2c20,ln_2c,ln_2c29,ln_3c,ln_3e,ln_3a3a,ln_26,ln_6d757420,ln_72656620,ln_204020,ln_2e2e3d,ln_207b20,ln_207d,ln_7d,ln_2e2e,ln_3a20,ln_207c20,ln_5f,ln_21,ln_2761,ln_54,ln_7538,ln_78,ln_79,ln_6e,ln_6d,ln_74727565,ln_66616c7365,ln_37,ln_2d31,ln_2d33,ln_39,ln_31,ln_32,ln_73656c66,ln_53656c66,ln_7375706572,ln_6372617465,ln_41,ln_62,ln_4332,ln_3c75383e,ln_3c27612c20542c205f3e]; omega))) | ((refine' jn2 ?zqhl ?zqhz ?_); (case zqhl => is_list); (case zqhz => first | k_extra "my size9" | (simp only [PySem.Str.length_append, ln_e,ln_28,ln_29,ln_2c20,ln_2c,ln_2c29,ln_3c,ln_3e,ln_3a3a,ln_26,ln_6d757420,ln_72656620,ln_204020,ln_2e2e3d,ln_207b20,ln_207d,ln_7d,ln_2e2e,ln_3a20,ln_207c20,ln_5f,ln_21,ln_2761,ln_54,ln_7538,ln_78,ln_79,ln_6e,ln_6d,ln_74727565,ln_66616c7365,ln_37,ln_2d31,ln_2d33,ln_39,ln_31,ln_32,ln_73656c66,ln_53656c66,ln_7375706572,ln_6372617465,ln_41,ln_62,ln_4332,ln_3c75383e,ln_3c27612c20542c205f3e]; omega))) | ((refine' jn3 ?zqhl ?zqhz ?_); (case zqhl => is_list); (case zqhz => first | k_extra "my size9" | (simp only [PySem.Str.length_append, ln_e,ln_28,ln_29,ln_2c20,ln_2c,ln_2c29,ln_3c,ln_3e,ln_3a3a,ln_26,ln_6d757420,ln_72656620,ln_204020,ln_2e2e3d,ln_207b20,ln_207d,ln_7d,ln_2e2e,ln_3a20,ln_207c20,ln_5f,ln_21,ln_2761,ln_54,ln_7538,ln_78,ln_79,ln_6e,ln_6d,ln_74727565,ln_66616c7365,ln_37,ln_2d31,ln_2d33,ln_39,ln_31,ln_32,ln_73656c66,ln_53656c66,ln_7375706572,ln_6372617465,ln_41,ln_62,ln_4332,ln_3c75383e,ln_3c27612c20542c205f3e]; omega)))); intro _ _))
  k_with "my units_room" => ((first | (k_dflt (refine' units_b hun ?zqua ?zqub); (case zqua => k_extra "my dep9"); (case zqub => k_dflt (exact rfl))) | (have hcL9 := cLine_is; (simp only [units_deeper, units_in1] at *); (try dsimp only [ktrTop] at *); omega)))
  k_with "my compareOp Eq ref ref" => (((with_reducible show wpAny _ _ (compareOp CmpOp.Eq (Value.ref _) (Value.ref _)) _ _ _); first | refine PySem.SeqAt.eq_list_lengthsAt (by is_list) (by is_list) (by rfl) (by units_room) ?_ | refine PySem.SeqAt.eq_listAt (e := fun _ => true) (items := #[]) (items2 := #[]) (by is_list) (by is_list) rfl (by units_room) (fun j h1 h2 => absurd h1 (Nat.not_lt_zero _)) ?_))
  k_with "my eval Name" => ((k_here; (with_reducible show wpAny _ _ (eval (Expr.Name _ _) (envOf _ _ _ _ _)) _ _ _); k_dflt (first | (refine' nameX_L ?zqF ?zqv ?_ ?zqa ?zqb; (case zqF => k_asm); (case zqa => rfl); (case zqb => rfl); (case zqv => rfl); k_whole) | (refine' nameX_K ?zqF ?zqX ?zqT ?zqe ?_ ?zqa ?zqb; (case zqF => k_asm); (case zqX => k_asm); (case zqT => k_asm); (case zqa => rfl); (case zqb => rfl); (case zqe => k_is); k_whole))))
  k_with "my binaryOp Mult int int" => ((k_here; (with_reducible show wpAny _ _ (binaryOp Operator.Mult (Value.int _ _) (Value.int _ _)) _ _ _); (refine mul_int (hm := mulok) ?_)))
  trivial
theorem take (w : World) (src : Addr) (top : Int) (tt : Tok) (ht : 0 < top) (ht2 : top < 100) : TSpec w 94 [.ref src, .int top tt] src (fun _ => True) (fun r V => V = [] ∧ ∃ k t, r = .int k t ∧ 0 ≤ k ∧ k < top) 2 := by
  unfold TSpec
  intro o prg loose mean mg mb dp un gd cn cs a ccd cl outer A₀ base h₀ L m s Q E hso B F X T hk hdp hun hos hsL hs0 hpre hret
  have N : News h₀ L s.heap [(src, o)] := by intro p hp; rw [List.mem_singleton.mp hp]; exact ⟨hos, hsL, hs0⟩
  refine wpAny_call ?_
  k_dflt (refine' code_defG (binds := [(Str.ofString "source", .ref src), (Str.ofString "top", .int top tt)]) B F X N T ?kA ?kF ?kK ?k6 ?k7 ?k8 ?k9 ?kB ?_ ?c2 ?c3 ?c4 ?c5; (case kA => exact rfl); (case kF => exact rfl); (case kK => exact hk); (case k6 => k_is); (case k7 => k_is); (case k8 => k_extra "my room9"); (case k9 => first | exact BindsTo.of_eq rfl | exact binds_K (by k_in) rfl (by k_is) rfl rfl rfl); (case c5 => decide); (case kB => exact locs rfl); (case c2 => exact rfl); (case c3 => exact rfl); (case c4 => exact rfl))
  intro g' L' h' FG' F' N' B' X' T' kG'
  (try dsimp only); k_fold
  cases hso with
  | @mk x y tx ty n hx hy hy2 =>
    k_steps
    all_goals first
      | exact tret hret kG' (by assumption) (by assumption) (by assumption) (by assumption) [] (.head _) (SrcOk.mk (Int.fdiv_nonneg hx (Int.le_of_lt ht)) hy hy2) (fun _ h => nomatch h) ⟨rfl, _, _, rfl, Int.fmod_nonneg_of_pos _ ht, Int.fmod_lt_of_pos _ ht⟩
      | exact tret hret kG' (by assumption) (by assumption) (by assumption) (by assumption) [] (.head _) (SrcOk.mk hx (Int.fmod_nonneg_of_pos _ (by decide)) (Int.fmod_lt_of_pos _ (by decide))) (fun _ h => nomatch h) ⟨rfl, _, _, rfl, Int.fmod_nonneg_of_pos _ ht, Int.fmod_lt_of_pos _ ht⟩
end Mine
end

section
open PySem PySem.W PyProof.Rows
namespace Mine
theorem anew_W12 : True := by
  w_top off
  trivial
set_option maxRecDepth 100000
set_option maxHeartbeats 8000000
theorem filler_w12 : Filler PySem.Challenge.rw_xm0582_01 hd.heap_1 := by k_fill; trivial

theorem words_W12_0 : True := by
  k_with_none
  k_with "my dep9" => ((first | ((with_reducible refine dS ?_); k_dflt (exact rfl)) | ((with_reducible refine dL ?_); k_dflt (exact rfl)) | ((with_reducible refine dR ?_); k_dflt (exact rfl)) | ((with_reducible refine dS1 ?_); k_dflt (exact rfl)) | ((with_reducible refine dL1 ?_); k_dflt (exact rfl)) | ((with_reducible refine dR1 ?_); k_dflt (exact rfl)) | ((with_reducible refine d0 ?_); k_dflt (exact rfl)) | ((with_reducible refine dV ?_); k_dflt (exact rfl)) | ((with_reducible refine dW ?_); k_dflt (exact rfl)) | k_dflt (exact le_of_ble rfl) | omega))
  k_with "my room9" => ((first | k_dflt (exact room_0 hdp) | (k_dflt (refine room_a hdp ?_); k_extra "my dep9") | k_dflt (exact Nat.le_of_ble_eq_true rfl) | ktr_room))
  k_with "my units9" => ((first | (k_dflt (refine' units_a hun ?zqua ?zqub); (case zqua => k_extra "my dep9"); (case zqub => k_dflt (exact rfl))) | k_dflt (exact Nat.le_of_ble_eq_true rfl) | ktr_units))
  k_with "my len9" => (((with_reducible show (_ : Nat) ≤ _); first | with_reducible exact Nat.le_refl 0 | ((with_reducible refine' lenApp ?_ ?_) <;> (first | k_extra "my len9" | with_reducible show Nat)) | ((with_reducible refine' addLe ?_ ?_) <;> (first | k_extra "my len9" | with_reducible show Nat)) | ((with_reducible refine' mulLe ?_) <;> (first | k_extra "my len9" | with_reducible show Nat)) | with_reducible assumption | with_reducible exact Nat.le_of_eq ln_e | with_reducible exact Nat.le_of_eq ln_28 | with_reducible exact Nat.le_of_eq ln_29 | with_reducible exact Nat.le_of_eq ln_2c20 | with_reducible exact Nat.le_of_eq ln_2c | with_reducible exact Nat.le_of_eq ln_2c29 | with_reducible exact Nat.le_of_eq ln_3c | with_reducible exact Nat.le_of_eq ln_3e | with_reducible exact Nat.le_of_eq ln_3a3a | with_reducible exact Nat.le_of_eq ln_26 | with_reducible exact Nat.le_of_eq ln_6d757420 | with_reducible exact Nat.le_of_eq ln_72656620 | with_reducible exact Nat.le_of_eq ln_204020 | with_reducible exact Nat.le_of_eq ln_2e2e3d | with_reducible exact Nat.le_of_eq ln_207b20 | with_reducible exact Nat.le_of_eq ln_207d | with_reducible exact Nat.le_of_eq ln_7d | with_reducible exact Nat.le_of_eq ln_2e2e | with_reducible exact Nat.le_of_eq ln_3a20 | with_reducible exact Nat.le_of_eq ln_207c20 | with_reducible exact Nat.le_of_eq ln_5f | with_reducible exact Nat.le_of_eq ln_21 | with_reducible exact Nat.le_of_eq ln_2761 | with_reducible exact Nat.le_of_eq ln_54 | with_reducible exact Nat.le_of_eq ln_7538 | with_reducible exact Nat.le_of_eq ln_78 | with_reducible exact Nat.le_of_eq ln_79 | with_reducible exact Nat.le_of_eq ln_6e | with_reducible exact Nat.le_of_eq ln_6d | with_reducible exact Nat.le_of_eq ln_74727565 | with_reducible exact Nat.le_of_eq ln_66616c7365 | with_reducible exact Nat.le_of_eq ln_37 | with_reducible exact Nat.le_of_eq ln_2d31 | with_reducible exact Nat.le_of_eq ln_2d33 | with_reducible exact Nat.le_of_eq ln_39 | with_reducible exact Nat.le_of_eq ln_31 | with_reducible exact Nat.le_of_eq ln_32 | with_reducible exact Nat.le_of_eq ln_73656c66 | with_reducible exact Nat.le_of_eq ln_53656c66 | with_reducible exact Nat.le_of_eq ln_7375706572 | with_reducible exact Nat.le_of_eq ln_6372617465 | with_reducible exact Nat.le_of_eq ln_41 | with_reducible exact Nat.le_of_eq ln_62 | with_reducible exact Nat.le_of_eq ln_4332 | with_reducible exact Nat.le_of_eq ln_3c75383e | with_reducible exact Nat.le_of_eq ln_3c27612c20542c205f3e | with_reducible exact lenW1 (by with_reducible assumption) (by with_reducible assumption) | with_reducible exact lenW2 (by with_reducible assumption) (by with_reducible assumption) | with_reducible exact lenV1 (by with_reducible assumption) (by with_reducible assumption) (by with_reducible assumption) | with_reducible exact lenV2 (by with_reducible assumption) (by with_reducible assumption) (by with_reducible assumption) | with_reducible exact And.left (by with_reducible assumption) | with_reducible exact And.right (by with_reducible assumption) | ((with_reducible refine' lenIte ?_ ?_) <;> (first | k_extra "my len9" | with_reducible show Nat)) | ((with_reducible refine' iteLe ?_ ?_) <;> (first | k_extra "my len9" | with_reducible show Nat))))
  k_with "my size9" => (((refine' size_of ?zqsa ?zqsb); (case zqsa => k_extra "my len9"); (case zqsb => k_dflt (exact rfl))))
  k_with "my k_steps" => (repeat' (first | (k_unfold; (try dsimp only)) | walk1 | (dsimp only; walk1) | fail "no step"))
  k_with "my binaryOp Add str str" => (((with_reducible show wpAny _ _ (binaryOp Operator.Add (Value.str _ _) (Value.str _ _)) _ _ _); (refine add_str (hsz := ?zqhsz) ?_); (case zqhsz => first | k_extra "my size9" | (simp only [j0, j1, j2, j3, PySem.Str.length_append, PySem.sizeLine_eq, ln_e,ln_28,ln_29,ln_2c20,ln_2c,ln_2c29,ln_3c,ln_3e,ln_3a3a,ln_26,ln_6d757420,ln_72656620,ln_204020,ln_2e2e3d,ln_207b20,ln_207d,ln_7d,ln_2e2e,ln_3a20,ln_207c20,ln_5f,ln_21,ln_2761,ln_54,ln_7538,ln_78,ln_79,ln_6e,ln_6d,ln_74727565,ln_66616c7365,ln_37,ln_2d31,ln_2d33,ln_39,ln_31,ln_32,ln_73656c66,ln_53656c66,ln_7375706572,ln_6372617465,ln_41,ln_62,ln_4332,ln_3c75383e,ln_3c27612c20542c205f3e]; omega)); intro _ _))
  k_with "my ite" => (first | ((refine' PySem.W.ite_pos ?zqhc ?_); (case zqhc => (first | (k_dflt (exact (show _ = true from rfl))) | with_reducible assumption))) | ((refine' PySem.W.ite_neg ?zqhc ?_); (case zqhc => (first | (k_dflt (exact fun hb9 => absurd (show false = true from hb9) Bool.false_ne_true)) | exact fun hb9 => absurd (hb9.symm.trans (by with_reducible assumption)) (by decide)))))
  k_with "my call builtin:str.join" => ((k_here; (with_reducible show wpAny _ _ (call (Value.builtin _) [Value.str _ _, Value.ref _]) _ _ _); k_dflt (first | refine jn0 (by is_list) ?_ | ((refine' jn1 ?zqhl ?zqhz ?_); (case zqhl => is_list); (case zqhz => first | k_extra "my size9" | (simp only [PySem.Str.length_append, ln_e,ln_28,ln_29,ln_2c20,ln_2c,ln_2c29,ln_3c,ln_3e,ln_3a3a,ln_26,ln_6d757420,ln_72656620,ln_204020,ln_2e2e3d,ln_207b20,ln_207d,ln_7d,ln_2e2e,ln_3a20,ln_207c20,ln_5f,ln_21,ln_2761,ln_54,ln_7538,ln_78,ln_79,ln_6e,ln_6d,ln_74727565,ln_66616c7365,ln_37,ln_2d31,ln_2d33,ln_39,ln_31,ln_32,ln_73656c66,ln_53656c66,ln_7375706572,ln_6372617465,ln_41,ln_62,ln_4332,ln_3c75383e,ln_3c27612c20542c205f3e]; omega))) | ((refine' jn2 ?zqhl ?zqhz ?_); (case zqhl => is_list); (case zqhz => first | k_extra "my size9" | (simp only [PySem.Str.length_append, ln_e,ln_28,ln_29,ln_2c20,ln_2c,ln_2c29,ln_3c,ln_3e,ln_3a3a,ln_26,ln_6d757420,ln_72656620,ln_204020,ln_2e2e3d,ln_207b20,ln_207d,ln_7d,ln_2e2e,ln_3a20,ln_207c20,ln_5f,ln_21,ln_2761,ln_54,ln_7538,ln_78,ln_79,ln_6e,ln_6d,ln_74727565,ln_66616c7365,ln_37,ln_2d31,ln_2d33,ln_39,ln_31,ln_32,ln_73656c66,ln_53656c66,ln_7375706572,ln_6372617465,ln_41,ln_62,ln_4332,ln_3c75383e,ln_3c27612c20542c205f3e]; omega))) | ((refine' jn3 ?zqhl ?zqhz ?_); (case zqhl => is_list); (case zqhz => first | k_extra "my size9" | (simp only [PySem.Str.length_append, ln_e,ln_28,ln_29,ln_2c20,ln_2c,ln_2c29,ln_3c,ln_3e,ln_3a3a,ln_26,ln_6d757420,ln_72656620,ln_204020,ln_2e2e3d,ln_207b20,ln_207d,ln_7d,ln_2e2e,ln_3a20,ln_207c20,ln_5f,ln_21,ln_2761,ln_54,ln_7538,ln_78,ln_79,ln_6e,ln_6d,ln_74727565,ln_66616c7365,ln_37,ln_2d31,ln_2d33,ln_39,ln_31,ln_32,ln_73656c66,ln_53656c66,ln_7375706572,ln_6372617465,ln_41,ln_62,ln_4332,ln_3c75383e,ln_3c27612c20542c205f3e]; omega)))); intro _ _))
  k_with "my units_room" => ((first | (k_dflt (refine' units_b hun ?zqua ?zqub); (case zqua => k_extra "my dep9"); (case zqub => k_dflt (exact rfl))) | (have hcL9 := cLine_is; (simp only [units_deeper, units_in1] at *); (try dsimp only [ktrTop] at *); omega)))
  k_with "my compareOp Eq ref ref" => (((with_reducible show wpAny _ _ (compareOp CmpOp.Eq (Value.ref _) (Value.ref _)) _ _ _); first | refine PySem.SeqAt.eq_list_lengthsAt (by is_list) (by is_list) (by rfl) (by units_room) ?_ | refine PySem.SeqAt.eq_listAt (e := fun _ => true) (items := #[]) (items2 := #[]) (by is_list) (by is_list) rfl (by units_room) (fun j h1 h2 => absurd h1 (Nat.not_lt_zero _)) ?_))
  k_with "my eval Name" => ((k_here; (with_reducible show wpAny _ _ (eval (Expr.Name _ _) (envOf _ _ _ _ _)) _ _ _); k_dflt (first | (refine' nameX_L ?zqF ?zqv ?_ ?zqa ?zqb; (case zqF => k_asm); (case zqa => rfl); (case zqb => rfl); (case zqv => rfl); k_whole) | (refine' nameX_K ?zqF ?zqX ?zqT ?zqe ?_ ?zqa ?zqb; (case zqF => k_asm); (case zqX => k_asm); (case zqT => k_asm); (case zqa => rfl); (case zqb => rfl); (case zqe => k_is); k_whole))))
  k_with "my k_all" => (first | with_reducible assumption | (refine List.forall_mem_append.mpr ⟨?_, ?_⟩ <;> k_all))
  k_with "my k_updF" => ((refine' UpdF.app ?zqa ?zqb; (case zqa => k_all); (case zqb => k_updF)))
  k_with "my subscriptTail" => ((k_here; (with_reducible show wpAny _ _ (subscriptTail _ _ (Value.ref _) (Value.int _ _)) _ _ _); k_dflt (refine' itemL ?zql ?zqa ?zqb ?zqd ?_; (case zql => is_list); (case zqa => decide); (case zqb => decide); (case zqd => rfl))))
  k_with "my call ref" => ((k_here; (with_reducible show wpAny _ _ (call (Value.ref 94) _) _ _ _); k_dflt (first | (refine' tuse (take _ _ _ _ ?zqh1 ?zqh2) ?zqB ?zqF ?zqX ?zqN ?zqT ?zqhk ?zqhd ?zqhu ?zqU ?zqho ?zqhp ?_; (case zqhp => trivial); (case zqh1 => first | decide | (simp; done)); (case zqh2 => first | decide | (simp; done)); (case zqB => k_asm); (case zqF => k_asm); (case zqX => k_asm); (case zqN => k_asm); (case zqT => k_asm); (case zqhk => first | exact rfl | assumption); (case zqhd => k_extra "my room9"); (case zqhu => k_extra "my units9"); (case zqU => k_updF); (case zqho => with_reducible assumption); intro r9 o9 V9 h9 tk9 ho9 F9 N9 hV9 hVn9 hP9; obtain ⟨e1, k9, t9, e2, hk0, hk1⟩ := hP9; subst e1; subst e2; (have hk2 : k9 < (7 : Int) := hk1); clear hk1; obtain (e3 | e3 | e3 | e3 | e3 | e3 | e3) := split7 hk0 hk2; all_goals (clear hk0 hk2; subst e3); all_goals (try simp only [List.nil_append, List.cons_append, List.append_nil, List.append_assoc] at N9); all_goals (try dsimp only); all_goals (try k_sweep)))))
  trivial
theorem one7 (w : World) (src l : Addr) (v0 v1 v2 v3 v4 v5 v6 : Value) (hls : l ≠ src) : TSpec w 101 [.ref src, .ref l] src (fun h => h.IsList l #[v0, v1, v2, v3, v4, v5, v6]) (fun r V => V = [] ∧ r ∈ [v0, v1, v2, v3, v4, v5, v6]) 5 := by
  unfold TSpec
  intro o prg loose mean mg mb dp un gd cn cs a ccd cl outer A₀ base h₀ L m s Q E hso B F X T hk hdp hun hos hsL hs0 hpre hret
  have N : News h₀ L s.heap [(src, o)] := by intro p hp; rw [List.mem_singleton.mp hp]; exact ⟨hos, hsL, hs0⟩
  refine wpAny_call ?_
  k_dflt (refine' code_defG (binds := [(Str.ofString "source", .ref src), (Str.ofString "things", .ref l)]) B F X N T ?kA ?kF ?kK ?k6 ?k7 ?k8 ?k9 ?kB ?_ ?c2 ?c3 ?c4 ?c5; (case kA => exact rfl); (case kF => exact rfl); (case kK => exact hk); (case k6 => k_is); (case k7 => k_is); (case k8 => k_extra "my room9"); (case k9 => first | exact BindsTo.of_eq rfl | exact binds_K (by k_in) rfl (by k_is) rfl rfl rfl); (case c5 => decide); (case kB => exact locs rfl); (case c2 => exact rfl); (case c3 => exact rfl); (case c4 => exact rfl))
  intro g' L' h' FG' F' N' B' X' T' kG'
  (try dsimp only); k_fold
  have hl9 := islist_g kG' hpre hls
  k_steps
  all_goals first
    | exact tret hret kG' (by assumption) (by assumption) (by assumption) (by assumption) [] (.head _) (by assumption) (fun _ h => nomatch h) ⟨rfl, by simp⟩
    | (fail)
theorem words_W12_1 : True := by
  k_with "my call ref" => ((k_here; (with_reducible show wpAny _ _ (call (Value.ref 94) _) _ _ _); k_dflt (first | (refine' tuse (take _ _ _ _ ?zqh1 ?zqh2) ?zqB ?zqF ?zqX ?zqN ?zqT ?zqhk ?zqhd ?zqhu ?zqU ?zqho ?zqhp ?_; (case zqhp => trivial); (case zqh1 => first | decide | (simp; done)); (case zqh2 => first | decide | (simp; done)); (case zqB => k_asm); (case zqF => k_asm); (case zqX => k_asm); (case zqN => k_asm); (case zqT => k_asm); (case zqhk => first | exact rfl | assumption); (case zqhd => k_extra "my room9"); (case zqhu => k_extra "my units9"); (case zqU => k_updF); (case zqho => with_reducible assumption); intro r9 o9 V9 h9 tk9 ho9 F9 N9 hV9 hVn9 hP9; obtain ⟨e1, k9, t9, e2, hk0, hk1⟩ := hP9; subst e1; subst e2; (have hk2 : k9 < (3 : Int) := hk1); clear hk1; obtain (e3 | e3 | e3) := split3 hk0 hk2; all_goals (clear hk0 hk2; subst e3); all_goals (try simp only [List.nil_append, List.cons_append, List.append_nil, List.append_assoc] at N9); all_goals (try dsimp only); all_goals (try k_sweep)))))
  trivial
theorem one3 (w : World) (src l : Addr) (v0 v1 v2 : Value) (hls : l ≠ src) : TSpec w 101 [.ref src, .ref l] src (fun h => h.IsList l #[v0, v1, v2]) (fun r V => V = [] ∧ r ∈ [v0, v1, v2]) 5 := by
  unfold TSpec
  intro o prg loose mean mg mb dp un gd cn cs a ccd cl outer A₀ base h₀ L m s Q E hso B F X T hk hdp hun hos hsL hs0 hpre hret
  have N : News h₀ L s.heap [(src, o)] := by intro p hp; rw [List.mem_singleton.mp hp]; exact ⟨hos, hsL, hs0⟩
  refine wpAny_call ?_
  k_dflt (refine' code_defG (binds := [(Str.ofString "source", .ref src), (Str.ofString "things", .ref l)]) B F X N T ?kA ?kF ?kK ?k6 ?k7 ?k8 ?k9 ?kB ?_ ?c2 ?c3 ?c4 ?c5; (case kA => exact rfl); (case kF => exact rfl); (case kK => exact hk); (case k6 => k_is); (case k7 => k_is); (case k8 => k_extra "my room9"); (case k9 => first | exact BindsTo.of_eq rfl | exact binds_K (by k_in) rfl (by k_is) rfl rfl rfl); (case c5 => decide); (case kB => exact locs rfl); (case c2 => exact rfl); (case c3 => exact rfl); (case c4 => exact rfl))
  intro g' L' h' FG' F' N' B' X' T' kG'
  (try dsimp only); k_fold
  have hl9 := islist_g kG' hpre hls
  k_steps
  all_goals first
    | exact tret hret kG' (by assumption) (by assumption) (by assumption) (by assumption) [] (.head _) (by assumption) (fun _ h => nomatch h) ⟨rfl, by simp⟩
    | (fail)
end Mine
end

section
open PySem PySem.W PyProof.Rows
namespace Mine
theorem anew_W13 : True := by
  w_top off
  trivial
set_option maxRecDepth 100000
set_option maxHeartbeats 8000000
theorem filler_w13 : Filler PySem.Challenge.rw_xm0582_01 hd.heap_1 := by k_fill; trivial

theorem words_W13_0 : True := by
  k_with_none
  k_with "my dep9" => ((first | ((with_reducible refine dS ?_); k_dflt (exact rfl)) | ((with_reducible refine dL ?_); k_dflt (exact rfl)) | ((with_reducible refine dR ?_); k_dflt (exact rfl)) | ((with_reducible refine dS1 ?_); k_dflt (exact rfl)) | ((with_reducible refine dL1 ?_); k_dflt (exact rfl)) | ((with_reducible refine dR1 ?_); k_dflt (exact rfl)) | ((with_reducible refine d0 ?_); k_dflt (exact rfl)) | ((with_reducible refine dV ?_); k_dflt (exact rfl)) | ((with_reducible refine dW ?_); k_dflt (exact rfl)) | k_dflt (exact le_of_ble rfl) | omega))
  k_with "my room9" => ((first | k_dflt (exact room_0 hdp) | (k_dflt (refine room_a hdp ?_); k_extra "my dep9") | k_dflt (exact Nat.le_of_ble_eq_true rfl) | ktr_room))
  k_with "my units9" => ((first | (k_dflt (refine' units_a hun ?zqua ?zqub); (case zqua => k_extra "my dep9"); (case zqub => k_dflt (exact rfl))) | k_dflt (exact Nat.le_of_ble_eq_true rfl) | ktr_units))
  k_with "my len9" => (((with_reducible show (_ : Nat) ≤ _); first | with_reducible exact Nat.le_refl 0 | ((with_reducible refine' lenApp ?_ ?_) <;> (first | k_extra "my len9" | with_reducible show Nat)) | ((with_reducible refine' addLe ?_ ?_) <;> (first | k_extra "my len9" | with_reducible show Nat)) | ((with_reducible refine' mulLe ?_) <;> (first | k_extra "my len9" | with_reducible show Nat)) | with_reducible assumption | with_reducible exact Nat.le_of_eq ln_e | with_reducible exact Nat.le_of_eq ln_28 | with_reducible exact Nat.le_of_eq ln_29 | with_reducible exact Nat.le_of_eq ln_2c20 | with_reducible exact Nat.le_of_eq ln_2c | with_reducible exact Nat.le_of_eq ln_2c29 | with_reducible exact Nat.le_of_eq ln_3c | with_reducible exact Nat.le_of_eq ln_3e | with_reducible exact Nat.le_of_eq ln_3a3a | with_reducible exact Nat.le_of_eq ln_26 | with_reducible exact Nat.le_of_eq ln_6d757420 | with_reducible exact Nat.le_of_eq ln_72656620 | with_reducible exact Nat.le_of_eq ln_204020 | with_reducible exact Nat.le_of_eq ln_2e2e3d | with_reducible exact Nat.le_of_eq ln_207b20 | with_reducible exact Nat.le_of_eq ln_207d | with_reducible exact Nat.le_of_eq ln_7d | with_reducible exact Nat.le_of_eq ln_2e2e | with_reducible exact Nat.le_of_eq ln_3a20 | with_reducible exact Nat.le_of_eq ln_207c20 | with_reducible exact Nat.le_of_eq ln_5f | with_reducible exact Nat.le_of_eq ln_21 | with_reducible exact Nat.le_of_eq ln_2761 | with_reducible exact Nat.le_of_eq ln_54 | with_reducible exact Nat.le_of_eq ln_7538 | with_reducible exact Nat.le_of_eq ln_78 | with_reducible exact Nat.le_of_eq ln_79 | with_reducible exact Nat.le_of_eq ln_6e | with_reducible exact Nat.le_of_eq ln_6d | with_reducible exact Nat.le_of_eq ln_74727565 | with_reducible exact Nat.le_of_eq ln_66616c7365 | with_reducible exact Nat.le_of_eq ln_37 | with_reducible exact Nat.le_of_eq ln_2d31 | with_reducible exact Nat.le_of_eq ln_2d33 | with_reducible exact Nat.le_of_eq ln_39 | with_reducible exact Nat.le_of_eq ln_31 | with_reducible exact Nat.le_of_eq ln_32 | with_reducible exact Nat.le_of_eq ln_73656c66 | with_reducible exact Nat.le_of_eq ln_53656c66 | with_reducible exact Nat.le_of_eq ln_7375706572 | with_reducible exact Nat.le_of_eq ln_6372617465 | with_reducible exact Nat.le_of_eq ln_41 | with_reducible exact Nat.le_of_eq ln_62 | with_reducible exact Nat.le_of_eq ln_4332 | with_reducible exact Nat.le_of_eq ln_3c75383e | with_reducible exact Nat.le_of_eq ln_3c27612c20542c205f3e | with_reducible exact lenW1 (by with_reducible assumption) (by with_reducible assumption) | with_reducible exact lenW2 (by with_reducible assumption) (by with_reducible assumption) | with_reducible exact lenV1 (by with_reducible assumption) (by with_reducible assumption) (by with_reducible assumption) | with_reducible exact lenV2 (by with_reducible assumption) (by with_reducible assumption) (by with_reducible assumption) | with_reducible exact And.left (by with_reducible assumption) | with_reducible exact And.right (by with_reducible assumption) | ((with_reducible refine' lenIte ?_ ?_) <;> (first | k_extra "my len9" | with_reducible show Nat)) | ((with_reducible refine' iteLe ?_ ?_) <;> (first | k_extra "my len9" | with_reducible show Nat))))
  k_with "my size9" => (((refine' size_of ?zqsa ?zqsb); (case zqsa => k_extra "my len9"); (case zqsb => k_dflt (exact rfl))))
  k_with "my k_steps" => (repeat' (first | (k_unfold; (try dsimp only)) | walk1 | (dsimp only; walk1) | fail "no step"))
  k_with "my binaryOp Add str str" => (((with_reducible show wpAny _ _ (binaryOp Operator.Add (Value.str _ _) (Value.str _ _)) _ _ _); (refine add_str (hsz := ?zqhsz) ?_); (case zqhsz => first | k_extra "my size9" | (simp only [j0, j1, j2, j3, PySem.Str.length_append, PySem.sizeLine_eq, ln_e,ln_28,ln_29,ln_2c20,ln_2c,ln_2c29,ln_3c,ln_3e,ln_3a3a,ln_26,ln_6d757420,ln_72656620,ln_204020,ln_2e2e3d,ln_207b20,ln_207d,ln_7d,ln_2e2e,ln_3a20,ln_207c20,ln_5f,ln_21,ln_2761,ln_54,ln_7538,ln_78,ln_79,ln_6e,ln_6d,ln_74727565,ln_66616c7365,ln_37,ln_2d31,ln_2d33,ln_39,ln_31,ln_32,ln_73656c66,ln_53656c66,ln_7375706572,ln_6372617465,ln_41,ln_62,ln_4332,ln_3c75383e,ln_3c27612c20542c205f3e]; omega)); intro _ _))
  k_with "my ite" => (first | ((refine' PySem.W.ite_pos ?zqhc ?_); (case zqhc => (first | (k_dflt (exact (show _ = true from rfl))) | with_reducible assumption))) | ((refine' PySem.W.ite_neg ?zqhc ?_); (case zqhc => (first | (k_dflt (exact fun hb9 => absurd (show false = true from hb9) Bool.false_ne_true)) | exact fun hb9 => absurd (hb9.symm.trans (by with_reducible assumption)) (by decide)))))
  k_with "my call builtin:str.join" => ((k_here; (with_reducible show wpAny _ _ (call (Value.builtin _) [Value.str _ _, Value.ref _]) _ _ _); k_dflt (first | refine jn0 (by is_list) ?_ | ((refine' jn1 ?zqhl ?zqhz ?_); (case zqhl => is_list); (case zqhz => first | k_extra "my size9" | (simp only [PySem.Str.length_append, ln_e,ln_28,ln_29,ln_2c20,ln_2c,ln_2c29,ln_3c,ln_3e,ln_3a3a,ln_26,ln_6d757420,ln_72656620,ln_204020,ln_2e2e3d,ln_207b20,ln_207d,ln_7d,ln_2e2e,ln_3a20,ln_207c20,ln_5f,ln_21,ln_2761,ln_54,ln_7538,ln_78,ln_79,ln_6e,ln_6d,ln_74727565,ln_66616c7365,ln_37,ln_2d31,ln_2d33,ln_39,ln_31,ln_32,ln_73656c66,ln_53656c66,ln_7375706572,ln_6372617465,ln_41,ln_62,ln_4332,ln_3c75383e,ln_3c27612c20542c205f3e]; omega))) | ((refine' jn2 ?zqhl ?zqhz ?_); (case zqhl => is_list); (case zqhz => first | k_extra "my size9" | (simp only [PySem.Str.length_append, ln_e,ln_28,ln_29,ln_2c20,ln_2c,ln_2c29,ln_3c,ln_3e,ln_3a3a,ln_26,ln_6d757420,ln_72656620,ln_204020,ln_2e2e3d,ln_207b20,ln_207d,ln_7d,ln_2e2e,ln_3a20,ln_207c20,ln_5f,ln_21,ln_2761,ln_54,ln_7538,ln_78,ln_79,ln_6e,ln_6d,ln_74727565,ln_66616c7365,ln_37,ln_2d31,ln_2d33,ln_39,ln_31,ln_32,ln_73656c66,ln_53656c66,ln_7375706572,ln_6372617465,ln_41,ln_62,ln_4332,ln_3c75383e,ln_3c27612c20542c205f3e]; omega))) | ((refine' jn3 ?zqhl ?zqhz ?_); (case zqhl => is_list); (case zqhz => first | k_extra "my size9" | (simp only [PySem.Str.length_append, ln_e,ln_28,ln_29,ln_2c20,ln_2c,ln_2c29,ln_3c,ln_3e,ln_3a3a,ln_26,ln_6d757420,ln_72656620,ln_204020,ln_2e2e3d,ln_207b20,ln_207d,ln_7d,ln_2e2e,ln_3a20,ln_207c20,ln_5f,ln_21,ln_2761,ln_54,ln_7538,ln_78,ln_79,ln_6e,ln_6d,ln_74727565,ln_66616c7365,ln_37,ln_2d31,ln_2d33,ln_39,ln_31,ln_32,ln_73656c66,ln_53656c66,ln_7375706572,ln_6372617465,ln_41,ln_62,ln_4332,ln_3c75383e,ln_3c27612c20542c205f3e]; omega)))); intro _ _))
  k_with "my units_room" => ((first | (k_dflt (refine' units_b hun ?zqua ?zqub); (case zqua => k_extra "my dep9"); (case zqub => k_dflt (exact rfl))) | (have hcL9 := cLine_is; (simp only [units_deeper, units_in1] at *); (try dsimp only [ktrTop] at *); omega)))
  k_with "my compareOp Eq ref ref" => (((with_reducible show wpAny _ _ (compareOp CmpOp.Eq (Value.ref _) (Value.ref _)) _ _ _); first | refine PySem.SeqAt.eq_list_lengthsAt (by is_list) (by is_list) (by rfl) (by units_room) ?_ | refine PySem.SeqAt.eq_listAt (e := fun _ => true) (items := #[]) (items2 := #[]) (by is_list) (by is_list) rfl (by units_room) (fun j h1 h2 => absurd h1 (Nat.not_lt_zero _)) ?_))
  k_with "my binaryOp Add str str" => (((with_reducible show wpAny _ _ (binaryOp Operator.Add (Value.str _ _) (Value.str _ _)) _ _ _); (refine add_str (hsz := ?zqhsz) ?_); (case zqhsz => first | exact Nat.zero_le _ | k_extra "my size9" | (simp only [PySem.Str.length_append, PySem.sizeLine_eq, ln_e,ln_28,ln_29,ln_2c20,ln_2c,ln_2c29,ln_3c,ln_3e,ln_3a3a,ln_26,ln_6d757420,ln_72656620,ln_204020,ln_2e2e3d,ln_207b20,ln_207d,ln_7d,ln_2e2e,ln_3a20,ln_207c20,ln_5f,ln_21,ln_2761,ln_54,ln_7538,ln_78,ln_79,ln_6e,ln_6d,ln_74727565,ln_66616c7365,ln_37,ln_2d31,ln_2d33,ln_39,ln_31,ln_32,ln_73656c66,ln_53656c66,ln_7375706572,ln_6372617465,ln_41,ln_62,ln_4332,ln_3c75383e,ln_3c27612c20542c205f3e]; omega) | (simp only [lenIf, PySem.Str.length_append, PySem.sizeLine_eq, ln_e,ln_28,ln_29,ln_2c20,ln_2c,ln_2c29,ln_3c,ln_3e,ln_3a3a,ln_26,ln_6d757420,ln_72656620,ln_204020,ln_2e2e3d,ln_207b20,ln_207d,ln_7d,ln_2e2e,ln_3a20,ln_207c20,ln_5f,ln_21,ln_2761,ln_54,ln_7538,ln_78,ln_79,ln_6e,ln_6d,ln_74727565,ln_66616c7365,ln_37,ln_2d31,ln_2d33,ln_39,ln_31,ln_32,ln_73656c66,ln_53656c66,ln_7375706572,ln_6372617465,ln_41,ln_62,ln_4332,ln_3c75383e,ln_3c27612c20542c205f3e]; (repeat' split) <;> omega)); intro _ _))
  k_with "my ite" => (first | ((with_reducible refine' ite_int_one ?zqhc ?_); (case zqhc => first | with_reducible assumption | decide)) | ((with_reducible refine' ite_int_two ?_ ?_) <;> intro hk9))
  k_with "my ite" => (first | ((refine' PySem.W.ite_pos ?zqhc ?_); (case zqhc => (first | (k_dflt (exact (show _ = true from rfl))) | with_reducible assumption))) | ((refine' PySem.W.ite_neg ?zqhc ?_); (case zqhc => (first | (k_dflt (exact fun hb9 => absurd (show false = true from hb9) Bool.false_ne_true)) | exact fun hb9 => absurd (hb9.symm.trans (by with_reducible assumption)) (by decide)))))
  k_with "my storeName" => ((k_here; (with_reducible show wpAny _ _ (storeName _ _ _) _ _ _); k_dflt (refine' storeU ?zqhe ?zqF ?zqN ?zqhk ?zqhx ?_; (case zqhe => exact rfl); (case zqF => k_asm); (case zqN => k_asm); (case zqhk => rfl); (case zqhx => rfl)); intro h' M' F' N'; (try dsimp only); (try k_sweep)))
  k_with "my execs cons Assign cons" => ((k_here; (with_reducible show wpAny _ _ (execs (Stmt.Assign [Expr.Name _ _] _ _ :: _) _) _ _ _); k_dflt (refine' pure_assignE ?zqhe ?zqhpl ?zqF ?zqN ?zqhk ?zqh ?zqhn ?zqhx ?zqsw ?_; (case zqhpl => exact rfl); (case zqhe => exact rfl); (case zqF => k_asm); (case zqhk => rfl); (case zqh => exact rfl); (case zqhn => first | exact Nat.zero_le _ | k_extra "my size9" | (simp only [PySem.Str.length_append, PySem.sizeLine_eq, ln_e,ln_28,ln_29,ln_2c20,ln_2c,ln_2c29,ln_3c,ln_3e,ln_3a3a,ln_26,ln_6d757420,ln_72656620,ln_204020,ln_2e2e3d,ln_207b20,ln_207d,ln_7d,ln_2e2e,ln_3a20,ln_207c20,ln_5f,ln_21,ln_2761,ln_54,ln_7538,ln_78,ln_79,ln_6e,ln_6d,ln_74727565,ln_66616c7365,ln_37,ln_2d31,ln_2d33,ln_39,ln_31,ln_32,ln_73656c66,ln_53656c66,ln_7375706572,ln_6372617465,ln_41,ln_62,ln_4332,ln_3c75383e,ln_3c27612c20542c205f3e]; omega) | (simp only [lenIf, PySem.Str.length_append, PySem.sizeLine_eq, ln_e,ln_28,ln_29,ln_2c20,ln_2c,ln_2c29,ln_3c,ln_3e,ln_3a3a,ln_26,ln_6d757420,ln_72656620,ln_204020,ln_2e2e3d,ln_207b20,ln_207d,ln_7d,ln_2e2e,ln_3a20,ln_207c20,ln_5f,ln_21,ln_2761,ln_54,ln_7538,ln_78,ln_79,ln_6e,ln_6d,ln_74727565,ln_66616c7365,ln_37,ln_2d31,ln_2d33,ln_39,ln_31,ln_32,ln_73656c66,ln_53656c66,ln_7375706572,ln_6372617465,ln_41,ln_62,ln_4332,ln_3c75383e,ln_3c27612c20542c205f3e]; (repeat' split) <;> omega)); (case zqN => k_asm); (case zqhx => rfl); (case zqsw => rfl)); (try dsimp -zeta only [PV.at]); intro t9 h9 tk9 M9 F9 N9))
  k_with "my execs cons If" => ((k_here; (with_reducible show wpAny _ _ (execs (Stmt.If _ _ [] _ :: _) _) _ _ _); k_dflt (refine' pure_ifE ?zqhe ?zqhpl ?zqF ?zqhk ?zqhp ?zqh ?zqhn ?zqhc ?_; (case zqhpl => exact rfl); (case zqhe => exact rfl); (case zqF => k_asm); (case zqhk => rfl); (case zqh => exact rfl); (case zqhn => first | exact Nat.zero_le _ | k_extra "my size9" | (simp only [PySem.Str.length_append, PySem.sizeLine_eq, ln_e,ln_28,ln_29,ln_2c20,ln_2c,ln_2c29,ln_3c,ln_3e,ln_3a3a,ln_26,ln_6d757420,ln_72656620,ln_204020,ln_2e2e3d,ln_207b20,ln_207d,ln_7d,ln_2e2e,ln_3a20,ln_207c20,ln_5f,ln_21,ln_2761,ln_54,ln_7538,ln_78,ln_79,ln_6e,ln_6d,ln_74727565,ln_66616c7365,ln_37,ln_2d31,ln_2d33,ln_39,ln_31,ln_32,ln_73656c66,ln_53656c66,ln_7375706572,ln_6372617465,ln_41,ln_62,ln_4332,ln_3c75383e,ln_3c27612c20542c205f3e]; omega) | (simp only [lenIf, PySem.Str.length_append, PySem.sizeLine_eq, ln_e,ln_28,ln_29,ln_2c20,ln_2c,ln_2c29,ln_3c,ln_3e,ln_3a3a,ln_26,ln_6d757420,ln_72656620,ln_204020,ln_2e2e3d,ln_207b20,ln_207d,ln_7d,ln_2e2e,ln_3a20,ln_207c20,ln_5f,ln_21,ln_2761,ln_54,ln_7538,ln_78,ln_79,ln_6e,ln_6d,ln_74727565,ln_66616c7365,ln_37,ln_2d31,ln_2d33,ln_39,ln_31,ln_32,ln_73656c66,ln_53656c66,ln_7375706572,ln_6372617465,ln_41,ln_62,ln_4332,ln_3c75383e,ln_3c27612c20542c205f3e]; (repeat' split) <;> omega)); (case zqhp => rfl); (case zqhc => exact rfl)); intro tk9; (try dsimp only)))
  k_with "my eval BinOp" => ((k_here; (with_reducible show wpAny _ _ (eval (Expr.BinOp _ _ _ _) _) _ _ _); k_dflt (refine' pure_evalE ?zqhe ?zqhpl ?zqF ?zqhk ?zqh ?zqhn ?_; (case zqhpl => exact rfl); (case zqhe => exact rfl); (case zqF => k_asm); (case zqhk => rfl); (case zqh => exact rfl); (case zqhn => first | exact Nat.zero_le _ | k_extra "my size9" | (simp only [PySem.Str.length_append, PySem.sizeLine_eq, ln_e,ln_28,ln_29,ln_2c20,ln_2c,ln_2c29,ln_3c,ln_3e,ln_3a3a,ln_26,ln_6d757420,ln_72656620,ln_204020,ln_2e2e3d,ln_207b20,ln_207d,ln_7d,ln_2e2e,ln_3a20,ln_207c20,ln_5f,ln_21,ln_2761,ln_54,ln_7538,ln_78,ln_79,ln_6e,ln_6d,ln_74727565,ln_66616c7365,ln_37,ln_2d31,ln_2d33,ln_39,ln_31,ln_32,ln_73656c66,ln_53656c66,ln_7375706572,ln_6372617465,ln_41,ln_62,ln_4332,ln_3c75383e,ln_3c27612c20542c205f3e]; omega) | (simp only [lenIf, PySem.Str.length_append, PySem.sizeLine_eq, ln_e,ln_28,ln_29,ln_2c20,ln_2c,ln_2c29,ln_3c,ln_3e,ln_3a3a,ln_26,ln_6d757420,ln_72656620,ln_204020,ln_2e2e3d,ln_207b20,ln_207d,ln_7d,ln_2e2e,ln_3a20,ln_207c20,ln_5f,ln_21,ln_2761,ln_54,ln_7538,ln_78,ln_79,ln_6e,ln_6d,ln_74727565,ln_66616c7365,ln_37,ln_2d31,ln_2d33,ln_39,ln_31,ln_32,ln_73656c66,ln_53656c66,ln_7375706572,ln_6372617465,ln_41,ln_62,ln_4332,ln_3c75383e,ln_3c27612c20542c205f3e]; (repeat' split) <;> omega))); intro t9 tk9; (try dsimp only [PV.at])))
  k_with "my eval BinOp" => ((k_here; (with_reducible show wpAny _ _ (eval (Expr.BinOp (Expr.Constant _ _ _) Operator.Mult (Expr.Call (Expr.Name _ _) [Expr.Name _ _] [] _) _) _) _ _ _); k_dflt (refine' mul_intE ?zqhe ?zqF ?zqX ?zqT ?zqhI ?zqhx ?zqhk ?zqhi ?zqhxl ?zqhl ?_; (case zqhe => exact rfl); (case zqF => k_asm); (case zqX => k_asm); (case zqT => k_asm); (case zqhI => k_is); (case zqhx => rfl); (case zqhk => rfl); (case zqhi => rfl); (case zqhxl => rfl); (case zqhl => decide +kernel)); intro t9 tk9; (try dsimp only)))
  k_with "my eval Compare" => ((k_here; (with_reducible show wpAny _ _ (eval (Expr.Compare _ _ _ _) _) _ _ _); k_dflt (refine' pure_evalE ?zqhe ?zqhpl ?zqF ?zqhk ?zqh ?zqhn ?_; (case zqhpl => exact rfl); (case zqhe => exact rfl); (case zqF => k_asm); (case zqhk => rfl); (case zqh => exact rfl); (case zqhn => first | exact Nat.zero_le _ | k_extra "my size9" | (simp only [PySem.Str.length_append, PySem.sizeLine_eq, ln_e,ln_28,ln_29,ln_2c20,ln_2c,ln_2c29,ln_3c,ln_3e,ln_3a3a,ln_26,ln_6d757420,ln_72656620,ln_204020,ln_2e2e3d,ln_207b20,ln_207d,ln_7d,ln_2e2e,ln_3a20,ln_207c20,ln_5f,ln_21,ln_2761,ln_54,ln_7538,ln_78,ln_79,ln_6e,ln_6d,ln_74727565,ln_66616c7365,ln_37,ln_2d31,ln_2d33,ln_39,ln_31,ln_32,ln_73656c66,ln_53656c66,ln_7375706572,ln_6372617465,ln_41,ln_62,ln_4332,ln_3c75383e,ln_3c27612c20542c205f3e]; omega) | (simp only [lenIf, PySem.Str.length_append, PySem.sizeLine_eq, ln_e,ln_28,ln_29,ln_2c20,ln_2c,ln_2c29,ln_3c,ln_3e,ln_3a3a,ln_26,ln_6d757420,ln_72656620,ln_204020,ln_2e2e3d,ln_207b20,ln_207d,ln_7d,ln_2e2e,ln_3a20,ln_207c20,ln_5f,ln_21,ln_2761,ln_54,ln_7538,ln_78,ln_79,ln_6e,ln_6d,ln_74727565,ln_66616c7365,ln_37,ln_2d31,ln_2d33,ln_39,ln_31,ln_32,ln_73656c66,ln_53656c66,ln_7375706572,ln_6372617465,ln_41,ln_62,ln_4332,ln_3c75383e,ln_3c27612c20542c205f3e]; (repeat' split) <;> omega))); intro t9 tk9; (try dsimp only [PV.at])))
  k_with "my eval IfExp" => ((k_here; (with_reducible show wpAny _ _ (eval (Expr.IfExp _ _ _ _) _) _ _ _); k_dflt (refine' pure_evalE ?zqhe ?zqhpl ?zqF ?zqhk ?zqh ?zqhn ?_; (case zqhpl => exact rfl); (case zqhe => exact rfl); (case zqF => k_asm); (case zqhk => rfl); (case zqh => exact rfl); (case zqhn => first | exact Nat.zero_le _ | k_extra "my size9" | (simp only [PySem.Str.length_append, PySem.sizeLine_eq, ln_e,ln_28,ln_29,ln_2c20,ln_2c,ln_2c29,ln_3c,ln_3e,ln_3a3a,ln_26,ln_6d757420,ln_72656620,ln_204020,ln_2e2e3d,ln_207b20,ln_207d,ln_7d,ln_2e2e,ln_3a20,ln_207c20,ln_5f,ln_21,ln_2761,ln_54,ln_7538,ln_78,ln_79,ln_6e,ln_6d,ln_74727565,ln_66616c7365,ln_37,ln_2d31,ln_2d33,ln_39,ln_31,ln_32,ln_73656c66,ln_53656c66,ln_7375706572,ln_6372617465,ln_41,ln_62,ln_4332,ln_3c75383e,ln_3c27612c20542c205f3e]; omega) | (simp only [lenIf, PySem.Str.length_append, PySem.sizeLine_eq, ln_e,ln_28,ln_29,ln_2c20,ln_2c,ln_2c29,ln_3c,ln_3e,ln_3a3a,ln_26,ln_6d757420,ln_72656620,ln_204020,ln_2e2e3d,ln_207b20,ln_207d,ln_7d,ln_2e2e,ln_3a20,ln_207c20,ln_5f,ln_21,ln_2761,ln_54,ln_7538,ln_78,ln_79,ln_6e,ln_6d,ln_74727565,ln_66616c7365,ln_37,ln_2d31,ln_2d33,ln_39,ln_31,ln_32,ln_73656c66,ln_53656c66,ln_7375706572,ln_6372617465,ln_41,ln_62,ln_4332,ln_3c75383e,ln_3c27612c20542c205f3e]; (repeat' split) <;> omega))); intro t9 tk9; (try dsimp only [PV.at])))
  k_with "my isTrue Compare" => ((k_here; (with_reducible show wpAny _ _ (PySem.isTrue (Expr.Compare _ _ _ _) _ _) _ _ _); k_dflt (refine' pure_testE ?zqhe ?zqhpl ?zqF ?zqhk ?zqhp ?zqh ?zqhc ?zqhn ?_; (case zqhpl => exact rfl); (case zqhe => exact rfl); (case zqF => k_asm); (case zqhk => rfl); (case zqh => exact rfl); (case zqhn => first | exact Nat.zero_le _ | k_extra "my size9" | (simp only [PySem.Str.length_append, PySem.sizeLine_eq, ln_e,ln_28,ln_29,ln_2c20,ln_2c,ln_2c29,ln_3c,ln_3e,ln_3a3a,ln_26,ln_6d757420,ln_72656620,ln_204020,ln_2e2e3d,ln_207b20,ln_207d,ln_7d,ln_2e2e,ln_3a20,ln_207c20,ln_5f,ln_21,ln_2761,ln_54,ln_7538,ln_78,ln_79,ln_6e,ln_6d,ln_74727565,ln_66616c7365,ln_37,ln_2d31,ln_2d33,ln_39,ln_31,ln_32,ln_73656c66,ln_53656c66,ln_7375706572,ln_6372617465,ln_41,ln_62,ln_4332,ln_3c75383e,ln_3c27612c20542c205f3e]; omega) | (simp only [lenIf, PySem.Str.length_append, PySem.sizeLine_eq, ln_e,ln_28,ln_29,ln_2c20,ln_2c,ln_2c29,ln_3c,ln_3e,ln_3a3a,ln_26,ln_6d757420,ln_72656620,ln_204020,ln_2e2e3d,ln_207b20,ln_207d,ln_7d,ln_2e2e,ln_3a20,ln_207c20,ln_5f,ln_21,ln_2761,ln_54,ln_7538,ln_78,ln_79,ln_6e,ln_6d,ln_74727565,ln_66616c7365,ln_37,ln_2d31,ln_2d33,ln_39,ln_31,ln_32,ln_73656c66,ln_53656c66,ln_7375706572,ln_6372617465,ln_41,ln_62,ln_4332,ln_3c75383e,ln_3c27612c20542c205f3e]; (repeat' split) <;> omega)); (case zqhp => rfl); (case zqhc => exact rfl)); intro tk9; (try dsimp only)))
  k_with "my eval Tuple" => ((k_here; (with_reducible show wpAny _ _ (eval (Expr.Tuple _ _ _) _) _ _ _); k_dflt (refine' pure_tupleE ?zqhe ?zqhpl ?zqF ?zqN ?zqhk ?zqh ?zqhn ?zqhz ?_; (case zqhpl => exact rfl); (case zqhe => exact rfl); (case zqF => k_asm); (case zqhk => rfl); (case zqh => exact rfl); (case zqhn => first | exact Nat.zero_le _ | k_extra "my size9" | (simp only [PySem.Str.length_append, PySem.sizeLine_eq, ln_e,ln_28,ln_29,ln_2c20,ln_2c,ln_2c29,ln_3c,ln_3e,ln_3a3a,ln_26,ln_6d757420,ln_72656620,ln_204020,ln_2e2e3d,ln_207b20,ln_207d,ln_7d,ln_2e2e,ln_3a20,ln_207c20,ln_5f,ln_21,ln_2761,ln_54,ln_7538,ln_78,ln_79,ln_6e,ln_6d,ln_74727565,ln_66616c7365,ln_37,ln_2d31,ln_2d33,ln_39,ln_31,ln_32,ln_73656c66,ln_53656c66,ln_7375706572,ln_6372617465,ln_41,ln_62,ln_4332,ln_3c75383e,ln_3c27612c20542c205f3e]; omega) | (simp only [lenIf, PySem.Str.length_append, PySem.sizeLine_eq, ln_e,ln_28,ln_29,ln_2c20,ln_2c,ln_2c29,ln_3c,ln_3e,ln_3a3a,ln_26,ln_6d757420,ln_72656620,ln_204020,ln_2e2e3d,ln_207b20,ln_207d,ln_7d,ln_2e2e,ln_3a20,ln_207c20,ln_5f,ln_21,ln_2761,ln_54,ln_7538,ln_78,ln_79,ln_6e,ln_6d,ln_74727565,ln_66616c7365,ln_37,ln_2d31,ln_2d33,ln_39,ln_31,ln_32,ln_73656c66,ln_53656c66,ln_7375706572,ln_6372617465,ln_41,ln_62,ln_4332,ln_3c75383e,ln_3c27612c20542c205f3e]; (repeat' split) <;> omega)); (case zqN => k_asm); (case zqhz => exact Nat.le_of_ble_eq_true rfl)); intro tk9; (try dsimp only [AllAt]); intros; (rename_i D' h' F' N' l1); (try k_lt l1); (try k_sweep)))
  k_with "my spliced" => ((k_here; (with_reducible show wpAny _ _ (spliced (backTo _ (starEach (_ :: _) _))) _ _ _); k_dflt (refine' pure_argsE ?zqhe ?zqhpl ?zqhk ?zqF ?zqh ?zqhn ?_; (case zqhpl => exact rfl); (case zqhe => exact rfl); (case zqF => k_asm); (case zqhk => rfl); (case zqh => exact rfl); (case zqhn => first | exact Nat.zero_le _ | k_extra "my size9" | (simp only [PySem.Str.length_append, PySem.sizeLine_eq, ln_e,ln_28,ln_29,ln_2c20,ln_2c,ln_2c29,ln_3c,ln_3e,ln_3a3a,ln_26,ln_6d757420,ln_72656620,ln_204020,ln_2e2e3d,ln_207b20,ln_207d,ln_7d,ln_2e2e,ln_3a20,ln_207c20,ln_5f,ln_21,ln_2761,ln_54,ln_7538,ln_78,ln_79,ln_6e,ln_6d,ln_74727565,ln_66616c7365,ln_37,ln_2d31,ln_2d33,ln_39,ln_31,ln_32,ln_73656c66,ln_53656c66,ln_7375706572,ln_6372617465,ln_41,ln_62,ln_4332,ln_3c75383e,ln_3c27612c20542c205f3e]; omega) | (simp only [lenIf, PySem.Str.length_append, PySem.sizeLine_eq, ln_e,ln_28,ln_29,ln_2c20,ln_2c,ln_2c29,ln_3c,ln_3e,ln_3a3a,ln_26,ln_6d757420,ln_72656620,ln_204020,ln_2e2e3d,ln_207b20,ln_207d,ln_7d,ln_2e2e,ln_3a20,ln_207c20,ln_5f,ln_21,ln_2761,ln_54,ln_7538,ln_78,ln_79,ln_6e,ln_6d,ln_74727565,ln_66616c7365,ln_37,ln_2d31,ln_2d33,ln_39,ln_31,ln_32,ln_73656c66,ln_53656c66,ln_7375706572,ln_6372617465,ln_41,ln_62,ln_4332,ln_3c75383e,ln_3c27612c20542c205f3e]; (repeat' split) <;> omega))); intro tk9; (try dsimp only [AllAt, List.cons_append, List.nil_append]); intros; (try dsimp only [List.cons_append, List.nil_append])))
  k_with "my eval Name" => ((k_here; (with_reducible show wpAny _ _ (eval (Expr.Name _ _) (envOf _ _ _ _ _)) _ _ _); k_dflt (first | (refine' nameX_L ?zqF ?zqv ?_ ?zqa ?zqb; (case zqF => k_asm); (case zqa => rfl); (case zqb => rfl); (case zqv => rfl); k_whole) | (refine' nameX_K ?zqF ?zqX ?zqT ?zqe ?_ ?zqa ?zqb; (case zqF => k_asm); (case zqX => k_asm); (case zqT => k_asm); (case zqa => rfl); (case zqb => rfl); (case zqe => k_is); k_whole))))
  k_with "my k_all" => (first | with_reducible assumption | (refine List.forall_mem_append.mpr ⟨?_, ?_⟩ <;> k_all))
  k_with "my k_updF" => ((refine' UpdF.app ?zqa ?zqb; (case zqa => k_all); (case zqb => k_updF)))
  k_with "my subscriptTail" => ((k_here; (with_reducible show wpAny _ _ (subscriptTail _ _ (Value.ref _) (Value.int _ _)) _ _ _); k_dflt (refine' itemL ?zql ?zqa ?zqb ?zqd ?_; (case zql => is_list); (case zqa => decide); (case zqb => decide); (case zqd => rfl))))
  k_with "my call ref" => ((k_here; (with_reducible show wpAny _ _ (call (Value.ref 94) _) _ _ _); k_dflt (first | (refine' tuse (take _ _ _ _ ?zqh1 ?zqh2) ?zqB ?zqF ?zqX ?zqN ?zqT ?zqhk ?zqhd ?zqhu ?zqU ?zqho ?zqhp ?_; (case zqhp => trivial); (case zqh1 => first | decide | (simp; done)); (case zqh2 => first | decide | (simp; done)); (case zqB => k_asm); (case zqF => k_asm); (case zqX => k_asm); (case zqN => k_asm); (case zqT => k_asm); (case zqhk => first | exact rfl | assumption); (case zqhd => k_extra "my room9"); (case zqhu => k_extra "my units9"); (case zqU => k_updF); (case zqho => with_reducible assumption); intro r9 o9 V9 h9 tk9 ho9 F9 N9 hV9 hVn9 hP9; obtain ⟨e1, k9, t9, e2, hk0, hk1⟩ := hP9; subst e1; subst e2; (try simp only [List.nil_append, List.cons_append, List.append_nil, List.append_assoc] at N9); (try dsimp only); (try k_sweep)))))
  k_with "my call ref" => ((k_here; (with_reducible show wpAny _ _ (call (Value.ref 101) _) _ _ _); k_dflt (first | (refine' tuse (one3 _ _ _ _ _ _ ?zqhl) ?zqB ?zqF ?zqX ?zqN ?zqT ?zqhk ?zqhd ?zqhu ?zqU ?zqho ?zqhp ?_; (case zqhp => is_list); (case zqhl => k_ne); (case zqB => k_asm); (case zqF => k_asm); (case zqX => k_asm); (case zqN => k_asm); (case zqT => k_asm); (case zqhk => first | exact rfl | assumption); (case zqhd => k_extra "my room9"); (case zqhu => k_extra "my units9"); (case zqU => k_updF); (case zqho => with_reducible assumption); intro r9 o9 V9 h9 tk9 ho9 F9 N9 hV9 hVn9 hP9; obtain ⟨e1, hm9⟩ := hP9; subst e1; (simp only [List.mem_cons, List.not_mem_nil, or_false] at hm9); obtain (e3 | e3 | e3) := hm9; all_goals subst e3; all_goals (try simp only [List.nil_append, List.cons_append, List.append_nil, List.append_assoc] at N9); all_goals (try dsimp only); all_goals (try k_sweep)))))
  trivial
theorem plain (w : World) (src : Addr) : TSpec w 113 [.ref src] src (fun _ => True) (PlainPost) 8 := by
  unfold TSpec
  intro o prg loose mean mg mb dp un gd cn cs a ccd cl outer A₀ base h₀ L m s Q E hso B F X T hk hdp hun hos hsL hs0 hpre hret
  have N : News h₀ L s.heap [(src, o)] := by intro p hp; rw [List.mem_singleton.mp hp]; exact ⟨hos, hsL, hs0⟩
  refine wpAny_call ?_
  k_dflt (refine' code_defG (binds := [(Str.ofString "source", .ref src)]) B F X N T ?kA ?kF ?kK ?k6 ?k7 ?k8 ?k9 ?kB ?_ ?c2 ?c3 ?c4 ?c5; (case kA => exact rfl); (case kF => exact rfl); (case kK => exact hk); (case k6 => k_is); (case k7 => k_is); (case k8 => k_extra "my room9"); (case k9 => first | exact BindsTo.of_eq rfl | exact binds_K (by k_in) rfl (by k_is) rfl rfl rfl); (case c5 => decide); (case kB => exact locs rfl); (case c2 => exact rfl); (case c3 => exact rfl); (case c4 => exact rfl))
  intro g' L' h' FG' F' N' B' X' T' kG'
  (try dsimp only); k_fold
  k_steps
  all_goals first
    | exact plain_end hret kG' (by assumption) (by assumption) (by assumption) (by assumption) (by k_mem) (by assumption) (by k_mem) (by k_mem) (by k_ne) (by k_ne) (fun h e => PatAt.wild ⟨_, e, rfl, _, rfl⟩) (by first | decide +kernel | (simp only [pT_wild, pT_litT, pT_litF, pT_lit7, pT_litm, pT_rngA, pT_rngB, pT_name, pT_bind, pT_ref, pT_tup1, pT_tup2, pT_var0, pT_var1, pT_var2, pT_fld1, pT_fld2, pT_or2, ape, epa, PySem.Str.append_assoc]; done)) trivial (by first | decide | exact Nat.le_refl _) rfl rfl
    | exact plain_end hret kG' (by assumption) (by assumption) (by assumption) (by assumption) (by k_mem) (by assumption) (by k_mem) (by k_mem) (by k_ne) (by k_ne) (fun h e => PatAt.litT ⟨_, e, rfl, _, rfl⟩) (by first | decide +kernel | (simp only [pT_wild, pT_litT, pT_litF, pT_lit7, pT_litm, pT_rngA, pT_rngB, pT_name, pT_bind, pT_ref, pT_tup1, pT_tup2, pT_var0, pT_var1, pT_var2, pT_fld1, pT_fld2, pT_or2, ape, epa, PySem.Str.append_assoc]; done)) trivial (by first | decide | exact Nat.le_refl _) rfl rfl
    | exact plain_end hret kG' (by assumption) (by assumption) (by assumption) (by assumption) (by k_mem) (by assumption) (by k_mem) (by k_mem) (by k_ne) (by k_ne) (fun h e => PatAt.litF ⟨_, e, rfl, _, rfl⟩) (by first | decide +kernel | (simp only [pT_wild, pT_litT, pT_litF, pT_lit7, pT_litm, pT_rngA, pT_rngB, pT_name, pT_bind, pT_ref, pT_tup1, pT_tup2, pT_var0, pT_var1, pT_var2, pT_fld1, pT_fld2, pT_or2, ape, epa, PySem.Str.append_assoc]; done)) trivial (by first | decide | exact Nat.le_refl _) rfl rfl
    | exact plain_end hret kG' (by assumption) (by assumption) (by assumption) (by assumption) (by k_mem) (by assumption) (by k_mem) (by k_mem) (by k_ne) (by k_ne) (fun h e => PatAt.lit7 ⟨_, e, rfl, _, rfl⟩) (by first | decide +kernel | (simp only [pT_wild, pT_litT, pT_litF, pT_lit7, pT_litm, pT_rngA, pT_rngB, pT_name, pT_bind, pT_ref, pT_tup1, pT_tup2, pT_var0, pT_var1, pT_var2, pT_fld1, pT_fld2, pT_or2, ape, epa, PySem.Str.append_assoc]; done)) trivial (by first | decide | exact Nat.le_refl _) rfl rfl
    | exact plain_end hret kG' (by assumption) (by assumption) (by assumption) (by assumption) (by k_mem) (by assumption) (by k_mem) (by k_mem) (by k_ne) (by k_ne) (fun h e => PatAt.litm ⟨_, e, rfl, _, rfl⟩) (by first | decide +kernel | (simp only [pT_wild, pT_litT, pT_litF, pT_lit7, pT_litm, pT_rngA, pT_rngB, pT_name, pT_bind, pT_ref, pT_tup1, pT_tup2, pT_var0, pT_var1, pT_var2, pT_fld1, pT_fld2, pT_or2, ape, epa, PySem.Str.append_assoc]; done)) trivial (by first | decide | exact Nat.le_refl _) rfl rfl
    | exact plain_end hret kG' (by assumption) (by assumption) (by assumption) (by assumption) (by k_mem) (by assumption) (by k_mem) (by k_mem) (by k_ne) (by k_ne) (fun h e => PatAt.rngA ⟨_, e, rfl, _, rfl⟩) (by first | decide +kernel | (simp only [pT_wild, pT_litT, pT_litF, pT_lit7, pT_litm, pT_rngA, pT_rngB, pT_name, pT_bind, pT_ref, pT_tup1, pT_tup2, pT_var0, pT_var1, pT_var2, pT_fld1, pT_fld2, pT_or2, ape, epa, PySem.Str.append_assoc]; done)) trivial (by first | decide | exact Nat.le_refl _) rfl rfl
    | exact plain_end hret kG' (by assumption) (by assumption) (by assumption) (by assumption) (by k_mem) (by assumption) (by k_mem) (by k_mem) (by k_ne) (by k_ne) (fun h e => PatAt.name ⟨_, e, rfl, _, rfl⟩) (by first | decide +kernel | (simp only [pT_wild, pT_litT, pT_litF, pT_lit7, pT_litm, pT_rngA, pT_rngB, pT_name, pT_bind, pT_ref, pT_tup1, pT_tup2, pT_var0, pT_var1, pT_var2, pT_fld1, pT_fld2, pT_or2, ape, epa, PySem.Str.append_assoc]; done)) trivial (by first | decide | exact Nat.le_refl _) rfl rfl
    | (fail)
end Mine
end

section
open PySem PySem.W PyProof.Rows
namespace Mine
set_option maxRecDepth 100000
set_option maxHeartbeats 8000000

/-- a built part: the triple at c, the pattern at a -/
structure Kid (V : Led) (c a : Addr) (P : Pt) (t1 t2 : Tok) (n : Nat) (oa : Obj) (W D : Nat) : Prop where
  hc : (c, tupOf #[.ref a, .str P.T.1 t1, .str P.T.2 t2] n) ∈ V
  ha : (a, oa) ∈ V
  pat : PatV V a P
  ok : P.Ok
  wt : P.wt ≤ W
  dep : P.dep ≤ D
/-- what _law_part gives back -/
def PartPost (W D : Nat) (r : Value) (V : Led) : Prop := ∃ (c a : Addr) (P : Pt) (t1 t2 : Tok) (n : Nat) (oa : Obj), r = .ref c ∧ Kid V c a P t1 t2 n oa W D
theorem PartPost.mono {W D W' D' : Nat} {r : Value} {V : Led} (h : PartPost W D r V) (hW : W ≤ W') (hD : D ≤ D') : PartPost W' D' r V :=
  let ⟨c, a, P, t1, t2, n, oa, e, k⟩ := h
  ⟨c, a, P, t1, t2, n, oa, e, k.hc, k.ha, k.pat, k.ok, Nat.le_trans k.wt hW, Nat.le_trans k.dep hD⟩
/-- a piece that was drawn: its objects stand at no elder address -/
abbrev FreshV (src : Addr) (VA V : Led) : Prop := ∀ p ∈ V, Fresh src VA p.1
theorem freshV_of {src L : Addr} {s h₀ : Heap} {VA V news : Led} (_hall : ∀ b ob, b ≠ src → b ≠ L → s.get? b = some ob → h₀.get? b = some ob ∨ (b, ob) ∈ VA)
    (h1 : ∀ p ∈ V, p.1 ≠ src) (h2 : ∀ p ∈ V, ∀ q ∈ news, p.1 ≠ q.1) (sub : ∀ q ∈ VA, q ∈ news) : FreshV src VA V := fun p hp => ⟨h1 p hp, fun q hq => h2 p hp q (sub q hq)⟩
theorem FreshV.at {src : Addr} {VA V : Led} {a : Addr} {o : Obj} (h : FreshV src VA V) (hm : (a, o) ∈ V) : Fresh src VA a := h _ hm
theorem FreshV.ne {src : Addr} {VA V : Led} {a : Addr} {o : Obj} (h : FreshV src VA V) (hm : (a, o) ∈ V) : a ≠ src := (h _ hm).1
theorem off3_cat {I C D : Addr} {V W : Led} (a : LCg.Off3 I C D V) (b : LCg.Off3 I C D W) : LCg.Off3 I C D (V ++ W) :=
  LCg.Off3.of fun p hp => (List.mem_append.mp hp).elim (a.mem p) (b.mem p)
theorem off3_new {I C D : Addr} {oI oC oD : Obj} {V news : Led} (h : ∀ p ∈ V, ∀ q ∈ news, p.1 ≠ q.1) (hI : (I, oI) ∈ news) (hC : (C, oC) ∈ news) (hD : (D, oD) ∈ news) : LCg.Off3 I C D V :=
  LCg.Off3.of fun p hp => ⟨h p hp _ hI, h p hp _ hC, h p hp _ hD⟩
theorem off3_l {I C D : Addr} {V W : Led} (h : LCg.Off3 I C D (V ++ W)) : LCg.Off3 I C D V := LCg.Off3.of fun p hp => h.mem p (List.mem_append_left _ hp)
theorem off3_r {I C D : Addr} {V W : Led} (h : LCg.Off3 I C D (V ++ W)) : LCg.Off3 I C D W := LCg.Off3.of fun p hp => h.mem p (List.mem_append_right _ hp)
theorem off1_l {D : Addr} : ∀ {V W : Led}, LCg.Off1 D (V ++ W) → LCg.Off1 D V
  | [], _, _ => trivial
  | _ :: _, _, h => ⟨h.1, off1_l h.2⟩
/-- what a tuple bears, said of the object -/
def OTup (o : Obj) (its : Array Value) : Prop := o.cls = .type "tuple" ∧ ∃ n, o.data = .seq its n
theorem istup_led {h₀ h : Heap} {L a : Addr} {news : Led} {o : Obj} {its : Array Value} (N : News h₀ L h news) (hm : (a, o) ∈ news) (x : OTup o its) : IsTup h a its := ⟨o, (N _ hm).1, x.1, x.2⟩
theorem otup_of {h : Heap} {a : Addr} {o : Obj} {its : Array Value} (x : IsTup h a its) (e : h.get? a = some o) : OTup o its := by
  obtain ⟨o', e', r⟩ := x
  rw [e] at e'
  cases e'
  exact r
/-- what a holder of a reference looks at, said of the object -/
inductive RootObj (o : Obj) (own : Bool) : Prop
  | name {t u x v} {nm : Str} {r m : Bool} : OTup o #[.str (S "name") t, .int 0 u, .str nm x, .bool r, .bool m, v] → own = (m && !r) → RootObj o own
  | range {t u x y} : OTup o #[.str (S "range") t, .int 0 u, x, y] → own = true → RootObj o own
  | other {l : List Value} {k : Str} {t : Tok} : OTup o (Value.str k t :: l).toArray → (k == S "name") = false → (k == S "range") = false → own = false → RootObj o own
theorem root_obj {h : Heap} {a : Addr} {o : Obj} {own : Bool} (R : RootAt h a own) (e : h.get? a = some o) : RootObj o own := by
  cases R with
  | name x y => exact .name (otup_of x e) y
  | range x y => exact .range (otup_of x e) y
  | other x y z u => exact .other (otup_of x e) y z u
theorem Kid.root {V news : Led} {c a : Addr} {P : Pt} {t1 t2 : Tok} {n : Nat} {oa : Obj} {W D : Nat} {h₀ h : Heap} {L : Addr} (k : Kid V c a P t1 t2 n oa W D) (N : News h₀ L h news) (sub : ∀ p ∈ V, p ∈ news) : RootObj oa P.own :=
  root_obj (k.pat h fun p hp => (N p (sub p hp)).1).root (N _ (sub _ k.ha)).1
theorem Kid.len {V : Led} {c a : Addr} {P : Pt} {t1 t2 : Tok} {n : Nat} {oa : Obj} {W D : Nat} (k : Kid V c a P t1 t2 n oa W D) : P.T.1.length ≤ W ∧ P.T.2.length ≤ W :=
  ⟨Nat.le_trans (P.len k.ok).1 k.wt, Nat.le_trans (P.len k.ok).2 k.wt⟩
/-- a child's two objects, said at the ledger's head -/
theorem Kid.news {V news : Led} {c a : Addr} {P : Pt} {t1 t2 : Tok} {n : Nat} {oa : Obj} {W D : Nat} {h₀ h : Heap} {L : Addr} (k : Kid V c a P t1 t2 n oa W D) (N : News h₀ L h news) (sub : ∀ p ∈ V, p ∈ news) :
    News h₀ L h ((c, tupOf #[.ref a, .str P.T.1 t1, .str P.T.2 t2] n) :: (a, oa) :: news) := fun p hp => by
  rcases List.mem_cons.mp hp with rfl | hp
  · exact N _ (sub _ k.hc)
  · rcases List.mem_cons.mp hp with rfl | hp
    · exact N _ (sub _ k.ha)
    · exact N _ hp
theorem Kid.mk_at {V news VA : Led} {c a src : Addr} {P : Pt} {t1 t2 : Tok} {n : Nat} {oa : Obj} {W D : Nat} {h : Heap} (k : Kid V c a P t1 t2 n oa W D) (fr : FreshV src VA V) (G : ∀ a o, (a, o) ∈ news → Fresh src VA a → h.get? a = some o) (sub : ∀ p ∈ V, p ∈ news) : PatAt h a P :=
  k.pat h fun p hp => G p.1 p.2 (sub p hp) (fr p hp)
theorem path_at {V news VA : Led} {z src : Addr} {ns : List Str} {way : Nat} {h : Heap} (k : PathV V (.ref z) ns way) (fr : FreshV src VA V) (G : ∀ a o, (a, o) ∈ news → Fresh src VA a → h.get? a = some o) (sub : ∀ p ∈ V, p ∈ news) : PathAt h (.ref z) ns way :=
  k h fun p hp => G p.1 p.2 (sub p hp) (fr p hp)

theorem part_end {src : Addr} {s h' h₀ : Heap} {L : Addr} {m : Str → Option Value} {sh : Shared} {Q : Value → Shared → Prop} {tk' : Nat} {news' VA : Led} {o' : Obj} {c a : Addr} {x1 x2 : Str} {t1 t2 : Tok} {n : Nat} {oa : Obj} {W D : Nat} {P : Pt}
    (hret : ∀ r o' V h' tk', SrcOk o' → Fr h₀ L h' m → (∀ b ob, b ≠ src → b ≠ L → s.get? b = some ob → h'.get? b = some ob) → h'.get? src = some o' → News h₀ L h' V → (∀ p ∈ V, s.get? p.1 = none) → PartPost W D r V → Q r { sh with heap := h', toks := tk' })
    (hall : ∀ b ob, b ≠ src → b ≠ L → s.get? b = some ob → h₀.get? b = some ob ∨ (b, ob) ∈ VA) (kF : Fr h₀ L h' m) (N : News h₀ L h' news') (sA : ∀ p ∈ VA, p ∈ news') (hs : (src, o') ∈ news') (ho' : SrcOk o')
    (hc : (c, tupOf #[.ref a, .str x1 t1, .str x2 t2] n) ∈ news') (hcf : Fresh src VA c) (ha : (a, oa) ∈ news') (haf : Fresh src VA a)
    (mk : ∀ h : Heap, (∀ a o, (a, o) ∈ news' → Fresh src VA a → h.get? a = some o) → PatAt h a P)
    (e1 : x1 = P.T.1) (e2 : x2 = P.T.2) (ok : P.Ok) (hw : P.wt ≤ W) (hd : P.dep ≤ D) : Q (.ref c) { sh with heap := h', toks := tk' } := by
  subst e1 e2
  refine tretC (Post := PartPost W D) hret hall kF N sA (freshLed src VA news') hs ho' (fun p hp => ?_)
    ⟨c, a, P, t1, t2, n, oa, rfl, freshLed_mem.mpr ⟨hc, hcf⟩, freshLed_mem.mpr ⟨ha, haf⟩, fun h b => mk h fun a o hm hf => b (a, o) (freshLed_mem.mpr ⟨hm, hf⟩), ok, hw, hd⟩
  obtain ⟨a, b, d⟩ := freshLed_mem.mp hp
  exact ⟨a, b, d⟩
/-- the end when a child comes back as it is -/
theorem part_endK {src : Addr} {s h' h₀ : Heap} {L : Addr} {m : Str → Option Value} {sh : Shared} {Q : Value → Shared → Prop} {tk' : Nat} {news' VA V : Led} {o' : Obj} {c a : Addr} {t1 t2 : Tok} {n : Nat} {oa : Obj} {W D W' D' : Nat} {P : Pt}
    (hret : ∀ r o' V h' tk', SrcOk o' → Fr h₀ L h' m → (∀ b ob, b ≠ src → b ≠ L → s.get? b = some ob → h'.get? b = some ob) → h'.get? src = some o' → News h₀ L h' V → (∀ p ∈ V, s.get? p.1 = none) → PartPost W D r V → Q r { sh with heap := h', toks := tk' })
    (hall : ∀ b ob, b ≠ src → b ≠ L → s.get? b = some ob → h₀.get? b = some ob ∨ (b, ob) ∈ VA) (kF : Fr h₀ L h' m) (N : News h₀ L h' news') (sA : ∀ p ∈ VA, p ∈ news') (hs : (src, o') ∈ news') (ho' : SrcOk o')
    (k : Kid V c a P t1 t2 n oa W' D') (fr : FreshV src VA V) (sub : ∀ p ∈ V, p ∈ news') (hW : W' ≤ W) (hD : D' ≤ D) : Q (.ref c) { sh with heap := h', toks := tk' } :=
  part_end hret hall kF N sA hs ho' (sub _ k.hc) (fr _ k.hc) (sub _ k.ha) (fr _ k.ha) (fun _ G => k.mk_at fr G sub) rfl rfl k.ok (Nat.le_trans k.wt hW) (Nat.le_trans k.dep hD)
/-- depth 0: a plain part -/
theorem part_endP {src : Addr} {s h' h₀ : Heap} {L : Addr} {m : Str → Option Value} {sh : Shared} {Q : Value → Shared → Prop} {tk' : Nat} {news' VA V : Led} {o' : Obj} {c a : Addr} {x1 x2 : Str} {t1 t2 : Tok} {n : Nat} {oa : Obj} {P : Pt}
    (hret : ∀ r o' V h' tk', SrcOk o' → Fr h₀ L h' m → (∀ b ob, b ≠ src → b ≠ L → s.get? b = some ob → h'.get? b = some ob) → h'.get? src = some o' → News h₀ L h' V → (∀ p ∈ V, s.get? p.1 = none) → PartPost 20 0 r V → Q r { sh with heap := h', toks := tk' })
    (hall : ∀ b ob, b ≠ src → b ≠ L → s.get? b = some ob → h₀.get? b = some ob ∨ (b, ob) ∈ VA) (kF : Fr h₀ L h' m) (N : News h₀ L h' news') (sA : ∀ p ∈ VA, p ∈ news') (hs : (src, o') ∈ news') (ho' : SrcOk o')
    (hc : (c, tupOf #[.ref a, .str x1 t1, .str x2 t2] n) ∈ news') (hcf : Fresh src VA c) (ha : (a, oa) ∈ V) (pat : PatV V a P) (fr : FreshV src VA V) (sub : ∀ p ∈ V, p ∈ news')
    (e1 : x1 = P.T.1) (e2 : x2 = P.T.2) (ok : P.Ok) (hw : P.wt ≤ 20) (hd : P.dep = 0) : Q (.ref c) { sh with heap := h', toks := tk' } :=
  part_end hret hall kF N sA hs ho' hc hcf (sub _ ha) (fr _ ha) (fun h G => pat h fun p hp => G p.1 p.2 (sub p hp) (fr p hp)) e1 e2 ok hw (Nat.le_of_eq hd)

section
variable {V news : Led} {c a : Addr} {P : Pt} {t1 t2 : Tok} {n : Nat} {oa : Obj} {W D : Nat} {h₀ h : Heap} {L : Addr}
theorem Kid.tup (k : Kid V c a P t1 t2 n oa W D) (N : News h₀ L h news) (sub : ∀ p ∈ V, p ∈ news) : IsTup h c #[.ref a, .str P.T.1 t1, .str P.T.2 t2] := istup_of (N _ (sub _ k.hc)).1
theorem Kid.otup {its : Array Value} (k : Kid V c a P t1 t2 n oa W D) (x : OTup oa its) (N : News h₀ L h news) (sub : ∀ p ∈ V, p ∈ news) : IsTup h a its := istup_led N (sub _ k.ha) x
theorem Kid.split (k : Kid V c a P t1 t2 n oa W D) (N : News h₀ L h news) (sub : ∀ p ∈ V, p ∈ news) {G : Prop}
    (h1 : ∀ {t u x v} {nm : Str} {r : Bool}, OTup oa #[.str (S "name") t, .int 0 u, .str nm x, .bool r, .bool false, v] → P.own = false → G)
    (h2 : ∀ {t u x v} {nm : Str}, OTup oa #[.str (S "name") t, .int 0 u, .str nm x, .bool false, .bool true, v] → P.own = true → G)
    (h3 : ∀ {t u x v} {nm : Str}, OTup oa #[.str (S "name") t, .int 0 u, .str nm x, .bool true, .bool true, v] → P.own = false → G)
    (h4 : ∀ {t u x y}, OTup oa #[.str (S "range") t, .int 0 u, x, y] → P.own = true → G)
    (h5 : ∀ {l : List Value} {k : Str} {t : Tok}, OTup oa (Value.str k t :: l).toArray → (k == S "name") = false → (k == S "range") = false → P.own = false → G) : G := by
  cases k.root N sub with
  | @name t u x v nm r m o e =>
    cases m
    · exact h1 o (by rw [e]; rfl)
    · cases r
      · exact h2 o (by rw [e]; rfl)
      · exact h3 o (by rw [e]; rfl)
  | range o e => exact h4 o e
  | other o e1 e2 e3 => exact h5 o e1 e2 e3
theorem path_split {z : Addr} {ns : List Str} {way : Nat} (k : PathV V (.ref z) ns way) (N : News h₀ L h news) (sub : ∀ p ∈ V, p ∈ news) {G : Prop}
    (h1 : ∀ {n e t r y}, ns = [n] → IsTup h z #[.ref e] → IsTup h e #[.str n t, .ref r, .ref y] → G)
    (h2 : ∀ {x y}, longB ns = true → IsTup h z #[x, y] → G)
    (h3 : ∀ {x y u}, longB ns = true → IsTup h z #[x, y, u] → G) : G := by
  have x := k h fun p hp => (N p (sub p hp)).1
  cases x with
  | one a b => obtain ⟨e, t, r, y, rfl, i⟩ := b.item; exact h1 rfl a i
  | two a b c => exact h2 rfl a
  | three a b c d => exact h3 rfl a
end
section
variable {prog : Program} {w : World} {A : Around} {E : Value → Shared → Prop} {s : Shared} {Q : Value → Shared → Prop} {value slice : PySem.Expr}
theorem item0a {a : Addr} {r : List Value} {k : Str} {t u : Tok} (T : IsTup s.heap a (.str k t :: r).toArray) (h : Q (.str k t) s)
    (hs : subscripted slice false (.ref a) (.int 0 u) = operate [.ref a, .int 0 u] (getItem (.ref a) (.int 0 u)) := by with_unfolding_all rfl) :
    wpAny (model prog w) A (subscriptTail value slice (.ref a) (.int 0 u)) Q E s := item0 T h hs
end
theorem eq_int_T {prog : Program} {w : World} {A : Around} {E : Value → Shared → Prop} {s : Shared} {k n : Int} {t u : Tok} {Q : Value → Shared → Prop} (hne : k = n) (h : Q (.bool true) s) : wpAny (model prog w) A (compareOp .Eq (.int k t) (.int n u)) Q E s :=
  eq_int (by rw [show (k == n) = true from beq_iff_eq.mpr hne]; exact h)
theorem eq_int_one {prog : Program} {w : World} {A : Around} {E : Value → Shared → Prop} {s : Shared} {k n : Int} {t u : Tok} {Q : Value → Shared → Prop} (hne : k ≠ n) (h : Q (.bool false) s) : wpAny (model prog w) A (compareOp .Eq (.int k t) (.int n u)) Q E s :=
  eq_int (by rw [show (k == n) = false from beq_eq_false_iff_ne.mpr hne]; exact h)
theorem eq_int_two {prog : Program} {w : World} {A : Around} {E : Value → Shared → Prop} {s : Shared} {k n : Int} {t u : Tok} {Q : Value → Shared → Prop} (h1 : k = n → Q (.bool true) s) (h2 : k ≠ n → Q (.bool false) s) : wpAny (model prog w) A (compareOp .Eq (.int k t) (.int n u)) Q E s := by
  refine eq_int ?_
  by_cases e : k = n
  · rw [show (k == n) = true from beq_iff_eq.mpr e]; exact h1 e
  · rw [show (k == n) = false from beq_eq_false_iff_ne.mpr e]; exact h2 e
theorem news_plus {h₀ h : Heap} {L : Addr} {V news : Led} {p : Addr × Obj} (N : News h₀ L h news) (hm : p ∈ V) (sub : ∀ p ∈ V, p ∈ news) : News h₀ L h (p :: news) := fun q hq => by
  rcases List.mem_cons.mp hq with rfl | hq
  · exact N _ (sub _ hm)
  · exact N _ hq
theorem ih_at {w : World} {src : Addr} {d : Int} {W D c : Nat} (H : ∀ tt, TSpec w 118 [.ref src, .int (d - 1) tt] src (fun _ => True) (PartPost W D) c) (tt : Tok) : TSpec w 118 [.ref src, .int (d - 1) tt] src (fun _ => True) (PartPost W D) c := H tt
/-- a tuple of the heap of now -/
def TupNow (h : Heap) (a : Addr) (its : Array Value) : Prop := IsTup h a its
theorem TupNow.t {h : Heap} {a : Addr} {its : Array Value} (x : TupNow h a its) : IsTup h a its := x
theorem len_path {prog : Program} {w : World} {A : Around} {E : Value → Shared → Prop} {s : Shared} {Q : Value → Shared → Prop} {V news : Led} {h₀ : Heap} {L z : Addr} {ns : List Str} {way : Nat} (k : PathV V (.ref z) ns way) (N : News h₀ L s.heap news) (sub : ∀ p ∈ V, p ∈ news)
    (h1 : ∀ {n e t r y}, ns = [n] → TupNow s.heap z #[.ref e] → TupNow s.heap e #[.str n t, .ref r, .ref y] → wpAny (model prog w) A (call (.builtin "len") [.ref z]) Q E s)
    (h2 : ∀ {x y}, longB ns = true → TupNow s.heap z #[x, y] → wpAny (model prog w) A (call (.builtin "len") [.ref z]) Q E s)
    (h3 : ∀ {x y u}, longB ns = true → TupNow s.heap z #[x, y, u] → wpAny (model prog w) A (call (.builtin "len") [.ref z]) Q E s) : wpAny (model prog w) A (call (.builtin "len") [.ref z]) Q E s :=
  path_split k N sub (fun a b c => h1 a b c) (fun a b => h2 a b) fun a b => h3 a b
theorem bool_two {b : Bool} {G : Bool → Prop} (h1 : b = true → G true) (h2 : b = false → G false) : G b := by
  cases b
  · exact h2 rfl
  · exact h1 rfl
theorem off1_ne {D a : Addr} {o : Obj} : ∀ {news : Led}, LCg.Off1 D news → (a, o) ∈ news → (a : Nat) ≠ D
  | [], _, h => nomatch h
  | _ :: _, x, h => by
    rcases List.mem_cons.mp h with rfl | h
    · exact x.1
    · exact off1_ne x.2 h
theorem off3_I {I C D a : Addr} {o : Obj} {news : Led} (h : LCg.Off3 I C D news) (hm : (a, o) ∈ news) : (a : Nat) ≠ I := (h.mem _ hm).1
theorem off3_C {I C D a : Addr} {o : Obj} {news : Led} (h : LCg.Off3 I C D news) (hm : (a, o) ∈ news) : (a : Nat) ≠ C := (h.mem _ hm).2.1
theorem off3_D {I C D a : Addr} {o : Obj} {news : Led} (h : LCg.Off3 I C D news) (hm : (a, o) ∈ news) : (a : Nat) ≠ D := (h.mem _ hm).2.2
/-- two addresses, not the same; opaque to arithmetic -/
def Apart (a b : Addr) : Prop := a ≠ b
theorem Apart.ne {a b : Addr} (h : Apart a b) : (a : Nat) ≠ b := h
theorem eq_tup_nil {prog : Program} {w : World} {A : Around} {E : Value → Shared → Prop} {s : Shared} {l b : Addr} {xs : Array Value} {bb : Bool} {Q : Value → Shared → Prop} (hl : IsTup s.heap l xs) (hb : IsTup s.heap b #[]) (hu : A.units < cLine) (e : (xs.size == 0) = bb) (h : Q (.bool bb) s) :
    wpAny (model prog w) A (compareOp .Eq (.ref l) (.ref b)) Q E s := by
  refine SeqAt.eq_tupleAt (e := fun _ => true) hl hb hu (fun j _ h2 => absurd h2 (Nat.not_lt_zero _)) ?_
  have z : ((List.range (min xs.size (#[] : Array Value).size)).all (fun _ => true) && xs.size == (#[] : Array Value).size) = bb := by
    rw [← e]
    simp
  rw [z]; exact h
theorem kid_item {prog : Program} {w : World} {A : Around} {E : Value → Shared → Prop} {s : Shared} {value slice : PySem.Expr} {u9 : Tok} {Q : Value → Shared → Prop} {V news : Led} {c a : Addr} {P : Pt} {t1 t2 : Tok} {n : Nat} {oa : Obj} {W D : Nat} {h₀ : Heap} {L : Addr}
    (k : Kid V c a P t1 t2 n oa W D) (N : News h₀ L s.heap news) (sub : ∀ p ∈ V, p ∈ news)
    (h1 : ∀ {t u x v} {nm : Str} {r : Bool}, OTup oa #[.str (S "name") t, .int 0 u, .str nm x, .bool r, .bool false, v] → P.own = false → wpAny (model prog w) A (subscriptTail value slice (.ref a) (.int 0 u9)) Q E s)
    (h2 : ∀ {t u x v} {nm : Str}, OTup oa #[.str (S "name") t, .int 0 u, .str nm x, .bool false, .bool true, v] → P.own = true → wpAny (model prog w) A (subscriptTail value slice (.ref a) (.int 0 u9)) Q E s)
    (h3 : ∀ {t u x v} {nm : Str}, OTup oa #[.str (S "name") t, .int 0 u, .str nm x, .bool true, .bool true, v] → P.own = false → wpAny (model prog w) A (subscriptTail value slice (.ref a) (.int 0 u9)) Q E s)
    (h4 : ∀ {t u x y}, OTup oa #[.str (S "range") t, .int 0 u, x, y] → P.own = true → wpAny (model prog w) A (subscriptTail value slice (.ref a) (.int 0 u9)) Q E s)
    (h5 : ∀ {l : List Value} {k : Str} {t : Tok}, OTup oa (Value.str k t :: l).toArray → (k == S "name") = false → (k == S "range") = false → P.own = false → wpAny (model prog w) A (subscriptTail value slice (.ref a) (.int 0 u9)) Q E s) :
    wpAny (model prog w) A (subscriptTail value slice (.ref a) (.int 0 u9)) Q E s := k.split N sub (fun a b => h1 a b) (fun a b => h2 a b) (fun a b => h3 a b) (fun a b => h4 a b) fun a b c d => h5 a b c d
theorem lit_am : Str.ofString "&mut " = Str.ofString "&" ++ Str.ofString "mut " := by decide +kernel
theorem lit_ya : Str.ofString "y @ " = Str.ofString "y" ++ Str.ofString " @ " := by decide +kernel
theorem lit_n : Str.ofString "n: " = Str.ofString "n" ++ Str.ofString ": " := by decide +kernel
theorem lit_m : Str.ofString "m: " = Str.ofString "m" ++ Str.ofString ": " := by decide +kernel
theorem lit_par : Str.ofString "()" = Str.ofString "(" ++ Str.ofString ")" := by decide +kernel
theorem any4 {n : Str} {b : Bool} (h : ([Str.ofString "self", Str.ofString "Self", Str.ofString "super", Str.ofString "crate"].any fun x => x == n) = b) : longB [n] = b := by
  rw [← h]
  simp only [longB, S, List.any_cons, List.any_nil, Bool.or_false]
  cases (Str.ofString "Self" == n) <;> cases (Str.ofString "self" == n) <;> rfl
end Mine
end

section
open PySem PySem.W PyProof.Rows PySem.Calls
namespace Mine
set_option maxRecDepth 100000
set_option maxHeartbeats 8000000
mutual
/-- a value that a display of constants gives, its tuples in V -/
inductive Bt (V : Led) : Expr → Value → Prop
  | str {x : Str} {k : Nat} {p : Pos} {t : Tok} : Bt V (.Constant (.str x) k p) (.str x t)
  | int {n : Int} {k : Nat} {p : Pos} {t : Tok} : Bt V (.Constant (.int n) k p) (.int n t)
  | tup {es : List Expr} {vs : List Value} {k : Nat} {p : Pos} {a : Addr} : Bts V es vs → (a, { cls := Value.type "tuple", data := Data.seq vs.toArray }) ∈ V → Bt V (.Tuple es k p) (.ref a)
inductive Bts (V : Led) : List Expr → List Value → Prop
  | nil : Bts V [] []
  | cons {e : Expr} {v : Value} {es : List Expr} {vs : List Value} : Bt V e v → Bts V es vs → Bts V (e :: es) (v :: vs)
end
mutual
theorem Bt.mono {V V' : Led} (h : ∀ p ∈ V, p ∈ V') {e : Expr} {v : Value} : Bt V e v → Bt V' e v
  | .str => .str
  | .int => .int
  | .tup b m => .tup (Bts.mono h b) (h _ m)
theorem Bts.mono {V V' : Led} (h : ∀ p ∈ V, p ∈ V') {es : List Expr} {vs : List Value} : Bts V es vs → Bts V' es vs
  | .nil => .nil
  | .cons b bs => .cons (Bt.mono h b) (Bts.mono h bs)
end
theorem Bts.len {V : Led} {es : List Expr} {vs : List Value} : Bts V es vs → vs.length = es.length
  | .nil => rfl
  | .cons _ bs => congrArg (· + 1) (Bts.len bs)
theorem Bts.get {V : Led} : ∀ {es : List Expr} {vs : List Value} {i : Nat} {v : Value}, Bts V es vs → vs[i]? = some v → ∃ e, es[i]? = some e ∧ Bt V e v
  | _, _, _, _, .nil, h => by simp at h
  | _, _, 0, _, .cons b _, h => by simp at h; subst h; exact ⟨_, rfl, b⟩
  | _, _, i + 1, _, .cons _ bs, h => by simpa using Bts.get bs (by simpa using h)
noncomputable def btC : Const → Bool
  | .str _ => true
  | .int _ => true
  | _ => false
noncomputable def btS (f : Expr → Bool) : Expr → Bool
  | .Constant c _ _ => btC c
  | .Tuple es _ _ => es.all f && Nat.ble es.length 8
  | _ => false
noncomputable def btE : Nat → Expr → Bool
  | 0, _ => false
  | f + 1, e => btS (btE f) e
section
variable {prog : Program} {w : World} {A : Around} {E : Value → Shared → Prop} {h₀ : Heap} {L : Addr} {m : Str → Option Value} {env : Env}
def BtGoal (prog : Program) (w : World) (A : Around) (E : Value → Shared → Prop) (h₀ : Heap) (L : Addr) (m : Str → Option Value) (env : Env) (e : Expr) : Prop :=
  ∀ (s : Shared) (news : Led) (Q : Value → Shared → Prop), Fr h₀ L s.heap m → News h₀ L s.heap news → (∀ v V h' tk, Bt V e v → Fr h₀ L h' m → News h₀ L h' (V ++ news) → (∀ p ∈ V, ∀ q ∈ news, q.1 < p.1) → Q v { s with heap := h', toks := tk }) →
    wpAny (model prog w) A (eval e env) Q E s
theorem star_bt {f : Nat} {e : Expr} {rest : List Expr} {env : Env} (h : btE f e = true) : starEach (e :: rest) env = (false, eval e env) :: starEach rest env := by
  cases f with
  | zero => exact nomatch h
  | succ f => cases e <;> first | rfl | cases h
theorem bts_sound {f : Nat} (ih : ∀ e, btE f e = true → BtGoal prog w A E h₀ L m env e) {pos : Pos} : ∀ (es : List Expr), es.all (btE f) = true → ∀ (s : Shared) (news : Led) (Q : List Value → Shared → Prop), Fr h₀ L s.heap m → News h₀ L s.heap news →
    (∀ vs V h' tk, Bts V es vs → Fr h₀ L h' m → News h₀ L h' (V ++ news) → (∀ p ∈ V, ∀ q ∈ news, q.1 < p.1) → Q vs { s with heap := h', toks := tk }) → wpAny (model prog w) A (spliced (backTo pos (starEach es env))) Q E s := by
  intro es
  induction es with
  | nil => exact fun _ s news Q F N q => args_nil (q [] [] s.heap s.toks .nil F N (by simp))
  | cons e es ie =>
    intro h s news Q F N q
    simp only [List.all_cons, Bool.and_eq_true] at h
    refine args_cons (ih e h.1 s news _ F N fun v V h' tk b F' N' fr => ie h.2 _ (V ++ news) _ F' N' fun vs V' h'' tk' bs F'' N'' fr' => ?_) (star_bt h.1)
    refine q (v :: vs) (V' ++ V) h'' tk' (.cons (b.mono fun p hp => List.mem_append_right _ hp) (bs.mono fun p hp => List.mem_append_left _ hp)) F'' (by rw [List.append_assoc]; exact N'') fun p hp x hx => ?_
    rcases List.mem_append.mp hp with hp | hp
    · exact fr' p hp x (List.mem_append_right _ hx)
    · exact fr p hp x hx
theorem bt_sound : ∀ (f : Nat) (e : Expr), btE f e = true → BtGoal prog w A E h₀ L m env e := by
  intro f
  induction f with
  | zero => intro e h; exact nomatch h
  | succ f ih =>
    intro e h s news Q F N q
    cases e with
    | Constant c k p =>
      cases c with
      | str x => exact Constant_str (q _ [] _ _ .str F N (fun _ h => nomatch h))
      | int x => exact wpAny_Constant_int (q _ [] _ _ .int F N (fun _ h => nomatch h))
      | _ => exact nomatch h
    | Tuple es k p =>
      have h := Bool.and_eq_true_iff.mp (h : (es.all (btE f) && Nat.ble es.length 8) = true)
      refine Tuple_ (bts_sound ih es h.1 s news _ F N fun vs V h' tk bs F' N' fr => ?_)
      refine kup_newTuple (news := V ++ news) F' N' (fun D h'' F'' N'' lt => ?_) (by rw [bs.len]; exact Nat.le_trans (Nat.le_of_ble_eq_true h.2) (by decide +kernel))
      refine q (.ref D) ((D, { cls := Value.type "tuple", data := Data.seq vs.toArray }) :: V) h'' tk (.tup (bs.mono fun p hp => .tail _ hp) (.head _)) F'' N'' fun p hp x hx => ?_
      rcases List.mem_cons.mp hp with rfl | hp
      · exact lt _ (List.mem_append_right _ hx)
      · exact fr p hp x hx
    | _ => exact nomatch h
end
noncomputable def rawT : Nat → Str
  | 0 => Str.ofString ""
  | 1 => Str.ofString "<u8>"
  | _ => Str.ofString "<'a, T, _>"
theorem rawT_len (way : Nat) : (rawT way).length ≤ 10 := by
  unfold rawT
  split <;> decide +kernel
theorem tail_raw {b : Str} {way : Nat} (h : 0 < way) : tailT b way = b ++ rawT way := by
  match way, h with
  | 1, _ => rfl
  | _ + 2, _ => rfl
theorem tail_0 {b : Str} {way : Nat} (h : way = 0) : tailT b way = Str.ofString "" := by subst h; rfl
theorem tail_e {way : Nat} : tailT (Str.ofString "") way = rawT way := by
  match way with
  | 0 => rfl
  | 1 => exact epa _
  | _ + 2 => exact epa _
theorem ite_raw {way : Nat} {P R : Prop} (hw : way ≤ 2) (h1 : 0 < way → P) (h0 : way = 0 → R) : if (rawT way != Str.ofString "") = true then P else R := by
  match way, hw with
  | 0, _ => rw [if_neg (by decide +kernel)]; exact h0 rfl
  | 1, _ => rw [if_pos (by decide +kernel)]; exact h1 (by decide)
  | 2, _ => rw [if_pos (by decide +kernel)]; exact h1 (by decide)
theorem freshV_lt {src L : Addr} {s h₀ : Heap} {VA V news : Led} {o : Obj} (_ho : SrcOk o) (_hall : ∀ b ob, b ≠ src → b ≠ L → s.get? b = some ob → h₀.get? b = some ob ∨ (b, ob) ∈ VA)
    (lt : ∀ p ∈ V, ∀ q ∈ news, q.1 < p.1) (hs : (src, o) ∈ news) (sub : ∀ q ∈ VA, q ∈ news) : FreshV src VA V := fun p hp => ⟨Nat.ne_of_gt (lt p hp _ hs), fun q hq => Nat.ne_of_gt (lt p hp q (sub q hq))⟩
theorem ltV_of {V news : Led} (lt : ∀ p ∈ V, ∀ q ∈ news, q.1 < p.1) : ∀ p ∈ V, ∀ q ∈ news, p.1 ≠ q.1 := fun p hp q hq => Nat.ne_of_gt (lt p hp q hq)
/-- regions and types of an entry, their tuples in V -/
def RegTyV (V : Led) (r y : Addr) (way : Nat) : Prop := ∀ h : Heap, (∀ p ∈ V, h.get? p.1 = some p.2) → ∀ (n : Str) (t : Tok) (a : Addr), IsTup h a #[.str n t, .ref r, .ref y] → EntAt h (.ref a) n way
theorem RegTyV.at {V news VA : Led} {r y : Addr} {way : Nat} {src : Addr} {h : Heap} {n : Str} {t : Tok} {a : Addr} (k : RegTyV V r y way) (fr : FreshV src VA V) (G : ∀ a o, (a, o) ∈ news → Fresh src VA a → h.get? a = some o) (sub : ∀ p ∈ V, p ∈ news) (T : IsTup h a #[.str n t, .ref r, .ref y]) : EntAt h (.ref a) n way :=
  k h (fun p hp => G _ _ (sub p hp) (fr p hp)) n t a T
theorem tup_at {V : Led} {h : Heap} {a : Addr} {vs : List Value} (g : ∀ p ∈ V, h.get? p.1 = some p.2) (m : (a, { cls := Value.type "tuple", data := Data.seq vs.toArray }) ∈ V) : IsTup h a vs.toArray := istup_of (g _ m)
/-- the display's form -/
inductive DispEs : List Expr → Prop
  | mk {p1 p2 p3 p4 p5 p6 p7 p8 p9 p10 p11 p12 p13 p14 p15 p16 p17 p18 p19 p20 p21 p22 p23 p24 p25 p26 p27 p28 p29 p30 p31 p32 : Pos} {k1 k2 k3 k4 k5 k6 k7 k8 k9 k10 k11 k12 k13 k14 k15 k16 k17 k18 k19 k20 k21 k22 k23 k24 k25 k26 k27 k28 k29 k30 k31 k32 : Nat} : DispEs [.Tuple [.Tuple [] k1 p1, .Tuple [] k2 p2, .Constant (.str (Str.ofString "")) k3 p3] k4 p4, .Tuple [.Tuple [] k5 p5, .Tuple [.Tuple [.Constant (.str (Str.ofString "path")) k6 p6, .Constant (.int 0) k7 p7, .Tuple [.Tuple [.Constant (.str (Str.ofString "u8")) k8 p8, .Tuple [] k9 p9, .Tuple [] k10 p10] k11 p11] k12 p12] k13 p13] k14 p14, .Constant (.str (Str.ofString "<u8>")) k15 p15] k16 p16, .Tuple [.Tuple [.Constant (.str (Str.ofString "'a")) k17 p17] k18 p18, .Tuple [.Tuple [.Constant (.str (Str.ofString "path")) k19 p19, .Constant (.int 0) k20 p20, .Tuple [.Tuple [.Constant (.str (Str.ofString "T")) k21 p21, .Tuple [] k22 p22, .Tuple [] k23 p23] k24 p24] k25 p25] k26 p26, .Tuple [.Constant (.str (Str.ofString "infer")) k27 p27, .Constant (.int 0) k28 p28] k29 p29] k30 p30, .Constant (.str (Str.ofString "<'a, T, _>")) k31 p31] k32 p32]
theorem Bt.strI {V : Led} {x : Str} {k : Nat} {p : Pos} {v : Value} (b : Bt V (.Constant (.str x) k p) v) : ∃ t, v = .str x t := by cases b; exact ⟨_, rfl⟩
theorem Bt.intI {V : Led} {x : Int} {k : Nat} {p : Pos} {v : Value} (b : Bt V (.Constant (.int x) k p) v) : ∃ t, v = .int x t := by cases b; exact ⟨_, rfl⟩
theorem Bt.tupI {V : Led} {es : List Expr} {k : Nat} {p : Pos} {v : Value} (b : Bt V (.Tuple es k p) v) : ∃ z vs, v = .ref z ∧ Bts V es vs ∧ (z, { cls := Value.type "tuple", data := Data.seq vs.toArray }) ∈ V := by cases b with | tup b m => exact ⟨_, _, rfl, b, m⟩
theorem Bts.nilI {V : Led} {vs : List Value} (b : Bts V [] vs) : vs = [] := by cases b; rfl
theorem Bts.consI {V : Led} {e : Expr} {es : List Expr} {vs : List Value} (b : Bts V (e :: es) vs) : ∃ v r, vs = v :: r ∧ Bt V e v ∧ Bts V es r := by cases b with | cons b bs => exact ⟨_, _, rfl, b, bs⟩
section
variable {V : Led} {k : Nat} {p : Pos} {a b c : Expr} {v : Value} {h : Heap}
theorem Bt.t0 (x : Bt V (.Tuple [] k p) v) : ∃ z, v = .ref z ∧ (z, { cls := Value.type "tuple", data := Data.seq #[] }) ∈ V := by
  obtain ⟨z, vs, e, bs, m⟩ := x.tupI
  cases bs.nilI
  exact ⟨z, e, m⟩
theorem Bt.t1 (x : Bt V (.Tuple [a] k p) v) : ∃ z u, v = .ref z ∧ Bt V a u ∧ (z, { cls := Value.type "tuple", data := Data.seq #[u] }) ∈ V := by
  obtain ⟨z, vs, e, bs, m⟩ := x.tupI
  obtain ⟨u, r, e1, b1, bs⟩ := bs.consI
  cases bs.nilI
  subst e1
  exact ⟨z, u, e, b1, m⟩
theorem Bt.t2 (x : Bt V (.Tuple [a, b] k p) v) : ∃ z u y, v = .ref z ∧ Bt V a u ∧ Bt V b y ∧ (z, { cls := Value.type "tuple", data := Data.seq #[u, y] }) ∈ V := by
  obtain ⟨z, vs, e, bs, m⟩ := x.tupI
  obtain ⟨u, r, e1, b1, bs⟩ := bs.consI
  obtain ⟨y, r2, e2, b2, bs⟩ := bs.consI
  cases bs.nilI
  subst e2 e1
  exact ⟨z, u, y, e, b1, b2, m⟩
theorem Bt.t3 (x : Bt V (.Tuple [a, b, c] k p) v) : ∃ z u y q, v = .ref z ∧ Bt V a u ∧ Bt V b y ∧ Bt V c q ∧ (z, { cls := Value.type "tuple", data := Data.seq #[u, y, q] }) ∈ V := by
  obtain ⟨z, vs, e, bs, m⟩ := x.tupI
  obtain ⟨u, r, e1, b1, bs⟩ := bs.consI
  obtain ⟨y, r2, e2, b2, bs⟩ := bs.consI
  obtain ⟨q, r3, e3, b3, bs⟩ := bs.consI
  cases bs.nilI
  subst e3 e2 e1
  exact ⟨z, u, y, q, e, b1, b2, b3, m⟩
/-- an entry without regions or types -/
theorem Bt.entI {x : Str} {k1 k2 k3 : Nat} {p1 p2 p3 : Pos} (b : Bt V (.Tuple [.Constant (.str x) k1 p1, .Tuple [] k2 p2, .Tuple [] k3 p3] k p) v) (g : ∀ p ∈ V, h.get? p.1 = some p.2) : EntAt h v x 0 := by
  obtain ⟨z, u, y, q, rfl, b0, b1, b2, m⟩ := b.t3
  obtain ⟨t, rfl⟩ := b0.strI
  obtain ⟨z1, rfl, m1⟩ := b1.t0
  obtain ⟨z2, rfl, m2⟩ := b2.t0
  exact .none (istup_of (g _ m)) (istup_of (g _ m1)) (istup_of (g _ m2))
/-- a type that is a path of one entry -/
theorem Bt.typI {x y : Str} {k1 k2 k3 k4 k5 k6 k7 : Nat} {p1 p2 p3 p4 p5 p6 p7 : Pos} (b : Bt V (.Tuple [.Constant (.str y) k1 p1, .Constant (.int 0) k2 p2, .Tuple [.Tuple [.Constant (.str x) k3 p3, .Tuple [] k4 p4, .Tuple [] k5 p5] k6 p6] k7 p7] k p) v) :
    ∃ e t1 t2 q b', v = .ref e ∧ ∀ h : Heap, (∀ p ∈ V, h.get? p.1 = some p.2) → IsTup h e #[.str y t1, .int 0 t2, .ref q] ∧ IsTup h q #[b'] ∧ EntAt h b' x 0 := by
  obtain ⟨z, u, y, q, rfl, b0, b1, b2, m⟩ := b.t3
  obtain ⟨t, rfl⟩ := b0.strI
  obtain ⟨t', rfl⟩ := b1.intI
  obtain ⟨z2, d, rfl, b2, m2⟩ := b2.t1
  exact ⟨z, t, t', z2, d, rfl, fun h g => ⟨istup_of (g _ m), istup_of (g _ m2), b2.entI g⟩⟩
end
theorem disp_way {V : Led} {v : Value} {e : Expr} {i : Nat} {es : List Expr} (hd : DispEs es) (hi : es[i]? = some e) (b : Bt V e v) :
    ∃ (way : Nat) (z r y : Addr) (t : Tok), way ≤ 2 ∧ v = .ref z ∧ (z, { cls := Value.type "tuple", data := Data.seq [.ref r, .ref y, .str (rawT way) t].toArray }) ∈ V ∧ RegTyV V r y way := by
  cases hd
  match i with
  | 0 =>
    cases Option.some.inj hi
    obtain ⟨z, _, _, _, rfl, b0, b1, b2, m⟩ := b.t3
    obtain ⟨t, rfl⟩ := b2.strI
    obtain ⟨r, rfl, m0⟩ := b0.t0
    obtain ⟨y, rfl, m1⟩ := b1.t0
    exact ⟨0, z, r, y, t, by decide, rfl, m, fun h g n t a T => .none T (istup_of (g _ m0)) (istup_of (g _ m1))⟩
  | 1 =>
    cases Option.some.inj hi
    obtain ⟨z, _, _, _, rfl, b0, b1, b2, m⟩ := b.t3
    obtain ⟨t, rfl⟩ := b2.strI
    obtain ⟨r, rfl, m0⟩ := b0.t0
    obtain ⟨y, _, rfl, b1, m1⟩ := b1.t1
    obtain ⟨e, t1, t2, q, b', rfl, f⟩ := b1.typI
    exact ⟨1, z, r, y, t, by decide, rfl, m, fun h g n t a T => .one T (istup_of (g _ m0)) (istup_of (g _ m1)) (f h g).1 (f h g).2.1 (f h g).2.2⟩
  | 2 =>
    cases Option.some.inj hi
    obtain ⟨z, _, _, _, rfl, b0, b1, b2, m⟩ := b.t3
    obtain ⟨t, rfl⟩ := b2.strI
    obtain ⟨r, _, rfl, b0, m0⟩ := b0.t1
    obtain ⟨t0, rfl⟩ := b0.strI
    obtain ⟨y, _, _, rfl, b1, b3, m1⟩ := b1.t2
    obtain ⟨e, t1, t2, q, b', rfl, f⟩ := b1.typI
    obtain ⟨i9, _, _, rfl, b4, b5, m3⟩ := b3.t2
    obtain ⟨t3, rfl⟩ := b4.strI
    obtain ⟨t4, rfl⟩ := b5.intI
    exact ⟨2, z, r, y, t, by decide, rfl, m, fun h g n t a T => .two T (istup_of (g _ m0)) (istup_of (g _ m1)) (f h g).1 (f h g).2.1 (f h g).2.2 (istup_of (g _ m3))⟩
  | i + 3 => exact nomatch hi
section
variable {prog : Program} {w : World} {A : Around} {E : Value → Shared → Prop} {h₀ : Heap} {L a' : Addr} {m : Str → Option Value} {env : Env} {cn : Str} {cs : Scope} {ccd : Value} {cl : List (Str × Addr)} {s : Shared}
theorem disp_item {x : Str} {q1 q2 q3 : Pos} {es : List Expr} {k : Int} {t : Tok} {news : Led} {Q : Value → Shared → Prop} (he : env = envX cn cs L a' ccd cl) (F : Fr h₀ L s.heap m) (N : News h₀ L s.heap news) (hk : cs.kind = .function) (hx : m x = some (.int k t)) (ho : ownName env.kindOf x = true)
    (h0 : 0 ≤ k) (hlt : k < es.length) (hes : es.all (btE 8) = true) (hz : Nat.ble es.length 8 = true)
    (q : ∀ (i : Nat) (e : Expr) (v : Value) (V : Led) (h' : Heap) (tk : Nat), es[i]? = some e → Bt V e v → Fr h₀ L h' m → News h₀ L h' (news ++ V) → (∀ p ∈ V, ∀ q ∈ news, q.1 < p.1) → Q v { s with heap := h', toks := tk }) :
    wpAny (model prog w) A (eval (.Subscript (.List es q1) (.Name x q2) q3) env) Q E s := by
  subst he
  simp only [ownName, Bool.and_eq_true, beq_iff_eq, Bool.not_eq_true'] at ho
  refine Subscript_ (List_ (bts_sound (bt_sound 8) es hes s news _ F N fun vs V h' tk bs F' N' fr => newList_K (news := V ++ news) F' N' (fun l h'' F'' N'' lt => ?_) (by rw [bs.len]; exact Nat.le_trans (Nat.le_of_ble_eq_true hz) (by decide +kernel))))
  refine nameX_L (s := { s with heap := h'', toks := tk }) F'' hx ?_ hk ho.1 ho.2
  have hlen := bs.len
  have hz' := Nat.le_of_ble_eq_true hz
  have hj : k.toNat < vs.length := by omega
  have hget : vs[k.toNat]? = some vs[k.toNat] := List.getElem?_eq_getElem hj
  obtain ⟨e, hi, hb⟩ := bs.get hget
  have hl : h''.IsList l vs.toArray := News.isList N'' (.head _)
  refine itemL (s := { s with heap := h'', toks := tk }) hl h0 (by omega) hget ?_ (by with_unfolding_all rfl)
  refine q _ e _ ((l, W.listOf vs.toArray 0) :: V) h'' tk hi (hb.mono fun p hp => .tail _ hp) F'' (fun p hp => N'' p ?_) fun p hp x hx => ?_
  · simp only [List.mem_append, List.mem_cons] at hp ⊢
    rcases hp with hp | hp | hp
    · exact .inr (.inr hp)
    · exact .inl hp
    · exact .inr (.inl hp)
  · rcases List.mem_cons.mp hp with rfl | hp
    · exact lt _ (List.mem_append_right _ hx)
    · exact fr p hp x hx
theorem disp_use {x : Str} {q1 q2 q3 : Pos} {es : List Expr} {k : Int} {t : Tok} {news : Led} {Q : Value → Shared → Prop} (hd : DispEs es) (he : env = envX cn cs L a' ccd cl) (F : Fr h₀ L s.heap m) (N : News h₀ L s.heap news) (hk : cs.kind = .function) (hx : m x = some (.int k t)) (ho : ownName env.kindOf x = true)
    (h0 : 0 ≤ k) (hlt : k < 3) (q : ∀ way z r y t V h' tk, way ≤ 2 → IsTup h' z #[.ref r, .ref y, .str (rawT way) t] → RegTyV V r y way → Fr h₀ L h' m → News h₀ L h' (news ++ V) → (∀ p ∈ V, ∀ q ∈ news, q.1 < p.1) → Q (.ref z) { s with heap := h', toks := tk }) :
    wpAny (model prog w) A (eval (.Subscript (.List es q1) (.Name x q2) q3) env) Q E s := by
  have l3 : es.length = 3 := by cases hd; rfl
  have hes : es.all (btE 8) = true := by cases hd; rfl
  refine disp_item he F N hk hx ho h0 (by rw [l3]; exact hlt) hes (by rw [l3]; rfl) fun i e v V h' tk hi hb F' N' fr => ?_
  obtain ⟨way, z, r, y, t, hw, rfl, hm, hr⟩ := disp_way hd hi hb
  exact q way z r y t V h' tk hw (istup_of (N' _ (List.mem_append_right _ hm)).1) hr F' N' fr
end
end Mine
end

section
open PySem PySem.W PyProof.Rows
namespace Mine
theorem anew_W14 : True := by
  w_top off
  trivial
set_option maxRecDepth 100000
set_option maxHeartbeats 8000000
theorem filler_w14 : Filler PySem.Challenge.rw_xm0582_01 hd.heap_1 := by k_fill; trivial
theorem ite_raw2 {way : Nat} {P R : Prop} (hw : way ≤ 2) (h1 : 0 < way → P) (h0 : way = 0 → R) : if (if true = true then rawT way != Str.ofString "" else rawT way == Str.ofString "") = true then P else R := ite_raw hw h1 h0

theorem words_W14_0 : True := by
  k_with_none
  k_with "my dep9" => ((first | ((with_reducible refine dS ?_); k_dflt (exact rfl)) | ((with_reducible refine dL ?_); k_dflt (exact rfl)) | ((with_reducible refine dR ?_); k_dflt (exact rfl)) | ((with_reducible refine dS1 ?_); k_dflt (exact rfl)) | ((with_reducible refine dL1 ?_); k_dflt (exact rfl)) | ((with_reducible refine dR1 ?_); k_dflt (exact rfl)) | ((with_reducible refine d0 ?_); k_dflt (exact rfl)) | ((with_reducible refine dV ?_); k_dflt (exact rfl)) | ((with_reducible refine dW ?_); k_dflt (exact rfl)) | k_dflt (exact le_of_ble rfl) | omega))
  k_with "my room9" => ((first | k_dflt (exact room_0 hdp) | (k_dflt (refine room_a hdp ?_); k_extra "my dep9") | k_dflt (exact Nat.le_of_ble_eq_true rfl) | ktr_room))
  k_with "my units9" => ((first | (k_dflt (refine' units_a hun ?zqua ?zqub); (case zqua => k_extra "my dep9"); (case zqub => k_dflt (exact rfl))) | k_dflt (exact Nat.le_of_ble_eq_true rfl) | ktr_units))
  k_with "my len9" => (((with_reducible show (_ : Nat) ≤ _); first | with_reducible exact Nat.le_refl 0 | ((with_reducible refine' lenApp ?_ ?_) <;> (first | k_extra "my len9" | with_reducible show Nat)) | ((with_reducible refine' addLe ?_ ?_) <;> (first | k_extra "my len9" | with_reducible show Nat)) | ((with_reducible refine' mulLe ?_) <;> (first | k_extra "my len9" | with_reducible show Nat)) | with_reducible assumption | with_reducible exact Nat.le_of_eq ln_e | with_reducible exact Nat.le_of_eq ln_28 | with_reducible exact Nat.le_of_eq ln_29 | with_reducible exact Nat.le_of_eq ln_2c20 | with_reducible exact Nat.le_of_eq ln_2c | with_reducible exact Nat.le_of_eq ln_2c29 | with_reducible exact Nat.le_of_eq ln_3c | with_reducible exact Nat.le_of_eq ln_3e | with_reducible exact Nat.le_of_eq ln_3a3a | with_reducible exact Nat.le_of_eq ln_26 | with_reducible exact Nat.le_of_eq ln_6d757420 | with_reducible exact Nat.le_of_eq ln_72656620 | with_reducible exact Nat.le_of_eq ln_204020 | with_reducible exact Nat.le_of_eq ln_2e2e3d | with_reducible exact Nat.le_of_eq ln_207b20 | with_reducible exact Nat.le_of_eq ln_207d | with_reducible exact Nat.le_of_eq ln_7d | with_reducible exact Nat.le_of_eq ln_2e2e | with_reducible exact Nat.le_of_eq ln_3a20 | with_reducible exact Nat.le_of_eq ln_207c20 | with_reducible exact Nat.le_of_eq ln_5f | with_reducible exact Nat.le_of_eq ln_21 | with_reducible exact Nat.le_of_eq ln_2761 | with_reducible exact Nat.le_of_eq ln_54 | with_reducible exact Nat.le_of_eq ln_7538 | with_reducible exact Nat.le_of_eq ln_78 | with_reducible exact Nat.le_of_eq ln_79 | with_reducible exact Nat.le_of_eq ln_6e | with_reducible exact Nat.le_of_eq ln_6d | with_reducible exact Nat.le_of_eq ln_74727565 | with_reducible exact Nat.le_of_eq ln_66616c7365 | with_reducible exact Nat.le_of_eq ln_37 | with_reducible exact Nat.le_of_eq ln_2d31 | with_reducible exact Nat.le_of_eq ln_2d33 | with_reducible exact Nat.le_of_eq ln_39 | with_reducible exact Nat.le_of_eq ln_31 | with_reducible exact Nat.le_of_eq ln_32 | with_reducible exact Nat.le_of_eq ln_73656c66 | with_reducible exact Nat.le_of_eq ln_53656c66 | with_reducible exact Nat.le_of_eq ln_7375706572 | with_reducible exact Nat.le_of_eq ln_6372617465 | with_reducible exact Nat.le_of_eq ln_41 | with_reducible exact Nat.le_of_eq ln_62 | with_reducible exact Nat.le_of_eq ln_4332 | with_reducible exact Nat.le_of_eq ln_3c75383e | with_reducible exact Nat.le_of_eq ln_3c27612c20542c205f3e | with_reducible exact lenW1 (by with_reducible assumption) (by with_reducible assumption) | with_reducible exact lenW2 (by with_reducible assumption) (by with_reducible assumption) | with_reducible exact lenV1 (by with_reducible assumption) (by with_reducible assumption) (by with_reducible assumption) | with_reducible exact lenV2 (by with_reducible assumption) (by with_reducible assumption) (by with_reducible assumption) | with_reducible exact And.left (by with_reducible assumption) | with_reducible exact And.right (by with_reducible assumption) | ((with_reducible refine' lenIte ?_ ?_) <;> (first | k_extra "my len9" | with_reducible show Nat)) | ((with_reducible refine' iteLe ?_ ?_) <;> (first | k_extra "my len9" | with_reducible show Nat))))
  k_with "my size9" => (((refine' size_of ?zqsa ?zqsb); (case zqsa => k_extra "my len9"); (case zqsb => k_dflt (exact rfl))))
  k_with "my k_steps" => (repeat' (first | (k_unfold; (try dsimp only)) | walk1 | (dsimp only; walk1) | fail "no step"))
  k_with "my binaryOp Add str str" => (((with_reducible show wpAny _ _ (binaryOp Operator.Add (Value.str _ _) (Value.str _ _)) _ _ _); (refine add_str (hsz := ?zqhsz) ?_); (case zqhsz => first | k_extra "my size9" | (simp only [j0, j1, j2, j3, PySem.Str.length_append, PySem.sizeLine_eq, ln_e,ln_28,ln_29,ln_2c20,ln_2c,ln_2c29,ln_3c,ln_3e,ln_3a3a,ln_26,ln_6d757420,ln_72656620,ln_204020,ln_2e2e3d,ln_207b20,ln_207d,ln_7d,ln_2e2e,ln_3a20,ln_207c20,ln_5f,ln_21,ln_2761,ln_54,ln_7538,ln_78,ln_79,ln_6e,ln_6d,ln_74727565,ln_66616c7365,ln_37,ln_2d31,ln_2d33,ln_39,ln_31,ln_32,ln_73656c66,ln_53656c66,ln_7375706572,ln_6372617465,ln_41,ln_62,ln_4332,ln_3c75383e,ln_3c27612c20542c205f3e]; omega)); intro _ _))
  k_with "my ite" => (first | ((refine' PySem.W.ite_pos ?zqhc ?_); (case zqhc => (first | (k_dflt (exact (show _ = true from rfl))) | with_reducible assumption))) | ((refine' PySem.W.ite_neg ?zqhc ?_); (case zqhc => (first | (k_dflt (exact fun hb9 => absurd (show false = true from hb9) Bool.false_ne_true)) | exact fun hb9 => absurd (hb9.symm.trans (by with_reducible assumption)) (by decide)))))
  k_with "my call builtin:str.join" => ((k_here; (with_reducible show wpAny _ _ (call (Value.builtin _) [Value.str _ _, Value.ref _]) _ _ _); k_dflt (first | refine jn0 (by is_list) ?_ | ((refine' jn1 ?zqhl ?zqhz ?_); (case zqhl => is_list); (case zqhz => first | k_extra "my size9" | (simp only [PySem.Str.length_append, ln_e,ln_28,ln_29,ln_2c20,ln_2c,ln_2c29,ln_3c,ln_3e,ln_3a3a,ln_26,ln_6d757420,ln_72656620,ln_204020,ln_2e2e3d,ln_207b20,ln_207d,ln_7d,ln_2e2e,ln_3a20,ln_207c20,ln_5f,ln_21,ln_2761,ln_54,ln_7538,ln_78,ln_79,ln_6e,ln_6d,ln_74727565,ln_66616c7365,ln_37,ln_2d31,ln_2d33,ln_39,ln_31,ln_32,ln_73656c66,ln_53656c66,ln_7375706572,ln_6372617465,ln_41,ln_62,ln_4332,ln_3c75383e,ln_3c27612c20542c205f3e]; omega))) | ((refine' jn2 ?zqhl ?zqhz ?_); (case zqhl => is_list); (case zqhz => first | k_extra "my size9" | (simp only [PySem.Str.length_append, ln_e,ln_28,ln_29,ln_2c20,ln_2c,ln_2c29,ln_3c,ln_3e,ln_3a3a,ln_26,ln_6d757420,ln_72656620,ln_204020,ln_2e2e3d,ln_207b20,ln_207d,ln_7d,ln_2e2e,ln_3a20,ln_207c20,ln_5f,ln_21,ln_2761,ln_54,ln_7538,ln_78,ln_79,ln_6e,ln_6d,ln_74727565,ln_66616c7365,ln_37,ln_2d31,ln_2d33,ln_39,ln_31,ln_32,ln_73656c66,ln_53656c66,ln_7375706572,ln_6372617465,ln_41,ln_62,ln_4332,ln_3c75383e,ln_3c27612c20542c205f3e]; omega))) | ((refine' jn3 ?zqhl ?zqhz ?_); (case zqhl => is_list); (case zqhz => first | k_extra "my size9" | (simp only [PySem.Str.length_append, ln_e,ln_28,ln_29,ln_2c20,ln_2c,ln_2c29,ln_3c,ln_3e,ln_3a3a,ln_26,ln_6d757420,ln_72656620,ln_204020,ln_2e2e3d,ln_207b20,ln_207d,ln_7d,ln_2e2e,ln_3a20,ln_207c20,ln_5f,ln_21,ln_2761,ln_54,ln_7538,ln_78,ln_79,ln_6e,ln_6d,ln_74727565,ln_66616c7365,ln_37,ln_2d31,ln_2d33,ln_39,ln_31,ln_32,ln_73656c66,ln_53656c66,ln_7375706572,ln_6372617465,ln_41,ln_62,ln_4332,ln_3c75383e,ln_3c27612c20542c205f3e]; omega)))); intro _ _))
  k_with "my units_room" => ((first | (k_dflt (refine' units_b hun ?zqua ?zqub); (case zqua => k_extra "my dep9"); (case zqub => k_dflt (exact rfl))) | (have hcL9 := cLine_is; (simp only [units_deeper, units_in1] at *); (try dsimp only [ktrTop] at *); omega)))
  k_with "my compareOp Eq ref ref" => (((with_reducible show wpAny _ _ (compareOp CmpOp.Eq (Value.ref _) (Value.ref _)) _ _ _); first | refine PySem.SeqAt.eq_list_lengthsAt (by is_list) (by is_list) (by rfl) (by units_room) ?_ | refine PySem.SeqAt.eq_listAt (e := fun _ => true) (items := #[]) (items2 := #[]) (by is_list) (by is_list) rfl (by units_room) (fun j h1 h2 => absurd h1 (Nat.not_lt_zero _)) ?_))
  k_with "my binaryOp Add str str" => (((with_reducible show wpAny _ _ (binaryOp Operator.Add (Value.str _ _) (Value.str _ _)) _ _ _); (refine add_str (hsz := ?zqhsz) ?_); (case zqhsz => first | exact Nat.zero_le _ | k_extra "my size9" | (simp only [PySem.Str.length_append, PySem.sizeLine_eq, ln_e,ln_28,ln_29,ln_2c20,ln_2c,ln_2c29,ln_3c,ln_3e,ln_3a3a,ln_26,ln_6d757420,ln_72656620,ln_204020,ln_2e2e3d,ln_207b20,ln_207d,ln_7d,ln_2e2e,ln_3a20,ln_207c20,ln_5f,ln_21,ln_2761,ln_54,ln_7538,ln_78,ln_79,ln_6e,ln_6d,ln_74727565,ln_66616c7365,ln_37,ln_2d31,ln_2d33,ln_39,ln_31,ln_32,ln_73656c66,ln_53656c66,ln_7375706572,ln_6372617465,ln_41,ln_62,ln_4332,ln_3c75383e,ln_3c27612c20542c205f3e]; omega) | (simp only [lenIf, PySem.Str.length_append, PySem.sizeLine_eq, ln_e,ln_28,ln_29,ln_2c20,ln_2c,ln_2c29,ln_3c,ln_3e,ln_3a3a,ln_26,ln_6d757420,ln_72656620,ln_204020,ln_2e2e3d,ln_207b20,ln_207d,ln_7d,ln_2e2e,ln_3a20,ln_207c20,ln_5f,ln_21,ln_2761,ln_54,ln_7538,ln_78,ln_79,ln_6e,ln_6d,ln_74727565,ln_66616c7365,ln_37,ln_2d31,ln_2d33,ln_39,ln_31,ln_32,ln_73656c66,ln_53656c66,ln_7375706572,ln_6372617465,ln_41,ln_62,ln_4332,ln_3c75383e,ln_3c27612c20542c205f3e]; (repeat' split) <;> omega)); intro _ _))
  k_with "my ite" => (first | ((with_reducible refine' ite_int_one ?zqhc ?_); (case zqhc => first | with_reducible assumption | decide)) | ((with_reducible refine' ite_int_two ?_ ?_) <;> intro hk9))
  k_with "my ite" => (first | ((refine' PySem.W.ite_pos ?zqhc ?_); (case zqhc => (first | (k_dflt (exact (show _ = true from rfl))) | with_reducible assumption))) | ((refine' PySem.W.ite_neg ?zqhc ?_); (case zqhc => (first | (k_dflt (exact fun hb9 => absurd (show false = true from hb9) Bool.false_ne_true)) | exact fun hb9 => absurd (hb9.symm.trans (by with_reducible assumption)) (by decide)))))
  k_with "my storeName" => ((k_here; (with_reducible show wpAny _ _ (storeName _ _ _) _ _ _); k_dflt (refine' storeU ?zqhe ?zqF ?zqN ?zqhk ?zqhx ?_; (case zqhe => exact rfl); (case zqF => k_asm); (case zqN => k_asm); (case zqhk => rfl); (case zqhx => rfl)); intro h' M' F' N'; (try dsimp only); (try k_sweep)))
  k_with "my execs cons Assign cons" => ((k_here; (with_reducible show wpAny _ _ (execs (Stmt.Assign [Expr.Name _ _] _ _ :: _) _) _ _ _); k_dflt (refine' pure_assignE ?zqhe ?zqhpl ?zqF ?zqN ?zqhk ?zqh ?zqhn ?zqhx ?zqsw ?_; (case zqhpl => exact rfl); (case zqhe => exact rfl); (case zqF => k_asm); (case zqhk => rfl); (case zqh => exact rfl); (case zqhn => first | exact Nat.zero_le _ | k_extra "my size9" | (simp only [PySem.Str.length_append, PySem.sizeLine_eq, ln_e,ln_28,ln_29,ln_2c20,ln_2c,ln_2c29,ln_3c,ln_3e,ln_3a3a,ln_26,ln_6d757420,ln_72656620,ln_204020,ln_2e2e3d,ln_207b20,ln_207d,ln_7d,ln_2e2e,ln_3a20,ln_207c20,ln_5f,ln_21,ln_2761,ln_54,ln_7538,ln_78,ln_79,ln_6e,ln_6d,ln_74727565,ln_66616c7365,ln_37,ln_2d31,ln_2d33,ln_39,ln_31,ln_32,ln_73656c66,ln_53656c66,ln_7375706572,ln_6372617465,ln_41,ln_62,ln_4332,ln_3c75383e,ln_3c27612c20542c205f3e]; omega) | (simp only [lenIf, PySem.Str.length_append, PySem.sizeLine_eq, ln_e,ln_28,ln_29,ln_2c20,ln_2c,ln_2c29,ln_3c,ln_3e,ln_3a3a,ln_26,ln_6d757420,ln_72656620,ln_204020,ln_2e2e3d,ln_207b20,ln_207d,ln_7d,ln_2e2e,ln_3a20,ln_207c20,ln_5f,ln_21,ln_2761,ln_54,ln_7538,ln_78,ln_79,ln_6e,ln_6d,ln_74727565,ln_66616c7365,ln_37,ln_2d31,ln_2d33,ln_39,ln_31,ln_32,ln_73656c66,ln_53656c66,ln_7375706572,ln_6372617465,ln_41,ln_62,ln_4332,ln_3c75383e,ln_3c27612c20542c205f3e]; (repeat' split) <;> omega)); (case zqN => k_asm); (case zqhx => rfl); (case zqsw => rfl)); (try dsimp -zeta only [PV.at]); intro t9 h9 tk9 M9 F9 N9))
  k_with "my execs cons If" => ((k_here; (with_reducible show wpAny _ _ (execs (Stmt.If _ _ [] _ :: _) _) _ _ _); k_dflt (refine' pure_ifE ?zqhe ?zqhpl ?zqF ?zqhk ?zqhp ?zqh ?zqhn ?zqhc ?_; (case zqhpl => exact rfl); (case zqhe => exact rfl); (case zqF => k_asm); (case zqhk => rfl); (case zqh => exact rfl); (case zqhn => first | exact Nat.zero_le _ | k_extra "my size9" | (simp only [PySem.Str.length_append, PySem.sizeLine_eq, ln_e,ln_28,ln_29,ln_2c20,ln_2c,ln_2c29,ln_3c,ln_3e,ln_3a3a,ln_26,ln_6d757420,ln_72656620,ln_204020,ln_2e2e3d,ln_207b20,ln_207d,ln_7d,ln_2e2e,ln_3a20,ln_207c20,ln_5f,ln_21,ln_2761,ln_54,ln_7538,ln_78,ln_79,ln_6e,ln_6d,ln_74727565,ln_66616c7365,ln_37,ln_2d31,ln_2d33,ln_39,ln_31,ln_32,ln_73656c66,ln_53656c66,ln_7375706572,ln_6372617465,ln_41,ln_62,ln_4332,ln_3c75383e,ln_3c27612c20542c205f3e]; omega) | (simp only [lenIf, PySem.Str.length_append, PySem.sizeLine_eq, ln_e,ln_28,ln_29,ln_2c20,ln_2c,ln_2c29,ln_3c,ln_3e,ln_3a3a,ln_26,ln_6d757420,ln_72656620,ln_204020,ln_2e2e3d,ln_207b20,ln_207d,ln_7d,ln_2e2e,ln_3a20,ln_207c20,ln_5f,ln_21,ln_2761,ln_54,ln_7538,ln_78,ln_79,ln_6e,ln_6d,ln_74727565,ln_66616c7365,ln_37,ln_2d31,ln_2d33,ln_39,ln_31,ln_32,ln_73656c66,ln_53656c66,ln_7375706572,ln_6372617465,ln_41,ln_62,ln_4332,ln_3c75383e,ln_3c27612c20542c205f3e]; (repeat' split) <;> omega)); (case zqhp => rfl); (case zqhc => exact rfl)); intro tk9; (try dsimp only)))
  k_with "my eval BinOp" => ((k_here; (with_reducible show wpAny _ _ (eval (Expr.BinOp _ _ _ _) _) _ _ _); k_dflt (refine' pure_evalE ?zqhe ?zqhpl ?zqF ?zqhk ?zqh ?zqhn ?_; (case zqhpl => exact rfl); (case zqhe => exact rfl); (case zqF => k_asm); (case zqhk => rfl); (case zqh => exact rfl); (case zqhn => first | exact Nat.zero_le _ | k_extra "my size9" | (simp only [PySem.Str.length_append, PySem.sizeLine_eq, ln_e,ln_28,ln_29,ln_2c20,ln_2c,ln_2c29,ln_3c,ln_3e,ln_3a3a,ln_26,ln_6d757420,ln_72656620,ln_204020,ln_2e2e3d,ln_207b20,ln_207d,ln_7d,ln_2e2e,ln_3a20,ln_207c20,ln_5f,ln_21,ln_2761,ln_54,ln_7538,ln_78,ln_79,ln_6e,ln_6d,ln_74727565,ln_66616c7365,ln_37,ln_2d31,ln_2d33,ln_39,ln_31,ln_32,ln_73656c66,ln_53656c66,ln_7375706572,ln_6372617465,ln_41,ln_62,ln_4332,ln_3c75383e,ln_3c27612c20542c205f3e]; omega) | (simp only [lenIf, PySem.Str.length_append, PySem.sizeLine_eq, ln_e,ln_28,ln_29,ln_2c20,ln_2c,ln_2c29,ln_3c,ln_3e,ln_3a3a,ln_26,ln_6d757420,ln_72656620,ln_204020,ln_2e2e3d,ln_207b20,ln_207d,ln_7d,ln_2e2e,ln_3a20,ln_207c20,ln_5f,ln_21,ln_2761,ln_54,ln_7538,ln_78,ln_79,ln_6e,ln_6d,ln_74727565,ln_66616c7365,ln_37,ln_2d31,ln_2d33,ln_39,ln_31,ln_32,ln_73656c66,ln_53656c66,ln_7375706572,ln_6372617465,ln_41,ln_62,ln_4332,ln_3c75383e,ln_3c27612c20542c205f3e]; (repeat' split) <;> omega))); intro t9 tk9; (try dsimp only [PV.at])))
  k_with "my eval BinOp" => ((k_here; (with_reducible show wpAny _ _ (eval (Expr.BinOp (Expr.Constant _ _ _) Operator.Mult (Expr.Call (Expr.Name _ _) [Expr.Name _ _] [] _) _) _) _ _ _); k_dflt (refine' mul_intE ?zqhe ?zqF ?zqX ?zqT ?zqhI ?zqhx ?zqhk ?zqhi ?zqhxl ?zqhl ?_; (case zqhe => exact rfl); (case zqF => k_asm); (case zqX => k_asm); (case zqT => k_asm); (case zqhI => k_is); (case zqhx => rfl); (case zqhk => rfl); (case zqhi => rfl); (case zqhxl => rfl); (case zqhl => decide +kernel)); intro t9 tk9; (try dsimp only)))
  k_with "my eval Compare" => ((k_here; (with_reducible show wpAny _ _ (eval (Expr.Compare _ _ _ _) _) _ _ _); k_dflt (refine' pure_evalE ?zqhe ?zqhpl ?zqF ?zqhk ?zqh ?zqhn ?_; (case zqhpl => exact rfl); (case zqhe => exact rfl); (case zqF => k_asm); (case zqhk => rfl); (case zqh => exact rfl); (case zqhn => first | exact Nat.zero_le _ | k_extra "my size9" | (simp only [PySem.Str.length_append, PySem.sizeLine_eq, ln_e,ln_28,ln_29,ln_2c20,ln_2c,ln_2c29,ln_3c,ln_3e,ln_3a3a,ln_26,ln_6d757420,ln_72656620,ln_204020,ln_2e2e3d,ln_207b20,ln_207d,ln_7d,ln_2e2e,ln_3a20,ln_207c20,ln_5f,ln_21,ln_2761,ln_54,ln_7538,ln_78,ln_79,ln_6e,ln_6d,ln_74727565,ln_66616c7365,ln_37,ln_2d31,ln_2d33,ln_39,ln_31,ln_32,ln_73656c66,ln_53656c66,ln_7375706572,ln_6372617465,ln_41,ln_62,ln_4332,ln_3c75383e,ln_3c27612c20542c205f3e]; omega) | (simp only [lenIf, PySem.Str.length_append, PySem.sizeLine_eq, ln_e,ln_28,ln_29,ln_2c20,ln_2c,ln_2c29,ln_3c,ln_3e,ln_3a3a,ln_26,ln_6d757420,ln_72656620,ln_204020,ln_2e2e3d,ln_207b20,ln_207d,ln_7d,ln_2e2e,ln_3a20,ln_207c20,ln_5f,ln_21,ln_2761,ln_54,ln_7538,ln_78,ln_79,ln_6e,ln_6d,ln_74727565,ln_66616c7365,ln_37,ln_2d31,ln_2d33,ln_39,ln_31,ln_32,ln_73656c66,ln_53656c66,ln_7375706572,ln_6372617465,ln_41,ln_62,ln_4332,ln_3c75383e,ln_3c27612c20542c205f3e]; (repeat' split) <;> omega))); intro t9 tk9; (try dsimp only [PV.at])))
  k_with "my eval IfExp" => ((k_here; (with_reducible show wpAny _ _ (eval (Expr.IfExp _ _ _ _) _) _ _ _); k_dflt (refine' pure_evalE ?zqhe ?zqhpl ?zqF ?zqhk ?zqh ?zqhn ?_; (case zqhpl => exact rfl); (case zqhe => exact rfl); (case zqF => k_asm); (case zqhk => rfl); (case zqh => exact rfl); (case zqhn => first | exact Nat.zero_le _ | k_extra "my size9" | (simp only [PySem.Str.length_append, PySem.sizeLine_eq, ln_e,ln_28,ln_29,ln_2c20,ln_2c,ln_2c29,ln_3c,ln_3e,ln_3a3a,ln_26,ln_6d757420,ln_72656620,ln_204020,ln_2e2e3d,ln_207b20,ln_207d,ln_7d,ln_2e2e,ln_3a20,ln_207c20,ln_5f,ln_21,ln_2761,ln_54,ln_7538,ln_78,ln_79,ln_6e,ln_6d,ln_74727565,ln_66616c7365,ln_37,ln_2d31,ln_2d33,ln_39,ln_31,ln_32,ln_73656c66,ln_53656c66,ln_7375706572,ln_6372617465,ln_41,ln_62,ln_4332,ln_3c75383e,ln_3c27612c20542c205f3e]; omega) | (simp only [lenIf, PySem.Str.length_append, PySem.sizeLine_eq, ln_e,ln_28,ln_29,ln_2c20,ln_2c,ln_2c29,ln_3c,ln_3e,ln_3a3a,ln_26,ln_6d757420,ln_72656620,ln_204020,ln_2e2e3d,ln_207b20,ln_207d,ln_7d,ln_2e2e,ln_3a20,ln_207c20,ln_5f,ln_21,ln_2761,ln_54,ln_7538,ln_78,ln_79,ln_6e,ln_6d,ln_74727565,ln_66616c7365,ln_37,ln_2d31,ln_2d33,ln_39,ln_31,ln_32,ln_73656c66,ln_53656c66,ln_7375706572,ln_6372617465,ln_41,ln_62,ln_4332,ln_3c75383e,ln_3c27612c20542c205f3e]; (repeat' split) <;> omega))); intro t9 tk9; (try dsimp only [PV.at])))
  k_with "my isTrue Compare" => ((k_here; (with_reducible show wpAny _ _ (PySem.isTrue (Expr.Compare _ _ _ _) _ _) _ _ _); k_dflt (refine' pure_testE ?zqhe ?zqhpl ?zqF ?zqhk ?zqhp ?zqh ?zqhc ?zqhn ?_; (case zqhpl => exact rfl); (case zqhe => exact rfl); (case zqF => k_asm); (case zqhk => rfl); (case zqh => exact rfl); (case zqhn => first | exact Nat.zero_le _ | k_extra "my size9" | (simp only [PySem.Str.length_append, PySem.sizeLine_eq, ln_e,ln_28,ln_29,ln_2c20,ln_2c,ln_2c29,ln_3c,ln_3e,ln_3a3a,ln_26,ln_6d757420,ln_72656620,ln_204020,ln_2e2e3d,ln_207b20,ln_207d,ln_7d,ln_2e2e,ln_3a20,ln_207c20,ln_5f,ln_21,ln_2761,ln_54,ln_7538,ln_78,ln_79,ln_6e,ln_6d,ln_74727565,ln_66616c7365,ln_37,ln_2d31,ln_2d33,ln_39,ln_31,ln_32,ln_73656c66,ln_53656c66,ln_7375706572,ln_6372617465,ln_41,ln_62,ln_4332,ln_3c75383e,ln_3c27612c20542c205f3e]; omega) | (simp only [lenIf, PySem.Str.length_append, PySem.sizeLine_eq, ln_e,ln_28,ln_29,ln_2c20,ln_2c,ln_2c29,ln_3c,ln_3e,ln_3a3a,ln_26,ln_6d757420,ln_72656620,ln_204020,ln_2e2e3d,ln_207b20,ln_207d,ln_7d,ln_2e2e,ln_3a20,ln_207c20,ln_5f,ln_21,ln_2761,ln_54,ln_7538,ln_78,ln_79,ln_6e,ln_6d,ln_74727565,ln_66616c7365,ln_37,ln_2d31,ln_2d33,ln_39,ln_31,ln_32,ln_73656c66,ln_53656c66,ln_7375706572,ln_6372617465,ln_41,ln_62,ln_4332,ln_3c75383e,ln_3c27612c20542c205f3e]; (repeat' split) <;> omega)); (case zqhp => rfl); (case zqhc => exact rfl)); intro tk9; (try dsimp only)))
  k_with "my eval Tuple" => ((k_here; (with_reducible show wpAny _ _ (eval (Expr.Tuple _ _ _) _) _ _ _); k_dflt (refine' pure_tupleE ?zqhe ?zqhpl ?zqF ?zqN ?zqhk ?zqh ?zqhn ?zqhz ?_; (case zqhpl => exact rfl); (case zqhe => exact rfl); (case zqF => k_asm); (case zqhk => rfl); (case zqh => exact rfl); (case zqhn => first | exact Nat.zero_le _ | k_extra "my size9" | (simp only [PySem.Str.length_append, PySem.sizeLine_eq, ln_e,ln_28,ln_29,ln_2c20,ln_2c,ln_2c29,ln_3c,ln_3e,ln_3a3a,ln_26,ln_6d757420,ln_72656620,ln_204020,ln_2e2e3d,ln_207b20,ln_207d,ln_7d,ln_2e2e,ln_3a20,ln_207c20,ln_5f,ln_21,ln_2761,ln_54,ln_7538,ln_78,ln_79,ln_6e,ln_6d,ln_74727565,ln_66616c7365,ln_37,ln_2d31,ln_2d33,ln_39,ln_31,ln_32,ln_73656c66,ln_53656c66,ln_7375706572,ln_6372617465,ln_41,ln_62,ln_4332,ln_3c75383e,ln_3c27612c20542c205f3e]; omega) | (simp only [lenIf, PySem.Str.length_append, PySem.sizeLine_eq, ln_e,ln_28,ln_29,ln_2c20,ln_2c,ln_2c29,ln_3c,ln_3e,ln_3a3a,ln_26,ln_6d757420,ln_72656620,ln_204020,ln_2e2e3d,ln_207b20,ln_207d,ln_7d,ln_2e2e,ln_3a20,ln_207c20,ln_5f,ln_21,ln_2761,ln_54,ln_7538,ln_78,ln_79,ln_6e,ln_6d,ln_74727565,ln_66616c7365,ln_37,ln_2d31,ln_2d33,ln_39,ln_31,ln_32,ln_73656c66,ln_53656c66,ln_7375706572,ln_6372617465,ln_41,ln_62,ln_4332,ln_3c75383e,ln_3c27612c20542c205f3e]; (repeat' split) <;> omega)); (case zqN => k_asm); (case zqhz => exact Nat.le_of_ble_eq_true rfl)); intro tk9; (try dsimp only [AllAt]); intros; (rename_i D' h' F' N' l1); (try k_sweep)))
  k_with "my spliced" => ((k_here; (with_reducible show wpAny _ _ (spliced (backTo _ (starEach (_ :: _) _))) _ _ _); k_dflt (refine' pure_argsE ?zqhe ?zqhpl ?zqhk ?zqF ?zqh ?zqhn ?_; (case zqhpl => exact rfl); (case zqhe => exact rfl); (case zqF => k_asm); (case zqhk => rfl); (case zqh => exact rfl); (case zqhn => first | exact Nat.zero_le _ | k_extra "my size9" | (simp only [PySem.Str.length_append, PySem.sizeLine_eq, ln_e,ln_28,ln_29,ln_2c20,ln_2c,ln_2c29,ln_3c,ln_3e,ln_3a3a,ln_26,ln_6d757420,ln_72656620,ln_204020,ln_2e2e3d,ln_207b20,ln_207d,ln_7d,ln_2e2e,ln_3a20,ln_207c20,ln_5f,ln_21,ln_2761,ln_54,ln_7538,ln_78,ln_79,ln_6e,ln_6d,ln_74727565,ln_66616c7365,ln_37,ln_2d31,ln_2d33,ln_39,ln_31,ln_32,ln_73656c66,ln_53656c66,ln_7375706572,ln_6372617465,ln_41,ln_62,ln_4332,ln_3c75383e,ln_3c27612c20542c205f3e]; omega) | (simp only [lenIf, PySem.Str.length_append, PySem.sizeLine_eq, ln_e,ln_28,ln_29,ln_2c20,ln_2c,ln_2c29,ln_3c,ln_3e,ln_3a3a,ln_26,ln_6d757420,ln_72656620,ln_204020,ln_2e2e3d,ln_207b20,ln_207d,ln_7d,ln_2e2e,ln_3a20,ln_207c20,ln_5f,ln_21,ln_2761,ln_54,ln_7538,ln_78,ln_79,ln_6e,ln_6d,ln_74727565,ln_66616c7365,ln_37,ln_2d31,ln_2d33,ln_39,ln_31,ln_32,ln_73656c66,ln_53656c66,ln_7375706572,ln_6372617465,ln_41,ln_62,ln_4332,ln_3c75383e,ln_3c27612c20542c205f3e]; (repeat' split) <;> omega))); intro tk9; (try dsimp only [AllAt, List.cons_append, List.nil_append]); intros; (try dsimp only [List.cons_append, List.nil_append])))
  k_with "my eval Name" => ((k_here; (with_reducible show wpAny _ _ (eval (Expr.Name _ _) (envOf _ _ _ _ _)) _ _ _); k_dflt (first | (refine' nameX_L ?zqF ?zqv ?_ ?zqa ?zqb; (case zqF => k_asm); (case zqa => rfl); (case zqb => rfl); (case zqv => rfl); k_whole) | (refine' nameX_K ?zqF ?zqX ?zqT ?zqe ?_ ?zqa ?zqb; (case zqF => k_asm); (case zqX => k_asm); (case zqT => k_asm); (case zqa => rfl); (case zqb => rfl); (case zqe => k_is); k_whole))))
  k_with "my k_all" => (first | with_reducible assumption | (refine List.forall_mem_append.mpr ⟨?_, ?_⟩ <;> k_all))
  k_with "my k_updF" => ((refine' UpdF.app ?zqa ?zqb; (case zqa => k_all); (case zqb => k_updF)))
  k_with "my subscriptTail" => ((k_here; (with_reducible show wpAny _ _ (subscriptTail _ _ (Value.ref _) (Value.int _ _)) _ _ _); k_dflt (refine' itemL ?zql ?zqa ?zqb ?zqd ?_; (case zql => is_list); (case zqa => decide); (case zqb => decide); (case zqd => rfl))))
  k_with "my lcg_off" => (first | assumption | exact True.intro | (refine And.intro ⟨by k_ne, by k_ne, by k_ne⟩ ?_; lcg_off) | (refine off3_app ?_ (fun p hp => hVn9 p hp _ (by k_mem)) (fun p hp => hVn9 p hp _ (by k_mem)) (fun p hp => hVn9 p hp _ (by k_mem)); lcg_off))
  k_with "my CompRest" => ((with_unfolding_all first | (refine LCg.CompRest.succ ?_; intro v' I' oI' C' oC' D' m' h' tk' E' hv' hC' hx' F' N' off' ne'; (first | lcg_open hv' | (obtain ⟨t9', hv9'⟩ := hv'; subst hv9')); (have offW := off'); (have offV := off'); (repeat (replace offV := And.right offV)); (try simp only [LCg.Off3, and_true] at off')) | refine LCg.CompRest.zero ?_))
  k_with "my tb_start" => (first | exact Minus.here | (refine' Minus.there ?zqmn9; (case zqmn9 => tb_start)))
  k_with "my CompEnd" => ((k_dflt (refine' comp_end ?zqa ?zqb ?zqc ?zqd ?zqe ?zqf ?zqg ?zqh ?zqi ?zqj ?_; (case zqa => k_asm); (case zqb => k_asm); (case zqc => tb_start); (case zqd => tb_start); (case zqe => tb_start); (case zqf => k_mem); (case zqg => k_mem); (case zqh => k_mem); (case zqi => lcg_off); (case zqj => lcg_src))))
  k_with "my subscriptTail Name Slice ref ref" => ((k_here; (with_reducible show wpAny _ _ (subscriptTail _ (PySem.Expr.Slice _ _ none _) (Value.ref _) (Value.ref _)) _ _ _); k_dflt (refine' kms_slice_lit ?zqF ?zqN ?zql ?zqp ?zqq ?zqe ?_ ?zqs ?zqt ?zqz; (case zqF => k_asm); (case zqN => k_asm); (case zql => kmk_list); (case zqp => kmk_part); (case zqq => kmk_part); (case zqe => first | exact (rfl : _ = []) | exact (rfl : _ = [_]) | exact (rfl : _ = [_, _]) | exact (rfl : _ = [_, _, _])); (case zqs => with_unfolding_all rfl); (case zqt => kmk_pure); (case zqz => exact Nat.le_of_ble_eq_true rfl)); intro D' h' F' N' l1; (try k_lt l1); (try k_sweep)))
  k_with "my CompSrc" => ((k_here; k_dflt (first | (refine LCg.CompSrc.ledger (by rfl) (by k_asm) (by k_asm) (by k_mem) (by exact Nat.le_of_ble_eq_true rfl) ?_; intro g'; lcg_lit) | (refine LCg.CompSrc.range (by rfl) (by k_asm) (by k_asm) (by assumption) (by first | decide | rfl) (by first | rfl | decide) (by exact Nat.le_of_ble_eq_true rfl) ?_; intro g'; lcg_lit))))
  k_with "my eval ListComp" => ((k_here; k_dflt (refine LCg.ListComp_U (F₀ := by k_asm) (by with_unfolding_all rfl) (by decide) (by rfl) (by decide) (by rfl) ?_)))
  k_with "my newTuple" => ((k_here; k_dflt (refine' kup_newTuple ?zqF ?zqN ?_ ?zqz; (case zqF => k_asm); (case zqN => k_asm); (case zqz => exact Nat.le_of_ble_eq_true rfl)); intro D' h' F' N' l1; (try k_sweep)))
  k_with "my k_ne" => (first | with_reducible assumption | exact ne_raw (by with_reducible assumption) (by k_mem) | exact (ne_raw (by with_reducible assumption) (by k_mem)).symm)
  k_with "my k_ne" => (first | with_reducible assumption | exact Ne.symm (by with_reducible assumption) | exact Apart.ne (by with_reducible assumption) | exact (Apart.ne (by with_reducible assumption)).symm | exact ne_raw (by with_reducible assumption) (by k_mem) | exact (ne_raw (by with_reducible assumption) (by k_mem)).symm | exact off1_ne (by with_reducible assumption) (by k_mem) | exact (off1_ne (by with_reducible assumption) (by k_mem)).symm | exact off3_I (by with_reducible assumption) (by k_mem) | exact off3_C (by with_reducible assumption) (by k_mem) | exact off3_D (by with_reducible assumption) (by k_mem) | exact (off3_I (by with_reducible assumption) (by k_mem)).symm | exact (off3_C (by with_reducible assumption) (by k_mem)).symm | exact (off3_D (by with_reducible assumption) (by k_mem)).symm | (refine neN ?_; (try dsimp only); omega))
  k_with "my k_lt on" => (skip)
  k_with "my CompRest" => ((with_unfolding_all first | (refine LCg.CompRest.succ ?_; intro v' I' oI' C' oC' D' m' h' tk' E' hv' hC' hx' F' N' off' ne'; (first | lcg_open hv' | (obtain ⟨t9', hv9'⟩ := hv'; subst hv9')); (have nA' : Apart _ _ := And.left ne'); (have nB' : Apart _ _ := And.left (And.right ne')); (have nC' : Apart _ _ := And.right (And.right ne')); (clear ne'); (have offV := off'); (repeat (replace offV := And.right offV)); (have offW := off'); (try simp only [List.nil_append, List.cons_append, List.append_assoc] at offW)) | refine LCg.CompRest.zero ?_))
  k_with "my FinE" => (((unfold LCg.FinE); intro D' h' tk' F' N' o1'; (try simp only [List.nil_append, List.cons_append] at N' o1'); (try dsimp only)))
  k_with "my FinA" => (((unfold LCg.FinA); intro D' h' tk' F' N' o1'; (try simp only [List.nil_append, List.cons_append] at N' o1'); (try dsimp only)))
  k_with "my subscriptTail Name Constant ref int" => ((k_here; (with_reducible show wpAny _ _ (subscriptTail _ _ (Value.ref _) (Value.int _ _)) _ _ _); k_dflt (refine' itemL ?zql ?zqa ?zqb ?zqd ?_; (case zql => is_list); (case zqa => decide); (case zqb => decide); (case zqd => rfl))))
  k_with "my exec Assign" => ((k_fold; walk_at "exec Assign"))
  k_with "my exec Assign cons ListComp" => ((k_fold; walk_at "exec Assign cons ListComp"))
  k_with "my exec If" => ((k_fold; walk_at "exec If"))
  k_with "my exec Return some" => ((k_fold; walk_at "exec Return some"))
  k_with "my call ref" => ((k_here; (with_reducible show wpAny _ _ (call (Value.ref 94) _) _ _ _); k_dflt (first | ((with_reducible show wpAny _ _ (call (Value.ref 94) [_, Value.int 3 _]) _ _ _); (refine' tuse (take _ _ _ _ ?zqh1 ?zqh2) ?zqB ?zqF ?zqX ?zqN ?zqT ?zqhk ?zqhd ?zqhu ?zqU ?zqho ?zqhp ?_; (case zqhp => trivial); (case zqh1 => first | decide | (simp; done)); (case zqh2 => first | decide | (simp; done)); (case zqB => k_asm); (case zqF => k_asm); (case zqX => k_asm); (case zqN => k_asm); (case zqT => k_asm); (case zqhk => first | exact rfl | assumption); (case zqhd => k_extra "my room9"); (case zqhu => k_extra "my units9"); (case zqU => k_updF); (case zqho => with_reducible assumption); intro r9 o9 V9 h9 tk9 ho9 F9 N9 hV9 hVn9 hP9; obtain ⟨e1, k9, t9, e2, hk0, hk1⟩ := hP9; subst e1; subst e2; (try simp only [List.nil_append, List.cons_append, List.append_nil, List.append_assoc] at N9); (try dsimp only); (try k_sweep))) | ((refine' tuse (take _ _ _ _ ?zqh1 ?zqh2) ?zqB ?zqF ?zqX ?zqN ?zqT ?zqhk ?zqhd ?zqhu ?zqU ?zqho ?zqhp ?_; (case zqhp => trivial); (case zqh1 => assumption); (case zqh2 => omega); (case zqB => k_asm); (case zqF => k_asm); (case zqX => k_asm); (case zqN => k_asm); (case zqT => k_asm); (case zqhk => first | exact rfl | assumption); (case zqhd => k_extra "my room9"); (case zqhu => k_extra "my units9"); (case zqU => k_updF); (case zqho => with_reducible assumption); intro r9 o9 V9 h9 tk9 ho9 F9 N9 hV9 hVn9 hP9; obtain ⟨e1, k9, t9, e2, hk0, hk1⟩ := hP9; subst e1; subst e2; (have hk2 : k9 < (3 : Int) := (by omega)); clear hk1; obtain (e3 | e3 | e3) := split3 hk0 hk2; all_goals (clear hk0 hk2; subst e3); all_goals (try simp only [List.nil_append, List.cons_append, List.append_nil, List.append_assoc] at N9); all_goals (try dsimp only); all_goals (try k_sweep))))))
  k_with "my lcg_sub" => ((intro p9 hp9; repeat (first | exact hp9 | exact List.mem_append_left _ hp9 | refine List.mem_append_right _ ?_ | refine List.Mem.tail _ ?_)))
  k_with "my k_memK" => (first | with_reducible exact List.mem_cons_self | (with_reducible refine List.mem_cons_of_mem _ ?_; k_memK))
  k_with "my lcg_off" => (first | with_reducible assumption | exact True.intro | (refine And.intro ⟨by k_ne, by k_ne, by k_ne⟩ ?_; lcg_off) | (refine off3_cat ?_ ?_ <;> lcg_off) | exact off3_new (by with_reducible assumption) (by k_mem) (by k_mem) (by k_mem) | exact off3_l (by with_reducible assumption) | exact off3_r (by with_reducible assumption))
  k_with "my eval Subscript" => ((k_here; (with_reducible show wpAny _ _ (eval (Expr.Subscript (Expr.List _ _) (Expr.Name _ _) _) _) _ _ _); k_dflt (refine' disp_use ?zqd ?zqhe ?zqF ?zqN ?zqhk ?zqhx ?zqho ?zqh0 ?zqhlt ?_; (case zqd => exact DispEs.mk); (case zqhe => exact rfl); (case zqF => k_asm); (case zqN => k_asm); (case zqhk => rfl); (case zqhx => exact rfl); (case zqho => rfl); (case zqh0 => with_reducible assumption); (case zqhlt => with_reducible assumption)); intro way9 z9 r9 y9 t9 V9 h9 tk9 hw9 hT9 hR9 F9 N9 lt9; (k_dflt (have fr9 := freshV_lt (by with_reducible assumption) (by with_reducible assumption) lt9 (by k_memK) (by lcg_sub))); (have hr9 := rawT_len way9); (replace lt9 := ltV_of lt9); (try dsimp only [List.cons_append, List.nil_append] at N9); (try dsimp only); (try k_sweep)))
  k_with "my assign Tuple" => ((k_here; (with_reducible show wpAny _ _ (assign (Expr.Tuple _ _ _) _ (Value.ref _)) _ _ _); k_dflt (refine' unpackN_ ?zqF ?zqN ?zqT ?zqk1 ?zqk2 ?zqk3 ?_; (case zqF => k_asm); (case zqN => k_asm); (case zqT => with_reducible assumption); (case zqk1 => exact rfl); (case zqk2 => exact rfl); (case zqk3 => exact rfl)); intro h' F' N'; (try k_sweep)))
  k_with "my ite" => (((first | (with_reducible refine' ite_raw ?zqhw ?_ ?_; (case zqhw => with_reducible assumption)) | (with_reducible refine' ite_raw2 ?zqhw ?_ ?_; (case zqhw => with_reducible assumption))) <;> intro hw9))
  k_with "my call ref" => ((k_here; (with_reducible show wpAny _ _ (call (Value.ref 101) _) _ _ _); k_dflt (first | (refine' tuse (one7 _ _ _ _ _ _ _ _ _ _ ?zqhl) ?zqB ?zqF ?zqX ?zqN ?zqT ?zqhk ?zqhd ?zqhu ?zqU ?zqho ?zqhp ?_; (case zqhp => is_list); (case zqhl => k_ne); (case zqB => k_asm); (case zqF => k_asm); (case zqX => k_asm); (case zqN => k_asm); (case zqT => k_asm); (case zqhk => first | exact rfl | assumption); (case zqhd => k_extra "my room9"); (case zqhu => k_extra "my units9"); (case zqU => k_updF); (case zqho => with_reducible assumption); intro r9 o9 V9 h9 tk9 ho9 F9 N9 hV9 hVn9 hP9; obtain ⟨e1, hm9⟩ := hP9; subst e1; obtain ⟨n9, t9, e2, hn9⟩ := names7 hm9; subst e2; clear hm9; (try simp only [List.nil_append, List.cons_append, List.append_nil, List.append_assoc] at N9); (try dsimp only); (try k_sweep)))))
  trivial
theorem path (w : World) (src : Addr) (most : Int) (tt : Tok) (hm0 : 0 < most) (hm3 : most ≤ 3) : TSpec w 106 [.ref src, .int most tt] src (fun _ => True) (PathPost) 8 := by
  unfold TSpec
  intro o prg loose mean mg mb dp un gd cn cs a ccd cl outer A₀ base h₀ L m s Q E hso B F X T hk hdp hun hos hsL hs0 hpre hret
  obtain ⟨VA, hVA, hVAs, hall⟩ := all_led F hs0
  have N : News h₀ L s.heap ((src, o) :: VA) := by
    intro p hp
    rcases List.mem_cons.mp hp with rfl | hp
    · exact ⟨hos, hsL, hs0⟩
    · exact hVA p hp
  refine wpAny_call ?_
  k_dflt (refine' code_defC (binds := [(Str.ofString "source", .ref src), (Str.ofString "most", .int most tt)]) B F X N T ?kA ?kF ?kK ?k6 ?k7 ?k8 ?k9 ?kB ?kD ?_ ?c2 ?c3 ?c4; (case kA => exact rfl); (case kF => exact rfl); (case kK => exact hk); (case k6 => k_is); (case k7 => k_is); (case k8 => k_extra "my room9"); (case k9 => first | exact BindsTo.of_eq rfl | exact binds_K (by k_in) rfl (by k_is) rfl rfl rfl); (case kB => exact rfl); (case kD => decide +kernel); (case c2 => exact rfl); (case c3 => exact rfl); (case c4 => exact rfl))
  intro g' L' h' tk' cells' FG' F' N' Y' B' X' T' l1
  have le9 := l1
  replace l1 := allLt_of l1
  simp only [AllLt, and_true] at l1
  k_cells Y'
  (try simp only [List.cons_append, List.nil_append] at N')
  (try dsimp only); (try k_unmd); (try k_fold)
  k_steps
  all_goals first
    | (refine' path_end hret hall ?zqkF ?zqN ?zqsA ?zqhs ?zqho ?zqhc ?zqhcf ?zqmk ?zqe1 ?zqe2 ?zqok
       case zqkF => assumption
       case zqN => assumption
       case zqsA => lcg_sub
       case zqhs => k_memK
       case zqho => assumption
       case zqhc => k_memK
       case zqhcf => exact fresh_of le9 (by with_reducible assumption) (by k_memK)
       case zqmk =>
         intro h G
         first
         | (refine' PathAt.one ?zp ?ze1; (case zp => (refine' istupG G ?zm ?zf; (case zm => k_memK); (case zf => exact fresh_of le9 (by with_reducible assumption) (by k_memK)))); (case ze1 => exact RegTyV.at (by with_reducible assumption) (by with_reducible assumption) G (by lcg_sub) (istupG G (by k_memK) (fresh_of le9 (by with_reducible assumption) (by k_memK)))))
         | (refine' PathAt.two ?zp ?ze1 ?ze2; (case zp => (refine' istupG G ?zm ?zf; (case zm => k_memK); (case zf => exact fresh_of le9 (by with_reducible assumption) (by k_memK)))); (case ze1 => (refine' EntAt.none ?yA ?yB ?yC; (case yA => (refine' istupG G ?zm ?zf; (case zm => k_memK); (case zf => exact fresh_of le9 (by with_reducible assumption) (by k_memK)))); (case yB => (refine' istupG G ?zm ?zf; (case zm => k_memK); (case zf => exact fresh_of le9 (by with_reducible assumption) (by k_memK)))); (case yC => (refine' istupG G ?zm ?zf; (case zm => k_memK); (case zf => exact fresh_of le9 (by with_reducible assumption) (by k_memK)))))); (case ze2 => exact RegTyV.at (by with_reducible assumption) (by with_reducible assumption) G (by lcg_sub) (istupG G (by k_memK) (fresh_of le9 (by with_reducible assumption) (by k_memK)))))
         | (refine' PathAt.three ?zp ?ze1 ?ze2 ?ze3; (case zp => (refine' istupG G ?zm ?zf; (case zm => k_memK); (case zf => exact fresh_of le9 (by with_reducible assumption) (by k_memK)))); (case ze1 => (refine' EntAt.none ?yA ?yB ?yC; (case yA => (refine' istupG G ?zm ?zf; (case zm => k_memK); (case zf => exact fresh_of le9 (by with_reducible assumption) (by k_memK)))); (case yB => (refine' istupG G ?zm ?zf; (case zm => k_memK); (case zf => exact fresh_of le9 (by with_reducible assumption) (by k_memK)))); (case yC => (refine' istupG G ?zm ?zf; (case zm => k_memK); (case zf => exact fresh_of le9 (by with_reducible assumption) (by k_memK)))))); (case ze2 => (refine' EntAt.none ?yA ?yB ?yC; (case yA => (refine' istupG G ?zm ?zf; (case zm => k_memK); (case zf => exact fresh_of le9 (by with_reducible assumption) (by k_memK)))); (case yB => (refine' istupG G ?zm ?zf; (case zm => k_memK); (case zf => exact fresh_of le9 (by with_reducible assumption) (by k_memK)))); (case yC => (refine' istupG G ?zm ?zf; (case zm => k_memK); (case zf => exact fresh_of le9 (by with_reducible assumption) (by k_memK)))))); (case ze3 => exact RegTyV.at (by with_reducible assumption) (by with_reducible assumption) G (by lcg_sub) (istupG G (by k_memK) (fresh_of le9 (by with_reducible assumption) (by k_memK)))))
       case zqe1 => first | (simp only [pathT, tail_raw (by with_reducible assumption), S, ape, epa, PySem.Str.append_assoc]; done) | (simp only [pathT, tail_0 (by with_reducible assumption), S, ape, epa, PySem.Str.append_assoc]; done)
       case zqe2 => simp only [pathT, tail_e, S, ape, epa, PySem.Str.append_assoc]
       case zqok => first | exact PathOk.one (by assumption) (by assumption) | exact PathOk.two (by assumption) (by assumption) (by assumption) | exact PathOk.three (by assumption) (by assumption) (by assumption) (by assumption))
    | (fail)
end Mine
end

section
open PySem PySem.W PyProof.Rows PySem.Calls
namespace Mine
set_option maxRecDepth 100000
set_option maxHeartbeats 8000000

section
variable {prog : Program} {w : World} {A : Around} {E : Value → Shared → Prop} {s : Shared}

theorem nextOf_tuple_item {it t : Addr} {i : Nat} {items : Array Value} {x : Value} {Q : Value → Shared → Prop} (hit : s.heap.IsTupleIter it t i)
    (ht : s.heap.IsTuple t items) (hx : items[i]? = some x)
    (hQ : ∀ h', h'.IsTupleIter it t (i + 1) → Heap.SameBut it s.heap h' → Q x { s with heap := h' }) :
    wpAny (model prog w) A (Builtin.SmallTypes.nextOf (.ref it)) Q E s := by
  obtain ⟨o, ho, hc, hd⟩ := id hit
  obtain ⟨ol, hol, _, nl, hdl⟩ := ht
  unfold Builtin.SmallTypes.nextOf
  refine wpAny_bind (wpAny_callSpecial?_slot (name := Str.ofString "__next__") hit.typeIs PySem.F.slot_tuple_iterator_next
    (wpAny_call_entry PySem.F.slot_tuple_iterator_next hit.typeIs PySem.F.entry_tuple_iterator_next ?_ (PySem.F.args_tuple_iterator_next_1 _)))
  show wpAny _ _ (field (.ref it) 0 >>= _) _ _ s
  refine wpAny_bind (wpAny_field ho hd (x := .ref t) rfl ?_)
  show wpAny _ _ (if (Value.ref t == Value.none) = true then _ else _) _ _ s
  rw [if_neg (show ¬ ((Value.ref t == Value.none) = true) from Bool.false_ne_true)]
  show wpAny _ _ (field (.ref it) 1 >>= _) _ _ s
  refine wpAny_bind (wpAny_field ho hd (x := .int i 0) rfl ?_)
  show wpAny _ _ (seqItems? (.ref t) >>= _) _ _ s
  refine wpAny_bind (wpAny_seqItems hol hdl ?_)
  simp only [Int.toNat_natCast, hx]
  refine wpAny_bind (wpAny_setField ho hd (by simp) (wpAny_pure ⟨x, rfl, wpAny_pure (hQ _ ?_ (Heap.SameBut.update ..))⟩))
  exact ⟨_, Heap.get?_update_self _ ho (Obj.isFreed_of_fields (Obj.data_mapFields hd _)), (Obj.cls_mapFields ..).trans hc, by
    rw [Obj.data_mapFields hd]; simp [rawInt]⟩

theorem nextOf_tuple_end {it t : Addr} {i : Nat} {items : Array Value} {Q : Value → Shared → Prop} (hh : A.handled = none)
    (hit : s.heap.IsTupleIter it t i) (ht : s.heap.IsTuple t items) (hx : items[i]? = none)
    (hE : ∀ h' e, Heap.ExtBut it s.heap h' → (∃ o, h'.get? e = some o ∧ o.cls = .type "StopIteration") → E (.ref e) { s with heap := h' }) :
    wpAny (model prog w) A (Builtin.SmallTypes.nextOf (.ref it)) Q E s := by
  obtain ⟨o, ho, hc, hd⟩ := id hit
  obtain ⟨ol, hol, _, nl, hdl⟩ := ht
  unfold Builtin.SmallTypes.nextOf
  refine wpAny_bind (wpAny_callSpecial?_slot (name := Str.ofString "__next__") hit.typeIs PySem.F.slot_tuple_iterator_next
    (wpAny_call_entry PySem.F.slot_tuple_iterator_next hit.typeIs PySem.F.entry_tuple_iterator_next ?_ (PySem.F.args_tuple_iterator_next_1 _)))
  show wpAny _ _ (field (.ref it) 0 >>= _) _ _ s
  refine wpAny_bind (wpAny_field ho hd (x := .ref t) rfl ?_)
  show wpAny _ _ (if (Value.ref t == Value.none) = true then _ else _) _ _ s
  rw [if_neg (show ¬ ((Value.ref t == Value.none) = true) from Bool.false_ne_true)]
  show wpAny _ _ (field (.ref it) 1 >>= _) _ _ s
  refine wpAny_bind (wpAny_field ho hd (x := .int i 0) rfl ?_)
  show wpAny _ _ (seqItems? (.ref t) >>= _) _ _ s
  refine wpAny_bind (wpAny_seqItems hol hdl ?_)
  simp only [Int.toNat_natCast, hx]
  refine wpAny_bind (wpAny_rule (wpAny_bind (wpAny_setField ho hd (by simp) ?_)))
  show wpAny _ _ (newExc (.type "StopIteration") [] >>= _) _ _ _
  refine wpAny_bind ?_
  simp only [newExc, newTuple]
  refine wpAny_bind (wpAny_newObj_type ?_ (by size_fits))
  refine wpAny_bind (m := firstArgMember _ _) (wpAny_of_eq (a := Value.none) (by first | rfl | (simp only [firstArgMember]; rfl)) ?_)
  refine wpAny_newObj_type ?_ (by size_fits)
  simp only [raiseNew]
  refine wpAny_bind (wpAny_handled ?_)
  first | rw [show A.in1.handled = none from hh] | rw [hh]
  refine wpAny_bind (wpAny_pure (wpAny_throw ?_))
  exact hE _ _ (((Heap.SameBut.update ..).extBut.push _).push _) ⟨_, Heap.get?_push_size _ rfl, rfl⟩

theorem IsListIter_push {h : Heap} {i l : Addr} {k : Nat} {o : Obj} (x : h.IsListIter i l k) : (h.push o).IsListIter i l k := let ⟨o', e, r⟩ := x; ⟨o', Heap.get?_push_of_some _ e, r⟩
/-- a zip that has handed out a -/
abbrev ZipB (h : Heap) (z TI TO : Addr) (f0 : Value) (b : Bool) : Prop :=
  h.get? z = some { cls := .type "zip", dict := none, data := .fields #[f0, .bool b, .bool false, .ref TI, .ref TO], slots := #[] }

/-- the first pair of a list and a tuple -/
theorem zlt_first {z TI TO i1 i2 l1 l2 : Addr} {k1 k2 : Nat} {xs ys : Array Value} {x y a b : Value} {Q : Value → Shared → Prop} (D : ZipApart z TI TO i1 i2 l1 l2)
    (hz : IsZip s.heap z TI TO .none) (hTI : IsPair s.heap TI (.ref i1) (.ref i2)) (hTO : IsPair s.heap TO a b)
    (h1 : s.heap.IsListIter i1 l1 k1) (h2 : s.heap.IsTupleIter i2 l2 k2) (hl1 : s.heap.IsList l1 xs) (hl2 : s.heap.IsTuple l2 ys) (hx : xs[k1]? = some x) (hy : ys[k2]? = some y)
    (hQ : ∀ h', ZipB h' z TI TO (rawInt s.heap.objs.size) false → h'.IsListIter i1 l1 (k1 + 1) → h'.IsTupleIter i2 l2 (k2 + 1) → IsPair h' s.heap.objs.size x y → h'.objs.size = s.heap.objs.size + 1 →
      (∀ c o, c ≠ z → c ≠ TO → c ≠ i1 → c ≠ i2 → s.heap.get? c = some o → h'.get? c = some o) → Q (.ref s.heap.objs.size) { s with heap := h' }) :
    wpAny (model prog w) A (Builtin.«zip.__next__» ⟨[.ref z], []⟩) (fun fin s' => ∃ v, fin = .done (.ret v) ∧ Q v s') E s := by
  show wpAny _ _ (field (.ref z) 2 >>= _) _ _ _
  refine wpAny_bind (wpAny_field hz rfl (x := .bool false) rfl ?_)
  show wpAny _ _ (field (.ref z) 3 >>= _) _ _ _
  refine wpAny_bind (wpAny_field hz rfl (x := .ref TI) rfl ?_)
  refine wpAny_bind (wpAny_seqItems hTI rfl ?_)
  show wpAny _ _ (Builtin.SmallTypes.ownedTupleIsFree (.ref z) >>= _) _ _ _
  refine wpAny_bind ?_
  unfold Builtin.SmallTypes.ownedTupleIsFree
  refine wpAny_bind (wpAny_field hz rfl (x := .none) rfl (wpAny_pure ?_))
  simp only [if_true]
  refine wpAny_bind (wpAny_rule ?_)
  refine wpAny_bind (wpAny_field hz rfl (x := .ref TO) rfl ?_)
  refine wpAny_bind (wpAny_setField_rec hz (by simp) fun h₁ hz₁ hs₁ => ?_)
  replace hz₁ : IsZip h₁ z TI TO .ellipsis := hz₁
  refine wpAny_bind ?_
  simp only [List.zipIdx_cons, List.zipIdx_nil, List.forIn_cons, List.forIn_nil]
  refine wpAny_bind (wpAny_bind (wpAny_onRaise ?_))
  show wpAny _ _ (Builtin.SmallTypes.nextOf (.ref i1) >>= _) _ _ _
  refine wpAny_bind (wpAny_nextOf_list_item (h1.extBut hs₁.extBut D.i1z) (hl1.extBut hs₁.extBut D.l1z) hx fun h₂ h1₂ hs₂ => wpAny_pure ?_)
  have hTO₂ : IsPair h₂ TO a b := hs₂.extBut _ _ D.TOi1 (hs₁.extBut _ _ D.TOz hTO)
  refine wpAny_bind (wpAny_seqItems hTO₂ rfl ?_)
  refine wpAny_bind (wpAny_updateSeq_pair hTO₂ fun h₃ hTO₃ hs₃ => ?_)
  replace hTO₃ : IsPair h₃ TO x b := hTO₃
  refine wpAny_bind (wpAny_letGo (wpAny_pure ?_))
  refine wpAny_bind (wpAny_bind (wpAny_onRaise ?_))
  show wpAny _ _ (Builtin.SmallTypes.nextOf (.ref i2) >>= _) _ _ _
  refine wpAny_bind (nextOf_tuple_item (((h2.extBut hs₁.extBut D.i2z).extBut hs₂.extBut D.i12.symm).extBut hs₃.extBut D.TOi2.symm)
    (((hl2.extBut hs₁.extBut D.l2z).extBut hs₂.extBut D.l2i1).extBut hs₃.extBut D.l2TO) hy fun h₄ h2₄ hs₄ => wpAny_pure ?_)
  have hTO₄ : IsPair h₄ TO x b := hs₄.extBut _ _ D.TOi2 hTO₃
  refine wpAny_bind (wpAny_seqItems hTO₄ rfl ?_)
  refine wpAny_bind (wpAny_updateSeq_pair hTO₄ fun h₅ hTO₅ hs₅ => ?_)
  replace hTO₅ : IsPair h₅ TO x y := hTO₅
  refine wpAny_bind (wpAny_letGo (wpAny_pure (wpAny_pure ?_)))
  refine wpAny_bind (wpAny_seqItems hTO₅ rfl ?_)
  refine wpAny_bind (wpAny_newTuple ?_)
  have hsz : h₅.objs.size = s.heap.objs.size := by rw [hs₅.1, hs₄.1, hs₃.1, hs₂.1, hs₁.1]
  have hz₅ : IsZip h₅ z TI TO .ellipsis := hs₅.extBut _ _ D.TOz.symm (hs₄.extBut _ _ D.i2z.symm (hs₃.extBut _ _ D.TOz.symm (hs₂.extBut _ _ D.i1z.symm hz₁)))
  have hk₅ : ∀ c o, c ≠ z → c ≠ TO → c ≠ i1 → c ≠ i2 → s.heap.get? c = some o → h₅.get? c = some o := fun c o c1 c2 c3 c4 e =>
    hs₅.extBut _ _ c2 (hs₄.extBut _ _ c4 (hs₃.extBut _ _ c2 (hs₂.extBut _ _ c3 (hs₁.extBut _ _ c1 e))))
  have h1₅ : h₅.IsListIter i1 l1 (k1 + 1) := ((h1₂.extBut hs₃.extBut D.TOi1.symm).extBut hs₄.extBut D.i12).extBut hs₅.extBut D.TOi1.symm
  have h2₅ : h₅.IsTupleIter i2 l2 (k2 + 1) := h2₄.extBut hs₅.extBut D.TOi2.symm
  have hzlt : z < h₅.objs.size := Heap.lt_size hz₅
  show wpAny _ _ (Builtin.SmallTypes.ownedTupleHandOut (.ref z) (.ref h₅.objs.size) >>= _) _ _ _
  refine wpAny_bind ?_
  unfold Builtin.SmallTypes.ownedTupleHandOut
  have hz₆ : IsZip (h₅.push { cls := .type "tuple", data := .seq #[x, y] }) z TI TO .ellipsis := Heap.get?_push_of_some _ hz₅
  refine wpAny_bind (wpAny_setField_rec hz₆ (by simp) fun h₇ hz₇ hs₇ => ?_)
  replace hz₇ : IsZip h₇ z TI TO (rawInt h₅.objs.size) := hz₇
  refine wpAny_setField_rec hz₇ (by simp) fun h₈ hz₈ hs₈ => ?_
  replace hz₈ : IsZip h₈ z TI TO (rawInt h₅.objs.size) := hz₈
  have up : ∀ c o, c ≠ z → h₅.get? c = some o → h₈.get? c = some o := fun c o c1 e => hs₈.extBut _ _ c1 (hs₇.extBut _ _ c1 (Heap.get?_push_of_some _ e))
  have hT₈ : IsPair h₈ h₅.objs.size x y := hs₈.extBut _ _ (Nat.ne_of_gt hzlt) (hs₇.extBut _ _ (Nat.ne_of_gt hzlt) (Heap.get?_push_size _ rfl))
  have hz8 : h₈.objs.size = h₅.objs.size + 1 := by rw [hs₈.1, hs₇.1, Heap.size_push]
  rw [hsz] at hz₈ hT₈ hz8
  refine wpAny_pure ⟨_, rfl, ?_⟩
  show Q (.ref h₅.objs.size) _
  rw [hsz]
  exact hQ h₈ hz₈ (h1₅.at fun o e => up _ o D.i1z e) (let ⟨o, e, r⟩ := h2₅; ⟨o, up _ o D.i2z e, r⟩) hT₈ hz8 fun c o c1 c2 c3 c4 e => up c o c1 (hk₅ c o c1 c2 c3 c4 e)

theorem zlt_alive {z TI TO a : Addr} {b : Bool} {oa : Obj} {Q : Bool → Shared → Prop} (hz : ZipB s.heap z TI TO (rawInt a) b) (ha : s.heap.get? a = some oa)
    (hQ : ∀ h', ZipB h' z TI TO (rawInt a) true → Heap.SameBut z s.heap h' → Q false { s with heap := h' }) :
    wpAny (model prog w) A (Builtin.SmallTypes.ownedTupleIsFree (.ref z)) Q E s := by
  unfold Builtin.SmallTypes.ownedTupleIsFree
  refine wpAny_bind (wpAny_field hz rfl (x := rawInt a) rfl ?_)
  show wpAny _ _ (loadIfAlive ((a : Int).toNat) >>= _) _ _ _
  rw [Int.toNat_natCast]
  refine wpAny_bind (kdx_alive ha ?_)
  simp only [Option.isNone_some, Bool.false_eq_true, if_false]
  refine wpAny_bind (wpAny_field hz rfl (x := .bool b) rfl ?_)
  cases b with
  | true =>
    rw [if_neg (show ¬ ((Value.bool true != Value.bool true) = true) from Bool.false_ne_true)]
    exact wpAny_pure (hQ _ hz (Heap.SameBut.refl _ _))
  | false =>
    rw [if_pos (show (Value.bool false != Value.bool true) = true from rfl)]
    refine wpAny_bind (wpAny_setField_rec hz (by simp) fun h₃ he₃ hs₃ => ?_)
    exact wpAny_pure (hQ h₃ he₃ hs₃)

/-- a further pair, the one handed out still held -/
theorem zlt_next {z TI TO i1 i2 l1 l2 ad : Addr} {k1 k2 : Nat} {xs ys : Array Value} {x y : Value} {bb : Bool} {oa : Obj} {Q : Value → Shared → Prop} (D : ZipApart z TI TO i1 i2 l1 l2)
    (hz : ZipB s.heap z TI TO (rawInt ad) bb) (ha : s.heap.get? ad = some oa) (hTI : IsPair s.heap TI (.ref i1) (.ref i2))
    (h1 : s.heap.IsListIter i1 l1 k1) (h2 : s.heap.IsTupleIter i2 l2 k2) (hl1 : s.heap.IsList l1 xs) (hl2 : s.heap.IsTuple l2 ys) (hx : xs[k1]? = some x) (hy : ys[k2]? = some y)
    (hQ : ∀ h', ZipB h' z TI TO (rawInt ad) true → h'.IsListIter i1 l1 (k1 + 1) → h'.IsTupleIter i2 l2 (k2 + 1) → IsPair h' s.heap.objs.size x y → h'.objs.size = s.heap.objs.size + 1 →
      (∀ c o, c ≠ z → c ≠ i1 → c ≠ i2 → s.heap.get? c = some o → h'.get? c = some o) → Q (.ref s.heap.objs.size) { s with heap := h' }) :
    wpAny (model prog w) A (Builtin.«zip.__next__» ⟨[.ref z], []⟩) (fun fin s' => ∃ v, fin = .done (.ret v) ∧ Q v s') E s := by
  show wpAny _ _ (field (.ref z) 2 >>= _) _ _ _
  refine wpAny_bind (wpAny_field hz rfl (x := .bool false) rfl ?_)
  show wpAny _ _ (field (.ref z) 3 >>= _) _ _ _
  refine wpAny_bind (wpAny_field hz rfl (x := .ref TI) rfl ?_)
  refine wpAny_bind (wpAny_seqItems hTI rfl ?_)
  show wpAny _ _ (Builtin.SmallTypes.ownedTupleIsFree (.ref z) >>= _) _ _ _
  refine wpAny_bind (zlt_alive hz ha fun h₁ hz₁ hs₁ => ?_)
  simp only [Bool.false_eq_true, if_false]
  refine wpAny_bind ?_
  simp only [List.forIn_toArray, List.forIn_cons, List.forIn_nil]
  refine wpAny_bind (wpAny_bind (wpAny_holding ?_))
  show wpAny _ _ (Builtin.SmallTypes.nextOf (.ref i1) >>= _) _ _ _
  refine wpAny_bind (wpAny_nextOf_list_item (h1.extBut hs₁.extBut D.i1z) (hl1.extBut hs₁.extBut D.l1z) hx fun h₂ h1₂ hs₂ => wpAny_pure ?_)
  refine wpAny_pure ?_
  refine wpAny_bind (wpAny_bind (wpAny_holding ?_))
  show wpAny _ _ (Builtin.SmallTypes.nextOf (.ref i2) >>= _) _ _ _
  refine wpAny_bind (nextOf_tuple_item ((h2.extBut hs₁.extBut D.i2z).extBut hs₂.extBut D.i12.symm)
    ((hl2.extBut hs₁.extBut D.l2z).extBut hs₂.extBut D.l2i1) hy fun h₄ h2₄ hs₄ => wpAny_pure ?_)
  refine wpAny_pure (wpAny_pure ?_)
  show wpAny _ _ (newTuple [x, y] >>= _) _ _ _
  refine wpAny_bind (wpAny_newTuple ?_)
  have hsz : h₄.objs.size = s.heap.objs.size := by rw [hs₄.1, hs₂.1, hs₁.1]
  have up : ∀ c o, c ≠ z → c ≠ i1 → c ≠ i2 → s.heap.get? c = some o → (h₄.push { cls := .type "tuple", data := .seq #[x, y] }).get? c = some o := fun c o c1 c2 c3 e =>
    Heap.get?_push_of_some _ (hs₄.extBut _ _ c3 (hs₂.extBut _ _ c2 (hs₁.extBut _ _ c1 e)))
  refine wpAny_pure ⟨_, rfl, ?_⟩
  have q := hQ (h₄.push { cls := .type "tuple", data := .seq #[x, y] }) (Heap.get?_push_of_some _ (hs₄.extBut _ _ D.i2z.symm (hs₂.extBut _ _ D.i1z.symm hz₁))) (IsListIter_push (h1₂.extBut hs₄.extBut D.i12))
    (let ⟨o, e, r⟩ := h2₄; ⟨o, Heap.get?_push_of_some _ e, r⟩) (hsz ▸ Heap.get?_push_size _ rfl) (by rw [Heap.size_push, hsz]) up
  show Q (.ref h₄.objs.size) _
  rw [hsz]
  exact q

/-- the end, the pair handed out still held -/
theorem zlt_end {z TI TO i1 i2 l1 l2 ad : Addr} {k1 k2 : Nat} {xs ys : Array Value} {bb : Bool} {oa : Obj} {Q : Fin → Shared → Prop} (hh : A.handled = none) (D : ZipApart z TI TO i1 i2 l1 l2)
    (hz : ZipB s.heap z TI TO (rawInt ad) bb) (ha : s.heap.get? ad = some oa) (hTI : IsPair s.heap TI (.ref i1) (.ref i2))
    (h1 : s.heap.IsListIter i1 l1 k1) (h2 : s.heap.IsTupleIter i2 l2 k2) (hl1 : s.heap.IsList l1 xs) (hl2 : s.heap.IsTuple l2 ys) (hend : xs[k1]? = none ∨ ys[k2]? = none)
    (hE : ∀ h' e, (∀ c o, c ≠ z → c ≠ i1 → c ≠ i2 → s.heap.get? c = some o → h'.get? c = some o) → (∃ o, h'.get? e = some o ∧ o.cls = .type "StopIteration") → E (.ref e) { s with heap := h' }) :
    wpAny (model prog w) A (Builtin.«zip.__next__» ⟨[.ref z], []⟩) Q E s := by
  show wpAny _ _ (field (.ref z) 2 >>= _) _ _ _
  refine wpAny_bind (wpAny_field hz rfl (x := .bool false) rfl ?_)
  show wpAny _ _ (field (.ref z) 3 >>= _) _ _ _
  refine wpAny_bind (wpAny_field hz rfl (x := .ref TI) rfl ?_)
  refine wpAny_bind (wpAny_seqItems hTI rfl ?_)
  show wpAny _ _ (Builtin.SmallTypes.ownedTupleIsFree (.ref z) >>= _) _ _ _
  refine wpAny_bind (zlt_alive hz ha fun h₁ hz₁ hs₁ => ?_)
  simp only [Bool.false_eq_true, if_false]
  refine wpAny_bind ?_
  simp only [List.forIn_toArray, List.forIn_cons, List.forIn_nil]
  refine wpAny_bind (wpAny_bind (wpAny_holding ?_))
  show wpAny _ _ (Builtin.SmallTypes.nextOf (.ref i1) >>= _) _ _ _
  cases hx : xs[k1]? with
  | none =>
    refine wpAny_bind (wpAny_nextOf_list_end hh (h1.extBut hs₁.extBut D.i1z) (hl1.extBut hs₁.extBut D.l1z) hx fun h₂ e hs₂ he => ?_)
    exact hE h₂ e (fun c o c1 c2 _ q => hs₂ _ _ c2 (hs₁.extBut _ _ c1 q)) he
  | some x =>
    have hy : ys[k2]? = none := by rcases hend with h | h; rw [hx] at h; cases h; exact h
    refine wpAny_bind (wpAny_nextOf_list_item (h1.extBut hs₁.extBut D.i1z) (hl1.extBut hs₁.extBut D.l1z) hx fun h₂ h1₂ hs₂ => wpAny_pure ?_)
    refine wpAny_pure ?_
    refine wpAny_bind (wpAny_bind (wpAny_holding ?_))
    show wpAny _ _ (Builtin.SmallTypes.nextOf (.ref i2) >>= _) _ _ _
    refine wpAny_bind (nextOf_tuple_end hh ((h2.extBut hs₁.extBut D.i2z).extBut hs₂.extBut D.i12.symm)
      ((hl2.extBut hs₁.extBut D.l2z).extBut hs₂.extBut D.l2i1) hy fun h₄ e hs₄ he => ?_)
    exact hE h₄ e (fun c o c1 c2 c3 q => hs₄ _ _ c3 (hs₂.extBut _ _ c2 (hs₁.extBut _ _ c1 q))) he

/-- where a zip of a list and a tuple stands -/
structure ZltSt (h : Heap) (z TI TO i1 i2 l1 l2 : Addr) (xs ys : Array Value) (k : Nat) : Prop where
  it : IsPair h TI (.ref i1) (.ref i2)
  h1 : h.IsListIter i1 l1 k
  h2 : h.IsTupleIter i2 l2 k
  l : h.IsList l1 xs
  t : h.IsTuple l2 ys
theorem ZltSt.move {h h' : Heap} {z TI TO i1 i2 l1 l2 : Addr} {xs ys : Array Value} {k : Nat} (x : ZltSt h z TI TO i1 i2 l1 l2 xs ys k) (hk : ∀ c o, c ∈ [TI, i1, i2, l1, l2] → h.get? c = some o → h'.get? c = some o) : ZltSt h' z TI TO i1 i2 l1 l2 xs ys k :=
  ⟨hk _ _ (by simp) x.it, (let ⟨o, e, r⟩ := x.h1; ⟨o, hk _ _ (by simp) e, r⟩), (let ⟨o, e, r⟩ := x.h2; ⟨o, hk _ _ (by simp) e, r⟩), (let ⟨o, e, r⟩ := x.l; ⟨o, hk _ _ (by simp) e, r⟩), (let ⟨o, e, r⟩ := x.t; ⟨o, hk _ _ (by simp) e, r⟩)⟩
theorem ZltSt.next {h h' : Heap} {z TI TO i1 i2 l1 l2 : Addr} {xs ys : Array Value} {k : Nat} (D : ZipApart z TI TO i1 i2 l1 l2) (x : ZltSt h z TI TO i1 i2 l1 l2 xs ys k) (a : h'.IsListIter i1 l1 (k + 1)) (b : h'.IsTupleIter i2 l2 (k + 1))
    (hk : ∀ c o, c ≠ z → c ≠ TO → c ≠ i1 → c ≠ i2 → h.get? c = some o → h'.get? c = some o) : ZltSt h' z TI TO i1 i2 l1 l2 xs ys (k + 1) :=
  ⟨hk _ _ D.TIz D.TITO D.TIi1 D.TIi2 x.it, a, b, (let ⟨o, e, r⟩ := x.l; ⟨o, hk _ _ D.l1z D.l1TO D.l1i1 D.l1i2 e, r⟩), (let ⟨o, e, r⟩ := x.t; ⟨o, hk _ _ D.l2z D.l2TO D.l2i1 D.l2i2 e, r⟩)⟩

theorem zlt_pyFirst {z TI TO i1 i2 l1 l2 : Addr} {k : Nat} {xs ys : Array Value} {x y a b : Value} {Q : Option Value → Shared → Prop} (D : ZipApart z TI TO i1 i2 l1 l2)
    (hz : IsZip s.heap z TI TO .none) (hTO : IsPair s.heap TO a b) (S : ZltSt s.heap z TI TO i1 i2 l1 l2 xs ys k) (hx : xs[k]? = some x) (hy : ys[k]? = some y)
    (hQ : ∀ h', ZipB h' z TI TO (rawInt s.heap.objs.size) false → ZltSt h' z TI TO i1 i2 l1 l2 xs ys (k + 1) → IsPair h' s.heap.objs.size x y → h'.objs.size = s.heap.objs.size + 1 →
      (∀ c o, c ≠ z → c ≠ TO → c ≠ i1 → c ≠ i2 → s.heap.get? c = some o → h'.get? c = some o) → Q (some (.ref s.heap.objs.size)) { s with heap := h' }) :
    wpAny (model prog w) A (pyNext (.ref z)) Q E s := by
  have hT : s.TypeIs (.ref z) "zip" := ⟨_, hz, rfl⟩
  unfold pyNext
  exact wpAny_bind (wpAny_attempt (wpAny_callSpecial?_slot (name := Str.ofString "__next__") hT PySem.F.slot_zip_next
    (wpAny_call_entry PySem.F.slot_zip_next hT PySem.F.entry_zip_next
      (zlt_first D hz S.it hTO S.h1 S.h2 S.l S.t hx hy fun h' a1 a3 a4 a5 a6 a7 => wpAny_pure (hQ h' a1 (S.next D a3 a4 a7) a5 a6 a7)) (PySem.F.args_zip_next_1 _))))
theorem zlt_pyMore {z TI TO i1 i2 l1 l2 ad : Addr} {k : Nat} {xs ys : Array Value} {x y : Value} {bb : Bool} {oa : Obj} {Q : Option Value → Shared → Prop} (D : ZipApart z TI TO i1 i2 l1 l2)
    (hz : ZipB s.heap z TI TO (rawInt ad) bb) (ha : s.heap.get? ad = some oa) (S : ZltSt s.heap z TI TO i1 i2 l1 l2 xs ys k) (hx : xs[k]? = some x) (hy : ys[k]? = some y)
    (hQ : ∀ h', ZipB h' z TI TO (rawInt ad) true → ZltSt h' z TI TO i1 i2 l1 l2 xs ys (k + 1) → IsPair h' s.heap.objs.size x y → h'.objs.size = s.heap.objs.size + 1 →
      (∀ c o, c ≠ z → c ≠ TO → c ≠ i1 → c ≠ i2 → s.heap.get? c = some o → h'.get? c = some o) → Q (some (.ref s.heap.objs.size)) { s with heap := h' }) :
    wpAny (model prog w) A (pyNext (.ref z)) Q E s := by
  have hT : s.TypeIs (.ref z) "zip" := ⟨_, hz, rfl⟩
  unfold pyNext
  exact wpAny_bind (wpAny_attempt (wpAny_callSpecial?_slot (name := Str.ofString "__next__") hT PySem.F.slot_zip_next
    (wpAny_call_entry PySem.F.slot_zip_next hT PySem.F.entry_zip_next
      (zlt_next D hz ha S.it S.h1 S.h2 S.l S.t hx hy fun h' a1 a3 a4 a5 a6 a7 => wpAny_pure (hQ h' a1 (S.next D a3 a4 fun c o c1 _ c3 c4 e => a7 c o c1 c3 c4 e) a5 a6 fun c o c1 _ c3 c4 e => a7 c o c1 c3 c4 e)) (PySem.F.args_zip_next_1 _))))
theorem zlt_pyEnd {z TI TO i1 i2 l1 l2 ad : Addr} {k : Nat} {xs ys : Array Value} {bb : Bool} {oa : Obj} {Q : Option Value → Shared → Prop} (hh : A.handled = none) (D : ZipApart z TI TO i1 i2 l1 l2)
    (hz : ZipB s.heap z TI TO (rawInt ad) bb) (ha : s.heap.get? ad = some oa) (S : ZltSt s.heap z TI TO i1 i2 l1 l2 xs ys k) (hend : xs[k]? = none ∨ ys[k]? = none)
    (hQ : ∀ h', (∀ c o, c ≠ z → c ≠ TO → c ≠ i1 → c ≠ i2 → s.heap.get? c = some o → h'.get? c = some o) → Q none { s with heap := h' }) :
    wpAny (model prog w) A (pyNext (.ref z)) Q E s := by
  have hT : s.TypeIs (.ref z) "zip" := ⟨_, hz, rfl⟩
  unfold pyNext
  refine wpAny_bind (wpAny_attempt (wpAny_callSpecial?_slot (name := Str.ofString "__next__") hT PySem.F.slot_zip_next
    (wpAny_call_entry PySem.F.slot_zip_next hT PySem.F.entry_zip_next (zlt_end hh D hz ha S.it S.h1 S.h2 S.l S.t hend fun h' e hk he => ?_) (PySem.F.args_zip_next_1 _))))
  obtain ⟨o, ho, hc⟩ := he
  refine wpAny_bind (wpAny_isInstance (T := "StopIteration") (b := true) ⟨o, ho, hc⟩ isSubtype_stop ?_)
  exact wpAny_pure (hQ _ fun c o c1 _ c3 c4 e => hk c o c1 c3 c4 e)

theorem ext_more {S I : Addr} {acc : Array Value} {c : Nat} {res : Value} {R : Result → Shared → Prop} (hn : acc.size + 1 ≤ sizeLine)
    (h : wpAny (model prog w) A.in1 (pyNext (.ref I)) (fun v s' => ∃ x, v = some x ∧ s'.heap.get? S = some { cls := .type "list", dict := none, data := .seq acc c, slots := #[] } ∧
      ∀ (hp : Heap) c', (∀ b o, b ≠ S → s'.heap.get? b = some o → hp.get? b = some o) → hp.objs.size = s'.heap.objs.size → hp.get? S = some { cls := .type "list", dict := none, data := .seq (acc.push x) c', slots := #[] } →
        codeAny (model prog w) A (.builtin "list.extend.loop" ⟨[.ref S, .ref I, res], []⟩) R { s' with heap := hp }) (fun e s' => R (.error e) s') s) :
    codeAny (model prog w) A (.builtin "list.extend.loop" ⟨[.ref S, .ref I, res], []⟩) R s := by
  refine codeAny_builtin PySem.F.entry_extend_loop ?_
  rw [Around.under_plainId PySem.F.plain_extend_loop _]
  show wpAny _ A.in1 (pyNext (.ref I) >>= _) _ _ _
  refine wpAny_bind (wpAny_mono h (fun v s' hv => ?_) fun _ _ e => e)
  obtain ⟨x, rfl, hS, k⟩ := hv
  show wpAny _ A.in1 (updateSeq S (·.push x) >>= _) _ _ _
  refine wpAny_bind ?_
  refine wpAny_updateSeq hS rfl (wpAny_pure ⟨plainId_quiet PySem.F.plain_extend_loop _, k _ _ (fun b o hb e => (Heap.get?_update_other _ _ (Ne.symm hb)).trans e) (Heap.size_after_update ..) (Heap.get?_update_self _ hS rfl)⟩) (by omega) (by show (acc.push x).size ≤ sizeLine + 1; rw [Array.size_push]; omega)
theorem ext_done {S I : Addr} {res : Value} {R : Result → Shared → Prop}
    (h : wpAny (model prog w) A.in1 (pyNext (.ref I)) (fun v s' => v = none ∧ R (.ok (.ret res)) s') (fun e s' => R (.error e) s') s) :
    codeAny (model prog w) A (.builtin "list.extend.loop" ⟨[.ref S, .ref I, res], []⟩) R s := by
  refine codeAny_builtin PySem.F.entry_extend_loop ?_
  rw [Around.under_plainId PySem.F.plain_extend_loop _]
  show wpAny _ A.in1 (pyNext (.ref I) >>= _) _ _ _
  refine wpAny_bind (wpAny_mono h (fun v s' hv => ?_) fun _ _ e => e)
  obtain ⟨rfl, hR⟩ := hv
  exact wpAny_pure hR

theorem zip_no_len : typeLookup (.type "zip") "__len__" = pure none := by rw [typeLookup_type, builtinLookup_eq_fast]; kernel_rfl
theorem zip_no_hint : typeLookup (.type "zip") "__length_hint__" = pure none := by rw [typeLookup_type, builtinLookup_eq_fast]; kernel_rfl

/-- a zip is gathered: its loop said by the caller -/
theorem zlt_collect {z TI TO : Addr} {f0 : Value} {Q : List Value → Shared → Prop} (hz : IsZip s.heap z TI TO f0)
    (loop : ∀ (hp : Heap) (c : Nat) (R : Result → Shared → Prop), (∀ b o, b ≠ s.heap.objs.size → s.heap.get? b = some o → hp.get? b = some o) → hp.objs.size = s.heap.objs.size + 1 →
      hp.get? s.heap.objs.size = some { cls := .type "list", dict := none, data := .seq #[] c, slots := #[] } →
      (∀ s' acc c', s'.heap.get? s.heap.objs.size = some { cls := .type "list", dict := none, data := .seq acc c', slots := #[] } → Q acc.toList s' → R (.ok (.ret (.ref s.heap.objs.size))) s') →
      codeAny (model prog w) A (.builtin "list.extend.loop" ⟨[.ref s.heap.objs.size, .ref z, .ref s.heap.objs.size], []⟩) R { s with heap := hp }) : wpAny (model prog w) A (collect (.ref z)) Q E s := by
  have hSI : s.heap.objs.size ≠ z := Nat.ne_of_gt (Heap.lt_size hz)
  unfold collect
  refine wpAny_bind (wpAny_runValue (codeAny_builtin PySem.F.entry_proto_collect ?_))
  rw [Around.under_plainId PySem.F.plain_proto_collect _]
  show wpAny _ A.in1 (newList [] >>= fun l => again (.builtin "list.__iadd__" ⟨[l, .ref z], []⟩)) _ _ s
  refine wpAny_bind (wpAny_newObj_type ?_)
  refine wpAny_pure ⟨plainId_quiet PySem.F.plain_list_iadd _, codeAny_builtin PySem.F.entry_list_iadd ?_⟩
  rw [Around.under_plainId PySem.F.plain_list_iadd _]
  have hz₁ : IsZip (s.heap.push { cls := .type "list", data := .seq ([] : List Value).toArray }) z TI TO f0 := Heap.get?_push_of_some _ hz
  have hT : Shared.TypeIs { s with heap := s.heap.push { cls := .type "list", data := .seq ([] : List Value).toArray } } (.ref z) "zip" := ⟨_, hz₁, rfl⟩
  show wpAny _ A.in1 (Builtin.List.listExtendWith (.ref s.heap.objs.size) (.ref z) (.ref s.heap.objs.size)) _ _ _
  unfold Builtin.List.listExtendWith
  refine wpAny_bind (wpAny_typeOf hT ?_)
  have h1 : Builtin.List.listSameRef (.ref s.heap.objs.size) (.ref z) = false := by simp [Builtin.List.listSameRef, hSI]
  have h2 : (Value.type "zip" == Value.type "list") = false := by decide
  have h3 : (Value.type "zip" == Value.type "tuple") = false := by decide
  simp only [h1, h2, h3, Bool.or_false, Bool.false_eq_true, if_false]
  refine wpAny_bind (wpAny_pyIter_zip hz₁ ?_)
  refine wpAny_bind (wpAny_holding ?_)
  unfold Builtin.List.listLengthHint
  refine wpAny_bind (wpAny_specialOf hT zip_no_len ?_)
  show wpAny _ A.in1 (specialOf (Value.ref z) (Str.ofString "__length_hint__") >>= _) _ _ _
  refine wpAny_bind (wpAny_specialOf hT zip_no_hint ?_)
  refine wpAny_pure ?_
  show wpAny _ A.in1 (rule "list.extend.makes-room" >>= fun _ => Builtin.List.listTouch (.ref s.heap.objs.size) >>= fun _ =>
    again (.builtin "list.extend.loop" ⟨[.ref s.heap.objs.size, .ref z, .ref s.heap.objs.size], []⟩)) _ _ _
  refine wpAny_bind (wpAny_rule ?_)
  have hS₁ : (s.heap.push { cls := .type "list", data := .seq ([] : List Value).toArray }).get? s.heap.objs.size = some { cls := .type "list", data := .seq ([] : List Value).toArray } := Heap.get?_push_size _ rfl
  refine wpAny_bind ?_
  show wpAny _ A.in1 (updateSeq s.heap.objs.size (·.push .none) >>= fun _ => updateSeq s.heap.objs.size (·.pop)) _ _ _
  refine wpAny_bind (wpAny_updateSeq hS₁ rfl ?_)
  have hS₂ := Heap.get?_update_self (Obj.mapSeq (·.push Value.none)) hS₁ rfl
  refine wpAny_updateSeq hS₂ rfl ?_
  have hS₃ := Heap.get?_update_self (Obj.mapSeq (·.pop)) hS₂ rfl
  refine wpAny_pure ⟨plainId_quiet PySem.F.plain_extend_loop _, loop _ _ _ (fun b o hb e => (Heap.get?_update_other _ _ (Ne.symm hb)).trans ((Heap.get?_update_other _ _ (Ne.symm hb)).trans (Heap.get?_push_of_some _ e))) (by rw [Heap.size_after_update, Heap.size_after_update, Heap.size_push]) hS₃ fun s' acc c' hS' hq => ?_⟩
  show wpAny _ A (load s.heap.objs.size >>= _) _ _ s'
  refine wpAny_bind (wpAny_load hS' ?_)
  exact wpAny_pure hq

theorem ZltSt.lts {h : Heap} {z TI TO i1 i2 l1 l2 : Addr} {xs ys : Array Value} {k : Nat} (x : ZltSt h z TI TO i1 i2 l1 l2 xs ys k) : i1 < h.objs.size ∧ i2 < h.objs.size :=
  ⟨let ⟨_, e, _⟩ := x.h1; Heap.lt_size e, let ⟨_, e, _⟩ := x.h2; Heap.lt_size e⟩

theorem zlt_gather1 {z TI TO i1 i2 l1 l2 : Addr} {x x2 y a b : Value} {Q : List Value → Shared → Prop} (hh : A.handled = none) (D : ZipApart z TI TO i1 i2 l1 l2)
    (hz : IsZip s.heap z TI TO .none) (hTO : IsPair s.heap TO a b) (S : ZltSt s.heap z TI TO i1 i2 l1 l2 #[x, x2] #[y] 0)
    (hQ : ∀ h', IsPair h' (s.heap.objs.size + 1) x y → (∀ c o, c ≠ z → c ≠ TO → c ≠ i1 → c ≠ i2 → s.heap.get? c = some o → h'.get? c = some o) → Q [.ref (s.heap.objs.size + 1)] { s with heap := h' }) :
    wpAny (model prog w) A (collect (.ref z)) Q E s := by
  have nz : s.heap.objs.size ≠ z := Nat.ne_of_gt (Heap.lt_size hz)
  have nO : s.heap.objs.size ≠ TO := Nat.ne_of_gt (Heap.lt_size hTO)
  have n1 : s.heap.objs.size ≠ i1 := Nat.ne_of_gt S.lts.1
  have n2 : s.heap.objs.size ≠ i2 := Nat.ne_of_gt S.lts.2
  refine zlt_collect hz fun hp c R keep sz hS fin => ?_
  have up : ∀ c o, s.heap.get? c = some o → hp.get? c = some o := fun c o e => keep c o (Nat.ne_of_lt (Heap.lt_size e)) e
  refine ext_more (acc := #[]) (c := c) (by rw [sizeLine_eq]; decide) (zlt_pyFirst (A := A.in1) D (up _ _ hz) (up _ _ hTO) (S.move fun c o _ e => up c o e) rfl rfl fun h₄ hz₄ S₄ hp₄ sz₄ k₄ => ⟨_, rfl, k₄ _ _ nz nO n1 n2 hS, fun h₅ c5 k5 sz5 hS5 => ?_⟩)
  dsimp only at hz₄ hp₄ sz₄ k₄ sz5 hS5
  have nT : hp.objs.size ≠ s.heap.objs.size := by rw [sz]; exact Nat.succ_ne_self _
  have hT5 : IsPair h₅ hp.objs.size x y := k5 _ _ nT hp₄
  have S5 : ZltSt h₅ z TI TO i1 i2 l1 l2 #[x, x2] #[y] 1 := S₄.move fun c o hc e => k5 c o (fun q => by
    subst q
    simp only [List.mem_cons, List.not_mem_nil, or_false] at hc
    rcases hc with q | q | q | q | q
    · exact absurd (Heap.lt_size S.it) (by rw [← q]; exact Nat.lt_irrefl _)
    · exact n1 q
    · exact n2 q
    · obtain ⟨_, e, _⟩ := S.l; exact absurd (Heap.lt_size e) (by rw [← q]; exact Nat.lt_irrefl _)
    · obtain ⟨_, e, _⟩ := S.t; exact absurd (Heap.lt_size e) (by rw [← q]; exact Nat.lt_irrefl _)) e
  refine ext_done (zlt_pyEnd (A := A.in1) hh D (k5 _ _ nz.symm hz₄) hT5 S5 (.inr rfl) fun h₆ k6 => ⟨rfl, fin _ _ _ (k6 _ _ nz nO n1 n2 hS5) ?_⟩)
  have lz : z < s.heap.objs.size := Heap.lt_size hz
  have lO : TO < s.heap.objs.size := Heap.lt_size hTO
  have big : ∀ {c}, c < s.heap.objs.size → hp.objs.size ≠ c := fun h => by rw [sz]; exact Nat.ne_of_gt (Nat.lt_succ_of_lt h)
  have q := hQ h₆ (sz ▸ k6 _ _ (big lz) (big lO) (big S.lts.1) (big S.lts.2) hT5) fun c o c1 c2 c3 c4 e => k6 _ _ c1 c2 c3 c4 (k5 _ _ (Nat.ne_of_lt (Heap.lt_size e)) (k₄ _ _ c1 c2 c3 c4 (up _ _ e)))
  rw [← sz] at q
  exact q

theorem zlt_gather2 {z TI TO i1 i2 l1 l2 : Addr} {x x2 y y2 a b : Value} {Q : List Value → Shared → Prop} (hh : A.handled = none) (D : ZipApart z TI TO i1 i2 l1 l2)
    (hz : IsZip s.heap z TI TO .none) (hTO : IsPair s.heap TO a b) (S : ZltSt s.heap z TI TO i1 i2 l1 l2 #[x, x2] #[y, y2] 0)
    (hQ : ∀ h', IsPair h' (s.heap.objs.size + 1) x y → IsPair h' (s.heap.objs.size + 2) x2 y2 → (∀ c o, c ≠ z → c ≠ TO → c ≠ i1 → c ≠ i2 → s.heap.get? c = some o → h'.get? c = some o) → Q [.ref (s.heap.objs.size + 1), .ref (s.heap.objs.size + 2)] { s with heap := h' }) :
    wpAny (model prog w) A (collect (.ref z)) Q E s := by
  have nz : s.heap.objs.size ≠ z := Nat.ne_of_gt (Heap.lt_size hz)
  have nO : s.heap.objs.size ≠ TO := Nat.ne_of_gt (Heap.lt_size hTO)
  have n1 : s.heap.objs.size ≠ i1 := Nat.ne_of_gt S.lts.1
  have n2 : s.heap.objs.size ≠ i2 := Nat.ne_of_gt S.lts.2
  have off : ∀ c ∈ [TI, i1, i2, l1, l2], c ≠ s.heap.objs.size := fun c hc q => by
    subst q
    simp only [List.mem_cons, List.not_mem_nil, or_false] at hc
    rcases hc with q | q | q | q | q
    · exact absurd (Heap.lt_size S.it) (by rw [← q]; exact Nat.lt_irrefl _)
    · exact n1 q
    · exact n2 q
    · obtain ⟨_, e, _⟩ := S.l; exact absurd (Heap.lt_size e) (by rw [← q]; exact Nat.lt_irrefl _)
    · obtain ⟨_, e, _⟩ := S.t; exact absurd (Heap.lt_size e) (by rw [← q]; exact Nat.lt_irrefl _)
  refine zlt_collect hz fun hp c R keep sz hS fin => ?_
  have up : ∀ c o, s.heap.get? c = some o → hp.get? c = some o := fun c o e => keep c o (Nat.ne_of_lt (Heap.lt_size e)) e
  refine ext_more (acc := #[]) (c := c) (by rw [sizeLine_eq]; decide) (zlt_pyFirst (A := A.in1) D (up _ _ hz) (up _ _ hTO) (S.move fun c o _ e => up c o e) rfl rfl fun h₄ hz₄ S₄ hp₄ sz₄ k₄ => ⟨_, rfl, k₄ _ _ nz nO n1 n2 hS, fun h₅ c5 k5 sz5 hS5 => ?_⟩)
  dsimp only at hz₄ hp₄ sz₄ k₄ sz5 hS5
  have nT : hp.objs.size ≠ s.heap.objs.size := by rw [sz]; exact Nat.succ_ne_self _
  have lz : z < s.heap.objs.size := Heap.lt_size hz
  have lO : TO < s.heap.objs.size := Heap.lt_size hTO
  have big : ∀ {c}, c < s.heap.objs.size → hp.objs.size ≠ c := fun h => by rw [sz]; exact Nat.ne_of_gt (Nat.lt_succ_of_lt h)
  have hT5 : IsPair h₅ hp.objs.size x y := k5 _ _ nT hp₄
  have S5 : ZltSt h₅ z TI TO i1 i2 l1 l2 #[x, x2] #[y, y2] 1 := S₄.move fun c o hc e => k5 c o (off c hc) e
  have z5 : h₅.objs.size = s.heap.objs.size + 2 := by rw [sz5, sz₄, sz]
  refine ext_more (by rw [sizeLine_eq]; show 2 ≤ 16777216; decide) (zlt_pyMore (A := A.in1) D (k5 _ _ nz.symm hz₄) hT5 S5 rfl rfl fun h₆ hz₆ S₆ hp₆ sz₆ k₆ => ⟨_, rfl, k₆ _ _ nz nO n1 n2 hS5, fun h₇ c7 k7 sz7 hS7 => ?_⟩)
  dsimp only at hz₆ hp₆ sz₆ k₆ sz7 hS7
  have hT7 : IsPair h₇ hp.objs.size x y := k7 _ _ nT (k₆ _ _ (big lz) (big lO) (big S.lts.1) (big S.lts.2) hT5)
  have nT2 : h₅.objs.size ≠ s.heap.objs.size := by rw [z5]; exact Nat.ne_of_gt (Nat.lt_add_of_pos_right (by decide))
  have big2 : ∀ {c}, c < s.heap.objs.size → h₅.objs.size ≠ c := fun h => by rw [z5]; exact Nat.ne_of_gt (Nat.lt_of_lt_of_le h (Nat.le_add_right _ _))
  have hU7 : IsPair h₇ h₅.objs.size x2 y2 := k7 _ _ nT2 hp₆
  have S7 : ZltSt h₇ z TI TO i1 i2 l1 l2 #[x, x2] #[y, y2] 2 := S₆.move fun c o hc e => k7 c o (off c hc) e
  refine ext_done (zlt_pyEnd (A := A.in1) hh D (k7 _ _ nz.symm hz₆) hT7 S7 (.inr rfl) fun h₈ k8 => ⟨rfl, fin _ _ _ (k8 _ _ nz nO n1 n2 hS7) ?_⟩)
  have q := hQ h₈ (sz ▸ k8 _ _ (big lz) (big lO) (big S.lts.1) (big S.lts.2) hT7) (z5 ▸ k8 _ _ (big2 lz) (big2 lO) (big2 S.lts.1) (big2 S.lts.2) hU7) fun c o c1 c2 c3 c4 e => k8 _ _ c1 c2 c3 c4 (k7 _ _ (Nat.ne_of_lt (Heap.lt_size e)) (k₆ _ _ c1 c2 c3 c4 (k5 _ _ (Nat.ne_of_lt (Heap.lt_size e)) (k₄ _ _ c1 c2 c3 c4 (up _ _ e)))))
  rw [← sz, ← z5] at q
  exact q

theorem code_tuple_new_zip {z TI TO : Addr} {f0 : Value} {Q₁ : Value → Shared → Prop} (hz : IsZip s.heap z TI TO f0)
    (g : ∀ (A' : Around) (Q' : List Value → Shared → Prop) (E' : Value → Shared → Prop), A'.handled = A.handled → (∀ s' acc, acc.length ≤ 16384 → Q₁ (.ref s'.heap.objs.size) { s' with heap := s'.heap.push { cls := .type "tuple", data := .seq acc.toArray } } → Q' acc s') → wpAny (model prog w) A' (collect (.ref z)) Q' E' s) :
    codeAny (model prog w) A (.call (.builtin "tuple.__new__") ⟨[.type "tuple", .ref z], []⟩) (wants Q₁ E) s := by
  refine codeAny_of_tree ?_
  show wpAny _ A.in1 (do checkBuiltinCall "tuple.__new__" ⟨[.type "tuple", .ref z], []⟩; again (.builtin "tuple.__new__" ⟨[.type "tuple", .ref z], []⟩)) _ _ s
  refine wpAny_bind (wpAny_of_eq (PySem.F.newCall_tuple_1 _) (wpAny_pure ⟨plainId_quiet PySem.F.plain_tuple_new _, codeAny_builtin PySem.F.entry_tuple_new ?_⟩))
  rw [Around.under_plainId PySem.F.plain_tuple_new _]
  have hsub := sub_tuple_self
  have hinit := init_tuple_lookup
  have hmh := madeHere_tuple
  have hTI : s.TypeIs (.ref z) "zip" := ⟨_, hz, rfl⟩
  wp_walk using wpAny_typeOf hTI, g A.in1 _ _ rfl
  intro s' acc hl hq
  show wpAny _ _ (Builtin.Tuple.tupleExact acc.toArray >>= fun v => ret v) _ _ _
  unfold Builtin.Tuple.tupleExact
  refine wpAny_bind (wpAny_newObj_type ?_ (by show acc.toArray.size ≤ sizeLine; rw [List.size_toArray, sizeLine_eq]; omega))
  exact wpAny_pure hq

theorem call_tuple_zip {z TI TO : Addr} {f0 : Value} {Q : Value → Shared → Prop} (hz : IsZip s.heap z TI TO f0)
    (g : ∀ (A' : Around) (Q' : List Value → Shared → Prop) (E' : Value → Shared → Prop), A'.handled = A.handled → (∀ s' acc, acc.length ≤ 16384 → Q (.ref s'.heap.objs.size) { s' with heap := s'.heap.push { cls := .type "tuple", data := .seq acc.toArray } } → Q' acc s') → wpAny (model prog w) A' (collect (.ref z)) Q' E' s) :
    wpAny (model prog w) A (call (.type "tuple") [.ref z]) Q E s := by
  refine callType_codes (Q₁ := fun obj s₁ => s₁.TypeIs obj "tuple" ∧ Q obj s₁) PySem.F.called_tuple (PySem.F.typeCall_tuple_1 _) PySem.F.entry_object_init
    (code_tuple_new_zip hz fun A' Q' E' hA k => g A' Q' E' hA fun s' acc hl hq => k s' acc hl ⟨⟨_, Heap.get?_push_size _ rfl, rfl⟩, hq⟩) fun obj s₁ h₁ => ?_
  exact ⟨h₁.1, PySem.F.args_object_init_2 obj _, object_init_meets PySem.F.called_tuple.init.lookup PySem.F.called_tuple.made (by decide) prog w A.in1 _ s₁ ⟨h₁.1, rfl, h₁.2⟩⟩
end
noncomputable abbrev zltH2 (h : Heap) (l1 l2 : Addr) : Heap := (zipH1 h l1).push { cls := .type "tuple_iterator", data := .fields #[.ref l2, .int 0 0] }
noncomputable abbrev zltH3 (h : Heap) (l1 l2 : Addr) : Heap := (zltH2 h l1 l2).push { cls := .type "tuple", data := .seq #[.ref h.objs.size, .ref (zipH1 h l1).objs.size] }
noncomputable abbrev zltH4 (h : Heap) (l1 l2 : Addr) : Heap := (zltH3 h l1 l2).push { cls := .type "tuple", data := .seq #[.none, .none] }
noncomputable abbrev zltH5 (h : Heap) (l1 l2 : Addr) : Heap := (zltH4 h l1 l2).push { cls := .type "zip", data := .fields #[.none, .bool false, .bool false, .ref (zltH2 h l1 l2).objs.size, .ref (zltH3 h l1 l2).objs.size] }
theorem meets_zlt_new (l1 l2 : Addr) (xs ys : Array Value) :
    Meets (Builtin.«zip.__new__» ⟨[.type "zip", .ref l1, .ref l2], []⟩) (fun _ R s => s.heap.IsList l1 xs ∧ s.heap.IsTuple l2 ys ∧
      R (.ok (.ret (.ref (zltH4 s.heap l1 l2).objs.size))) { s with heap := zltH5 s.heap l1 l2 }) :=
  .of_wp fun prog w A R s h => by
    obtain ⟨hp, g, d, tk, os⟩ := s; obtain ⟨hl1, hl2, h⟩ := h
    have hsub := sub_zip
    have hL1 : Heap.IsList (Shared.heap ⟨hp, g, d, tk, os⟩) l1 xs := hl1
    have hL2 : Heap.IsTuple (Shared.heap ⟨hp.push { cls := .type "list_iterator", data := .fields #[.ref l1, .int 0 0] }, g, d, tk, os⟩) l2 ys := Heap.IsTuple.push hl2 _
    wp_walk using wpAny_pyIter_list hL1, wpAny_pyIter_tuple hL2
    exact ⟨_, rfl, h⟩
section
variable {prog : Program} {w : World} {A : Around} {E : Value → Shared → Prop} {s : Shared} {h₀ : Heap} {L : Addr} {m : Str → Option Value}
theorem call_zlt {l1 l2 : Addr} {xs ys : Array Value} {Q : Value → Shared → Prop} (hl1 : s.heap.IsList l1 xs) (hl2 : s.heap.IsTuple l2 ys)
    (h : ∀ h', IsZip h' (s.heap.objs.size + 4) (s.heap.objs.size + 2) (s.heap.objs.size + 3) .none → IsPair h' (s.heap.objs.size + 2) (.ref s.heap.objs.size) (.ref (s.heap.objs.size + 1)) →
      IsPair h' (s.heap.objs.size + 3) .none .none → h'.get? s.heap.objs.size = some { cls := .type "list_iterator", data := .fields #[.ref l1, .int 0 0] } → h'.get? (s.heap.objs.size + 1) = some { cls := .type "tuple_iterator", data := .fields #[.ref l2, .int 0 0] } → h'.objs.size = s.heap.objs.size + 5 →
      (∀ c o, s.heap.get? c = some o → h'.get? c = some o) → Q (.ref (s.heap.objs.size + 4)) { s with heap := h' }) :
    wpAny (model prog w) A (call (.type "zip") [.ref l1, .ref l2]) Q E s := by
  refine callType_new PySem.F.called_zip (by decide) (PySem.F.typeCall_zip_2 _ _) (PySem.F.newCall_zip_2 _ _) (fun obj => PySem.F.args_object_init_3 obj _ _) PySem.F.entry_zip_new
    (meets_zlt_new l1 l2 xs ys) ⟨hl1, hl2, ?_⟩
  have z1 : (zipH1 s.heap l1).objs.size = s.heap.objs.size + 1 := Heap.size_push ..
  have z2 : (zltH2 s.heap l1 l2).objs.size = s.heap.objs.size + 2 := by rw [Heap.size_push, z1]
  have z3 : (zltH3 s.heap l1 l2).objs.size = s.heap.objs.size + 3 := by rw [Heap.size_push, z2]
  have z4 : (zltH4 s.heap l1 l2).objs.size = s.heap.objs.size + 4 := by rw [Heap.size_push, z3]
  have z5 : (zltH5 s.heap l1 l2).objs.size = s.heap.objs.size + 5 := by rw [Heap.size_push, z4]
  have g5 : (zltH5 s.heap l1 l2).get? (zltH4 s.heap l1 l2).objs.size = some _ := Heap.get?_push_size _ rfl
  have g4 : (zltH5 s.heap l1 l2).get? (zltH3 s.heap l1 l2).objs.size = some _ := Heap.get?_push_of_some _ (Heap.get?_push_size _ rfl)
  have g3 : (zltH5 s.heap l1 l2).get? (zltH2 s.heap l1 l2).objs.size = some _ := Heap.get?_push_of_some _ (Heap.get?_push_of_some _ (Heap.get?_push_size _ rfl))
  have g2 : (zltH5 s.heap l1 l2).get? (zipH1 s.heap l1).objs.size = some _ := Heap.get?_push_of_some _ (Heap.get?_push_of_some _ (Heap.get?_push_of_some _ (Heap.get?_push_size _ rfl)))
  have g1 : (zltH5 s.heap l1 l2).get? s.heap.objs.size = some _ := Heap.get?_push_of_some _ (Heap.get?_push_of_some _ (Heap.get?_push_of_some _ (Heap.get?_push_of_some _ (Heap.get?_push_size _ rfl))))
  show _ ∧ _
  rw [z2, z3, z4] at g5
  rw [z1, z2] at g3
  rw [z3] at g4
  rw [z1] at g2
  rw [z4]
  exact ⟨⟨_, g5, rfl⟩, h _ g5 g3 g4 g1 g2 z5 fun c o x =>
    Heap.get?_push_of_some _ (Heap.get?_push_of_some _ (Heap.get?_push_of_some _ (Heap.get?_push_of_some _ (Heap.get?_push_of_some _ x))))⟩

noncomputable abbrev itL (l : Addr) : Obj := { cls := .type "list_iterator", data := .fields #[.ref l, .int 0 0] }
noncomputable abbrev itT (l : Addr) : Obj := { cls := .type "tuple_iterator", data := .fields #[.ref l, .int 0 0] }
noncomputable abbrev prO (a b : Value) : Obj := { cls := .type "tuple", data := .seq #[a, b] }
noncomputable abbrev zipO (TI TO : Addr) : Obj := { cls := .type "zip", dict := none, data := .fields #[.none, .bool false, .bool false, .ref TI, .ref TO], slots := #[] }
theorem zlt_new {l1 l2 : Addr} {xs ys : Array Value} {news : List (Addr × Obj)} {Q : Value → Shared → Prop} (F : Fr h₀ L s.heap m) (N : News h₀ L s.heap news) (hl1 : s.heap.IsList l1 xs) (hl2 : IsTup s.heap l2 ys)
    (h : ∀ (D : Addr) h', Fr h₀ L h' m → News h₀ L h' ((D + 4, zipO (D + 2) (D + 3)) :: (D + 3, prO .none .none) :: (D + 2, prO (.ref D) (.ref (D + 1))) :: (D + 1, itT l2) :: (D, itL l1) :: news) → (∀ p ∈ news, p.1 < D) → Q (.ref (D + 4)) { s with heap := h' }) :
    wpAny (model prog w) A (call (.type "zip") [.ref l1, .ref l2]) Q E s := by
  refine call_zlt hl1 hl2 fun h' hz hI hO e1 e2 sz hk => h _ h' (F.keeps hk) (fun p hp => ?_) fun p hp => Heap.lt_size (N p hp).1
  have nw : ∀ k, s.heap.objs.size + k ≠ L ∧ h₀.get? (s.heap.objs.size + k) = none := fun k => ⟨Nat.ne_of_gt (Nat.lt_of_lt_of_le F.ns.lt (Nat.le_add_right _ _)), ktu_new F (Nat.le_add_right _ _)⟩
  rcases List.mem_cons.mp hp with rfl | hp
  · exact ⟨hz, nw 4⟩
  rcases List.mem_cons.mp hp with rfl | hp
  · exact ⟨hO, nw 3⟩
  rcases List.mem_cons.mp hp with rfl | hp
  · exact ⟨hI, nw 2⟩
  rcases List.mem_cons.mp hp with rfl | hp
  · exact ⟨e2, nw 1⟩
  rcases List.mem_cons.mp hp with rfl | hp
  · exact ⟨e1, nw 0⟩
  · exact (N.grown hk) p hp

theorem zlt_fr {h h' : Heap} {z TO i1 i2 : Addr} (F : Fr h₀ L h m) (hz : z ≠ L ∧ h₀.get? z = none) (hO : TO ≠ L ∧ h₀.get? TO = none) (h1 : i1 ≠ L ∧ h₀.get? i1 = none) (h2 : i2 ≠ L ∧ h₀.get? i2 = none)
    (k : ∀ c o, c ≠ z → c ≠ TO → c ≠ i1 → c ≠ i2 → h.get? c = some o → h'.get? c = some o) : Fr h₀ L h' m :=
  have q : ∀ {b c : Addr} {o : Obj}, h₀.get? b = some o → h₀.get? c = none → b ≠ c := fun e n x => by rw [x, n] at e; cases e
  ⟨F.ns.at' fun o e => k L o hz.1.symm hO.1.symm h1.1.symm h2.1.symm e, fun b o e => k b o (q e hz.2) (q e hO.2) (q e h1.2) (q e h2.2) (F.keep b o e), F.above⟩

theorem zlt_tup1 {l1 l2 D : Addr} {x x2 y : Value} {n1 n2 : Nat} {news : List (Addr × Obj)} {Q : Value → Shared → Prop} (hh : A.handled = none) (F : Fr h₀ L s.heap m)
    (N : News h₀ L s.heap ((D + 4, zipO (D + 2) (D + 3)) :: (D + 3, prO .none .none) :: (D + 2, prO (.ref D) (.ref (D + 1))) :: (D + 1, itT l2) :: (D, itL l1) :: news)) (lN : ∀ p ∈ news, p.1 < D)
    (hm1 : (l1, listOf #[x, x2] n1) ∈ news) (hm2 : (l2, ({ cls := .type "tuple", data := .seq #[y] n2 } : Obj)) ∈ news)
    (h : ∀ (T0 T : Addr) h', Fr h₀ L h' m → News h₀ L h' ((T, ({ cls := .type "tuple", data := .seq #[.ref T0] } : Obj)) :: (T0, prO x y) :: news) → (∀ p ∈ news, p.1 < T0) → (∀ p ∈ (T0, prO x y) :: news, p.1 < T) → Q (.ref T) { s with heap := h' }) :
    wpAny (model prog w) A (call (.type "tuple") [.ref (D + 4)]) Q E s := by
  have Nz := N _ (.head _)
  have NO := N _ (.tail _ (.head _))
  have NI := N _ (.tail _ (.tail _ (.head _)))
  have N2 := N _ (.tail _ (.tail _ (.tail _ (.head _))))
  have N1 := N _ (.tail _ (.tail _ (.tail _ (.tail _ (.head _)))))
  have NN : ∀ p ∈ news, _ := fun p hp => N p (.tail _ (.tail _ (.tail _ (.tail _ (.tail _ hp)))))
  have Z := zipApart_new (lN _ hm1) (lN _ hm2)
  have St : ZltSt s.heap (D + 4) (D + 2) (D + 3) D (D + 1) l1 l2 #[x, x2] #[y] 0 := ⟨NI.1, ⟨_, N1.1, rfl, rfl⟩, ⟨_, N2.1, rfl, rfl⟩, ⟨_, (NN _ hm1).1, rfl, _, rfl⟩, ⟨_, (NN _ hm2).1, rfl, _, rfl⟩⟩
  refine call_tuple_zip Nz.1 fun A' Q' E' hA k => zlt_gather1 (hA.trans hh) Z Nz.1 NO.1 St fun h' hp keep => k _ _ (Nat.le_of_ble_eq_true rfl) ?_
  have F' : Fr h₀ L h' m := zlt_fr F Nz.2 NO.2 N1.2 N2.2 keep
  have hDs : D < s.heap.objs.size := Heap.lt_size N1.1
  have N' : News h₀ L h' ((s.heap.objs.size + 1, prO x y) :: news) := fun p hp' => by
    rcases List.mem_cons.mp hp' with rfl | hp'
    · exact ⟨hp, Nat.ne_of_gt (Nat.lt_of_lt_of_le F.ns.lt (Nat.le_add_right _ _)), ktu_new F (Nat.le_add_right _ _)⟩
    · have l := lN p hp'
      exact ⟨keep _ _ (Nat.ne_of_lt (Nat.lt_of_lt_of_le l (Nat.le_add_right _ _))) (Nat.ne_of_lt (Nat.lt_of_lt_of_le l (Nat.le_add_right _ _))) (Nat.ne_of_lt l) (Nat.ne_of_lt (Nat.lt_of_lt_of_le l (Nat.le_add_right _ _))) (NN p hp').1, (NN p hp').2⟩
  exact h _ _ _ (F'.push _) (N'.push F' _) (fun p hp' => Nat.lt_trans (Nat.lt_trans (lN p hp') hDs) (Nat.lt_succ_self _)) fun p hp' => Heap.lt_size (N' p hp').1
theorem zlt_tup2 {l1 l2 D : Addr} {x x2 y y2 : Value} {n1 n2 : Nat} {news : List (Addr × Obj)} {Q : Value → Shared → Prop} (hh : A.handled = none) (F : Fr h₀ L s.heap m)
    (N : News h₀ L s.heap ((D + 4, zipO (D + 2) (D + 3)) :: (D + 3, prO .none .none) :: (D + 2, prO (.ref D) (.ref (D + 1))) :: (D + 1, itT l2) :: (D, itL l1) :: news)) (lN : ∀ p ∈ news, p.1 < D)
    (hm1 : (l1, listOf #[x, x2] n1) ∈ news) (hm2 : (l2, ({ cls := .type "tuple", data := .seq #[y, y2] n2 } : Obj)) ∈ news)
    (h : ∀ (T0 T1 T : Addr) h', Fr h₀ L h' m → News h₀ L h' ((T, ({ cls := .type "tuple", data := .seq #[.ref T0, .ref T1] } : Obj)) :: (T1, prO x2 y2) :: (T0, prO x y) :: news) → (∀ p ∈ news, p.1 < T0) → (∀ p ∈ (T0, prO x y) :: news, p.1 < T1) → (∀ p ∈ (T1, prO x2 y2) :: (T0, prO x y) :: news, p.1 < T) → Q (.ref T) { s with heap := h' }) :
    wpAny (model prog w) A (call (.type "tuple") [.ref (D + 4)]) Q E s := by
  have Nz := N _ (.head _)
  have NO := N _ (.tail _ (.head _))
  have NI := N _ (.tail _ (.tail _ (.head _)))
  have N2 := N _ (.tail _ (.tail _ (.tail _ (.head _))))
  have N1 := N _ (.tail _ (.tail _ (.tail _ (.tail _ (.head _)))))
  have NN : ∀ p ∈ news, _ := fun p hp => N p (.tail _ (.tail _ (.tail _ (.tail _ (.tail _ hp)))))
  have Z := zipApart_new (lN _ hm1) (lN _ hm2)
  have St : ZltSt s.heap (D + 4) (D + 2) (D + 3) D (D + 1) l1 l2 #[x, x2] #[y, y2] 0 := ⟨NI.1, ⟨_, N1.1, rfl, rfl⟩, ⟨_, N2.1, rfl, rfl⟩, ⟨_, (NN _ hm1).1, rfl, _, rfl⟩, ⟨_, (NN _ hm2).1, rfl, _, rfl⟩⟩
  refine call_tuple_zip Nz.1 fun A' Q' E' hA k => zlt_gather2 (hA.trans hh) Z Nz.1 NO.1 St fun h' hp hp2 keep => k _ _ (Nat.le_of_ble_eq_true rfl) ?_
  have F' : Fr h₀ L h' m := zlt_fr F Nz.2 NO.2 N1.2 N2.2 keep
  have hDs : D < s.heap.objs.size := Heap.lt_size N1.1
  have N' : News h₀ L h' ((s.heap.objs.size + 2, prO x2 y2) :: (s.heap.objs.size + 1, prO x y) :: news) := fun p hp' => by
    rcases List.mem_cons.mp hp' with rfl | hp'
    · exact ⟨hp2, Nat.ne_of_gt (Nat.lt_of_lt_of_le F.ns.lt (Nat.le_add_right _ _)), ktu_new F (Nat.le_add_right _ _)⟩
    rcases List.mem_cons.mp hp' with rfl | hp'
    · exact ⟨hp, Nat.ne_of_gt (Nat.lt_of_lt_of_le F.ns.lt (Nat.le_add_right _ _)), ktu_new F (Nat.le_add_right _ _)⟩
    · have l := lN p hp'
      exact ⟨keep _ _ (Nat.ne_of_lt (Nat.lt_of_lt_of_le l (Nat.le_add_right _ _))) (Nat.ne_of_lt (Nat.lt_of_lt_of_le l (Nat.le_add_right _ _))) (Nat.ne_of_lt l) (Nat.ne_of_lt (Nat.lt_of_lt_of_le l (Nat.le_add_right _ _))) (NN p hp').1, (NN p hp').2⟩
  have l0 : ∀ p ∈ news, p.1 < s.heap.objs.size + 1 := fun p hp' => Nat.lt_trans (Nat.lt_trans (lN p hp') hDs) (Nat.lt_succ_self _)
  exact h _ _ _ _ (F'.push _) (N'.push F' _) l0 (fun p hp' => (List.mem_cons.mp hp').elim (fun e => by rw [e]; exact Nat.lt_succ_self _) fun hp' => Nat.lt_trans (l0 p hp') (Nat.lt_succ_self _)) fun p hp' => Heap.lt_size (N' p hp').1
end
end Mine
end

section
open PySem PySem.W PyProof.Rows PySem.Calls
namespace Mine
set_option maxRecDepth 100000
set_option maxHeartbeats 8000000

noncomputable abbrev gone : Obj := { cls := .none, data := .freed }
theorem mask_self (h : Heap) (a : Addr) : (h.update a fun _ => gone).get? a = none := by
  cases e : (h.update a fun _ => gone).get? a with
  | none => rfl
  | some o =>
    obtain ⟨e1, e2⟩ := Heap.get?_some_iff.mp e
    cases h
    simp only [Heap.update, Array.getElem?_modify, if_true] at e1
    cases q : (‹Array Obj›)[a]? with
    | none => rw [q] at e1; cases e1
    | some x => rw [q] at e1; cases e1; cases e2
theorem mask_none (h : Heap) (a b : Addr) (e : h.get? b = none) : (h.update a fun _ => gone).get? b = none := by
  by_cases q : a = b
  · subst q; exact mask_self h a
  · rw [Heap.get?_update_other _ _ q]; exact e
/-- the heap without four objects -/
noncomputable abbrev mask4 (h : Heap) (a b c d : Addr) : Heap := (((h.update a fun _ => gone).update b fun _ => gone).update c fun _ => gone).update d fun _ => gone
theorem mask4_none {h : Heap} {a b c d x : Addr} (hx : x ∈ [a, b, c, d]) : (mask4 h a b c d).get? x = none := by
  simp only [List.mem_cons, List.not_mem_nil, or_false] at hx
  rcases hx with rfl | rfl | rfl | rfl
  · exact mask_none _ _ _ (mask_none _ _ _ (mask_none _ _ _ (mask_self _ _)))
  · exact mask_none _ _ _ (mask_none _ _ _ (mask_self _ _))
  · exact mask_none _ _ _ (mask_self _ _)
  · exact mask_self _ _
theorem mask4_other {h : Heap} {a b c d x : Addr} (hx : x ∉ [a, b, c, d]) : (mask4 h a b c d).get? x = h.get? x := by
  simp only [List.mem_cons, List.not_mem_nil, or_false, not_or] at hx
  rw [Heap.get?_update_other _ _ (Ne.symm hx.2.2.2), Heap.get?_update_other _ _ (Ne.symm hx.2.2.1), Heap.get?_update_other _ _ (Ne.symm hx.2.1), Heap.get?_update_other _ _ (Ne.symm hx.1)]
theorem mask4_size {h : Heap} {a b c d : Addr} : (mask4 h a b c d).objs.size = h.objs.size := by simp only [Heap.size_after_update]
theorem mask4_grows {h : Heap} {a b c d : Addr} : Grows (mask4 h a b c d) h := fun x o e => by
  by_cases q : x ∈ [a, b, c, d]
  · rw [mask4_none q] at e; cases e
  · rw [mask4_other q] at e; exact e

theorem zll_new {prog : Program} {w : World} {A : Around} {E : Value → Shared → Prop} {s : Shared} {h₀ : Heap} {L : Addr} {m : Str → Option Value} {l1 l2 : Addr} {xs ys : Array Value} {news : List (Addr × Obj)} {Q : Value → Shared → Prop} (F : Fr h₀ L s.heap m) (N : News h₀ L s.heap news) (hm1 : s.heap.get? l1 = some (listOf xs n1)) (hm2 : s.heap.get? l2 = some (listOf ys n2))
    (h : ∀ (D : Addr) h', Fr h₀ L h' m → News h₀ L h' news → IsZip h' (D + 4) (D + 2) (D + 3) .none → IsPair h' (D + 2) (.ref D) (.ref (D + 1)) → IsPair h' (D + 3) .none .none → h'.IsListIter D l1 0 → h'.IsListIter (D + 1) l2 0 → s.heap.objs.size = D → h'.objs.size = D + 5 → Grows s.heap h' → Q (.ref (D + 4)) { s with heap := h' }) :
    wpAny (model prog w) A (call (.type "zip") [.ref l1, .ref l2]) Q E s :=
  call_zip_2 ⟨_, hm1, rfl, _, rfl⟩ ⟨_, hm2, rfl, _, rfl⟩ fun h' hz hI hO e1 e2 sz hk => h _ h' (F.keeps hk) (N.grown hk) hz hI hO e1 e2 rfl sz hk

section
variable {prog : Program} {w : World} {A : Around} {E : Value → Shared → Prop} {s : Shared} {h₀ : Heap} {L : Addr} {m : Str → Option Value} {env : Env}
/-- a block over a zip of two lists, two names -/
def SrcZ (prog : Program) (w : World) (A : Around) (h₀ : Heap) (L : Addr) (m : Str → Option Value) (env : Env) (elt : Expr) (a b : Str) (scope : Scope) (cl : List (Str × Addr)) (Q : Value → Shared → Prop) (xv : Value) (s₁ : Shared) : Prop :=
  ∃ (D l1 l2 : Addr) (xs ys : Array Value) (news : List (Addr × Obj)) (fs : List (Tok → Value)) (g : Heap), xv = .ref (D + 4) ∧ A.handled = none ∧ g = mask4 s₁.heap (D + 4) (D + 3) D (D + 1) ∧ Fr h₀ L g m ∧ News h₀ L g news ∧ ZipApart (D + 4) (D + 2) (D + 3) D (D + 1) l1 l2 ∧
    (IsZip s₁.heap (D + 4) (D + 2) (D + 3) .none ∧ IsPair s₁.heap (D + 2) (.ref D) (.ref (D + 1)) ∧ (∃ a b, IsPair s₁.heap (D + 3) a b) ∧ s₁.heap.IsListIter D l1 0 ∧ s₁.heap.IsListIter (D + 1) l2 0 ∧ s₁.heap.IsList l1 xs ∧ s₁.heap.IsList l2 ys) ∧
    min xs.size ys.size = fs.length ∧ fs.length ≤ 1000 ∧
    (∀ (i : Nat) (f : Tok → Value) (x y : Value), fs[i]? = some f → xs[i]? = some x → ys[i]? = some y → TurnG prog w A h₀ L m env elt scope cl { s₁ with heap := g } news (fun m' => m' a = some x ∧ m' b = some y) f) ∧ FinG h₀ L m { s₁ with heap := g } Q news fs

theorem ListComp_Z {elt iter : Expr} {a b : Str} {pa pb tp : Pos} {kk : Nat} {scope : Scope} {cl : List (Str × Addr)} {pos : Pos} {Q : Value → Shared → Prop} (_F₀ : Fr h₀ L s.heap m)
    (hclos : closureFor scope env = pure cl) (hcell : ∀ y ∈ scope.names, y.2 ≠ .cell) (hkind : scope.kind = .function)
    (hnames : ∀ y ∈ scope.names, y.2 = .local → scope.names.lookup y.1 = some .local) (ha : scope.names.lookup a = some .local) (hb : scope.names.lookup b = some .local) (hab : a ≠ b)
    (h : wpAny (model prog w) A (eval iter env) (SrcZ prog w A h₀ L m env elt a b scope cl Q) E s)
    (hs : ∀ x, foldedSetIterable iter env x = pure x := by intro _; rfl) :
    wpAny (model prog w) A (eval (.ListComp elt [⟨.Tuple [.Name a pa, .Name b pb] kk tp, iter, [], 0⟩] scope pos) env) Q E s := by
  rw [eval_ListComp]
  refine wpAny_comprehension_free (use := none) rfl hs hclos hkind hnames (wpAny_mono h (fun xv s₁ h₁ => ?_) fun _ _ e => e)
  obtain ⟨D, l1, l2, xs, ys, news, fs, g, rfl, hh, hg, F, N, Z, st, hl, hz, turn, fin⟩ := h₁
  refine wpAny_pyIter_zip st.1 ?_
  have W := (WalksT.zip2 (prog := prog) (w := w) hh _ _ _ _ _ l1 l2 Z xs ys).toU
  rw [hl] at W
  subst hg
  have sz : (mask4 s₁.heap (D + 4) (D + 3) D (D + 1)).objs.size = s₁.heap.objs.size := mask4_size
  refine growBlock (fs := fs) (H := mask4 s₁.heap (D + 4) (D + 3) D (D + 1)) (Bd := fun i m' => ∃ x y, xs[i]? = some x ∧ ys[i]? = some y ∧ m' a = some x ∧ m' b = some y) (KTurns.ofWalksU W) (fun s Q E st q => wpAny_pyIter_zip st.1 q) (by rw [sizeLine_eq]; omega) hcell hkind
    st (fun b hb => ?_) (fun b hb => mask4_none hb) mask4_grows (fun i v C m h tk Q E hP hn hg k => ?_) (fun i f C m h tk E' hf hB hn hC hCs hg => ?_) (fun D' C h tk m' ys hg hd hn hC hD hCs hDs hCD hi => ?_)
  · simp only [List.mem_cons, List.not_mem_nil, or_false] at hb
    obtain ⟨e1, e2, ⟨_, _, e3⟩, ⟨_, e4, _⟩, ⟨_, e5, _⟩, ⟨_, e6, _⟩, ⟨_, e7, _⟩⟩ := st
    rcases hb with rfl | rfl | rfl | rfl | rfl | rfl | rfl
    · exact Heap.lt_size e1
    · exact Heap.lt_size e2
    · exact Heap.lt_size e3
    · exact Heap.lt_size e4
    · exact Heap.lt_size e5
    · exact Heap.lt_size e6
    · exact Heap.lt_size e7
  · obtain ⟨T, vals, rfl, ⟨x, y, hx, hy, rfl⟩, hT⟩ := hP
    refine kcp_assign hh hT (lookup_relabel_local ha) (lookup_relabel_local hb) (by simp [compEnvC, relabel, hkind]) hn fun h' tk' hn' hk' => ?_
    exact k h' tk' _ hn' ⟨x, y, hx, hy, by simp [hab], by simp⟩ hk'
  · obtain ⟨x, y, hx, hy, h1, h2⟩ := hB
    exact turn_at (s₁ := { s₁ with heap := mask4 s₁.heap (D + 4) (D + 3) D (D + 1) }) (turn i f x y hf hx hy) F N ⟨h1, h2⟩ hn hC (by show (mask4 _ _ _ _ _).objs.size ≤ C; rw [sz]; exact hCs) hg
  · exact fin_at (s₁ := { s₁ with heap := mask4 s₁.heap (D + 4) (D + 3) D (D + 1) }) fin F N hg hd hn hC hD (by show (mask4 _ _ _ _ _).objs.size ≤ C; rw [sz]; exact hCs) (by show (mask4 _ _ _ _ _).objs.size ≤ D'; rw [sz]; exact hDs) hCD hi

theorem mask4_fr {h : Heap} {z TO i1 i2 : Addr} (F : Fr h₀ L h m) (hz : z ≠ L ∧ h₀.get? z = none) (hO : TO ≠ L ∧ h₀.get? TO = none) (h1 : i1 ≠ L ∧ h₀.get? i1 = none) (h2 : i2 ≠ L ∧ h₀.get? i2 = none) : Fr h₀ L (mask4 h z TO i1 i2) m :=
  zlt_fr F hz hO h1 h2 fun c o c1 c2 c3 c4 e => by rw [mask4_other (by simp [c1, c2, c3, c4])]; exact e

theorem lt_off {a D : Addr} (h : a < D) (j : Nat) : a ≠ D + j := Nat.ne_of_lt (Nat.lt_of_lt_of_le h (Nat.le_add_right D j))
theorem lt_off4 {a D : Addr} (h : a < D) : a ∉ [D + 4, D + 3, D, D + 1] := by
  simp only [List.mem_cons, List.not_mem_nil, or_false, not_or]
  exact ⟨lt_off h 4, lt_off h 3, lt_off h 0, lt_off h 1⟩
theorem zapart {D l1 l2 : Addr} (h1 : l1 < D) (h2 : l2 < D) : ZipApart (D + 4) (D + 2) (D + 3) D (D + 1) l1 l2 := by
  have n : ∀ i j : Nat, i ≠ j → D + i ≠ D + j := fun i j h e => h (Nat.add_left_cancel e)
  exact ⟨n 2 4 (by decide), n 3 4 (by decide), n 0 4 (by decide), n 1 4 (by decide), n 2 3 (by decide), n 2 0 (by decide), n 2 1 (by decide), n 3 0 (by decide), n 3 1 (by decide), n 0 1 (by decide), lt_off h1 4, lt_off h1 3, lt_off h1 0, lt_off h1 1, lt_off h2 4, lt_off h2 3, lt_off h2 0, lt_off h2 1⟩
/-- a block over zip of a list of two texts and a list of one text: its turn, its end -/
theorem zll_src1 {elt : Expr} {a b : Str} {scope : Scope} {cl : List (Str × Addr)} {Q : Value → Shared → Prop} {l1 l2 : Addr} {x x2 y : Value} {n1 n2 : Nat} {news : List (Addr × Obj)} {f : Tok → Value} (hh : A.handled = none) (F : Fr h₀ L s.heap m) (N : News h₀ L s.heap news)
    (hm1 : (l1, listOf #[x, x2] n1) ∈ news) (hm2 : (l2, listOf #[y] n2) ∈ news) (_c : CompFs [f])
    (k : ∀ g, Fr h₀ L g m → News h₀ L g news → TurnG prog w A h₀ L m env elt scope cl { s with heap := g } news (fun m' => m' a = some x ∧ m' b = some y) f ∧ FinG h₀ L m { s with heap := g } Q news [f]) :
    wpAny (model prog w) A (call (.type "zip") [.ref l1, .ref l2]) (SrcZ prog w A h₀ L m env elt a b scope cl Q) E s := by
  refine zll_new F N (N _ hm1).1 (N _ hm2).1 fun D h' F' N' hz hI hO e1 e2 sz sz' gr => ?_
  have lt : ∀ p ∈ news, p.1 < D := fun p hp => sz ▸ Heap.lt_size (N p hp).1
  have nw : ∀ j, D + j ≠ L ∧ h₀.get? (D + j) = none := fun j => ⟨Nat.ne_of_gt (Nat.lt_of_lt_of_le F.ns.lt (sz ▸ Nat.le_add_right _ _)), ktu_new F (sz ▸ Nat.le_add_right _ _)⟩
  have F9 : Fr h₀ L (mask4 h' (D + 4) (D + 3) D (D + 1)) m := mask4_fr F' (nw 4) (nw 3) (nw 0) (nw 1)
  have N9 : News h₀ L (mask4 h' (D + 4) (D + 3) D (D + 1)) news := fun p hp => ⟨by rw [mask4_other (lt_off4 (lt p hp))]; exact (N' p hp).1, (N' p hp).2⟩
  have kk := k _ F9 N9
  have z1 := lt _ hm1
  have z2 := lt _ hm2
  refine ⟨D, l1, l2, #[x, x2], #[y], news, [f], _, rfl, hh, rfl, F9, N9, ?_, ⟨hz, hI, ⟨_, _, hO⟩, e1, e2, ⟨_, (N' _ hm1).1, rfl, _, rfl⟩, ⟨_, (N' _ hm2).1, rfl, _, rfl⟩⟩, rfl, Nat.le_of_ble_eq_true rfl, fun i g u v hf hu hv => ?_, kk.2⟩
  · exact zapart z1 z2
  · match i with
    | 0 => simp at hf hu hv; subst hf hu hv; exact kk.1
    | i + 1 => simp at hf
theorem zll_src2 {elt : Expr} {a b : Str} {scope : Scope} {cl : List (Str × Addr)} {Q : Value → Shared → Prop} {l1 l2 : Addr} {x x2 y y2 : Value} {n1 n2 : Nat} {news : List (Addr × Obj)} {f f2 : Tok → Value} (hh : A.handled = none) (F : Fr h₀ L s.heap m) (N : News h₀ L s.heap news)
    (hm1 : (l1, listOf #[x, x2] n1) ∈ news) (hm2 : (l2, listOf #[y, y2] n2) ∈ news) (_c : CompFs [f, f2])
    (k : ∀ g, Fr h₀ L g m → News h₀ L g news → TurnG prog w A h₀ L m env elt scope cl { s with heap := g } news (fun m' => m' a = some x ∧ m' b = some y) f ∧ TurnG prog w A h₀ L m env elt scope cl { s with heap := g } news (fun m' => m' a = some x2 ∧ m' b = some y2) f2 ∧ FinG h₀ L m { s with heap := g } Q news [f, f2]) :
    wpAny (model prog w) A (call (.type "zip") [.ref l1, .ref l2]) (SrcZ prog w A h₀ L m env elt a b scope cl Q) E s := by
  refine zll_new F N (N _ hm1).1 (N _ hm2).1 fun D h' F' N' hz hI hO e1 e2 sz sz' gr => ?_
  have lt : ∀ p ∈ news, p.1 < D := fun p hp => sz ▸ Heap.lt_size (N p hp).1
  have nw : ∀ j, D + j ≠ L ∧ h₀.get? (D + j) = none := fun j => ⟨Nat.ne_of_gt (Nat.lt_of_lt_of_le F.ns.lt (sz ▸ Nat.le_add_right _ _)), ktu_new F (sz ▸ Nat.le_add_right _ _)⟩
  have F9 : Fr h₀ L (mask4 h' (D + 4) (D + 3) D (D + 1)) m := mask4_fr F' (nw 4) (nw 3) (nw 0) (nw 1)
  have N9 : News h₀ L (mask4 h' (D + 4) (D + 3) D (D + 1)) news := fun p hp => ⟨by rw [mask4_other (lt_off4 (lt p hp))]; exact (N' p hp).1, (N' p hp).2⟩
  have kk := k _ F9 N9
  have z1 := lt _ hm1
  have z2 := lt _ hm2
  refine ⟨D, l1, l2, #[x, x2], #[y, y2], news, [f, f2], _, rfl, hh, rfl, F9, N9, ?_, ⟨hz, hI, ⟨_, _, hO⟩, e1, e2, ⟨_, (N' _ hm1).1, rfl, _, rfl⟩, ⟨_, (N' _ hm2).1, rfl, _, rfl⟩⟩, rfl, Nat.le_of_ble_eq_true rfl, fun i g u v hf hu hv => ?_, kk.2.2⟩
  · exact zapart z1 z2
  · match i with
    | 0 => simp at hf hu hv; subst hf hu hv; exact kk.1
    | 1 => simp at hf hu hv; subst hf hu hv; exact kk.2.1
    | i + 2 => simp at hf
theorem zll_t1 {elt : Expr} {a b : Str} {scope : Scope} {cl : List (Str × Addr)} {Q : Value → Shared → Prop} {l1 l2 : Addr} {x2 : Value} {xs ys : Str} {tx ty : Tok} {n1 n2 : Nat} {news : List (Addr × Obj)} (hh : A.handled = none) (F : Fr h₀ L s.heap m) (N : News h₀ L s.heap news)
    (hm1 : (l1, listOf #[.str xs tx, x2] n1) ∈ news) (hm2 : (l2, listOf #[.str ys ty] n2) ∈ news)
    (k : ∀ g, Fr h₀ L g m → News h₀ L g news → TurnG prog w A h₀ L m env elt scope cl { s with heap := g } news (fun m' => m' a = some (.str xs tx) ∧ m' b = some (.str ys ty)) (fun t => .str (xs ++ Str.ofString ": " ++ ys) t) ∧ FinG h₀ L m { s with heap := g } Q news [fun t => .str (xs ++ Str.ofString ": " ++ ys) t]) :
    wpAny (model prog w) A (call (.type "zip") [.ref l1, .ref l2]) (SrcZ prog w A h₀ L m env elt a b scope cl Q) E s := zll_src1 hh F N hm1 hm2 ⟨⟩ k
theorem zll_t2 {elt : Expr} {a b : Str} {scope : Scope} {cl : List (Str × Addr)} {Q : Value → Shared → Prop} {l1 l2 : Addr} {xs ys us vs : Str} {tx ty tu tv : Tok} {n1 n2 : Nat} {news : List (Addr × Obj)} (hh : A.handled = none) (F : Fr h₀ L s.heap m) (N : News h₀ L s.heap news)
    (hm1 : (l1, listOf #[.str xs tx, .str us tu] n1) ∈ news) (hm2 : (l2, listOf #[.str ys ty, .str vs tv] n2) ∈ news)
    (k : ∀ g, Fr h₀ L g m → News h₀ L g news → TurnG prog w A h₀ L m env elt scope cl { s with heap := g } news (fun m' => m' a = some (.str xs tx) ∧ m' b = some (.str ys ty)) (fun t => .str (xs ++ Str.ofString ": " ++ ys) t) ∧ TurnG prog w A h₀ L m env elt scope cl { s with heap := g } news (fun m' => m' a = some (.str us tu) ∧ m' b = some (.str vs tv)) (fun t => .str (us ++ Str.ofString ": " ++ vs) t) ∧ FinG h₀ L m { s with heap := g } Q news [fun t => .str (xs ++ Str.ofString ": " ++ ys) t, fun t => .str (us ++ Str.ofString ": " ++ vs) t]) :
    wpAny (model prog w) A (call (.type "zip") [.ref l1, .ref l2]) (SrcZ prog w A h₀ L m env elt a b scope cl Q) E s := zll_src2 hh F N hm1 hm2 ⟨⟩ k
end
end Mine
end

section
open PySem PySem.W PyProof.Rows PySem.Calls
namespace Mine
set_option maxRecDepth 100000
set_option maxHeartbeats 8000000
theorem lenMul {c : Prop} [Decidable c] {x : Str} {m : Nat} (h : x.length ≤ m) : (Txt.mul x (if c then 1 else 0)).length ≤ m := by
  by_cases e : c
  · rw [if_pos e, txt_mul_one]; exact h
  · rw [if_neg e, txt_mul_zero]; exact Nat.le_trans (Nat.le_of_eq ln_e) (Nat.zero_le _)
/-- what is_own says, what both say -/
inductive OwnObj (o : Obj) (b own : Bool) : Prop
  | name {t u x v} {nm : Str} {r m : Bool} : OTup o #[.str (Str.ofString "name") t, .int 0 u, .str nm x, .bool r, .bool m, v] → b = (m && !r) → own = b → OwnObj o b own
  | range {t u x y} : OTup o #[.str (Str.ofString "range") t, .int 0 u, x, y] → b = false → own = true → OwnObj o b own
  | other {l : List Value} {k : Str} {t : Tok} : OTup o (Value.str k t :: l).toArray → (k == Str.ofString "name") = false → (k == Str.ofString "range") = false → b = false → own = false → OwnObj o b own
theorem own_of {o : Obj} {own : Bool} (R : RootObj o own) : ∃ b, OwnObj o b own := by
  cases R with
  | name x y => exact ⟨_, .name x rfl y⟩
  | range x y => exact ⟨_, .range x rfl y⟩
  | other x y z u => exact ⟨_, .other x y z rfl u⟩
section
variable {prog : Program} {w : World} {A : Around} {E : Value → Shared → Prop} {h₀ : Heap} {L a' : Addr} {m : Str → Option Value} {cn : Str} {cs : Scope} {ccd : Value} {cl : List (Str × Addr)} {s : Shared}
theorem sub_item {x : Str} {i : Int} {k : Nat} {p1 p2 p3 : Pos} {a : Addr} {l : List Value} {j : Nat} {v : Value} {Q : Value → Shared → Prop} (F : Fr h₀ L s.heap m) (hk : cs.kind = .function) (hx : m x = some (.ref a)) (ho : ownName (envX cn cs L a' ccd cl).kindOf x = true) (T : IsTup s.heap a l.toArray)
    (lo : -2 ^ 63 ≤ i) (hi : i < 2 ^ 63) (hj : seqIndex? i l.length = some j) (hl : l[j]? = some v) (q : ∀ tk, Q v { s with toks := tk }) :
    wpAny (model prog w) A (eval (.Subscript (.Name x p1) (.Constant (.int i) k p2) p3) (envX cn cs L a' ccd cl)) Q E s := by
  simp only [ownName, Bool.and_eq_true, beq_iff_eq, Bool.not_eq_true'] at ho
  exact Subscript_ (nameX_L F hx (wpAny_Constant_int (item_tupleT (s := { s with toks := s.toks + 1 }) T lo hi hj hl (q _) (by with_unfolding_all rfl))) hk ho.1 ho.2)
theorem sub_item0 {x : Str} {k : Nat} {p1 p2 p3 : Pos} {a : Addr} {l : List Value} {v : Str} {t : Tok} {Q : Value → Shared → Prop} (F : Fr h₀ L s.heap m) (hk : cs.kind = .function) (hx : m x = some (.ref a)) (ho : ownName (envX cn cs L a' ccd cl).kindOf x = true) (T : IsTup s.heap a (Value.str v t :: l).toArray)
    (q : ∀ tk, Q (.str v t) { s with toks := tk }) :
    wpAny (model prog w) A (eval (.Subscript (.Name x p1) (.Constant (.int 0) k p2) p3) (envX cn cs L a' ccd cl)) Q E s := by
  simp only [ownName, Bool.and_eq_true, beq_iff_eq, Bool.not_eq_true'] at ho
  exact Subscript_ (nameX_L F hx (wpAny_Constant_int (item0a (s := { s with toks := s.toks + 1 }) T (q _) (by with_unfolding_all rfl))) hk ho.1 ho.2)
/-- a pattern that is a name of its own to be changed -/
theorem own_expr {env : Env} (he : env = envX cn cs L a' ccd cl) {x : Str} {k1 k2 k3 k4 : Nat} {p1 p2 p3 p4 p5 p6 p7 p8 p9 pa pb pc pd : Pos} {a : Addr} {oa : Obj} {own : Bool} {news : Led} {Q : Value → Shared → Prop} (F : Fr h₀ L s.heap m) (N : News h₀ L s.heap news) (hk : cs.kind = .function) (hx : m x = some (.ref a))
    (ho : ownName env.kindOf x = true) (hm : (a, oa) ∈ news) (R : RootObj oa own) (q : ∀ b tk, OwnObj oa b own → Q (.bool b) { s with toks := tk }) :
    wpAny (model prog w) A (eval (.BoolOp .And [.Compare (.Subscript (.Name x p1) (.Constant (.int 0) k1 p2) p3) [.Eq] [.Constant (.str (Str.ofString "name")) k2 p4] p5, .Subscript (.Name x p6) (.Constant (.int 4) k3 p7) p8, .UnaryOp .Not (.Subscript (.Name x p9) (.Constant (.int 3) k4 pa) pb) pc] pd) env) Q E s := by
  subst he
  obtain ⟨b, O⟩ := own_of R
  cases O with
  | name T hb hown =>
    have T' : IsTup s.heap a _ := istup_led N hm T
    refine BoolOp_and (wpAny_Compare1 (sub_item0 F hk hx ho T' fun tk => Constant_str (eq_str (wpAny_truthy_bool ?_))) rfl)
    rw [if_pos (show (Str.ofString "name" == Str.ofString "name") = true from beq_self_eq_true _)]
    refine BoolOp_and (sub_item (s := { s with toks := tk + 1 }) F hk hx ho T' (by decide) (by decide) (j := 4) rfl rfl fun tk => wpAny_truthy_bool ?_)
    rename_i t u y v nm r m' tk0
    cases m' with
    | false => exact q _ _ (.name T hb hown) |> fun h => by rw [show b = false from by rw [hb]; rfl] at h; exact h
    | true =>
      refine BoolOp_one (UnaryOp_ (sub_item (s := { s with toks := tk }) F hk hx ho T' (by decide) (by decide) (j := 3) rfl rfl fun tk => not_of (wpAny_truthy_bool ?_)))
      have h := q _ tk (.name T hb hown)
      rw [show b = !r from by rw [hb]; rfl] at h
      exact h
  | range T hb hown =>
    have T' : IsTup s.heap a _ := istup_led N hm T
    refine BoolOp_and (wpAny_Compare1 (sub_item0 F hk hx ho T' fun tk => Constant_str (eq_str (wpAny_truthy_bool ?_))) rfl)
    rw [if_neg (show ¬ (Str.ofString "range" == Str.ofString "name") = true by decide +kernel), show (Str.ofString "range" == Str.ofString "name") = false by decide +kernel]
    have h := q _ (tk + 1) (.range T hb hown)
    rw [hb] at h
    exact h
  | other T hn hr hb hown =>
    have T' : IsTup s.heap a _ := istup_led N hm T
    refine BoolOp_and (wpAny_Compare1 (sub_item0 F hk hx ho T' fun tk => Constant_str (eq_str (wpAny_truthy_bool ?_))) rfl)
    rw [if_neg (by rw [hn]; decide), hn]
    have h := q _ (tk + 1) (.other T hn hr hb hown)
    rw [hb] at h
    exact h
/-- the text behind a reference -/
theorem held_expr {env : Env} (he : env = envX cn cs L a' ccd cl) {x y z : Str} {t : Tok} {u : Str} {k1 k2 k3 k4 : Nat} {p1 p2 p3 p4 p5 p6 p7 p8 p9 pa pb pc pd pe : Pos} {a : Addr} {oa : Obj} {b own : Bool} {news : Led} {Q : Value → Shared → Prop} (F : Fr h₀ L s.heap m) (N : News h₀ L s.heap news) (hk : cs.kind = .function) (hx : m x = some (.ref a))
    (hy : m y = some (.bool b)) (hz : m z = some (.str u t)) (hu : u.length ≤ 1000000) (ho : ownName env.kindOf x = true) (hoy : ownName env.kindOf y = true) (hoz : ownName env.kindOf z = true) (hm : (a, oa) ∈ news) (O : OwnObj oa b own) (q : ∀ t' tk, Q (.str (if own = true then Str.ofString "(" ++ (u ++ Str.ofString ")") else u) t') { s with toks := tk }) :
    wpAny (model prog w) A (eval (.IfExp (.BoolOp .Or [.Name y p1, .Compare (.Subscript (.Name x p2) (.Constant (.int 0) k1 p3) p4) [.Eq] [.Constant (.str (Str.ofString "range")) k2 p5] p6] p7) (.BinOp (.BinOp (.Constant (.str (Str.ofString "(")) k3 p8) .Add (.Name z p9) pa) .Add (.Constant (.str (Str.ofString ")")) k4 pb) pc) (.Name z pd) pe) env) Q E s := by
  subst he
  have l1 : (Str.ofString "(").length = 1 := by decide +kernel
  have l2 : (Str.ofString ")").length = 1 := by decide +kernel
  have ho' := ho
  simp only [ownName, Bool.and_eq_true, beq_iff_eq, Bool.not_eq_true'] at ho' hoy hoz
  have yes : ∀ tk, (own = true) → wpAny (model prog w) A (eval (.BinOp (.BinOp (.Constant (.str (Str.ofString "(")) k3 p8) .Add (.Name z p9) pa) .Add (.Constant (.str (Str.ofString ")")) k4 pb) pc) (envX cn cs L a' ccd cl)) Q E { s with toks := tk } := by
    intro tk e
    refine wpAny_BinOp (wpAny_BinOp (Constant_str (nameX_L (s := { s with toks := tk + 1 }) F hz (add_str (fun t1 tk1 => Constant_str (add_str (fun t2 tk2 => ?_) ?_)) ?_) hk hoz.1 hoz.2)))
    · have h := q t2 tk2
      rw [if_pos e, ← PySem.Str.append_assoc] at h
      exact h
    · simp only [PySem.Str.length_append, PySem.sizeLine_eq, l1, l2]; omega
    · simp only [PySem.sizeLine_eq, l1]; omega
  have no : ∀ tk, (own = false) → wpAny (model prog w) A (eval (.Name z pd) (envX cn cs L a' ccd cl)) Q E { s with toks := tk } := by
    intro tk e
    have h := q t tk
    rw [if_neg (by rw [e]; decide)] at h
    exact nameX_L (s := { s with toks := tk }) F hz h hk hoz.1 hoz.2
  refine IfExp_ (isTrue_or (isTrue_plain (nameX_L F hy (wpAny_truthy_bool ?_) hk hoy.1 hoy.2) rfl))
  have rest : ∀ v, b = false → IsTup s.heap a v → ∀ (k : Str) (t : Tok) l, v = (Value.str k t :: l).toArray → (k == Str.ofString "range") = own →
      wpAny (model prog w) A (PySem.isTrue (.BoolOp .Or [.Compare (.Subscript (.Name x p2) (.Constant (.int 0) k1 p3) p4) [.Eq] [.Constant (.str (Str.ofString "range")) k2 p5] p6] p7) (envX cn cs L a' ccd cl) (eval (.BoolOp .Or [.Name y p1, .Compare (.Subscript (.Name x p2) (.Constant (.int 0) k1 p3) p4) [.Eq] [.Constant (.str (Str.ofString "range")) k2 p5] p6] p7) (envX cn cs L a' ccd cl)))
        (fun c s₂ => if c = true then wpAny (model prog w) A (eval (.BinOp (.BinOp (.Constant (.str (Str.ofString "(")) k3 p8) .Add (.Name z p9) pa) .Add (.Constant (.str (Str.ofString ")")) k4 pb) pc) (envX cn cs L a' ccd cl)) Q E s₂ else wpAny (model prog w) A (eval (.Name z pd) (envX cn cs L a' ccd cl)) Q E s₂) E s := by
    intro v hb T' k t l e hown
    subst e
    refine isTrue_or (wpAny_isTrue_Compare1 (sub_item0 F hk hx ho T' fun tk => Constant_str (eq_str (wpAny_truthy_bool ?_))) rfl)
    rw [hown]
    cases own with
    | true => exact yes _ rfl
    | false => exact isTrue_or_nil (no _ rfl)
  cases O with
  | name T hb hown =>
    have T' : IsTup s.heap a _ := istup_led N hm T
    cases b with
    | true => exact yes s.toks hown
    | false => exact rest _ rfl T' _ _ _ rfl (by rw [hown]; decide +kernel)
  | range T hb hown =>
    subst hb
    exact rest _ rfl (istup_led N hm T) _ _ _ rfl (by rw [hown]; decide +kernel)
  | other T hn hr hb hown =>
    subst hb
    exact rest _ rfl (istup_led N hm T) _ _ _ rfl (by rw [hown]; exact hr)
theorem own_kid {env : Env} {x : Str} {k1 k2 k3 k4 : Nat} {p1 p2 p3 p4 p5 p6 p7 p8 p9 pa pb pc pd : Pos} {V : Led} {c a : Addr} {P : Pt} {t1 t2 : Tok} {n : Nat} {oa : Obj} {W D : Nat} {news : Led} {Q : Value → Shared → Prop} (k : Kid V c a P t1 t2 n oa W D) (sub : ∀ p ∈ V, p ∈ news) (he : env = envX cn cs L a' ccd cl) (F : Fr h₀ L s.heap m) (N : News h₀ L s.heap news) (hk : cs.kind = .function) (hx : m x = some (.ref a))
    (ho : ownName env.kindOf x = true) (q : ∀ b tk, OwnObj oa b P.own → Q (.bool b) { s with toks := tk }) :
    wpAny (model prog w) A (eval (.BoolOp .And [.Compare (.Subscript (.Name x p1) (.Constant (.int 0) k1 p2) p3) [.Eq] [.Constant (.str (Str.ofString "name")) k2 p4] p5, .Subscript (.Name x p6) (.Constant (.int 4) k3 p7) p8, .UnaryOp .Not (.Subscript (.Name x p9) (.Constant (.int 3) k4 pa) pb) pc] pd) env) Q E s :=
  own_expr he F N hk hx ho (sub _ k.ha) (k.root N sub) q
theorem held_kid {env : Env} {x y z : Str} {k1 k2 k3 k4 : Nat} {p1 p2 p3 p4 p5 p6 p7 p8 p9 pa pb pc pd pe : Pos} {V : Led} {c a : Addr} {P : Pt} {t1 t2 : Tok} {n : Nat} {oa : Obj} {W D : Nat} {b : Bool} {news : Led} {Q : Value → Shared → Prop} (k : Kid V c a P t1 t2 n oa W D) (sub : ∀ p ∈ V, p ∈ news) (O : OwnObj oa b P.own) (he : env = envX cn cs L a' ccd cl) (F : Fr h₀ L s.heap m) (N : News h₀ L s.heap news) (hk : cs.kind = .function) (hx : m x = some (.ref a))
    (hy : m y = some (.bool b)) (hz : m z = some (.str P.T.1 t1)) (hW : W ≤ 1000000) (ho : ownName env.kindOf x = true) (hoy : ownName env.kindOf y = true) (hoz : ownName env.kindOf z = true) (q : ∀ t' tk, Q (.str (if P.own = true then Str.ofString "(" ++ (P.T.1 ++ Str.ofString ")") else P.T.1) t') { s with toks := tk }) :
    wpAny (model prog w) A (eval (.IfExp (.BoolOp .Or [.Name y p1, .Compare (.Subscript (.Name x p2) (.Constant (.int 0) k1 p3) p4) [.Eq] [.Constant (.str (Str.ofString "range")) k2 p5] p6] p7) (.BinOp (.BinOp (.Constant (.str (Str.ofString "(")) k3 p8) .Add (.Name z p9) pa) .Add (.Constant (.str (Str.ofString ")")) k4 pb) pc) (.Name z pd) pe) env) Q E s :=
  held_expr he F N hk hx hy hz (Nat.le_trans k.len.1 hW) ho hoy hoz (sub _ k.ha) O q
theorem add_12 {k : Int} {t u : Tok} {Q : Value → Shared → Prop} (h0 : 0 ≤ k) (h1 : k < 2) (q1 : Q (.int 1 s.toks) { s with toks := s.toks + 1 }) (q2 : Q (.int 2 s.toks) { s with toks := s.toks + 1 }) : wpAny (model prog w) A (binaryOp .Add (.int 1 t) (.int k u)) Q E s := by
  have h : k = 0 ∨ k = 1 := by omega
  rcases h with rfl | rfl
  · exact add_int q1
  · exact add_int q2
theorem int_split2 {k : Int} {Q : Value → Shared → Prop} (h0 : 0 ≤ k) (h1 : k < 2) (q0 : k = 0 → Q (.int 1 s.toks) { s with toks := s.toks + 1 }) (q1 : k = 1 → Q (.int 0 s.toks) { s with toks := s.toks + 1 }) : wpAny (model prog w) A (call (.type "int") [.bool (k == 0)]) Q E s := by
  have h : k = 0 ∨ k = 1 := by omega
  rcases h with rfl | rfl
  · exact call_int_bool (q0 rfl)
  · exact call_int_bool (q1 rfl)
theorem b00 : ((0 : Int) == 0) = true := rfl
theorem b10 : ((1 : Int) == 0) = false := rfl
theorem b11 : ((1 : Int) == 1) = true := rfl
theorem b21 : ((2 : Int) == 1) = false := rfl
end
end Mine
end

section
open PySem PySem.W PyProof.Rows
namespace Mine
theorem anew_W15 : True := by
  w_top off
  trivial
set_option maxRecDepth 100000
set_option maxHeartbeats 8000000
theorem filler_w15 : Filler PySem.Challenge.rw_xm0582_01 hd.heap_1 := by k_fill; trivial

theorem words_W15_0 : True := by
  k_with_none
  k_with "my dep9" => ((first | ((with_reducible refine dS ?_); k_dflt (exact rfl)) | ((with_reducible refine dL ?_); k_dflt (exact rfl)) | ((with_reducible refine dR ?_); k_dflt (exact rfl)) | ((with_reducible refine dS1 ?_); k_dflt (exact rfl)) | ((with_reducible refine dL1 ?_); k_dflt (exact rfl)) | ((with_reducible refine dR1 ?_); k_dflt (exact rfl)) | ((with_reducible refine d0 ?_); k_dflt (exact rfl)) | ((with_reducible refine dV ?_); k_dflt (exact rfl)) | ((with_reducible refine dW ?_); k_dflt (exact rfl)) | k_dflt (exact le_of_ble rfl) | omega))
  k_with "my room9" => ((first | k_dflt (exact room_0 hdp) | (k_dflt (refine room_a hdp ?_); k_extra "my dep9") | k_dflt (exact Nat.le_of_ble_eq_true rfl) | ktr_room))
  k_with "my units9" => ((first | (k_dflt (refine' units_a hun ?zqua ?zqub); (case zqua => k_extra "my dep9"); (case zqub => k_dflt (exact rfl))) | k_dflt (exact Nat.le_of_ble_eq_true rfl) | ktr_units))
  k_with "my len9" => (((with_reducible show (_ : Nat) ≤ _); first | with_reducible exact Nat.le_refl 0 | ((with_reducible refine' lenApp ?_ ?_) <;> (first | k_extra "my len9" | with_reducible show Nat)) | ((with_reducible refine' addLe ?_ ?_) <;> (first | k_extra "my len9" | with_reducible show Nat)) | ((with_reducible refine' mulLe ?_) <;> (first | k_extra "my len9" | with_reducible show Nat)) | with_reducible assumption | with_reducible exact Nat.le_of_eq ln_e | with_reducible exact Nat.le_of_eq ln_28 | with_reducible exact Nat.le_of_eq ln_29 | with_reducible exact Nat.le_of_eq ln_2c20 | with_reducible exact Nat.le_of_eq ln_2c | with_reducible exact Nat.le_of_eq ln_2c29 | with_reducible exact Nat.le_of_eq ln_3c | with_reducible exact Nat.le_of_eq ln_3e | with_reducible exact Nat.le_of_eq ln_3a3a | with_reducible exact Nat.le_of_eq ln_26 | with_reducible exact Nat.le_of_eq ln_6d757420 | with_reducible exact Nat.le_of_eq ln_72656620 | with_reducible exact Nat.le_of_eq ln_204020 | with_reducible exact Nat.le_of_eq ln_2e2e3d | with_reducible exact Nat.le_of_eq ln_207b20 | with_reducible exact Nat.le_of_eq ln_207d | with_reducible exact Nat.le_of_eq ln_7d | with_reducible exact Nat.le_of_eq ln_2e2e | with_reducible exact Nat.le_of_eq ln_3a20 | with_reducible exact Nat.le_of_eq ln_207c20 | with_reducible exact Nat.le_of_eq ln_5f | with_reducible exact Nat.le_of_eq ln_21 | with_reducible exact Nat.le_of_eq ln_2761 | with_reducible exact Nat.le_of_eq ln_54 | with_reducible exact Nat.le_of_eq ln_7538 | with_reducible exact Nat.le_of_eq ln_78 | with_reducible exact Nat.le_of_eq ln_79 | with_reducible exact Nat.le_of_eq ln_6e | with_reducible exact Nat.le_of_eq ln_6d | with_reducible exact Nat.le_of_eq ln_74727565 | with_reducible exact Nat.le_of_eq ln_66616c7365 | with_reducible exact Nat.le_of_eq ln_37 | with_reducible exact Nat.le_of_eq ln_2d31 | with_reducible exact Nat.le_of_eq ln_2d33 | with_reducible exact Nat.le_of_eq ln_39 | with_reducible exact Nat.le_of_eq ln_31 | with_reducible exact Nat.le_of_eq ln_32 | with_reducible exact Nat.le_of_eq ln_73656c66 | with_reducible exact Nat.le_of_eq ln_53656c66 | with_reducible exact Nat.le_of_eq ln_7375706572 | with_reducible exact Nat.le_of_eq ln_6372617465 | with_reducible exact Nat.le_of_eq ln_41 | with_reducible exact Nat.le_of_eq ln_62 | with_reducible exact Nat.le_of_eq ln_4332 | with_reducible exact Nat.le_of_eq ln_3c75383e | with_reducible exact Nat.le_of_eq ln_3c27612c20542c205f3e | with_reducible exact lenW1 (by with_reducible assumption) (by with_reducible assumption) | with_reducible exact lenW2 (by with_reducible assumption) (by with_reducible assumption) | with_reducible exact lenV1 (by with_reducible assumption) (by with_reducible assumption) (by with_reducible assumption) | with_reducible exact lenV2 (by with_reducible assumption) (by with_reducible assumption) (by with_reducible assumption) | with_reducible exact And.left (by with_reducible assumption) | with_reducible exact And.right (by with_reducible assumption) | ((with_reducible refine' lenIte ?_ ?_) <;> (first | k_extra "my len9" | with_reducible show Nat)) | ((with_reducible refine' iteLe ?_ ?_) <;> (first | k_extra "my len9" | with_reducible show Nat))))
  k_with "my size9" => (((refine' size_of ?zqsa ?zqsb); (case zqsa => k_extra "my len9"); (case zqsb => k_dflt (exact rfl))))
  k_with "my k_steps" => (repeat' (first | (k_unfold; (try dsimp only)) | walk1 | (dsimp only; walk1) | fail "no step"))
  k_with "my binaryOp Add str str" => (((with_reducible show wpAny _ _ (binaryOp Operator.Add (Value.str _ _) (Value.str _ _)) _ _ _); (refine add_str (hsz := ?zqhsz) ?_); (case zqhsz => first | k_extra "my size9" | (simp only [j0, j1, j2, j3, PySem.Str.length_append, PySem.sizeLine_eq, ln_e,ln_28,ln_29,ln_2c20,ln_2c,ln_2c29,ln_3c,ln_3e,ln_3a3a,ln_26,ln_6d757420,ln_72656620,ln_204020,ln_2e2e3d,ln_207b20,ln_207d,ln_7d,ln_2e2e,ln_3a20,ln_207c20,ln_5f,ln_21,ln_2761,ln_54,ln_7538,ln_78,ln_79,ln_6e,ln_6d,ln_74727565,ln_66616c7365,ln_37,ln_2d31,ln_2d33,ln_39,ln_31,ln_32,ln_73656c66,ln_53656c66,ln_7375706572,ln_6372617465,ln_41,ln_62,ln_4332,ln_3c75383e,ln_3c27612c20542c205f3e]; omega)); intro _ _))
  k_with "my ite" => (first | ((refine' PySem.W.ite_pos ?zqhc ?_); (case zqhc => (first | (k_dflt (exact (show _ = true from rfl))) | with_reducible assumption))) | ((refine' PySem.W.ite_neg ?zqhc ?_); (case zqhc => (first | (k_dflt (exact fun hb9 => absurd (show false = true from hb9) Bool.false_ne_true)) | exact fun hb9 => absurd (hb9.symm.trans (by with_reducible assumption)) (by decide)))))
  k_with "my call builtin:str.join" => ((k_here; (with_reducible show wpAny _ _ (call (Value.builtin _) [Value.str _ _, Value.ref _]) _ _ _); k_dflt (first | refine jn0 (by is_list) ?_ | ((refine' jn1 ?zqhl ?zqhz ?_); (case zqhl => is_list); (case zqhz => first | k_extra "my size9" | (simp only [PySem.Str.length_append, ln_e,ln_28,ln_29,ln_2c20,ln_2c,ln_2c29,ln_3c,ln_3e,ln_3a3a,ln_26,ln_6d757420,ln_72656620,ln_204020,ln_2e2e3d,ln_207b20,ln_207d,ln_7d,ln_2e2e,ln_3a20,ln_207c20,ln_5f,ln_21,ln_2761,ln_54,ln_7538,ln_78,ln_79,ln_6e,ln_6d,ln_74727565,ln_66616c7365,ln_37,ln_2d31,ln_2d33,ln_39,ln_31,ln_32,ln_73656c66,ln_53656c66,ln_7375706572,ln_6372617465,ln_41,ln_62,ln_4332,ln_3c75383e,ln_3c27612c20542c205f3e]; omega))) | ((refine' jn2 ?zqhl ?zqhz ?_); (case zqhl => is_list); (case zqhz => first | k_extra "my size9" | (simp only [PySem.Str.length_append, ln_e,ln_28,ln_29,ln_2c20,ln_2c,ln_2c29,ln_3c,ln_3e,ln_3a3a,ln_26,ln_6d757420,ln_72656620,ln_204020,ln_2e2e3d,ln_207b20,ln_207d,ln_7d,ln_2e2e,ln_3a20,ln_207c20,ln_5f,ln_21,ln_2761,ln_54,ln_7538,ln_78,ln_79,ln_6e,ln_6d,ln_74727565,ln_66616c7365,ln_37,ln_2d31,ln_2d33,ln_39,ln_31,ln_32,ln_73656c66,ln_53656c66,ln_7375706572,ln_6372617465,ln_41,ln_62,ln_4332,ln_3c75383e,ln_3c27612c20542c205f3e]; omega))) | ((refine' jn3 ?zqhl ?zqhz ?_); (case zqhl => is_list); (case zqhz => first | k_extra "my size9" | (simp only [PySem.Str.length_append, ln_e,ln_28,ln_29,ln_2c20,ln_2c,ln_2c29,ln_3c,ln_3e,ln_3a3a,ln_26,ln_6d757420,ln_72656620,ln_204020,ln_2e2e3d,ln_207b20,ln_207d,ln_7d,ln_2e2e,ln_3a20,ln_207c20,ln_5f,ln_21,ln_2761,ln_54,ln_7538,ln_78,ln_79,ln_6e,ln_6d,ln_74727565,ln_66616c7365,ln_37,ln_2d31,ln_2d33,ln_39,ln_31,ln_32,ln_73656c66,ln_53656c66,ln_7375706572,ln_6372617465,ln_41,ln_62,ln_4332,ln_3c75383e,ln_3c27612c20542c205f3e]; omega)))); intro _ _))
  k_with "my units_room" => ((first | (k_dflt (refine' units_b hun ?zqua ?zqub); (case zqua => k_extra "my dep9"); (case zqub => k_dflt (exact rfl))) | (have hcL9 := cLine_is; (simp only [units_deeper, units_in1] at *); (try dsimp only [ktrTop] at *); omega)))
  k_with "my compareOp Eq ref ref" => (((with_reducible show wpAny _ _ (compareOp CmpOp.Eq (Value.ref _) (Value.ref _)) _ _ _); first | refine PySem.SeqAt.eq_list_lengthsAt (by is_list) (by is_list) (by rfl) (by units_room) ?_ | refine PySem.SeqAt.eq_listAt (e := fun _ => true) (items := #[]) (items2 := #[]) (by is_list) (by is_list) rfl (by units_room) (fun j h1 h2 => absurd h1 (Nat.not_lt_zero _)) ?_))
  k_with "my binaryOp Add str str" => (((with_reducible show wpAny _ _ (binaryOp Operator.Add (Value.str _ _) (Value.str _ _)) _ _ _); (refine add_str (hsz := ?zqhsz) ?_); (case zqhsz => first | exact Nat.zero_le _ | k_extra "my size9" | (simp only [PySem.Str.length_append, PySem.sizeLine_eq, ln_e,ln_28,ln_29,ln_2c20,ln_2c,ln_2c29,ln_3c,ln_3e,ln_3a3a,ln_26,ln_6d757420,ln_72656620,ln_204020,ln_2e2e3d,ln_207b20,ln_207d,ln_7d,ln_2e2e,ln_3a20,ln_207c20,ln_5f,ln_21,ln_2761,ln_54,ln_7538,ln_78,ln_79,ln_6e,ln_6d,ln_74727565,ln_66616c7365,ln_37,ln_2d31,ln_2d33,ln_39,ln_31,ln_32,ln_73656c66,ln_53656c66,ln_7375706572,ln_6372617465,ln_41,ln_62,ln_4332,ln_3c75383e,ln_3c27612c20542c205f3e]; omega) | (simp only [lenIf, PySem.Str.length_append, PySem.sizeLine_eq, ln_e,ln_28,ln_29,ln_2c20,ln_2c,ln_2c29,ln_3c,ln_3e,ln_3a3a,ln_26,ln_6d757420,ln_72656620,ln_204020,ln_2e2e3d,ln_207b20,ln_207d,ln_7d,ln_2e2e,ln_3a20,ln_207c20,ln_5f,ln_21,ln_2761,ln_54,ln_7538,ln_78,ln_79,ln_6e,ln_6d,ln_74727565,ln_66616c7365,ln_37,ln_2d31,ln_2d33,ln_39,ln_31,ln_32,ln_73656c66,ln_53656c66,ln_7375706572,ln_6372617465,ln_41,ln_62,ln_4332,ln_3c75383e,ln_3c27612c20542c205f3e]; (repeat' split) <;> omega)); intro _ _))
  k_with "my ite" => (first | ((with_reducible refine' ite_int_one ?zqhc ?_); (case zqhc => first | with_reducible assumption | decide)) | ((with_reducible refine' ite_int_two ?_ ?_) <;> intro hk9))
  k_with "my ite" => (first | ((refine' PySem.W.ite_pos ?zqhc ?_); (case zqhc => (first | (k_dflt (exact (show _ = true from rfl))) | with_reducible assumption))) | ((refine' PySem.W.ite_neg ?zqhc ?_); (case zqhc => (first | (k_dflt (exact fun hb9 => absurd (show false = true from hb9) Bool.false_ne_true)) | exact fun hb9 => absurd (hb9.symm.trans (by with_reducible assumption)) (by decide)))))
  k_with "my storeName" => ((k_here; (with_reducible show wpAny _ _ (storeName _ _ _) _ _ _); k_dflt (refine' storeU ?zqhe ?zqF ?zqN ?zqhk ?zqhx ?_; (case zqhe => exact rfl); (case zqF => k_asm); (case zqN => k_asm); (case zqhk => rfl); (case zqhx => rfl)); intro h' M' F' N'; (try dsimp only); (try k_sweep)))
  k_with "my execs cons Assign cons" => ((k_here; (with_reducible show wpAny _ _ (execs (Stmt.Assign [Expr.Name _ _] _ _ :: _) _) _ _ _); k_dflt (refine' pure_assignE ?zqhe ?zqhpl ?zqF ?zqN ?zqhk ?zqh ?zqhn ?zqhx ?zqsw ?_; (case zqhpl => exact rfl); (case zqhe => exact rfl); (case zqF => k_asm); (case zqhk => rfl); (case zqh => exact rfl); (case zqhn => first | exact Nat.zero_le _ | k_extra "my size9" | (simp only [PySem.Str.length_append, PySem.sizeLine_eq, ln_e,ln_28,ln_29,ln_2c20,ln_2c,ln_2c29,ln_3c,ln_3e,ln_3a3a,ln_26,ln_6d757420,ln_72656620,ln_204020,ln_2e2e3d,ln_207b20,ln_207d,ln_7d,ln_2e2e,ln_3a20,ln_207c20,ln_5f,ln_21,ln_2761,ln_54,ln_7538,ln_78,ln_79,ln_6e,ln_6d,ln_74727565,ln_66616c7365,ln_37,ln_2d31,ln_2d33,ln_39,ln_31,ln_32,ln_73656c66,ln_53656c66,ln_7375706572,ln_6372617465,ln_41,ln_62,ln_4332,ln_3c75383e,ln_3c27612c20542c205f3e]; omega) | (simp only [lenIf, PySem.Str.length_append, PySem.sizeLine_eq, ln_e,ln_28,ln_29,ln_2c20,ln_2c,ln_2c29,ln_3c,ln_3e,ln_3a3a,ln_26,ln_6d757420,ln_72656620,ln_204020,ln_2e2e3d,ln_207b20,ln_207d,ln_7d,ln_2e2e,ln_3a20,ln_207c20,ln_5f,ln_21,ln_2761,ln_54,ln_7538,ln_78,ln_79,ln_6e,ln_6d,ln_74727565,ln_66616c7365,ln_37,ln_2d31,ln_2d33,ln_39,ln_31,ln_32,ln_73656c66,ln_53656c66,ln_7375706572,ln_6372617465,ln_41,ln_62,ln_4332,ln_3c75383e,ln_3c27612c20542c205f3e]; (repeat' split) <;> omega)); (case zqN => k_asm); (case zqhx => rfl); (case zqsw => rfl)); (try dsimp -zeta only [PV.at]); intro t9 h9 tk9 M9 F9 N9))
  k_with "my execs cons If" => ((k_here; (with_reducible show wpAny _ _ (execs (Stmt.If _ _ [] _ :: _) _) _ _ _); k_dflt (refine' pure_ifE ?zqhe ?zqhpl ?zqF ?zqhk ?zqhp ?zqh ?zqhn ?zqhc ?_; (case zqhpl => exact rfl); (case zqhe => exact rfl); (case zqF => k_asm); (case zqhk => rfl); (case zqh => exact rfl); (case zqhn => first | exact Nat.zero_le _ | k_extra "my size9" | (simp only [PySem.Str.length_append, PySem.sizeLine_eq, ln_e,ln_28,ln_29,ln_2c20,ln_2c,ln_2c29,ln_3c,ln_3e,ln_3a3a,ln_26,ln_6d757420,ln_72656620,ln_204020,ln_2e2e3d,ln_207b20,ln_207d,ln_7d,ln_2e2e,ln_3a20,ln_207c20,ln_5f,ln_21,ln_2761,ln_54,ln_7538,ln_78,ln_79,ln_6e,ln_6d,ln_74727565,ln_66616c7365,ln_37,ln_2d31,ln_2d33,ln_39,ln_31,ln_32,ln_73656c66,ln_53656c66,ln_7375706572,ln_6372617465,ln_41,ln_62,ln_4332,ln_3c75383e,ln_3c27612c20542c205f3e]; omega) | (simp only [lenIf, PySem.Str.length_append, PySem.sizeLine_eq, ln_e,ln_28,ln_29,ln_2c20,ln_2c,ln_2c29,ln_3c,ln_3e,ln_3a3a,ln_26,ln_6d757420,ln_72656620,ln_204020,ln_2e2e3d,ln_207b20,ln_207d,ln_7d,ln_2e2e,ln_3a20,ln_207c20,ln_5f,ln_21,ln_2761,ln_54,ln_7538,ln_78,ln_79,ln_6e,ln_6d,ln_74727565,ln_66616c7365,ln_37,ln_2d31,ln_2d33,ln_39,ln_31,ln_32,ln_73656c66,ln_53656c66,ln_7375706572,ln_6372617465,ln_41,ln_62,ln_4332,ln_3c75383e,ln_3c27612c20542c205f3e]; (repeat' split) <;> omega)); (case zqhp => rfl); (case zqhc => exact rfl)); intro tk9; (try dsimp only)))
  k_with "my eval BinOp" => ((k_here; (with_reducible show wpAny _ _ (eval (Expr.BinOp _ _ _ _) _) _ _ _); k_dflt (refine' pure_evalE ?zqhe ?zqhpl ?zqF ?zqhk ?zqh ?zqhn ?_; (case zqhpl => exact rfl); (case zqhe => exact rfl); (case zqF => k_asm); (case zqhk => rfl); (case zqh => exact rfl); (case zqhn => first | exact Nat.zero_le _ | k_extra "my size9" | (simp only [PySem.Str.length_append, PySem.sizeLine_eq, ln_e,ln_28,ln_29,ln_2c20,ln_2c,ln_2c29,ln_3c,ln_3e,ln_3a3a,ln_26,ln_6d757420,ln_72656620,ln_204020,ln_2e2e3d,ln_207b20,ln_207d,ln_7d,ln_2e2e,ln_3a20,ln_207c20,ln_5f,ln_21,ln_2761,ln_54,ln_7538,ln_78,ln_79,ln_6e,ln_6d,ln_74727565,ln_66616c7365,ln_37,ln_2d31,ln_2d33,ln_39,ln_31,ln_32,ln_73656c66,ln_53656c66,ln_7375706572,ln_6372617465,ln_41,ln_62,ln_4332,ln_3c75383e,ln_3c27612c20542c205f3e]; omega) | (simp only [lenIf, PySem.Str.length_append, PySem.sizeLine_eq, ln_e,ln_28,ln_29,ln_2c20,ln_2c,ln_2c29,ln_3c,ln_3e,ln_3a3a,ln_26,ln_6d757420,ln_72656620,ln_204020,ln_2e2e3d,ln_207b20,ln_207d,ln_7d,ln_2e2e,ln_3a20,ln_207c20,ln_5f,ln_21,ln_2761,ln_54,ln_7538,ln_78,ln_79,ln_6e,ln_6d,ln_74727565,ln_66616c7365,ln_37,ln_2d31,ln_2d33,ln_39,ln_31,ln_32,ln_73656c66,ln_53656c66,ln_7375706572,ln_6372617465,ln_41,ln_62,ln_4332,ln_3c75383e,ln_3c27612c20542c205f3e]; (repeat' split) <;> omega))); intro t9 tk9; (try dsimp only [PV.at])))
  k_with "my eval BinOp" => ((k_here; (with_reducible show wpAny _ _ (eval (Expr.BinOp (Expr.Constant _ _ _) Operator.Mult (Expr.Call (Expr.Name _ _) [Expr.Name _ _] [] _) _) _) _ _ _); k_dflt (refine' mul_intE ?zqhe ?zqF ?zqX ?zqT ?zqhI ?zqhx ?zqhk ?zqhi ?zqhxl ?zqhl ?_; (case zqhe => exact rfl); (case zqF => k_asm); (case zqX => k_asm); (case zqT => k_asm); (case zqhI => k_is); (case zqhx => rfl); (case zqhk => rfl); (case zqhi => rfl); (case zqhxl => rfl); (case zqhl => decide +kernel)); intro t9 tk9; (try dsimp only)))
  k_with "my eval Compare" => ((k_here; (with_reducible show wpAny _ _ (eval (Expr.Compare _ _ _ _) _) _ _ _); k_dflt (refine' pure_evalE ?zqhe ?zqhpl ?zqF ?zqhk ?zqh ?zqhn ?_; (case zqhpl => exact rfl); (case zqhe => exact rfl); (case zqF => k_asm); (case zqhk => rfl); (case zqh => exact rfl); (case zqhn => first | exact Nat.zero_le _ | k_extra "my size9" | (simp only [PySem.Str.length_append, PySem.sizeLine_eq, ln_e,ln_28,ln_29,ln_2c20,ln_2c,ln_2c29,ln_3c,ln_3e,ln_3a3a,ln_26,ln_6d757420,ln_72656620,ln_204020,ln_2e2e3d,ln_207b20,ln_207d,ln_7d,ln_2e2e,ln_3a20,ln_207c20,ln_5f,ln_21,ln_2761,ln_54,ln_7538,ln_78,ln_79,ln_6e,ln_6d,ln_74727565,ln_66616c7365,ln_37,ln_2d31,ln_2d33,ln_39,ln_31,ln_32,ln_73656c66,ln_53656c66,ln_7375706572,ln_6372617465,ln_41,ln_62,ln_4332,ln_3c75383e,ln_3c27612c20542c205f3e]; omega) | (simp only [lenIf, PySem.Str.length_append, PySem.sizeLine_eq, ln_e,ln_28,ln_29,ln_2c20,ln_2c,ln_2c29,ln_3c,ln_3e,ln_3a3a,ln_26,ln_6d757420,ln_72656620,ln_204020,ln_2e2e3d,ln_207b20,ln_207d,ln_7d,ln_2e2e,ln_3a20,ln_207c20,ln_5f,ln_21,ln_2761,ln_54,ln_7538,ln_78,ln_79,ln_6e,ln_6d,ln_74727565,ln_66616c7365,ln_37,ln_2d31,ln_2d33,ln_39,ln_31,ln_32,ln_73656c66,ln_53656c66,ln_7375706572,ln_6372617465,ln_41,ln_62,ln_4332,ln_3c75383e,ln_3c27612c20542c205f3e]; (repeat' split) <;> omega))); intro t9 tk9; (try dsimp only [PV.at])))
  k_with "my eval IfExp" => ((k_here; (with_reducible show wpAny _ _ (eval (Expr.IfExp _ _ _ _) _) _ _ _); k_dflt (refine' pure_evalE ?zqhe ?zqhpl ?zqF ?zqhk ?zqh ?zqhn ?_; (case zqhpl => exact rfl); (case zqhe => exact rfl); (case zqF => k_asm); (case zqhk => rfl); (case zqh => exact rfl); (case zqhn => first | exact Nat.zero_le _ | k_extra "my size9" | (simp only [PySem.Str.length_append, PySem.sizeLine_eq, ln_e,ln_28,ln_29,ln_2c20,ln_2c,ln_2c29,ln_3c,ln_3e,ln_3a3a,ln_26,ln_6d757420,ln_72656620,ln_204020,ln_2e2e3d,ln_207b20,ln_207d,ln_7d,ln_2e2e,ln_3a20,ln_207c20,ln_5f,ln_21,ln_2761,ln_54,ln_7538,ln_78,ln_79,ln_6e,ln_6d,ln_74727565,ln_66616c7365,ln_37,ln_2d31,ln_2d33,ln_39,ln_31,ln_32,ln_73656c66,ln_53656c66,ln_7375706572,ln_6372617465,ln_41,ln_62,ln_4332,ln_3c75383e,ln_3c27612c20542c205f3e]; omega) | (simp only [lenIf, PySem.Str.length_append, PySem.sizeLine_eq, ln_e,ln_28,ln_29,ln_2c20,ln_2c,ln_2c29,ln_3c,ln_3e,ln_3a3a,ln_26,ln_6d757420,ln_72656620,ln_204020,ln_2e2e3d,ln_207b20,ln_207d,ln_7d,ln_2e2e,ln_3a20,ln_207c20,ln_5f,ln_21,ln_2761,ln_54,ln_7538,ln_78,ln_79,ln_6e,ln_6d,ln_74727565,ln_66616c7365,ln_37,ln_2d31,ln_2d33,ln_39,ln_31,ln_32,ln_73656c66,ln_53656c66,ln_7375706572,ln_6372617465,ln_41,ln_62,ln_4332,ln_3c75383e,ln_3c27612c20542c205f3e]; (repeat' split) <;> omega))); intro t9 tk9; (try dsimp only [PV.at])))
  k_with "my isTrue Compare" => ((k_here; (with_reducible show wpAny _ _ (PySem.isTrue (Expr.Compare _ _ _ _) _ _) _ _ _); k_dflt (refine' pure_testE ?zqhe ?zqhpl ?zqF ?zqhk ?zqhp ?zqh ?zqhc ?zqhn ?_; (case zqhpl => exact rfl); (case zqhe => exact rfl); (case zqF => k_asm); (case zqhk => rfl); (case zqh => exact rfl); (case zqhn => first | exact Nat.zero_le _ | k_extra "my size9" | (simp only [PySem.Str.length_append, PySem.sizeLine_eq, ln_e,ln_28,ln_29,ln_2c20,ln_2c,ln_2c29,ln_3c,ln_3e,ln_3a3a,ln_26,ln_6d757420,ln_72656620,ln_204020,ln_2e2e3d,ln_207b20,ln_207d,ln_7d,ln_2e2e,ln_3a20,ln_207c20,ln_5f,ln_21,ln_2761,ln_54,ln_7538,ln_78,ln_79,ln_6e,ln_6d,ln_74727565,ln_66616c7365,ln_37,ln_2d31,ln_2d33,ln_39,ln_31,ln_32,ln_73656c66,ln_53656c66,ln_7375706572,ln_6372617465,ln_41,ln_62,ln_4332,ln_3c75383e,ln_3c27612c20542c205f3e]; omega) | (simp only [lenIf, PySem.Str.length_append, PySem.sizeLine_eq, ln_e,ln_28,ln_29,ln_2c20,ln_2c,ln_2c29,ln_3c,ln_3e,ln_3a3a,ln_26,ln_6d757420,ln_72656620,ln_204020,ln_2e2e3d,ln_207b20,ln_207d,ln_7d,ln_2e2e,ln_3a20,ln_207c20,ln_5f,ln_21,ln_2761,ln_54,ln_7538,ln_78,ln_79,ln_6e,ln_6d,ln_74727565,ln_66616c7365,ln_37,ln_2d31,ln_2d33,ln_39,ln_31,ln_32,ln_73656c66,ln_53656c66,ln_7375706572,ln_6372617465,ln_41,ln_62,ln_4332,ln_3c75383e,ln_3c27612c20542c205f3e]; (repeat' split) <;> omega)); (case zqhp => rfl); (case zqhc => exact rfl)); intro tk9; (try dsimp only)))
  k_with "my eval Tuple" => ((k_here; (with_reducible show wpAny _ _ (eval (Expr.Tuple _ _ _) _) _ _ _); k_dflt (refine' pure_tupleE ?zqhe ?zqhpl ?zqF ?zqN ?zqhk ?zqh ?zqhn ?zqhz ?_; (case zqhpl => exact rfl); (case zqhe => exact rfl); (case zqF => k_asm); (case zqhk => rfl); (case zqh => exact rfl); (case zqhn => first | exact Nat.zero_le _ | k_extra "my size9" | (simp only [PySem.Str.length_append, PySem.sizeLine_eq, ln_e,ln_28,ln_29,ln_2c20,ln_2c,ln_2c29,ln_3c,ln_3e,ln_3a3a,ln_26,ln_6d757420,ln_72656620,ln_204020,ln_2e2e3d,ln_207b20,ln_207d,ln_7d,ln_2e2e,ln_3a20,ln_207c20,ln_5f,ln_21,ln_2761,ln_54,ln_7538,ln_78,ln_79,ln_6e,ln_6d,ln_74727565,ln_66616c7365,ln_37,ln_2d31,ln_2d33,ln_39,ln_31,ln_32,ln_73656c66,ln_53656c66,ln_7375706572,ln_6372617465,ln_41,ln_62,ln_4332,ln_3c75383e,ln_3c27612c20542c205f3e]; omega) | (simp only [lenIf, PySem.Str.length_append, PySem.sizeLine_eq, ln_e,ln_28,ln_29,ln_2c20,ln_2c,ln_2c29,ln_3c,ln_3e,ln_3a3a,ln_26,ln_6d757420,ln_72656620,ln_204020,ln_2e2e3d,ln_207b20,ln_207d,ln_7d,ln_2e2e,ln_3a20,ln_207c20,ln_5f,ln_21,ln_2761,ln_54,ln_7538,ln_78,ln_79,ln_6e,ln_6d,ln_74727565,ln_66616c7365,ln_37,ln_2d31,ln_2d33,ln_39,ln_31,ln_32,ln_73656c66,ln_53656c66,ln_7375706572,ln_6372617465,ln_41,ln_62,ln_4332,ln_3c75383e,ln_3c27612c20542c205f3e]; (repeat' split) <;> omega)); (case zqN => k_asm); (case zqhz => exact Nat.le_of_ble_eq_true rfl)); intro tk9; (try dsimp only [AllAt]); intros; (rename_i D' h' F' N' l1); (try k_sweep)))
  k_with "my spliced" => ((k_here; (with_reducible show wpAny _ _ (spliced (backTo _ (starEach (_ :: _) _))) _ _ _); k_dflt (refine' pure_argsE ?zqhe ?zqhpl ?zqhk ?zqF ?zqh ?zqhn ?_; (case zqhpl => exact rfl); (case zqhe => exact rfl); (case zqF => k_asm); (case zqhk => rfl); (case zqh => exact rfl); (case zqhn => first | exact Nat.zero_le _ | k_extra "my size9" | (simp only [PySem.Str.length_append, PySem.sizeLine_eq, ln_e,ln_28,ln_29,ln_2c20,ln_2c,ln_2c29,ln_3c,ln_3e,ln_3a3a,ln_26,ln_6d757420,ln_72656620,ln_204020,ln_2e2e3d,ln_207b20,ln_207d,ln_7d,ln_2e2e,ln_3a20,ln_207c20,ln_5f,ln_21,ln_2761,ln_54,ln_7538,ln_78,ln_79,ln_6e,ln_6d,ln_74727565,ln_66616c7365,ln_37,ln_2d31,ln_2d33,ln_39,ln_31,ln_32,ln_73656c66,ln_53656c66,ln_7375706572,ln_6372617465,ln_41,ln_62,ln_4332,ln_3c75383e,ln_3c27612c20542c205f3e]; omega) | (simp only [lenIf, PySem.Str.length_append, PySem.sizeLine_eq, ln_e,ln_28,ln_29,ln_2c20,ln_2c,ln_2c29,ln_3c,ln_3e,ln_3a3a,ln_26,ln_6d757420,ln_72656620,ln_204020,ln_2e2e3d,ln_207b20,ln_207d,ln_7d,ln_2e2e,ln_3a20,ln_207c20,ln_5f,ln_21,ln_2761,ln_54,ln_7538,ln_78,ln_79,ln_6e,ln_6d,ln_74727565,ln_66616c7365,ln_37,ln_2d31,ln_2d33,ln_39,ln_31,ln_32,ln_73656c66,ln_53656c66,ln_7375706572,ln_6372617465,ln_41,ln_62,ln_4332,ln_3c75383e,ln_3c27612c20542c205f3e]; (repeat' split) <;> omega))); intro tk9; (try dsimp only [AllAt, List.cons_append, List.nil_append]); intros; (try dsimp only [List.cons_append, List.nil_append])))
  k_with "my eval Name" => ((k_here; (with_reducible show wpAny _ _ (eval (Expr.Name _ _) (envOf _ _ _ _ _)) _ _ _); k_dflt (first | (refine' nameX_L ?zqF ?zqv ?_ ?zqa ?zqb; (case zqF => k_asm); (case zqa => rfl); (case zqb => rfl); (case zqv => rfl); k_whole) | (refine' nameX_K ?zqF ?zqX ?zqT ?zqe ?_ ?zqa ?zqb; (case zqF => k_asm); (case zqX => k_asm); (case zqT => k_asm); (case zqa => rfl); (case zqb => rfl); (case zqe => k_is); k_whole))))
  k_with "my k_all" => (first | with_reducible assumption | (refine List.forall_mem_append.mpr ⟨?_, ?_⟩ <;> k_all))
  k_with "my k_updF" => ((refine' UpdF.app ?zqa ?zqb; (case zqa => k_all); (case zqb => k_updF)))
  k_with "my subscriptTail" => ((k_here; (with_reducible show wpAny _ _ (subscriptTail _ _ (Value.ref _) (Value.int _ _)) _ _ _); k_dflt (refine' itemL ?zql ?zqa ?zqb ?zqd ?_; (case zql => is_list); (case zqa => decide); (case zqb => decide); (case zqd => rfl))))
  k_with "my lcg_off" => (first | assumption | exact True.intro | (refine And.intro ⟨by k_ne, by k_ne, by k_ne⟩ ?_; lcg_off) | (refine off3_app ?_ (fun p hp => hVn9 p hp _ (by k_mem)) (fun p hp => hVn9 p hp _ (by k_mem)) (fun p hp => hVn9 p hp _ (by k_mem)); lcg_off))
  k_with "my CompRest" => ((with_unfolding_all first | (refine LCg.CompRest.succ ?_; intro v' I' oI' C' oC' D' m' h' tk' E' hv' hC' hx' F' N' off' ne'; (first | lcg_open hv' | (obtain ⟨t9', hv9'⟩ := hv'; subst hv9')); (have offW := off'); (have offV := off'); (repeat (replace offV := And.right offV)); (try simp only [LCg.Off3, and_true] at off')) | refine LCg.CompRest.zero ?_))
  k_with "my tb_start" => (first | exact Minus.here | (refine' Minus.there ?zqmn9; (case zqmn9 => tb_start)))
  k_with "my CompEnd" => ((k_dflt (refine' comp_end ?zqa ?zqb ?zqc ?zqd ?zqe ?zqf ?zqg ?zqh ?zqi ?zqj ?_; (case zqa => k_asm); (case zqb => k_asm); (case zqc => tb_start); (case zqd => tb_start); (case zqe => tb_start); (case zqf => k_mem); (case zqg => k_mem); (case zqh => k_mem); (case zqi => lcg_off); (case zqj => lcg_src))))
  k_with "my subscriptTail Name Slice ref ref" => ((k_here; (with_reducible show wpAny _ _ (subscriptTail _ (PySem.Expr.Slice _ _ none _) (Value.ref _) (Value.ref _)) _ _ _); k_dflt (refine' kms_slice_lit ?zqF ?zqN ?zql ?zqp ?zqq ?zqe ?_ ?zqs ?zqt ?zqz; (case zqF => k_asm); (case zqN => k_asm); (case zql => kmk_list); (case zqp => kmk_part); (case zqq => kmk_part); (case zqe => first | exact (rfl : _ = []) | exact (rfl : _ = [_]) | exact (rfl : _ = [_, _]) | exact (rfl : _ = [_, _, _])); (case zqs => with_unfolding_all rfl); (case zqt => kmk_pure); (case zqz => exact Nat.le_of_ble_eq_true rfl)); intro D' h' F' N' l1; (try k_lt l1); (try k_sweep)))
  k_with "my CompSrc" => ((k_here; k_dflt (first | (refine LCg.CompSrc.ledger (by rfl) (by k_asm) (by k_asm) (by k_mem) (by exact Nat.le_of_ble_eq_true rfl) ?_; intro g'; lcg_lit) | (refine LCg.CompSrc.range (by rfl) (by k_asm) (by k_asm) (by assumption) (by first | decide | rfl) (by first | rfl | decide) (by exact Nat.le_of_ble_eq_true rfl) ?_; intro g'; lcg_lit))))
  k_with "my eval ListComp" => ((k_here; k_dflt (refine LCg.ListComp_U (F₀ := by k_asm) (by with_unfolding_all rfl) (by decide) (by rfl) (by decide) (by rfl) ?_)))
  k_with "my newTuple" => ((k_here; k_dflt (refine' kup_newTuple ?zqF ?zqN ?_ ?zqz; (case zqF => k_asm); (case zqN => k_asm); (case zqz => exact Nat.le_of_ble_eq_true rfl)); intro D' h' F' N' l1; (try k_sweep)))
  k_with "my k_ne" => (first | with_reducible assumption | exact ne_raw (by with_reducible assumption) (by k_mem) | exact (ne_raw (by with_reducible assumption) (by k_mem)).symm)
  k_with "my k_ne" => (first | with_reducible assumption | exact Ne.symm (by with_reducible assumption) | exact Apart.ne (by with_reducible assumption) | exact (Apart.ne (by with_reducible assumption)).symm | exact ne_raw (by with_reducible assumption) (by k_mem) | exact (ne_raw (by with_reducible assumption) (by k_mem)).symm | exact off1_ne (by with_reducible assumption) (by k_mem) | exact (off1_ne (by with_reducible assumption) (by k_mem)).symm | exact off3_I (by with_reducible assumption) (by k_mem) | exact off3_C (by with_reducible assumption) (by k_mem) | exact off3_D (by with_reducible assumption) (by k_mem) | exact (off3_I (by with_reducible assumption) (by k_mem)).symm | exact (off3_C (by with_reducible assumption) (by k_mem)).symm | exact (off3_D (by with_reducible assumption) (by k_mem)).symm | (refine neN ?_; (try dsimp only); omega))
  k_with "my k_lt on" => (skip)
  k_with "my CompRest" => ((with_unfolding_all first | (refine LCg.CompRest.succ ?_; intro v' I' oI' C' oC' D' m' h' tk' E' hv' hC' hx' F' N' off' ne'; (first | lcg_open hv' | (obtain ⟨t9', hv9'⟩ := hv'; subst hv9')); (have nA' : Apart _ _ := And.left ne'); (have nB' : Apart _ _ := And.left (And.right ne')); (have nC' : Apart _ _ := And.right (And.right ne')); (clear ne'); (have offV := off'); (repeat (replace offV := And.right offV)); (have offW := off'); (try simp only [List.nil_append, List.cons_append, List.append_assoc] at offW)) | refine LCg.CompRest.zero ?_))
  k_with "my FinE" => (((unfold LCg.FinE); intro D' h' tk' F' N' o1'; (try simp only [List.nil_append, List.cons_append] at N' o1'); (try dsimp only)))
  k_with "my FinA" => (((unfold LCg.FinA); intro D' h' tk' F' N' o1'; (try simp only [List.nil_append, List.cons_append] at N' o1'); (try dsimp only)))
  k_with "my lcg_sub" => ((intro p9 hp9; repeat (first | exact hp9 | exact List.mem_append_left _ hp9 | refine List.mem_append_right _ ?_ | refine List.Mem.tail _ ?_)))
  k_with "my call ref" => ((k_here; (with_reducible show wpAny _ _ (call (Value.ref 113) _) _ _ _); k_dflt (first | (refine' tuse (plain _ _) ?zqB ?zqF ?zqX ?zqN ?zqT ?zqhk ?zqhd ?zqhu ?zqU ?zqho ?zqhp ?_; (case zqhp => trivial); (case zqB => k_asm); (case zqF => k_asm); (case zqX => k_asm); (case zqN => k_asm); (case zqT => k_asm); (case zqhk => first | exact rfl | assumption); (case zqhd => k_extra "my room9"); (case zqhu => k_extra "my units9"); (case zqU => k_updF); (case zqho => with_reducible assumption); intro r9 o9 V9 h9 tk9 ho9 F9 N9 hV9 hVn9 hP9; obtain ⟨c9, a9, P9, t9, n9, e1, hc9, pat9, ok9, wt9, dep9, hT9, oa9, ha9⟩ := hP9; subst e1; (have fr9 := freshV_of (by assumption) hV9 hVn9 (by lcg_sub)); (have hl9 := P9.len ok9); (try simp only [List.nil_append, List.cons_append, List.append_nil, List.append_assoc] at N9); (replace N9 := news_plus N9 hc9 (by lcg_sub)); (have hcs9 : Apart _ _ := fr9.ne hc9); (try simp only [List.nil_append, List.cons_append, List.append_nil, List.append_assoc] at N9); (try dsimp only); (try k_sweep)))))
  trivial
theorem part0 (w : World) (src : Addr) (tt : Tok) : TSpec w 118 [.ref src, .int 0 tt] src (fun _ => True) (PartPost 20 0) 12 := by
  unfold TSpec
  intro o prg loose mean mg mb dp un gd cn cs a ccd cl outer A₀ base h₀ L m s Q E hso B F X T hk hdp hun hos hsL hs0 hpre hret
  obtain ⟨VA, hVA, hVAs, hall⟩ := all_led F hs0
  have N : News h₀ L s.heap ((src, o) :: VA) := by
    intro p hp
    rcases List.mem_cons.mp hp with rfl | hp
    · exact ⟨hos, hsL, hs0⟩
    · exact hVA p hp
  refine wpAny_call ?_
  k_dflt (refine' code_defC (binds := [(Str.ofString "source", .ref src), (Str.ofString "deep", .int 0 tt)]) B F X N T ?kA ?kF ?kK ?k6 ?k7 ?k8 ?k9 ?kB ?kD ?_ ?c2 ?c3 ?c4; (case kA => exact rfl); (case kF => exact rfl); (case kK => exact hk); (case k6 => k_is); (case k7 => k_is); (case k8 => k_extra "my room9"); (case k9 => first | exact BindsTo.of_eq rfl | exact binds_K (by k_in) rfl (by k_is) rfl rfl rfl); (case kB => exact rfl); (case kD => decide +kernel); (case c2 => exact rfl); (case c3 => exact rfl); (case c4 => exact rfl))
  intro g' L' h' tk' cells' FG' F' N' Y' B' X' T' l1
  have le9 := l1
  replace l1 := allLt_of l1
  simp only [AllLt, and_true] at l1
  k_cells Y'
  (try simp only [List.cons_append, List.nil_append] at N')
  (try dsimp only); (try k_unmd); (try k_fold)
  k_steps
  all_goals first
    | (refine' part_endP hret hall ?kF ?N ?sA ?hs ?ho ?hc ?hcf ?ha ?pat ?fr ?sub ?e1 ?e2 ?ok ?hw ?hd
       case kF => assumption
       case N => assumption
       case sA => lcg_sub
       case hs => k_mem
       case ho => assumption
       case hc => k_mem
       case hcf => exact fresh_of le9 (by assumption) (by k_mem)
       case ha => assumption
       case pat => assumption
       case fr => assumption
       case sub => lcg_sub
       case e1 => rfl
       case e2 => exact Eq.symm (by assumption)
       case ok => assumption
       case hw => assumption
       case hd => assumption)
    | (fail)
theorem words_W15_1 : True := by
  k_with "my len9" => (((with_reducible refine' lenMul ?_) <;> (first | k_extra "my len9" | with_reducible show Nat)))
  k_with "my k_memK" => (first | with_reducible exact List.mem_cons_self | (with_reducible refine List.mem_cons_of_mem _ ?_; k_memK))
  k_with "my lcg_off" => (first | with_reducible assumption | exact True.intro | (refine And.intro ⟨by k_ne, by k_ne, by k_ne⟩ ?_; lcg_off) | (refine off3_cat ?_ ?_ <;> lcg_off) | exact off3_new (by with_reducible assumption) (by k_mem) (by k_mem) (by k_mem) | exact off3_l (by with_reducible assumption) | exact off3_r (by with_reducible assumption))
  k_with "my binaryOp Add int int" => (((with_reducible show wpAny _ _ (binaryOp Operator.Add (Value.int 1 _) (Value.int _ _)) _ _ _); (refine' add_12 ?zqh0 ?zqh1 ?_ ?_; (case zqh0 => with_reducible assumption); (case zqh1 => with_reducible assumption))))
  k_with "my call type:int" => (((with_reducible show wpAny _ _ (call (Value.type "int") [Value.bool (_ == (0 : Int))]) _ _ _); (refine' int_split2 ?zqh0 ?zqh1 ?_ ?_; (case zqh0 => with_reducible assumption); (case zqh1 => with_reducible assumption)) <;> (intro e3; subst e3)))
  k_with "my eval BoolOp" => ((k_here; (with_reducible show wpAny _ _ (eval (Expr.BoolOp BoolOp.And [_, _, _] _) _) _ _ _); k_dflt (refine' own_kid ?zqk ?zqs ?zqhe ?zqF ?zqN ?zqhk ?zqhx ?zqho ?_; (case zqhe => exact rfl); (case zqF => k_asm); (case zqN => k_asm); (case zqhk => rfl); (case zqhx => exact rfl); (case zqk => with_reducible assumption); (case zqs => lcg_sub); (case zqho => rfl)); intro b9 tk9 hO9; (try dsimp only)))
  k_with "my eval IfExp" => ((k_here; (with_reducible show wpAny _ _ (eval (Expr.IfExp (Expr.BoolOp BoolOp.Or _ _) _ _ _) _) _ _ _); k_dflt (refine' held_kid ?zqk ?zqs ?zqO ?zqhe ?zqF ?zqN ?zqhk ?zqhx ?zqhy ?zqhz ?zqhW ?zqho ?zqhoy ?zqhoz ?_; (case zqhe => exact rfl); (case zqF => k_asm); (case zqN => k_asm); (case zqhk => rfl); (case zqhx => exact rfl); (case zqhy => exact rfl); (case zqk => with_reducible assumption); (case zqO => with_reducible assumption); (case zqhz => exact rfl); (case zqs => lcg_sub); (case zqhW => first | exact Nat.le_trans hW (Nat.le_of_ble_eq_true rfl) | omega); (case zqho => rfl); (case zqhoy => rfl); (case zqhoz => rfl)); intro t9 tk9; (try dsimp only)))
  k_with "my call ref" => ((k_here; (with_reducible show wpAny _ _ (call (Value.ref 94) _) _ _ _); k_dflt (first | ((refine' tuse (take _ _ _ _ ?zqh1 ?zqh2) ?zqB ?zqF ?zqX ?zqN ?zqT ?zqhk ?zqhd ?zqhu ?zqU ?zqho ?zqhp ?_; (case zqhp => trivial); (case zqh1 => first | decide | (simp; done)); (case zqh2 => first | decide | (simp; done)); (case zqB => k_asm); (case zqF => k_asm); (case zqX => k_asm); (case zqN => k_asm); (case zqT => k_asm); (case zqhk => first | exact rfl | assumption); (case zqhd => k_extra "my room9"); (case zqhu => k_extra "my units9"); (case zqU => k_updF); (case zqho => with_reducible assumption); intro r9 o9 V9 h9 tk9 ho9 F9 N9 hV9 hVn9 hP9; obtain ⟨e1, k9, t9, e2, hk0, hk1⟩ := hP9; subst e1; subst e2; (try simp only [List.nil_append, List.cons_append, List.append_nil, List.append_assoc] at N9); (try dsimp only); (try k_sweep))))))
  k_with "my call ref" => ((k_here; (with_reducible show wpAny _ _ (call (Value.ref 118) _) _ _ _); k_dflt (first | (refine' tuse (ih_at ?zqhIH _) ?zqB ?zqF ?zqX ?zqN ?zqT ?zqhk ?zqhd ?zqhu ?zqU ?zqho ?zqhp ?_; (case zqhIH => with_reducible assumption); (case zqhp => trivial); (case zqB => k_asm); (case zqF => k_asm); (case zqX => k_asm); (case zqN => k_asm); (case zqT => k_asm); (case zqhk => first | exact rfl | assumption); (case zqhd => k_extra "my room9"); (case zqhu => k_extra "my units9"); (case zqU => k_updF); (case zqho => with_reducible assumption); intro r9 o9 V9 h9 tk9 ho9 F9 N9 hV9 hVn9 hP9; obtain ⟨c9, a9, P9, u9, x9, n9, oa9, e1, kid9⟩ := hP9; subst e1; (have fr9 := freshV_of (by assumption) hV9 hVn9 (by lcg_sub)); (have hl9 := kid9.len); (have hw9 := kid9.wt); (have hd9 := kid9.dep); (have hc9 : Apart _ _ := fr9.ne kid9.hc); (have ha9 : Apart _ _ := fr9.ne kid9.ha); (try simp only [List.nil_append, List.cons_append, List.append_nil, List.append_assoc] at N9); (try dsimp only); (try k_sweep)))))
  k_with "my call ref" => ((k_here; (with_reducible show wpAny _ _ (call (Value.ref 106) _) _ _ _); k_dflt (first | (refine' tuse (path _ _ _ _ ?zqh1 ?zqh2) ?zqB ?zqF ?zqX ?zqN ?zqT ?zqhk ?zqhd ?zqhu ?zqU ?zqho ?zqhp ?_; (case zqh1 => decide); (case zqh2 => decide); (case zqhp => trivial); (case zqB => k_asm); (case zqF => k_asm); (case zqX => k_asm); (case zqN => k_asm); (case zqT => k_asm); (case zqhk => first | exact rfl | assumption); (case zqhd => k_extra "my room9"); (case zqhu => k_extra "my units9"); (case zqU => k_updF); (case zqho => with_reducible assumption); intro r9 o9 V9 h9 tk9 ho9 F9 N9 hV9 hVn9 hP9; obtain ⟨c9, z9, ns9, way9, t9, u9, n9, e1, hc9, pat9, ok9⟩ := hP9; subst e1; (have fr9 := freshV_of (by assumption) hV9 hVn9 (by lcg_sub)); (have hl9 := pathT_len ok9); (try simp only [List.nil_append, List.cons_append, List.append_nil, List.append_assoc] at N9); (replace N9 := news_plus N9 hc9 (by lcg_sub)); (have hcs9 : Apart _ _ := fr9.ne hc9); (try simp only [List.nil_append, List.cons_append, List.append_nil, List.append_assoc] at N9); (try dsimp only); (try k_sweep)))))
  k_with "my subscriptTail Name Constant ref int" => ((k_here; (with_reducible show wpAny _ _ (subscriptTail _ _ (Value.ref _) (Value.int _ _)) _ _ _); k_dflt (refine' itemL ?zql ?zqa ?zqb ?zqd ?_; (case zql => is_list); (case zqa => decide); (case zqb => decide); (case zqd => rfl))))
  k_with "my assign Tuple" => ((k_here; (with_reducible show wpAny _ _ (assign (Expr.Tuple _ _ _) _ (Value.ref _)) _ _ _); k_dflt (refine' unpackN_ ?zqF ?zqN ?zqT ?zqk1 ?zqk2 ?zqk3 ?_; (case zqF => k_asm); (case zqN => k_asm); (case zqT => exact Kid.tup (by with_reducible assumption) (by with_reducible assumption) (by lcg_sub)); (case zqk1 => exact rfl); (case zqk2 => exact rfl); (case zqk3 => exact rfl)); intro h' F' N'; (try k_sweep)))
  k_with "my subscriptTail" => ((k_here; (with_reducible show wpAny _ _ (subscriptTail _ _ (Value.ref _) (Value.int _ _)) _ _ _); k_dflt (first | (refine' item_tupleT ?zqt ?zqa ?zqb ?zqc ?zqd ?_; (case zqt => exact Kid.tup (by with_reducible assumption) (by with_reducible assumption) (by lcg_sub)); (case zqa => decide); (case zqb => decide); (case zqc => rfl); (case zqd => rfl)) | ((with_reducible show wpAny _ _ (subscriptTail _ _ (Value.ref _) (Value.int 0 _)) _ _ _); refine' item0a ?zqt ?_; (case zqt => exact Kid.otup (by with_reducible assumption) (by with_reducible assumption) (by with_reducible assumption) (by lcg_sub))) | (refine' item_tupleT ?zqt ?zqa ?zqb ?zqc ?zqd ?_; (case zqt => exact Kid.otup (by with_reducible assumption) (by with_reducible assumption) (by with_reducible assumption) (by lcg_sub)); (case zqa => decide); (case zqb => decide); (case zqc => rfl); (case zqd => rfl)) | (refine' item_tupleT ?zqt ?zqa ?zqb ?zqc ?zqd ?_; (case zqt => exact TupNow.t (by with_reducible assumption)); (case zqa => decide); (case zqb => decide); (case zqc => rfl); (case zqd => rfl)) | ((with_reducible show wpAny _ _ (subscriptTail _ _ (Value.ref _) (Value.int 0 _)) _ _ _); (refine' kid_item ?zqk ?zqN ?zqs ?_ ?_ ?_ ?_ ?_; (case zqk => with_reducible assumption); (case zqN => with_reducible assumption); (case zqs => lcg_sub)) <;> intros))))
  k_with "my call builtin:len" => ((k_here; (with_reducible show wpAny _ _ (call (Value.builtin _) [Value.ref _]) _ _ _); k_dflt (first | (refine' len_tuple ?zqt ?zqf ?_; (case zqt => exact TupNow.t (by with_reducible assumption)); (case zqf => first | exact (by decide : ((1 : Nat) : Int) < 2 ^ 63) | exact (by decide : ((2 : Nat) : Int) < 2 ^ 63) | exact (by decide : ((3 : Nat) : Int) < 2 ^ 63))) | (refine' len_path ?zqk ?zqn ?zqs ?_ ?_ ?_; (case zqk => with_reducible assumption); (case zqn => with_reducible assumption); (case zqs => lcg_sub); all_goals intros; all_goals (try (rename _ = [_] => hq9; subst hq9))))))
  k_with "my subscriptTail Name Constant ref int" => ((k_here; (with_reducible show wpAny _ _ (subscriptTail _ _ (Value.ref _) (Value.int _ _)) _ _ _); k_dflt (first | (refine' item_tupleT ?zqt ?zqa ?zqb ?zqc ?zqd ?_; (case zqt => exact Kid.tup (by with_reducible assumption) (by with_reducible assumption) (by lcg_sub)); (case zqa => decide); (case zqb => decide); (case zqc => rfl); (case zqd => rfl)) | ((with_reducible show wpAny _ _ (subscriptTail _ _ (Value.ref _) (Value.int 0 _)) _ _ _); refine' item0a ?zqt ?_; (case zqt => exact Kid.otup (by with_reducible assumption) (by with_reducible assumption) (by with_reducible assumption) (by lcg_sub))) | (refine' item_tupleT ?zqt ?zqa ?zqb ?zqc ?zqd ?_; (case zqt => exact Kid.otup (by with_reducible assumption) (by with_reducible assumption) (by with_reducible assumption) (by lcg_sub)); (case zqa => decide); (case zqb => decide); (case zqc => rfl); (case zqd => rfl)) | (refine' item_tupleT ?zqt ?zqa ?zqb ?zqc ?zqd ?_; (case zqt => exact TupNow.t (by with_reducible assumption)); (case zqa => decide); (case zqb => decide); (case zqc => rfl); (case zqd => rfl)) | ((with_reducible show wpAny _ _ (subscriptTail _ _ (Value.ref _) (Value.int 0 _)) _ _ _); (refine' kid_item ?zqk ?zqN ?zqs ?_ ?_ ?_ ?_ ?_; (case zqk => with_reducible assumption); (case zqN => with_reducible assumption); (case zqs => lcg_sub)) <;> intros))))
  k_with "my compareOp Eq ref ref" => ((k_here; (with_reducible show wpAny _ _ (compareOp CmpOp.Eq (Value.ref _) (Value.ref _)) _ _ _); k_dflt (refine' eq_tup_nil ?zql ?zqb ?zqu ?zqe ?_; (case zql => exact News.isTup (by k_asm) (by k_mem)); (case zqb => exact News.isTup (by k_asm) (by k_mem)); (case zqu => first | units_room | ktr_units); (case zqe => rfl))))
  k_with "my binaryOp Mult ref int" => ((k_here; (with_reducible show wpAny _ _ (binaryOp Operator.Mult (Value.ref _) (Value.int _ _)) _ _ _); k_dflt (refine' KMa.mul ?zqF ?zqN ?zql ?zqlo ?zqhi ?zqz ?zqe ?_; (case zqF => k_asm); (case zqN => k_asm); (case zql => is_list); (case zqlo => decide); (case zqhi => decide); (case zqz => (simp only [List.length_cons, List.length_nil]; decide)); (case zqe => first | exact (rfl : _ = []) | exact (rfl : _ = [_]))); intro D' h' F' N' l1; (try k_sweep)))
  k_with "my call type:zip" => ((k_here; (with_reducible show wpAny _ _ (call (Value.type _) [Value.ref _, Value.ref _]) _ _ _); k_dflt (refine' zlt_new ?zqF ?zqN ?zqa ?zqb ?_; (case zqF => k_asm); (case zqN => k_asm); (case zqa => is_list); (case zqb => exact News.isTup (by k_asm) (by k_mem))); intro D' h' F' N' l1; (try k_sweep)))
  k_with "my call type:zip" => ((k_here; (with_reducible show wpAny _ _ (call (Value.type _) [Value.ref _, Value.ref _]) (SrcZ _ _ _ _ _ _ _ _ _ _ _ _ _) _ _); k_dflt (first | (refine' zll_t1 ?zqhh ?zqF ?zqN ?zqa ?zqb ?_; (case zqhh => rfl); (case zqF => k_asm); (case zqN => k_asm); (case zqa => k_mem); (case zqb => k_mem)) | (refine' zll_t2 ?zqhh ?zqF ?zqN ?zqa ?zqb ?_; (case zqhh => rfl); (case zqF => k_asm); (case zqN => k_asm); (case zqa => k_mem); (case zqb => k_mem))); intro g' F' N'; (try k_sweep); (repeat' refine And.intro ?_ ?_)))
  k_with "my call type:tuple" => ((k_here; (with_reducible show wpAny _ _ (call (Value.type _) [Value.ref _]) _ _ _); k_dflt (first | ((refine' zlt_tup1 ?zqhh ?zqF ?zqN ?zql ?zqa ?zqb ?_; (case zqhh => rfl); (case zqF => k_asm); (case zqN => k_asm); (case zql => with_reducible assumption); (case zqa => k_mem); (case zqb => k_mem)); intro T0' T' h' F' N' l1 l2) | ((refine' zlt_tup2 ?zqhh ?zqF ?zqN ?zql ?zqa ?zqb ?_; (case zqhh => rfl); (case zqF => k_asm); (case zqN => k_asm); (case zql => with_reducible assumption); (case zqa => k_mem); (case zqb => k_mem)); intro T0' T1' T' h' F' N' l1 l2 l3)); (try k_sweep)))
  k_with "my eval ListComp" => ((k_here; (with_reducible show wpAny _ _ (eval (Expr.ListComp _ [⟨Expr.Tuple _ _ _, _, _, _⟩] _ _) _) _ _ _); k_dflt (refine ListComp_Z (by k_asm) (by with_unfolding_all rfl) (by decide) (by rfl) (by decide) (by rfl) (by rfl) (by decide) ?_)))
  k_with "my TurnG" => ((unfold TurnG; intro C' oC' m' h' tk' E' hC' hx' F' N' l1 g'; (have hx1 := And.left hx'); (have hx2 := And.right hx'); (try dsimp only); (try k_unmd); (try k_fold)))
  k_with "my GrowEnd" => ((first | exact GrowEnd.intro ⟨_, rfl⟩ (by with_reducible assumption) | exact GrowEnd.intro ⟨_, rfl⟩ (fun _ _ e => e)))
  k_with "my FinG" => ((unfold FinG; (simp only [AllToks]); intros; rename_i D' h' tk' F' N' l1; (try dsimp only [LCg.lst] at N'); (try dsimp only); (try k_sweep)))
  k_with "my exec Assign" => ((k_fold; walk_at "exec Assign"))
  k_with "my exec Assign cons ListComp" => ((k_fold; walk_at "exec Assign cons ListComp"))
  k_with "my exec If" => ((k_fold; walk_at "exec If"))
  k_with "my exec Return some" => ((k_fold; walk_at "exec Return some"))
  trivial
theorem part_step (w : World) (src : Addr) (d : Int) (W D c : Nat) (hd0 : d ≠ 0) (hW : W ≤ 100000) (IH : ∀ tt, TSpec w 118 [.ref src, .int (d - 1) tt] src (fun _ => True) (PartPost W D) c) (tt : Tok) : TSpec w 118 [.ref src, .int d tt] src (fun _ => True) (PartPost (W + W + 1000) (D + 1)) (c + 12) := by
  unfold TSpec
  intro o prg loose mean mg mb dp un gd cn cs a ccd cl outer A₀ base h₀ L m s Q E hso B F X T hk hdp hun hos hsL hs0 hpre hret
  obtain ⟨VA, hVA, hVAs, hall⟩ := all_led F hs0
  have N : News h₀ L s.heap ((src, o) :: VA) := by
    intro p hp
    rcases List.mem_cons.mp hp with rfl | hp
    · exact ⟨hos, hsL, hs0⟩
    · exact hVA p hp
  refine wpAny_call ?_
  k_dflt (refine' code_defC (binds := [(Str.ofString "source", .ref src), (Str.ofString "deep", .int d tt)]) B F X N T ?kA ?kF ?kK ?k6 ?k7 ?k8 ?k9 ?kB ?kD ?_ ?c2 ?c3 ?c4; (case kA => exact rfl); (case kF => exact rfl); (case kK => exact hk); (case k6 => k_is); (case k7 => k_is); (case k8 => k_extra "my room9"); (case k9 => first | exact BindsTo.of_eq rfl | exact binds_K (by k_in) rfl (by k_is) rfl rfl rfl); (case kB => exact rfl); (case kD => decide +kernel); (case c2 => exact rfl); (case c3 => exact rfl); (case c4 => exact rfl))
  intro g' L' h' tk' cells' FG' F' N' Y' B' X' T' l1
  have le9 := l1
  replace l1 := allLt_of l1
  simp only [AllLt, and_true] at l1
  k_cells Y'
  (try simp only [List.cons_append, List.nil_append] at N')
  (try dsimp only); (try k_unmd); (try k_fold)
  k_steps
  all_goals first
    | (refine' part_endK hret hall ?kF ?N ?sA ?hs ?ho ?k ?fr ?sub ?hW ?hD
       case k => with_reducible assumption
       case kF => with_reducible assumption
       case N => with_reducible assumption
       case sA => lcg_sub
       case hs => k_memK
       case ho => with_reducible assumption
       case fr => with_reducible assumption
       case sub => lcg_sub
       case hW => exact ww3
       case hD => exact Nat.le_succ _)
    | (
       refine' part_end hret hall ?kF ?N ?sA ?hs ?ho ?hc ?hcf ?ha ?haf ?mk ?e1 ?e2 ?ok ?hw ?hd
       case kF => with_reducible assumption
       case N => with_reducible assumption
       case sA => lcg_sub
       case hs => k_memK
       case ho => with_reducible assumption
       case hc => k_memK
       case hcf => exact fresh_of (by with_reducible assumption) (by with_reducible assumption) (by k_memK)
       case ha => k_memK
       case haf => exact fresh_of (by with_reducible assumption) (by with_reducible assumption) (by k_memK)
       case mk =>
         intro h G
         first
         | (refine' PatAt.ref ?y0ref ?y1ref; (case y0ref => (refine' istupG G ?zm ?zf; (case zm => k_memK); (case zf => exact fresh_of (by with_reducible assumption) (by with_reducible assumption) (by k_memK)))); (case y1ref => exact Kid.mk_at (by with_reducible assumption) (by with_reducible assumption) G (by lcg_sub)))
         | (refine' PatAt.bind ?y0bind ?y1bind; (case y0bind => (refine' istupG G ?zm ?zf; (case zm => k_memK); (case zf => exact fresh_of (by with_reducible assumption) (by with_reducible assumption) (by k_memK)))); (case y1bind => exact Kid.mk_at (by with_reducible assumption) (by with_reducible assumption) G (by lcg_sub)))
         | (refine' PatAt.tup1 ?y0tup1 ?y1tup1 ?y2tup1; (case y0tup1 => (refine' istupG G ?zm ?zf; (case zm => k_memK); (case zf => exact fresh_of (by with_reducible assumption) (by with_reducible assumption) (by k_memK)))); (case y1tup1 => (refine' istupG G ?zm ?zf; (case zm => k_memK); (case zf => exact fresh_of (by with_reducible assumption) (by with_reducible assumption) (by k_memK)))); (case y2tup1 => exact Kid.mk_at (by with_reducible assumption) (by with_reducible assumption) G (by lcg_sub)))
         | (refine' PatAt.tup2 ?y0tup2 ?y1tup2 ?y2tup2 ?y3tup2; (case y0tup2 => (refine' istupG G ?zm ?zf; (case zm => k_memK); (case zf => exact fresh_of (by with_reducible assumption) (by with_reducible assumption) (by k_memK)))); (case y1tup2 => (refine' istupG G ?zm ?zf; (case zm => k_memK); (case zf => exact fresh_of (by with_reducible assumption) (by with_reducible assumption) (by k_memK)))); (case y2tup2 => exact Kid.mk_at (by with_reducible assumption) (by with_reducible assumption) G (by lcg_sub)); (case y3tup2 => exact Kid.mk_at (by with_reducible assumption) (by with_reducible assumption) G (by lcg_sub)))
         | (refine' PatAt.var0 ?y0var0 ?y1var0 ?y2var0; (case y0var0 => (refine' istupG G ?zm ?zf; (case zm => k_memK); (case zf => exact fresh_of (by with_reducible assumption) (by with_reducible assumption) (by k_memK)))); (case y1var0 => (refine' istupG G ?zm ?zf; (case zm => k_memK); (case zf => exact fresh_of (by with_reducible assumption) (by with_reducible assumption) (by k_memK)))); (case y2var0 => exact path_at (by with_reducible assumption) (by with_reducible assumption) G (by lcg_sub)))
         | (refine' PatAt.var1 ?y0var1 ?y1var1 ?y2var1 ?y3var1; (case y0var1 => (refine' istupG G ?zm ?zf; (case zm => k_memK); (case zf => exact fresh_of (by with_reducible assumption) (by with_reducible assumption) (by k_memK)))); (case y1var1 => (refine' istupG G ?zm ?zf; (case zm => k_memK); (case zf => exact fresh_of (by with_reducible assumption) (by with_reducible assumption) (by k_memK)))); (case y2var1 => exact path_at (by with_reducible assumption) (by with_reducible assumption) G (by lcg_sub)); (case y3var1 => exact Kid.mk_at (by with_reducible assumption) (by with_reducible assumption) G (by lcg_sub)))
         | (refine' PatAt.var2 ?y0var2 ?y1var2 ?y2var2 ?y3var2 ?y4var2; (case y0var2 => (refine' istupG G ?zm ?zf; (case zm => k_memK); (case zf => exact fresh_of (by with_reducible assumption) (by with_reducible assumption) (by k_memK)))); (case y1var2 => (refine' istupG G ?zm ?zf; (case zm => k_memK); (case zf => exact fresh_of (by with_reducible assumption) (by with_reducible assumption) (by k_memK)))); (case y2var2 => exact path_at (by with_reducible assumption) (by with_reducible assumption) G (by lcg_sub)); (case y3var2 => exact Kid.mk_at (by with_reducible assumption) (by with_reducible assumption) G (by lcg_sub)); (case y4var2 => exact Kid.mk_at (by with_reducible assumption) (by with_reducible assumption) G (by lcg_sub)))
         | (refine' PatAt.fld1 ?y0fld1 ?y1fld1 ?y2fld1 ?y3fld1 ?y4fld1; (case y0fld1 => (refine' istupG G ?zm ?zf; (case zm => k_memK); (case zf => exact fresh_of (by with_reducible assumption) (by with_reducible assumption) (by k_memK)))); (case y1fld1 => (refine' istupG G ?zm ?zf; (case zm => k_memK); (case zf => exact fresh_of (by with_reducible assumption) (by with_reducible assumption) (by k_memK)))); (case y2fld1 => (refine' istupG G ?zm ?zf; (case zm => k_memK); (case zf => exact fresh_of (by with_reducible assumption) (by with_reducible assumption) (by k_memK)))); (case y3fld1 => exact path_at (by with_reducible assumption) (by with_reducible assumption) G (by lcg_sub)); (case y4fld1 => exact Kid.mk_at (by with_reducible assumption) (by with_reducible assumption) G (by lcg_sub)))
         | (refine' PatAt.fld2 ?y0fld2 ?y1fld2 ?y2fld2 ?y3fld2 ?y4fld2 ?y5fld2 ?y6fld2; (case y0fld2 => (refine' istupG G ?zm ?zf; (case zm => k_memK); (case zf => exact fresh_of (by with_reducible assumption) (by with_reducible assumption) (by k_memK)))); (case y1fld2 => (refine' istupG G ?zm ?zf; (case zm => k_memK); (case zf => exact fresh_of (by with_reducible assumption) (by with_reducible assumption) (by k_memK)))); (case y2fld2 => (refine' istupG G ?zm ?zf; (case zm => k_memK); (case zf => exact fresh_of (by with_reducible assumption) (by with_reducible assumption) (by k_memK)))); (case y3fld2 => (refine' istupG G ?zm ?zf; (case zm => k_memK); (case zf => exact fresh_of (by with_reducible assumption) (by with_reducible assumption) (by k_memK)))); (case y4fld2 => exact path_at (by with_reducible assumption) (by with_reducible assumption) G (by lcg_sub)); (case y5fld2 => exact Kid.mk_at (by with_reducible assumption) (by with_reducible assumption) G (by lcg_sub)); (case y6fld2 => exact Kid.mk_at (by with_reducible assumption) (by with_reducible assumption) G (by lcg_sub)))
         | (refine' PatAt.or2 ?y0or2 ?y1or2 ?y2or2 ?y3or2; (case y0or2 => (refine' istupG G ?zm ?zf; (case zm => k_memK); (case zf => exact fresh_of (by with_reducible assumption) (by with_reducible assumption) (by k_memK)))); (case y1or2 => (refine' istupG G ?zm ?zf; (case zm => k_memK); (case zf => exact fresh_of (by with_reducible assumption) (by with_reducible assumption) (by k_memK)))); (case y2or2 => exact Kid.mk_at (by with_reducible assumption) (by with_reducible assumption) G (by lcg_sub)); (case y3or2 => exact Kid.mk_at (by with_reducible assumption) (by with_reducible assumption) G (by lcg_sub)))
       case e1 =>

         first | (simp only [b00, b10, b11, b21, txt_mul_one, txt_mul_zero, pT_wild, pT_litT, pT_litF, pT_lit7, pT_litm, pT_rngA, pT_rngB, pT_name, pT_bind, pT_ref, pT_tup1, pT_tup2, pT_var0, pT_var1, pT_var2, pT_fld1, pT_fld2, pT_or2, heldT, lit_am, lit_ya, lit_n, lit_m, lit_par, S, j0, j1, j2, ape, epa, PySem.Str.append_assoc, if_true, if_false, Bool.false_eq_true]; done) | (simp only [b00, b10, b11, b21, txt_mul_one, txt_mul_zero, pT_wild, pT_litT, pT_litF, pT_lit7, pT_litm, pT_rngA, pT_rngB, pT_name, pT_bind, pT_ref, pT_tup1, pT_tup2, pT_var0, pT_var1, pT_var2, pT_fld1, pT_fld2, pT_or2, heldT, lit_am, lit_ya, lit_n, lit_m, lit_par, S, j0, j1, j2, ape, epa, PySem.Str.append_assoc, if_true, if_false, Bool.false_eq_true, (by with_reducible assumption : Pt.own _ = true)]; done) | (simp only [b00, b10, b11, b21, txt_mul_one, txt_mul_zero, pT_wild, pT_litT, pT_litF, pT_lit7, pT_litm, pT_rngA, pT_rngB, pT_name, pT_bind, pT_ref, pT_tup1, pT_tup2, pT_var0, pT_var1, pT_var2, pT_fld1, pT_fld2, pT_or2, heldT, lit_am, lit_ya, lit_n, lit_m, lit_par, S, j0, j1, j2, ape, epa, PySem.Str.append_assoc, if_true, if_false, Bool.false_eq_true, (by with_reducible assumption : Pt.own _ = false)]; done) | (simp only [b00, b10, b11, b21, txt_mul_one, txt_mul_zero, pT_wild, pT_litT, pT_litF, pT_lit7, pT_litm, pT_rngA, pT_rngB, pT_name, pT_bind, pT_ref, pT_tup1, pT_tup2, pT_var0, pT_var1, pT_var2, pT_fld1, pT_fld2, pT_or2, heldT, lit_am, lit_ya, lit_n, lit_m, lit_par, S, j0, j1, j2, ape, epa, PySem.Str.append_assoc, if_true, if_false, Bool.false_eq_true, (by with_reducible assumption : longB _ = true)]; done) | (simp only [b00, b10, b11, b21, txt_mul_one, txt_mul_zero, pT_wild, pT_litT, pT_litF, pT_lit7, pT_litm, pT_rngA, pT_rngB, pT_name, pT_bind, pT_ref, pT_tup1, pT_tup2, pT_var0, pT_var1, pT_var2, pT_fld1, pT_fld2, pT_or2, heldT, lit_am, lit_ya, lit_n, lit_m, lit_par, S, j0, j1, j2, ape, epa, PySem.Str.append_assoc, if_true, if_false, Bool.false_eq_true, any4 (by with_reducible assumption)]; done)
       case e2 => first | (simp only [b00, b10, b11, b21, txt_mul_one, txt_mul_zero, pT_wild, pT_litT, pT_litF, pT_lit7, pT_litm, pT_rngA, pT_rngB, pT_name, pT_bind, pT_ref, pT_tup1, pT_tup2, pT_var0, pT_var1, pT_var2, pT_fld1, pT_fld2, pT_or2, heldT, lit_am, lit_ya, lit_n, lit_m, lit_par, S, j0, j1, j2, ape, epa, PySem.Str.append_assoc, if_true, if_false, Bool.false_eq_true]; done) | (simp only [b00, b10, b11, b21, txt_mul_one, txt_mul_zero, pT_wild, pT_litT, pT_litF, pT_lit7, pT_litm, pT_rngA, pT_rngB, pT_name, pT_bind, pT_ref, pT_tup1, pT_tup2, pT_var0, pT_var1, pT_var2, pT_fld1, pT_fld2, pT_or2, heldT, lit_am, lit_ya, lit_n, lit_m, lit_par, S, j0, j1, j2, ape, epa, PySem.Str.append_assoc, if_true, if_false, Bool.false_eq_true, (by with_reducible assumption : Pt.own _ = true)]; done) | (simp only [b00, b10, b11, b21, txt_mul_one, txt_mul_zero, pT_wild, pT_litT, pT_litF, pT_lit7, pT_litm, pT_rngA, pT_rngB, pT_name, pT_bind, pT_ref, pT_tup1, pT_tup2, pT_var0, pT_var1, pT_var2, pT_fld1, pT_fld2, pT_or2, heldT, lit_am, lit_ya, lit_n, lit_m, lit_par, S, j0, j1, j2, ape, epa, PySem.Str.append_assoc, if_true, if_false, Bool.false_eq_true, (by with_reducible assumption : Pt.own _ = false)]; done) | (simp only [b00, b10, b11, b21, txt_mul_one, txt_mul_zero, pT_wild, pT_litT, pT_litF, pT_lit7, pT_litm, pT_rngA, pT_rngB, pT_name, pT_bind, pT_ref, pT_tup1, pT_tup2, pT_var0, pT_var1, pT_var2, pT_fld1, pT_fld2, pT_or2, heldT, lit_am, lit_ya, lit_n, lit_m, lit_par, S, j0, j1, j2, ape, epa, PySem.Str.append_assoc, if_true, if_false, Bool.false_eq_true, (by with_reducible assumption : longB _ = true)]; done) | (simp only [b00, b10, b11, b21, txt_mul_one, txt_mul_zero, pT_wild, pT_litT, pT_litF, pT_lit7, pT_litm, pT_rngA, pT_rngB, pT_name, pT_bind, pT_ref, pT_tup1, pT_tup2, pT_var0, pT_var1, pT_var2, pT_fld1, pT_fld2, pT_or2, heldT, lit_am, lit_ya, lit_n, lit_m, lit_par, S, j0, j1, j2, ape, epa, PySem.Str.append_assoc, if_true, if_false, Bool.false_eq_true, any4 (by with_reducible assumption)]; done)
       case ok => (simp only [pO_bind, pO_ref, pO_tup1, pO_tup2, pO_var0, pO_var1, pO_var2, pO_fld1, pO_fld2, pO_or2, pO_wild, pO_litT, pO_litF, pO_lit7, pO_litm, pO_rngA, pO_rngB, pO_name]); first | with_reducible exact Kid.ok (by with_reducible assumption) | with_reducible assumption | with_reducible exact ⟨Kid.ok (by with_reducible assumption), Kid.ok (by with_reducible assumption)⟩ | with_reducible exact ⟨(by with_reducible assumption : PathOk _ _), Kid.ok (by with_reducible assumption)⟩ | with_reducible exact ⟨(by with_reducible assumption : PathOk _ _), Kid.ok (by with_reducible assumption), Kid.ok (by with_reducible assumption)⟩
       case hw => first | exact ww2 (by with_reducible assumption) (by with_reducible assumption) rfl | exact ww1 (by with_reducible assumption) rfl | exact ww0 rfl | (simp only [pW_bind, pW_ref, pW_tup1, pW_tup2, pW_var0, pW_var1, pW_var2, pW_fld1, pW_fld2, pW_or2, pW_wild, pW_litT, pW_litF, pW_lit7, pW_litm, pW_rngA, pW_rngB, pW_name]; omega)
       case hd => first | exact dd2 (by with_reducible assumption) (by with_reducible assumption) | exact dd1 (by with_reducible assumption) | exact dd0 | (simp only [pD_bind, pD_ref, pD_tup1, pD_tup2, pD_var1, pD_var2, pD_fld1, pD_fld2, pD_or2, pD_wild, pD_litT, pD_litF, pD_lit7, pD_litm, pD_rngA, pD_rngB, pD_name, pD_var0]; omega))
theorem part1 (w : World) (src : Addr) (tt : Tok) : TSpec w 118 [.ref src, .int 1 tt] src (fun _ => True) (PartPost 1040 1) 24 := part_step w src 1 20 0 12 (by decide) (by decide) (fun tt => part0 w src tt) tt
theorem part2 (w : World) (src : Addr) (tt : Tok) : TSpec w 118 [.ref src, .int 2 tt] src (fun _ => True) (PartPost 3080 2) 36 := part_step w src 2 1040 1 24 (by decide) (by decide) (fun tt => part1 w src tt) tt
end Mine
end

section
open PySem PySem.W PyProof.Rows
namespace Mine
theorem anew_W17 : True := by
  w_top off
  trivial
set_option maxRecDepth 100000
set_option maxHeartbeats 8000000
theorem filler_w17 : Filler PySem.Challenge.rw_xm0582_01 hd.heap_1 := by k_fill; trivial

theorem words_W17_0 : True := by
  k_with_none
  k_with "my dep9" => ((first | ((with_reducible refine dS ?_); k_dflt (exact rfl)) | ((with_reducible refine dL ?_); k_dflt (exact rfl)) | ((with_reducible refine dR ?_); k_dflt (exact rfl)) | ((with_reducible refine dS1 ?_); k_dflt (exact rfl)) | ((with_reducible refine dL1 ?_); k_dflt (exact rfl)) | ((with_reducible refine dR1 ?_); k_dflt (exact rfl)) | ((with_reducible refine d0 ?_); k_dflt (exact rfl)) | ((with_reducible refine dV ?_); k_dflt (exact rfl)) | ((with_reducible refine dW ?_); k_dflt (exact rfl)) | k_dflt (exact le_of_ble rfl) | omega))
  k_with "my room9" => ((first | k_dflt (exact room_0 hdp) | (k_dflt (refine room_a hdp ?_); k_extra "my dep9") | k_dflt (exact Nat.le_of_ble_eq_true rfl) | ktr_room))
  k_with "my units9" => ((first | (k_dflt (refine' units_a hun ?zqua ?zqub); (case zqua => k_extra "my dep9"); (case zqub => k_dflt (exact rfl))) | k_dflt (exact Nat.le_of_ble_eq_true rfl) | ktr_units))
  k_with "my len9" => (((with_reducible show (_ : Nat) ≤ _); first | with_reducible exact Nat.le_refl 0 | ((with_reducible refine' lenApp ?_ ?_) <;> (first | k_extra "my len9" | with_reducible show Nat)) | ((with_reducible refine' addLe ?_ ?_) <;> (first | k_extra "my len9" | with_reducible show Nat)) | ((with_reducible refine' mulLe ?_) <;> (first | k_extra "my len9" | with_reducible show Nat)) | with_reducible assumption | with_reducible exact Nat.le_of_eq ln_e | with_reducible exact Nat.le_of_eq ln_28 | with_reducible exact Nat.le_of_eq ln_29 | with_reducible exact Nat.le_of_eq ln_2c20 | with_reducible exact Nat.le_of_eq ln_2c | with_reducible exact Nat.le_of_eq ln_2c29 | with_reducible exact Nat.le_of_eq ln_3c | with_reducible exact Nat.le_of_eq ln_3e | with_reducible exact Nat.le_of_eq ln_3a3a | with_reducible exact Nat.le_of_eq ln_26 | with_reducible exact Nat.le_of_eq ln_6d757420 | with_reducible exact Nat.le_of_eq ln_72656620 | with_reducible exact Nat.le_of_eq ln_204020 | with_reducible exact Nat.le_of_eq ln_2e2e3d | with_reducible exact Nat.le_of_eq ln_207b20 | with_reducible exact Nat.le_of_eq ln_207d | with_reducible exact Nat.le_of_eq ln_7d | with_reducible exact Nat.le_of_eq ln_2e2e | with_reducible exact Nat.le_of_eq ln_3a20 | with_reducible exact Nat.le_of_eq ln_207c20 | with_reducible exact Nat.le_of_eq ln_5f | with_reducible exact Nat.le_of_eq ln_21 | with_reducible exact Nat.le_of_eq ln_2761 | with_reducible exact Nat.le_of_eq ln_54 | with_reducible exact Nat.le_of_eq ln_7538 | with_reducible exact Nat.le_of_eq ln_78 | with_reducible exact Nat.le_of_eq ln_79 | with_reducible exact Nat.le_of_eq ln_6e | with_reducible exact Nat.le_of_eq ln_6d | with_reducible exact Nat.le_of_eq ln_74727565 | with_reducible exact Nat.le_of_eq ln_66616c7365 | with_reducible exact Nat.le_of_eq ln_37 | with_reducible exact Nat.le_of_eq ln_2d31 | with_reducible exact Nat.le_of_eq ln_2d33 | with_reducible exact Nat.le_of_eq ln_39 | with_reducible exact Nat.le_of_eq ln_31 | with_reducible exact Nat.le_of_eq ln_32 | with_reducible exact Nat.le_of_eq ln_73656c66 | with_reducible exact Nat.le_of_eq ln_53656c66 | with_reducible exact Nat.le_of_eq ln_7375706572 | with_reducible exact Nat.le_of_eq ln_6372617465 | with_reducible exact Nat.le_of_eq ln_41 | with_reducible exact Nat.le_of_eq ln_62 | with_reducible exact Nat.le_of_eq ln_4332 | with_reducible exact Nat.le_of_eq ln_3c75383e | with_reducible exact Nat.le_of_eq ln_3c27612c20542c205f3e | with_reducible exact lenW1 (by with_reducible assumption) (by with_reducible assumption) | with_reducible exact lenW2 (by with_reducible assumption) (by with_reducible assumption) | with_reducible exact lenV1 (by with_reducible assumption) (by with_reducible assumption) (by with_reducible assumption) | with_reducible exact lenV2 (by with_reducible assumption) (by with_reducible assumption) (by with_reducible assumption) | with_reducible exact And.left (by with_reducible assumption) | with_reducible exact And.right (by with_reducible assumption) | ((with_reducible refine' lenIte ?_ ?_) <;> (first | k_extra "my len9" | with_reducible show Nat)) | ((with_reducible refine' iteLe ?_ ?_) <;> (first | k_extra "my len9" | with_reducible show Nat))))
  k_with "my size9" => (((refine' size_of ?zqsa ?zqsb); (case zqsa => k_extra "my len9"); (case zqsb => k_dflt (exact rfl))))
  k_with "my k_steps" => (repeat' (first | (k_unfold; (try dsimp only)) | walk1 | (dsimp only; walk1) | fail "no step"))
  k_with "my binaryOp Add str str" => (((with_reducible show wpAny _ _ (binaryOp Operator.Add (Value.str _ _) (Value.str _ _)) _ _ _); (refine add_str (hsz := ?zqhsz) ?_); (case zqhsz => first | k_extra "my size9" | (simp only [j0, j1, j2, j3, PySem.Str.length_append, PySem.sizeLine_eq, ln_e,ln_28,ln_29,ln_2c20,ln_2c,ln_2c29,ln_3c,ln_3e,ln_3a3a,ln_26,ln_6d757420,ln_72656620,ln_204020,ln_2e2e3d,ln_207b20,ln_207d,ln_7d,ln_2e2e,ln_3a20,ln_207c20,ln_5f,ln_21,ln_2761,ln_54,ln_7538,ln_78,ln_79,ln_6e,ln_6d,ln_74727565,ln_66616c7365,ln_37,ln_2d31,ln_2d33,ln_39,ln_31,ln_32,ln_73656c66,ln_53656c66,ln_7375706572,ln_6372617465,ln_41,ln_62,ln_4332,ln_3c75383e,ln_3c27612c20542c205f3e]; omega)); intro _ _))
  k_with "my ite" => (first | ((refine' PySem.W.ite_pos ?zqhc ?_); (case zqhc => (first | (k_dflt (exact (show _ = true from rfl))) | with_reducible assumption))) | ((refine' PySem.W.ite_neg ?zqhc ?_); (case zqhc => (first | (k_dflt (exact fun hb9 => absurd (show false = true from hb9) Bool.false_ne_true)) | exact fun hb9 => absurd (hb9.symm.trans (by with_reducible assumption)) (by decide)))))
  k_with "my call builtin:str.join" => ((k_here; (with_reducible show wpAny _ _ (call (Value.builtin _) [Value.str _ _, Value.ref _]) _ _ _); k_dflt (first | refine jn0 (by is_list) ?_ | ((refine' jn1 ?zqhl ?zqhz ?_); (case zqhl => is_list); (case zqhz => first | k_extra "my size9" | (simp only [PySem.Str.length_append, ln_e,ln_28,ln_29,ln_2c20,ln_2c,ln_2c29,ln_3c,ln_3e,ln_3a3a,ln_26,ln_6d757420,ln_72656620,ln_204020,ln_2e2e3d,ln_207b20,ln_207d,ln_7d,ln_2e2e,ln_3a20,ln_207c20,ln_5f,ln_21,ln_2761,ln_54,ln_7538,ln_78,ln_79,ln_6e,ln_6d,ln_74727565,ln_66616c7365,ln_37,ln_2d31,ln_2d33,ln_39,ln_31,ln_32,ln_73656c66,ln_53656c66,ln_7375706572,ln_6372617465,ln_41,ln_62,ln_4332,ln_3c75383e,ln_3c27612c20542c205f3e]; omega))) | ((refine' jn2 ?zqhl ?zqhz ?_); (case zqhl => is_list); (case zqhz => first | k_extra "my size9" | (simp only [PySem.Str.length_append, ln_e,ln_28,ln_29,ln_2c20,ln_2c,ln_2c29,ln_3c,ln_3e,ln_3a3a,ln_26,ln_6d757420,ln_72656620,ln_204020,ln_2e2e3d,ln_207b20,ln_207d,ln_7d,ln_2e2e,ln_3a20,ln_207c20,ln_5f,ln_21,ln_2761,ln_54,ln_7538,ln_78,ln_79,ln_6e,ln_6d,ln_74727565,ln_66616c7365,ln_37,ln_2d31,ln_2d33,ln_39,ln_31,ln_32,ln_73656c66,ln_53656c66,ln_7375706572,ln_6372617465,ln_41,ln_62,ln_4332,ln_3c75383e,ln_3c27612c20542c205f3e]; omega))) | ((refine' jn3 ?zqhl ?zqhz ?_); (case zqhl => is_list); (case zqhz => first | k_extra "my size9" | (simp only [PySem.Str.length_append, ln_e,ln_28,ln_29,ln_2c20,ln_2c,ln_2c29,ln_3c,ln_3e,ln_3a3a,ln_26,ln_6d757420,ln_72656620,ln_204020,ln_2e2e3d,ln_207b20,ln_207d,ln_7d,ln_2e2e,ln_3a20,ln_207c20,ln_5f,ln_21,ln_2761,ln_54,ln_7538,ln_78,ln_79,ln_6e,ln_6d,ln_74727565,ln_66616c7365,ln_37,ln_2d31,ln_2d33,ln_39,ln_31,ln_32,ln_73656c66,ln_53656c66,ln_7375706572,ln_6372617465,ln_41,ln_62,ln_4332,ln_3c75383e,ln_3c27612c20542c205f3e]; omega)))); intro _ _))
  k_with "my units_room" => ((first | (k_dflt (refine' units_b hun ?zqua ?zqub); (case zqua => k_extra "my dep9"); (case zqub => k_dflt (exact rfl))) | (have hcL9 := cLine_is; (simp only [units_deeper, units_in1] at *); (try dsimp only [ktrTop] at *); omega)))
  k_with "my compareOp Eq ref ref" => (((with_reducible show wpAny _ _ (compareOp CmpOp.Eq (Value.ref _) (Value.ref _)) _ _ _); first | refine PySem.SeqAt.eq_list_lengthsAt (by is_list) (by is_list) (by rfl) (by units_room) ?_ | refine PySem.SeqAt.eq_listAt (e := fun _ => true) (items := #[]) (items2 := #[]) (by is_list) (by is_list) rfl (by units_room) (fun j h1 h2 => absurd h1 (Nat.not_lt_zero _)) ?_))
  k_with "my eval Name" => ((k_here; (with_reducible show wpAny _ _ (eval (Expr.Name _ _) (envOf _ _ _ _ _)) _ _ _); k_dflt (first | (refine' nameX_L ?zqF ?zqv ?_ ?zqa ?zqb; (case zqF => k_asm); (case zqa => rfl); (case zqb => rfl); (case zqv => rfl); k_whole) | (refine' nameX_K ?zqF ?zqX ?zqT ?zqe ?_ ?zqa ?zqb; (case zqF => k_asm); (case zqX => k_asm); (case zqT => k_asm); (case zqa => rfl); (case zqb => rfl); (case zqe => k_is); k_whole))))
  trivial
/-- the contract of a function that makes objects; whatever stood stands -/
def MSpec (w : World) (f : Addr) (vs : List Value) (pre : Heap → Prop) (Post : Value → Led → Prop) (cost : Nat) : Prop :=
  ∀ (p : Program) (loose : List Str) (mean : ExcName → Option Value) (mg mb : Str → Option Value) (dp un : Nat) (gd : Option (List Code)) (cn : Str) (cs : Scope) (a : Addr) (ccd : Value) (cl : List (Str × Addr)) (outer : List Env)
    (A₀ : Around) (base h₀ : Heap) (L : Addr) (m : Str → Option Value) (s : Shared) (Q E : Value → Shared → Prop),
    Below A₀ base outer h₀ → Fr h₀ L s.heap m → (hd.heap_1 w.params).In h₀ → Top p loose mean mg mb h₀ → cs.kind = .function →
    dp + cost < recursionLimit → un + 8 * cost < cLine → pre s.heap →
    (∀ r V h' tk', (∀ b o, s.heap.get? b = some o → h'.get? b = some o) → News h₀ L h' V → (∀ p ∈ V, s.heap.get? p.1 = none) → Post r V → Q r { s with heap := h', toks := tk' }) →
    wpAny (model PySem.Challenge.rw_xm0582_01.row.prog w) (ktrTop dp un gd cn cs L a ccd cl outer) (call (.ref f) vs) Q E s
theorem muse {w : World} {f : Addr} {vs : List Value} {pre : Heap → Prop} {Post : Value → Led → Prop} {cost : Nat} (S : MSpec w f vs pre Post cost)
    {p : Program} {loose : List Str} {mean : ExcName → Option Value} {mg mb : Str → Option Value} {dp un : Nat} {gd : Option (List Code)} {cn : Str} {cs : Scope} {a : Addr} {ccd : Value} {cl : List (Str × Addr)} {outer : List Env}
    {A₀ : Around} {base h₀ : Heap} {L : Addr} {m : Str → Option Value} {news : Led} {s : Shared} {Q E : Value → Shared → Prop}
    (B : Below A₀ base outer h₀) (F : Fr h₀ L s.heap m) (X : (hd.heap_1 w.params).In h₀) (N : News h₀ L s.heap news) (T : Top p loose mean mg mb h₀) (hk : cs.kind = .function)
    (hd : dp + cost < recursionLimit) (hu : un + 8 * cost < cLine) (hp : pre s.heap)
    (ret : ∀ r V h' tk', Grows s.heap h' → Fr h₀ L h' m → News h₀ L h' (V ++ news) → (∀ p ∈ V, ∀ q ∈ news, p.1 ≠ q.1) → Post r V → Q r { s with heap := h', toks := tk' }) :
    wpAny (model PySem.Challenge.rw_xm0582_01.row.prog w) (ktrTop dp un gd cn cs L a ccd cl outer) (call (.ref f) vs) Q E s :=
  S _ _ _ _ _ _ _ _ _ _ _ _ _ _ _ _ _ _ _ _ _ _ B F X T hk hd hu hp fun r V h' tk' st NV fr P =>
    ret r V h' tk' st (F.keeps st) (fun p hp => (List.mem_append.mp hp).elim (NV p) ((N.grown st) p)) (fun p hp q hq e => by have := fr p hp; rw [e, (N q hq).1] at this; cases this) P
theorem mret {Post : Value → Led → Prop} {s g h' h₀ : Heap} {L L' : Addr} {m' : Str → Option Value} {sh : Shared} {Q : Value → Shared → Prop} {r : Value} {tk' : Nat} {news' : Led}
    (hret : ∀ r V h' tk', (∀ b o, s.get? b = some o → h'.get? b = some o) → News h₀ L h' V → (∀ p ∈ V, s.get? p.1 = none) → Post r V → Q r { sh with heap := h', toks := tk' })
    (hg : ∀ b o, s.get? b = some o → g.get? b = some o) (F : Fr g L' h' m') (N : News h₀ L h' news') (N' : News g L' h' news') (V : Led) (sub : ∀ p ∈ V, p ∈ news') (post : Post r V) : Q r { sh with heap := h', toks := tk' } := by
  refine hret r V h' tk' (fun b o e => F.keep b o (hg b o e)) (fun p hp => N p (sub p hp)) (fun p hp => ?_) post
  cases e : s.get? p.1 with
  | none => rfl
  | some ob => have := hg _ _ e; rw [(N' p (sub p hp)).2.2] at this; cases this
theorem lt_int_T {prog : Program} {w : World} {A : Around} {E : Value → Shared → Prop} {s : Shared} {a b : Int} {t u : Tok} {Q : Value → Shared → Prop} (hb : a < b) (h : Q (.bool true) s) : wpAny (model prog w) A (compareOp .Lt (.int a t) (.int b u)) Q E s := lt_int (by rw [decide_eq_true hb]; exact h)
def PoolPost (r : Value) (V : Led) : Prop := ∃ D o, r = .ref D ∧ V = [(D, o)] ∧ SrcOk o
theorem islist_keep {s g : Heap} {l : Addr} {its : Array Value} (k : ∀ b o, s.get? b = some o → g.get? b = some o) (h : s.IsList l its) : g.IsList l its := let ⟨o, e, r⟩ := h; ⟨o, k l o e, r⟩
theorem pool_g (c : Int) : 0 ≤ (if -1 - c > c then -1 - c else c) := by split <;> omega
theorem pool_x (c : Int) (b : Bool) : 0 ≤ (if -1 - c > c then -1 - c else c) * (if b = true then 1 else 0) := Int.mul_nonneg (pool_g c) (by split <;> decide)
theorem pool_lt {n : Nat} : (0 : Int) < ((n + 1 : Nat) : Int) := by omega
theorem words_W17_1 : True := by
  k_with "my call builtin:len" => ((k_here; (with_reducible show wpAny _ _ (call (Value.builtin _) [Value.ref _]) _ _ _); k_dflt (refine' len_list ?zqk1 ?zqk3 ?_; (case zqk1 => exact islist_keep (Fr.keep (by with_reducible assumption)) (by with_reducible assumption)); (case zqk3 => first | decide | (simp only [List.size_toArray, List.length_cons]; omega)); (try simp only [List.size_toArray, List.length_cons, List.length_nil]))))
  k_with "my compareOp Lt int int" => ((k_here; (with_reducible show wpAny _ _ (compareOp CmpOp.Lt (Value.int _ _) (Value.int _ _)) _ _ _); k_dflt (refine' lt_int_T ?zqk1 ?_; (case zqk1 => exact pool_lt))))
  k_with "my subscriptTail" => ((k_here; (with_reducible show wpAny _ _ (subscriptTail _ _ (Value.ref _) (Value.int _ _)) _ _ _); k_dflt (refine' itemL ?zql ?zqa ?zqb ?zqd ?_; (case zql => exact islist_keep (Fr.keep (by with_reducible assumption)) (by with_reducible assumption)); (case zqa => decide); (case zqb => decide); (case zqd => rfl))))
  trivial
theorem pool0 (w : World) (scr : Addr) (tt : Tok) : MSpec w 87 [.ref scr, .int 0 tt] (fun h => h.IsList scr #[]) PoolPost 2 := by
  unfold MSpec
  intro prg loose mean mg mb dp un gd cn cs a ccd cl outer A₀ base h₀ L m s Q E B F X T hk hdp hun hpre hret
  have N : News h₀ L s.heap [] := News.nil
  refine wpAny_call ?_
  k_dflt (refine' code_defG (binds := [(Str.ofString "script", .ref scr), (Str.ofString "k", .int 0 tt)]) B F X N T ?kA ?kF ?kK ?k6 ?k7 ?k8 ?k9 ?kB ?_ ?c2 ?c3 ?c4 ?c5; (case kA => exact rfl); (case kF => exact rfl); (case kK => exact hk); (case k6 => k_is); (case k7 => k_is); (case k8 => k_extra "my room9"); (case k9 => first | exact BindsTo.of_eq rfl | exact binds_K (by k_in) rfl (by k_is) rfl rfl rfl); (case c5 => decide); (case kB => exact locs rfl); (case c2 => exact rfl); (case c3 => exact rfl); (case c4 => exact rfl))
  intro g' L' h' FG' F' N' B' X' T' kG'
  (try dsimp only); k_fold
  have hg := gsub_all kG'
  replace hpre := islist_keep hg hpre
  k_steps

  all_goals exact mret hret hg (by assumption) (by assumption) (by assumption) [_] (fun p hp => by rw [List.mem_singleton.mp hp]; exact List.Mem.head _) ⟨_, _, rfl, rfl, SrcOk.mk (pool_x _ _) (Int.fmod_nonneg_of_pos _ (by decide)) (Int.fmod_lt_of_pos _ (by decide))⟩
theorem pool1 (w : World) (scr : Addr) (tt tx : Tok) (x : Int) (r : List Value) (hr : r.length ≤ 63) : MSpec w 87 [.ref scr, .int 0 tt] (fun h => h.IsList scr (Value.int x tx :: r).toArray) PoolPost 2 := by
  unfold MSpec
  intro prg loose mean mg mb dp un gd cn cs a ccd cl outer A₀ base h₀ L m s Q E B F X T hk hdp hun hpre hret
  have N : News h₀ L s.heap [] := News.nil
  refine wpAny_call ?_
  k_dflt (refine' code_defG (binds := [(Str.ofString "script", .ref scr), (Str.ofString "k", .int 0 tt)]) B F X N T ?kA ?kF ?kK ?k6 ?k7 ?k8 ?k9 ?kB ?_ ?c2 ?c3 ?c4 ?c5; (case kA => exact rfl); (case kF => exact rfl); (case kK => exact hk); (case k6 => k_is); (case k7 => k_is); (case k8 => k_extra "my room9"); (case k9 => first | exact BindsTo.of_eq rfl | exact binds_K (by k_in) rfl (by k_is) rfl rfl rfl); (case c5 => decide); (case kB => exact locs rfl); (case c2 => exact rfl); (case c3 => exact rfl); (case c4 => exact rfl))
  intro g' L' h' FG' F' N' B' X' T' kG'
  (try dsimp only); k_fold
  have hg := gsub_all kG'
  replace hpre := islist_keep hg hpre
  k_steps

  all_goals exact mret hret hg (by assumption) (by assumption) (by assumption) [_] (fun p hp => by rw [List.mem_singleton.mp hp]; exact List.Mem.head _) ⟨_, _, rfl, rfl, SrcOk.mk (pool_x _ _) (Int.fmod_nonneg_of_pos _ (by decide)) (Int.fmod_lt_of_pos _ (by decide))⟩
theorem ints_len {vs : List Value} {ns : List Int} (h : IntsAre vs ns) : vs.length = ns.length := by
  induction h with
  | nil => rfl
  | cons n t _ ih => exact congrArg (· + 1) ih
theorem pool (w : World) (scr : Addr) (tt : Tok) (vs : List Value) (ns : List Int) (hi : IntsAre vs ns) (hz : ns.length ≤ 63) : MSpec w 87 [.ref scr, .int 0 tt] (fun h => h.IsList scr vs.toArray) PoolPost 2 := by
  cases hi with
  | nil => exact pool0 w scr tt
  | cons n t hr => exact pool1 w scr tt _ _ _ (by have := ints_len hr; simp only [List.length_cons] at hz; omega)
end Mine
end

section
open PySem PySem.W PyProof.Rows
namespace Mine
set_option maxRecDepth 100000
theorem slice_pre (a y : Str) {i : Int} (hi : i = a.length) : Txt.slice (a ++ y) (some i) none = y := by
  have h2 : i ≤ ((a ++ y).length : Int) := by rw [Str.length_append]; omega
  rw [slice_from_eq (b := ((a ++ y).length : Int)) (by omega) h2 rfl]
  have e1 : (a ++ y).cps.toList = a.cps.toList ++ y.cps.toList := by
    show (a.cps ++ y.cps).toList = _
    simp
  have e2 : i.toNat = a.cps.toList.length := by rw [hi]; simp [Str.length]
  have e3 : (((a ++ y).length : Int) - i).toNat = y.cps.toList.length := by rw [hi, Str.length_append]; simp [Str.length]; omega
  rw [e1, e2, e3, List.drop_left, List.take_length]
theorem slice_refF (p : Pt) : heldT p = Txt.slice (Pt.ref false p).T.1 (some 1) none := by
  show heldT p = Txt.slice (S "&" ++ (S "" ++ heldT p)) (some 1) none
  rw [slice_pre (S "&") _ (by rw [ln_26]; rfl)]
  exact (epa _).symm
theorem slice_refT (p : Pt) : heldT p = Txt.slice (Pt.ref true p).T.1 (some 5) none := by
  show heldT p = Txt.slice (S "&" ++ (S "mut " ++ heldT p)) (some 5) none
  rw [← Str.append_assoc, slice_pre (S "&" ++ S "mut ") _ (by rw [Str.length_append, ln_26, ln_6d757420]; rfl)]
end Mine
end

section
open PySem PySem.W PyProof.Rows
namespace Mine
set_option maxRecDepth 100000
set_option maxHeartbeats 8000000

/-- an address apart from all of a ledger -/
def AwayFrom (a : Addr) (news : Led) : Prop := ∀ q ∈ news, a ≠ q.1
theorem away_ne {a b : Addr} {ob : Obj} {news : Led} (h : AwayFrom a news) (hm : (b, ob) ∈ news) : (a : Nat) ≠ b := h _ hm
section
variable {V news : Led} {c a : Addr} {P : Pt} {t1 t2 : Tok} {n : Nat} {oa : Obj} {W D : Nat} {h₀ h : Heap} {L : Addr}
theorem Kid.now (k : Kid V c a P t1 t2 n oa W D) (N : News h₀ L h news) (sub : ∀ p ∈ V, p ∈ news) : PatAt h a P := k.pat h fun p hp => (N p (sub p hp)).1
theorem path_now {z : Addr} {ns : List Str} {way : Nat} (k : PathV V (.ref z) ns way) (N : News h₀ L h news) (sub : ∀ p ∈ V, p ∈ news) : PathAt h (.ref z) ns way := k h fun p hp => (N p (sub p hp)).1
theorem kid_PS (w : World) (k : Kid V c a P t1 t2 n oa W D) (hW : W ≤ 1000000) (hD : D ≤ 2) : WSpec w 49 [.ref a] (fun h => PatAt h a P) (fun t => .str P.T.1 t) 200 :=
  ((all_specs w P k.ok (Nat.le_trans k.wt hW)).1 a).lift (by have := k.dep; omega)
theorem kid_QS (w : World) (k : Kid V c a P t1 t2 n oa W D) (hW : W ≤ 1000000) (hD : D ≤ 2) : WSpec w 44 [.ref a] (fun h => PatAt h a P) (fun t => .str P.T.2 t) 200 :=
  ((all_specs w P k.ok (Nat.le_trans k.wt hW)).2.1 a).lift (by have := k.dep; omega)
theorem refW {w : World} {p : Pt} {m : Bool} (r : RS w p) (hd : p.dep ≤ 2) (a : Addr) : WSpec w 56 [.ref a] (fun h => PatAt h a (.ref m p)) (fun t => .str (heldT p) t) 200 := by
  intro prg loose mean mg mb dp un gd cn cs a' ccd cl outer A₀ base h₀ L m' s Q E B F X T hk hdp hun hpre hret
  cases hpre with
  | ref i j => exact ((r a m _ _ _).lift (by omega)) _ _ _ _ _ _ _ _ _ _ _ _ _ _ _ _ _ _ _ _ _ _ B F X T hk hdp hun ⟨i, j⟩ hret
/-- what the law asks of a part, by its kind -/
inductive LawCase (w : World) (a : Addr) (oa : Obj) (P : Pt) : Prop
  | var {l : List Value} {t : Tok} : OTup oa (Value.str (S "variant") t :: l).toArray → VS w P 200 → LawCase w a oa P
  | fld {l : List Value} {t : Tok} : OTup oa (Value.str (S "fields") t :: l).toArray → DS w P 200 → LawCase w a oa P
  | refT {t u v} {p : Pt} : OTup oa #[.str (S "ref") t, .int 0 u, .bool true, v] → P = .ref true p → WSpec w 56 [.ref a] (fun h => PatAt h a (.ref true p)) (fun t => .str (heldT p) t) 200 → LawCase w a oa P
  | refF {t u v} {p : Pt} : OTup oa #[.str (S "ref") t, .int 0 u, .bool false, v] → P = .ref false p → WSpec w 56 [.ref a] (fun h => PatAt h a (.ref false p)) (fun t => .str (heldT p) t) 200 → LawCase w a oa P
  | other {l : List Value} {k : Str} {t : Tok} : OTup oa (Value.str k t :: l).toArray → (k == S "variant") = false → (k == S "fields") = false → (k == S "ref") = false → LawCase w a oa P
theorem law_case (w : World) (hP : P.Ok) (hw : P.wt ≤ 1000000) (hd : P.dep ≤ 2) (x : PatAt h a P) (e : h.get? a = some oa) : LawCase w a oa P := by
  cases x with
  | wild i => exact .other (otup_of i e) (by decide +kernel) (by decide +kernel) (by decide +kernel)
  | litT i => exact .other (otup_of i e) (by decide +kernel) (by decide +kernel) (by decide +kernel)
  | litF i => exact .other (otup_of i e) (by decide +kernel) (by decide +kernel) (by decide +kernel)
  | lit7 i => exact .other (otup_of i e) (by decide +kernel) (by decide +kernel) (by decide +kernel)
  | litm i => exact .other (otup_of i e) (by decide +kernel) (by decide +kernel) (by decide +kernel)
  | rngA i => exact .other (otup_of i e) (by decide +kernel) (by decide +kernel) (by decide +kernel)
  | rngB i => exact .other (otup_of i e) (by decide +kernel) (by decide +kernel) (by decide +kernel)
  | name i => exact .other (otup_of i e) (by decide +kernel) (by decide +kernel) (by decide +kernel)
  | bind i _ => exact .other (otup_of i e) (by decide +kernel) (by decide +kernel) (by decide +kernel)
  | @ref a t u b p m i j =>
    have hw' : p.wt ≤ 1000000 := wA hw
    have hd' : p.dep ≤ 2 := wA hd
    have r := refW (m := m) (all_specs w p hP hw').2.2 hd' a
    cases m
    · exact .refF (otup_of i e) rfl r
    · exact .refT (otup_of i e) rfl r
  | tup1 i _ _ => exact .other (otup_of i e) (by decide +kernel) (by decide +kernel) (by decide +kernel)
  | tup2 i _ _ _ => exact .other (otup_of i e) (by decide +kernel) (by decide +kernel) (by decide +kernel)
  | @var0 _ _ _ _ _ ns way i _ _ =>
    refine .var (otup_of i e) fun a => ?_
    cases hlg : longB ns
    · exact (var0_false w ns way hP (pathT_len hP) hlg a).lift (by decide)
    · exact (var0_true w ns way hP (pathT_len hP) hlg a).lift (by decide)
  | @var1 _ _ _ _ _ _ p ns way i _ _ _ =>
    have hw' : p.wt ≤ 1000000 := wA hw
    have hd' : p.dep ≤ 2 := wA hd
    obtain ⟨x, y, z⟩ := all_specs w p hP.2 hw'
    exact .var (otup_of i e) fun a => (var1 w ns way hP.1 (pathT_len hP.1) p x y hw' (Pt.len p hP.2) a).lift (by omega)
  | @var2 _ _ _ _ _ _ _ p q ns way i _ _ _ _ =>
    have hw' : p.wt ≤ 1000000 ∧ q.wt ≤ 1000000 := wB hw
    have hd' : p.dep ≤ 2 ∧ q.dep ≤ 2 := wM hd
    obtain ⟨x, y, z⟩ := all_specs w p hP.2.1 hw'.1
    obtain ⟨x2, y2, z2⟩ := all_specs w q hP.2.2 hw'.2
    exact .var (otup_of i e) fun a => (var2 w ns way hP.1 (pathT_len hP.1) p x y hw'.1 (Pt.len p hP.2.1) q x2 y2 hw'.2 (Pt.len q hP.2.2) a).lift (by omega)
  | @fld1 _ _ _ _ _ _ _ _ p ns way rest i _ _ _ _ =>
    have hw' : p.wt ≤ 1000000 := wA hw
    have hd' : p.dep ≤ 2 := wA hd
    obtain ⟨x, y, z⟩ := all_specs w p hP.2 hw'
    refine .fld (otup_of i e) fun a => ?_
    cases rest
    · exact (fld1_false w ns way hP.1 (pathT_len hP.1) p x y hw' (Pt.len p hP.2) a).lift (by omega)
    · exact (fld1_true w ns way hP.1 (pathT_len hP.1) p x y hw' (Pt.len p hP.2) a).lift (by omega)
  | @fld2 _ _ _ _ _ _ _ _ _ _ _ p q ns way rest i _ _ _ _ _ _ =>
    have hw' : p.wt ≤ 1000000 ∧ q.wt ≤ 1000000 := wB hw
    have hd' : p.dep ≤ 2 ∧ q.dep ≤ 2 := wM hd
    obtain ⟨x, y, z⟩ := all_specs w p hP.2.1 hw'.1
    obtain ⟨x2, y2, z2⟩ := all_specs w q hP.2.2 hw'.2
    refine .fld (otup_of i e) fun a => ?_
    cases rest
    · exact (fld2_false w ns way hP.1 (pathT_len hP.1) p x y hw'.1 (Pt.len p hP.2.1) q x2 y2 hw'.2 (Pt.len q hP.2.2) a).lift (by omega)
    · exact (fld2_true w ns way hP.1 (pathT_len hP.1) p x y hw'.1 (Pt.len p hP.2.1) q x2 y2 hw'.2 (Pt.len q hP.2.2) a).lift (by omega)
  | or2 i _ _ _ => exact .other (otup_of i e) (by decide +kernel) (by decide +kernel) (by decide +kernel)
theorem held_ps (w : World) (a : Addr) : WSpec w 49 [.ref a] (fun h => PatAt h a (.ref false .rngB)) (fun t => .str (S "&(1..=2)") t) 200 := by
  have x := ((all_specs w (.ref false .rngB) trivial (by decide)).1 a).lift (c' := 200) (by decide)
  have e : (Pt.ref false .rngB).T.1 = S "&(1..=2)" := by decide +kernel
  rw [e] at x
  exact x
end
section
variable {prog : Program} {w : World} {A : Around} {E : Value → Shared → Prop} {s : Shared} {value slice : PySem.Expr} {u9 : Tok} {Q : Value → Shared → Prop} {V news : Led} {c a : Addr} {P : Pt} {t1 t2 : Tok} {n : Nat} {oa : Obj} {W D : Nat} {h₀ : Heap} {L : Addr}
theorem kid_law (k : Kid V c a P t1 t2 n oa W D) (N : News h₀ L s.heap news) (sub : ∀ p ∈ V, p ∈ news) (hW : W ≤ 1000000) (hD : D ≤ 2)
    (h1 : ∀ {l : List Value} {t : Tok}, OTup oa (Value.str (S "variant") t :: l).toArray → VS w P 200 → wpAny (model prog w) A (subscriptTail value slice (.ref a) (.int 0 u9)) Q E s)
    (h2 : ∀ {l : List Value} {t : Tok}, OTup oa (Value.str (S "fields") t :: l).toArray → DS w P 200 → wpAny (model prog w) A (subscriptTail value slice (.ref a) (.int 0 u9)) Q E s)
    (h3 : ∀ {t u v} {p : Pt}, OTup oa #[.str (S "ref") t, .int 0 u, .bool true, v] → P = .ref true p → WSpec w 56 [.ref a] (fun h => PatAt h a (.ref true p)) (fun t => .str (heldT p) t) 200 → wpAny (model prog w) A (subscriptTail value slice (.ref a) (.int 0 u9)) Q E s)
    (h4 : ∀ {t u v} {p : Pt}, OTup oa #[.str (S "ref") t, .int 0 u, .bool false, v] → P = .ref false p → WSpec w 56 [.ref a] (fun h => PatAt h a (.ref false p)) (fun t => .str (heldT p) t) 200 → wpAny (model prog w) A (subscriptTail value slice (.ref a) (.int 0 u9)) Q E s)
    (h5 : ∀ {l : List Value} {k : Str} {t : Tok}, OTup oa (Value.str k t :: l).toArray → (k == S "variant") = false → (k == S "fields") = false → (k == S "ref") = false → wpAny (model prog w) A (subscriptTail value slice (.ref a) (.int 0 u9)) Q E s) :
    wpAny (model prog w) A (subscriptTail value slice (.ref a) (.int 0 u9)) Q E s := by
  have x := law_case w k.ok (Nat.le_trans k.wt hW) (Nat.le_trans k.dep hD) (k.now N sub) (N _ (sub _ k.ha)).1
  cases x with
  | var i j => exact h1 i j
  | fld i j => exact h2 i j
  | refT i j r => exact h3 i j r
  | refF i j r => exact h4 i j r
  | other i j r q => exact h5 i j r q
end
end Mine
end

section
open PySem PySem.W PyProof.Rows
namespace Mine
theorem anew_W16 : True := by
  w_top off
  trivial
set_option maxRecDepth 100000
set_option maxHeartbeats 8000000
theorem filler_w16 : Filler PySem.Challenge.rw_xm0582_01 hd.heap_1 := by k_fill; trivial

theorem words_W16_0 : True := by
  k_with_none
  k_with "my dep9" => ((first | ((with_reducible refine dS ?_); k_dflt (exact rfl)) | ((with_reducible refine dL ?_); k_dflt (exact rfl)) | ((with_reducible refine dR ?_); k_dflt (exact rfl)) | ((with_reducible refine dS1 ?_); k_dflt (exact rfl)) | ((with_reducible refine dL1 ?_); k_dflt (exact rfl)) | ((with_reducible refine dR1 ?_); k_dflt (exact rfl)) | ((with_reducible refine d0 ?_); k_dflt (exact rfl)) | ((with_reducible refine dV ?_); k_dflt (exact rfl)) | ((with_reducible refine dW ?_); k_dflt (exact rfl)) | k_dflt (exact le_of_ble rfl) | omega))
  k_with "my room9" => ((first | k_dflt (exact room_0 hdp) | (k_dflt (refine room_a hdp ?_); k_extra "my dep9") | k_dflt (exact Nat.le_of_ble_eq_true rfl) | ktr_room))
  k_with "my units9" => ((first | (k_dflt (refine' units_a hun ?zqua ?zqub); (case zqua => k_extra "my dep9"); (case zqub => k_dflt (exact rfl))) | k_dflt (exact Nat.le_of_ble_eq_true rfl) | ktr_units))
  k_with "my len9" => (((with_reducible show (_ : Nat) ≤ _); first | with_reducible exact Nat.le_refl 0 | ((with_reducible refine' lenApp ?_ ?_) <;> (first | k_extra "my len9" | with_reducible show Nat)) | ((with_reducible refine' addLe ?_ ?_) <;> (first | k_extra "my len9" | with_reducible show Nat)) | ((with_reducible refine' mulLe ?_) <;> (first | k_extra "my len9" | with_reducible show Nat)) | with_reducible assumption | with_reducible exact Nat.le_of_eq ln_e | with_reducible exact Nat.le_of_eq ln_28 | with_reducible exact Nat.le_of_eq ln_29 | with_reducible exact Nat.le_of_eq ln_2c20 | with_reducible exact Nat.le_of_eq ln_2c | with_reducible exact Nat.le_of_eq ln_2c29 | with_reducible exact Nat.le_of_eq ln_3c | with_reducible exact Nat.le_of_eq ln_3e | with_reducible exact Nat.le_of_eq ln_3a3a | with_reducible exact Nat.le_of_eq ln_26 | with_reducible exact Nat.le_of_eq ln_6d757420 | with_reducible exact Nat.le_of_eq ln_72656620 | with_reducible exact Nat.le_of_eq ln_204020 | with_reducible exact Nat.le_of_eq ln_2e2e3d | with_reducible exact Nat.le_of_eq ln_207b20 | with_reducible exact Nat.le_of_eq ln_207d | with_reducible exact Nat.le_of_eq ln_7d | with_reducible exact Nat.le_of_eq ln_2e2e | with_reducible exact Nat.le_of_eq ln_3a20 | with_reducible exact Nat.le_of_eq ln_207c20 | with_reducible exact Nat.le_of_eq ln_5f | with_reducible exact Nat.le_of_eq ln_21 | with_reducible exact Nat.le_of_eq ln_2761 | with_reducible exact Nat.le_of_eq ln_54 | with_reducible exact Nat.le_of_eq ln_7538 | with_reducible exact Nat.le_of_eq ln_78 | with_reducible exact Nat.le_of_eq ln_79 | with_reducible exact Nat.le_of_eq ln_6e | with_reducible exact Nat.le_of_eq ln_6d | with_reducible exact Nat.le_of_eq ln_74727565 | with_reducible exact Nat.le_of_eq ln_66616c7365 | with_reducible exact Nat.le_of_eq ln_37 | with_reducible exact Nat.le_of_eq ln_2d31 | with_reducible exact Nat.le_of_eq ln_2d33 | with_reducible exact Nat.le_of_eq ln_39 | with_reducible exact Nat.le_of_eq ln_31 | with_reducible exact Nat.le_of_eq ln_32 | with_reducible exact Nat.le_of_eq ln_73656c66 | with_reducible exact Nat.le_of_eq ln_53656c66 | with_reducible exact Nat.le_of_eq ln_7375706572 | with_reducible exact Nat.le_of_eq ln_6372617465 | with_reducible exact Nat.le_of_eq ln_41 | with_reducible exact Nat.le_of_eq ln_62 | with_reducible exact Nat.le_of_eq ln_4332 | with_reducible exact Nat.le_of_eq ln_3c75383e | with_reducible exact Nat.le_of_eq ln_3c27612c20542c205f3e | with_reducible exact lenW1 (by with_reducible assumption) (by with_reducible assumption) | with_reducible exact lenW2 (by with_reducible assumption) (by with_reducible assumption) | with_reducible exact lenV1 (by with_reducible assumption) (by with_reducible assumption) (by with_reducible assumption) | with_reducible exact lenV2 (by with_reducible assumption) (by with_reducible assumption) (by with_reducible assumption) | with_reducible exact And.left (by with_reducible assumption) | with_reducible exact And.right (by with_reducible assumption) | ((with_reducible refine' lenIte ?_ ?_) <;> (first | k_extra "my len9" | with_reducible show Nat)) | ((with_reducible refine' iteLe ?_ ?_) <;> (first | k_extra "my len9" | with_reducible show Nat))))
  k_with "my size9" => (((refine' size_of ?zqsa ?zqsb); (case zqsa => k_extra "my len9"); (case zqsb => k_dflt (exact rfl))))
  k_with "my k_steps" => (repeat' (first | (k_unfold; (try dsimp only)) | walk1 | (dsimp only; walk1) | fail "no step"))
  k_with "my binaryOp Add str str" => (((with_reducible show wpAny _ _ (binaryOp Operator.Add (Value.str _ _) (Value.str _ _)) _ _ _); (refine add_str (hsz := ?zqhsz) ?_); (case zqhsz => first | k_extra "my size9" | (simp only [j0, j1, j2, j3, PySem.Str.length_append, PySem.sizeLine_eq, ln_e,ln_28,ln_29,ln_2c20,ln_2c,ln_2c29,ln_3c,ln_3e,ln_3a3a,ln_26,ln_6d757420,ln_72656620,ln_204020,ln_2e2e3d,ln_207b20,ln_207d,ln_7d,ln_2e2e,ln_3a20,ln_207c20,ln_5f,ln_21,ln_2761,ln_54,ln_7538,ln_78,ln_79,ln_6e,ln_6d,ln_74727565,ln_66616c7365,ln_37,ln_2d31,ln_2d33,ln_39,ln_31,ln_32,ln_73656c66,ln_53656c66,ln_7375706572,ln_6372617465,ln_41,ln_62,ln_4332,ln_3c75383e,ln_3c27612c20542c205f3e]; omega)); intro _ _))
  k_with "my ite" => (first | ((refine' PySem.W.ite_pos ?zqhc ?_); (case zqhc => (first | (k_dflt (exact (show _ = true from rfl))) | with_reducible assumption))) | ((refine' PySem.W.ite_neg ?zqhc ?_); (case zqhc => (first | (k_dflt (exact fun hb9 => absurd (show false = true from hb9) Bool.false_ne_true)) | exact fun hb9 => absurd (hb9.symm.trans (by with_reducible assumption)) (by decide)))))
  k_with "my call builtin:str.join" => ((k_here; (with_reducible show wpAny _ _ (call (Value.builtin _) [Value.str _ _, Value.ref _]) _ _ _); k_dflt (first | refine jn0 (by is_list) ?_ | ((refine' jn1 ?zqhl ?zqhz ?_); (case zqhl => is_list); (case zqhz => first | k_extra "my size9" | (simp only [PySem.Str.length_append, ln_e,ln_28,ln_29,ln_2c20,ln_2c,ln_2c29,ln_3c,ln_3e,ln_3a3a,ln_26,ln_6d757420,ln_72656620,ln_204020,ln_2e2e3d,ln_207b20,ln_207d,ln_7d,ln_2e2e,ln_3a20,ln_207c20,ln_5f,ln_21,ln_2761,ln_54,ln_7538,ln_78,ln_79,ln_6e,ln_6d,ln_74727565,ln_66616c7365,ln_37,ln_2d31,ln_2d33,ln_39,ln_31,ln_32,ln_73656c66,ln_53656c66,ln_7375706572,ln_6372617465,ln_41,ln_62,ln_4332,ln_3c75383e,ln_3c27612c20542c205f3e]; omega))) | ((refine' jn2 ?zqhl ?zqhz ?_); (case zqhl => is_list); (case zqhz => first | k_extra "my size9" | (simp only [PySem.Str.length_append, ln_e,ln_28,ln_29,ln_2c20,ln_2c,ln_2c29,ln_3c,ln_3e,ln_3a3a,ln_26,ln_6d757420,ln_72656620,ln_204020,ln_2e2e3d,ln_207b20,ln_207d,ln_7d,ln_2e2e,ln_3a20,ln_207c20,ln_5f,ln_21,ln_2761,ln_54,ln_7538,ln_78,ln_79,ln_6e,ln_6d,ln_74727565,ln_66616c7365,ln_37,ln_2d31,ln_2d33,ln_39,ln_31,ln_32,ln_73656c66,ln_53656c66,ln_7375706572,ln_6372617465,ln_41,ln_62,ln_4332,ln_3c75383e,ln_3c27612c20542c205f3e]; omega))) | ((refine' jn3 ?zqhl ?zqhz ?_); (case zqhl => is_list); (case zqhz => first | k_extra "my size9" | (simp only [PySem.Str.length_append, ln_e,ln_28,ln_29,ln_2c20,ln_2c,ln_2c29,ln_3c,ln_3e,ln_3a3a,ln_26,ln_6d757420,ln_72656620,ln_204020,ln_2e2e3d,ln_207b20,ln_207d,ln_7d,ln_2e2e,ln_3a20,ln_207c20,ln_5f,ln_21,ln_2761,ln_54,ln_7538,ln_78,ln_79,ln_6e,ln_6d,ln_74727565,ln_66616c7365,ln_37,ln_2d31,ln_2d33,ln_39,ln_31,ln_32,ln_73656c66,ln_53656c66,ln_7375706572,ln_6372617465,ln_41,ln_62,ln_4332,ln_3c75383e,ln_3c27612c20542c205f3e]; omega)))); intro _ _))
  k_with "my units_room" => ((first | (k_dflt (refine' units_b hun ?zqua ?zqub); (case zqua => k_extra "my dep9"); (case zqub => k_dflt (exact rfl))) | (have hcL9 := cLine_is; (simp only [units_deeper, units_in1] at *); (try dsimp only [ktrTop] at *); omega)))
  k_with "my compareOp Eq ref ref" => (((with_reducible show wpAny _ _ (compareOp CmpOp.Eq (Value.ref _) (Value.ref _)) _ _ _); first | refine PySem.SeqAt.eq_list_lengthsAt (by is_list) (by is_list) (by rfl) (by units_room) ?_ | refine PySem.SeqAt.eq_listAt (e := fun _ => true) (items := #[]) (items2 := #[]) (by is_list) (by is_list) rfl (by units_room) (fun j h1 h2 => absurd h1 (Nat.not_lt_zero _)) ?_))
  k_with "my eval Name" => ((k_here; (with_reducible show wpAny _ _ (eval (Expr.Name _ _) (envOf _ _ _ _ _)) _ _ _); k_dflt (first | (refine' nameX_L ?zqF ?zqv ?_ ?zqa ?zqb; (case zqF => k_asm); (case zqa => rfl); (case zqb => rfl); (case zqv => rfl); k_whole) | (refine' nameX_K ?zqF ?zqX ?zqT ?zqe ?_ ?zqa ?zqb; (case zqF => k_asm); (case zqX => k_asm); (case zqT => k_asm); (case zqa => rfl); (case zqb => rfl); (case zqe => k_is); k_whole))))
  k_with "my k_all" => (first | with_reducible assumption | (refine List.forall_mem_append.mpr ⟨?_, ?_⟩ <;> k_all))
  k_with "my k_updF" => ((refine' UpdF.app ?zqa ?zqb; (case zqa => k_all); (case zqb => k_updF)))
  k_with "my subscriptTail" => ((k_here; (with_reducible show wpAny _ _ (subscriptTail _ _ (Value.ref _) (Value.int _ _)) _ _ _); k_dflt (refine' itemL ?zql ?zqa ?zqb ?zqd ?_; (case zql => is_list); (case zqa => decide); (case zqb => decide); (case zqd => rfl))))
  k_with "my subscriptTail Name Slice ref ref" => ((k_here; (with_reducible show wpAny _ _ (subscriptTail _ (PySem.Expr.Slice _ _ none _) (Value.ref _) (Value.ref _)) _ _ _); k_dflt (refine' kms_slice_lit ?zqF ?zqN ?zql ?zqp ?zqq ?zqe ?_ ?zqs ?zqt ?zqz; (case zqF => k_asm); (case zqN => k_asm); (case zql => kmk_list); (case zqp => kmk_part); (case zqq => kmk_part); (case zqe => first | exact (rfl : _ = []) | exact (rfl : _ = [_]) | exact (rfl : _ = [_, _]) | exact (rfl : _ = [_, _, _])); (case zqs => with_unfolding_all rfl); (case zqt => kmk_pure); (case zqz => exact Nat.le_of_ble_eq_true rfl)); intro D' h' F' N' l1; (try k_lt l1); (try k_sweep)))
  k_with "my newTuple" => ((k_here; k_dflt (refine' kup_newTuple ?zqF ?zqN ?_ ?zqz; (case zqF => k_asm); (case zqN => k_asm); (case zqz => exact Nat.le_of_ble_eq_true rfl)); intro D' h' F' N' l1; (try k_sweep)))
  k_with "my k_ne" => (first | with_reducible assumption | exact ne_raw (by with_reducible assumption) (by k_mem) | exact (ne_raw (by with_reducible assumption) (by k_mem)).symm)
  k_with "my k_ne" => (first | with_reducible assumption | exact Ne.symm (by with_reducible assumption) | exact Apart.ne (by with_reducible assumption) | exact (Apart.ne (by with_reducible assumption)).symm | exact ne_raw (by with_reducible assumption) (by k_mem) | exact (ne_raw (by with_reducible assumption) (by k_mem)).symm | exact off1_ne (by with_reducible assumption) (by k_mem) | exact (off1_ne (by with_reducible assumption) (by k_mem)).symm | exact away_ne (by with_reducible assumption) (by k_mem) | exact (away_ne (by with_reducible assumption) (by k_mem)).symm | with_reducible exact And.left (And.left (by with_reducible assumption)) | with_reducible exact And.left (And.right (And.left (by with_reducible assumption))) | with_reducible exact And.right (And.right (And.left (by with_reducible assumption))) | with_reducible exact And.left (And.left (And.right (by with_reducible assumption))) | with_reducible exact And.left (And.right (And.left (And.right (by with_reducible assumption)))) | with_reducible exact And.right (And.right (And.left (And.right (by with_reducible assumption)))) | with_reducible exact And.left (And.left (And.right (And.right (by with_reducible assumption)))) | with_reducible exact And.left (And.right (And.left (And.right (And.right (by with_reducible assumption))))) | with_reducible exact And.right (And.right (And.left (And.right (And.right (by with_reducible assumption))))) | with_reducible exact And.left (And.right (And.right (And.right (by with_reducible assumption)))) | with_reducible exact And.left (And.right (And.right (And.right (And.right (by with_reducible assumption))))) | with_reducible exact And.right (And.right (And.right (And.right (And.right (by with_reducible assumption))))) | (refine neN ?_; (try dsimp only); omega))
  k_with "my k_lt on" => (skip)
  k_with "my lcg_sub" => ((intro p9 hp9; repeat (first | exact hp9 | exact List.mem_append_left _ hp9 | refine List.mem_append_right _ ?_ | refine List.Mem.tail _ ?_)))
  trivial
theorem ne_str_self {prog : Program} {w : World} {A : Around} {E : Value → Shared → Prop} {s : Shared} {x : Str} {t u : Tok} {Q : Value → Shared → Prop} (h : Q (.bool false) s) : wpAny (model prog w) A (compareOp .NotEq (.str x t) (.str x u)) Q E s :=
  ne_str (by rw [show (x != x) = false from bne_self_eq_false x]; exact h)
theorem ne_str_eq {prog : Program} {w : World} {A : Around} {E : Value → Shared → Prop} {s : Shared} {x y : Str} {t u : Tok} {Q : Value → Shared → Prop} (e : x = y) (h : Q (.bool false) s) : wpAny (model prog w) A (compareOp .NotEq (.str x t) (.str y u)) Q E s := by
  subst e
  exact ne_str_self h
theorem words_W16_1 : True := by
  k_with "my call ref" => ((k_here; (with_reducible show wpAny _ _ (call (Value.ref 49) _) _ _ _); k_dflt (first | (refine' wuse (held_ps _ _) ?zqB ?zqF ?zqX ?zqN ?zqT ?zqhk ?zqhd ?zqhu ?zqhp ?_; (case zqhp => exact PatAt.ref (News.isTup (by k_asm) (by k_mem)) (PatAt.rngB (News.isTup (by k_asm) (by k_mem)))); (case zqB => k_asm); (case zqF => k_asm); (case zqX => k_asm); (case zqN => k_asm); (case zqT => k_asm); (case zqhk => first | exact rfl | assumption); (case zqhd => k_extra "my room9"); (case zqhu => k_extra "my units9"); intro t9 h9 tk9 g9 F9 N9; (try dsimp only); (try dsimp only at g9); (try k_sweep)) | (refine' wuse (kid_PS _ ?zqhS ?zqhW ?zqhD) ?zqB ?zqF ?zqX ?zqN ?zqT ?zqhk ?zqhd ?zqhu ?zqhp ?_; (case zqhS => with_reducible assumption); (case zqhW => decide); (case zqhD => decide); (case zqhp => exact Kid.now (by with_reducible assumption) (by with_reducible assumption) (by lcg_sub)); (case zqB => k_asm); (case zqF => k_asm); (case zqX => k_asm); (case zqN => k_asm); (case zqT => k_asm); (case zqhk => first | exact rfl | assumption); (case zqhd => k_extra "my room9"); (case zqhu => k_extra "my units9"); intro t9 h9 tk9 g9 F9 N9; (try dsimp only); (try dsimp only at g9); (try k_sweep)))))
  k_with "my call ref" => ((k_here; (with_reducible show wpAny _ _ (call (Value.ref 44) _) _ _ _); k_dflt (first | (refine' wuse (kid_QS _ ?zqhS ?zqhW ?zqhD) ?zqB ?zqF ?zqX ?zqN ?zqT ?zqhk ?zqhd ?zqhu ?zqhp ?_; (case zqhS => with_reducible assumption); (case zqhW => decide); (case zqhD => decide); (case zqhp => exact Kid.now (by with_reducible assumption) (by with_reducible assumption) (by lcg_sub)); (case zqB => k_asm); (case zqF => k_asm); (case zqX => k_asm); (case zqN => k_asm); (case zqT => k_asm); (case zqhk => first | exact rfl | assumption); (case zqhd => k_extra "my room9"); (case zqhu => k_extra "my units9"); intro t9 h9 tk9 g9 F9 N9; (try dsimp only); (try dsimp only at g9); (try k_sweep)))))
  k_with "my call ref" => ((k_here; (with_reducible show wpAny _ _ (call (Value.ref 21) _) _ _ _); k_dflt (first | (refine' wuse (ang0 _ _) ?zqB ?zqF ?zqX ?zqN ?zqT ?zqhk ?zqhd ?zqhu ?zqhp ?_; (case zqhp => is_list); (case zqB => k_asm); (case zqF => k_asm); (case zqX => k_asm); (case zqN => k_asm); (case zqT => k_asm); (case zqhk => first | exact rfl | assumption); (case zqhd => k_extra "my room9"); (case zqhu => k_extra "my units9"); intro t9 h9 tk9 g9 F9 N9; (try dsimp only); (try dsimp only at g9); (try k_sweep)) | (refine' wuse (ang1 _ _ _ _ ?zqb0) ?zqB ?zqF ?zqX ?zqN ?zqT ?zqhk ?zqhd ?zqhu ?zqhp ?_; (case zqhp => is_list); (case zqb0 => first | assumption | k_extra "my size9" | (simp only [ln_e,ln_28,ln_29,ln_2c20,ln_2c,ln_2c29,ln_3c,ln_3e,ln_3a3a,ln_26,ln_6d757420,ln_72656620,ln_204020,ln_2e2e3d,ln_207b20,ln_207d,ln_7d,ln_2e2e,ln_3a20,ln_207c20,ln_5f,ln_21,ln_2761,ln_54,ln_7538,ln_78,ln_79,ln_6e,ln_6d,ln_74727565,ln_66616c7365,ln_37,ln_2d31,ln_2d33,ln_39,ln_31,ln_32,ln_73656c66,ln_53656c66,ln_7375706572,ln_6372617465,ln_41,ln_62,ln_4332,ln_3c75383e,ln_3c27612c20542c205f3e]; omega) | omega); (case zqB => k_asm); (case zqF => k_asm); (case zqX => k_asm); (case zqN => k_asm); (case zqT => k_asm); (case zqhk => first | exact rfl | assumption); (case zqhd => k_extra "my room9"); (case zqhu => k_extra "my units9"); intro t9 h9 tk9 g9 F9 N9; (try dsimp only); (try dsimp only at g9); (try k_sweep)) | (refine' wuse (ang2 _ _ _ _ _ _ ?zqb0 ?zqb1) ?zqB ?zqF ?zqX ?zqN ?zqT ?zqhk ?zqhd ?zqhu ?zqhp ?_; (case zqhp => is_list); (case zqb0 => first | assumption | k_extra "my size9" | (simp only [ln_e,ln_28,ln_29,ln_2c20,ln_2c,ln_2c29,ln_3c,ln_3e,ln_3a3a,ln_26,ln_6d757420,ln_72656620,ln_204020,ln_2e2e3d,ln_207b20,ln_207d,ln_7d,ln_2e2e,ln_3a20,ln_207c20,ln_5f,ln_21,ln_2761,ln_54,ln_7538,ln_78,ln_79,ln_6e,ln_6d,ln_74727565,ln_66616c7365,ln_37,ln_2d31,ln_2d33,ln_39,ln_31,ln_32,ln_73656c66,ln_53656c66,ln_7375706572,ln_6372617465,ln_41,ln_62,ln_4332,ln_3c75383e,ln_3c27612c20542c205f3e]; omega) | omega); (case zqb1 => first | assumption | k_extra "my size9" | (simp only [ln_e,ln_28,ln_29,ln_2c20,ln_2c,ln_2c29,ln_3c,ln_3e,ln_3a3a,ln_26,ln_6d757420,ln_72656620,ln_204020,ln_2e2e3d,ln_207b20,ln_207d,ln_7d,ln_2e2e,ln_3a20,ln_207c20,ln_5f,ln_21,ln_2761,ln_54,ln_7538,ln_78,ln_79,ln_6e,ln_6d,ln_74727565,ln_66616c7365,ln_37,ln_2d31,ln_2d33,ln_39,ln_31,ln_32,ln_73656c66,ln_53656c66,ln_7375706572,ln_6372617465,ln_41,ln_62,ln_4332,ln_3c75383e,ln_3c27612c20542c205f3e]; omega) | omega); (case zqB => k_asm); (case zqF => k_asm); (case zqX => k_asm); (case zqN => k_asm); (case zqT => k_asm); (case zqhk => first | exact rfl | assumption); (case zqhd => k_extra "my room9"); (case zqhu => k_extra "my units9"); intro t9 h9 tk9 g9 F9 N9; (try dsimp only); (try dsimp only at g9); (try k_sweep)) | (refine' wuse (ang3 _ _ _ _ _ _ _ _ ?zqb0 ?zqb1 ?zqb2) ?zqB ?zqF ?zqX ?zqN ?zqT ?zqhk ?zqhd ?zqhu ?zqhp ?_; (case zqhp => is_list); (case zqb0 => first | assumption | k_extra "my size9" | (simp only [ln_e,ln_28,ln_29,ln_2c20,ln_2c,ln_2c29,ln_3c,ln_3e,ln_3a3a,ln_26,ln_6d757420,ln_72656620,ln_204020,ln_2e2e3d,ln_207b20,ln_207d,ln_7d,ln_2e2e,ln_3a20,ln_207c20,ln_5f,ln_21,ln_2761,ln_54,ln_7538,ln_78,ln_79,ln_6e,ln_6d,ln_74727565,ln_66616c7365,ln_37,ln_2d31,ln_2d33,ln_39,ln_31,ln_32,ln_73656c66,ln_53656c66,ln_7375706572,ln_6372617465,ln_41,ln_62,ln_4332,ln_3c75383e,ln_3c27612c20542c205f3e]; omega) | omega); (case zqb1 => first | assumption | k_extra "my size9" | (simp only [ln_e,ln_28,ln_29,ln_2c20,ln_2c,ln_2c29,ln_3c,ln_3e,ln_3a3a,ln_26,ln_6d757420,ln_72656620,ln_204020,ln_2e2e3d,ln_207b20,ln_207d,ln_7d,ln_2e2e,ln_3a20,ln_207c20,ln_5f,ln_21,ln_2761,ln_54,ln_7538,ln_78,ln_79,ln_6e,ln_6d,ln_74727565,ln_66616c7365,ln_37,ln_2d31,ln_2d33,ln_39,ln_31,ln_32,ln_73656c66,ln_53656c66,ln_7375706572,ln_6372617465,ln_41,ln_62,ln_4332,ln_3c75383e,ln_3c27612c20542c205f3e]; omega) | omega); (case zqb2 => first | assumption | k_extra "my size9" | (simp only [ln_e,ln_28,ln_29,ln_2c20,ln_2c,ln_2c29,ln_3c,ln_3e,ln_3a3a,ln_26,ln_6d757420,ln_72656620,ln_204020,ln_2e2e3d,ln_207b20,ln_207d,ln_7d,ln_2e2e,ln_3a20,ln_207c20,ln_5f,ln_21,ln_2761,ln_54,ln_7538,ln_78,ln_79,ln_6e,ln_6d,ln_74727565,ln_66616c7365,ln_37,ln_2d31,ln_2d33,ln_39,ln_31,ln_32,ln_73656c66,ln_53656c66,ln_7375706572,ln_6372617465,ln_41,ln_62,ln_4332,ln_3c75383e,ln_3c27612c20542c205f3e]; omega) | omega); (case zqB => k_asm); (case zqF => k_asm); (case zqX => k_asm); (case zqN => k_asm); (case zqT => k_asm); (case zqhk => first | exact rfl | assumption); (case zqhd => k_extra "my room9"); (case zqhu => k_extra "my units9"); intro t9 h9 tk9 g9 F9 N9; (try dsimp only); (try dsimp only at g9); (try k_sweep)))))
  k_with "my call ref" => ((k_here; (with_reducible show wpAny _ _ (call (Value.ref 87) _) _ _ _); k_dflt (first | (refine' muse (pool _ _ _ _ _ ?zqhi ?zqhz) ?zqB ?zqF ?zqX ?zqN ?zqT ?zqhk ?zqhd ?zqhu ?zqhp ?_; (case zqhi => with_reducible assumption); (case zqhz => omega); (case zqB => k_asm); (case zqF => k_asm); (case zqX => k_asm); (case zqN => k_asm); (case zqT => k_asm); (case zqhk => first | exact rfl | assumption); (case zqhd => ktr_room); (case zqhu => ktr_units); (case zqhp => exact islist_keep (Fr.keep (by with_reducible assumption)) (by with_reducible assumption)); intro r9 V9 h9 tk9 g9 F9 N9 hVn9 hP9; obtain ⟨D9, o9, e1, e2, ho9⟩ := hP9; subst e1; subst e2; (try simp only [List.nil_append, List.cons_append] at N9); (have hs9 : AwayFrom D9 _ := fun q hq => hVn9 _ (List.Mem.head _) q hq); (try dsimp only); (try dsimp only at g9); (try k_sweep)))))
  k_with "my call ref" => ((k_here; (with_reducible show wpAny _ _ (call (Value.ref 63) _) _ _ _); k_dflt (first | (refine' wuse (lit_true _) ?zqB ?zqF ?zqX ?zqN ?zqT ?zqhk ?zqhd ?zqhu ?zqhp ?_; (case zqhp => trivial); (case zqB => k_asm); (case zqF => k_asm); (case zqX => k_asm); (case zqN => k_asm); (case zqT => k_asm); (case zqhk => first | exact rfl | assumption); (case zqhd => k_extra "my room9"); (case zqhu => k_extra "my units9"); intro t9 h9 tk9 g9 F9 N9; (try dsimp only); (try dsimp only at g9); (try k_sweep)) | (refine' wuse (lit_1 _ _) ?zqB ?zqF ?zqX ?zqN ?zqT ?zqhk ?zqhd ?zqhu ?zqhp ?_; (case zqhp => trivial); (case zqB => k_asm); (case zqF => k_asm); (case zqX => k_asm); (case zqN => k_asm); (case zqT => k_asm); (case zqhk => first | exact rfl | assumption); (case zqhd => k_extra "my room9"); (case zqhu => k_extra "my units9"); intro t9 h9 tk9 g9 F9 N9; (try dsimp only); (try dsimp only at g9); (try k_sweep)))))
  k_with "my call ref" => ((k_here; (with_reducible show wpAny _ _ (call (Value.ref 27) _) _ _ _); k_dflt (first | (refine' wuse (path_any _ ?zqok _ _ _ ?zqhb) ?zqB ?zqF ?zqX ?zqN ?zqT ?zqhk ?zqhd ?zqhu ?zqhp ?_; (case zqok => with_reducible assumption); (case zqhb => exact Nat.le_of_ble_eq_true (by decide +kernel)); (case zqhp => exact path_now (by with_reducible assumption) (by with_reducible assumption) (by lcg_sub)); (case zqB => k_asm); (case zqF => k_asm); (case zqX => k_asm); (case zqN => k_asm); (case zqT => k_asm); (case zqhk => first | exact rfl | assumption); (case zqhd => k_extra "my room9"); (case zqhu => k_extra "my units9"); intro t9 h9 tk9 g9 F9 N9; (try dsimp only); (try dsimp only at g9); (try k_sweep)) | (refine' wuse (path_anyD _ ?zqok _) ?zqB ?zqF ?zqX ?zqN ?zqT ?zqhk ?zqhd ?zqhu ?zqhp ?_; (case zqok => with_reducible assumption); (case zqhp => exact path_now (by with_reducible assumption) (by with_reducible assumption) (by lcg_sub)); (case zqB => k_asm); (case zqF => k_asm); (case zqX => k_asm); (case zqN => k_asm); (case zqT => k_asm); (case zqhk => first | exact rfl | assumption); (case zqhd => k_extra "my room9"); (case zqhu => k_extra "my units9"); intro t9 h9 tk9 g9 F9 N9; (try dsimp only); (try dsimp only at g9); (try k_sweep)))))
  k_with "my call ref" => ((k_here; (with_reducible show wpAny _ _ (call (Value.ref 68) _) _ _ _); k_dflt (first | (refine' wuse (VS.at ?zqhS _) ?zqB ?zqF ?zqX ?zqN ?zqT ?zqhk ?zqhd ?zqhu ?zqhp ?_; (case zqhS => with_reducible assumption); (case zqhp => exact Kid.now (by with_reducible assumption) (by with_reducible assumption) (by lcg_sub)); (case zqB => k_asm); (case zqF => k_asm); (case zqX => k_asm); (case zqN => k_asm); (case zqT => k_asm); (case zqhk => first | exact rfl | assumption); (case zqhd => k_extra "my room9"); (case zqhu => k_extra "my units9"); intro t9 h9 tk9 g9 F9 N9; (try dsimp only); (try dsimp only at g9); (try k_sweep)))))
  k_with "my call ref" => ((k_here; (with_reducible show wpAny _ _ (call (Value.ref 80) _) _ _ _); k_dflt (first | (refine' wuse (DS.at ?zqhS _) ?zqB ?zqF ?zqX ?zqN ?zqT ?zqhk ?zqhd ?zqhu ?zqhp ?_; (case zqhS => with_reducible assumption); (case zqhp => exact Kid.now (by with_reducible assumption) (by with_reducible assumption) (by lcg_sub)); (case zqB => k_asm); (case zqF => k_asm); (case zqX => k_asm); (case zqN => k_asm); (case zqT => k_asm); (case zqhk => first | exact rfl | assumption); (case zqhd => k_extra "my room9"); (case zqhu => k_extra "my units9"); intro t9 h9 tk9 g9 F9 N9; (try dsimp only); (try dsimp only at g9); (try k_sweep)))))
  k_with "my call ref" => ((k_here; (with_reducible show wpAny _ _ (call (Value.ref 56) _) _ _ _); k_dflt (first | (refine' wuse (?zqhS) ?zqB ?zqF ?zqX ?zqN ?zqT ?zqhk ?zqhd ?zqhu ?zqhp ?_; (case zqhS => with_reducible assumption); (case zqhp => exact Kid.now (by with_reducible assumption) (by with_reducible assumption) (by lcg_sub)); (case zqB => k_asm); (case zqF => k_asm); (case zqX => k_asm); (case zqN => k_asm); (case zqT => k_asm); (case zqhk => first | exact rfl | assumption); (case zqhd => k_extra "my room9"); (case zqhu => k_extra "my units9"); intro t9 h9 tk9 g9 F9 N9; (try dsimp only); (try dsimp only at g9); (try k_sweep)))))
  k_with "my call ref" => ((k_here; (with_reducible show wpAny _ _ (call (Value.ref 106) _) _ _ _); k_dflt (first | (refine' tuse (path _ _ _ _ ?zqh1 ?zqh2) ?zqB ?zqF ?zqX ?zqN ?zqT ?zqhk ?zqhd ?zqhu ?zqU ?zqho ?zqhp ?_; (case zqh1 => decide); (case zqh2 => decide); (case zqhp => trivial); (case zqB => k_asm); (case zqF => k_asm); (case zqX => k_asm); (case zqN => k_asm); (case zqT => k_asm); (case zqhk => first | exact rfl | assumption); (case zqhd => k_extra "my room9"); (case zqhu => k_extra "my units9"); (case zqU => k_updF); (case zqho => with_reducible assumption); intro r9 o9 V9 h9 tk9 ho9 F9 N9 hV9 hVn9 hP9; obtain ⟨c9, z9, ns9, way9, t9, u9, n9, e1, hc9, pat9, ok9⟩ := hP9; subst e1; (have hl9 := pathT_len ok9); (try simp only [List.nil_append, List.cons_append, List.append_nil, List.append_assoc] at N9); (replace N9 := news_plus N9 hc9 (by lcg_sub)); (have hcs9 : Apart _ _ := hV9 _ hc9); (try simp only [List.nil_append, List.cons_append, List.append_nil, List.append_assoc] at N9); (try dsimp only); (try k_sweep)))))
  k_with "my call ref" => ((k_here; (with_reducible show wpAny _ _ (call (Value.ref 118) _) _ _ _); k_dflt (first | (refine' tuse (part2 _ _ _) ?zqB ?zqF ?zqX ?zqN ?zqT ?zqhk ?zqhd ?zqhu ?zqU ?zqho ?zqhp ?_; (case zqhp => trivial); (case zqB => k_asm); (case zqF => k_asm); (case zqX => k_asm); (case zqN => k_asm); (case zqT => k_asm); (case zqhk => first | exact rfl | assumption); (case zqhd => k_extra "my room9"); (case zqhu => k_extra "my units9"); (case zqU => k_updF); (case zqho => with_reducible assumption); intro r9 o9 V9 h9 tk9 ho9 F9 N9 hV9 hVn9 hP9; obtain ⟨c9, a9, P9, u9, x9, n9, oa9, e1, kid9⟩ := hP9; subst e1; (have hl9 := kid9.len); (try simp only [List.nil_append, List.cons_append, List.append_nil, List.append_assoc] at N9); (replace N9 := news_plus N9 kid9.hc (by lcg_sub)); (have hcs9 : Apart _ _ := hV9 _ kid9.hc); (try simp only [List.nil_append, List.cons_append, List.append_nil, List.append_assoc] at N9); (try dsimp only); (try k_sweep)))))
  k_with "my call ref" => ((k_here; (with_reducible show wpAny _ _ (call (Value.ref 94) _) _ _ _); k_dflt (first | (refine' tuse (take _ _ _ _ ?zqh1 ?zqh2) ?zqB ?zqF ?zqX ?zqN ?zqT ?zqhk ?zqhd ?zqhu ?zqU ?zqho ?zqhp ?_; (case zqhp => trivial); (case zqh1 => first | decide | (simp; done)); (case zqh2 => first | decide | (simp; done)); (case zqB => k_asm); (case zqF => k_asm); (case zqX => k_asm); (case zqN => k_asm); (case zqT => k_asm); (case zqhk => first | exact rfl | assumption); (case zqhd => k_extra "my room9"); (case zqhu => k_extra "my units9"); (case zqU => k_updF); (case zqho => with_reducible assumption); intro r9 o9 V9 h9 tk9 ho9 F9 N9 hV9 hVn9 hP9; obtain ⟨e1, k9, t9, e2, hk0, hk1⟩ := hP9; subst e1; subst e2; (have hk2 : k9 < (4 : Int) := hk1); clear hk1; obtain (e3 | e3 | e3 | e3) := split4 hk0 hk2; all_goals (clear hk0 hk2; subst e3); all_goals (try simp only [List.nil_append, List.cons_append, List.append_nil, List.append_assoc] at N9); all_goals (try dsimp only); all_goals (try k_sweep)))))
  k_with "my compareOp NotEq str str" => ((k_here; (with_reducible show wpAny _ _ (compareOp CmpOp.NotEq (Value.str _ _) (Value.str _ _)) _ _ _); first | (with_reducible refine ne_str_self ?_) | (refine ne_str_eq (slice_refT _) ?_) | (refine ne_str_eq (slice_refF _) ?_)))
  k_with "my subscriptTail Name Slice str ref" => ((k_here; (with_reducible show wpAny _ _ (subscriptTail _ (Expr.Slice (some _) none none _) _ _) _ _ _); (with_reducible rename Fr _ _ _ _ => F'); (with_reducible rename News _ _ _ _ => N'); (refine slice_strN_sn (hsz := ?zqhsz) (s := ⟨_, _, _, _, _⟩) F' N' ?_); (case zqhsz => first | k_extra "my size9" | (simp only [sizeLine_eq]; omega)); intro h' t' k' F' N'; (try k_sweep)))
  k_with "my subscriptTail Name Constant ref int" => ((k_here; (with_reducible show wpAny _ _ (subscriptTail _ _ (Value.ref _) (Value.int _ _)) _ _ _); k_dflt (refine' itemL ?zql ?zqa ?zqb ?zqd ?_; (case zql => is_list); (case zqa => decide); (case zqb => decide); (case zqd => rfl))))
  k_with "my subscriptTail" => ((k_here; (with_reducible show wpAny _ _ (subscriptTail _ _ (Value.ref _) (Value.int _ _)) _ _ _); k_dflt (first | ((with_reducible show wpAny _ _ (subscriptTail _ _ (Value.ref _) (Value.int 0 _)) _ _ _); refine' item0a ?zqt ?_; (case zqt => exact Kid.otup (by with_reducible assumption) (by with_reducible assumption) (by with_reducible assumption) (by lcg_sub))) | (refine' item_tupleT ?zqt ?zqa ?zqb ?zqc ?zqd ?_; (case zqt => exact Kid.otup (by with_reducible assumption) (by with_reducible assumption) (by with_reducible assumption) (by lcg_sub)); (case zqa => decide); (case zqb => decide); (case zqc => rfl); (case zqd => rfl)) | ((with_reducible show wpAny _ _ (subscriptTail _ _ (Value.ref _) (Value.int 0 _)) _ _ _); (refine' kid_law ?zqk ?zqN ?zqs ?zqhW ?zqhD ?_ ?_ ?_ ?_ ?_; (case zqk => with_reducible assumption); (case zqN => with_reducible assumption); (case zqs => lcg_sub); (case zqhW => decide); (case zqhD => decide)) <;> intros; all_goals (try (rename _ = Pt.ref _ _ => hq9; subst hq9))))))
  k_with "my subscriptTail Name Constant ref int" => ((k_here; (with_reducible show wpAny _ _ (subscriptTail _ _ (Value.ref _) (Value.int _ _)) _ _ _); k_dflt (first | ((with_reducible show wpAny _ _ (subscriptTail _ _ (Value.ref _) (Value.int 0 _)) _ _ _); refine' item0a ?zqt ?_; (case zqt => exact Kid.otup (by with_reducible assumption) (by with_reducible assumption) (by with_reducible assumption) (by lcg_sub))) | (refine' item_tupleT ?zqt ?zqa ?zqb ?zqc ?zqd ?_; (case zqt => exact Kid.otup (by with_reducible assumption) (by with_reducible assumption) (by with_reducible assumption) (by lcg_sub)); (case zqa => decide); (case zqb => decide); (case zqc => rfl); (case zqd => rfl)) | ((with_reducible show wpAny _ _ (subscriptTail _ _ (Value.ref _) (Value.int 0 _)) _ _ _); (refine' kid_law ?zqk ?zqN ?zqs ?zqhW ?zqhD ?_ ?_ ?_ ?_ ?_; (case zqk => with_reducible assumption); (case zqN => with_reducible assumption); (case zqs => lcg_sub); (case zqhW => decide); (case zqhD => decide)) <;> intros; all_goals (try (rename _ = Pt.ref _ _ => hq9; subst hq9))))))
  k_with "my subscriptTail List cons Slice ref ref" => ((k_here; k_dflt (refine kba_turn (value' := PySem.Expr.Name (PySem.Str.ofString "_") ⟨0, 0, 0, 0⟩) (fun _ => rfl) ?_)))
  trivial
theorem fin_law : PySem.Challenge.rw_xm0582_01.Holds := by
  exact hd (by
    k_go0
    all_goals try k_fold
    k_steps
    all_goals (simp only [beq_self_eq_true]; exact goodW_bool (by with_reducible assumption) (by with_reducible assumption) (raisesW_false allW_false_nil) (postW_of (Eq.refl _) (w_sealed (Spec.Tm.res.eq (Spec.Tm.lit (PyData.bool true))) (some (PyData.bool true)) (Mask.yes _ Mask.nil) (Mask.yes _ Mask.nil) MaskV.nil (res_some (PyData.bool true)) rfl (v_eq_bool (v_res rfl) v_lit)) (by simp)) rfl))
end Mine
end

theorem PySem.Challenge.cw_xm0582_01_holds : PySem.Challenge.rw_xm0582_01.Holds :=
  Mine.fin_law
