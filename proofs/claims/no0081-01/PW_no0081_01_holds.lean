import PyProof.Rows.All
import Wide.All
import OpenK.AllK
import Wide.FinOn
import KE.BytesMake
import Lean
import PySem.Challenge.RW_no0081_01
set_option Elab.async false
set_option linter.all false
set_option maxRecDepth 100000
set_option compiler.extract_closed false
namespace Mine
open PySem PySem.W PySem.Spec PySem.Calls PyProof.Rows
local macro_rules | `(tactic| omega) => `(tactic| ((fail_if_success (fail_if_success (omega (config := {})))); first | lia | (omega (config := {}))))
section
/-- a code that holds a buffer, as bytearray.__init__ looks for it on the stack -/
noncomputable def dec : Code → Bool
  | .builtin id _ => Builtin.Bytes.decodersThatHold.contains id
  | _ => false
noncomputable def NoDec (l : List (Code × Pos)) : Prop := ∀ x ∈ l, dec x.1 = false
theorem NoDec.cons {c : Code} {p : Pos} {l : List (Code × Pos)} (h : dec c = false) (hl : NoDec l) : NoDec ((c, p) :: l) := fun x hx => by
  rcases List.mem_cons.mp hx with rfl | hx
  · exact h
  · exact hl x hx
noncomputable def wpD {α : Type} (M : Model) (A : Around) (t : Sem α) (Q : α → Shared → Prop) (E : Value → Shared → Prop) (s : Shared) : Prop :=
  ∀ Γ p, Γ.In A → dec Γ.code = false → NoDec Γ.below → Sem.wp M Γ t (fun a _ s' => Q a s') (fun e _ s' => E e s') p s
noncomputable def codeD (M : Model) (A : Around) (c : Code) (R : Result → Shared → Prop) (s : Shared) : Prop :=
  ∀ Γ p, Γ.code = c → Γ.Below A → NoDec Γ.below → wpCode M Γ R p s
section
variable {α β : Type} {M : Model} {A : Around} {E : Value → Shared → Prop} {s : Shared}
theorem dAny {t : Sem α} {Q : α → Shared → Prop} (h : wpAny M A t Q E s) : wpD M A t Q E s := fun Γ p hΓ _ _ => h Γ p hΓ
theorem dCode {c : Code} {R : Result → Shared → Prop} (h : codeAny M A c R s) : codeD M A c R s := fun Γ p hc hΓ _ => h Γ p hc hΓ
theorem dMono {t : Sem α} {Q Q' : α → Shared → Prop} {E' : Value → Shared → Prop} (h : wpD M A t Q E s) (hQ : ∀ a s, Q a s → Q' a s) (hE : ∀ e s, E e s → E' e s) : wpD M A t Q' E' s :=
  fun Γ p hΓ c1 c2 => Sem.wp_mono M Γ t (fun a _ s => hQ a s) (fun e _ s => hE e s) p s (h Γ p hΓ c1 c2)
theorem dCodeMono {c : Code} {R R' : Result → Shared → Prop} (h : codeD M A c R s) (hR : ∀ r s, R r s → R' r s) : codeD M A c R' s := fun Γ p hc hΓ h2 => wpCode_mono hR (h Γ p hc hΓ h2)
theorem dPure {a : α} {Q : α → Shared → Prop} (h : Q a s) : wpD M A (pure a) Q E s := fun _ _ _ _ _ => h
theorem dBind {m : Sem α} {f : α → Sem β} {Q : β → Shared → Prop} (h : wpD M A m (fun a s' => wpD M A (f a) Q E s') E s) : wpD M A (m >>= f) Q E s := fun Γ p hΓ c1 c2 => by
  rw [Sem.wp_bind']
  exact Sem.wp_mono M Γ m (fun a p' s' h' => h' Γ p' hΓ c1 c2) (fun _ _ _ h' => h') p s (h Γ p hΓ c1 c2)
theorem dHold {vs : List Value} {m : Sem α} {Q : α → Shared → Prop} (h : wpD M A m Q E s) : wpD M A (holding vs m) Q E s := fun Γ p hΓ c1 c2 => by rw [Sem.wp_holding]; exact h Γ p hΓ c1 c2
theorem dKeep {vs : List Value} {m : Sem α} {Q : α → Shared → Prop} (h : wpD M A m Q E s) : wpD M A (m.keep vs) Q E s := fun Γ p hΓ c1 c2 => by rw [Sem.wp_keep]; exact h Γ p hΓ c1 c2
theorem dOperate {vs : List Value} {m : Sem Value} {Q : Value → Shared → Prop} (h : wpD M A m Q E s) : wpD M A (operate vs m) Q E s := fun Γ p hΓ c1 c2 => by rw [Sem.wp_operate]; exact h Γ p hΓ c1 c2
theorem dOnRaise {m : Sem α} {k : Value → Sem Unit} {Q : α → Shared → Prop} (h : wpD M A m Q (fun e s' => wpAny M A (k e) (fun _ s'' => E e s'') E s') s) : wpD M A (m.onRaise k) Q E s := fun Γ p hΓ c1 c2 => by
  rw [Sem.wp_onRaise]
  exact Sem.wp_mono M Γ m (fun _ _ _ h' => h') (fun e p' s' h' => h' Γ p' hΓ) p s (h Γ p hΓ c1 c2)
theorem dTry {m : Sem α} {k : Value → Sem α} {Q : α → Shared → Prop} (h : wpD M A m Q (fun e s' => wpD M A (k e) Q E s') s) : wpD M A (tryCatch m k) Q E s := fun Γ p hΓ c1 c2 => by
  rw [Sem.wp_tryCatch']
  exact Sem.wp_mono M Γ m (fun _ _ _ h' => h') (fun e p' s' h' => h' Γ p' hΓ c1 c2) p s (h Γ p hΓ c1 c2)
theorem dTree {c : Code} {R : Result → Shared → Prop} (hd : dec c = false)
    (h : wpD M (A.under c) (M.den c) (fun fin s' => match fin with | .done f => R (.ok f) s' | .again c' => c'.quiet = true ∧ codeD M A c' R s') (fun e s' => R (.error e) s') s) : codeD M A c R s := fun Γ p hc hΓ hb => by
  rw [wpCode_iff_wp, hc]
  refine Sem.wp_mono M Γ _ (fun fin p' s' h' => ?_) (fun _ _ _ h' => h') p s (h Γ p (hc ▸ hΓ.in) (by rw [hc]; exact hd) hb)
  cases fin with
  | done f => exact h'
  | again c' => exact ⟨h'.1, h'.2 (Γ.goto c') p' rfl (hΓ.goto c') hb⟩
theorem dRun {c : Code} {h : Option Value} {Q : Flow → Shared → Prop} (hc : codeD M (A.mark h) c (fun r s' => match r with | .ok f => Q f s' | .error e => E e s') s) (hnb : h ≠ some byPass := by intro x; cases x) :
    wpD M A (run c h) Q E s := fun Γ p hΓ c1 c2 => by rw [Sem.wp_run]; exact hc _ p rfl (hΓ.enter c h p hnb) (NoDec.cons c1 c2)
theorem dRunValue {c : Code} {Q : Value → Shared → Prop} (hc : codeD M A c (fun r s' => match r with | .ok (.ret v) => Q v s' | .ok _ => False | .error e => E e s') s) : wpD M A (runValue c) Q E s :=
  fun Γ p hΓ c1 c2 => by rw [Sem.wp_runValue]; exact hc _ p rfl (hΓ.enter c none p (by intro x; cases x)) (NoDec.cons c1 c2)
theorem dCall {f : Value} {pos : List Value} {kw : List (Str × Value)} {Q : Value → Shared → Prop} (hc : codeD M A (.call f ⟨pos, kw⟩) (fun r s' => match r with | .ok (.ret v) => Q v s' | .ok _ => False | .error e => E e s') s) :
    wpD M A (call f pos kw) Q E s := dRunValue hc
/-- the stack, seen in a clean context -/
theorem dStack {Q : List (Code × Pos) → Shared → Prop} (h : ∀ st, NoDec st → (∀ g, A.guards = some g → guardsOf st = g) → Q st s) : wpD M A stack Q E s := fun Γ p hΓ c1 c2 => by
  show Q ((Γ.code, p) :: Γ.below) s
  exact h _ (NoDec.cons c1 c2) fun g hg => by rw [guardsOf_cons]; exact hΓ.2.2.2.1 g hg
end
section
variable {M : Model} {A : Around} {E : Value → Shared → Prop} {s : Shared} {env : Env}
theorem dExecs {st : Stmt} {rest : List Stmt} {Q : Flow → Shared → Prop} (h : wpD M A (exec st env) (fun f s' => match f with | .next => wpD M A (execs rest env) Q E s' | f => Q f s') E s) :
    wpD M A (execs (st :: rest) env) Q E s := by
  rw [execs_cons]
  refine dBind (dMono h (fun f s' h' => ?_) fun _ _ x => x)
  cases f <;> first | exact h' | exact dPure h'
theorem dAssign {x : Str} {p' pos : Pos} {value : PySem.Expr} {Q : Flow → Shared → Prop} (h : wpD M A (eval value env) (fun v s₁ => wpD M A (storeName env x v) (fun _ => Q .next) E s₁) E s)
    (hs : swapsWith value (some (.Name x p')) pos.line env = pure false := by rfl) : wpD M A (exec (.Assign [.Name x p'] value pos) env) Q E s := by
  rw [exec_Assign_Name env x p' value pos hs]
  refine dBind (dAny (wpAny_standAt (dBind (dMono h (fun v s₁ h₁ => dBind (dAny (wpAny_standAt (dBind ?_)))) fun _ _ x => x))))
  intro Γ p hΓ c1 c2
  rw [Sem.wp_bindName]
  exact dMono h₁ (fun _ _ q => dPure q) (fun _ _ q => q) Γ p hΓ c1 c2
theorem dReturn {e : PySem.Expr} {pos : Pos} {Q : Flow → Shared → Prop} (h : wpD M A (eval e env) (fun v s' => Q (.ret v) s') E s) : wpD M A (exec (.Return (some e) pos) env) Q E s := by
  rw [exec_Return_some]
  exact dBind (dAny (wpAny_standAt (dBind (dMono h (fun _ _ q => dPure q) fun _ _ x => x))))
theorem dIf {test : PySem.Expr} {body orelse : List Stmt} {pos : Pos} {Q : Flow → Shared → Prop} (h : wpD M A (isTrue test env (eval test env)) (fun b s₂ => if b then wpD M A (execs body env) Q E s₂ else wpD M A (execs orelse env) Q E s₂) E s) :
    wpD M A (exec (.If test body orelse pos) env) Q E s := by
  rw [exec_If]
  refine dBind (dAny (wpAny_standAt (dBind (dMono h (fun b s₂ q => ?_) fun _ _ x => x))))
  cases b <;> exact q
theorem dTest1 {l r : PySem.Expr} {op : CmpOp} {pos : Pos} {whole : Sem Value} {Q : Bool → Shared → Prop}
    (h : wpD M A (eval l env) (fun a s₁ => wpD M A (eval r env) (fun b s₂ => wpD M A (compareOp op a b) (fun c s₃ => wpD M A (truthy c) Q E s₃) E s₂) E s₁) E s) (hm : behindInMarks op r = false := by with_unfolding_all rfl) :
    wpD M A (isTrue (.Compare l [op] [r] pos) env whole) Q E s := by
  rw [isTrue_Compare1, markedBehindIn_of_false hm]
  exact dBind (dMono h (fun a s₁ h₁ => dBind (dHold (dMono h₁ (fun b s₂ h₂ => dBind (dAny (wpAny_standAt (dBind (dOperate (dMono h₂ (fun c s₃ h₃ => dHold h₃) fun _ _ x => x)))))) fun _ _ x => x))) fun _ _ x => x)
theorem dBinOp {l r : PySem.Expr} {op : Operator} {pos : Pos} {Q : Value → Shared → Prop}
    (h : wpD M A (eval l env) (fun a s₁ => wpD M A (eval r env) (fun b s₂ => wpD M A (binaryOp op a b) Q E s₂) E s₁) E s) : wpD M A (eval (.BinOp l op r pos) env) Q E s := by
  rw [eval_BinOp]
  exact dBind (dMono h (fun a s₁ h₁ => dBind (dHold (dMono h₁ (fun b s₂ h₂ => dBind (dAny (wpAny_standAt (dOperate h₂)))) fun _ _ x => x))) fun _ _ x => x)
theorem dSubscript {value slice : PySem.Expr} {pos : Pos} {Q : Value → Shared → Prop}
    (h : wpD M A (eval value env) (fun o s₁ => wpAny M A (eval slice env) (fun i s₂ => wpAny M A (subscriptTail value slice o i) Q E s₂) E s₁) E s) : wpD M A (eval (.Subscript value slice pos) env) Q E s := by
  rw [eval_Subscript]
  exact dBind (dMono h (fun o s₁ h₁ => dAny (wpAny_bind (wpAny_holding (wpAny_mono h₁ (fun i s₂ h₂ => wpAny_bind (wpAny_standAt h₂)) fun _ _ x => x)))) fun _ _ x => x)
theorem dCallName {x : Str} {p pos : Pos} {args : List PySem.Expr} {Q : Value → Shared → Prop}
    (h : wpAny M A (eval (.Name x p) env) (fun f s₁ => wpD M A (callWith pos f [] (backTo pos (starEach args env)) []) Q E s₁) E s) : wpD M A (eval (.Call (.Name x p) args [] pos) env) Q E s := dBind (dAny h)
theorem dEvalArgs {f : Value} {x : Sem Value} {rest : List (Bool × Sem Value)} {Q : Args → Shared → Prop}
    (h : wpD M A (spliced ((false, x) :: rest)) (fun vs s' => Q ⟨vs, []⟩ s') E s) : wpD M A (evalArgs f true ((false, x) :: rest) []) Q E s := by
  unfold evalArgs
  show wpD M A (spliced ((false, x) :: rest) >>= _) Q E s
  exact dBind (dMono h (fun vs s' h' => dHold (dBind (dPure (dBind (dPure (dPure h')))))) fun _ _ x => x)
theorem dCallWith {K : Frag} {f : Value} {pos : Pos} {e : PySem.Expr} {rest : List PySem.Expr} {Q : Value → Shared → Prop} (hk : keepIn K f = true)
    (h : wpD M A (spliced (backTo pos (starEach (e :: rest) env))) (fun vs s₁ => K.In s₁.heap ∧ wpD M A (call f vs) Q E s₁) E s)
    (he : starEach (e :: rest) env = (false, eval e env) :: starEach rest env := by rfl) (hplain : (backTo pos (starEach rest env)).any (·.1) = false := by rfl) :
    wpD M A (callWith pos f [] (backTo pos (starEach (e :: rest) env)) []) Q E s := by
  rw [he] at h ⊢
  have hp : (((backTo pos ((false, eval e env) :: starEach rest env)).any (·.1)) || ([] : List (Option Str × Sem Value)).any (·.1.isNone)) = false := by
    show ((false || (backTo pos (starEach rest env)).any (·.1)) || false) = false
    rw [hplain]; rfl
  unfold callWith
  refine dBind (dHold (dMono (dEvalArgs (Q := fun a s₁ => K.In s₁.heap ∧ wpD M A (call f a.pos a.kw) Q E s₁) h) (fun a s₁ h₁ => dBind (dAny (wpAny_standAt ?_))) fun _ _ x => x))
  obtain ⟨k, hk', L⟩ := keeps_K (M := M) hk _ h₁.1
  simp only [hp]
  refine dBind (dAny (L.here ?_))
  have tail : ∀ {t : Sem Value}, wpD M A t Q E s₁ → wpD M A (t >>= fun r => holding [r] point >>= fun _ => pure r) Q E s₁ :=
    fun ht => dBind (dMono ht (fun r s₂ hr => dBind (dHold (dAny (wpAny_point (dPure hr))))) fun _ _ x => x)
  have marked (mk : Value) : wpD M A (callMarked mk f ([] ++ a.pos) a.kw) Q E s₁ := by unfold callMarked; exact dKeep h₁.2
  rcases hk' with rfl | rfl | rfl <;> dsimp only <;> first | exact tail h₁.2 | (split <;> first | exact tail h₁.2 | exact tail (marked _))
end
end
section
/-- the caller's own context is clean -/
theorem dEnds {prog : Program} {w : World} {t : Sem Fin} {s : Shared} {R : Result → Shared → Prop} (hreg : s.asleep)
    (h : wpD (model prog w) callerA t (fun fin s' => ∃ f, fin = .done f ∧ (R (.ok f) s' ∧ leftWithCleanup s'.gens = false)) (fun e s' => R (.error e) s' ∧ leftWithCleanup s'.gens = false) s) :
    ∃ n r s' s'', runN (denote table) prog w n s ⟨t, .builtin "claim.caller" {}, default, []⟩ = .halted (outcomeOf r) s' ∧
      schedN (denote table) prog w n (.single s ⟨t, .builtin "claim.caller" {}, default, []⟩) = .halted (outcomeOf r) s' ∧ s'.forget = s''.forget ∧ R r s'' := by
  have h1 : Sem.wp (model prog w) ⟨.builtin "claim.caller" {}, none, none, [], none⟩ t (Sem.finPost (model prog w) ⟨.builtin "claim.caller" {}, none, none, [], none⟩ fun r s' => R r s' ∧ leftWithCleanup s'.gens = false)
      (fun e _ s' => R (.error e) s' ∧ leftWithCleanup s'.gens = false) default s := by
    refine Sem.wp_mono _ _ t (fun fin p' s' h' => ?_) (fun _ _ _ h' => h') default s (h _ default caller_in (by decide +kernel) (fun x hx => nomatch hx))
    obtain ⟨f, rfl, hf⟩ := h'
    exact hf
  obtain ⟨n, r, s₁, s₂, hs, hn, hfo, hR⟩ := wp_halts_full (M := model prog w) (R := R) hreg h1
  exact ⟨n, r, s₂, s₁, hn, hs, hfo, hR⟩
theorem dCallFrom {c : ClaimW} {tree : List Value → Sem Fin} {w : World} {s : Shared} {free : Addr → Prop} {gens : Prop} {kept : Heap → Prop} (hz : s.asleep) (hgens : s.gens = #[])
    (hspec : ∀ args, c.pre args = true → WData.layableAll args = true →
      ∀ ord : List DictEntry → List DictEntry, (∀ l, (ord l).Perm l) →
      ∃ vs s₁, layAllW c.records (classAt s.heap) w.params ord args s = some (vs, s₁) ∧
        wpD (model c.prog w) callerA (tree vs) (fun fin s' => ∃ f, fin = .done f ∧ (c.Ends s args vs s₁ (.ok f) s' ∧ s'.os = s.os ∧ AllBare s'.gens ∧ kept s'.heap))
          (fun e s' => c.Ends s args vs s₁ (.error e) s' ∧ s'.os = s.os ∧ AllBare s'.gens ∧ kept s'.heap) s₁) :
    c.CallFrom (fun vs => ⟨tree vs, .builtin "claim.caller" {}, default, []⟩) w free gens kept s := by
  intro args hpre hlay ord hord
  obtain ⟨vs, s₁, hlaid, hcode⟩ := hspec args hpre hlay ord hord
  have hal := layAllW_rest _ _ _ hlaid
  obtain ⟨k, r, s', s'', hrun, hsched, hfo, hcase, hos, hkp⟩ := dEnds (prog := c.prog) (w := w) (t := tree vs) (s := s₁)
    (R := fun r s' => c.Ends s args vs s₁ r s' ∧ s'.os = s.os ∧ kept s'.heap)
    (Shared.asleep_of_life hal.2.2.2 hz)
    (dMono hcode (by
      rintro fin s' ⟨f, e, h1, h2, h3, h4⟩
      exact ⟨f, e, ⟨h1, h2, h4⟩, leftWithCleanup_false_of_bare h3⟩) (by
      rintro e s' ⟨h1, h2, h3, h4⟩
      exact ⟨⟨h1, h2, h4⟩, leftWithCleanup_false_of_bare h3⟩))
  obtain ⟨eh, _, _, eo, _⟩ := Shared.forget_eq hfo
  have hcase := hcase.congr eh
  have hkp : kept s'.heap := by first | exact eh ▸ hkp | (rw [eh] at hkp; exact hkp) | (rw [← eh] at hkp; exact hkp)
  rw [← eo] at hos
  have hlife : s'.heap.life = s.heap.life := (runN_life _ _ _ hrun).trans hal.2.2.2
  refine ⟨vs, s₁, hlaid, k, _, s', hsched, ?_, (fun _ i x hx => by rw [hgens] at hx; simp at hx), hkp, by rw [hlife], Shared.rest_eq hos⟩
  rcases hcase with ⟨v, rfl, d1, d2, d3, d4, d5⟩ | ⟨e, ob, cls, rfl, d1, d2, d3, d4, d5⟩
  · exact .inl ⟨v, rfl, d1, d2, d3, fun b o y _ => d4 b o y, d5⟩
  · exact .inr ⟨e, ob, cls, rfl, d1, d2, d3, d4, fun b o y _ => d5 b o y⟩
noncomputable abbrev WalkD (q : Program) (loose : List Str) (XP : (Str → Option Value) → Heap → Prop) (YP : World → Heap → Prop) (r : RowW) (d : DefRec) (kwd : List (Str × PySem.Expr)) : Prop :=
  ∀ (w : World) (s₀ s₁ : Shared) (mg mb : Str → Option Value), Ground q loose r.records XP w s₀ mg mb s₁.heap → YP w s₁.heap → ∀ (a : Addr) (o : Obj) (pm cd doc dV kV : Value), s₁.heap.get? a = some o →
    o.data = .func { docDef d.name d.params d.body d.scope pm cd doc with defaults := dV, kwdefaults := kV } → s₁.heap.CodeRec cd d.name → Dflts mg s₁.heap d.params kwd dV kV → mg d.name = some (.ref a) → s₁.gens = #[] →
    ∀ (args : List WData) (vals : List Value) (as : List Addr), r.claim.pre args = true → WData.layableAll args = true → ReadsAllW r.records (classAt s₀.heap) s₁.heap vals args as → WellAll w.params s₁.heap vals args → (∀ a ∈ as, (a == sysModules) = false) →
      wpD (model r.prog w) callerA (PySem.call (.ref a) vals) (fun v s' => GoodWG r.claim (classAt s₀.heap) (ExcName.means s₀.heap) args s₁ (.ok (.ret v)) s')
        (fun e s' => GoodWG r.claim (classAt s₀.heap) (ExcName.means s₀.heap) args s₁ (.error e) s') s₁
theorem holdsD {r : OpenRow} {q : Program} {loose : List Str} {Xt : Shared → Bool} {XP : (Str → Option Value) → Heap → Prop} {α : Type} {Yf : Shared → α} {Ya : World → α} {YP : World → Heap → Prop} {d : DefRec} {kwd : List (Str × PySem.Expr)} {N : Nat}
    (left : LeftO r.prog q loose Xt Yf Ya N) (hY : ∀ w s, Yf s = Ya w → YP w s.heap) (hYk : ∀ w h h', YP w h → (∀ b o, h.get? b = some o → h'.get? b = some o) → YP w h')
    (hX : ∀ s, Xt s = true → XP (s.heap.nsMap mainGlobals) s.heap) (hXk : ∀ mg h h', XP mg h → (∀ b o, h.get? b = some o → h'.get? b = some o) → XP mg h')
    (hdef : defOf q r.name = some (d, kwd)) (hp : r.prog.theDef r.name = some (d.params, d.body, d.scope)) (hk : kwWritten? d.params.kwonlyargs d.params.kw_defaults = some kwd) (hRf : ∀ s, Xt s = true → RecFacts r.records s.heap) (hwr : (!r.writes || r.records.isEmpty) = true)
    (k1 : r.wellSaid = true) (ok : (chainsOk q && opensWell r.prog && (frees r.toRowW && r.within.isEmpty)) = true) (hb : r.prog.bare) (hw : r.toRowW.promised)
    (call : WalkD q loose XP YP r.toRowW d kwd) : r.Holds := by
  obtain ⟨ok, k5⟩ := Bool.and_eq_true_iff.mp ok
  obtain ⟨hch, o1⟩ := Bool.and_eq_true_iff.mp ok
  obtain ⟨k5, k6⟩ := Bool.and_eq_true_iff.mp k5
  obtain ⟨hsame, hu, ha, hap, hm⟩ := frees_parts k5
  refine ⟨k1, hw, ⟨⟨hb, o1, by show r.toRowW.makers.map _ = []; rw [hm]; rfl⟩, hw.witness, fun w => ⟨(left.behind hX hch w).1, fun s' hs' => ?_⟩⟩⟩
  obtain ⟨s₀, hf, hg0, s, hT, hz, hgens, hg, G00, y⟩ := (left.behind (XP := fun mg h => XP mg h ∧ RecFacts r.records h) (fun s hs => ⟨hX s hs, hRf s hs⟩) hch w).2 s' hs'
  have G0 : Ground q loose [] XP w s (s.heap.nsMap mainGlobals) (s.heap.nsMap builtinsNs) s.heap := ⟨G00.T, G00.B, G00.D, G00.TE, G00.TD, G00.W, G00.X.1, G00.cls, G00.has, G00.apart, G00.once, G00.K⟩
  have RF := G00.X.2
  have hT' := hT
  refine ⟨s₀, hf, hg0, s, hT, fun n hn => ?_, RF.1, RF.2.1, ?_⟩
  · obtain rfl : n = r.name := by split at hn <;> simp_all
    exact pinned_of_view hg G0 hdef hp hk
  have hgens : s.gens = #[] := Array.eq_empty_of_size_eq_zero (beq_iff_eq.mp hgens)
  have G : Ground q loose r.records XP w s _ _ s.heap := RF.ground G0
  refine dCallFrom (c := r.toRowW.claim) hz hgens fun args hpre hlay ord hord => ?_
  obtain ⟨⟨vs, s₁⟩, hlaid⟩ := Option.isSome_iff_exists.mp (layAllW_isSome (P := w.params) (ord := ord) G.has args r.args s (pre_splitW hpre).1)
  have keeps := layAllW_keeps _ _ _ hlaid
  have hal := layAllW_rest _ _ _ hlaid
  obtain ⟨as, hrd, hin, hold⟩ := reads_layAllW hord _ _ _ hlaid hlay s₁.heap (fun _ _ e => e)
  have L : Laid r.records w s s₁ args vs as := ⟨⟨ord, hord, hlaid⟩, hrd, hin, hold, keeps, hal.1.trans hgens, hal.2.2.1⟩
  have G₁ := G.keeps hXk keeps
  obtain ⟨a, o, pm, cd, doc, dV, kV, h1, h2, h3, h4, h5⟩ := G₁.fn hdef
  have h := call w s s₁ _ _ G₁ (hYk _ _ _ (hY w s y) keeps) a o pm cd doc dV kV h2 h3 h4 h5 (defOf_name hdef ▸ h1) L.gens args vs as hpre hlay L.reads L.well (L.low G.low)
  have hi := ident_freeW hu ha hap
  have hwi : r.toRowW.claim.within = [] := List.isEmpty_iff.mp k6
  refine ⟨vs, s₁, hlaid, dBind (dAny (wpAny_nsGet G₁.T.g ?_))⟩
  rw [h1]
  refine dBind (dMono h (fun v s' g => dPure ⟨_, rfl, ?_⟩) fun e s' g => ?_)
  · have z := g.laid (c := r.toRowW.claim) hsame hwi hi L
    exact ⟨z.1, z.2.1, z.2.2, fun q => ⟨namesKept_of hT' hg _ keeps g.2.1.old, noTable hwr q⟩⟩
  · have z := g.laid (c := r.toRowW.claim) hsame hwi hi L
    exact ⟨z.1, z.2.1, z.2.2, fun q => ⟨namesKept_of hT' hg _ keeps g.2.1.old, noTable hwr q⟩⟩
end
section
noncomputable def hd.mkV {z0 z1 z2 z3 z4 z5 z6 z7 z8 z9 z10 z11 z12 z13 z14 z15 z16 z17 z18 z19 z20 z21 z22 z23 z24 z25 z26 z27 z28 z29 z30 z31 z32 z33 z34 z35 z36 z37 z38 z39 z40 z41 z42 z43 z44 z45 z46 z47 z48 z49 z50 z51 z52 z53 z54 z55 z56 z57 z58 : Stmt} (h : PySem.Challenge.pw_no0081_01.main.body = [z0, z1, z2, z3, z4, z5, z6, z7, z8, z9, z10, z11, z12, z13, z14, z15, z16, z17, z18, z19, z20, z21, z22, z23, z24, z25, z26, z27, z28, z29, z30, z31, z32, z33, z34, z35, z36, z37, z38, z39, z40, z41, z42, z43, z44, z45, z46, z47, z48, z49, z50, z51, z52, z53, z54, z55, z56, z57, z58]) : Program :=
  { PySem.Challenge.pw_no0081_01 with main := { PySem.Challenge.pw_no0081_01.main with body := [z0, z2, z3, z4, z5, z6, z8, z9, z10, z11, z13, z15, z16, z17, z18, z19, z20, z21, z22, z23, z24, z25, z26, z27, z28, z30, z31, z32, z33, z34, z35, z36, z37, z38, z39, z40, z41, z42, z43, z44, z45, z47, z49, z50, z51, z53, z54, z55, z56, z57, z58] } }
noncomputable def hd.view_39 : Program := hd.mkV rfl
noncomputable def hd.sig {f0x0 : Str} {f0x1 : Arguments} {f0x2 : List Stmt} {f0x3 : List PySem.Expr} {f0x4 : Option PySem.Expr} {f0x5 : List TypeParam} {f0x6 : Scope} {f0x7 : Option Scope} {f0x8 : Str} {f0x9 : Pos} {y1 : Stmt} {y2 : Stmt} {y3 : Stmt} {f5x0 : Str} {f5x1 : Arguments} {f5x2 : List Stmt} {f5x3 : List PySem.Expr} {f5x4 : Option PySem.Expr} {f5x5 : List TypeParam} {f5x6 : Scope} {f5x7 : Option Scope} {f5x8 : Str} {f5x9 : Pos} {c4x0 : Str} {c4x1 : List PySem.Expr} {c4x2 : List Keyword} {c4x4 : List PySem.Expr} {c4x5 : List TypeParam} {c4x6 : Scope} {c4x7 : Option Scope} {c4x8 : Str} {c4x9 : List Str} {c4x10 : Pos} {f7x0 : Str} {f7x1 : Arguments} {f7x2 : List Stmt} {f7x3 : List PySem.Expr} {f7x4 : Option PySem.Expr} {f7x5 : List TypeParam} {f7x6 : Scope} {f7x7 : Option Scope} {f7x8 : Str} {f7x9 : Pos} {c6x0 : Str} {c6x1 : List PySem.Expr} {c6x2 : List Keyword} {c6x4 : List PySem.Expr} {c6x5 : List TypeParam} {c6x6 : Scope} {c6x7 : Option Scope} {c6x8 : Str} {c6x9 : List Str} {c6x10 : Pos} {f9x0 : Str} {f9x1 : Arguments} {f9x2 : List Stmt} {f9x3 : List PySem.Expr} {f9x4 : Option PySem.Expr} {f9x5 : List TypeParam} {f9x6 : Scope} {f9x7 : Option Scope} {f9x8 : Str} {f9x9 : Pos} {c8x0 : Str} {c8x1 : List PySem.Expr} {c8x2 : List Keyword} {c8x4 : List PySem.Expr} {c8x5 : List TypeParam} {c8x6 : Scope} {c8x7 : Option Scope} {c8x8 : Str} {c8x9 : List Str} {c8x10 : Pos} {y10 : Stmt} {y11 : Stmt} {f12x0 : Str} {f12x1 : Arguments} {f12x2 : List Stmt} {f12x3 : List PySem.Expr} {f12x4 : Option PySem.Expr} {f12x5 : List TypeParam} {f12x6 : Scope} {f12x7 : Option Scope} {f12x8 : Str} {f12x9 : Pos} {f13x0 : Str} {f13x1 : Arguments} {f13x2 : List Stmt} {f13x3 : List PySem.Expr} {f13x4 : Option PySem.Expr} {f13x5 : List TypeParam} {f13x6 : Scope} {f13x7 : Option Scope} {f13x8 : Str} {f13x9 : Pos} {f14x0 : Str} {f14x1 : Arguments} {f14x2 : List Stmt} {f14x3 : List PySem.Expr} {f14x4 : Option PySem.Expr} {f14x5 : List TypeParam} {f14x6 : Scope} {f14x7 : Option Scope} {f14x8 : Str} {f14x9 : Pos} {y15 : Stmt} {f17x0 : Str} {f17x1 : Arguments} {f17x2 : List Stmt} {f17x3 : List PySem.Expr} {f17x4 : Option PySem.Expr} {f17x5 : List TypeParam} {f17x6 : Scope} {f17x7 : Option Scope} {f17x8 : Str} {f17x9 : Pos} {f18x0 : Str} {f18x1 : Arguments} {f18x2 : List Stmt} {f18x3 : List PySem.Expr} {f18x4 : Option PySem.Expr} {f18x5 : List TypeParam} {f18x6 : Scope} {f18x7 : Option Scope} {f18x8 : Str} {f18x9 : Pos} {f19x0 : Str} {f19x1 : Arguments} {f19x2 : List Stmt} {f19x3 : List PySem.Expr} {f19x4 : Option PySem.Expr} {f19x5 : List TypeParam} {f19x6 : Scope} {f19x7 : Option Scope} {f19x8 : Str} {f19x9 : Pos} {f20x0 : Str} {f20x1 : Arguments} {f20x2 : List Stmt} {f20x3 : List PySem.Expr} {f20x4 : Option PySem.Expr} {f20x5 : List TypeParam} {f20x6 : Scope} {f20x7 : Option Scope} {f20x8 : Str} {f20x9 : Pos} {f21x0 : Str} {f21x1 : Arguments} {f21x2 : List Stmt} {f21x3 : List PySem.Expr} {f21x4 : Option PySem.Expr} {f21x5 : List TypeParam} {f21x6 : Scope} {f21x7 : Option Scope} {f21x8 : Str} {f21x9 : Pos} {f22x0 : Str} {f22x1 : Arguments} {f22x2 : List Stmt} {f22x3 : List PySem.Expr} {f22x4 : Option PySem.Expr} {f22x5 : List TypeParam} {f22x6 : Scope} {f22x7 : Option Scope} {f22x8 : Str} {f22x9 : Pos} {c16x0 : Str} {c16x1 : List PySem.Expr} {c16x2 : List Keyword} {c16x4 : List PySem.Expr} {c16x5 : List TypeParam} {c16x6 : Scope} {c16x7 : Option Scope} {c16x8 : Str} {c16x9 : List Str} {c16x10 : Pos} {y23 : Stmt} {y24 : Stmt} {y25 : Stmt} {y26 : Stmt} {y27 : Stmt} {y28 : Stmt} {f30x0 : Str} {f30x1 : Arguments} {f30x2 : List Stmt} {f30x3 : List PySem.Expr} {f30x4 : Option PySem.Expr} {f30x5 : List TypeParam} {f30x6 : Scope} {f30x7 : Option Scope} {f30x8 : Str} {f30x9 : Pos} {c29x0 : Str} {c29x1 : List PySem.Expr} {c29x2 : List Keyword} {c29x4 : List PySem.Expr} {c29x5 : List TypeParam} {c29x6 : Scope} {c29x7 : Option Scope} {c29x8 : Str} {c29x9 : List Str} {c29x10 : Pos} {f31x0 : Str} {f31x1 : Arguments} {f31x2 : List Stmt} {f31x3 : List PySem.Expr} {f31x4 : Option PySem.Expr} {f31x5 : List TypeParam} {f31x6 : Scope} {f31x7 : Option Scope} {f31x8 : Str} {f31x9 : Pos} {f32x0 : Str} {f32x1 : Arguments} {f32x2 : List Stmt} {f32x3 : List PySem.Expr} {f32x4 : Option PySem.Expr} {f32x5 : List TypeParam} {f32x6 : Scope} {f32x7 : Option Scope} {f32x8 : Str} {f32x9 : Pos} {f33x0 : Str} {f33x1 : Arguments} {f33x2 : List Stmt} {f33x3 : List PySem.Expr} {f33x4 : Option PySem.Expr} {f33x5 : List TypeParam} {f33x6 : Scope} {f33x7 : Option Scope} {f33x8 : Str} {f33x9 : Pos} {f34x0 : Str} {f34x1 : Arguments} {f34x2 : List Stmt} {f34x3 : List PySem.Expr} {f34x4 : Option PySem.Expr} {f34x5 : List TypeParam} {f34x6 : Scope} {f34x7 : Option Scope} {f34x8 : Str} {f34x9 : Pos} {f35x0 : Str} {f35x1 : Arguments} {f35x2 : List Stmt} {f35x3 : List PySem.Expr} {f35x4 : Option PySem.Expr} {f35x5 : List TypeParam} {f35x6 : Scope} {f35x7 : Option Scope} {f35x8 : Str} {f35x9 : Pos} {f36x0 : Str} {f36x1 : Arguments} {f36x2 : List Stmt} {f36x3 : List PySem.Expr} {f36x4 : Option PySem.Expr} {f36x5 : List TypeParam} {f36x6 : Scope} {f36x7 : Option Scope} {f36x8 : Str} {f36x9 : Pos} {f37x0 : Str} {f37x1 : Arguments} {f37x2 : List Stmt} {f37x3 : List PySem.Expr} {f37x4 : Option PySem.Expr} {f37x5 : List TypeParam} {f37x6 : Scope} {f37x7 : Option Scope} {f37x8 : Str} {f37x9 : Pos} {f38x0 : Str} {f38x1 : Arguments} {f38x2 : List Stmt} {f38x3 : List PySem.Expr} {f38x4 : Option PySem.Expr} {f38x5 : List TypeParam} {f38x6 : Scope} {f38x7 : Option Scope} {f38x8 : Str} {f38x9 : Pos} {y39 : Stmt} {y40 : Stmt} {y41 : Stmt} {y42 : Stmt} {y43 : Stmt} {y44 : Stmt} {f45x0 : Str} {f45x1 : Arguments} {f45x2 : List Stmt} {f45x3 : List PySem.Expr} {f45x4 : Option PySem.Expr} {f45x5 : List TypeParam} {f45x6 : Scope} {f45x7 : Option Scope} {f45x8 : Str} {f45x9 : Pos} {f46x0 : Str} {f46x1 : Arguments} {f46x2 : List Stmt} {f46x3 : List PySem.Expr} {f46x4 : Option PySem.Expr} {f46x5 : List TypeParam} {f46x6 : Scope} {f46x7 : Option Scope} {f46x8 : Str} {f46x9 : Pos} {f47x0 : Str} {f47x1 : Arguments} {f47x2 : List Stmt} {f47x3 : List PySem.Expr} {f47x4 : Option PySem.Expr} {f47x5 : List TypeParam} {f47x6 : Scope} {f47x7 : Option Scope} {f47x8 : Str} {f47x9 : Pos} {f48x0 : Str} {f48x1 : Arguments} {f48x2 : List Stmt} {f48x3 : List PySem.Expr} {f48x4 : Option PySem.Expr} {f48x5 : List TypeParam} {f48x6 : Scope} {f48x7 : Option Scope} {f48x8 : Str} {f48x9 : Pos} {f49x0 : Str} {f49x1 : Arguments} {f49x2 : List Stmt} {f49x3 : List PySem.Expr} {f49x4 : Option PySem.Expr} {f49x5 : List TypeParam} {f49x6 : Scope} {f49x7 : Option Scope} {f49x8 : Str} {f49x9 : Pos} {f50x0 : Str} {f50x1 : Arguments} {f50x2 : List Stmt} {f50x3 : List PySem.Expr} {f50x4 : Option PySem.Expr} {f50x5 : List TypeParam} {f50x6 : Scope} {f50x7 : Option Scope} {f50x8 : Str} {f50x9 : Pos} {f51x0 : Str} {f51x1 : Arguments} {f51x2 : List Stmt} {f51x3 : List PySem.Expr} {f51x4 : Option PySem.Expr} {f51x5 : List TypeParam} {f51x6 : Scope} {f51x7 : Option Scope} {f51x8 : Str} {f51x9 : Pos} {f52x0 : Str} {f52x1 : Arguments} {f52x2 : List Stmt} {f52x3 : List PySem.Expr} {f52x4 : Option PySem.Expr} {f52x5 : List TypeParam} {f52x6 : Scope} {f52x7 : Option Scope} {f52x8 : Str} {f52x9 : Pos} {f53x0 : Str} {f53x1 : Arguments} {f53x2 : List Stmt} {f53x3 : List PySem.Expr} {f53x4 : Option PySem.Expr} {f53x5 : List TypeParam} {f53x6 : Scope} {f53x7 : Option Scope} {f53x8 : Str} {f53x9 : Pos} {f54x0 : Str} {f54x1 : Arguments} {f54x2 : List Stmt} {f54x3 : List PySem.Expr} {f54x4 : Option PySem.Expr} {f54x5 : List TypeParam} {f54x6 : Scope} {f54x7 : Option Scope} {f54x8 : Str} {f54x9 : Pos} {f55x0 : Str} {f55x1 : Arguments} {f55x2 : List Stmt} {f55x3 : List PySem.Expr} {f55x4 : Option PySem.Expr} {f55x5 : List TypeParam} {f55x6 : Scope} {f55x7 : Option Scope} {f55x8 : Str} {f55x9 : Pos} {y56 : Stmt} {f57x0 : Str} {f57x1 : Arguments} {f57x2 : List Stmt} {f57x3 : List PySem.Expr} {f57x4 : Option PySem.Expr} {f57x5 : List TypeParam} {f57x6 : Scope} {f57x7 : Option Scope} {f57x8 : Str} {f57x9 : Pos} {y58 : Stmt} {f59x0 : Str} {f59x1 : Arguments} {f59x2 : List Stmt} {f59x3 : List PySem.Expr} {f59x4 : Option PySem.Expr} {f59x5 : List TypeParam} {f59x6 : Scope} {f59x7 : Option Scope} {f59x8 : Str} {f59x9 : Pos} {f60x0 : Str} {f60x1 : Arguments} {f60x2 : List Stmt} {f60x3 : List PySem.Expr} {f60x4 : Option PySem.Expr} {f60x5 : List TypeParam} {f60x6 : Scope} {f60x7 : Option Scope} {f60x8 : Str} {f60x9 : Pos} {f61x0 : Str} {f61x1 : Arguments} {f61x2 : List Stmt} {f61x3 : List PySem.Expr} {f61x4 : Option PySem.Expr} {f61x5 : List TypeParam} {f61x6 : Scope} {f61x7 : Option Scope} {f61x8 : Str} {f61x9 : Pos} {y62 : Stmt} {f63x0 : Str} {f63x1 : Arguments} {f63x2 : List Stmt} {f63x3 : List PySem.Expr} {f63x4 : Option PySem.Expr} {f63x5 : List TypeParam} {f63x6 : Scope} {f63x7 : Option Scope} {f63x8 : Str} {f63x9 : Pos} {f64x0 : Str} {f64x1 : Arguments} {f64x2 : List Stmt} {f64x3 : List PySem.Expr} {f64x4 : Option PySem.Expr} {f64x5 : List TypeParam} {f64x6 : Scope} {f64x7 : Option Scope} {f64x8 : Str} {f64x9 : Pos} {f65x0 : Str} {f65x1 : Arguments} {f65x2 : List Stmt} {f65x3 : List PySem.Expr} {f65x4 : Option PySem.Expr} {f65x5 : List TypeParam} {f65x6 : Scope} {f65x7 : Option Scope} {f65x8 : Str} {f65x9 : Pos} {f66x0 : Str} {f66x1 : Arguments} {f66x2 : List Stmt} {f66x3 : List PySem.Expr} {f66x4 : Option PySem.Expr} {f66x5 : List TypeParam} {f66x6 : Scope} {f66x7 : Option Scope} {f66x8 : Str} {f66x9 : Pos} {f67x0 : Str} {f67x1 : Arguments} {f67x2 : List Stmt} {f67x3 : List PySem.Expr} {f67x4 : Option PySem.Expr} {f67x5 : List TypeParam} {f67x6 : Scope} {f67x7 : Option Scope} {f67x8 : Str} {f67x9 : Pos} {f68x0 : Str} {f68x1 : Arguments} {f68x2 : List Stmt} {f68x3 : List PySem.Expr} {f68x4 : Option PySem.Expr} {f68x5 : List TypeParam} {f68x6 : Scope} {f68x7 : Option Scope} {f68x8 : Str} {f68x9 : Pos}
  (h : PySem.Challenge.pw_no0081_01.main.body = [.FunctionDef f0x0 f0x1 f0x2 f0x3 f0x4 f0x5 f0x6 f0x7 f0x8 f0x9,
   y1,
   y2,
   y3,
   .ClassDef c4x0 c4x1 c4x2 [.FunctionDef f5x0 f5x1 f5x2 f5x3 f5x4 f5x5 f5x6 f5x7 f5x8 f5x9] c4x4 c4x5 c4x6 c4x7 c4x8 c4x9 c4x10,
   .ClassDef c6x0 c6x1 c6x2 [.FunctionDef f7x0 f7x1 f7x2 f7x3 f7x4 f7x5 f7x6 f7x7 f7x8 f7x9] c6x4 c6x5 c6x6 c6x7 c6x8 c6x9 c6x10,
   .ClassDef c8x0 c8x1 c8x2 [.FunctionDef f9x0 f9x1 f9x2 f9x3 f9x4 f9x5 f9x6 f9x7 f9x8 f9x9] c8x4 c8x5 c8x6 c8x7 c8x8 c8x9 c8x10,
   y10,
   y11,
   .FunctionDef f12x0 f12x1 f12x2 f12x3 f12x4 f12x5 f12x6 f12x7 f12x8 f12x9,
   .FunctionDef f13x0 f13x1 f13x2 f13x3 f13x4 f13x5 f13x6 f13x7 f13x8 f13x9,
   .FunctionDef f14x0 f14x1 f14x2 f14x3 f14x4 f14x5 f14x6 f14x7 f14x8 f14x9,
   y15,
   .ClassDef c16x0 c16x1 c16x2 [.FunctionDef f17x0 f17x1 f17x2 f17x3 f17x4 f17x5 f17x6 f17x7 f17x8 f17x9, .FunctionDef f18x0 f18x1 f18x2 f18x3 f18x4 f18x5 f18x6 f18x7 f18x8 f18x9, .FunctionDef f19x0 f19x1 f19x2 f19x3 f19x4 f19x5 f19x6 f19x7 f19x8 f19x9, .FunctionDef f20x0 f20x1 f20x2 f20x3 f20x4 f20x5 f20x6 f20x7 f20x8 f20x9, .FunctionDef f21x0 f21x1 f21x2 f21x3 f21x4 f21x5 f21x6 f21x7 f21x8 f21x9, .FunctionDef f22x0 f22x1 f22x2 f22x3 f22x4 f22x5 f22x6 f22x7 f22x8 f22x9] c16x4 c16x5 c16x6 c16x7 c16x8 c16x9 c16x10,
   y23,
   y24,
   y25,
   y26,
   y27,
   y28,
   .ClassDef c29x0 c29x1 c29x2 [.FunctionDef f30x0 f30x1 f30x2 f30x3 f30x4 f30x5 f30x6 f30x7 f30x8 f30x9] c29x4 c29x5 c29x6 c29x7 c29x8 c29x9 c29x10,
   .FunctionDef f31x0 f31x1 f31x2 f31x3 f31x4 f31x5 f31x6 f31x7 f31x8 f31x9,
   .FunctionDef f32x0 f32x1 f32x2 f32x3 f32x4 f32x5 f32x6 f32x7 f32x8 f32x9,
   .FunctionDef f33x0 f33x1 f33x2 f33x3 f33x4 f33x5 f33x6 f33x7 f33x8 f33x9,
   .FunctionDef f34x0 f34x1 f34x2 f34x3 f34x4 f34x5 f34x6 f34x7 f34x8 f34x9,
   .FunctionDef f35x0 f35x1 f35x2 f35x3 f35x4 f35x5 f35x6 f35x7 f35x8 f35x9,
   .FunctionDef f36x0 f36x1 f36x2 f36x3 f36x4 f36x5 f36x6 f36x7 f36x8 f36x9,
   .FunctionDef f37x0 f37x1 f37x2 f37x3 f37x4 f37x5 f37x6 f37x7 f37x8 f37x9,
   .FunctionDef f38x0 f38x1 f38x2 f38x3 f38x4 f38x5 f38x6 f38x7 f38x8 f38x9,
   y39,
   y40,
   y41,
   y42,
   y43,
   y44,
   .FunctionDef f45x0 f45x1 f45x2 f45x3 f45x4 f45x5 f45x6 f45x7 f45x8 f45x9,
   .FunctionDef f46x0 f46x1 f46x2 f46x3 f46x4 f46x5 f46x6 f46x7 f46x8 f46x9,
   .FunctionDef f47x0 f47x1 f47x2 f47x3 f47x4 f47x5 f47x6 f47x7 f47x8 f47x9,
   .FunctionDef f48x0 f48x1 f48x2 f48x3 f48x4 f48x5 f48x6 f48x7 f48x8 f48x9,
   .FunctionDef f49x0 f49x1 f49x2 f49x3 f49x4 f49x5 f49x6 f49x7 f49x8 f49x9,
   .FunctionDef f50x0 f50x1 f50x2 f50x3 f50x4 f50x5 f50x6 f50x7 f50x8 f50x9,
   .FunctionDef f51x0 f51x1 f51x2 f51x3 f51x4 f51x5 f51x6 f51x7 f51x8 f51x9,
   .FunctionDef f52x0 f52x1 f52x2 f52x3 f52x4 f52x5 f52x6 f52x7 f52x8 f52x9,
   .FunctionDef f53x0 f53x1 f53x2 f53x3 f53x4 f53x5 f53x6 f53x7 f53x8 f53x9,
   .FunctionDef f54x0 f54x1 f54x2 f54x3 f54x4 f54x5 f54x6 f54x7 f54x8 f54x9,
   .FunctionDef f55x0 f55x1 f55x2 f55x3 f55x4 f55x5 f55x6 f55x7 f55x8 f55x9,
   y56,
   .FunctionDef f57x0 f57x1 f57x2 f57x3 f57x4 f57x5 f57x6 f57x7 f57x8 f57x9,
   y58,
   .FunctionDef f59x0 f59x1 f59x2 f59x3 f59x4 f59x5 f59x6 f59x7 f59x8 f59x9,
   .FunctionDef f60x0 f60x1 f60x2 f60x3 f60x4 f60x5 f60x6 f60x7 f60x8 f60x9,
   .FunctionDef f61x0 f61x1 f61x2 f61x3 f61x4 f61x5 f61x6 f61x7 f61x8 f61x9,
   y62,
   .FunctionDef f63x0 f63x1 f63x2 f63x3 f63x4 f63x5 f63x6 f63x7 f63x8 f63x9,
   .FunctionDef f64x0 f64x1 f64x2 f64x3 f64x4 f64x5 f64x6 f64x7 f64x8 f64x9,
   .FunctionDef f65x0 f65x1 f65x2 f65x3 f65x4 f65x5 f65x6 f65x7 f65x8 f65x9,
   .FunctionDef f66x0 f66x1 f66x2 f66x3 f66x4 f66x5 f66x6 f66x7 f66x8 f66x9,
   .FunctionDef f67x0 f67x1 f67x2 f67x3 f67x4 f67x5 f67x6 f67x7 f67x8 f67x9,
   .FunctionDef f68x0 f68x1 f68x2 f68x3 f68x4 f68x5 f68x6 f68x7 f68x8 f68x9]) (P : Params) : Frag := []
set_option maxHeartbeats 0 in
noncomputable def hd.heap_39 : Params → Frag := by
  refine (?F : type_of% @hd.sig) rfl
  case F => exact @fun f0x0 f0x1 f0x2 f0x3 f0x4 f0x5 f0x6 f0x7 f0x8 f0x9 y1 y2 y3 f5x0 f5x1 f5x2 f5x3 f5x4 f5x5 f5x6 f5x7 f5x8 f5x9 c4x0 c4x1 c4x2 c4x4 c4x5 c4x6 c4x7 c4x8 c4x9 c4x10 f7x0 f7x1 f7x2 f7x3 f7x4 f7x5 f7x6 f7x7 f7x8 f7x9 c6x0 c6x1 c6x2 c6x4 c6x5 c6x6 c6x7 c6x8 c6x9 c6x10 f9x0 f9x1 f9x2 f9x3 f9x4 f9x5 f9x6 f9x7 f9x8 f9x9 c8x0 c8x1 c8x2 c8x4 c8x5 c8x6 c8x7 c8x8 c8x9 c8x10 y10 y11 f12x0 f12x1 f12x2 f12x3 f12x4 f12x5 f12x6 f12x7 f12x8 f12x9 f13x0 f13x1 f13x2 f13x3 f13x4 f13x5 f13x6 f13x7 f13x8 f13x9 f14x0 f14x1 f14x2 f14x3 f14x4 f14x5 f14x6 f14x7 f14x8 f14x9 y15 f17x0 f17x1 f17x2 f17x3 f17x4 f17x5 f17x6 f17x7 f17x8 f17x9 f18x0 f18x1 f18x2 f18x3 f18x4 f18x5 f18x6 f18x7 f18x8 f18x9 f19x0 f19x1 f19x2 f19x3 f19x4 f19x5 f19x6 f19x7 f19x8 f19x9 f20x0 f20x1 f20x2 f20x3 f20x4 f20x5 f20x6 f20x7 f20x8 f20x9 f21x0 f21x1 f21x2 f21x3 f21x4 f21x5 f21x6 f21x7 f21x8 f21x9 f22x0 f22x1 f22x2 f22x3 f22x4 f22x5 f22x6 f22x7 f22x8 f22x9 c16x0 c16x1 c16x2 c16x4 c16x5 c16x6 c16x7 c16x8 c16x9 c16x10 y23 y24 y25 y26 y27 y28 f30x0 f30x1 f30x2 f30x3 f30x4 f30x5 f30x6 f30x7 f30x8 f30x9 c29x0 c29x1 c29x2 c29x4 c29x5 c29x6 c29x7 c29x8 c29x9 c29x10 f31x0 f31x1 f31x2 f31x3 f31x4 f31x5 f31x6 f31x7 f31x8 f31x9 f32x0 f32x1 f32x2 f32x3 f32x4 f32x5 f32x6 f32x7 f32x8 f32x9 f33x0 f33x1 f33x2 f33x3 f33x4 f33x5 f33x6 f33x7 f33x8 f33x9 f34x0 f34x1 f34x2 f34x3 f34x4 f34x5 f34x6 f34x7 f34x8 f34x9 f35x0 f35x1 f35x2 f35x3 f35x4 f35x5 f35x6 f35x7 f35x8 f35x9 f36x0 f36x1 f36x2 f36x3 f36x4 f36x5 f36x6 f36x7 f36x8 f36x9 f37x0 f37x1 f37x2 f37x3 f37x4 f37x5 f37x6 f37x7 f37x8 f37x9 f38x0 f38x1 f38x2 f38x3 f38x4 f38x5 f38x6 f38x7 f38x8 f38x9 y39 y40 y41 y42 y43 y44 f45x0 f45x1 f45x2 f45x3 f45x4 f45x5 f45x6 f45x7 f45x8 f45x9 f46x0 f46x1 f46x2 f46x3 f46x4 f46x5 f46x6 f46x7 f46x8 f46x9 f47x0 f47x1 f47x2 f47x3 f47x4 f47x5 f47x6 f47x7 f47x8 f47x9 f48x0 f48x1 f48x2 f48x3 f48x4 f48x5 f48x6 f48x7 f48x8 f48x9 f49x0 f49x1 f49x2 f49x3 f49x4 f49x5 f49x6 f49x7 f49x8 f49x9 f50x0 f50x1 f50x2 f50x3 f50x4 f50x5 f50x6 f50x7 f50x8 f50x9 f51x0 f51x1 f51x2 f51x3 f51x4 f51x5 f51x6 f51x7 f51x8 f51x9 f52x0 f52x1 f52x2 f52x3 f52x4 f52x5 f52x6 f52x7 f52x8 f52x9 f53x0 f53x1 f53x2 f53x3 f53x4 f53x5 f53x6 f53x7 f53x8 f53x9 f54x0 f54x1 f54x2 f54x3 f54x4 f54x5 f54x6 f54x7 f54x8 f54x9 f55x0 f55x1 f55x2 f55x3 f55x4 f55x5 f55x6 f55x7 f55x8 f55x9 y56 f57x0 f57x1 f57x2 f57x3 f57x4 f57x5 f57x6 f57x7 f57x8 f57x9 y58 f59x0 f59x1 f59x2 f59x3 f59x4 f59x5 f59x6 f59x7 f59x8 f59x9 f60x0 f60x1 f60x2 f60x3 f60x4 f60x5 f60x6 f60x7 f60x8 f60x9 f61x0 f61x1 f61x2 f61x3 f61x4 f61x5 f61x6 f61x7 f61x8 f61x9 y62 f63x0 f63x1 f63x2 f63x3 f63x4 f63x5 f63x6 f63x7 f63x8 f63x9 f64x0 f64x1 f64x2 f64x3 f64x4 f64x5 f64x6 f64x7 f64x8 f64x9 f65x0 f65x1 f65x2 f65x3 f65x4 f65x5 f65x6 f65x7 f65x8 f65x9 f66x0 f66x1 f66x2 f66x3 f66x4 f66x5 f66x6 f66x7 f66x8 f66x9 f67x0 f67x1 f67x2 f67x3 f67x4 f67x5 f67x6 f67x7 f67x8 f67x9 f68x0 f68x1 f68x2 f68x3 f68x4 f68x5 f68x6 f68x7 f68x8 f68x9 h P =>
    (nat_lit 2, ⟨.none, .none, .dict #[⟨PyData.keyHash P (.ofString "type.__subclasses__.Exception.0"), .str (.ofString "type.__subclasses__.Exception.0") 229, .int 38 0⟩, ⟨PyData.keyHash P (.ofString "type.__subclasses__.Exception.n"), .str (.ofString "type.__subclasses__.Exception.n") 230, .int 3 0⟩, ⟨PyData.keyHash P (.ofString "type.__subclasses__.Exception.1"), .str (.ofString "type.__subclasses__.Exception.1") 258, .int 58 0⟩, ⟨PyData.keyHash P (.ofString "type.__subclasses__.Exception.2"), .str (.ofString "type.__subclasses__.Exception.2") 287, .int 78 0⟩] 4, #[]⟩) ::
    (nat_lit 3, ⟨.type "dict", .none, .dict #[⟨PyData.keyHash P (.ofString "__name__"), .str (.ofString "__name__") 165, .str (.ofString "law_no0081_01") 723⟩, ⟨PyData.keyHash P (.ofString "__doc__"), .str (.ofString "__doc__") 166, .none⟩, ⟨PyData.keyHash P (.ofString "__package__"), .str (.ofString "__package__") 167, .none⟩, ⟨PyData.keyHash P (.ofString "__loader__"), .str (.ofString "__loader__") 168, .builtin "__main__.__loader__#opaque"⟩, ⟨PyData.keyHash P (.ofString "__spec__"), .str (.ofString "__spec__") 169, .none⟩, ⟨PyData.keyHash P (.ofString "__annotations__"), .str (.ofString "__annotations__") 170, .ref 6⟩, ⟨PyData.keyHash P (.ofString "__builtins__"), .str (.ofString "__builtins__") 171, .ref 4⟩, ⟨PyData.keyHash P (.ofString "__file__"), .str (.ofString "__file__") 173, .str (.ofString "/claim/cut.py") 172⟩, ⟨PyData.keyHash P (.ofString "__cached__"), .str (.ofString "__cached__") 174, .none⟩, ⟨PyData.keyHash P (.ofString "_wall"), .str (.ofString "_wall") 193, .ref 21⟩, ⟨PyData.keyHash P (.ofString "INTERNAL_ERROR"), .str (.ofString "INTERNAL_ERROR") 197, .int 1 196⟩, ⟨PyData.keyHash P (.ofString "PROTOCOL_VIOLATION"), .str (.ofString "PROTOCOL_VIOLATION") 199, .int 10 198⟩, ⟨PyData.keyHash P (.ofString "QuicError"), .str (.ofString "QuicError") 232, .ref 38⟩, ⟨PyData.keyHash P (.ofString "Short"), .str (.ofString "Short") 261, .ref 58⟩, ⟨PyData.keyHash P (.ofString "PacketRefused"), .str (.ofString "PacketRefused") 290, .ref 78⟩, ⟨PyData.keyHash P (.ofString "VARINT_SIZES"), .str (.ofString "VARINT_SIZES") 297, .ref 82⟩, ⟨PyData.keyHash P (.ofString "put_whole"), .str (.ofString "put_whole") 307, .ref 89⟩, ⟨PyData.keyHash P (.ofString "get_whole"), .str (.ofString "get_whole") 318, .ref 96⟩, ⟨PyData.keyHash P (.ofString "get_varint"), .str (.ofString "get_varint") 327, .ref 103⟩, ⟨PyData.keyHash P (.ofString "Reader"), .str (.ofString "Reader") 398, .ref 155⟩, ⟨PyData.keyHash P (.ofString "VERSION_ONE"), .str (.ofString "VERSION_ONE") 402, .int 1 401⟩, ⟨PyData.keyHash P (.ofString "VERSION_NONE"), .str (.ofString "VERSION_NONE") 404, .int 0 403⟩, ⟨PyData.keyHash P (.ofString "MOST_CID"), .str (.ofString "MOST_CID") 406, .int 20 405⟩, ⟨PyData.keyHash P (.ofString "RETRY_TAG"), .str (.ofString "RETRY_TAG") 408, .int 16 407⟩, ⟨PyData.keyHash P (.ofString "LONG_KINDS"), .str (.ofString "LONG_KINDS") 413, .ref 160⟩, ⟨PyData.keyHash P (.ofString "RawPacket"), .str (.ofString "RawPacket") 455, .ref 177⟩, ⟨PyData.keyHash P (.ofString "put_ids"), .str (.ofString "put_ids") 463, .ref 188⟩, ⟨PyData.keyHash P (.ofString "read_invariants"), .str (.ofString "read_invariants") 476, .ref 195⟩, ⟨PyData.keyHash P (.ofString "read_versions"), .str (.ofString "read_versions") 486, .ref 202⟩, ⟨PyData.keyHash P (.ofString "read_long"), .str (.ofString "read_long") 500, .ref 209⟩, ⟨PyData.keyHash P (.ofString "read_retry"), .str (.ofString "read_retry") 509, .ref 216⟩, ⟨PyData.keyHash P (.ofString "read_numbered"), .str (.ofString "read_numbered") 520, .ref 223⟩, ⟨PyData.keyHash P (.ofString "read_short"), .str (.ofString "read_short") 531, .ref 230⟩, ⟨PyData.keyHash P (.ofString "read_raw"), .str (.ofString "read_raw") 540, .ref 237⟩, ⟨PyData.keyHash P (.ofString "TAG_SIZE"), .str (.ofString "TAG_SIZE") 544, .int 16 543⟩, ⟨PyData.keyHash P (.ofString "SAMPLE_SIZE"), .str (.ofString "SAMPLE_SIZE") 546, .int 16 545⟩, ⟨PyData.keyHash P (.ofString "MASK_SIZE"), .str (.ofString "MASK_SIZE") 548, .int 5 547⟩, ⟨PyData.keyHash P (.ofString "MODULUS"), .str (.ofString "MODULUS") 554, .int 170141183460469231731687303715884105727 553⟩, ⟨PyData.keyHash P (.ofString "FACTOR"), .str (.ofString "FACTOR") 556, .int 6364136223846793005 555⟩, ⟨PyData.keyHash P (.ofString "mixed_octets"), .str (.ofString "mixed_octets") 566, .ref 244⟩, ⟨PyData.keyHash P (.ofString "turned_octets"), .str (.ofString "turned_octets") 578, .ref 251⟩, ⟨PyData.keyHash P (.ofString "tag_of"), .str (.ofString "tag_of") 589, .ref 258⟩, ⟨PyData.keyHash P (.ofString "seal_payload"), .str (.ofString "seal_payload") 600, .ref 265⟩, ⟨PyData.keyHash P (.ofString "open_sealed"), .str (.ofString "open_sealed") 611, .ref 272⟩, ⟨PyData.keyHash P (.ofString "head_mask"), .str (.ofString "head_mask") 619, .ref 279⟩, ⟨PyData.keyHash P (.ofString "turned_first"), .str (.ofString "turned_first") 627, .ref 286⟩, ⟨PyData.keyHash P (.ofString "turned_number"), .str (.ofString "turned_number") 633, .ref 291⟩, ⟨PyData.keyHash P (.ofString "sample_at"), .str (.ofString "sample_at") 642, .ref 298⟩, ⟨PyData.keyHash P (.ofString "protected_packet"), .str (.ofString "protected_packet") 657, .ref 305⟩, ⟨PyData.keyHash P (.ofString "bare_head"), .str (.ofString "bare_head") 673, .ref 312⟩, ⟨PyData.keyHash P (.ofString "restore_number"), .str (.ofString "restore_number") 688, .ref 319⟩, ⟨PyData.keyHash P (.ofString "reserved_bits"), .str (.ofString "reserved_bits") 697, .ref 326⟩, ⟨PyData.keyHash P (.ofString "open_packet"), .str (.ofString "open_packet") 712, .ref 333⟩, ⟨PyData.keyHash P (.ofString "opened"), .str (.ofString "opened") 722, .ref 340⟩, ⟨PyData.keyHash P (.ofString "_law_draws"), .str (.ofString "_law_draws") 730, .ref 345⟩, ⟨PyData.keyHash P (.ofString "_law_take"), .str (.ofString "_law_take") 738, .ref 352⟩, ⟨PyData.keyHash P (.ofString "_law_octets"), .str (.ofString "_law_octets") 744, .ref 357⟩, ⟨PyData.keyHash P (.ofString "_law_is_refused"), .str (.ofString "_law_is_refused") 752, .ref 364⟩, ⟨PyData.keyHash P (.ofString "_law_opened"), .str (.ofString "_law_opened") 763, .ref 371⟩, ⟨PyData.keyHash P (.ofString "law"), .str (.ofString "law") 787, .ref 378⟩] 60, #[]⟩) ::
    (nat_lit 15, ⟨.type "tuple", .none, .seq #[] 0, #[]⟩) ::
    (nat_lit 17, ⟨.type "tuple", .none, .seq #[.str (.ofString "k") 190] 0, #[]⟩) ::
    (nat_lit 18, ⟨.type "tuple", .none, .seq #[] 0, #[]⟩) ::
    (nat_lit 20, ⟨.type "code", .none, .fields #[.str (.ofString "_wall") 187, .str (.ofString "_wall") 188, .str (.ofString "/claim/cut.py") 189, .int 1 0, .int 1 0, .int 0 0, .int 0 0, .int 3 0, .ref 15, .bool true, .int 181 0, .ref 16, .none, .ref 17, .ref 18, .ref 19, .int 191 0, .int 1 0, .str (.ofString "/claim/cut.py") 192], #[]⟩) ::
    (nat_lit 21, ⟨.type "function", .none, .func ⟨.ofString "_wall", .ofString "_wall", f0x1, .stmts f0x2, f0x6, 3, [], .none, .none, .none, .str (.ofString "__main__") 164, .none, .ref 20, .none, 0⟩, #[]⟩) ::
    (nat_lit 22, ⟨.type "tuple", .none, .seq #[.type "Exception"] 0, #[]⟩) ::
    (nat_lit 29, ⟨.type "tuple", .none, .seq #[] 0, #[]⟩) ::
    (nat_lit 31, ⟨.type "tuple", .none, .seq #[.str (.ofString "self") 215, .str (.ofString "code") 216, .str (.ofString "frame_type") 217, .str (.ofString "text") 218] 0, #[]⟩) ::
    (nat_lit 32, ⟨.type "tuple", .none, .seq #[] 0, #[]⟩) ::
    (nat_lit 34, ⟨.type "code", .none, .fields #[.str (.ofString "__init__") 212, .str (.ofString "QuicError.__init__") 213, .str (.ofString "/claim/cut.py") 214, .int 9 0, .int 4 0, .int 0 0, .int 0 0, .int 3 0, .ref 29, .bool true, .int 181 0, .ref 30, .none, .ref 31, .ref 32, .ref 33, .int 219 0, .int 9 0, .str (.ofString "/claim/cut.py") 220], #[]⟩) ::
    (nat_lit 35, ⟨.type "function", .none, .func ⟨.ofString "__init__", .ofString "QuicError.__init__", f5x1, .stmts f5x2, f5x6, 3, [], .none, .none, .none, .str (.ofString "quic.errors") 194, .none, .ref 34, .none, 0⟩, #[]⟩) ::
    (nat_lit 36, ⟨.type "tuple", .none, .seq #[.str (.ofString "code") 222, .str (.ofString "frame_type") 223, .str (.ofString "text") 224] 0, #[]⟩) ::
    (nat_lit 37, ⟨.type "dict", .none, .dict #[⟨PyData.keyHash P (.ofString "__module__"), .str (.ofString "__module__") 207, .str (.ofString "quic.errors") 194⟩, ⟨PyData.keyHash P (.ofString "__firstlineno__"), .str (.ofString "__firstlineno__") 211, .int 7 210⟩, ⟨PyData.keyHash P (.ofString "__init__"), .str (.ofString "__init__") 221, .ref 35⟩, ⟨PyData.keyHash P (.ofString "__static_attributes__"), .str (.ofString "__static_attributes__") 225, .ref 36⟩, ⟨PyData.keyHash P (.ofString "__weakref__"), .str (.ofString "__weakref__") 227, .ref 39⟩, ⟨PyData.keyHash P (.ofString "__doc__"), .str (.ofString "__doc__") 228, .none⟩] 3, #[]⟩) ::
    (nat_lit 38, ⟨.type "type", .none, .cls ⟨.ofString "QuicError", [.type "Exception"], [.ref 38, .type "Exception", .type "BaseException", .type "object"], 37, .ofString "QuicError", true, [], [], false, .none, false⟩, #[.some (.ref 22), .none, .some (.str (.ofString "QuicError") 200), .some (.str (.ofString "QuicError") 208), .some (.builtin "Exception.__new__"), .some (.bool true)]⟩) ::
    (nat_lit 39, ⟨.type "getset_descriptor", .none, .fields #[.str (.ofString "__weakref__") 226, .ref 38, .builtin "ExceptionGroup.__weakref__", .none], #[]⟩) ::
    (nat_lit 42, ⟨.type "tuple", .none, .seq #[.type "Exception"] 0, #[]⟩) ::
    (nat_lit 49, ⟨.type "tuple", .none, .seq #[] 0, #[]⟩) ::
    (nat_lit 51, ⟨.type "tuple", .none, .seq #[.str (.ofString "self") 248, .str (.ofString "text") 249] 0, #[]⟩) ::
    (nat_lit 52, ⟨.type "tuple", .none, .seq #[] 0, #[]⟩) ::
    (nat_lit 54, ⟨.type "code", .none, .fields #[.str (.ofString "__init__") 245, .str (.ofString "Short.__init__") 246, .str (.ofString "/claim/cut.py") 247, .int 16 0, .int 2 0, .int 0 0, .int 0 0, .int 3 0, .ref 49, .bool true, .int 181 0, .ref 50, .none, .ref 51, .ref 52, .ref 53, .int 250 0, .int 16 0, .str (.ofString "/claim/cut.py") 251], #[]⟩) ::
    (nat_lit 55, ⟨.type "function", .none, .func ⟨.ofString "__init__", .ofString "Short.__init__", f7x1, .stmts f7x2, f9x6, 3, [], .none, .none, .none, .str (.ofString "quic.errors") 194, .none, .ref 54, .none, 0⟩, #[]⟩) ::
    (nat_lit 56, ⟨.type "tuple", .none, .seq #[.str (.ofString "text") 253] 0, #[]⟩) ::
    (nat_lit 57, ⟨.type "dict", .none, .dict #[⟨PyData.keyHash P (.ofString "__module__"), .str (.ofString "__module__") 240, .str (.ofString "quic.errors") 194⟩, ⟨PyData.keyHash P (.ofString "__firstlineno__"), .str (.ofString "__firstlineno__") 244, .int 14 243⟩, ⟨PyData.keyHash P (.ofString "__init__"), .str (.ofString "__init__") 252, .ref 55⟩, ⟨PyData.keyHash P (.ofString "__static_attributes__"), .str (.ofString "__static_attributes__") 254, .ref 56⟩, ⟨PyData.keyHash P (.ofString "__weakref__"), .str (.ofString "__weakref__") 256, .ref 59⟩, ⟨PyData.keyHash P (.ofString "__doc__"), .str (.ofString "__doc__") 257, .none⟩] 3, #[]⟩) ::
    (nat_lit 58, ⟨.type "type", .none, .cls ⟨.ofString "Short", [.type "Exception"], [.ref 58, .type "Exception", .type "BaseException", .type "object"], 57, .ofString "Short", true, [], [], false, .none, false⟩, #[.some (.ref 42), .none, .some (.str (.ofString "Short") 233), .some (.str (.ofString "Short") 241), .some (.builtin "Exception.__new__"), .some (.bool true)]⟩) ::
    (nat_lit 59, ⟨.type "getset_descriptor", .none, .fields #[.str (.ofString "__weakref__") 255, .ref 58, .builtin "ExceptionGroup.__weakref__", .none], #[]⟩) ::
    (nat_lit 62, ⟨.type "tuple", .none, .seq #[.type "Exception"] 0, #[]⟩) ::
    (nat_lit 69, ⟨.type "tuple", .none, .seq #[] 0, #[]⟩) ::
    (nat_lit 71, ⟨.type "tuple", .none, .seq #[.str (.ofString "self") 277, .str (.ofString "text") 278] 0, #[]⟩) ::
    (nat_lit 72, ⟨.type "tuple", .none, .seq #[] 0, #[]⟩) ::
    (nat_lit 74, ⟨.type "code", .none, .fields #[.str (.ofString "__init__") 274, .str (.ofString "PacketRefused.__init__") 275, .str (.ofString "/claim/cut.py") 276, .int 21 0, .int 2 0, .int 0 0, .int 0 0, .int 3 0, .ref 69, .bool true, .int 181 0, .ref 70, .none, .ref 71, .ref 72, .ref 73, .int 279 0, .int 21 0, .str (.ofString "/claim/cut.py") 280], #[]⟩) ::
    (nat_lit 75, ⟨.type "function", .none, .func ⟨.ofString "__init__", .ofString "PacketRefused.__init__", f9x1, .stmts f9x2, f9x6, 3, [], .none, .none, .none, .str (.ofString "quic.errors") 194, .none, .ref 74, .none, 0⟩, #[]⟩) ::
    (nat_lit 76, ⟨.type "tuple", .none, .seq #[.str (.ofString "text") 282] 0, #[]⟩) ::
    (nat_lit 77, ⟨.type "dict", .none, .dict #[⟨PyData.keyHash P (.ofString "__module__"), .str (.ofString "__module__") 269, .str (.ofString "quic.errors") 194⟩, ⟨PyData.keyHash P (.ofString "__firstlineno__"), .str (.ofString "__firstlineno__") 273, .int 19 272⟩, ⟨PyData.keyHash P (.ofString "__init__"), .str (.ofString "__init__") 281, .ref 75⟩, ⟨PyData.keyHash P (.ofString "__static_attributes__"), .str (.ofString "__static_attributes__") 283, .ref 76⟩, ⟨PyData.keyHash P (.ofString "__weakref__"), .str (.ofString "__weakref__") 285, .ref 79⟩, ⟨PyData.keyHash P (.ofString "__doc__"), .str (.ofString "__doc__") 286, .none⟩] 3, #[]⟩) ::
    (nat_lit 78, ⟨.type "type", .none, .cls ⟨.ofString "PacketRefused", [.type "Exception"], [.ref 78, .type "Exception", .type "BaseException", .type "object"], 77, .ofString "PacketRefused", true, [], [], false, .none, false⟩, #[.some (.ref 62), .none, .some (.str (.ofString "PacketRefused") 262), .some (.str (.ofString "PacketRefused") 270), .some (.builtin "Exception.__new__"), .some (.bool true)]⟩) ::
    (nat_lit 79, ⟨.type "getset_descriptor", .none, .fields #[.str (.ofString "__weakref__") 284, .ref 78, .builtin "ExceptionGroup.__weakref__", .none], #[]⟩) ::
    (nat_lit 82, ⟨.type "tuple", .none, .seq #[.int 1 293, .int 2 294, .int 4 295, .int 8 296] 0, #[]⟩) ::
    (nat_lit 83, ⟨.type "tuple", .none, .seq #[] 0, #[]⟩) ::
    (nat_lit 85, ⟨.type "tuple", .none, .seq #[.str (.ofString "n") 301, .str (.ofString "size") 302, .str (.ofString "found") 303, .str (.ofString "place") 304] 0, #[]⟩) ::
    (nat_lit 86, ⟨.type "tuple", .none, .seq #[] 0, #[]⟩) ::
    (nat_lit 88, ⟨.type "code", .none, .fields #[.str (.ofString "put_whole") 298, .str (.ofString "put_whole") 299, .str (.ofString "/claim/cut.py") 300, .int 26 0, .int 2 0, .int 0 0, .int 0 0, .int 3 0, .ref 83, .bool true, .int 181 0, .ref 84, .none, .ref 85, .ref 86, .ref 87, .int 305 0, .int 26 0, .str (.ofString "/claim/cut.py") 306], #[]⟩) ::
    (nat_lit 89, ⟨.type "function", .none, .func ⟨.ofString "put_whole", .ofString "put_whole", f12x1, .stmts f12x2, f12x6, 3, [], .none, .none, .none, .str (.ofString "quic.varint") 291, .none, .ref 88, .none, 0⟩, #[]⟩) ::
    (nat_lit 90, ⟨.type "tuple", .none, .seq #[] 0, #[]⟩) ::
    (nat_lit 92, ⟨.type "tuple", .none, .seq #[.str (.ofString "data") 311, .str (.ofString "at") 312, .str (.ofString "size") 313, .str (.ofString "found") 314, .str (.ofString "octet") 315] 0, #[]⟩) ::
    (nat_lit 93, ⟨.type "tuple", .none, .seq #[] 0, #[]⟩) ::
    (nat_lit 95, ⟨.type "code", .none, .fields #[.str (.ofString "get_whole") 308, .str (.ofString "get_whole") 309, .str (.ofString "/claim/cut.py") 310, .int 34 0, .int 3 0, .int 0 0, .int 0 0, .int 3 0, .ref 90, .bool true, .int 181 0, .ref 91, .none, .ref 92, .ref 93, .ref 94, .int 316 0, .int 34 0, .str (.ofString "/claim/cut.py") 317], #[]⟩) ::
    (nat_lit 96, ⟨.type "function", .none, .func ⟨.ofString "get_whole", .ofString "get_whole", f13x1, .stmts f13x2, f13x6, 3, [], .none, .none, .none, .str (.ofString "quic.varint") 291, .none, .ref 95, .none, 0⟩, #[]⟩) ::
    (nat_lit 97, ⟨.type "tuple", .none, .seq #[] 0, #[]⟩) ::
    (nat_lit 99, ⟨.type "tuple", .none, .seq #[.str (.ofString "data") 322, .str (.ofString "at") 323, .str (.ofString "size") 324] 0, #[]⟩) ::
    (nat_lit 100, ⟨.type "tuple", .none, .seq #[] 0, #[]⟩) ::
    (nat_lit 102, ⟨.type "code", .none, .fields #[.str (.ofString "get_varint") 319, .str (.ofString "get_varint") 320, .str (.ofString "/claim/cut.py") 321, .int 41 0, .int 2 0, .int 0 0, .int 0 0, .int 3 0, .ref 97, .bool true, .int 181 0, .ref 98, .none, .ref 99, .ref 100, .ref 101, .int 325 0, .int 41 0, .str (.ofString "/claim/cut.py") 326], #[]⟩) ::
    (nat_lit 103, ⟨.type "function", .none, .func ⟨.ofString "get_varint", .ofString "get_varint", f14x1, .stmts f14x2, f14x6, 3, [], .none, .none, .none, .str (.ofString "quic.varint") 291, .none, .ref 102, .none, 0⟩, #[]⟩) ::
    (nat_lit 111, ⟨.type "tuple", .none, .seq #[] 0, #[]⟩) ::
    (nat_lit 113, ⟨.type "tuple", .none, .seq #[.str (.ofString "self") 345, .str (.ofString "data") 346] 0, #[]⟩) ::
    (nat_lit 114, ⟨.type "tuple", .none, .seq #[] 0, #[]⟩) ::
    (nat_lit 116, ⟨.type "code", .none, .fields #[.str (.ofString "__init__") 342, .str (.ofString "Reader.__init__") 343, .str (.ofString "/claim/cut.py") 344, .int 49 0, .int 2 0, .int 0 0, .int 0 0, .int 3 0, .ref 111, .bool true, .int 181 0, .ref 112, .none, .ref 113, .ref 114, .ref 115, .int 347 0, .int 49 0, .str (.ofString "/claim/cut.py") 348], #[]⟩) ::
    (nat_lit 117, ⟨.type "function", .none, .func ⟨.ofString "__init__", .ofString "Reader.__init__", f17x1, .stmts f17x2, f17x6, 3, [], .none, .none, .none, .str (.ofString "quic.octets") 328, .none, .ref 116, .none, 0⟩, #[]⟩) ::
    (nat_lit 118, ⟨.type "tuple", .none, .seq #[] 0, #[]⟩) ::
    (nat_lit 120, ⟨.type "tuple", .none, .seq #[.str (.ofString "self") 353] 0, #[]⟩) ::
    (nat_lit 121, ⟨.type "tuple", .none, .seq #[] 0, #[]⟩) ::
    (nat_lit 123, ⟨.type "code", .none, .fields #[.str (.ofString "left") 350, .str (.ofString "Reader.left") 351, .str (.ofString "/claim/cut.py") 352, .int 53 0, .int 1 0, .int 0 0, .int 0 0, .int 3 0, .ref 118, .bool true, .int 181 0, .ref 119, .none, .ref 120, .ref 121, .ref 122, .int 354 0, .int 53 0, .str (.ofString "/claim/cut.py") 355], #[]⟩) ::
    (nat_lit 124, ⟨.type "function", .none, .func ⟨.ofString "left", .ofString "Reader.left", f18x1, .stmts f18x2, f18x6, 3, [], .none, .none, .none, .str (.ofString "quic.octets") 328, .none, .ref 123, .none, 0⟩, #[]⟩) ::
    (nat_lit 125, ⟨.type "tuple", .none, .seq #[] 0, #[]⟩) ::
    (nat_lit 127, ⟨.type "tuple", .none, .seq #[.str (.ofString "self") 360, .str (.ofString "many") 361] 0, #[]⟩) ::
    (nat_lit 128, ⟨.type "tuple", .none, .seq #[] 0, #[]⟩) ::
    (nat_lit 130, ⟨.type "code", .none, .fields #[.str (.ofString "take") 357, .str (.ofString "Reader.take") 358, .str (.ofString "/claim/cut.py") 359, .int 56 0, .int 2 0, .int 0 0, .int 0 0, .int 3 0, .ref 125, .bool true, .int 181 0, .ref 126, .none, .ref 127, .ref 128, .ref 129, .int 362 0, .int 56 0, .str (.ofString "/claim/cut.py") 363], #[]⟩) ::
    (nat_lit 131, ⟨.type "function", .none, .func ⟨.ofString "take", .ofString "Reader.take", f19x1, .stmts f19x2, f19x6, 3, [], .none, .none, .none, .str (.ofString "quic.octets") 328, .none, .ref 130, .none, 0⟩, #[]⟩) ::
    (nat_lit 132, ⟨.type "tuple", .none, .seq #[] 0, #[]⟩) ::
    (nat_lit 134, ⟨.type "tuple", .none, .seq #[.str (.ofString "self") 368] 0, #[]⟩) ::
    (nat_lit 135, ⟨.type "tuple", .none, .seq #[] 0, #[]⟩) ::
    (nat_lit 137, ⟨.type "code", .none, .fields #[.str (.ofString "rest") 365, .str (.ofString "Reader.rest") 366, .str (.ofString "/claim/cut.py") 367, .int 62 0, .int 1 0, .int 0 0, .int 0 0, .int 3 0, .ref 132, .bool true, .int 181 0, .ref 133, .none, .ref 134, .ref 135, .ref 136, .int 369 0, .int 62 0, .str (.ofString "/claim/cut.py") 370], #[]⟩) ::
    (nat_lit 138, ⟨.type "function", .none, .func ⟨.ofString "rest", .ofString "Reader.rest", f20x1, .stmts f20x2, f20x6, 3, [], .none, .none, .none, .str (.ofString "quic.octets") 328, .none, .ref 137, .none, 0⟩, #[]⟩) ::
    (nat_lit 139, ⟨.type "tuple", .none, .seq #[] 0, #[]⟩) ::
    (nat_lit 141, ⟨.type "tuple", .none, .seq #[.str (.ofString "self") 375, .str (.ofString "size") 376, .str (.ofString "found") 377] 0, #[]⟩) ::
    (nat_lit 142, ⟨.type "tuple", .none, .seq #[] 0, #[]⟩) ::
    (nat_lit 144, ⟨.type "code", .none, .fields #[.str (.ofString "whole") 372, .str (.ofString "Reader.whole") 373, .str (.ofString "/claim/cut.py") 374, .int 65 0, .int 2 0, .int 0 0, .int 0 0, .int 3 0, .ref 139, .bool true, .int 181 0, .ref 140, .none, .ref 141, .ref 142, .ref 143, .int 378 0, .int 65 0, .str (.ofString "/claim/cut.py") 379], #[]⟩) ::
    (nat_lit 145, ⟨.type "function", .none, .func ⟨.ofString "whole", .ofString "Reader.whole", f21x1, .stmts f21x2, f21x6, 3, [], .none, .none, .none, .str (.ofString "quic.octets") 328, .none, .ref 144, .none, 0⟩, #[]⟩) ::
    (nat_lit 146, ⟨.type "tuple", .none, .seq #[] 0, #[]⟩) ::
    (nat_lit 148, ⟨.type "tuple", .none, .seq #[.str (.ofString "self") 384, .str (.ofString "found") 385] 0, #[]⟩) ::
    (nat_lit 149, ⟨.type "tuple", .none, .seq #[] 0, #[]⟩) ::
    (nat_lit 151, ⟨.type "code", .none, .fields #[.str (.ofString "varint") 381, .str (.ofString "Reader.varint") 382, .str (.ofString "/claim/cut.py") 383, .int 70 0, .int 1 0, .int 0 0, .int 0 0, .int 3 0, .ref 146, .bool true, .int 181 0, .ref 147, .none, .ref 148, .ref 149, .ref 150, .int 386 0, .int 70 0, .str (.ofString "/claim/cut.py") 387], #[]⟩) ::
    (nat_lit 152, ⟨.type "function", .none, .func ⟨.ofString "varint", .ofString "Reader.varint", f22x1, .stmts f22x2, f22x6, 3, [], .none, .none, .none, .str (.ofString "quic.octets") 328, .none, .ref 151, .none, 0⟩, #[]⟩) ::
    (nat_lit 153, ⟨.type "tuple", .none, .seq #[.str (.ofString "at") 389, .str (.ofString "data") 390] 0, #[]⟩) ::
    (nat_lit 154, ⟨.type "dict", .none, .dict #[⟨PyData.keyHash P (.ofString "__module__"), .str (.ofString "__module__") 337, .str (.ofString "quic.octets") 328⟩, ⟨PyData.keyHash P (.ofString "__firstlineno__"), .str (.ofString "__firstlineno__") 341, .int 47 340⟩, ⟨PyData.keyHash P (.ofString "__init__"), .str (.ofString "__init__") 349, .ref 117⟩, ⟨PyData.keyHash P (.ofString "left"), .str (.ofString "left") 356, .ref 124⟩, ⟨PyData.keyHash P (.ofString "take"), .str (.ofString "take") 364, .ref 131⟩, ⟨PyData.keyHash P (.ofString "rest"), .str (.ofString "rest") 371, .ref 138⟩, ⟨PyData.keyHash P (.ofString "whole"), .str (.ofString "whole") 380, .ref 145⟩, ⟨PyData.keyHash P (.ofString "varint"), .str (.ofString "varint") 388, .ref 152⟩, ⟨PyData.keyHash P (.ofString "__static_attributes__"), .str (.ofString "__static_attributes__") 391, .ref 153⟩, ⟨PyData.keyHash P (.ofString "__dict__"), .str (.ofString "__dict__") 393, .ref 156⟩, ⟨PyData.keyHash P (.ofString "__weakref__"), .str (.ofString "__weakref__") 395, .ref 157⟩, ⟨PyData.keyHash P (.ofString "__doc__"), .str (.ofString "__doc__") 396, .none⟩] 4, #[]⟩) ::
    (nat_lit 155, ⟨.type "type", .none, .cls ⟨.ofString "Reader", [.type "object"], [.ref 155, .type "object"], 154, .ofString "Reader", true, [], [], false, .none, false⟩, #[.none, .none, .some (.str (.ofString "Reader") 330), .some (.str (.ofString "Reader") 338), .some (.builtin "object.__new__"), .some (.bool true)]⟩) ::
    (nat_lit 156, ⟨.type "getset_descriptor", .none, .fields #[.str (.ofString "__dict__") 392, .ref 155, .builtin "function.__dict__", .builtin "function.__dict__#set"], #[]⟩) ::
    (nat_lit 157, ⟨.type "getset_descriptor", .none, .fields #[.str (.ofString "__weakref__") 394, .ref 155, .builtin "ExceptionGroup.__weakref__", .none], #[]⟩) ::
    (nat_lit 160, ⟨.type "list", .none, .seq #[.str (.ofString "initial") 409, .str (.ofString "zero") 410, .str (.ofString "handshake") 411, .str (.ofString "retry") 412] 0, #[]⟩) ::
    (nat_lit 168, ⟨.type "tuple", .none, .seq #[] 0, #[]⟩) ::
    (nat_lit 170, ⟨.type "tuple", .none, .seq #[.str (.ofString "self") 429, .str (.ofString "kind") 430, .str (.ofString "first") 431, .str (.ofString "dcid") 432, .str (.ofString "start") 433] 0, #[]⟩) ::
    (nat_lit 171, ⟨.type "tuple", .none, .seq #[] 0, #[]⟩) ::
    (nat_lit 173, ⟨.type "code", .none, .fields #[.str (.ofString "__init__") 426, .str (.ofString "RawPacket.__init__") 427, .str (.ofString "/claim/cut.py") 428, .int 81 0, .int 5 0, .int 0 0, .int 0 0, .int 3 0, .ref 168, .bool true, .int 181 0, .ref 169, .none, .ref 170, .ref 171, .ref 172, .int 434 0, .int 81 0, .str (.ofString "/claim/cut.py") 435], #[]⟩) ::
    (nat_lit 174, ⟨.type "function", .none, .func ⟨.ofString "__init__", .ofString "RawPacket.__init__", f30x1, .stmts f30x2, f30x6, 3, [], .none, .none, .none, .str (.ofString "quic.longheads") 399, .none, .ref 173, .none, 0⟩, #[]⟩) ::
    (nat_lit 175, ⟨.type "tuple", .none, .seq #[.str (.ofString "dcid") 437, .str (.ofString "end") 438, .str (.ofString "first") 439, .str (.ofString "kind") 440, .str (.ofString "number_at") 441, .str (.ofString "scid") 442, .str (.ofString "start") 443, .str (.ofString "tag") 444, .str (.ofString "token") 445, .str (.ofString "version") 446, .str (.ofString "versions") 447] 0, #[]⟩) ::
    (nat_lit 176, ⟨.type "dict", .none, .dict #[⟨PyData.keyHash P (.ofString "__module__"), .str (.ofString "__module__") 421, .str (.ofString "quic.longheads") 399⟩, ⟨PyData.keyHash P (.ofString "__firstlineno__"), .str (.ofString "__firstlineno__") 425, .int 79 424⟩, ⟨PyData.keyHash P (.ofString "__init__"), .str (.ofString "__init__") 436, .ref 174⟩, ⟨PyData.keyHash P (.ofString "__static_attributes__"), .str (.ofString "__static_attributes__") 448, .ref 175⟩, ⟨PyData.keyHash P (.ofString "__dict__"), .str (.ofString "__dict__") 450, .ref 178⟩, ⟨PyData.keyHash P (.ofString "__weakref__"), .str (.ofString "__weakref__") 452, .ref 179⟩, ⟨PyData.keyHash P (.ofString "__doc__"), .str (.ofString "__doc__") 453, .none⟩] 4, #[]⟩) ::
    (nat_lit 177, ⟨.type "type", .none, .cls ⟨.ofString "RawPacket", [.type "object"], [.ref 177, .type "object"], 176, .ofString "RawPacket", true, [], [], false, .none, false⟩, #[.none, .none, .some (.str (.ofString "RawPacket") 414), .some (.str (.ofString "RawPacket") 422), .some (.builtin "object.__new__"), .some (.bool true)]⟩) ::
    (nat_lit 178, ⟨.type "getset_descriptor", .none, .fields #[.str (.ofString "__dict__") 449, .ref 177, .builtin "function.__dict__", .builtin "function.__dict__#set"], #[]⟩) ::
    (nat_lit 179, ⟨.type "getset_descriptor", .none, .fields #[.str (.ofString "__weakref__") 451, .ref 177, .builtin "ExceptionGroup.__weakref__", .none], #[]⟩) ::
    (nat_lit 182, ⟨.type "tuple", .none, .seq #[] 0, #[]⟩) ::
    (nat_lit 184, ⟨.type "tuple", .none, .seq #[.str (.ofString "dcid") 459, .str (.ofString "scid") 460] 0, #[]⟩) ::
    (nat_lit 185, ⟨.type "tuple", .none, .seq #[] 0, #[]⟩) ::
    (nat_lit 187, ⟨.type "code", .none, .fields #[.str (.ofString "put_ids") 456, .str (.ofString "put_ids") 457, .str (.ofString "/claim/cut.py") 458, .int 93 0, .int 2 0, .int 0 0, .int 0 0, .int 3 0, .ref 182, .bool true, .int 181 0, .ref 183, .none, .ref 184, .ref 185, .ref 186, .int 461 0, .int 93 0, .str (.ofString "/claim/cut.py") 462], #[]⟩) ::
    (nat_lit 188, ⟨.type "function", .none, .func ⟨.ofString "put_ids", .ofString "put_ids", f31x1, .stmts f31x2, f31x6, 3, [], .none, .none, .none, .str (.ofString "quic.longheads") 399, .none, .ref 187, .none, 0⟩, #[]⟩) ::
    (nat_lit 189, ⟨.type "tuple", .none, .seq #[] 0, #[]⟩) ::
    (nat_lit 191, ⟨.type "tuple", .none, .seq #[.str (.ofString "data") 467, .str (.ofString "start") 468, .str (.ofString "reader") 469, .str (.ofString "first") 470, .str (.ofString "version") 471, .str (.ofString "dcid") 472, .str (.ofString "scid") 473] 0, #[]⟩) ::
    (nat_lit 192, ⟨.type "tuple", .none, .seq #[] 0, #[]⟩) ::
    (nat_lit 194, ⟨.type "code", .none, .fields #[.str (.ofString "read_invariants") 464, .str (.ofString "read_invariants") 465, .str (.ofString "/claim/cut.py") 466, .int 95 0, .int 2 0, .int 0 0, .int 0 0, .int 3 0, .ref 189, .bool true, .int 181 0, .ref 190, .none, .ref 191, .ref 192, .ref 193, .int 474 0, .int 95 0, .str (.ofString "/claim/cut.py") 475], #[]⟩) ::
    (nat_lit 195, ⟨.type "function", .none, .func ⟨.ofString "read_invariants", .ofString "read_invariants", f32x1, .stmts f32x2, f32x6, 3, [], .none, .none, .none, .str (.ofString "quic.longheads") 399, .none, .ref 194, .none, 0⟩, #[]⟩) ::
    (nat_lit 196, ⟨.type "tuple", .none, .seq #[] 0, #[]⟩) ::
    (nat_lit 198, ⟨.type "tuple", .none, .seq #[.str (.ofString "data") 480, .str (.ofString "at") 481, .str (.ofString "reader") 482, .str (.ofString "found") 483] 0, #[]⟩) ::
    (nat_lit 199, ⟨.type "tuple", .none, .seq #[] 0, #[]⟩) ::
    (nat_lit 201, ⟨.type "code", .none, .fields #[.str (.ofString "read_versions") 477, .str (.ofString "read_versions") 478, .str (.ofString "/claim/cut.py") 479, .int 102 0, .int 2 0, .int 0 0, .int 0 0, .int 3 0, .ref 196, .bool true, .int 181 0, .ref 197, .none, .ref 198, .ref 199, .ref 200, .int 484 0, .int 102 0, .str (.ofString "/claim/cut.py") 485], #[]⟩) ::
    (nat_lit 202, ⟨.type "function", .none, .func ⟨.ofString "read_versions", .ofString "read_versions", f33x1, .stmts f33x2, f33x6, 3, [], .none, .none, .none, .str (.ofString "quic.longheads") 399, .none, .ref 201, .none, 0⟩, #[]⟩) ::
    (nat_lit 203, ⟨.type "tuple", .none, .seq #[] 0, #[]⟩) ::
    (nat_lit 205, ⟨.type "tuple", .none, .seq #[.str (.ofString "data") 490, .str (.ofString "start") 491, .str (.ofString "first") 492, .str (.ofString "version") 493, .str (.ofString "dcid") 494, .str (.ofString "scid") 495, .str (.ofString "at") 496, .str (.ofString "raw") 497] 0, #[]⟩) ::
    (nat_lit 206, ⟨.type "tuple", .none, .seq #[] 0, #[]⟩) ::
    (nat_lit 208, ⟨.type "code", .none, .fields #[.str (.ofString "read_long") 487, .str (.ofString "read_long") 488, .str (.ofString "/claim/cut.py") 489, .int 110 0, .int 2 0, .int 0 0, .int 0 0, .int 3 0, .ref 203, .bool true, .int 181 0, .ref 204, .none, .ref 205, .ref 206, .ref 207, .int 498 0, .int 110 0, .str (.ofString "/claim/cut.py") 499], #[]⟩) ::
    (nat_lit 209, ⟨.type "function", .none, .func ⟨.ofString "read_long", .ofString "read_long", f34x1, .stmts f34x2, f34x6, 3, [], .none, .none, .none, .str (.ofString "quic.longheads") 399, .none, .ref 208, .none, 0⟩, #[]⟩) ::
    (nat_lit 210, ⟨.type "tuple", .none, .seq #[] 0, #[]⟩) ::
    (nat_lit 212, ⟨.type "tuple", .none, .seq #[.str (.ofString "data") 504, .str (.ofString "at") 505, .str (.ofString "raw") 506] 0, #[]⟩) ::
    (nat_lit 213, ⟨.type "tuple", .none, .seq #[] 0, #[]⟩) ::
    (nat_lit 215, ⟨.type "code", .none, .fields #[.str (.ofString "read_retry") 501, .str (.ofString "read_retry") 502, .str (.ofString "/claim/cut.py") 503, .int 127 0, .int 3 0, .int 0 0, .int 0 0, .int 3 0, .ref 210, .bool true, .int 181 0, .ref 211, .none, .ref 212, .ref 213, .ref 214, .int 507 0, .int 127 0, .str (.ofString "/claim/cut.py") 508], #[]⟩) ::
    (nat_lit 216, ⟨.type "function", .none, .func ⟨.ofString "read_retry", .ofString "read_retry", f35x1, .stmts f35x2, f35x6, 3, [], .none, .none, .none, .str (.ofString "quic.longheads") 399, .none, .ref 215, .none, 0⟩, #[]⟩) ::
    (nat_lit 217, ⟨.type "tuple", .none, .seq #[] 0, #[]⟩) ::
    (nat_lit 219, ⟨.type "tuple", .none, .seq #[.str (.ofString "data") 513, .str (.ofString "at") 514, .str (.ofString "raw") 515, .str (.ofString "reader") 516, .str (.ofString "size") 517] 0, #[]⟩) ::
    (nat_lit 220, ⟨.type "tuple", .none, .seq #[] 0, #[]⟩) ::
    (nat_lit 222, ⟨.type "code", .none, .fields #[.str (.ofString "read_numbered") 510, .str (.ofString "read_numbered") 511, .str (.ofString "/claim/cut.py") 512, .int 132 0, .int 3 0, .int 0 0, .int 0 0, .int 3 0, .ref 217, .bool true, .int 181 0, .ref 218, .none, .ref 219, .ref 220, .ref 221, .int 518 0, .int 132 0, .str (.ofString "/claim/cut.py") 519], #[]⟩) ::
    (nat_lit 223, ⟨.type "function", .none, .func ⟨.ofString "read_numbered", .ofString "read_numbered", f36x1, .stmts f36x2, f36x6, 3, [], .none, .none, .none, .str (.ofString "quic.longheads") 399, .none, .ref 222, .none, 0⟩, #[]⟩) ::
    (nat_lit 224, ⟨.type "tuple", .none, .seq #[] 0, #[]⟩) ::
    (nat_lit 226, ⟨.type "tuple", .none, .seq #[.str (.ofString "data") 524, .str (.ofString "start") 525, .str (.ofString "cid_size") 526, .str (.ofString "first") 527, .str (.ofString "raw") 528] 0, #[]⟩) ::
    (nat_lit 227, ⟨.type "tuple", .none, .seq #[] 0, #[]⟩) ::
    (nat_lit 229, ⟨.type "code", .none, .fields #[.str (.ofString "read_short") 521, .str (.ofString "read_short") 522, .str (.ofString "/claim/cut.py") 523, .int 145 0, .int 3 0, .int 0 0, .int 0 0, .int 3 0, .ref 224, .bool true, .int 181 0, .ref 225, .none, .ref 226, .ref 227, .ref 228, .int 529 0, .int 145 0, .str (.ofString "/claim/cut.py") 530], #[]⟩) ::
    (nat_lit 230, ⟨.type "function", .none, .func ⟨.ofString "read_short", .ofString "read_short", f37x1, .stmts f37x2, f37x6, 3, [], .none, .none, .none, .str (.ofString "quic.longheads") 399, .none, .ref 229, .none, 0⟩, #[]⟩) ::
    (nat_lit 231, ⟨.type "tuple", .none, .seq #[] 0, #[]⟩) ::
    (nat_lit 233, ⟨.type "tuple", .none, .seq #[.str (.ofString "data") 535, .str (.ofString "start") 536, .str (.ofString "cid_size") 537] 0, #[]⟩) ::
    (nat_lit 234, ⟨.type "tuple", .none, .seq #[] 0, #[]⟩) ::
    (nat_lit 236, ⟨.type "code", .none, .fields #[.str (.ofString "read_raw") 532, .str (.ofString "read_raw") 533, .str (.ofString "/claim/cut.py") 534, .int 153 0, .int 3 0, .int 0 0, .int 0 0, .int 3 0, .ref 231, .bool true, .int 181 0, .ref 232, .none, .ref 233, .ref 234, .ref 235, .int 538 0, .int 153 0, .str (.ofString "/claim/cut.py") 539], #[]⟩) ::
    (nat_lit 237, ⟨.type "function", .none, .func ⟨.ofString "read_raw", .ofString "read_raw", f38x1, .stmts f38x2, f38x6, 3, [], .none, .none, .none, .str (.ofString "quic.longheads") 399, .none, .ref 236, .none, 0⟩, #[]⟩) ::
    (nat_lit 238, ⟨.type "tuple", .none, .seq #[] 0, #[]⟩) ::
    (nat_lit 240, ⟨.type "tuple", .none, .seq #[.str (.ofString "start") 560, .str (.ofString "data") 561, .str (.ofString "found") 562, .str (.ofString "octet") 563] 0, #[]⟩) ::
    (nat_lit 241, ⟨.type "tuple", .none, .seq #[] 0, #[]⟩) ::
    (nat_lit 243, ⟨.type "code", .none, .fields #[.str (.ofString "mixed_octets") 557, .str (.ofString "mixed_octets") 558, .str (.ofString "/claim/cut.py") 559, .int 161 0, .int 2 0, .int 0 0, .int 0 0, .int 3 0, .ref 238, .bool true, .int 181 0, .ref 239, .none, .ref 240, .ref 241, .ref 242, .int 564 0, .int 161 0, .str (.ofString "/claim/cut.py") 565], #[]⟩) ::
    (nat_lit 244, ⟨.type "function", .none, .func ⟨.ofString "mixed_octets", .ofString "mixed_octets", f45x1, .stmts f45x2, f45x6, 3, [], .none, .none, .none, .str (.ofString "quic.seal") 541, .none, .ref 243, .none, 0⟩, #[]⟩) ::
    (nat_lit 245, ⟨.type "tuple", .none, .seq #[] 0, #[]⟩) ::
    (nat_lit 247, ⟨.type "tuple", .none, .seq #[.str (.ofString "key") 570, .str (.ofString "number") 571, .str (.ofString "data") 572, .str (.ofString "state") 573, .str (.ofString "found") 574, .str (.ofString "octet") 575] 0, #[]⟩) ::
    (nat_lit 248, ⟨.type "tuple", .none, .seq #[] 0, #[]⟩) ::
    (nat_lit 250, ⟨.type "code", .none, .fields #[.str (.ofString "turned_octets") 567, .str (.ofString "turned_octets") 568, .str (.ofString "/claim/cut.py") 569, .int 166 0, .int 3 0, .int 0 0, .int 0 0, .int 3 0, .ref 245, .bool true, .int 181 0, .ref 246, .none, .ref 247, .ref 248, .ref 249, .int 576 0, .int 166 0, .str (.ofString "/claim/cut.py") 577], #[]⟩) ::
    (nat_lit 251, ⟨.type "function", .none, .func ⟨.ofString "turned_octets", .ofString "turned_octets", f46x1, .stmts f46x2, f46x6, 3, [], .none, .none, .none, .str (.ofString "quic.seal") 541, .none, .ref 250, .none, 0⟩, #[]⟩) ::
    (nat_lit 252, ⟨.type "tuple", .none, .seq #[] 0, #[]⟩) ::
    (nat_lit 254, ⟨.type "tuple", .none, .seq #[.str (.ofString "key") 582, .str (.ofString "number") 583, .str (.ofString "head") 584, .str (.ofString "body") 585, .str (.ofString "state") 586] 0, #[]⟩) ::
    (nat_lit 255, ⟨.type "tuple", .none, .seq #[] 0, #[]⟩) ::
    (nat_lit 257, ⟨.type "code", .none, .fields #[.str (.ofString "tag_of") 579, .str (.ofString "tag_of") 580, .str (.ofString "/claim/cut.py") 581, .int 172 0, .int 4 0, .int 0 0, .int 0 0, .int 3 0, .ref 252, .bool true, .int 181 0, .ref 253, .none, .ref 254, .ref 255, .ref 256, .int 587 0, .int 172 0, .str (.ofString "/claim/cut.py") 588], #[]⟩) ::
    (nat_lit 258, ⟨.type "function", .none, .func ⟨.ofString "tag_of", .ofString "tag_of", f47x1, .stmts f47x2, f47x6, 3, [], .none, .none, .none, .str (.ofString "quic.seal") 541, .none, .ref 257, .none, 0⟩, #[]⟩) ::
    (nat_lit 259, ⟨.type "tuple", .none, .seq #[] 0, #[]⟩) ::
    (nat_lit 261, ⟨.type "tuple", .none, .seq #[.str (.ofString "key") 593, .str (.ofString "number") 594, .str (.ofString "head") 595, .str (.ofString "payload") 596, .str (.ofString "body") 597] 0, #[]⟩) ::
    (nat_lit 262, ⟨.type "tuple", .none, .seq #[] 0, #[]⟩) ::
    (nat_lit 264, ⟨.type "code", .none, .fields #[.str (.ofString "seal_payload") 590, .str (.ofString "seal_payload") 591, .str (.ofString "/claim/cut.py") 592, .int 175 0, .int 4 0, .int 0 0, .int 0 0, .int 3 0, .ref 259, .bool true, .int 181 0, .ref 260, .none, .ref 261, .ref 262, .ref 263, .int 598 0, .int 175 0, .str (.ofString "/claim/cut.py") 599], #[]⟩) ::
    (nat_lit 265, ⟨.type "function", .none, .func ⟨.ofString "seal_payload", .ofString "seal_payload", f48x1, .stmts f48x2, f48x6, 3, [], .none, .none, .none, .str (.ofString "quic.seal") 541, .none, .ref 264, .none, 0⟩, #[]⟩) ::
    (nat_lit 266, ⟨.type "tuple", .none, .seq #[] 0, #[]⟩) ::
    (nat_lit 268, ⟨.type "tuple", .none, .seq #[.str (.ofString "key") 604, .str (.ofString "number") 605, .str (.ofString "head") 606, .str (.ofString "sealed") 607, .str (.ofString "body") 608] 0, #[]⟩) ::
    (nat_lit 269, ⟨.type "tuple", .none, .seq #[] 0, #[]⟩) ::
    (nat_lit 271, ⟨.type "code", .none, .fields #[.str (.ofString "open_sealed") 601, .str (.ofString "open_sealed") 602, .str (.ofString "/claim/cut.py") 603, .int 178 0, .int 4 0, .int 0 0, .int 0 0, .int 3 0, .ref 266, .bool true, .int 181 0, .ref 267, .none, .ref 268, .ref 269, .ref 270, .int 609 0, .int 178 0, .str (.ofString "/claim/cut.py") 610], #[]⟩) ::
    (nat_lit 272, ⟨.type "function", .none, .func ⟨.ofString "open_sealed", .ofString "open_sealed", f49x1, .stmts f49x2, f49x6, 3, [], .none, .none, .none, .str (.ofString "quic.seal") 541, .none, .ref 271, .none, 0⟩, #[]⟩) ::
    (nat_lit 273, ⟨.type "tuple", .none, .seq #[] 0, #[]⟩) ::
    (nat_lit 275, ⟨.type "tuple", .none, .seq #[.str (.ofString "key") 615, .str (.ofString "sample") 616] 0, #[]⟩) ::
    (nat_lit 276, ⟨.type "tuple", .none, .seq #[] 0, #[]⟩) ::
    (nat_lit 278, ⟨.type "code", .none, .fields #[.str (.ofString "head_mask") 612, .str (.ofString "head_mask") 613, .str (.ofString "/claim/cut.py") 614, .int 185 0, .int 2 0, .int 0 0, .int 0 0, .int 3 0, .ref 273, .bool true, .int 181 0, .ref 274, .none, .ref 275, .ref 276, .ref 277, .int 617 0, .int 185 0, .str (.ofString "/claim/cut.py") 618], #[]⟩) ::
    (nat_lit 279, ⟨.type "function", .none, .func ⟨.ofString "head_mask", .ofString "head_mask", f50x1, .stmts f50x2, f50x6, 3, [], .none, .none, .none, .str (.ofString "quic.seal") 541, .none, .ref 278, .none, 0⟩, #[]⟩) ::
    (nat_lit 280, ⟨.type "tuple", .none, .seq #[] 0, #[]⟩) ::
    (nat_lit 282, ⟨.type "tuple", .none, .seq #[.str (.ofString "first") 623, .str (.ofString "mask") 624] 0, #[]⟩) ::
    (nat_lit 283, ⟨.type "tuple", .none, .seq #[] 0, #[]⟩) ::
    (nat_lit 285, ⟨.type "code", .none, .fields #[.str (.ofString "turned_first") 620, .str (.ofString "turned_first") 621, .str (.ofString "/claim/cut.py") 622, .int 187 0, .int 2 0, .int 0 0, .int 0 0, .int 3 0, .ref 280, .bool true, .int 181 0, .ref 281, .none, .ref 282, .ref 283, .ref 284, .int 625 0, .int 187 0, .str (.ofString "/claim/cut.py") 626], #[]⟩) ::
    (nat_lit 286, ⟨.type "function", .none, .func ⟨.ofString "turned_first", .ofString "turned_first", f51x1, .stmts f51x2, f51x6, 3, [], .none, .none, .none, .str (.ofString "quic.seal") 541, .none, .ref 285, .none, 0⟩, #[]⟩) ::
    (nat_lit 287, ⟨.type "tuple", .none, .seq #[] 0, #[]⟩) ::
    (nat_lit 290, ⟨.type "code", .none, .fields #[.str (.ofString "turned_number") 628, .str (.ofString "turned_number") 629, .str (.ofString "/claim/cut.py") 630, .int 189 0, .int 2 0, .int 0 0, .int 0 0, .int 3 0, .ref 287, .bool true, .int 181 0, .ref 288, .none, .none, .none, .ref 289, .int 631 0, .int 189 0, .str (.ofString "/claim/cut.py") 632], #[]⟩) ::
    (nat_lit 291, ⟨.type "function", .none, .func ⟨.ofString "turned_number", .ofString "turned_number", f52x1, .stmts f52x2, f52x6, 3, [], .none, .none, .none, .str (.ofString "quic.seal") 541, .none, .ref 290, .none, 0⟩, #[]⟩) ::
    (nat_lit 292, ⟨.type "tuple", .none, .seq #[] 0, #[]⟩) ::
    (nat_lit 294, ⟨.type "tuple", .none, .seq #[.str (.ofString "data") 637, .str (.ofString "number_at") 638, .str (.ofString "end") 639] 0, #[]⟩) ::
    (nat_lit 295, ⟨.type "tuple", .none, .seq #[] 0, #[]⟩) ::
    (nat_lit 297, ⟨.type "code", .none, .fields #[.str (.ofString "sample_at") 634, .str (.ofString "sample_at") 635, .str (.ofString "/claim/cut.py") 636, .int 191 0, .int 3 0, .int 0 0, .int 0 0, .int 3 0, .ref 292, .bool true, .int 181 0, .ref 293, .none, .ref 294, .ref 295, .ref 296, .int 640 0, .int 191 0, .str (.ofString "/claim/cut.py") 641], #[]⟩) ::
    (nat_lit 298, ⟨.type "function", .none, .func ⟨.ofString "sample_at", .ofString "sample_at", f53x1, .stmts f53x2, f53x6, 3, [], .none, .none, .none, .str (.ofString "quic.seal") 541, .none, .ref 297, .none, 0⟩, #[]⟩) ::
    (nat_lit 299, ⟨.type "tuple", .none, .seq #[] 0, #[]⟩) ::
    (nat_lit 301, ⟨.type "tuple", .none, .seq #[.str (.ofString "key") 646, .str (.ofString "number") 647, .str (.ofString "head") 648, .str (.ofString "cut") 649, .str (.ofString "payload") 650, .str (.ofString "whole_head") 651, .str (.ofString "sealed") 652, .str (.ofString "data") 653, .str (.ofString "mask") 654] 0, #[]⟩) ::
    (nat_lit 302, ⟨.type "tuple", .none, .seq #[] 0, #[]⟩) ::
    (nat_lit 304, ⟨.type "code", .none, .fields #[.str (.ofString "protected_packet") 643, .str (.ofString "protected_packet") 644, .str (.ofString "/claim/cut.py") 645, .int 195 0, .int 5 0, .int 0 0, .int 0 0, .int 3 0, .ref 299, .bool true, .int 181 0, .ref 300, .none, .ref 301, .ref 302, .ref 303, .int 655 0, .int 195 0, .str (.ofString "/claim/cut.py") 656], #[]⟩) ::
    (nat_lit 305, ⟨.type "function", .none, .func ⟨.ofString "protected_packet", .ofString "protected_packet", f54x1, .stmts f54x2, f54x6, 3, [], .none, .none, .none, .str (.ofString "quic.seal") 541, .none, .ref 304, .none, 0⟩, #[]⟩) ::
    (nat_lit 306, ⟨.type "tuple", .none, .seq #[] 0, #[]⟩) ::
    (nat_lit 308, ⟨.type "tuple", .none, .seq #[.str (.ofString "key") 661, .str (.ofString "data") 662, .str (.ofString "start") 663, .str (.ofString "number_at") 664, .str (.ofString "end") 665, .str (.ofString "sample") 666, .str (.ofString "mask") 667, .str (.ofString "first") 668, .str (.ofString "size") 669, .str (.ofString "head") 670] 0, #[]⟩) ::
    (nat_lit 309, ⟨.type "tuple", .none, .seq #[] 0, #[]⟩) ::
    (nat_lit 311, ⟨.type "code", .none, .fields #[.str (.ofString "bare_head") 658, .str (.ofString "bare_head") 659, .str (.ofString "/claim/cut.py") 660, .int 201 0, .int 5 0, .int 0 0, .int 0 0, .int 3 0, .ref 306, .bool true, .int 181 0, .ref 307, .none, .ref 308, .ref 309, .ref 310, .int 671 0, .int 201 0, .str (.ofString "/claim/cut.py") 672], #[]⟩) ::
    (nat_lit 312, ⟨.type "function", .none, .func ⟨.ofString "bare_head", .ofString "bare_head", f55x1, .stmts f55x2, f55x6, 3, [], .none, .none, .none, .str (.ofString "quic.seal") 541, .none, .ref 311, .none, 0⟩, #[]⟩) ::
    (nat_lit 313, ⟨.type "tuple", .none, .seq #[] 0, #[]⟩) ::
    (nat_lit 315, ⟨.type "tuple", .none, .seq #[.str (.ofString "truncated") 679, .str (.ofString "size") 680, .str (.ofString "largest_seen") 681, .str (.ofString "expected") 682, .str (.ofString "window") 683, .str (.ofString "half") 684, .str (.ofString "found") 685] 0, #[]⟩) ::
    (nat_lit 316, ⟨.type "tuple", .none, .seq #[] 0, #[]⟩) ::
    (nat_lit 318, ⟨.type "code", .none, .fields #[.str (.ofString "restore_number") 676, .str (.ofString "restore_number") 677, .str (.ofString "/claim/cut.py") 678, .int 211 0, .int 3 0, .int 0 0, .int 0 0, .int 3 0, .ref 313, .bool true, .int 181 0, .ref 314, .none, .ref 315, .ref 316, .ref 317, .int 686 0, .int 211 0, .str (.ofString "/claim/cut.py") 687], #[]⟩) ::
    (nat_lit 319, ⟨.type "function", .none, .func ⟨.ofString "restore_number", .ofString "restore_number", f57x1, .stmts f57x2, f57x6, 3, [], .none, .none, .none, .str (.ofString "quic.pnum") 674, .none, .ref 318, .none, 0⟩, #[]⟩) ::
    (nat_lit 320, ⟨.type "tuple", .none, .seq #[] 0, #[]⟩) ::
    (nat_lit 322, ⟨.type "tuple", .none, .seq #[.str (.ofString "first") 694] 0, #[]⟩) ::
    (nat_lit 323, ⟨.type "tuple", .none, .seq #[] 0, #[]⟩) ::
    (nat_lit 325, ⟨.type "code", .none, .fields #[.str (.ofString "reserved_bits") 691, .str (.ofString "reserved_bits") 692, .str (.ofString "/claim/cut.py") 693, .int 222 0, .int 1 0, .int 0 0, .int 0 0, .int 3 0, .ref 320, .bool true, .int 181 0, .ref 321, .none, .ref 322, .ref 323, .ref 324, .int 695 0, .int 222 0, .str (.ofString "/claim/cut.py") 696], #[]⟩) ::
    (nat_lit 326, ⟨.type "function", .none, .func ⟨.ofString "reserved_bits", .ofString "reserved_bits", f59x1, .stmts f59x2, f59x6, 3, [], .none, .none, .none, .str (.ofString "quic.shorthead") 689, .none, .ref 325, .none, 0⟩, #[]⟩) ::
    (nat_lit 327, ⟨.type "tuple", .none, .seq #[] 0, #[]⟩) ::
    (nat_lit 329, ⟨.type "tuple", .none, .seq #[.str (.ofString "data") 701, .str (.ofString "raw") 702, .str (.ofString "key") 703, .str (.ofString "largest_seen") 704, .str (.ofString "told") 705, .str (.ofString "head") 706, .str (.ofString "size") 707, .str (.ofString "number") 708, .str (.ofString "payload") 709] 0, #[]⟩) ::
    (nat_lit 330, ⟨.type "tuple", .none, .seq #[] 0, #[]⟩) ::
    (nat_lit 332, ⟨.type "code", .none, .fields #[.str (.ofString "open_packet") 698, .str (.ofString "open_packet") 699, .str (.ofString "/claim/cut.py") 700, .int 224 0, .int 4 0, .int 0 0, .int 0 0, .int 3 0, .ref 327, .bool true, .int 181 0, .ref 328, .none, .ref 329, .ref 330, .ref 331, .int 710 0, .int 224 0, .str (.ofString "/claim/cut.py") 711], #[]⟩) ::
    (nat_lit 333, ⟨.type "function", .none, .func ⟨.ofString "open_packet", .ofString "open_packet", f60x1, .stmts f60x2, f60x6, 3, [], .none, .none, .none, .str (.ofString "quic.shorthead") 689, .none, .ref 332, .none, 0⟩, #[]⟩) ::
    (nat_lit 334, ⟨.type "tuple", .none, .seq #[] 0, #[]⟩) ::
    (nat_lit 336, ⟨.type "tuple", .none, .seq #[.str (.ofString "raw") 716, .str (.ofString "first") 717, .str (.ofString "number") 718, .str (.ofString "payload") 719] 0, #[]⟩) ::
    (nat_lit 337, ⟨.type "tuple", .none, .seq #[] 0, #[]⟩) ::
    (nat_lit 339, ⟨.type "code", .none, .fields #[.str (.ofString "opened") 713, .str (.ofString "opened") 714, .str (.ofString "/claim/cut.py") 715, .int 236 0, .int 4 0, .int 0 0, .int 0 0, .int 3 0, .ref 334, .bool true, .int 181 0, .ref 335, .none, .ref 336, .ref 337, .ref 338, .int 720 0, .int 236 0, .str (.ofString "/claim/cut.py") 721], #[]⟩) ::
    (nat_lit 340, ⟨.type "function", .none, .func ⟨.ofString "opened", .ofString "opened", f61x1, .stmts f61x2, f61x6, 3, [], .none, .none, .none, .str (.ofString "quic.shorthead") 689, .none, .ref 339, .none, 0⟩, #[]⟩) ::
    (nat_lit 341, ⟨.type "tuple", .none, .seq #[] 0, #[]⟩) ::
    (nat_lit 344, ⟨.type "code", .none, .fields #[.str (.ofString "_law_draws") 725, .str (.ofString "_law_draws") 726, .str (.ofString "/claim/cut.py") 727, .int 243 0, .int 1 0, .int 0 0, .int 0 0, .int 3 0, .ref 341, .bool true, .int 181 0, .ref 342, .none, .none, .none, .ref 343, .int 728 0, .int 243 0, .str (.ofString "/claim/cut.py") 729], #[]⟩) ::
    (nat_lit 345, ⟨.type "function", .none, .func ⟨.ofString "_law_draws", .ofString "_law_draws", f63x1, .stmts f63x2, f63x6, 3, [], .none, .none, .none, .str (.ofString "law_no0081_01") 723, .none, .ref 344, .none, 0⟩, #[]⟩) ::
    (nat_lit 346, ⟨.type "tuple", .none, .seq #[] 0, #[]⟩) ::
    (nat_lit 348, ⟨.type "tuple", .none, .seq #[.str (.ofString "draws") 734, .str (.ofString "many") 735] 0, #[]⟩) ::
    (nat_lit 349, ⟨.type "tuple", .none, .seq #[] 0, #[]⟩) ::
    (nat_lit 351, ⟨.type "code", .none, .fields #[.str (.ofString "_law_take") 731, .str (.ofString "_law_take") 732, .str (.ofString "/claim/cut.py") 733, .int 248 0, .int 2 0, .int 0 0, .int 0 0, .int 3 0, .ref 346, .bool true, .int 181 0, .ref 347, .none, .ref 348, .ref 349, .ref 350, .int 736 0, .int 248 0, .str (.ofString "/claim/cut.py") 737], #[]⟩) ::
    (nat_lit 352, ⟨.type "function", .none, .func ⟨.ofString "_law_take", .ofString "_law_take", f64x1, .stmts f64x2, f64x6, 3, [], .none, .none, .none, .str (.ofString "law_no0081_01") 723, .none, .ref 351, .none, 0⟩, #[]⟩) ::
    (nat_lit 353, ⟨.type "tuple", .none, .seq #[] 0, #[]⟩) ::
    (nat_lit 356, ⟨.type "code", .none, .fields #[.str (.ofString "_law_octets") 739, .str (.ofString "_law_octets") 740, .str (.ofString "/claim/cut.py") 741, .int 253 0, .int 2 0, .int 0 0, .int 0 0, .int 3 0, .ref 353, .bool true, .int 181 0, .ref 354, .none, .none, .none, .ref 355, .int 742 0, .int 253 0, .str (.ofString "/claim/cut.py") 743], #[]⟩) ::
    (nat_lit 357, ⟨.type "function", .none, .func ⟨.ofString "_law_octets", .ofString "_law_octets", f65x1, .stmts f65x2, f65x6, 3, [], .none, .none, .none, .str (.ofString "law_no0081_01") 723, .none, .ref 356, .none, 0⟩, #[]⟩) ::
    (nat_lit 358, ⟨.type "tuple", .none, .seq #[] 0, #[]⟩) ::
    (nat_lit 360, ⟨.type "tuple", .none, .seq #[.str (.ofString "data") 748, .str (.ofString "cid_size") 749] 0, #[]⟩) ::
    (nat_lit 361, ⟨.type "tuple", .none, .seq #[] 0, #[]⟩) ::
    (nat_lit 363, ⟨.type "code", .none, .fields #[.str (.ofString "_law_is_refused") 745, .str (.ofString "_law_is_refused") 746, .str (.ofString "/claim/cut.py") 747, .int 255 0, .int 2 0, .int 0 0, .int 0 0, .int 3 0, .ref 358, .bool true, .int 181 0, .ref 359, .none, .ref 360, .ref 361, .ref 362, .int 750 0, .int 255 0, .str (.ofString "/claim/cut.py") 751], #[]⟩) ::
    (nat_lit 364, ⟨.type "function", .none, .func ⟨.ofString "_law_is_refused", .ofString "_law_is_refused", f66x1, .stmts f66x2, f66x6, 3, [], .none, .none, .none, .str (.ofString "law_no0081_01") 723, .none, .ref 363, .none, 0⟩, #[]⟩) ::
    (nat_lit 365, ⟨.type "tuple", .none, .seq #[] 0, #[]⟩) ::
    (nat_lit 367, ⟨.type "tuple", .none, .seq #[.str (.ofString "data") 756, .str (.ofString "cid_size") 757, .str (.ofString "key") 758, .str (.ofString "seen") 759, .str (.ofString "e") 760] 0, #[]⟩) ::
    (nat_lit 368, ⟨.type "tuple", .none, .seq #[] 0, #[]⟩) ::
    (nat_lit 370, ⟨.type "code", .none, .fields #[.str (.ofString "_law_opened") 753, .str (.ofString "_law_opened") 754, .str (.ofString "/claim/cut.py") 755, .int 261 0, .int 4 0, .int 0 0, .int 0 0, .int 3 0, .ref 365, .bool true, .int 181 0, .ref 366, .none, .ref 367, .ref 368, .ref 369, .int 761 0, .int 261 0, .str (.ofString "/claim/cut.py") 762], #[]⟩) ::
    (nat_lit 371, ⟨.type "function", .none, .func ⟨.ofString "_law_opened", .ofString "_law_opened", f67x1, .stmts f67x2, f67x6, 3, [], .none, .none, .none, .str (.ofString "law_no0081_01") 723, .none, .ref 370, .none, 0⟩, #[]⟩) ::
    (nat_lit 372, ⟨.type "tuple", .none, .seq #[] 0, #[]⟩) ::
    (nat_lit 374, ⟨.type "tuple", .none, .seq #[.str (.ofString "script") 767, .str (.ofString "draws") 768, .str (.ofString "form") 769, .str (.ofString "bits") 770, .str (.ofString "fixed") 771, .str (.ofString "size") 772, .str (.ofString "dcid") 773, .str (.ofString "scid") 774, .str (.ofString "number") 775, .str (.ofString "payload") 776, .str (.ofString "token") 777, .str (.ofString "cut") 778, .str (.ofString "head") 779, .str (.ofString "data") 780, .str (.ofString "is_good") 781, .str (.ofString "raw") 782, .str (.ofString "kind") 783, .str (.ofString "told") 784] 0, #[]⟩) ::
    (nat_lit 375, ⟨.type "tuple", .none, .seq #[] 0, #[]⟩) ::
    (nat_lit 377, ⟨.type "code", .none, .fields #[.str (.ofString "law") 764, .str (.ofString "law") 765, .str (.ofString "/claim/cut.py") 766, .int 266 0, .int 1 0, .int 0 0, .int 0 0, .int 3 0, .ref 372, .bool true, .int 181 0, .ref 373, .none, .ref 374, .ref 375, .ref 376, .int 785 0, .int 266 0, .str (.ofString "/claim/cut.py") 786], #[]⟩) ::
    (nat_lit 378, ⟨.type "function", .none, .func ⟨.ofString "law", .ofString "law", f68x1, .stmts f68x2, f68x6, 3, [], .none, .none, .none, .str (.ofString "law_no0081_01") 723, .none, .ref 377, .none, 0⟩, #[]⟩) :: []
noncomputable def hd.adr : List Addr := [2, 3, 15, 17, 18, 20, 21, 22, 29, 31, 32, 34, 35, 36, 37, 38, 39, 42, 49, 51, 52, 54, 55, 56, 57, 58, 59, 62, 69, 71, 72, 74, 75, 76, 77, 78, 79, 82, 83, 85, 86, 88, 89, 90, 92, 93, 95, 96, 97, 99, 100, 102, 103, 111, 113, 114, 116, 117, 118, 120, 121, 123, 124, 125, 127, 128, 130, 131, 132, 134, 135, 137, 138, 139, 141, 142, 144, 145, 146, 148, 149, 151, 152, 153, 154, 155, 156, 157, 160, 168, 170, 171, 173, 174, 175, 176, 177, 178, 179, 182, 184, 185, 187, 188, 189, 191, 192, 194, 195, 196, 198, 199, 201, 202, 203, 205, 206, 208, 209, 210, 212, 213, 215, 216, 217, 219, 220, 222, 223, 224, 226, 227, 229, 230, 231, 233, 234, 236, 237, 238, 240, 241, 243, 244, 245, 247, 248, 250, 251, 252, 254, 255, 257, 258, 259, 261, 262, 264, 265, 266, 268, 269, 271, 272, 273, 275, 276, 278, 279, 280, 282, 283, 285, 286, 287, 290, 291, 292, 294, 295, 297, 298, 299, 301, 302, 304, 305, 306, 308, 309, 311, 312, 313, 315, 316, 318, 319, 320, 322, 323, 325, 326, 327, 329, 330, 332, 333, 334, 336, 337, 339, 340, 341, 344, 345, 346, 348, 349, 351, 352, 353, 356, 357, 358, 360, 361, 363, 364, 365, 367, 368, 370, 371, 372, 374, 375, 377, 378]
noncomputable abbrev hd.loose : List Str := [Str.ofString "LONG_KINDS", Str.ofString "MODULUS"]
noncomputable abbrev hd.lv : List (Str × WData) := [(Str.ofString "MODULUS", WData.int 170141183460469231731687303715884105727)]
theorem hd.adrs : ∀ P, hd.adr = (hd.heap_39 P).map (·.1) := fun P => by kernel_rfl
noncomputable abbrev hd.hook : Hook := kHook hd.heap_39 hd.adr hd.adrs
noncomputable def hd.mkH {f0x0 : Str} {f0x1 : Arguments} {f0x2 : List Stmt} {f0x3 : List PySem.Expr} {f0x4 : Option PySem.Expr} {f0x5 : List TypeParam} {f0x6 : Scope} {f0x7 : Option Scope} {f0x8 : Str} {f0x9 : Pos} {y1 : Stmt} {y2 : Stmt} {y3 : Stmt} {f5x0 : Str} {f5x1 : Arguments} {f5x2 : List Stmt} {f5x3 : List PySem.Expr} {f5x4 : Option PySem.Expr} {f5x5 : List TypeParam} {f5x6 : Scope} {f5x7 : Option Scope} {f5x8 : Str} {f5x9 : Pos} {c4x0 : Str} {c4x1 : List PySem.Expr} {c4x2 : List Keyword} {c4x4 : List PySem.Expr} {c4x5 : List TypeParam} {c4x6 : Scope} {c4x7 : Option Scope} {c4x8 : Str} {c4x9 : List Str} {c4x10 : Pos} {f7x0 : Str} {f7x1 : Arguments} {f7x2 : List Stmt} {f7x3 : List PySem.Expr} {f7x4 : Option PySem.Expr} {f7x5 : List TypeParam} {f7x6 : Scope} {f7x7 : Option Scope} {f7x8 : Str} {f7x9 : Pos} {c6x0 : Str} {c6x1 : List PySem.Expr} {c6x2 : List Keyword} {c6x4 : List PySem.Expr} {c6x5 : List TypeParam} {c6x6 : Scope} {c6x7 : Option Scope} {c6x8 : Str} {c6x9 : List Str} {c6x10 : Pos} {f9x0 : Str} {f9x1 : Arguments} {f9x2 : List Stmt} {f9x3 : List PySem.Expr} {f9x4 : Option PySem.Expr} {f9x5 : List TypeParam} {f9x6 : Scope} {f9x7 : Option Scope} {f9x8 : Str} {f9x9 : Pos} {c8x0 : Str} {c8x1 : List PySem.Expr} {c8x2 : List Keyword} {c8x4 : List PySem.Expr} {c8x5 : List TypeParam} {c8x6 : Scope} {c8x7 : Option Scope} {c8x8 : Str} {c8x9 : List Str} {c8x10 : Pos} {y10 : Stmt} {y11 : Stmt} {f12x0 : Str} {f12x1 : Arguments} {f12x2 : List Stmt} {f12x3 : List PySem.Expr} {f12x4 : Option PySem.Expr} {f12x5 : List TypeParam} {f12x6 : Scope} {f12x7 : Option Scope} {f12x8 : Str} {f12x9 : Pos} {f13x0 : Str} {f13x1 : Arguments} {f13x2 : List Stmt} {f13x3 : List PySem.Expr} {f13x4 : Option PySem.Expr} {f13x5 : List TypeParam} {f13x6 : Scope} {f13x7 : Option Scope} {f13x8 : Str} {f13x9 : Pos} {f14x0 : Str} {f14x1 : Arguments} {f14x2 : List Stmt} {f14x3 : List PySem.Expr} {f14x4 : Option PySem.Expr} {f14x5 : List TypeParam} {f14x6 : Scope} {f14x7 : Option Scope} {f14x8 : Str} {f14x9 : Pos} {y15 : Stmt} {f17x0 : Str} {f17x1 : Arguments} {f17x2 : List Stmt} {f17x3 : List PySem.Expr} {f17x4 : Option PySem.Expr} {f17x5 : List TypeParam} {f17x6 : Scope} {f17x7 : Option Scope} {f17x8 : Str} {f17x9 : Pos} {f18x0 : Str} {f18x1 : Arguments} {f18x2 : List Stmt} {f18x3 : List PySem.Expr} {f18x4 : Option PySem.Expr} {f18x5 : List TypeParam} {f18x6 : Scope} {f18x7 : Option Scope} {f18x8 : Str} {f18x9 : Pos} {f19x0 : Str} {f19x1 : Arguments} {f19x2 : List Stmt} {f19x3 : List PySem.Expr} {f19x4 : Option PySem.Expr} {f19x5 : List TypeParam} {f19x6 : Scope} {f19x7 : Option Scope} {f19x8 : Str} {f19x9 : Pos} {f20x0 : Str} {f20x1 : Arguments} {f20x2 : List Stmt} {f20x3 : List PySem.Expr} {f20x4 : Option PySem.Expr} {f20x5 : List TypeParam} {f20x6 : Scope} {f20x7 : Option Scope} {f20x8 : Str} {f20x9 : Pos} {f21x0 : Str} {f21x1 : Arguments} {f21x2 : List Stmt} {f21x3 : List PySem.Expr} {f21x4 : Option PySem.Expr} {f21x5 : List TypeParam} {f21x6 : Scope} {f21x7 : Option Scope} {f21x8 : Str} {f21x9 : Pos} {f22x0 : Str} {f22x1 : Arguments} {f22x2 : List Stmt} {f22x3 : List PySem.Expr} {f22x4 : Option PySem.Expr} {f22x5 : List TypeParam} {f22x6 : Scope} {f22x7 : Option Scope} {f22x8 : Str} {f22x9 : Pos} {c16x0 : Str} {c16x1 : List PySem.Expr} {c16x2 : List Keyword} {c16x4 : List PySem.Expr} {c16x5 : List TypeParam} {c16x6 : Scope} {c16x7 : Option Scope} {c16x8 : Str} {c16x9 : List Str} {c16x10 : Pos} {y23 : Stmt} {y24 : Stmt} {y25 : Stmt} {y26 : Stmt} {y27 : Stmt} {y28 : Stmt} {f30x0 : Str} {f30x1 : Arguments} {f30x2 : List Stmt} {f30x3 : List PySem.Expr} {f30x4 : Option PySem.Expr} {f30x5 : List TypeParam} {f30x6 : Scope} {f30x7 : Option Scope} {f30x8 : Str} {f30x9 : Pos} {c29x0 : Str} {c29x1 : List PySem.Expr} {c29x2 : List Keyword} {c29x4 : List PySem.Expr} {c29x5 : List TypeParam} {c29x6 : Scope} {c29x7 : Option Scope} {c29x8 : Str} {c29x9 : List Str} {c29x10 : Pos} {f31x0 : Str} {f31x1 : Arguments} {f31x2 : List Stmt} {f31x3 : List PySem.Expr} {f31x4 : Option PySem.Expr} {f31x5 : List TypeParam} {f31x6 : Scope} {f31x7 : Option Scope} {f31x8 : Str} {f31x9 : Pos} {f32x0 : Str} {f32x1 : Arguments} {f32x2 : List Stmt} {f32x3 : List PySem.Expr} {f32x4 : Option PySem.Expr} {f32x5 : List TypeParam} {f32x6 : Scope} {f32x7 : Option Scope} {f32x8 : Str} {f32x9 : Pos} {f33x0 : Str} {f33x1 : Arguments} {f33x2 : List Stmt} {f33x3 : List PySem.Expr} {f33x4 : Option PySem.Expr} {f33x5 : List TypeParam} {f33x6 : Scope} {f33x7 : Option Scope} {f33x8 : Str} {f33x9 : Pos} {f34x0 : Str} {f34x1 : Arguments} {f34x2 : List Stmt} {f34x3 : List PySem.Expr} {f34x4 : Option PySem.Expr} {f34x5 : List TypeParam} {f34x6 : Scope} {f34x7 : Option Scope} {f34x8 : Str} {f34x9 : Pos} {f35x0 : Str} {f35x1 : Arguments} {f35x2 : List Stmt} {f35x3 : List PySem.Expr} {f35x4 : Option PySem.Expr} {f35x5 : List TypeParam} {f35x6 : Scope} {f35x7 : Option Scope} {f35x8 : Str} {f35x9 : Pos} {f36x0 : Str} {f36x1 : Arguments} {f36x2 : List Stmt} {f36x3 : List PySem.Expr} {f36x4 : Option PySem.Expr} {f36x5 : List TypeParam} {f36x6 : Scope} {f36x7 : Option Scope} {f36x8 : Str} {f36x9 : Pos} {f37x0 : Str} {f37x1 : Arguments} {f37x2 : List Stmt} {f37x3 : List PySem.Expr} {f37x4 : Option PySem.Expr} {f37x5 : List TypeParam} {f37x6 : Scope} {f37x7 : Option Scope} {f37x8 : Str} {f37x9 : Pos} {f38x0 : Str} {f38x1 : Arguments} {f38x2 : List Stmt} {f38x3 : List PySem.Expr} {f38x4 : Option PySem.Expr} {f38x5 : List TypeParam} {f38x6 : Scope} {f38x7 : Option Scope} {f38x8 : Str} {f38x9 : Pos} {y39 : Stmt} {y40 : Stmt} {y41 : Stmt} {y42 : Stmt} {y43 : Stmt} {y44 : Stmt} {f45x0 : Str} {f45x1 : Arguments} {f45x2 : List Stmt} {f45x3 : List PySem.Expr} {f45x4 : Option PySem.Expr} {f45x5 : List TypeParam} {f45x6 : Scope} {f45x7 : Option Scope} {f45x8 : Str} {f45x9 : Pos} {f46x0 : Str} {f46x1 : Arguments} {f46x2 : List Stmt} {f46x3 : List PySem.Expr} {f46x4 : Option PySem.Expr} {f46x5 : List TypeParam} {f46x6 : Scope} {f46x7 : Option Scope} {f46x8 : Str} {f46x9 : Pos} {f47x0 : Str} {f47x1 : Arguments} {f47x2 : List Stmt} {f47x3 : List PySem.Expr} {f47x4 : Option PySem.Expr} {f47x5 : List TypeParam} {f47x6 : Scope} {f47x7 : Option Scope} {f47x8 : Str} {f47x9 : Pos} {f48x0 : Str} {f48x1 : Arguments} {f48x2 : List Stmt} {f48x3 : List PySem.Expr} {f48x4 : Option PySem.Expr} {f48x5 : List TypeParam} {f48x6 : Scope} {f48x7 : Option Scope} {f48x8 : Str} {f48x9 : Pos} {f49x0 : Str} {f49x1 : Arguments} {f49x2 : List Stmt} {f49x3 : List PySem.Expr} {f49x4 : Option PySem.Expr} {f49x5 : List TypeParam} {f49x6 : Scope} {f49x7 : Option Scope} {f49x8 : Str} {f49x9 : Pos} {f50x0 : Str} {f50x1 : Arguments} {f50x2 : List Stmt} {f50x3 : List PySem.Expr} {f50x4 : Option PySem.Expr} {f50x5 : List TypeParam} {f50x6 : Scope} {f50x7 : Option Scope} {f50x8 : Str} {f50x9 : Pos} {f51x0 : Str} {f51x1 : Arguments} {f51x2 : List Stmt} {f51x3 : List PySem.Expr} {f51x4 : Option PySem.Expr} {f51x5 : List TypeParam} {f51x6 : Scope} {f51x7 : Option Scope} {f51x8 : Str} {f51x9 : Pos} {f52x0 : Str} {f52x1 : Arguments} {f52x2 : List Stmt} {f52x3 : List PySem.Expr} {f52x4 : Option PySem.Expr} {f52x5 : List TypeParam} {f52x6 : Scope} {f52x7 : Option Scope} {f52x8 : Str} {f52x9 : Pos} {f53x0 : Str} {f53x1 : Arguments} {f53x2 : List Stmt} {f53x3 : List PySem.Expr} {f53x4 : Option PySem.Expr} {f53x5 : List TypeParam} {f53x6 : Scope} {f53x7 : Option Scope} {f53x8 : Str} {f53x9 : Pos} {f54x0 : Str} {f54x1 : Arguments} {f54x2 : List Stmt} {f54x3 : List PySem.Expr} {f54x4 : Option PySem.Expr} {f54x5 : List TypeParam} {f54x6 : Scope} {f54x7 : Option Scope} {f54x8 : Str} {f54x9 : Pos} {f55x0 : Str} {f55x1 : Arguments} {f55x2 : List Stmt} {f55x3 : List PySem.Expr} {f55x4 : Option PySem.Expr} {f55x5 : List TypeParam} {f55x6 : Scope} {f55x7 : Option Scope} {f55x8 : Str} {f55x9 : Pos} {y56 : Stmt} {f57x0 : Str} {f57x1 : Arguments} {f57x2 : List Stmt} {f57x3 : List PySem.Expr} {f57x4 : Option PySem.Expr} {f57x5 : List TypeParam} {f57x6 : Scope} {f57x7 : Option Scope} {f57x8 : Str} {f57x9 : Pos} {y58 : Stmt} {f59x0 : Str} {f59x1 : Arguments} {f59x2 : List Stmt} {f59x3 : List PySem.Expr} {f59x4 : Option PySem.Expr} {f59x5 : List TypeParam} {f59x6 : Scope} {f59x7 : Option Scope} {f59x8 : Str} {f59x9 : Pos} {f60x0 : Str} {f60x1 : Arguments} {f60x2 : List Stmt} {f60x3 : List PySem.Expr} {f60x4 : Option PySem.Expr} {f60x5 : List TypeParam} {f60x6 : Scope} {f60x7 : Option Scope} {f60x8 : Str} {f60x9 : Pos} {f61x0 : Str} {f61x1 : Arguments} {f61x2 : List Stmt} {f61x3 : List PySem.Expr} {f61x4 : Option PySem.Expr} {f61x5 : List TypeParam} {f61x6 : Scope} {f61x7 : Option Scope} {f61x8 : Str} {f61x9 : Pos} {y62 : Stmt} {f63x0 : Str} {f63x1 : Arguments} {f63x2 : List Stmt} {f63x3 : List PySem.Expr} {f63x4 : Option PySem.Expr} {f63x5 : List TypeParam} {f63x6 : Scope} {f63x7 : Option Scope} {f63x8 : Str} {f63x9 : Pos} {f64x0 : Str} {f64x1 : Arguments} {f64x2 : List Stmt} {f64x3 : List PySem.Expr} {f64x4 : Option PySem.Expr} {f64x5 : List TypeParam} {f64x6 : Scope} {f64x7 : Option Scope} {f64x8 : Str} {f64x9 : Pos} {f65x0 : Str} {f65x1 : Arguments} {f65x2 : List Stmt} {f65x3 : List PySem.Expr} {f65x4 : Option PySem.Expr} {f65x5 : List TypeParam} {f65x6 : Scope} {f65x7 : Option Scope} {f65x8 : Str} {f65x9 : Pos} {f66x0 : Str} {f66x1 : Arguments} {f66x2 : List Stmt} {f66x3 : List PySem.Expr} {f66x4 : Option PySem.Expr} {f66x5 : List TypeParam} {f66x6 : Scope} {f66x7 : Option Scope} {f66x8 : Str} {f66x9 : Pos} {f67x0 : Str} {f67x1 : Arguments} {f67x2 : List Stmt} {f67x3 : List PySem.Expr} {f67x4 : Option PySem.Expr} {f67x5 : List TypeParam} {f67x6 : Scope} {f67x7 : Option Scope} {f67x8 : Str} {f67x9 : Pos} {f68x0 : Str} {f68x1 : Arguments} {f68x2 : List Stmt} {f68x3 : List PySem.Expr} {f68x4 : Option PySem.Expr} {f68x5 : List TypeParam} {f68x6 : Scope} {f68x7 : Option Scope} {f68x8 : Str} {f68x9 : Pos}
  (h : PySem.Challenge.pw_no0081_01.main.body = [.FunctionDef f0x0 f0x1 f0x2 f0x3 f0x4 f0x5 f0x6 f0x7 f0x8 f0x9,
   y1,
   y2,
   y3,
   .ClassDef c4x0 c4x1 c4x2 [.FunctionDef f5x0 f5x1 f5x2 f5x3 f5x4 f5x5 f5x6 f5x7 f5x8 f5x9] c4x4 c4x5 c4x6 c4x7 c4x8 c4x9 c4x10,
   .ClassDef c6x0 c6x1 c6x2 [.FunctionDef f7x0 f7x1 f7x2 f7x3 f7x4 f7x5 f7x6 f7x7 f7x8 f7x9] c6x4 c6x5 c6x6 c6x7 c6x8 c6x9 c6x10,
   .ClassDef c8x0 c8x1 c8x2 [.FunctionDef f9x0 f9x1 f9x2 f9x3 f9x4 f9x5 f9x6 f9x7 f9x8 f9x9] c8x4 c8x5 c8x6 c8x7 c8x8 c8x9 c8x10,
   y10,
   y11,
   .FunctionDef f12x0 f12x1 f12x2 f12x3 f12x4 f12x5 f12x6 f12x7 f12x8 f12x9,
   .FunctionDef f13x0 f13x1 f13x2 f13x3 f13x4 f13x5 f13x6 f13x7 f13x8 f13x9,
   .FunctionDef f14x0 f14x1 f14x2 f14x3 f14x4 f14x5 f14x6 f14x7 f14x8 f14x9,
   y15,
   .ClassDef c16x0 c16x1 c16x2 [.FunctionDef f17x0 f17x1 f17x2 f17x3 f17x4 f17x5 f17x6 f17x7 f17x8 f17x9, .FunctionDef f18x0 f18x1 f18x2 f18x3 f18x4 f18x5 f18x6 f18x7 f18x8 f18x9, .FunctionDef f19x0 f19x1 f19x2 f19x3 f19x4 f19x5 f19x6 f19x7 f19x8 f19x9, .FunctionDef f20x0 f20x1 f20x2 f20x3 f20x4 f20x5 f20x6 f20x7 f20x8 f20x9, .FunctionDef f21x0 f21x1 f21x2 f21x3 f21x4 f21x5 f21x6 f21x7 f21x8 f21x9, .FunctionDef f22x0 f22x1 f22x2 f22x3 f22x4 f22x5 f22x6 f22x7 f22x8 f22x9] c16x4 c16x5 c16x6 c16x7 c16x8 c16x9 c16x10,
   y23,
   y24,
   y25,
   y26,
   y27,
   y28,
   .ClassDef c29x0 c29x1 c29x2 [.FunctionDef f30x0 f30x1 f30x2 f30x3 f30x4 f30x5 f30x6 f30x7 f30x8 f30x9] c29x4 c29x5 c29x6 c29x7 c29x8 c29x9 c29x10,
   .FunctionDef f31x0 f31x1 f31x2 f31x3 f31x4 f31x5 f31x6 f31x7 f31x8 f31x9,
   .FunctionDef f32x0 f32x1 f32x2 f32x3 f32x4 f32x5 f32x6 f32x7 f32x8 f32x9,
   .FunctionDef f33x0 f33x1 f33x2 f33x3 f33x4 f33x5 f33x6 f33x7 f33x8 f33x9,
   .FunctionDef f34x0 f34x1 f34x2 f34x3 f34x4 f34x5 f34x6 f34x7 f34x8 f34x9,
   .FunctionDef f35x0 f35x1 f35x2 f35x3 f35x4 f35x5 f35x6 f35x7 f35x8 f35x9,
   .FunctionDef f36x0 f36x1 f36x2 f36x3 f36x4 f36x5 f36x6 f36x7 f36x8 f36x9,
   .FunctionDef f37x0 f37x1 f37x2 f37x3 f37x4 f37x5 f37x6 f37x7 f37x8 f37x9,
   .FunctionDef f38x0 f38x1 f38x2 f38x3 f38x4 f38x5 f38x6 f38x7 f38x8 f38x9,
   y39,
   y40,
   y41,
   y42,
   y43,
   y44,
   .FunctionDef f45x0 f45x1 f45x2 f45x3 f45x4 f45x5 f45x6 f45x7 f45x8 f45x9,
   .FunctionDef f46x0 f46x1 f46x2 f46x3 f46x4 f46x5 f46x6 f46x7 f46x8 f46x9,
   .FunctionDef f47x0 f47x1 f47x2 f47x3 f47x4 f47x5 f47x6 f47x7 f47x8 f47x9,
   .FunctionDef f48x0 f48x1 f48x2 f48x3 f48x4 f48x5 f48x6 f48x7 f48x8 f48x9,
   .FunctionDef f49x0 f49x1 f49x2 f49x3 f49x4 f49x5 f49x6 f49x7 f49x8 f49x9,
   .FunctionDef f50x0 f50x1 f50x2 f50x3 f50x4 f50x5 f50x6 f50x7 f50x8 f50x9,
   .FunctionDef f51x0 f51x1 f51x2 f51x3 f51x4 f51x5 f51x6 f51x7 f51x8 f51x9,
   .FunctionDef f52x0 f52x1 f52x2 f52x3 f52x4 f52x5 f52x6 f52x7 f52x8 f52x9,
   .FunctionDef f53x0 f53x1 f53x2 f53x3 f53x4 f53x5 f53x6 f53x7 f53x8 f53x9,
   .FunctionDef f54x0 f54x1 f54x2 f54x3 f54x4 f54x5 f54x6 f54x7 f54x8 f54x9,
   .FunctionDef f55x0 f55x1 f55x2 f55x3 f55x4 f55x5 f55x6 f55x7 f55x8 f55x9,
   y56,
   .FunctionDef f57x0 f57x1 f57x2 f57x3 f57x4 f57x5 f57x6 f57x7 f57x8 f57x9,
   y58,
   .FunctionDef f59x0 f59x1 f59x2 f59x3 f59x4 f59x5 f59x6 f59x7 f59x8 f59x9,
   .FunctionDef f60x0 f60x1 f60x2 f60x3 f60x4 f60x5 f60x6 f60x7 f60x8 f60x9,
   .FunctionDef f61x0 f61x1 f61x2 f61x3 f61x4 f61x5 f61x6 f61x7 f61x8 f61x9,
   y62,
   .FunctionDef f63x0 f63x1 f63x2 f63x3 f63x4 f63x5 f63x6 f63x7 f63x8 f63x9,
   .FunctionDef f64x0 f64x1 f64x2 f64x3 f64x4 f64x5 f64x6 f64x7 f64x8 f64x9,
   .FunctionDef f65x0 f65x1 f65x2 f65x3 f65x4 f65x5 f65x6 f65x7 f65x8 f65x9,
   .FunctionDef f66x0 f66x1 f66x2 f66x3 f66x4 f66x5 f66x6 f66x7 f66x8 f66x9,
   .FunctionDef f67x0 f67x1 f67x2 f67x3 f67x4 f67x5 f67x6 f67x7 f67x8 f67x9,
   .FunctionDef f68x0 f68x1 f68x2 f68x3 f68x4 f68x5 f68x6 f68x7 f68x8 f68x9]) (nm : Value) (j3 j12 j : Nat) (P : Params) : Heap := ⟨⟨[
  PySem.W.boot_o_0 P,
  PySem.W.boot_o_1 P,
  ⟨.none, .none, .dict #[⟨PyData.keyHash P (.ofString "type.__subclasses__.Exception.0"), .str (.ofString "type.__subclasses__.Exception.0") 229, .int 38 0⟩, ⟨PyData.keyHash P (.ofString "type.__subclasses__.Exception.n"), .str (.ofString "type.__subclasses__.Exception.n") 230, .int 3 0⟩, ⟨PyData.keyHash P (.ofString "type.__subclasses__.Exception.1"), .str (.ofString "type.__subclasses__.Exception.1") 258, .int 58 0⟩, ⟨PyData.keyHash P (.ofString "type.__subclasses__.Exception.2"), .str (.ofString "type.__subclasses__.Exception.2") 287, .int 78 0⟩] 4, #[]⟩,
  ⟨.type "dict", .none, .dict (List.toArray (⟨PyData.keyHash P (.ofString "__name__"), .str (.ofString "__name__") 165, nm⟩ :: List.take j3 [⟨PyData.keyHash P (.ofString "__doc__"), .str (.ofString "__doc__") 166, .none⟩, ⟨PyData.keyHash P (.ofString "__package__"), .str (.ofString "__package__") 167, .none⟩, ⟨PyData.keyHash P (.ofString "__loader__"), .str (.ofString "__loader__") 168, .builtin "__main__.__loader__#opaque"⟩, ⟨PyData.keyHash P (.ofString "__spec__"), .str (.ofString "__spec__") 169, .none⟩, ⟨PyData.keyHash P (.ofString "__annotations__"), .str (.ofString "__annotations__") 170, .ref 6⟩, ⟨PyData.keyHash P (.ofString "__builtins__"), .str (.ofString "__builtins__") 171, .ref 4⟩, ⟨PyData.keyHash P (.ofString "__file__"), .str (.ofString "__file__") 173, .str (.ofString "/claim/cut.py") 172⟩, ⟨PyData.keyHash P (.ofString "__cached__"), .str (.ofString "__cached__") 174, .none⟩, ⟨PyData.keyHash P (.ofString "_wall"), .str (.ofString "_wall") 193, .ref 21⟩, ⟨PyData.keyHash P (.ofString "INTERNAL_ERROR"), .str (.ofString "INTERNAL_ERROR") 197, .int 1 196⟩, ⟨PyData.keyHash P (.ofString "PROTOCOL_VIOLATION"), .str (.ofString "PROTOCOL_VIOLATION") 199, .int 10 198⟩, ⟨PyData.keyHash P (.ofString "QuicError"), .str (.ofString "QuicError") 232, .ref 38⟩, ⟨PyData.keyHash P (.ofString "Short"), .str (.ofString "Short") 261, .ref 58⟩, ⟨PyData.keyHash P (.ofString "PacketRefused"), .str (.ofString "PacketRefused") 290, .ref 78⟩, ⟨PyData.keyHash P (.ofString "VARINT_SIZES"), .str (.ofString "VARINT_SIZES") 297, .ref 82⟩, ⟨PyData.keyHash P (.ofString "put_whole"), .str (.ofString "put_whole") 307, .ref 89⟩, ⟨PyData.keyHash P (.ofString "get_whole"), .str (.ofString "get_whole") 318, .ref 96⟩, ⟨PyData.keyHash P (.ofString "get_varint"), .str (.ofString "get_varint") 327, .ref 103⟩, ⟨PyData.keyHash P (.ofString "Reader"), .str (.ofString "Reader") 398, .ref 155⟩, ⟨PyData.keyHash P (.ofString "VERSION_ONE"), .str (.ofString "VERSION_ONE") 402, .int 1 401⟩, ⟨PyData.keyHash P (.ofString "VERSION_NONE"), .str (.ofString "VERSION_NONE") 404, .int 0 403⟩, ⟨PyData.keyHash P (.ofString "MOST_CID"), .str (.ofString "MOST_CID") 406, .int 20 405⟩, ⟨PyData.keyHash P (.ofString "RETRY_TAG"), .str (.ofString "RETRY_TAG") 408, .int 16 407⟩, ⟨PyData.keyHash P (.ofString "LONG_KINDS"), .str (.ofString "LONG_KINDS") 413, .ref 160⟩, ⟨PyData.keyHash P (.ofString "RawPacket"), .str (.ofString "RawPacket") 455, .ref 177⟩, ⟨PyData.keyHash P (.ofString "put_ids"), .str (.ofString "put_ids") 463, .ref 188⟩, ⟨PyData.keyHash P (.ofString "read_invariants"), .str (.ofString "read_invariants") 476, .ref 195⟩, ⟨PyData.keyHash P (.ofString "read_versions"), .str (.ofString "read_versions") 486, .ref 202⟩, ⟨PyData.keyHash P (.ofString "read_long"), .str (.ofString "read_long") 500, .ref 209⟩, ⟨PyData.keyHash P (.ofString "read_retry"), .str (.ofString "read_retry") 509, .ref 216⟩, ⟨PyData.keyHash P (.ofString "read_numbered"), .str (.ofString "read_numbered") 520, .ref 223⟩, ⟨PyData.keyHash P (.ofString "read_short"), .str (.ofString "read_short") 531, .ref 230⟩, ⟨PyData.keyHash P (.ofString "read_raw"), .str (.ofString "read_raw") 540, .ref 237⟩, ⟨PyData.keyHash P (.ofString "TAG_SIZE"), .str (.ofString "TAG_SIZE") 544, .int 16 543⟩, ⟨PyData.keyHash P (.ofString "SAMPLE_SIZE"), .str (.ofString "SAMPLE_SIZE") 546, .int 16 545⟩, ⟨PyData.keyHash P (.ofString "MASK_SIZE"), .str (.ofString "MASK_SIZE") 548, .int 5 547⟩, ⟨PyData.keyHash P (.ofString "MODULUS"), .str (.ofString "MODULUS") 554, .int 170141183460469231731687303715884105727 553⟩, ⟨PyData.keyHash P (.ofString "FACTOR"), .str (.ofString "FACTOR") 556, .int 6364136223846793005 555⟩, ⟨PyData.keyHash P (.ofString "mixed_octets"), .str (.ofString "mixed_octets") 566, .ref 244⟩, ⟨PyData.keyHash P (.ofString "turned_octets"), .str (.ofString "turned_octets") 578, .ref 251⟩, ⟨PyData.keyHash P (.ofString "tag_of"), .str (.ofString "tag_of") 589, .ref 258⟩, ⟨PyData.keyHash P (.ofString "seal_payload"), .str (.ofString "seal_payload") 600, .ref 265⟩, ⟨PyData.keyHash P (.ofString "open_sealed"), .str (.ofString "open_sealed") 611, .ref 272⟩, ⟨PyData.keyHash P (.ofString "head_mask"), .str (.ofString "head_mask") 619, .ref 279⟩, ⟨PyData.keyHash P (.ofString "turned_first"), .str (.ofString "turned_first") 627, .ref 286⟩, ⟨PyData.keyHash P (.ofString "turned_number"), .str (.ofString "turned_number") 633, .ref 291⟩, ⟨PyData.keyHash P (.ofString "sample_at"), .str (.ofString "sample_at") 642, .ref 298⟩, ⟨PyData.keyHash P (.ofString "protected_packet"), .str (.ofString "protected_packet") 657, .ref 305⟩, ⟨PyData.keyHash P (.ofString "bare_head"), .str (.ofString "bare_head") 673, .ref 312⟩, ⟨PyData.keyHash P (.ofString "restore_number"), .str (.ofString "restore_number") 688, .ref 319⟩, ⟨PyData.keyHash P (.ofString "reserved_bits"), .str (.ofString "reserved_bits") 697, .ref 326⟩, ⟨PyData.keyHash P (.ofString "open_packet"), .str (.ofString "open_packet") 712, .ref 333⟩, ⟨PyData.keyHash P (.ofString "opened"), .str (.ofString "opened") 722, .ref 340⟩, ⟨PyData.keyHash P (.ofString "_law_draws"), .str (.ofString "_law_draws") 730, .ref 345⟩, ⟨PyData.keyHash P (.ofString "_law_take"), .str (.ofString "_law_take") 738, .ref 352⟩, ⟨PyData.keyHash P (.ofString "_law_octets"), .str (.ofString "_law_octets") 744, .ref 357⟩, ⟨PyData.keyHash P (.ofString "_law_is_refused"), .str (.ofString "_law_is_refused") 752, .ref 364⟩, ⟨PyData.keyHash P (.ofString "_law_opened"), .str (.ofString "_law_opened") 763, .ref 371⟩, ⟨PyData.keyHash P (.ofString "law"), .str (.ofString "law") 787, .ref 378⟩])) (j3 + 1), #[]⟩,
  PySem.W.boot_o_4 P,
  PySem.W.boot_o_5 P,
  PySem.W.boot_o_6 P,
  PySem.W.boot_o_7 P,
  PySem.W.boot_o_8 P,
  PySem.W.boot_o_9 P,
  PySem.W.boot_o_10 P,
  ⟨.type "tuple", .none, .seq #[] 0, #[]⟩,
  ⟨.none, .none, .fields (List.toArray (List.take j12 [.int 1 0, .int 0 0, .ref 20, .int 7 0, .int 0 0, .ref 27, .int 14 0, .int 0 0, .ref 47, .int 19 0, .int 0 0, .ref 67, .int 26 0, .int 0 0, .ref 88, .int 34 0, .int 0 0, .ref 95, .int 41 0, .int 0 0, .ref 102, .int 47 0, .int 0 0, .ref 109, .int 79 0, .int 0 0, .ref 166, .int 93 0, .int 0 0, .ref 187, .int 95 0, .int 0 0, .ref 194, .int 102 0, .int 0 0, .ref 201, .int 110 0, .int 0 0, .ref 208, .int 127 0, .int 0 0, .ref 215, .int 132 0, .int 0 0, .ref 222, .int 145 0, .int 0 0, .ref 229, .int 153 0, .int 0 0, .ref 236, .int 161 0, .int 0 0, .ref 243, .int 166 0, .int 0 0, .ref 250, .int 172 0, .int 0 0, .ref 257, .int 175 0, .int 0 0, .ref 264, .int 178 0, .int 0 0, .ref 271, .int 185 0, .int 0 0, .ref 278, .int 187 0, .int 0 0, .ref 285, .int 189 0, .int 0 0, .ref 290, .int 191 0, .int 0 0, .ref 297, .int 195 0, .int 0 0, .ref 304, .int 201 0, .int 0 0, .ref 311, .int 211 0, .int 0 0, .ref 318, .int 222 0, .int 0 0, .ref 325, .int 224 0, .int 0 0, .ref 332, .int 236 0, .int 0 0, .ref 339, .int 243 0, .int 0 0, .ref 344, .int 248 0, .int 0 0, .ref 351, .int 253 0, .int 0 0, .ref 356, .int 255 0, .int 0 0, .ref 363, .int 261 0, .int 0 0, .ref 370, .int 266 0, .int 0 0, .ref 377])), #[]⟩] ++ List.take j [
  ⟨.type "code", .none, .fields #[.str (.ofString "<module>") 182, .str (.ofString "<module>") 183, .str (.ofString "/claim/cut.py") 184, .int 1 0, .int 0 0, .int 0 0, .int 0 0, .int 0 0, .ref 11, .bool false, .int 181 0, .ref 12, .none, .none, .none, .none, .int 185 0, .int 1 0, .str (.ofString "/claim/cut.py") 186], #[]⟩,
  ⟨.type "frame", .none, .plain, #[.some (.ref 13), .some (.ref 3), .some (.ref 3), .none, .some (.str (.ofString "__main__") 164), .none, .some (.ref 0)]⟩,
  ⟨.type "tuple", .none, .seq #[] 0, #[]⟩,
  ⟨.none, .none, .fields #[], #[]⟩,
  ⟨.type "tuple", .none, .seq #[.str (.ofString "k") 190] 0, #[]⟩,
  ⟨.type "tuple", .none, .seq #[] 0, #[]⟩,
  ⟨.none, .none, .func ⟨.ofString "_wall", .ofString "_wall", f0x1, .stmts f0x2, f0x6, 0, [], .none, .none, .none, .none, .none, .none, .none, 0⟩, #[]⟩,
  ⟨.type "code", .none, .fields #[.str (.ofString "_wall") 187, .str (.ofString "_wall") 188, .str (.ofString "/claim/cut.py") 189, .int 1 0, .int 1 0, .int 0 0, .int 0 0, .int 3 0, .ref 15, .bool true, .int 181 0, .ref 16, .none, .ref 17, .ref 18, .ref 19, .int 191 0, .int 1 0, .str (.ofString "/claim/cut.py") 192], #[]⟩,
  ⟨.type "function", .none, .func ⟨.ofString "_wall", .ofString "_wall", f0x1, .stmts f0x2, f0x6, 3, [], .none, .none, .none, .str (.ofString "__main__") 164, .none, .ref 20, .none, 0⟩, #[]⟩,
  ⟨.type "tuple", .none, .seq #[.type "Exception"] 0, #[]⟩,
  ⟨.type "builtin_function_or_method", .none, .fields #[.builtin "type.__prepare__", .type "type"], #[]⟩,
  ⟨.type "dict", .none, .dict #[⟨PyData.keyHash P (.ofString "__module__"), .str (.ofString "__module__") 207, .str (.ofString "quic.errors") 194⟩, ⟨PyData.keyHash P (.ofString "__qualname__"), .str (.ofString "__qualname__") 209, .str (.ofString "QuicError") 208⟩, ⟨PyData.keyHash P (.ofString "__firstlineno__"), .str (.ofString "__firstlineno__") 211, .int 7 210⟩, ⟨PyData.keyHash P (.ofString "__init__"), .str (.ofString "__init__") 221, .ref 35⟩, ⟨PyData.keyHash P (.ofString "__static_attributes__"), .str (.ofString "__static_attributes__") 225, .ref 36⟩] 5, #[]⟩,
  ⟨.type "tuple", .none, .seq #[] 0, #[]⟩,
  ⟨.none, .none, .fields #[.int 9 0, .int 4 0, .ref 34], #[]⟩,
  ⟨.type "code", .none, .fields #[.str (.ofString "QuicError") 202, .str (.ofString "QuicError") 203, .str (.ofString "/claim/cut.py") 204, .int 7 0, .int 0 0, .int 0 0, .int 0 0, .int 0 0, .ref 25, .bool false, .int 181 0, .ref 26, .none, .none, .none, .none, .int 205 0, .int 7 0, .str (.ofString "/claim/cut.py") 206], #[]⟩,
  ⟨.type "frame", .none, .plain, #[.some (.ref 27), .some (.ref 3), .some (.ref 24), .none, .some (.str (.ofString "quic.errors") 194), .none, .some (.ref 0)]⟩,
  ⟨.type "tuple", .none, .seq #[] 0, #[]⟩,
  ⟨.none, .none, .fields #[], #[]⟩,
  ⟨.type "tuple", .none, .seq #[.str (.ofString "self") 215, .str (.ofString "code") 216, .str (.ofString "frame_type") 217, .str (.ofString "text") 218] 0, #[]⟩,
  ⟨.type "tuple", .none, .seq #[] 0, #[]⟩,
  ⟨.none, .none, .func ⟨.ofString "__init__", .ofString "QuicError.__init__", f5x1, .stmts f5x2, f5x6, 0, [], .none, .none, .none, .none, .none, .none, .none, 0⟩, #[]⟩,
  ⟨.type "code", .none, .fields #[.str (.ofString "__init__") 212, .str (.ofString "QuicError.__init__") 213, .str (.ofString "/claim/cut.py") 214, .int 9 0, .int 4 0, .int 0 0, .int 0 0, .int 3 0, .ref 29, .bool true, .int 181 0, .ref 30, .none, .ref 31, .ref 32, .ref 33, .int 219 0, .int 9 0, .str (.ofString "/claim/cut.py") 220], #[]⟩,
  ⟨.type "function", .none, .func ⟨.ofString "__init__", .ofString "QuicError.__init__", f5x1, .stmts f5x2, f5x6, 3, [], .none, .none, .none, .str (.ofString "quic.errors") 194, .none, .ref 34, .none, 0⟩, #[]⟩,
  ⟨.type "tuple", .none, .seq #[.str (.ofString "code") 222, .str (.ofString "frame_type") 223, .str (.ofString "text") 224] 0, #[]⟩,
  ⟨.type "dict", .none, .dict #[⟨PyData.keyHash P (.ofString "__module__"), .str (.ofString "__module__") 207, .str (.ofString "quic.errors") 194⟩, ⟨PyData.keyHash P (.ofString "__firstlineno__"), .str (.ofString "__firstlineno__") 211, .int 7 210⟩, ⟨PyData.keyHash P (.ofString "__init__"), .str (.ofString "__init__") 221, .ref 35⟩, ⟨PyData.keyHash P (.ofString "__static_attributes__"), .str (.ofString "__static_attributes__") 225, .ref 36⟩, ⟨PyData.keyHash P (.ofString "__weakref__"), .str (.ofString "__weakref__") 227, .ref 39⟩, ⟨PyData.keyHash P (.ofString "__doc__"), .str (.ofString "__doc__") 228, .none⟩] 3, #[]⟩,
  ⟨.type "type", .none, .cls ⟨.ofString "QuicError", [.type "Exception"], [.ref 38, .type "Exception", .type "BaseException", .type "object"], 37, .ofString "QuicError", true, [], [], false, .none, false⟩, #[.some (.ref 22), .none, .some (.str (.ofString "QuicError") 200), .some (.str (.ofString "QuicError") 208), .some (.builtin "Exception.__new__"), .some (.bool true)]⟩,
  ⟨.type "getset_descriptor", .none, .fields #[.str (.ofString "__weakref__") 226, .ref 38, .builtin "ExceptionGroup.__weakref__", .none], #[]⟩,
  ⟨.type "super", .none, .fields #[.ref 38, .ref 38, .ref 38], #[]⟩,
  ⟨.type "builtin_function_or_method", .none, .fields #[.builtin "object.__init_subclass__", .ref 38], #[]⟩,
  ⟨.type "tuple", .none, .seq #[.type "Exception"] 0, #[]⟩,
  ⟨.type "builtin_function_or_method", .none, .fields #[.builtin "type.__prepare__", .type "type"], #[]⟩,
  ⟨.type "dict", .none, .dict #[⟨PyData.keyHash P (.ofString "__module__"), .str (.ofString "__module__") 240, .str (.ofString "quic.errors") 194⟩, ⟨PyData.keyHash P (.ofString "__qualname__"), .str (.ofString "__qualname__") 242, .str (.ofString "Short") 241⟩, ⟨PyData.keyHash P (.ofString "__firstlineno__"), .str (.ofString "__firstlineno__") 244, .int 14 243⟩, ⟨PyData.keyHash P (.ofString "__init__"), .str (.ofString "__init__") 252, .ref 55⟩, ⟨PyData.keyHash P (.ofString "__static_attributes__"), .str (.ofString "__static_attributes__") 254, .ref 56⟩] 5, #[]⟩,
  ⟨.type "tuple", .none, .seq #[] 0, #[]⟩,
  ⟨.none, .none, .fields #[.int 16 0, .int 4 0, .ref 54], #[]⟩,
  ⟨.type "code", .none, .fields #[.str (.ofString "Short") 235, .str (.ofString "Short") 236, .str (.ofString "/claim/cut.py") 237, .int 14 0, .int 0 0, .int 0 0, .int 0 0, .int 0 0, .ref 45, .bool false, .int 181 0, .ref 46, .none, .none, .none, .none, .int 238 0, .int 14 0, .str (.ofString "/claim/cut.py") 239], #[]⟩,
  ⟨.type "frame", .none, .plain, #[.some (.ref 47), .some (.ref 3), .some (.ref 44), .none, .some (.str (.ofString "quic.errors") 194), .none, .some (.ref 0)]⟩,
  ⟨.type "tuple", .none, .seq #[] 0, #[]⟩,
  ⟨.none, .none, .fields #[], #[]⟩,
  ⟨.type "tuple", .none, .seq #[.str (.ofString "self") 248, .str (.ofString "text") 249] 0, #[]⟩,
  ⟨.type "tuple", .none, .seq #[] 0, #[]⟩,
  ⟨.none, .none, .func ⟨.ofString "__init__", .ofString "Short.__init__", f7x1, .stmts f7x2, f9x6, 0, [], .none, .none, .none, .none, .none, .none, .none, 0⟩, #[]⟩,
  ⟨.type "code", .none, .fields #[.str (.ofString "__init__") 245, .str (.ofString "Short.__init__") 246, .str (.ofString "/claim/cut.py") 247, .int 16 0, .int 2 0, .int 0 0, .int 0 0, .int 3 0, .ref 49, .bool true, .int 181 0, .ref 50, .none, .ref 51, .ref 52, .ref 53, .int 250 0, .int 16 0, .str (.ofString "/claim/cut.py") 251], #[]⟩,
  ⟨.type "function", .none, .func ⟨.ofString "__init__", .ofString "Short.__init__", f7x1, .stmts f7x2, f9x6, 3, [], .none, .none, .none, .str (.ofString "quic.errors") 194, .none, .ref 54, .none, 0⟩, #[]⟩,
  ⟨.type "tuple", .none, .seq #[.str (.ofString "text") 253] 0, #[]⟩,
  ⟨.type "dict", .none, .dict #[⟨PyData.keyHash P (.ofString "__module__"), .str (.ofString "__module__") 240, .str (.ofString "quic.errors") 194⟩, ⟨PyData.keyHash P (.ofString "__firstlineno__"), .str (.ofString "__firstlineno__") 244, .int 14 243⟩, ⟨PyData.keyHash P (.ofString "__init__"), .str (.ofString "__init__") 252, .ref 55⟩, ⟨PyData.keyHash P (.ofString "__static_attributes__"), .str (.ofString "__static_attributes__") 254, .ref 56⟩, ⟨PyData.keyHash P (.ofString "__weakref__"), .str (.ofString "__weakref__") 256, .ref 59⟩, ⟨PyData.keyHash P (.ofString "__doc__"), .str (.ofString "__doc__") 257, .none⟩] 3, #[]⟩,
  ⟨.type "type", .none, .cls ⟨.ofString "Short", [.type "Exception"], [.ref 58, .type "Exception", .type "BaseException", .type "object"], 57, .ofString "Short", true, [], [], false, .none, false⟩, #[.some (.ref 42), .none, .some (.str (.ofString "Short") 233), .some (.str (.ofString "Short") 241), .some (.builtin "Exception.__new__"), .some (.bool true)]⟩,
  ⟨.type "getset_descriptor", .none, .fields #[.str (.ofString "__weakref__") 255, .ref 58, .builtin "ExceptionGroup.__weakref__", .none], #[]⟩,
  ⟨.type "super", .none, .fields #[.ref 58, .ref 58, .ref 58], #[]⟩,
  ⟨.type "builtin_function_or_method", .none, .fields #[.builtin "object.__init_subclass__", .ref 58], #[]⟩,
  ⟨.type "tuple", .none, .seq #[.type "Exception"] 0, #[]⟩,
  ⟨.type "builtin_function_or_method", .none, .fields #[.builtin "type.__prepare__", .type "type"], #[]⟩,
  ⟨.type "dict", .none, .dict #[⟨PyData.keyHash P (.ofString "__module__"), .str (.ofString "__module__") 269, .str (.ofString "quic.errors") 194⟩, ⟨PyData.keyHash P (.ofString "__qualname__"), .str (.ofString "__qualname__") 271, .str (.ofString "PacketRefused") 270⟩, ⟨PyData.keyHash P (.ofString "__firstlineno__"), .str (.ofString "__firstlineno__") 273, .int 19 272⟩, ⟨PyData.keyHash P (.ofString "__init__"), .str (.ofString "__init__") 281, .ref 75⟩, ⟨PyData.keyHash P (.ofString "__static_attributes__"), .str (.ofString "__static_attributes__") 283, .ref 76⟩] 5, #[]⟩,
  ⟨.type "tuple", .none, .seq #[] 0, #[]⟩,
  ⟨.none, .none, .fields #[.int 21 0, .int 4 0, .ref 74], #[]⟩,
  ⟨.type "code", .none, .fields #[.str (.ofString "PacketRefused") 264, .str (.ofString "PacketRefused") 265, .str (.ofString "/claim/cut.py") 266, .int 19 0, .int 0 0, .int 0 0, .int 0 0, .int 0 0, .ref 65, .bool false, .int 181 0, .ref 66, .none, .none, .none, .none, .int 267 0, .int 19 0, .str (.ofString "/claim/cut.py") 268], #[]⟩,
  ⟨.type "frame", .none, .plain, #[.some (.ref 67), .some (.ref 3), .some (.ref 64), .none, .some (.str (.ofString "quic.errors") 194), .none, .some (.ref 0)]⟩,
  ⟨.type "tuple", .none, .seq #[] 0, #[]⟩,
  ⟨.none, .none, .fields #[], #[]⟩,
  ⟨.type "tuple", .none, .seq #[.str (.ofString "self") 277, .str (.ofString "text") 278] 0, #[]⟩,
  ⟨.type "tuple", .none, .seq #[] 0, #[]⟩,
  ⟨.none, .none, .func ⟨.ofString "__init__", .ofString "PacketRefused.__init__", f9x1, .stmts f9x2, f9x6, 0, [], .none, .none, .none, .none, .none, .none, .none, 0⟩, #[]⟩,
  ⟨.type "code", .none, .fields #[.str (.ofString "__init__") 274, .str (.ofString "PacketRefused.__init__") 275, .str (.ofString "/claim/cut.py") 276, .int 21 0, .int 2 0, .int 0 0, .int 0 0, .int 3 0, .ref 69, .bool true, .int 181 0, .ref 70, .none, .ref 71, .ref 72, .ref 73, .int 279 0, .int 21 0, .str (.ofString "/claim/cut.py") 280], #[]⟩,
  ⟨.type "function", .none, .func ⟨.ofString "__init__", .ofString "PacketRefused.__init__", f9x1, .stmts f9x2, f9x6, 3, [], .none, .none, .none, .str (.ofString "quic.errors") 194, .none, .ref 74, .none, 0⟩, #[]⟩,
  ⟨.type "tuple", .none, .seq #[.str (.ofString "text") 282] 0, #[]⟩,
  ⟨.type "dict", .none, .dict #[⟨PyData.keyHash P (.ofString "__module__"), .str (.ofString "__module__") 269, .str (.ofString "quic.errors") 194⟩, ⟨PyData.keyHash P (.ofString "__firstlineno__"), .str (.ofString "__firstlineno__") 273, .int 19 272⟩, ⟨PyData.keyHash P (.ofString "__init__"), .str (.ofString "__init__") 281, .ref 75⟩, ⟨PyData.keyHash P (.ofString "__static_attributes__"), .str (.ofString "__static_attributes__") 283, .ref 76⟩, ⟨PyData.keyHash P (.ofString "__weakref__"), .str (.ofString "__weakref__") 285, .ref 79⟩, ⟨PyData.keyHash P (.ofString "__doc__"), .str (.ofString "__doc__") 286, .none⟩] 3, #[]⟩,
  ⟨.type "type", .none, .cls ⟨.ofString "PacketRefused", [.type "Exception"], [.ref 78, .type "Exception", .type "BaseException", .type "object"], 77, .ofString "PacketRefused", true, [], [], false, .none, false⟩, #[.some (.ref 62), .none, .some (.str (.ofString "PacketRefused") 262), .some (.str (.ofString "PacketRefused") 270), .some (.builtin "Exception.__new__"), .some (.bool true)]⟩,
  ⟨.type "getset_descriptor", .none, .fields #[.str (.ofString "__weakref__") 284, .ref 78, .builtin "ExceptionGroup.__weakref__", .none], #[]⟩,
  ⟨.type "super", .none, .fields #[.ref 78, .ref 78, .ref 78], #[]⟩,
  ⟨.type "builtin_function_or_method", .none, .fields #[.builtin "object.__init_subclass__", .ref 78], #[]⟩,
  ⟨.type "tuple", .none, .seq #[.int 1 293, .int 2 294, .int 4 295, .int 8 296] 0, #[]⟩,
  ⟨.type "tuple", .none, .seq #[] 0, #[]⟩,
  ⟨.none, .none, .fields #[], #[]⟩,
  ⟨.type "tuple", .none, .seq #[.str (.ofString "n") 301, .str (.ofString "size") 302, .str (.ofString "found") 303, .str (.ofString "place") 304] 0, #[]⟩,
  ⟨.type "tuple", .none, .seq #[] 0, #[]⟩,
  ⟨.none, .none, .func ⟨.ofString "put_whole", .ofString "put_whole", f12x1, .stmts f12x2, f12x6, 0, [], .none, .none, .none, .none, .none, .none, .none, 0⟩, #[]⟩,
  ⟨.type "code", .none, .fields #[.str (.ofString "put_whole") 298, .str (.ofString "put_whole") 299, .str (.ofString "/claim/cut.py") 300, .int 26 0, .int 2 0, .int 0 0, .int 0 0, .int 3 0, .ref 83, .bool true, .int 181 0, .ref 84, .none, .ref 85, .ref 86, .ref 87, .int 305 0, .int 26 0, .str (.ofString "/claim/cut.py") 306], #[]⟩,
  ⟨.type "function", .none, .func ⟨.ofString "put_whole", .ofString "put_whole", f12x1, .stmts f12x2, f12x6, 3, [], .none, .none, .none, .str (.ofString "quic.varint") 291, .none, .ref 88, .none, 0⟩, #[]⟩,
  ⟨.type "tuple", .none, .seq #[] 0, #[]⟩,
  ⟨.none, .none, .fields #[], #[]⟩,
  ⟨.type "tuple", .none, .seq #[.str (.ofString "data") 311, .str (.ofString "at") 312, .str (.ofString "size") 313, .str (.ofString "found") 314, .str (.ofString "octet") 315] 0, #[]⟩,
  ⟨.type "tuple", .none, .seq #[] 0, #[]⟩,
  ⟨.none, .none, .func ⟨.ofString "get_whole", .ofString "get_whole", f13x1, .stmts f13x2, f13x6, 0, [], .none, .none, .none, .none, .none, .none, .none, 0⟩, #[]⟩,
  ⟨.type "code", .none, .fields #[.str (.ofString "get_whole") 308, .str (.ofString "get_whole") 309, .str (.ofString "/claim/cut.py") 310, .int 34 0, .int 3 0, .int 0 0, .int 0 0, .int 3 0, .ref 90, .bool true, .int 181 0, .ref 91, .none, .ref 92, .ref 93, .ref 94, .int 316 0, .int 34 0, .str (.ofString "/claim/cut.py") 317], #[]⟩,
  ⟨.type "function", .none, .func ⟨.ofString "get_whole", .ofString "get_whole", f13x1, .stmts f13x2, f13x6, 3, [], .none, .none, .none, .str (.ofString "quic.varint") 291, .none, .ref 95, .none, 0⟩, #[]⟩,
  ⟨.type "tuple", .none, .seq #[] 0, #[]⟩,
  ⟨.none, .none, .fields #[], #[]⟩,
  ⟨.type "tuple", .none, .seq #[.str (.ofString "data") 322, .str (.ofString "at") 323, .str (.ofString "size") 324] 0, #[]⟩,
  ⟨.type "tuple", .none, .seq #[] 0, #[]⟩,
  ⟨.none, .none, .func ⟨.ofString "get_varint", .ofString "get_varint", f14x1, .stmts f14x2, f14x6, 0, [], .none, .none, .none, .none, .none, .none, .none, 0⟩, #[]⟩,
  ⟨.type "code", .none, .fields #[.str (.ofString "get_varint") 319, .str (.ofString "get_varint") 320, .str (.ofString "/claim/cut.py") 321, .int 41 0, .int 2 0, .int 0 0, .int 0 0, .int 3 0, .ref 97, .bool true, .int 181 0, .ref 98, .none, .ref 99, .ref 100, .ref 101, .int 325 0, .int 41 0, .str (.ofString "/claim/cut.py") 326], #[]⟩,
  ⟨.type "function", .none, .func ⟨.ofString "get_varint", .ofString "get_varint", f14x1, .stmts f14x2, f14x6, 3, [], .none, .none, .none, .str (.ofString "quic.varint") 291, .none, .ref 102, .none, 0⟩, #[]⟩,
  ⟨.type "tuple", .none, .seq #[] 0, #[]⟩,
  ⟨.type "builtin_function_or_method", .none, .fields #[.builtin "type.__prepare__", .type "type"], #[]⟩,
  ⟨.type "dict", .none, .dict #[⟨PyData.keyHash P (.ofString "__module__"), .str (.ofString "__module__") 337, .str (.ofString "quic.octets") 328⟩, ⟨PyData.keyHash P (.ofString "__qualname__"), .str (.ofString "__qualname__") 339, .str (.ofString "Reader") 338⟩, ⟨PyData.keyHash P (.ofString "__firstlineno__"), .str (.ofString "__firstlineno__") 341, .int 47 340⟩, ⟨PyData.keyHash P (.ofString "__init__"), .str (.ofString "__init__") 349, .ref 117⟩, ⟨PyData.keyHash P (.ofString "left"), .str (.ofString "left") 356, .ref 124⟩, ⟨PyData.keyHash P (.ofString "take"), .str (.ofString "take") 364, .ref 131⟩, ⟨PyData.keyHash P (.ofString "rest"), .str (.ofString "rest") 371, .ref 138⟩, ⟨PyData.keyHash P (.ofString "whole"), .str (.ofString "whole") 380, .ref 145⟩, ⟨PyData.keyHash P (.ofString "varint"), .str (.ofString "varint") 388, .ref 152⟩, ⟨PyData.keyHash P (.ofString "__static_attributes__"), .str (.ofString "__static_attributes__") 391, .ref 153⟩] 10, #[]⟩,
  ⟨.type "tuple", .none, .seq #[] 0, #[]⟩,
  ⟨.none, .none, .fields #[.int 49 0, .int 4 0, .ref 116, .int 53 0, .int 4 0, .ref 123, .int 56 0, .int 4 0, .ref 130, .int 62 0, .int 4 0, .ref 137, .int 65 0, .int 4 0, .ref 144, .int 70 0, .int 4 0, .ref 151], #[]⟩,
  ⟨.type "code", .none, .fields #[.str (.ofString "Reader") 332, .str (.ofString "Reader") 333, .str (.ofString "/claim/cut.py") 334, .int 47 0, .int 0 0, .int 0 0, .int 0 0, .int 0 0, .ref 107, .bool false, .int 181 0, .ref 108, .none, .none, .none, .none, .int 335 0, .int 47 0, .str (.ofString "/claim/cut.py") 336], #[]⟩,
  ⟨.type "frame", .none, .plain, #[.some (.ref 109), .some (.ref 3), .some (.ref 106), .none, .some (.str (.ofString "quic.octets") 328), .none, .some (.ref 0)]⟩,
  ⟨.type "tuple", .none, .seq #[] 0, #[]⟩,
  ⟨.none, .none, .fields #[], #[]⟩,
  ⟨.type "tuple", .none, .seq #[.str (.ofString "self") 345, .str (.ofString "data") 346] 0, #[]⟩,
  ⟨.type "tuple", .none, .seq #[] 0, #[]⟩,
  ⟨.none, .none, .func ⟨.ofString "__init__", .ofString "Reader.__init__", f17x1, .stmts f17x2, f17x6, 0, [], .none, .none, .none, .none, .none, .none, .none, 0⟩, #[]⟩,
  ⟨.type "code", .none, .fields #[.str (.ofString "__init__") 342, .str (.ofString "Reader.__init__") 343, .str (.ofString "/claim/cut.py") 344, .int 49 0, .int 2 0, .int 0 0, .int 0 0, .int 3 0, .ref 111, .bool true, .int 181 0, .ref 112, .none, .ref 113, .ref 114, .ref 115, .int 347 0, .int 49 0, .str (.ofString "/claim/cut.py") 348], #[]⟩,
  ⟨.type "function", .none, .func ⟨.ofString "__init__", .ofString "Reader.__init__", f17x1, .stmts f17x2, f17x6, 3, [], .none, .none, .none, .str (.ofString "quic.octets") 328, .none, .ref 116, .none, 0⟩, #[]⟩,
  ⟨.type "tuple", .none, .seq #[] 0, #[]⟩,
  ⟨.none, .none, .fields #[], #[]⟩,
  ⟨.type "tuple", .none, .seq #[.str (.ofString "self") 353] 0, #[]⟩,
  ⟨.type "tuple", .none, .seq #[] 0, #[]⟩,
  ⟨.none, .none, .func ⟨.ofString "left", .ofString "Reader.left", f18x1, .stmts f18x2, f18x6, 0, [], .none, .none, .none, .none, .none, .none, .none, 0⟩, #[]⟩,
  ⟨.type "code", .none, .fields #[.str (.ofString "left") 350, .str (.ofString "Reader.left") 351, .str (.ofString "/claim/cut.py") 352, .int 53 0, .int 1 0, .int 0 0, .int 0 0, .int 3 0, .ref 118, .bool true, .int 181 0, .ref 119, .none, .ref 120, .ref 121, .ref 122, .int 354 0, .int 53 0, .str (.ofString "/claim/cut.py") 355], #[]⟩,
  ⟨.type "function", .none, .func ⟨.ofString "left", .ofString "Reader.left", f18x1, .stmts f18x2, f18x6, 3, [], .none, .none, .none, .str (.ofString "quic.octets") 328, .none, .ref 123, .none, 0⟩, #[]⟩,
  ⟨.type "tuple", .none, .seq #[] 0, #[]⟩,
  ⟨.none, .none, .fields #[], #[]⟩,
  ⟨.type "tuple", .none, .seq #[.str (.ofString "self") 360, .str (.ofString "many") 361] 0, #[]⟩,
  ⟨.type "tuple", .none, .seq #[] 0, #[]⟩,
  ⟨.none, .none, .func ⟨.ofString "take", .ofString "Reader.take", f19x1, .stmts f19x2, f19x6, 0, [], .none, .none, .none, .none, .none, .none, .none, 0⟩, #[]⟩,
  ⟨.type "code", .none, .fields #[.str (.ofString "take") 357, .str (.ofString "Reader.take") 358, .str (.ofString "/claim/cut.py") 359, .int 56 0, .int 2 0, .int 0 0, .int 0 0, .int 3 0, .ref 125, .bool true, .int 181 0, .ref 126, .none, .ref 127, .ref 128, .ref 129, .int 362 0, .int 56 0, .str (.ofString "/claim/cut.py") 363], #[]⟩,
  ⟨.type "function", .none, .func ⟨.ofString "take", .ofString "Reader.take", f19x1, .stmts f19x2, f19x6, 3, [], .none, .none, .none, .str (.ofString "quic.octets") 328, .none, .ref 130, .none, 0⟩, #[]⟩,
  ⟨.type "tuple", .none, .seq #[] 0, #[]⟩,
  ⟨.none, .none, .fields #[], #[]⟩,
  ⟨.type "tuple", .none, .seq #[.str (.ofString "self") 368] 0, #[]⟩,
  ⟨.type "tuple", .none, .seq #[] 0, #[]⟩,
  ⟨.none, .none, .func ⟨.ofString "rest", .ofString "Reader.rest", f20x1, .stmts f20x2, f20x6, 0, [], .none, .none, .none, .none, .none, .none, .none, 0⟩, #[]⟩,
  ⟨.type "code", .none, .fields #[.str (.ofString "rest") 365, .str (.ofString "Reader.rest") 366, .str (.ofString "/claim/cut.py") 367, .int 62 0, .int 1 0, .int 0 0, .int 0 0, .int 3 0, .ref 132, .bool true, .int 181 0, .ref 133, .none, .ref 134, .ref 135, .ref 136, .int 369 0, .int 62 0, .str (.ofString "/claim/cut.py") 370], #[]⟩,
  ⟨.type "function", .none, .func ⟨.ofString "rest", .ofString "Reader.rest", f20x1, .stmts f20x2, f20x6, 3, [], .none, .none, .none, .str (.ofString "quic.octets") 328, .none, .ref 137, .none, 0⟩, #[]⟩,
  ⟨.type "tuple", .none, .seq #[] 0, #[]⟩,
  ⟨.none, .none, .fields #[], #[]⟩,
  ⟨.type "tuple", .none, .seq #[.str (.ofString "self") 375, .str (.ofString "size") 376, .str (.ofString "found") 377] 0, #[]⟩,
  ⟨.type "tuple", .none, .seq #[] 0, #[]⟩,
  ⟨.none, .none, .func ⟨.ofString "whole", .ofString "Reader.whole", f21x1, .stmts f21x2, f21x6, 0, [], .none, .none, .none, .none, .none, .none, .none, 0⟩, #[]⟩,
  ⟨.type "code", .none, .fields #[.str (.ofString "whole") 372, .str (.ofString "Reader.whole") 373, .str (.ofString "/claim/cut.py") 374, .int 65 0, .int 2 0, .int 0 0, .int 0 0, .int 3 0, .ref 139, .bool true, .int 181 0, .ref 140, .none, .ref 141, .ref 142, .ref 143, .int 378 0, .int 65 0, .str (.ofString "/claim/cut.py") 379], #[]⟩,
  ⟨.type "function", .none, .func ⟨.ofString "whole", .ofString "Reader.whole", f21x1, .stmts f21x2, f21x6, 3, [], .none, .none, .none, .str (.ofString "quic.octets") 328, .none, .ref 144, .none, 0⟩, #[]⟩,
  ⟨.type "tuple", .none, .seq #[] 0, #[]⟩,
  ⟨.none, .none, .fields #[], #[]⟩,
  ⟨.type "tuple", .none, .seq #[.str (.ofString "self") 384, .str (.ofString "found") 385] 0, #[]⟩,
  ⟨.type "tuple", .none, .seq #[] 0, #[]⟩,
  ⟨.none, .none, .func ⟨.ofString "varint", .ofString "Reader.varint", f22x1, .stmts f22x2, f22x6, 0, [], .none, .none, .none, .none, .none, .none, .none, 0⟩, #[]⟩,
  ⟨.type "code", .none, .fields #[.str (.ofString "varint") 381, .str (.ofString "Reader.varint") 382, .str (.ofString "/claim/cut.py") 383, .int 70 0, .int 1 0, .int 0 0, .int 0 0, .int 3 0, .ref 146, .bool true, .int 181 0, .ref 147, .none, .ref 148, .ref 149, .ref 150, .int 386 0, .int 70 0, .str (.ofString "/claim/cut.py") 387], #[]⟩,
  ⟨.type "function", .none, .func ⟨.ofString "varint", .ofString "Reader.varint", f22x1, .stmts f22x2, f22x6, 3, [], .none, .none, .none, .str (.ofString "quic.octets") 328, .none, .ref 151, .none, 0⟩, #[]⟩,
  ⟨.type "tuple", .none, .seq #[.str (.ofString "at") 389, .str (.ofString "data") 390] 0, #[]⟩,
  ⟨.type "dict", .none, .dict #[⟨PyData.keyHash P (.ofString "__module__"), .str (.ofString "__module__") 337, .str (.ofString "quic.octets") 328⟩, ⟨PyData.keyHash P (.ofString "__firstlineno__"), .str (.ofString "__firstlineno__") 341, .int 47 340⟩, ⟨PyData.keyHash P (.ofString "__init__"), .str (.ofString "__init__") 349, .ref 117⟩, ⟨PyData.keyHash P (.ofString "left"), .str (.ofString "left") 356, .ref 124⟩, ⟨PyData.keyHash P (.ofString "take"), .str (.ofString "take") 364, .ref 131⟩, ⟨PyData.keyHash P (.ofString "rest"), .str (.ofString "rest") 371, .ref 138⟩, ⟨PyData.keyHash P (.ofString "whole"), .str (.ofString "whole") 380, .ref 145⟩, ⟨PyData.keyHash P (.ofString "varint"), .str (.ofString "varint") 388, .ref 152⟩, ⟨PyData.keyHash P (.ofString "__static_attributes__"), .str (.ofString "__static_attributes__") 391, .ref 153⟩, ⟨PyData.keyHash P (.ofString "__dict__"), .str (.ofString "__dict__") 393, .ref 156⟩, ⟨PyData.keyHash P (.ofString "__weakref__"), .str (.ofString "__weakref__") 395, .ref 157⟩, ⟨PyData.keyHash P (.ofString "__doc__"), .str (.ofString "__doc__") 396, .none⟩] 4, #[]⟩,
  ⟨.type "type", .none, .cls ⟨.ofString "Reader", [.type "object"], [.ref 155, .type "object"], 154, .ofString "Reader", true, [], [], false, .none, false⟩, #[.none, .none, .some (.str (.ofString "Reader") 330), .some (.str (.ofString "Reader") 338), .some (.builtin "object.__new__"), .some (.bool true)]⟩,
  ⟨.type "getset_descriptor", .none, .fields #[.str (.ofString "__dict__") 392, .ref 155, .builtin "function.__dict__", .builtin "function.__dict__#set"], #[]⟩,
  ⟨.type "getset_descriptor", .none, .fields #[.str (.ofString "__weakref__") 394, .ref 155, .builtin "ExceptionGroup.__weakref__", .none], #[]⟩,
  ⟨.type "super", .none, .fields #[.ref 155, .ref 155, .ref 155], #[]⟩,
  ⟨.type "builtin_function_or_method", .none, .fields #[.builtin "object.__init_subclass__", .ref 155], #[]⟩,
  ⟨.type "list", .none, .seq #[.str (.ofString "initial") 409, .str (.ofString "zero") 410, .str (.ofString "handshake") 411, .str (.ofString "retry") 412] 0, #[]⟩,
  ⟨.type "tuple", .none, .seq #[] 0, #[]⟩,
  ⟨.type "builtin_function_or_method", .none, .fields #[.builtin "type.__prepare__", .type "type"], #[]⟩,
  ⟨.type "dict", .none, .dict #[⟨PyData.keyHash P (.ofString "__module__"), .str (.ofString "__module__") 421, .str (.ofString "quic.longheads") 399⟩, ⟨PyData.keyHash P (.ofString "__qualname__"), .str (.ofString "__qualname__") 423, .str (.ofString "RawPacket") 422⟩, ⟨PyData.keyHash P (.ofString "__firstlineno__"), .str (.ofString "__firstlineno__") 425, .int 79 424⟩, ⟨PyData.keyHash P (.ofString "__init__"), .str (.ofString "__init__") 436, .ref 174⟩, ⟨PyData.keyHash P (.ofString "__static_attributes__"), .str (.ofString "__static_attributes__") 448, .ref 175⟩] 5, #[]⟩,
  ⟨.type "tuple", .none, .seq #[] 0, #[]⟩,
  ⟨.none, .none, .fields #[.int 81 0, .int 4 0, .ref 173], #[]⟩,
  ⟨.type "code", .none, .fields #[.str (.ofString "RawPacket") 416, .str (.ofString "RawPacket") 417, .str (.ofString "/claim/cut.py") 418, .int 79 0, .int 0 0, .int 0 0, .int 0 0, .int 0 0, .ref 164, .bool false, .int 181 0, .ref 165, .none, .none, .none, .none, .int 419 0, .int 79 0, .str (.ofString "/claim/cut.py") 420], #[]⟩,
  ⟨.type "frame", .none, .plain, #[.some (.ref 166), .some (.ref 3), .some (.ref 163), .none, .some (.str (.ofString "quic.longheads") 399), .none, .some (.ref 0)]⟩,
  ⟨.type "tuple", .none, .seq #[] 0, #[]⟩,
  ⟨.none, .none, .fields #[], #[]⟩,
  ⟨.type "tuple", .none, .seq #[.str (.ofString "self") 429, .str (.ofString "kind") 430, .str (.ofString "first") 431, .str (.ofString "dcid") 432, .str (.ofString "start") 433] 0, #[]⟩,
  ⟨.type "tuple", .none, .seq #[] 0, #[]⟩,
  ⟨.none, .none, .func ⟨.ofString "__init__", .ofString "RawPacket.__init__", f30x1, .stmts f30x2, f30x6, 0, [], .none, .none, .none, .none, .none, .none, .none, 0⟩, #[]⟩,
  ⟨.type "code", .none, .fields #[.str (.ofString "__init__") 426, .str (.ofString "RawPacket.__init__") 427, .str (.ofString "/claim/cut.py") 428, .int 81 0, .int 5 0, .int 0 0, .int 0 0, .int 3 0, .ref 168, .bool true, .int 181 0, .ref 169, .none, .ref 170, .ref 171, .ref 172, .int 434 0, .int 81 0, .str (.ofString "/claim/cut.py") 435], #[]⟩,
  ⟨.type "function", .none, .func ⟨.ofString "__init__", .ofString "RawPacket.__init__", f30x1, .stmts f30x2, f30x6, 3, [], .none, .none, .none, .str (.ofString "quic.longheads") 399, .none, .ref 173, .none, 0⟩, #[]⟩,
  ⟨.type "tuple", .none, .seq #[.str (.ofString "dcid") 437, .str (.ofString "end") 438, .str (.ofString "first") 439, .str (.ofString "kind") 440, .str (.ofString "number_at") 441, .str (.ofString "scid") 442, .str (.ofString "start") 443, .str (.ofString "tag") 444, .str (.ofString "token") 445, .str (.ofString "version") 446, .str (.ofString "versions") 447] 0, #[]⟩,
  ⟨.type "dict", .none, .dict #[⟨PyData.keyHash P (.ofString "__module__"), .str (.ofString "__module__") 421, .str (.ofString "quic.longheads") 399⟩, ⟨PyData.keyHash P (.ofString "__firstlineno__"), .str (.ofString "__firstlineno__") 425, .int 79 424⟩, ⟨PyData.keyHash P (.ofString "__init__"), .str (.ofString "__init__") 436, .ref 174⟩, ⟨PyData.keyHash P (.ofString "__static_attributes__"), .str (.ofString "__static_attributes__") 448, .ref 175⟩, ⟨PyData.keyHash P (.ofString "__dict__"), .str (.ofString "__dict__") 450, .ref 178⟩, ⟨PyData.keyHash P (.ofString "__weakref__"), .str (.ofString "__weakref__") 452, .ref 179⟩, ⟨PyData.keyHash P (.ofString "__doc__"), .str (.ofString "__doc__") 453, .none⟩] 4, #[]⟩,
  ⟨.type "type", .none, .cls ⟨.ofString "RawPacket", [.type "object"], [.ref 177, .type "object"], 176, .ofString "RawPacket", true, [], [], false, .none, false⟩, #[.none, .none, .some (.str (.ofString "RawPacket") 414), .some (.str (.ofString "RawPacket") 422), .some (.builtin "object.__new__"), .some (.bool true)]⟩,
  ⟨.type "getset_descriptor", .none, .fields #[.str (.ofString "__dict__") 449, .ref 177, .builtin "function.__dict__", .builtin "function.__dict__#set"], #[]⟩,
  ⟨.type "getset_descriptor", .none, .fields #[.str (.ofString "__weakref__") 451, .ref 177, .builtin "ExceptionGroup.__weakref__", .none], #[]⟩,
  ⟨.type "super", .none, .fields #[.ref 177, .ref 177, .ref 177], #[]⟩,
  ⟨.type "builtin_function_or_method", .none, .fields #[.builtin "object.__init_subclass__", .ref 177], #[]⟩,
  ⟨.type "tuple", .none, .seq #[] 0, #[]⟩,
  ⟨.none, .none, .fields #[], #[]⟩,
  ⟨.type "tuple", .none, .seq #[.str (.ofString "dcid") 459, .str (.ofString "scid") 460] 0, #[]⟩,
  ⟨.type "tuple", .none, .seq #[] 0, #[]⟩,
  ⟨.none, .none, .func ⟨.ofString "put_ids", .ofString "put_ids", f31x1, .stmts f31x2, f31x6, 0, [], .none, .none, .none, .none, .none, .none, .none, 0⟩, #[]⟩,
  ⟨.type "code", .none, .fields #[.str (.ofString "put_ids") 456, .str (.ofString "put_ids") 457, .str (.ofString "/claim/cut.py") 458, .int 93 0, .int 2 0, .int 0 0, .int 0 0, .int 3 0, .ref 182, .bool true, .int 181 0, .ref 183, .none, .ref 184, .ref 185, .ref 186, .int 461 0, .int 93 0, .str (.ofString "/claim/cut.py") 462], #[]⟩,
  ⟨.type "function", .none, .func ⟨.ofString "put_ids", .ofString "put_ids", f31x1, .stmts f31x2, f31x6, 3, [], .none, .none, .none, .str (.ofString "quic.longheads") 399, .none, .ref 187, .none, 0⟩, #[]⟩,
  ⟨.type "tuple", .none, .seq #[] 0, #[]⟩,
  ⟨.none, .none, .fields #[], #[]⟩,
  ⟨.type "tuple", .none, .seq #[.str (.ofString "data") 467, .str (.ofString "start") 468, .str (.ofString "reader") 469, .str (.ofString "first") 470, .str (.ofString "version") 471, .str (.ofString "dcid") 472, .str (.ofString "scid") 473] 0, #[]⟩,
  ⟨.type "tuple", .none, .seq #[] 0, #[]⟩,
  ⟨.none, .none, .func ⟨.ofString "read_invariants", .ofString "read_invariants", f32x1, .stmts f32x2, f32x6, 0, [], .none, .none, .none, .none, .none, .none, .none, 0⟩, #[]⟩,
  ⟨.type "code", .none, .fields #[.str (.ofString "read_invariants") 464, .str (.ofString "read_invariants") 465, .str (.ofString "/claim/cut.py") 466, .int 95 0, .int 2 0, .int 0 0, .int 0 0, .int 3 0, .ref 189, .bool true, .int 181 0, .ref 190, .none, .ref 191, .ref 192, .ref 193, .int 474 0, .int 95 0, .str (.ofString "/claim/cut.py") 475], #[]⟩,
  ⟨.type "function", .none, .func ⟨.ofString "read_invariants", .ofString "read_invariants", f32x1, .stmts f32x2, f32x6, 3, [], .none, .none, .none, .str (.ofString "quic.longheads") 399, .none, .ref 194, .none, 0⟩, #[]⟩,
  ⟨.type "tuple", .none, .seq #[] 0, #[]⟩,
  ⟨.none, .none, .fields #[], #[]⟩,
  ⟨.type "tuple", .none, .seq #[.str (.ofString "data") 480, .str (.ofString "at") 481, .str (.ofString "reader") 482, .str (.ofString "found") 483] 0, #[]⟩,
  ⟨.type "tuple", .none, .seq #[] 0, #[]⟩,
  ⟨.none, .none, .func ⟨.ofString "read_versions", .ofString "read_versions", f33x1, .stmts f33x2, f33x6, 0, [], .none, .none, .none, .none, .none, .none, .none, 0⟩, #[]⟩,
  ⟨.type "code", .none, .fields #[.str (.ofString "read_versions") 477, .str (.ofString "read_versions") 478, .str (.ofString "/claim/cut.py") 479, .int 102 0, .int 2 0, .int 0 0, .int 0 0, .int 3 0, .ref 196, .bool true, .int 181 0, .ref 197, .none, .ref 198, .ref 199, .ref 200, .int 484 0, .int 102 0, .str (.ofString "/claim/cut.py") 485], #[]⟩,
  ⟨.type "function", .none, .func ⟨.ofString "read_versions", .ofString "read_versions", f33x1, .stmts f33x2, f33x6, 3, [], .none, .none, .none, .str (.ofString "quic.longheads") 399, .none, .ref 201, .none, 0⟩, #[]⟩,
  ⟨.type "tuple", .none, .seq #[] 0, #[]⟩,
  ⟨.none, .none, .fields #[], #[]⟩,
  ⟨.type "tuple", .none, .seq #[.str (.ofString "data") 490, .str (.ofString "start") 491, .str (.ofString "first") 492, .str (.ofString "version") 493, .str (.ofString "dcid") 494, .str (.ofString "scid") 495, .str (.ofString "at") 496, .str (.ofString "raw") 497] 0, #[]⟩,
  ⟨.type "tuple", .none, .seq #[] 0, #[]⟩,
  ⟨.none, .none, .func ⟨.ofString "read_long", .ofString "read_long", f34x1, .stmts f34x2, f34x6, 0, [], .none, .none, .none, .none, .none, .none, .none, 0⟩, #[]⟩,
  ⟨.type "code", .none, .fields #[.str (.ofString "read_long") 487, .str (.ofString "read_long") 488, .str (.ofString "/claim/cut.py") 489, .int 110 0, .int 2 0, .int 0 0, .int 0 0, .int 3 0, .ref 203, .bool true, .int 181 0, .ref 204, .none, .ref 205, .ref 206, .ref 207, .int 498 0, .int 110 0, .str (.ofString "/claim/cut.py") 499], #[]⟩,
  ⟨.type "function", .none, .func ⟨.ofString "read_long", .ofString "read_long", f34x1, .stmts f34x2, f34x6, 3, [], .none, .none, .none, .str (.ofString "quic.longheads") 399, .none, .ref 208, .none, 0⟩, #[]⟩,
  ⟨.type "tuple", .none, .seq #[] 0, #[]⟩,
  ⟨.none, .none, .fields #[], #[]⟩,
  ⟨.type "tuple", .none, .seq #[.str (.ofString "data") 504, .str (.ofString "at") 505, .str (.ofString "raw") 506] 0, #[]⟩,
  ⟨.type "tuple", .none, .seq #[] 0, #[]⟩,
  ⟨.none, .none, .func ⟨.ofString "read_retry", .ofString "read_retry", f35x1, .stmts f35x2, f35x6, 0, [], .none, .none, .none, .none, .none, .none, .none, 0⟩, #[]⟩,
  ⟨.type "code", .none, .fields #[.str (.ofString "read_retry") 501, .str (.ofString "read_retry") 502, .str (.ofString "/claim/cut.py") 503, .int 127 0, .int 3 0, .int 0 0, .int 0 0, .int 3 0, .ref 210, .bool true, .int 181 0, .ref 211, .none, .ref 212, .ref 213, .ref 214, .int 507 0, .int 127 0, .str (.ofString "/claim/cut.py") 508], #[]⟩,
  ⟨.type "function", .none, .func ⟨.ofString "read_retry", .ofString "read_retry", f35x1, .stmts f35x2, f35x6, 3, [], .none, .none, .none, .str (.ofString "quic.longheads") 399, .none, .ref 215, .none, 0⟩, #[]⟩,
  ⟨.type "tuple", .none, .seq #[] 0, #[]⟩,
  ⟨.none, .none, .fields #[], #[]⟩,
  ⟨.type "tuple", .none, .seq #[.str (.ofString "data") 513, .str (.ofString "at") 514, .str (.ofString "raw") 515, .str (.ofString "reader") 516, .str (.ofString "size") 517] 0, #[]⟩,
  ⟨.type "tuple", .none, .seq #[] 0, #[]⟩,
  ⟨.none, .none, .func ⟨.ofString "read_numbered", .ofString "read_numbered", f36x1, .stmts f36x2, f36x6, 0, [], .none, .none, .none, .none, .none, .none, .none, 0⟩, #[]⟩,
  ⟨.type "code", .none, .fields #[.str (.ofString "read_numbered") 510, .str (.ofString "read_numbered") 511, .str (.ofString "/claim/cut.py") 512, .int 132 0, .int 3 0, .int 0 0, .int 0 0, .int 3 0, .ref 217, .bool true, .int 181 0, .ref 218, .none, .ref 219, .ref 220, .ref 221, .int 518 0, .int 132 0, .str (.ofString "/claim/cut.py") 519], #[]⟩,
  ⟨.type "function", .none, .func ⟨.ofString "read_numbered", .ofString "read_numbered", f36x1, .stmts f36x2, f36x6, 3, [], .none, .none, .none, .str (.ofString "quic.longheads") 399, .none, .ref 222, .none, 0⟩, #[]⟩,
  ⟨.type "tuple", .none, .seq #[] 0, #[]⟩,
  ⟨.none, .none, .fields #[], #[]⟩,
  ⟨.type "tuple", .none, .seq #[.str (.ofString "data") 524, .str (.ofString "start") 525, .str (.ofString "cid_size") 526, .str (.ofString "first") 527, .str (.ofString "raw") 528] 0, #[]⟩,
  ⟨.type "tuple", .none, .seq #[] 0, #[]⟩,
  ⟨.none, .none, .func ⟨.ofString "read_short", .ofString "read_short", f37x1, .stmts f37x2, f37x6, 0, [], .none, .none, .none, .none, .none, .none, .none, 0⟩, #[]⟩,
  ⟨.type "code", .none, .fields #[.str (.ofString "read_short") 521, .str (.ofString "read_short") 522, .str (.ofString "/claim/cut.py") 523, .int 145 0, .int 3 0, .int 0 0, .int 0 0, .int 3 0, .ref 224, .bool true, .int 181 0, .ref 225, .none, .ref 226, .ref 227, .ref 228, .int 529 0, .int 145 0, .str (.ofString "/claim/cut.py") 530], #[]⟩,
  ⟨.type "function", .none, .func ⟨.ofString "read_short", .ofString "read_short", f37x1, .stmts f37x2, f37x6, 3, [], .none, .none, .none, .str (.ofString "quic.longheads") 399, .none, .ref 229, .none, 0⟩, #[]⟩,
  ⟨.type "tuple", .none, .seq #[] 0, #[]⟩,
  ⟨.none, .none, .fields #[], #[]⟩,
  ⟨.type "tuple", .none, .seq #[.str (.ofString "data") 535, .str (.ofString "start") 536, .str (.ofString "cid_size") 537] 0, #[]⟩,
  ⟨.type "tuple", .none, .seq #[] 0, #[]⟩,
  ⟨.none, .none, .func ⟨.ofString "read_raw", .ofString "read_raw", f38x1, .stmts f38x2, f38x6, 0, [], .none, .none, .none, .none, .none, .none, .none, 0⟩, #[]⟩,
  ⟨.type "code", .none, .fields #[.str (.ofString "read_raw") 532, .str (.ofString "read_raw") 533, .str (.ofString "/claim/cut.py") 534, .int 153 0, .int 3 0, .int 0 0, .int 0 0, .int 3 0, .ref 231, .bool true, .int 181 0, .ref 232, .none, .ref 233, .ref 234, .ref 235, .int 538 0, .int 153 0, .str (.ofString "/claim/cut.py") 539], #[]⟩,
  ⟨.type "function", .none, .func ⟨.ofString "read_raw", .ofString "read_raw", f38x1, .stmts f38x2, f38x6, 3, [], .none, .none, .none, .str (.ofString "quic.longheads") 399, .none, .ref 236, .none, 0⟩, #[]⟩,
  ⟨.type "tuple", .none, .seq #[] 0, #[]⟩,
  ⟨.none, .none, .fields #[], #[]⟩,
  ⟨.type "tuple", .none, .seq #[.str (.ofString "start") 560, .str (.ofString "data") 561, .str (.ofString "found") 562, .str (.ofString "octet") 563] 0, #[]⟩,
  ⟨.type "tuple", .none, .seq #[] 0, #[]⟩,
  ⟨.none, .none, .func ⟨.ofString "mixed_octets", .ofString "mixed_octets", f45x1, .stmts f45x2, f45x6, 0, [], .none, .none, .none, .none, .none, .none, .none, 0⟩, #[]⟩,
  ⟨.type "code", .none, .fields #[.str (.ofString "mixed_octets") 557, .str (.ofString "mixed_octets") 558, .str (.ofString "/claim/cut.py") 559, .int 161 0, .int 2 0, .int 0 0, .int 0 0, .int 3 0, .ref 238, .bool true, .int 181 0, .ref 239, .none, .ref 240, .ref 241, .ref 242, .int 564 0, .int 161 0, .str (.ofString "/claim/cut.py") 565], #[]⟩,
  ⟨.type "function", .none, .func ⟨.ofString "mixed_octets", .ofString "mixed_octets", f45x1, .stmts f45x2, f45x6, 3, [], .none, .none, .none, .str (.ofString "quic.seal") 541, .none, .ref 243, .none, 0⟩, #[]⟩,
  ⟨.type "tuple", .none, .seq #[] 0, #[]⟩,
  ⟨.none, .none, .fields #[], #[]⟩,
  ⟨.type "tuple", .none, .seq #[.str (.ofString "key") 570, .str (.ofString "number") 571, .str (.ofString "data") 572, .str (.ofString "state") 573, .str (.ofString "found") 574, .str (.ofString "octet") 575] 0, #[]⟩,
  ⟨.type "tuple", .none, .seq #[] 0, #[]⟩,
  ⟨.none, .none, .func ⟨.ofString "turned_octets", .ofString "turned_octets", f46x1, .stmts f46x2, f46x6, 0, [], .none, .none, .none, .none, .none, .none, .none, 0⟩, #[]⟩,
  ⟨.type "code", .none, .fields #[.str (.ofString "turned_octets") 567, .str (.ofString "turned_octets") 568, .str (.ofString "/claim/cut.py") 569, .int 166 0, .int 3 0, .int 0 0, .int 0 0, .int 3 0, .ref 245, .bool true, .int 181 0, .ref 246, .none, .ref 247, .ref 248, .ref 249, .int 576 0, .int 166 0, .str (.ofString "/claim/cut.py") 577], #[]⟩,
  ⟨.type "function", .none, .func ⟨.ofString "turned_octets", .ofString "turned_octets", f46x1, .stmts f46x2, f46x6, 3, [], .none, .none, .none, .str (.ofString "quic.seal") 541, .none, .ref 250, .none, 0⟩, #[]⟩,
  ⟨.type "tuple", .none, .seq #[] 0, #[]⟩,
  ⟨.none, .none, .fields #[], #[]⟩,
  ⟨.type "tuple", .none, .seq #[.str (.ofString "key") 582, .str (.ofString "number") 583, .str (.ofString "head") 584, .str (.ofString "body") 585, .str (.ofString "state") 586] 0, #[]⟩,
  ⟨.type "tuple", .none, .seq #[] 0, #[]⟩,
  ⟨.none, .none, .func ⟨.ofString "tag_of", .ofString "tag_of", f47x1, .stmts f47x2, f47x6, 0, [], .none, .none, .none, .none, .none, .none, .none, 0⟩, #[]⟩,
  ⟨.type "code", .none, .fields #[.str (.ofString "tag_of") 579, .str (.ofString "tag_of") 580, .str (.ofString "/claim/cut.py") 581, .int 172 0, .int 4 0, .int 0 0, .int 0 0, .int 3 0, .ref 252, .bool true, .int 181 0, .ref 253, .none, .ref 254, .ref 255, .ref 256, .int 587 0, .int 172 0, .str (.ofString "/claim/cut.py") 588], #[]⟩,
  ⟨.type "function", .none, .func ⟨.ofString "tag_of", .ofString "tag_of", f47x1, .stmts f47x2, f47x6, 3, [], .none, .none, .none, .str (.ofString "quic.seal") 541, .none, .ref 257, .none, 0⟩, #[]⟩,
  ⟨.type "tuple", .none, .seq #[] 0, #[]⟩,
  ⟨.none, .none, .fields #[], #[]⟩,
  ⟨.type "tuple", .none, .seq #[.str (.ofString "key") 593, .str (.ofString "number") 594, .str (.ofString "head") 595, .str (.ofString "payload") 596, .str (.ofString "body") 597] 0, #[]⟩,
  ⟨.type "tuple", .none, .seq #[] 0, #[]⟩,
  ⟨.none, .none, .func ⟨.ofString "seal_payload", .ofString "seal_payload", f48x1, .stmts f48x2, f48x6, 0, [], .none, .none, .none, .none, .none, .none, .none, 0⟩, #[]⟩,
  ⟨.type "code", .none, .fields #[.str (.ofString "seal_payload") 590, .str (.ofString "seal_payload") 591, .str (.ofString "/claim/cut.py") 592, .int 175 0, .int 4 0, .int 0 0, .int 0 0, .int 3 0, .ref 259, .bool true, .int 181 0, .ref 260, .none, .ref 261, .ref 262, .ref 263, .int 598 0, .int 175 0, .str (.ofString "/claim/cut.py") 599], #[]⟩,
  ⟨.type "function", .none, .func ⟨.ofString "seal_payload", .ofString "seal_payload", f48x1, .stmts f48x2, f48x6, 3, [], .none, .none, .none, .str (.ofString "quic.seal") 541, .none, .ref 264, .none, 0⟩, #[]⟩,
  ⟨.type "tuple", .none, .seq #[] 0, #[]⟩,
  ⟨.none, .none, .fields #[], #[]⟩,
  ⟨.type "tuple", .none, .seq #[.str (.ofString "key") 604, .str (.ofString "number") 605, .str (.ofString "head") 606, .str (.ofString "sealed") 607, .str (.ofString "body") 608] 0, #[]⟩,
  ⟨.type "tuple", .none, .seq #[] 0, #[]⟩,
  ⟨.none, .none, .func ⟨.ofString "open_sealed", .ofString "open_sealed", f49x1, .stmts f49x2, f49x6, 0, [], .none, .none, .none, .none, .none, .none, .none, 0⟩, #[]⟩,
  ⟨.type "code", .none, .fields #[.str (.ofString "open_sealed") 601, .str (.ofString "open_sealed") 602, .str (.ofString "/claim/cut.py") 603, .int 178 0, .int 4 0, .int 0 0, .int 0 0, .int 3 0, .ref 266, .bool true, .int 181 0, .ref 267, .none, .ref 268, .ref 269, .ref 270, .int 609 0, .int 178 0, .str (.ofString "/claim/cut.py") 610], #[]⟩,
  ⟨.type "function", .none, .func ⟨.ofString "open_sealed", .ofString "open_sealed", f49x1, .stmts f49x2, f49x6, 3, [], .none, .none, .none, .str (.ofString "quic.seal") 541, .none, .ref 271, .none, 0⟩, #[]⟩,
  ⟨.type "tuple", .none, .seq #[] 0, #[]⟩,
  ⟨.none, .none, .fields #[], #[]⟩,
  ⟨.type "tuple", .none, .seq #[.str (.ofString "key") 615, .str (.ofString "sample") 616] 0, #[]⟩,
  ⟨.type "tuple", .none, .seq #[] 0, #[]⟩,
  ⟨.none, .none, .func ⟨.ofString "head_mask", .ofString "head_mask", f50x1, .stmts f50x2, f50x6, 0, [], .none, .none, .none, .none, .none, .none, .none, 0⟩, #[]⟩,
  ⟨.type "code", .none, .fields #[.str (.ofString "head_mask") 612, .str (.ofString "head_mask") 613, .str (.ofString "/claim/cut.py") 614, .int 185 0, .int 2 0, .int 0 0, .int 0 0, .int 3 0, .ref 273, .bool true, .int 181 0, .ref 274, .none, .ref 275, .ref 276, .ref 277, .int 617 0, .int 185 0, .str (.ofString "/claim/cut.py") 618], #[]⟩,
  ⟨.type "function", .none, .func ⟨.ofString "head_mask", .ofString "head_mask", f50x1, .stmts f50x2, f50x6, 3, [], .none, .none, .none, .str (.ofString "quic.seal") 541, .none, .ref 278, .none, 0⟩, #[]⟩,
  ⟨.type "tuple", .none, .seq #[] 0, #[]⟩,
  ⟨.none, .none, .fields #[], #[]⟩,
  ⟨.type "tuple", .none, .seq #[.str (.ofString "first") 623, .str (.ofString "mask") 624] 0, #[]⟩,
  ⟨.type "tuple", .none, .seq #[] 0, #[]⟩,
  ⟨.none, .none, .func ⟨.ofString "turned_first", .ofString "turned_first", f51x1, .stmts f51x2, f51x6, 0, [], .none, .none, .none, .none, .none, .none, .none, 0⟩, #[]⟩,
  ⟨.type "code", .none, .fields #[.str (.ofString "turned_first") 620, .str (.ofString "turned_first") 621, .str (.ofString "/claim/cut.py") 622, .int 187 0, .int 2 0, .int 0 0, .int 0 0, .int 3 0, .ref 280, .bool true, .int 181 0, .ref 281, .none, .ref 282, .ref 283, .ref 284, .int 625 0, .int 187 0, .str (.ofString "/claim/cut.py") 626], #[]⟩,
  ⟨.type "function", .none, .func ⟨.ofString "turned_first", .ofString "turned_first", f51x1, .stmts f51x2, f51x6, 3, [], .none, .none, .none, .str (.ofString "quic.seal") 541, .none, .ref 285, .none, 0⟩, #[]⟩,
  ⟨.type "tuple", .none, .seq #[] 0, #[]⟩,
  ⟨.none, .none, .fields #[], #[]⟩,
  ⟨.none, .none, .func ⟨.ofString "turned_number", .ofString "turned_number", f52x1, .stmts f52x2, f52x6, 0, [], .none, .none, .none, .none, .none, .none, .none, 0⟩, #[]⟩,
  ⟨.type "code", .none, .fields #[.str (.ofString "turned_number") 628, .str (.ofString "turned_number") 629, .str (.ofString "/claim/cut.py") 630, .int 189 0, .int 2 0, .int 0 0, .int 0 0, .int 3 0, .ref 287, .bool true, .int 181 0, .ref 288, .none, .none, .none, .ref 289, .int 631 0, .int 189 0, .str (.ofString "/claim/cut.py") 632], #[]⟩,
  ⟨.type "function", .none, .func ⟨.ofString "turned_number", .ofString "turned_number", f52x1, .stmts f52x2, f52x6, 3, [], .none, .none, .none, .str (.ofString "quic.seal") 541, .none, .ref 290, .none, 0⟩, #[]⟩,
  ⟨.type "tuple", .none, .seq #[] 0, #[]⟩,
  ⟨.none, .none, .fields #[], #[]⟩,
  ⟨.type "tuple", .none, .seq #[.str (.ofString "data") 637, .str (.ofString "number_at") 638, .str (.ofString "end") 639] 0, #[]⟩,
  ⟨.type "tuple", .none, .seq #[] 0, #[]⟩,
  ⟨.none, .none, .func ⟨.ofString "sample_at", .ofString "sample_at", f53x1, .stmts f53x2, f53x6, 0, [], .none, .none, .none, .none, .none, .none, .none, 0⟩, #[]⟩,
  ⟨.type "code", .none, .fields #[.str (.ofString "sample_at") 634, .str (.ofString "sample_at") 635, .str (.ofString "/claim/cut.py") 636, .int 191 0, .int 3 0, .int 0 0, .int 0 0, .int 3 0, .ref 292, .bool true, .int 181 0, .ref 293, .none, .ref 294, .ref 295, .ref 296, .int 640 0, .int 191 0, .str (.ofString "/claim/cut.py") 641], #[]⟩,
  ⟨.type "function", .none, .func ⟨.ofString "sample_at", .ofString "sample_at", f53x1, .stmts f53x2, f53x6, 3, [], .none, .none, .none, .str (.ofString "quic.seal") 541, .none, .ref 297, .none, 0⟩, #[]⟩,
  ⟨.type "tuple", .none, .seq #[] 0, #[]⟩,
  ⟨.none, .none, .fields #[], #[]⟩,
  ⟨.type "tuple", .none, .seq #[.str (.ofString "key") 646, .str (.ofString "number") 647, .str (.ofString "head") 648, .str (.ofString "cut") 649, .str (.ofString "payload") 650, .str (.ofString "whole_head") 651, .str (.ofString "sealed") 652, .str (.ofString "data") 653, .str (.ofString "mask") 654] 0, #[]⟩,
  ⟨.type "tuple", .none, .seq #[] 0, #[]⟩,
  ⟨.none, .none, .func ⟨.ofString "protected_packet", .ofString "protected_packet", f54x1, .stmts f54x2, f54x6, 0, [], .none, .none, .none, .none, .none, .none, .none, 0⟩, #[]⟩,
  ⟨.type "code", .none, .fields #[.str (.ofString "protected_packet") 643, .str (.ofString "protected_packet") 644, .str (.ofString "/claim/cut.py") 645, .int 195 0, .int 5 0, .int 0 0, .int 0 0, .int 3 0, .ref 299, .bool true, .int 181 0, .ref 300, .none, .ref 301, .ref 302, .ref 303, .int 655 0, .int 195 0, .str (.ofString "/claim/cut.py") 656], #[]⟩,
  ⟨.type "function", .none, .func ⟨.ofString "protected_packet", .ofString "protected_packet", f54x1, .stmts f54x2, f54x6, 3, [], .none, .none, .none, .str (.ofString "quic.seal") 541, .none, .ref 304, .none, 0⟩, #[]⟩,
  ⟨.type "tuple", .none, .seq #[] 0, #[]⟩,
  ⟨.none, .none, .fields #[], #[]⟩,
  ⟨.type "tuple", .none, .seq #[.str (.ofString "key") 661, .str (.ofString "data") 662, .str (.ofString "start") 663, .str (.ofString "number_at") 664, .str (.ofString "end") 665, .str (.ofString "sample") 666, .str (.ofString "mask") 667, .str (.ofString "first") 668, .str (.ofString "size") 669, .str (.ofString "head") 670] 0, #[]⟩,
  ⟨.type "tuple", .none, .seq #[] 0, #[]⟩,
  ⟨.none, .none, .func ⟨.ofString "bare_head", .ofString "bare_head", f55x1, .stmts f55x2, f55x6, 0, [], .none, .none, .none, .none, .none, .none, .none, 0⟩, #[]⟩,
  ⟨.type "code", .none, .fields #[.str (.ofString "bare_head") 658, .str (.ofString "bare_head") 659, .str (.ofString "/claim/cut.py") 660, .int 201 0, .int 5 0, .int 0 0, .int 0 0, .int 3 0, .ref 306, .bool true, .int 181 0, .ref 307, .none, .ref 308, .ref 309, .ref 310, .int 671 0, .int 201 0, .str (.ofString "/claim/cut.py") 672], #[]⟩,
  ⟨.type "function", .none, .func ⟨.ofString "bare_head", .ofString "bare_head", f55x1, .stmts f55x2, f55x6, 3, [], .none, .none, .none, .str (.ofString "quic.seal") 541, .none, .ref 311, .none, 0⟩, #[]⟩,
  ⟨.type "tuple", .none, .seq #[] 0, #[]⟩,
  ⟨.none, .none, .fields #[], #[]⟩,
  ⟨.type "tuple", .none, .seq #[.str (.ofString "truncated") 679, .str (.ofString "size") 680, .str (.ofString "largest_seen") 681, .str (.ofString "expected") 682, .str (.ofString "window") 683, .str (.ofString "half") 684, .str (.ofString "found") 685] 0, #[]⟩,
  ⟨.type "tuple", .none, .seq #[] 0, #[]⟩,
  ⟨.none, .none, .func ⟨.ofString "restore_number", .ofString "restore_number", f57x1, .stmts f57x2, f57x6, 0, [], .none, .none, .none, .none, .none, .none, .none, 0⟩, #[]⟩,
  ⟨.type "code", .none, .fields #[.str (.ofString "restore_number") 676, .str (.ofString "restore_number") 677, .str (.ofString "/claim/cut.py") 678, .int 211 0, .int 3 0, .int 0 0, .int 0 0, .int 3 0, .ref 313, .bool true, .int 181 0, .ref 314, .none, .ref 315, .ref 316, .ref 317, .int 686 0, .int 211 0, .str (.ofString "/claim/cut.py") 687], #[]⟩,
  ⟨.type "function", .none, .func ⟨.ofString "restore_number", .ofString "restore_number", f57x1, .stmts f57x2, f57x6, 3, [], .none, .none, .none, .str (.ofString "quic.pnum") 674, .none, .ref 318, .none, 0⟩, #[]⟩,
  ⟨.type "tuple", .none, .seq #[] 0, #[]⟩,
  ⟨.none, .none, .fields #[], #[]⟩,
  ⟨.type "tuple", .none, .seq #[.str (.ofString "first") 694] 0, #[]⟩,
  ⟨.type "tuple", .none, .seq #[] 0, #[]⟩,
  ⟨.none, .none, .func ⟨.ofString "reserved_bits", .ofString "reserved_bits", f59x1, .stmts f59x2, f59x6, 0, [], .none, .none, .none, .none, .none, .none, .none, 0⟩, #[]⟩,
  ⟨.type "code", .none, .fields #[.str (.ofString "reserved_bits") 691, .str (.ofString "reserved_bits") 692, .str (.ofString "/claim/cut.py") 693, .int 222 0, .int 1 0, .int 0 0, .int 0 0, .int 3 0, .ref 320, .bool true, .int 181 0, .ref 321, .none, .ref 322, .ref 323, .ref 324, .int 695 0, .int 222 0, .str (.ofString "/claim/cut.py") 696], #[]⟩,
  ⟨.type "function", .none, .func ⟨.ofString "reserved_bits", .ofString "reserved_bits", f59x1, .stmts f59x2, f59x6, 3, [], .none, .none, .none, .str (.ofString "quic.shorthead") 689, .none, .ref 325, .none, 0⟩, #[]⟩,
  ⟨.type "tuple", .none, .seq #[] 0, #[]⟩,
  ⟨.none, .none, .fields #[], #[]⟩,
  ⟨.type "tuple", .none, .seq #[.str (.ofString "data") 701, .str (.ofString "raw") 702, .str (.ofString "key") 703, .str (.ofString "largest_seen") 704, .str (.ofString "told") 705, .str (.ofString "head") 706, .str (.ofString "size") 707, .str (.ofString "number") 708, .str (.ofString "payload") 709] 0, #[]⟩,
  ⟨.type "tuple", .none, .seq #[] 0, #[]⟩,
  ⟨.none, .none, .func ⟨.ofString "open_packet", .ofString "open_packet", f60x1, .stmts f60x2, f60x6, 0, [], .none, .none, .none, .none, .none, .none, .none, 0⟩, #[]⟩,
  ⟨.type "code", .none, .fields #[.str (.ofString "open_packet") 698, .str (.ofString "open_packet") 699, .str (.ofString "/claim/cut.py") 700, .int 224 0, .int 4 0, .int 0 0, .int 0 0, .int 3 0, .ref 327, .bool true, .int 181 0, .ref 328, .none, .ref 329, .ref 330, .ref 331, .int 710 0, .int 224 0, .str (.ofString "/claim/cut.py") 711], #[]⟩,
  ⟨.type "function", .none, .func ⟨.ofString "open_packet", .ofString "open_packet", f60x1, .stmts f60x2, f60x6, 3, [], .none, .none, .none, .str (.ofString "quic.shorthead") 689, .none, .ref 332, .none, 0⟩, #[]⟩,
  ⟨.type "tuple", .none, .seq #[] 0, #[]⟩,
  ⟨.none, .none, .fields #[], #[]⟩,
  ⟨.type "tuple", .none, .seq #[.str (.ofString "raw") 716, .str (.ofString "first") 717, .str (.ofString "number") 718, .str (.ofString "payload") 719] 0, #[]⟩,
  ⟨.type "tuple", .none, .seq #[] 0, #[]⟩,
  ⟨.none, .none, .func ⟨.ofString "opened", .ofString "opened", f61x1, .stmts f61x2, f61x6, 0, [], .none, .none, .none, .none, .none, .none, .none, 0⟩, #[]⟩,
  ⟨.type "code", .none, .fields #[.str (.ofString "opened") 713, .str (.ofString "opened") 714, .str (.ofString "/claim/cut.py") 715, .int 236 0, .int 4 0, .int 0 0, .int 0 0, .int 3 0, .ref 334, .bool true, .int 181 0, .ref 335, .none, .ref 336, .ref 337, .ref 338, .int 720 0, .int 236 0, .str (.ofString "/claim/cut.py") 721], #[]⟩,
  ⟨.type "function", .none, .func ⟨.ofString "opened", .ofString "opened", f61x1, .stmts f61x2, f61x6, 3, [], .none, .none, .none, .str (.ofString "quic.shorthead") 689, .none, .ref 339, .none, 0⟩, #[]⟩,
  ⟨.type "tuple", .none, .seq #[] 0, #[]⟩,
  ⟨.none, .none, .fields #[], #[]⟩,
  ⟨.none, .none, .func ⟨.ofString "_law_draws", .ofString "_law_draws", f63x1, .stmts f63x2, f63x6, 0, [], .none, .none, .none, .none, .none, .none, .none, 0⟩, #[]⟩,
  ⟨.type "code", .none, .fields #[.str (.ofString "_law_draws") 725, .str (.ofString "_law_draws") 726, .str (.ofString "/claim/cut.py") 727, .int 243 0, .int 1 0, .int 0 0, .int 0 0, .int 3 0, .ref 341, .bool true, .int 181 0, .ref 342, .none, .none, .none, .ref 343, .int 728 0, .int 243 0, .str (.ofString "/claim/cut.py") 729], #[]⟩,
  ⟨.type "function", .none, .func ⟨.ofString "_law_draws", .ofString "_law_draws", f63x1, .stmts f63x2, f63x6, 3, [], .none, .none, .none, .str (.ofString "law_no0081_01") 723, .none, .ref 344, .none, 0⟩, #[]⟩,
  ⟨.type "tuple", .none, .seq #[] 0, #[]⟩,
  ⟨.none, .none, .fields #[], #[]⟩,
  ⟨.type "tuple", .none, .seq #[.str (.ofString "draws") 734, .str (.ofString "many") 735] 0, #[]⟩,
  ⟨.type "tuple", .none, .seq #[] 0, #[]⟩,
  ⟨.none, .none, .func ⟨.ofString "_law_take", .ofString "_law_take", f64x1, .stmts f64x2, f64x6, 0, [], .none, .none, .none, .none, .none, .none, .none, 0⟩, #[]⟩,
  ⟨.type "code", .none, .fields #[.str (.ofString "_law_take") 731, .str (.ofString "_law_take") 732, .str (.ofString "/claim/cut.py") 733, .int 248 0, .int 2 0, .int 0 0, .int 0 0, .int 3 0, .ref 346, .bool true, .int 181 0, .ref 347, .none, .ref 348, .ref 349, .ref 350, .int 736 0, .int 248 0, .str (.ofString "/claim/cut.py") 737], #[]⟩,
  ⟨.type "function", .none, .func ⟨.ofString "_law_take", .ofString "_law_take", f64x1, .stmts f64x2, f64x6, 3, [], .none, .none, .none, .str (.ofString "law_no0081_01") 723, .none, .ref 351, .none, 0⟩, #[]⟩,
  ⟨.type "tuple", .none, .seq #[] 0, #[]⟩,
  ⟨.none, .none, .fields #[], #[]⟩,
  ⟨.none, .none, .func ⟨.ofString "_law_octets", .ofString "_law_octets", f65x1, .stmts f65x2, f65x6, 0, [], .none, .none, .none, .none, .none, .none, .none, 0⟩, #[]⟩,
  ⟨.type "code", .none, .fields #[.str (.ofString "_law_octets") 739, .str (.ofString "_law_octets") 740, .str (.ofString "/claim/cut.py") 741, .int 253 0, .int 2 0, .int 0 0, .int 0 0, .int 3 0, .ref 353, .bool true, .int 181 0, .ref 354, .none, .none, .none, .ref 355, .int 742 0, .int 253 0, .str (.ofString "/claim/cut.py") 743], #[]⟩,
  ⟨.type "function", .none, .func ⟨.ofString "_law_octets", .ofString "_law_octets", f65x1, .stmts f65x2, f65x6, 3, [], .none, .none, .none, .str (.ofString "law_no0081_01") 723, .none, .ref 356, .none, 0⟩, #[]⟩,
  ⟨.type "tuple", .none, .seq #[] 0, #[]⟩,
  ⟨.none, .none, .fields #[], #[]⟩,
  ⟨.type "tuple", .none, .seq #[.str (.ofString "data") 748, .str (.ofString "cid_size") 749] 0, #[]⟩,
  ⟨.type "tuple", .none, .seq #[] 0, #[]⟩,
  ⟨.none, .none, .func ⟨.ofString "_law_is_refused", .ofString "_law_is_refused", f66x1, .stmts f66x2, f66x6, 0, [], .none, .none, .none, .none, .none, .none, .none, 0⟩, #[]⟩,
  ⟨.type "code", .none, .fields #[.str (.ofString "_law_is_refused") 745, .str (.ofString "_law_is_refused") 746, .str (.ofString "/claim/cut.py") 747, .int 255 0, .int 2 0, .int 0 0, .int 0 0, .int 3 0, .ref 358, .bool true, .int 181 0, .ref 359, .none, .ref 360, .ref 361, .ref 362, .int 750 0, .int 255 0, .str (.ofString "/claim/cut.py") 751], #[]⟩,
  ⟨.type "function", .none, .func ⟨.ofString "_law_is_refused", .ofString "_law_is_refused", f66x1, .stmts f66x2, f66x6, 3, [], .none, .none, .none, .str (.ofString "law_no0081_01") 723, .none, .ref 363, .none, 0⟩, #[]⟩,
  ⟨.type "tuple", .none, .seq #[] 0, #[]⟩,
  ⟨.none, .none, .fields #[], #[]⟩,
  ⟨.type "tuple", .none, .seq #[.str (.ofString "data") 756, .str (.ofString "cid_size") 757, .str (.ofString "key") 758, .str (.ofString "seen") 759, .str (.ofString "e") 760] 0, #[]⟩,
  ⟨.type "tuple", .none, .seq #[] 0, #[]⟩,
  ⟨.none, .none, .func ⟨.ofString "_law_opened", .ofString "_law_opened", f67x1, .stmts f67x2, f67x6, 0, [], .none, .none, .none, .none, .none, .none, .none, 0⟩, #[]⟩,
  ⟨.type "code", .none, .fields #[.str (.ofString "_law_opened") 753, .str (.ofString "_law_opened") 754, .str (.ofString "/claim/cut.py") 755, .int 261 0, .int 4 0, .int 0 0, .int 0 0, .int 3 0, .ref 365, .bool true, .int 181 0, .ref 366, .none, .ref 367, .ref 368, .ref 369, .int 761 0, .int 261 0, .str (.ofString "/claim/cut.py") 762], #[]⟩,
  ⟨.type "function", .none, .func ⟨.ofString "_law_opened", .ofString "_law_opened", f67x1, .stmts f67x2, f67x6, 3, [], .none, .none, .none, .str (.ofString "law_no0081_01") 723, .none, .ref 370, .none, 0⟩, #[]⟩,
  ⟨.type "tuple", .none, .seq #[] 0, #[]⟩,
  ⟨.none, .none, .fields #[], #[]⟩,
  ⟨.type "tuple", .none, .seq #[.str (.ofString "script") 767, .str (.ofString "draws") 768, .str (.ofString "form") 769, .str (.ofString "bits") 770, .str (.ofString "fixed") 771, .str (.ofString "size") 772, .str (.ofString "dcid") 773, .str (.ofString "scid") 774, .str (.ofString "number") 775, .str (.ofString "payload") 776, .str (.ofString "token") 777, .str (.ofString "cut") 778, .str (.ofString "head") 779, .str (.ofString "data") 780, .str (.ofString "is_good") 781, .str (.ofString "raw") 782, .str (.ofString "kind") 783, .str (.ofString "told") 784] 0, #[]⟩,
  ⟨.type "tuple", .none, .seq #[] 0, #[]⟩,
  ⟨.none, .none, .func ⟨.ofString "law", .ofString "law", f68x1, .stmts f68x2, f68x6, 0, [], .none, .none, .none, .none, .none, .none, .none, 0⟩, #[]⟩,
  ⟨.type "code", .none, .fields #[.str (.ofString "law") 764, .str (.ofString "law") 765, .str (.ofString "/claim/cut.py") 766, .int 266 0, .int 1 0, .int 0 0, .int 0 0, .int 3 0, .ref 372, .bool true, .int 181 0, .ref 373, .none, .ref 374, .ref 375, .ref 376, .int 785 0, .int 266 0, .str (.ofString "/claim/cut.py") 786], #[]⟩,
  ⟨.type "function", .none, .func ⟨.ofString "law", .ofString "law", f68x1, .stmts f68x2, f68x6, 3, [], .none, .none, .none, .str (.ofString "law_no0081_01") 723, .none, .ref 377, .none, 0⟩, #[]⟩]⟩, ⟨[], [], [], 0, [], [], false, #[], [], 0, false, false, false, 0, [2000, 10, 10], false, 0, true, [], [], 0, false⟩⟩
set_option maxHeartbeats 0 in
noncomputable def hd.fin : Params → Heap := hd.mkH rfl (.str (.ofString "law_no0081_01") 723) 59 114 366
set_option maxHeartbeats 0 in
noncomputable def hd.hp1 : Params → Heap := hd.mkH rfl (.str (.ofString "quic.errors") 194) 14 12 69
set_option maxHeartbeats 0 in
noncomputable def hd.hp2 : Params → Heap := hd.mkH rfl (.str (.ofString "quic.longheads") 399) 24 24 148
set_option maxHeartbeats 0 in
noncomputable def hd.hp3 : Params → Heap := hd.mkH rfl (.str (.ofString "quic.seal") 541) 41 60 246
noncomputable def hd.hp0 (P : Params) : Heap := ⟨⟨[boot_o_0 P, boot_o_1 P, boot_o_2 P, boot_o_3 P, boot_o_4 P, boot_o_5 P, boot_o_6 P, boot_o_7 P, boot_o_8 P, boot_o_9 P, boot_o_10 P, ⟨.type "tuple", .none, .seq #[] 0, #[]⟩, ⟨.none, .none, .fields #[], #[]⟩, ⟨.type "code", .none, .fields #[.str (.ofString "<module>") 182, .str (.ofString "<module>") 183, .str (.ofString "/claim/cut.py") 184, .int 1 0, .int 0 0, .int 0 0, .int 0 0, .int 0 0, .ref 11, .bool false, .int 181 0, .ref 12, .none, .none, .none, .none, .int 185 0, .int 1 0, .str (.ofString "/claim/cut.py") 186], #[]⟩, ⟨.type "frame", .none, .plain, #[.some (.ref 13), .some (.ref 3), .some (.ref 3), .none, .some (.str (.ofString "__main__") 164), .none, .some (.ref 0)]⟩]⟩, ⟨[], [], [], 0, [], [], false, #[], [], 0, false, false, false, 0, [2000, 10, 10], false, 0, true, [], [], 0, false⟩⟩
noncomputable abbrev hd.prog : Program := PySem.Challenge.pw_no0081_01
noncomputable def hd.env : Env := { scope := hd.prog.main.scope, locals := mainNs, globals := mainNs, cells := [], code := .ref 13, frame := some 14 }
noncomputable def hd.cod : Code := .body (behindTheImports hd.prog) hd.env
noncomputable abbrev hd.fr : List Frame := [topFrame ⟨0, 0, 0, 0⟩]
noncomputable abbrev hd.sh (h : Params → Heap) (t : Nat) (w : World) (os : OsState) : Shared := ⟨h w.params, #[], {}, t, os⟩
noncomputable def hd.l0 : List Stmt := List.take 7 (List.drop 0 (behindTheImports hd.prog))
noncomputable def hd.l1 : List Stmt := List.take 13 (List.drop 7 (behindTheImports hd.prog))
noncomputable def hd.l2 : List Stmt := List.take 18 (List.drop 20 (behindTheImports hd.prog))
noncomputable def hd.l3 : List Stmt := List.take 21 (List.drop 38 (behindTheImports hd.prog))
theorem hd.split : behindTheImports hd.prog = hd.l0 ++ (hd.l1 ++ (hd.l2 ++ (hd.l3 ++ []))) := by kernel_rfl
theorem hd.pre (w : World) (os : OsState) : topGo treeTable hd.prog w 11 (some (.ref 6)) 12 ⟨boot_heap w.params, #[], boot_drawn, boot_toks, os⟩ (topStub hd.prog) = some (hd.sh hd.hp0 187 w os, ⟨denote treeTable hd.cod, hd.cod, ⟨0, 0, 0, 0⟩, hd.fr⟩) := by
  rw [PySem.W.Fast.te14364793385576792824]
  kernel_rfl
theorem hd.blk (w : World) (os : OsState) : segRun treeTable hd.prog w 11 (some (.ref 6)) 1 1 (hd.sh hd.hp0 187 w os) (blockOf (behindTheImports hd.prog) hd.env hd.cod ⟨0, 0, 0, 0⟩ hd.fr) = some (.next, hd.sh hd.hp0 187 w os, hd.cod, ⟨0, 0, 0, 0⟩) := by
  rw [PySem.W.Fast.te14364793385576792824]
  kernel_rfl
theorem hd.r0 (w : World) (os : OsState) : segRun treeTable hd.prog w 11 (some (.ref 6)) 1 745 (hd.sh hd.hp0 187 w os) (piecesOf hd.l0 hd.env hd.cod ⟨0, 0, 0, 0⟩ hd.fr) = some (.next, hd.sh hd.hp1 291 w os, hd.cod, ⟨19, 0, 23, 24⟩) := by
  rw [PySem.W.Fast.te14374325043358763698, PySem.W.Fast.te14364793385576792824]
  kernel_rfl
theorem hd.r1 (w : World) (os : OsState) : segRun treeTable hd.prog w 11 (some (.ref 6)) 1 570 (hd.sh hd.hp1 291 w os) (piecesOf hd.l1 hd.env hd.cod ⟨19, 0, 23, 24⟩ hd.fr) = some (.next, hd.sh hd.hp2 414 w os, hd.cod, ⟨78, 0, 78, 10⟩) := by
  rw [PySem.W.Fast.te14374325043358763698, PySem.W.Fast.te14364793385576792824]
  kernel_rfl
theorem hd.r2 (w : World) (os : OsState) : segRun treeTable hd.prog w 11 (some (.ref 6)) 1 662 (hd.sh hd.hp2 414 w os) (piecesOf hd.l2 hd.env hd.cod ⟨78, 0, 78, 10⟩ hd.fr) = some (.next, hd.sh hd.hp3 590 w os, hd.cod, ⟨172, 0, 174, 37⟩) := by
  rw [PySem.W.Fast.te14374325043358763698, PySem.W.Fast.te14364793385576792824]
  kernel_rfl
theorem hd.r3 (w : World) (os : OsState) : segRun treeTable hd.prog w 11 (some (.ref 6)) 1 610 (hd.sh hd.hp3 590 w os) (piecesOf hd.l3 hd.env hd.cod ⟨172, 0, 174, 37⟩ hd.fr) = some (.next, hd.sh hd.fin 788 w os, hd.cod, ⟨266, 0, 296, 91⟩) := by
  rw [PySem.W.Fast.te14374325043358763698, PySem.W.Fast.te14364793385576792824]
  kernel_rfl
theorem hd.rf (w : World) (os : OsState) : topRun treeTable hd.prog w 11 (some (.ref 6)) 2 (hd.sh hd.fin 788 w os) ⟨doneF .next, hd.cod, ⟨266, 0, 296, 91⟩, hd.fr⟩ = some (hd.sh hd.fin 788 w os) := by
  rw [PySem.W.Fast.te14364793385576792824]
  kernel_rfl
theorem hd.run (w : World) (os : OsState) : topRun treeTable hd.prog w 11 (some (.ref 6)) (12 + (1 + (745 + (570 + (662 + (610 + (2))))))) ⟨boot_heap w.params, #[], boot_drawn, boot_toks, os⟩ (topStub hd.prog) = some (hd.sh hd.fin 788 w os) := by
  refine go_top (hd.pre w os) (piece_block (hd.blk w os) ?_)
  refine (congrArg (fun b => topRun treeTable hd.prog w 11 (some (.ref 6)) _ (hd.sh hd.hp0 187 w os) (restOf b hd.env hd.cod ⟨0, 0, 0, 0⟩ hd.fr)) hd.split).trans ?_
  exact piece_app (hd.r0 w os) (piece_app (hd.r1 w os) (piece_app (hd.r2 w os) (piece_app (hd.r3 w os) (piece_nil (hd.rf w os)))))
noncomputable abbrev hd.xt : Shared → Bool := fun s => xlAt hd.view_39 hd.lv s && recOk PySem.Challenge.rw_no0081_01.row.toRowW.records s
theorem hd.lookA (w : World) (os : OsState) : (staticsOk (importedModules hd.prog.main.body) (boot_heap w.params) (hd.fin w.params) && namesBound hd.prog (hd.fin w.params) && gensDone (hd.sh hd.fin 788 w os) && laidKept (boot_heap w.params) (hd.fin w.params)) = true := by
  rw [PySem.W.Fast.te5923862056798008813]
  kernel_rfl
theorem hd.lookB (w : World) (os : OsState) : openSeen hd.view_39 hd.loose (importedModules hd.prog.main.body) hd.xt true (hd.sh hd.fin 788 w os) = openGood hd.view_39 hd.loose := by
  rw [PySem.W.Fast.te4187177175401517315, PySem.W.Fast.te5923862056798008813]
  kernel_rfl
theorem hd.lookC (w : World) (os : OsState) : hd.hook.obs (hd.sh hd.fin 788 w os) = hd.hook.val w := by
  kernel_rfl
theorem hd.said : PySem.Challenge.rw_no0081_01.wellSaid = true := by
  rw [PySem.W.Fast.te9446332074065402090]
  kernel_rfl
theorem hd.left : LeftO hd.prog hd.view_39 hd.loose hd.xt hd.hook.obs hd.hook.val 5292 :=
  LeftO.of_pieces (H₀ := boot_heap) (H₁ := hd.fin) (gs₀ := #[]) (gs₁ := #[]) (d₀ := boot_drawn) (d₁ := {}) (k₀ := boot_toks) (k₁ := 788) (m₀ := 11) (ann := some (.ref 6))
    (boot_open (by kernel_rfl) (by decide) (fun s => by kernel_rfl)) (fun w => by kernel_rfl) hd.run (by decide +kernel) (fun w => funext fun os => Prod.ext (hd.lookA w os) (Prod.ext (hd.lookB w os) (hd.lookC w os)))
end
section
theorem nx1 (p q r t : Nat) : (2 * p + r) + 2 * (2 * q + t) = 2 * (p + 2 * q) + (r + 2 * t) := by
  rw [Nat.mul_add, Nat.mul_add, Nat.add_add_add_comm]
theorem nx2 (p q r t : Nat) : (2 * p + r) + (2 * q + t) = 2 * (p + q) + (r + t) := by
  rw [Nat.mul_add, Nat.add_add_add_comm]
theorem nx3 {a b c d : Nat} (h : c = (a + b) % 2) (h' : d = (a % 2) * (b % 2)) : c + 2 * d = a % 2 + b % 2 := by
  rw [h, h', Nat.add_mod]
  rcases Nat.mod_two_eq_zero_or_one a with q | q <;> rcases Nat.mod_two_eq_zero_or_one b with r | r <;> rw [q, r]
theorem nat_xor : ∀ (n a b : Nat), a < n → (a ^^^ b) + 2 * (a &&& b) = a + b
  | 0, a, b, h => absurd h (Nat.not_lt_zero _)
  | n + 1, a, b, h => by
    by_cases ha : a = 0
    · subst ha; rw [Nat.zero_xor, Nat.zero_and, Nat.mul_zero, Nat.zero_add]; rfl
    · have ih := nat_xor n (a / 2) (b / 2) (Nat.lt_of_lt_of_le (Nat.div_lt_self (Nat.pos_of_ne_zero ha) (by decide)) (Nat.le_of_lt_succ h))
      have h1 : (a ^^^ b) / 2 = a / 2 ^^^ b / 2 := Nat.xor_div_two
      have h2 : (a &&& b) / 2 = a / 2 &&& b / 2 := Nat.and_div_two
      have h3' : (a ^^^ b) % 2 ^ 1 = (a % 2 ^ 1) ^^^ (b % 2 ^ 1) := Nat.xor_mod_two_pow
      have h3 : (a ^^^ b) % 2 = (a + b) % 2 := by
        simp only [Nat.pow_one] at h3'
        rw [h3', Nat.add_mod]
        rcases Nat.mod_two_eq_zero_or_one a with q | q <;> rcases Nat.mod_two_eq_zero_or_one b with r | r <;> rw [q, r] <;> rfl
      have h4' : (a &&& b) % 2 ^ 1 = (a % 2 ^ 1) &&& (b % 2 ^ 1) := Nat.and_mod_two_pow
      have h4 : (a &&& b) % 2 = (a % 2) * (b % 2) := by
        simp only [Nat.pow_one] at h4'
        rw [h4']
        rcases Nat.mod_two_eq_zero_or_one a with q | q <;> rcases Nat.mod_two_eq_zero_or_one b with r | r <;> rw [q, r] <;> rfl
      rw [← h1, ← h2] at ih
      have e := nx1 ((a ^^^ b) / 2) ((a &&& b) / 2) ((a ^^^ b) % 2) ((a &&& b) % 2)
      rw [ih, nx3 h3 h4, ← nx2, Nat.div_add_mod, Nat.div_add_mod, Nat.div_add_mod, Nat.div_add_mod] at e
      exact e
theorem bx1 {x y z : Int} {k m : Nat} (hx : 0 ≤ x) (hy : 0 ≤ y) (h : k + 2 * m = x.toNat + y.toNat) : x + y - 2 * ((m : Nat) : Int) = (k : Int) := by
  have := congrArg (fun n : Nat => (n : Int)) h
  simp only [Int.natCast_add, Int.natCast_mul, Int.toNat_of_nonneg hx, Int.toNat_of_nonneg hy] at this
  rw [← this]; exact Int.add_sub_cancel _ _
theorem bitXor_nat {x y : Int} (hx : 0 ≤ x) (hy : 0 ≤ y) : Builtin.bitXor x y = ((x.toNat ^^^ y.toNat : Nat) : Int) := by
  have h := nat_xor _ x.toNat y.toNat (Nat.lt_succ_self _)
  rw [PyProof.Rows.bitXor_and]
  unfold Builtin.bitAnd
  rw [decide_eq_true hx, decide_eq_true hy]
  exact bx1 (z := 0) hx hy h
theorem nat_xor_lt {a b n : Nat} (h1 : a < 2 ^ n) (h2 : b < 2 ^ n) : a ^^^ b < 2 ^ n := Nat.xor_lt_two_pow h1 h2
theorem xor_byte {x y : Int} (hx : 0 ≤ x ∧ x < 256) (hy : 0 ≤ y ∧ y < 256) : 0 ≤ Builtin.bitXor x y ∧ Builtin.bitXor x y < 256 := by
  rw [bitXor_nat hx.1 hy.1]
  have := nat_xor_lt (n := 8) (a := x.toNat) (b := y.toNat) (by omega) (by omega)
  omega
theorem xor_twice {x y : Int} (hx : 0 ≤ x) (hy : 0 ≤ y) : Builtin.bitXor (Builtin.bitXor x y) y = x := by
  rw [bitXor_nat hx hy, bitXor_nat (Int.natCast_nonneg _) hy, Int.toNat_natCast, Nat.xor_assoc, Nat.xor_self, Nat.xor_zero]
  exact Int.toNat_of_nonneg hx
theorem byte_mod (x : Int) : 0 ≤ x.fmod 256 ∧ x.fmod 256 < 256 := by
  rw [Int.fmod_eq_emod_of_nonneg _ (by decide)]; omega
theorem toNatDiff {p q z : Int} (hp : 0 ≤ p) (hz : 0 ≤ z) (e : q = p + z) : q.toNat - p.toNat = z.toNat := by
  subst e; rw [Int.toNat_add hp hz]; exact Nat.add_sub_cancel_left _ _
end
section
noncomputable def Con (w : World) (p : Program) (loose : List Str) (mean : ExcName → Option Value) (mg mb : Str → Option Value) (f : Addr) (vs : List Value) (d u : Nat) (P : Heap → Heap → Value → Prop) : Prop :=
  ∀ (A : Around) (base : Heap) (l : List Env) (s : Shared), A.handled = none → Below A base l s.heap → (hd.heap_39 w.params).In s.heap → Top p loose mean mg mb s.heap →
    A.depth + d < recursionLimit → A.units + u < cLine →
    codeAny (model PySem.Challenge.rw_no0081_01.row.prog w) A (.call (.ref f) ⟨vs, []⟩) (fun r s' => ∃ v h' tk', r = .ok (.ret v) ∧ s' = { s with heap := h', toks := tk' } ∧ P s.heap h' v ∧ s.heap.StaysIn h') s
noncomputable def isI (x : Int) : Heap → Heap → Value → Prop := fun _ _ v => ∃ t, v = .int x t
noncomputable def isB (ns : List Int) : Heap → Heap → Value → Prop := fun _ _ v => ∃ Y t, v = .bytes Y t ∧ KBw.bInts Y = ns
noncomputable def isN : Heap → Heap → Value → Prop := fun _ _ v => v = .none
section
variable {w : World} {p : Program} {loose : List Str} {mean : ExcName → Option Value} {mg mb : Str → Option Value} {f : Addr} {vs : List Value} {d u : Nat} {P : Heap → Heap → Value → Prop}
theorem con_of (h : ∀ (dp un : Nat) (gd : Option (List Code)) (base : Heap) (l : List Env) (s : Shared) (R : Result → Shared → Prop),
    Below ⟨none, dp, some l, gd, un⟩ base l s.heap → (hd.heap_39 w.params).In s.heap → Top p loose mean mg mb s.heap → dp + d < recursionLimit → un + u < cLine →
    (∀ v h' tk', P s.heap h' v → s.heap.StaysIn h' → R (.ok (.ret v)) { s with heap := h', toks := tk' }) →
    codeAny (model PySem.Challenge.rw_no0081_01.row.prog w) ⟨none, dp, some l, gd, un⟩ (.call (.ref f) ⟨vs, []⟩) R s) : Con w p loose mean mg mb f vs d u P := by
  intro A base l s hh B X T hd hu
  obtain ⟨ha, dp, fr, gd, un⟩ := A
  have e := B.stack
  simp only at hh e
  subst hh; subst e
  exact h dp un gd base l s _ B X T hd hu fun v h' tk' hp st => ⟨v, h', tk', rfl, rfl, hp, st⟩
theorem News.stays {h₀ h h' : Heap} {L : Addr} {news : List (Addr × Obj)} (N : News h₀ L h news) (st : h.StaysIn h') : News h₀ L h' news :=
  fun q hq => ⟨st _ _ (N q hq).1, (N q hq).2.1, (N q hq).2.2⟩
theorem Fr.stays {h₀ h h' : Heap} {L : Addr} {m : Str → Option Value} (F : Fr h₀ L h m) (st : h.StaysIn h') : Fr h₀ L h' m :=
  ⟨F.ns.keeps st, fun b o e => st b o (F.keep b o e), F.above⟩
section
variable {A A₀ : Around} {base h₀ : Heap} {outer : List Env} {L a : Addr} {m : Str → Option Value} {cn : Str} {cs : Scope} {ccd : Value} {news : List (Addr × Obj)} {s : Shared} {Q E : Value → Shared → Prop}
theorem use (C : Con w p loose mean mg mb f vs d u P) (B : Below A₀ base outer h₀) (F : Fr h₀ L s.heap m) (X : (hd.heap_39 w.params).In h₀) (N : News h₀ L s.heap news) (T : Top p loose mean mg mb h₀)
    (hA : A.frames = some (envOf cn cs L a ccd :: outer)) (hh : A.handled = none) (hk : cs.kind = .function) (hdp : A.depth + d < recursionLimit) (hun : A.units + u < cLine)
    (k : ∀ v h' tk', P s.heap h' v → s.heap.StaysIn h' → Fr h₀ L h' m → News h₀ L h' news → Q v { s with heap := h', toks := tk' }) :
    wpAny (model PySem.Challenge.rw_no0081_01.row.prog w) A (call (.ref f) vs) Q E s := by
  have B₁ := B.push (name := cn) (scope := cs) (a := a) (cd := ccd) F hk
  refine wpAny_call (codeAny_mono (C A base _ s hh ⟨hA, B₁.stays, B₁.frames⟩ (X.keeps F.keep) (T.keeps F.keep) hdp hun) ?_)
  rintro r s' ⟨v, h', tk', rfl, rfl, hp, st⟩
  exact k v h' tk' hp st (Fr.stays F st) (News.stays N st)
theorem useI {x : Int} (C : Con w p loose mean mg mb f vs d u (isI x)) (B : Below A₀ base outer h₀) (F : Fr h₀ L s.heap m) (X : (hd.heap_39 w.params).In h₀) (N : News h₀ L s.heap news) (T : Top p loose mean mg mb h₀)
    (hA : A.frames = some (envOf cn cs L a ccd :: outer)) (hh : A.handled = none) (hk : cs.kind = .function) (hdp : A.depth + d < recursionLimit) (hun : A.units + u < cLine)
    (k : ∀ y t h' tk', y = x → Fr h₀ L h' m → News h₀ L h' news → Q (.int y t) { s with heap := h', toks := tk' }) :
    wpAny (model PySem.Challenge.rw_no0081_01.row.prog w) A (call (.ref f) vs) Q E s :=
  use C B F X N T hA hh hk hdp hun fun v h' tk' hP _ F' N' => by obtain ⟨t, e⟩ := hP; subst e; exact k x t h' tk' rfl F' N'
theorem useB {ns : List Int} (C : Con w p loose mean mg mb f vs d u (isB ns)) (B : Below A₀ base outer h₀) (F : Fr h₀ L s.heap m) (X : (hd.heap_39 w.params).In h₀) (N : News h₀ L s.heap news) (T : Top p loose mean mg mb h₀)
    (hA : A.frames = some (envOf cn cs L a ccd :: outer)) (hh : A.handled = none) (hk : cs.kind = .function) (hdp : A.depth + d < recursionLimit) (hun : A.units + u < cLine)
    (k : ∀ Y t h' tk', KBw.bInts Y = ns → Fr h₀ L h' m → News h₀ L h' news → Q (.bytes Y t) { s with heap := h', toks := tk' }) :
    wpAny (model PySem.Challenge.rw_no0081_01.row.prog w) A (call (.ref f) vs) Q E s :=
  use C B F X N T hA hh hk hdp hun fun v h' tk' hP _ F' N' => by obtain ⟨Y, t, e, hY⟩ := hP; subst e; exact k Y t h' tk' hY F' N'
theorem useN (C : Con w p loose mean mg mb f vs d u isN) (B : Below A₀ base outer h₀) (F : Fr h₀ L s.heap m) (X : (hd.heap_39 w.params).In h₀) (N : News h₀ L s.heap news) (T : Top p loose mean mg mb h₀)
    (hA : A.frames = some (envOf cn cs L a ccd :: outer)) (hh : A.handled = none) (hk : cs.kind = .function) (hdp : A.depth + d < recursionLimit) (hun : A.units + u < cLine)
    (k : ∀ h' tk', Fr h₀ L h' m → News h₀ L h' news → Q .none { s with heap := h', toks := tk' }) :
    wpAny (model PySem.Challenge.rw_no0081_01.row.prog w) A (call (.ref f) vs) Q E s :=
  use C B F X N T hA hh hk hdp hun fun v h' tk' e _ F' N' => by cases e; exact k h' tk' F' N'
end
noncomputable def bmap : List (Str × Value) → Str → Option Value
  | [] => fun _ => none
  | (x, v) :: r => fun y => if y = x then some v else bmap r y
theorem bmap_eq : ∀ (l : List (Str × Value)), (fun x => l.lookup x) = bmap l
  | [] => rfl
  | (x, v) :: r => by
    funext y
    have ih := congrFun (bmap_eq r) y
    (try simp only at ih)
    show (match y == x with | true => some v | false => r.lookup y) = if y = x then some v else bmap r y
    rw [← ih]
    by_cases e : y = x
    · rw [if_pos e, beq_iff_eq.mpr e]
    · rw [if_neg e, beq_eq_false_iff_ne.mpr e]
theorem enter {K : Frag} {A : Around} {s : Shared} {R : Result → Shared → Prop} {name qual : Str} {params : Arguments} {body : List Stmt} {scope : Scope} {dV kV doc pm cdv ct oc : Value} {an od : Option Addr} {osl : Array (Option Value)} {binds : List (Str × Value)} {prog : Program} {args : Args}
    (X : K.In s.heap) (T : Top p loose mean mg mb s.heap)
    (ho : K.lookup f = some ⟨oc, od, .func (fnOf name qual params body scope dV kV doc pm an cdv ct), osl⟩) (hcd : codeIn K cdv qual = true) (hroom : A.depth < recursionLimit)
    (hbind : BindsTo s (fnOf name qual params body scope dV kV doc pm an cdv ct) args binds) (hloc : ∀ y ∈ binds, scope.names.lookup y.1 = some .local)
    (h : ∀ L h₁, Fr s.heap L h₁ (bmap binds.reverse) → News s.heap L h₁ [] →
      wpAny (model prog w) (A.deeper (envOf qual scope L f cdv)) (execs body (envOf qual scope L f cdv)) (fun fl s' => R (.ok (.ret (match fl with | .ret v => v | _ => .none))) s')
        (fun e s' => wpAny (model prog w) (A.deeper (envOf qual scope L f cdv)) (leaving (envOf qual scope L f cdv) e) (fun _ s'' => R (.error e) s'') (fun e' s'' => R (.error e') s'') s')
        { s with heap := h₁, toks := s.toks + binds.length })
    (hco : scope.isCoroutine = false) (hgen : scope.isGenerator = false) (hk : scope.kind = .function)
    (hcell : ∀ x ∈ scope.names, x.2 ≠ .cell) : codeAny (model prog w) A (.call (.ref f) args) R s := by
  refine codeAny_call_def (fd := fnOf name qual params body scope dV kV doc pm an cdv ct) (body := body) (binds := binds) hroom (X _ _ ho) rfl T.nolimit (codeRec_of X hcd) rfl hbind hcell hloc (fun h₁ hns hk₁ => ?_) hco hgen hk
  rw [bmap_eq] at hns
  exact h _ h₁ ⟨hns, hk₁, Nat.le_refl _⟩ News.nil
end
section
variable {R : Result → Shared → Prop} {s : Shared} {h' : Heap} {tk' : Nat} {t : Tok} {L : Addr} {m : Str → Option Value}
theorem retI {x y : Int} (hret : ∀ v h' tk', isI x s.heap h' v → s.heap.StaysIn h' → R (.ok (.ret v)) { s with heap := h', toks := tk' }) (F : Fr s.heap L h' m) (e : y = x) :
    R (.ok (.ret (.int y t))) { s with heap := h', toks := tk' } := by
  subst e; exact hret _ _ _ ⟨_, rfl⟩ F.keep
theorem retB {Y : Array UInt8} {ns ms : List Int} (hret : ∀ v h' tk', isB ns s.heap h' v → s.heap.StaysIn h' → R (.ok (.ret v)) { s with heap := h', toks := tk' }) (F : Fr s.heap L h' m) (hY : KBw.bInts Y = ms) (e : ms = ns) :
    R (.ok (.ret (.bytes Y t))) { s with heap := h', toks := tk' } := by
  subst e; exact hret _ _ _ ⟨Y, t, rfl, hY⟩ F.keep
theorem retN (hret : ∀ v h' tk', isN s.heap h' v → s.heap.StaysIn h' → R (.ok (.ret v)) { s with heap := h', toks := tk' }) (F : Fr s.heap L h' m) :
    R (.ok (.ret .none)) { s with heap := h', toks := tk' } := hret _ _ _ rfl F.keep
end
end
theorem fillAll (w : World) : (model PySem.Challenge.rw_no0081_01.row.prog w) = (model PySem.Challenge.rw_no0081_01.row.prog w) ∧ hd.heap_39 = hd.heap_39 := by
  k_fill
  exact ⟨rfl, rfl⟩
local macro_rules | `(tactic| k_room) => `(tactic| ktr_room)
local macro_rules | `(tactic| tb_rel) => `(tactic| ((try dsimp only); (try k_fold)))
local macro_rules | `(tactic| ktr_room) => `(tactic| ((refine Nat.lt_of_le_of_lt ?_ (by assumption)); (simp only [depth_mark, depth_under_make, depth_under_kw, depth_in1, depth_deeper, Nat.add_assoc]); first | exact Nat.add_le_add_left (by decide) _ | exact Nat.le_add_right _ _))
local macro_rules | `(tactic| ktr_units) => `(tactic| ((refine Nat.lt_of_le_of_lt ?_ (by assumption)); (simp only [units_in1, units_deeper, Around.mark_units, Nat.add_assoc]); first | exact Nat.add_le_add_left (by decide) _ | exact Nat.le_add_right _ _))
local macro_rules | `(tactic| k_in) => `(tactic| first | with_reducible assumption | with_reducible exact Frag.In.keeps (by assumption) (Fr.keep (by assumption)) | fail)
section
/-- what is kept of a flying exception of a class of its own: its class, its dictionary, its context -/
noncomputable def XObj (C : Addr) (D : Option Addr) (c : Value) (o : Obj) (vs : Array Value) : Prop := o.cls = .ref C ∧ o.dict = D ∧ o.data = .fields vs ∧ vs[2]? = some c
noncomputable def XTr (h base : Heap) (e C : Addr) (D : Option Addr) (c fl : Value) : Prop :=
  ∃ oe vs T oT ts, h.get? e = some oe ∧ XObj C D c oe vs ∧ vs[1]? = some (.ref T) ∧ base.get? T = none ∧ T ≠ e ∧ h.get? T = some oT ∧ oT.data = .fields ts ∧ ts[3]? = some fl
noncomputable def Fly (base : Heap) (l : List Env) (e C : Addr) (D : Option Addr) (c fl : Value) (h : Heap) : Prop :=
  base.StaysIn h ∧ base.get? e = none ∧ h.FunFrames base l ∧ XTr h base e C D c fl
theorem Fly.there {base h : Heap} {l : List Env} {e C : Addr} {D : Option Addr} {c fl : Value} (x : Fly base l e C D c fl h) : ∃ oe vs, h.get? e = some oe ∧ XObj C D c oe vs ∧ vs[1]? ≠ some .none := by
  obtain ⟨_, _, _, oe, vs, T, _, _, he, ho, h1, _⟩ := x
  exact ⟨oe, vs, he, ho, by rw [h1]; intro q; cases q⟩
theorem Fly.tail {base h : Heap} {env : Env} {l : List Env} {e C : Addr} {D : Option Addr} {c fl : Value} (x : Fly base (env :: l) e C D c fl h) : Fly base l e C D c fl h :=
  let ⟨a, b, ⟨_, _, k⟩, d⟩ := x; ⟨a, b, k, d⟩
section
variable {M : Model} {A : Around} {E : Value → Shared → Prop} {s : Shared} {base : Heap} {env : Env} {l outer : List Env} {L e C : Addr} {D : Option Addr} {c fl : Value} {Q : Unit → Shared → Prop}
theorem x_entry {oe : Obj} {vs : Array Value} {head : Value} {hadNext : Bool}
    (hfr : A.frames = some (env :: outer)) (hl : s.heap.FunFrames base (env :: outer)) (hf : env.frame = some L)
    (he : s.heap.get? e = some oe) (hkb : base.StaysIn s.heap) (hen : base.get? e = none) (ho : XObj C D c oe vs) (hsz : 1 < vs.size)
    (h : ∀ h', Fly base (env :: outer) e C D c (rawInt L) h' → s.heap.UpToSlots h' → Q () { s with heap := h' }) :
    wpAny M A (do let a ← frameOf env; let pl ← entryPlaceOf L hadNext; let b ← EntryCells.newEntry head a .none (rawInt L) .none pl; setField (.ref e) 1 b) Q E s := by
  obtain ⟨hc, hD, hd, h2⟩ := ho
  have hene : e ∉ (env :: outer).filterMap (·.frame) := fun hm => by
    obtain ⟨_, o, ho, hnf⟩ := hl.mem hm
    rw [he] at ho; injection ho with ho; subst ho; exact hnf vs hd
  refine wpAny_bind (wpAny_frameOf_fun hfr hl hf fun h₁ hs₁ => ?_)
  refine wpAny_bind (wpAny_entryPlaceOf fun pl hpl => ?_)
  unfold EntryCells.newEntry newFields
  refine wpAny_bind (wpAny_newObj_type ?_ (hpl.sizeOk5 _ _ _ _ _))
  have he₁ : h₁.get? e = some oe := (hs₁.2.1 e hene).trans he
  have kb₁ : base.StaysIn h₁ := fun b o hbo => (hs₁.2.1 b fun hm => by rw [(hl.mem hm).1] at hbo; cases hbo).trans (hkb b o hbo)
  have hTe : h₁.objs.size ≠ e := Nat.ne_of_gt (Heap.lt_size he₁)
  generalize hob : ({ cls := .type "traceback", dict := none, data := .fields ([head, .ref L, .none, rawInt L, .none] ++ (if pl.isEmpty then List.replicate 6 Value.none else pl)).toArray } : Obj) = ob
  have he₂ := Heap.get?_push_of_some (h := h₁) ob he₁
  refine wpAny_setField he₂ hd hsz (h _ ?_ ?_)
  all_goals
    have hd₃ := Obj.data_mapFields hd (·.setIfInBounds 1 (Value.ref h₁.objs.size))
    have he₃ := Heap.get?_update_self (Obj.mapFields (·.setIfInBounds 1 (Value.ref h₁.objs.size))) he₂ (Obj.isFreed_of_fields hd₃)
    have hT₃ := (Heap.get?_update_other (h₁.push ob) (Obj.mapFields (·.setIfInBounds 1 (Value.ref h₁.objs.size))) (Ne.symm hTe)).trans (Heap.get?_push_size h₁ (by rw [← hob]; rfl))
    have keep : ∀ b o, b ≠ e → h₁.get? b = some o → ((h₁.push ob).update e (Obj.mapFields (·.setIfInBounds 1 (Value.ref h₁.objs.size)))).get? b = some o := fun b o hbe hb => by
      rw [Heap.get?_update_other _ _ (Ne.symm hbe)]
      exact Heap.get?_push_of_some _ hb
    have noRecord : ∀ b o, s.heap.get? b = some o → (∀ vs, o.data ≠ .fields vs) → b ≠ e := fun b o hb hnf q => by
      rw [q, he] at hb; injection hb with hb; subst hb; exact hnf vs hd
  · refine ⟨fun b o hbo => keep b o (fun q => by rw [q, hen] at hbo; cases hbo) (kb₁ b o hbo), hen, hl.of_keeps fun b o hb hnf => ?_, _, _, h₁.objs.size, _, _, he₃,
      ⟨(Obj.cls_mapFields _ _).trans hc, ?_, hd₃, by rw [Array.getElem?_setIfInBounds_ne (by decide)]; exact h2⟩, by simp [hsz], kb₁.fresh, hTe, hT₃, by rw [← hob], ?_⟩
    · obtain ⟨sl, hs⟩ := hs₁.2.2 b o hb
      exact ⟨_, keep b _ (noRecord b o hb hnf) hs, rfl⟩
    · rw [← hD]
      obtain ⟨a1, a2, a3, a4⟩ := oe
      simp only at hd
      subst hd
      rfl
    · first | (simp; done) | (rcases hpl with rfl | ⟨_, _, _, _, _, _, _, rfl⟩ <;> simp)
  · intro b o hb hnf
    obtain ⟨sl, hs⟩ := hs₁.2.2 b o hb
    exact ⟨sl, keep b _ (noRecord b o hb hnf) hs⟩
theorem x_note_first {oe : Obj} {vs : Array Value}
    (hfr : A.frames = some (env :: outer)) (hl : s.heap.FunFrames base (env :: outer)) (hf : env.frame = some L)
    (he : s.heap.get? e = some oe) (hkb : base.StaysIn s.heap) (hen : base.get? e = none) (ho : XObj C D c oe vs) (h1 : vs[1]? = some .none)
    (h : ∀ h', Fly base (env :: outer) e C D c (rawInt L) h' → s.heap.UpToSlots h' → Q () { s with heap := h' }) : wpAny M A (noteFrame (.ref e) env) Q E s := by
  unfold noteFrame
  simp only [hf]
  refine wpAny_bind (wpAny_field he ho.2.2.1 h1 ?_)
  rw [if_neg (by decide)]
  exact x_entry hfr hl hf he hkb hen ho (Array.getElem?_eq_some_iff.mp h1).1 h
theorem x_note_next (hfr : A.frames = some (env :: outer)) (hf : env.frame = some L) (x : Fly base (env :: outer) e C D c .none s.heap)
    (h : ∀ h', Fly base (env :: outer) e C D c (rawInt L) h' → s.heap.UpToSlots h' → Q () { s with heap := h' }) : wpAny M A (noteFrame (.ref e) env) Q E s := by
  obtain ⟨hkb, hen, hl, oe, vs, T, oT, ts, he, ho, h1, hnT, hTe, hT, hdT, h3⟩ := x
  unfold noteFrame
  simp only [hf]
  refine wpAny_bind (wpAny_field he ho.2.2.1 h1 ?_)
  rw [if_pos (show (Value.ref T != Value.none) = true from by simp)]
  refine wpAny_bind (wpAny_field hT hdT h3 ?_)
  rw [if_neg (show ¬ ((Value.none == rawInt L) = true) from by simp [rawInt])]
  refine wpAny_bind (wpAny_setField hT hdT (Array.getElem?_eq_some_iff.mp h3).1 ?_)
  have other : ∀ b, b ≠ T → (s.heap.update T (Obj.mapFields (·.setIfInBounds 3 Value.none))).get? b = s.heap.get? b := fun b hb => Heap.get?_update_other _ _ (Ne.symm hb)
  have noRecord : ∀ b o, s.heap.get? b = some o → (∀ vs, o.data ≠ .fields vs) → b ≠ T := fun b o hb hnf q => by
    rw [q, hT] at hb; injection hb with hb; subst hb; exact hnf ts hdT
  refine x_entry hfr (hl.of_keeps fun b o hb hnf => ⟨o, (other b (noRecord b o hb hnf)).trans hb, rfl⟩) hf ((other e (Ne.symm hTe)).trans he)
    (fun b o hbo => (other b fun q => by rw [q, hnT] at hbo; cases hbo).trans (hkb b o hbo)) hen ho (Array.getElem?_eq_some_iff.mp h1).1
    fun h' x1 x2 => h h' x1 fun b o hb hnf => x2 b o ((other b (noRecord b o hb hnf)).trans hb) hnf
theorem x_note_again (hf : env.frame = some L) (x : Fly base l e C D c (rawInt L) s.heap) (h : Q () s) : wpAny M A (noteFrame (.ref e) env) Q E s := by
  obtain ⟨hkb, hen, hl, oe, vs, T, oT, ts, he, ho, h1, hnT, hTe, hT, hdT, h3⟩ := x
  unfold noteFrame
  simp only [hf]
  refine wpAny_bind (wpAny_field he ho.2.2.1 h1 ?_)
  rw [if_pos (show (Value.ref T != Value.none) = true from by simp)]
  refine wpAny_bind (wpAny_field hT hdT h3 ?_)
  rw [if_pos (show (rawInt L == rawInt L) = true from by simp)]
  exact wpAny_pure h
theorem x_flight {f : Option Addr} (x : Fly base l e C D c fl s.heap)
    (h : ∀ h', Fly base l e C D c (f.elim .none fun f => rawInt f) h' → s.heap.UpToSlots h' → Q () { s with heap := h' }) : wpAny M A (setFlight (.ref e) f) Q E s := by
  obtain ⟨hkb, hen, hl, oe, vs, T, oT, ts, he, ho, h1, hnT, hTe, hT, hdT, h3⟩ := x
  have hsz3 : 3 < ts.size := (Array.getElem?_eq_some_iff.mp h3).1
  have other : ∀ b, b ≠ T → (s.heap.update T (Obj.mapFields (·.setIfInBounds 3 (f.elim Value.none fun f => rawInt f)))).get? b = s.heap.get? b :=
    fun b hb => Heap.get?_update_other _ _ (Ne.symm hb)
  have noRecord : ∀ b o, s.heap.get? b = some o → (∀ vs, o.data ≠ .fields vs) → b ≠ T := fun b o hb hnf q => by
    rw [q, hT] at hb; injection hb with hb; subst hb; exact hnf ts hdT
  unfold setFlight
  refine wpAny_bind (wpAny_field he ho.2.2.1 h1 ?_)
  rw [if_pos (show (Value.ref T != Value.none) = true from by simp)]
  refine wpAny_setField hT hdT hsz3 (h _ ⟨fun b o hbo => (other b fun q => by rw [q, hnT] at hbo; cases hbo).trans (hkb b o hbo), hen,
    hl.of_keeps fun b o hb hnf => ⟨o, (other b (noRecord b o hb hnf)).trans hb, rfl⟩, oe, vs, T, _, _, (other e (Ne.symm hTe)).trans he, ho, h1, hnT, hTe,
    Heap.get?_update_self _ hT (Obj.isFreed_of_fields (Obj.data_mapFields hdT _)), Obj.data_mapFields hdT _, by simp [hsz3]⟩ fun b o hb hnf => ⟨o.slots, (other b (noRecord b o hb hnf)).trans hb⟩)
theorem x_leave_first {oe : Obj} {vs : Array Value}
    (hfr : A.frames = some (env :: outer)) (hl : s.heap.FunFrames base (env :: outer)) (hf : env.frame = some L)
    (he : s.heap.get? e = some oe) (hkb : base.StaysIn s.heap) (hen : base.get? e = none) (ho : XObj C D c oe vs) (h1 : vs[1]? = some .none)
    (h : ∀ h', Fly base outer e C D c .none h' → s.heap.UpToSlots h' → Q () { s with heap := h' }) : wpAny M A (leaving env (.ref e)) Q E s := by
  unfold leaving
  exact wpAny_bind (x_note_first hfr hl hf he hkb hen ho h1 fun h₁ x₁ u₁ => x_flight x₁ fun h₂ x₂ u₂ => h h₂ x₂.tail (u₁.trans u₂))
theorem x_leave_next (hfr : A.frames = some (env :: outer)) (hf : env.frame = some L) (x : Fly base (env :: outer) e C D c .none s.heap)
    (h : ∀ h', Fly base outer e C D c .none h' → s.heap.UpToSlots h' → Q () { s with heap := h' }) : wpAny M A (leaving env (.ref e)) Q E s := by
  unfold leaving
  exact wpAny_bind (x_note_next hfr hf x fun h₁ x₁ u₁ => x_flight x₁ fun h₂ x₂ u₂ => h h₂ x₂.tail (u₁.trans u₂))
theorem x_came_back (hf : env.frame = some L) (x : Fly base l e C D c fl s.heap) (h : ∀ h', Fly base l e C D c (rawInt L) h' → s.heap.UpToSlots h' → E (.ref e) { s with heap := h' }) : cameBackBy M A env E (.ref e) s := by
  obtain ⟨oe, vs, he, ho, h1⟩ := x.there
  have x' := x
  obtain ⟨_, _, _, oe', vs', T, _, _, he', ho', h1', _⟩ := x'
  unfold cameBackBy
  refine wpAny_bind (wpAny_field he' ho'.2.2.1 h1' ?_)
  rw [if_neg (by simp)]
  rw [hf]
  exact x_flight x fun h' x' u => h h' x' u
end
end
section
theorem ba_mro : mroOf (.type "bytearray") = pure [.type "bytearray", .type "object"] := by rw [mroOf_type]; kernel_rfl
theorem ba_lookup_new : typeLookup (.type "bytearray") "__new__" = pure (some (.builtin "bytearray.__new__")) := by rw [typeLookup_type, builtinLookup_eq_fast]; kernel_rfl
theorem ba_slot_init : Slot "bytearray" "__init__" "bytearray.__init__" :=
  .of (owner := "bytearray") (n := "__init__") (by rw [typeLookup_type, builtinLookup_eq_fast]; kernel_rfl) (by decide +kernel) (by decide +kernel) (by decide +kernel)
    (by first | exact .inl (by decide +kernel) | exact .inr (by decide +kernel)) (by rw [isSubtype_type]; kernel_rfl)
theorem ba_made : Bind.madeBy (.type "bytearray") = pure (some "bytearray.__new__") := madeBy_type ba_mro ba_lookup_new (by decide +kernel)
theorem ba_typeCall (a : Value) : checkTypeCall "bytearray" ⟨[a], []⟩ = pure () := by kernel_rfl
theorem ba_newCall (a : Value) : checkBuiltinCall "bytearray.__new__" ⟨[.type "bytearray", a], []⟩ = pure () := by kernel_rfl
theorem ba_plain_new : plainId "bytearray.__new__" = true := by decide +kernel
theorem ba_plain_init : plainId "bytearray.__init__" = true := by decide +kernel
theorem ba_entry_new : entryFor table "bytearray.__new__" = some Builtin.«list.__new__» := entryFor_alias (id' := "list.__new__") (by kernel_rfl) rfl (by decide +kernel) (by kernel_rfl)
theorem ba_entry_init : entryFor table "bytearray.__init__" = some Builtin.«bytearray.__init__» := by first | exact entryFor_of_tree (by kernel_rfl) | exact entryFor_of_fast (by kernel_rfl)
theorem ba_args_init (a b : Value) : argsOk "bytearray.__init__" ⟨[a, b], []⟩ := by unfold argsOk; kernel_rfl
theorem ba_owner : ("bytearray.__new__".splitOn ".__new__").headD "" = "bytearray" := by simp +decide [String.splitOn, String.splitOnAux]
section
variable {prog : Program} {w : World} {A : Around} {E : Value → Shared → Prop} {s : Shared}
theorem ba_new (a : Value) {Q₁ : Value → Shared → Prop} (h : Q₁ (.ref s.heap.objs.size) { s with heap := s.heap.push { cls := .type "bytearray", data := .bytearray #[] } }) :
    codeAny (model prog w) A (.call (.builtin "bytearray.__new__") ⟨[.type "bytearray", a], []⟩) (wants Q₁ E) s := by
  refine codeAny_of_tree ?_
  show wpAny _ A.in1 (do checkBuiltinCall "bytearray.__new__" ⟨[.type "bytearray", a], []⟩; again (.builtin "bytearray.__new__" ⟨[.type "bytearray", a], []⟩)) _ _ s
  refine wpAny_bind (wpAny_of_eq (ba_newCall a) (wpAny_pure ⟨plainId_quiet ba_plain_new _, codeAny_builtin_stack ba_entry_new rfl fun p st => ?_⟩))
  dsimp only
  rw [ba_owner]
  refine wpAny_bind (wpAny_of_eq (a := true) rfl ?_)
  refine bm_if_false rfl ?_
  refine wpAny_bind (wpAny_of_eq F.isi_self_bytearray ?_)
  refine bm_if_false rfl ?_
  refine wpAny_bind (wpAny_of_eq (a := .bytearray #[]) rfl ?_)
  refine bm_if_true (by decide +kernel) ?_
  refine wpAny_bind (wpAny_newObj_type ?_ (Nat.zero_le _))
  exact wpAny_pure h
theorem dPureEq {α : Type} {a b : α} {Q : α → Shared → Prop} (e : a = b) (h : Q b s) : wpD (model prog w) A (pure a) Q E s := by subst e; exact dPure h
theorem expF (id : String) (a : Args) (p : Pos) (self : Value) (h1 : dec (.builtin id a) = false) (h2 : (Code.builtin id a).isGuard = false) :
   (Builtin.Bytes.exported.match_1 (motive := fun _ => Bool) ((Code.builtin id a, p) : Code × Pos) (fun v _ _ _ => Builtin.Bytes.sameRef v self) (fun v _ _ _ => Builtin.Bytes.sameRef v self) (fun _ v _ _ _ => Builtin.Bytes.sameRef v self) (fun v _ _ _ => Builtin.Bytes.sameRef v self) (fun _ _ held _ _ => held.any (Builtin.Bytes.sameRef self)) (fun id v _ _ _ => Builtin.Bytes.sameRef v self && Builtin.Bytes.decodersThatHold.contains id) (fun _ => false)) = false := by
  delta Builtin.Bytes.exported.match_1
  refine Eq.trans (dif_neg (by intro e; subst e; revert h2; simp only [Code.isGuard]; decide +kernel)) ?_
  refine Eq.trans (dif_neg (by intro e; subst e; revert h2; simp only [Code.isGuard]; decide +kernel)) ?_
  refine Eq.trans (dif_neg (by intro e; subst e; revert h2; simp only [Code.isGuard]; decide +kernel)) ?_
  refine Eq.trans (dif_neg (by intro e; subst e; revert h2; simp only [Code.isGuard]; decide +kernel)) ?_
  refine Eq.trans (dif_neg (by intro e; subst e; revert h2; simp only [Code.isGuard]; decide +kernel)) ?_
  obtain ⟨pos, kw⟩ := a
  cases pos with
  | nil => rfl
  | cons v r =>
    show (Builtin.Bytes.sameRef v self && Builtin.Bytes.decodersThatHold.contains id) = false
    simp only [dec] at h1
    rw [h1, Bool.and_false]
theorem ba_exported {self : Value} {Q : Bool → Shared → Prop} (hg : A.guards = some []) (h : Q false s) : wpD (model prog w) A (Builtin.Bytes.exported self) Q E s := by
  unfold Builtin.Bytes.exported
  refine dBind (dStack fun st hn hgd => ?_)
  have hst := hgd [] hg
  refine dPureEq ?_ h
  rw [List.any_eq_false]
  intro x hx
  have h1 := hn x hx
  have h2 : x.1.isGuard = false := by
    cases q : x.1.isGuard with
    | false => rfl
    | true =>
      have : x.1 ∈ guardsOf st := List.mem_filter.mpr ⟨List.mem_map_of_mem hx, q⟩
      rw [hst] at this; cases this
  obtain ⟨c, p⟩ := x
  simp only at h1 h2
  cases c with
  | builtin id a => exact fun e => Bool.noConfusion ((expF id a p self h1 h2).symm.trans e)
  | _ => exact Bool.false_ne_true
end
end
section
theorem ba_release : typeLookup (.type "bytearray") "__release_buffer__" = pure (some (.builtin "bytearray.__release_buffer__")) := by rw [typeLookup_type, builtinLookup_eq_fast]; kernel_rfl
theorem ba_drop : (".".isEmpty, "bytearray.__release_buffer__".endsWith ("." ++ "__release_buffer__"), "bytearray.__release_buffer__".dropRight ("__release_buffer__".length + 1)) = (false, true, "bytearray") := by decide +kernel
theorem ba_bind (v : Value) : Builtin.Bytes.bindOptional "bytearray.__init__" "bytearray" ["source", "encoding", "errors"] [v] [] = pure [some v, none, none] := by kernel_rfl
noncomputable def baObj (b : Array UInt8) : Obj := { cls := .type "bytearray", data := .bytearray b }
section
variable {prog : Program} {w : World} {A : Around} {E : Value → Shared → Prop} {s : Shared}
theorem ba_typeIs {a : Addr} {b : Array UInt8} (h : s.heap.get? a = some (baObj b)) : s.TypeIs (.ref a) "bytearray" := ⟨_, h, rfl⟩
theorem ba_write {a : Addr} {b : Array UInt8} {f : Array UInt8 → Array UInt8} {Q : Unit → Shared → Prop} (h : s.heap.get? a = some (baObj b)) (hz : (f b).size ≤ 1000)
    (k : ∀ h', h'.get? a = some (baObj (f b)) → Heap.SameBut a s.heap h' → Q () { s with heap := h' }) : wpAny (model prog w) A (Builtin.Bytes.write (.ref a) f) Q E s := by
  show wpAny _ _ (updateBytearray a f) _ _ _
  unfold updateBytearray
  refine wpAny_bind (wpAny_load h ?_)
  show wpAny _ _ (update a (Obj.mapBytearray f) >>= fun _ => lookBehind a) _ _ _
  refine wpAny_bind (wpAny_update h ?_)
  have h2 : (s.heap.update a (Obj.mapBytearray f)).get? a = some (baObj (f b)) := Heap.get?_update_self (Obj.mapBytearray f) h rfl
  refine wpAny_lookBehind h2 ?_ (k _ h2 (Heap.SameBut.update ..))
  show (if (f b).size > sizeLine then some "bytearray:memory" else none) = none
  rw [if_neg (by rw [PySem.sizeLine_eq]; omega)]
theorem ba_ownRelease {a : Addr} {b : Array UInt8} {Q : Bool → Shared → Prop} (h : s.heap.get? a = some (baObj b)) (k : Q false s) : wpAny (model prog w) A (Builtin.Bytes.ownRelease (.ref a)) Q E s := by
  unfold Builtin.Bytes.ownRelease Builtin.Bytes.slotIsOwn
  refine wpAny_bind (wpAny_bind (wpAny_specialOf (ba_typeIs h) ba_release ?_))
  dsimp only
  refine bm_if_false (by decide +kernel) ?_
  refine wpAny_isInstance (U := ("bytearray.__release_buffer__".dropRight ("__release_buffer__".length + 1))) (b := true) (ba_typeIs h) ?_ (wpAny_pure k)
  rw [(Prod.mk.inj (Prod.mk.inj ba_drop).2).2]
  exact F.isi_self_bytearray
theorem ba_init {a : Addr} {n : Int} {t : Tok} {Q : PySem.Fin → Shared → Prop} (hg : A.guards = some []) (h : s.heap.get? a = some (baObj #[])) (h0 : 0 ≤ n) (h1 : n ≤ 100)
    (k : ∀ h', h'.get? a = some (baObj (Array.replicate n.toNat 0)) → (∀ b o, b ≠ a → s.heap.get? b = some o → h'.get? b = some o) → Q (.done (.ret .none)) { s with heap := h' }) :
    wpD (model prog w) A (Builtin.«bytearray.__init__» ⟨[.ref a, .int n t], []⟩) Q E s := by
  unfold Builtin.«bytearray.__init__»
  refine dBind (dAny (ba_ownRelease h ?_))
  show wpD _ _ (if false = true then _ else _) _ _ _
  rw [if_neg Bool.false_ne_true]
  refine dBind (dAny (wpAny_of_eq (ba_bind _) ?_))
  refine dBind (dAny (wpAny_of_eq (a := ()) rfl ?_))
  refine dBind (dAny (wpAny_of_eq (a := ()) rfl ?_))
  refine dBind ?_
  unfold orM
  refine dBind (ba_exported hg ?_)
  dsimp only [ToBool.toBool]
  refine dBind (dAny ?_)
  unfold Builtin.Bytes.exportsOf
  refine wpAny_bind (wpAny_load h ?_)
  refine wpAny_pure (dPure ?_)
  show wpD _ _ (if decide (0 > 0) = true then _ else _) _ _ _
  rw [if_neg (by decide)]
  refine dBind (dAny (ba_write h (by simp) fun h₁ g₁ k₁ => ?_))
  refine dBind (dAny (wpAny_of_eq (a := none) rfl ?_))
  show wpD _ _ (if false = true then _ else _) _ _ _
  rw [if_neg Bool.false_ne_true]
  refine dAny ?_
  refine wpAny_bind ?_
  refine bm_if_false rfl ?_
  refine bm_if_false rfl ?_
  refine wpAny_pure ?_
  refine wpAny_bind (wpAny_specialOf (typeIs_int _ n t) AutoSeq1.idx_int ?_)
  refine bm_if_true rfl ?_
  refine wpAny_bind (wpAny_attempt (wpAny_of_eq (rfl : asIndex (.int n t) = pure n) ?_))
  dsimp only
  refine bm_if_false (by simp only [Builtin.Bytes.fitsIndex, Bool.not_eq_false', Bool.and_eq_true, decide_eq_true_eq]; omega) ?_
  rw [if_neg (by omega)]
  refine bm_if_false (by rw [beq_eq_false_iff_ne]; omega) ?_
  refine bm_if_false (KBy.tooLong_not (by omega)) ?_
  refine wpAny_bind (wpAny_rule ?_)
  by_cases hn : n > 0
  · rw [if_pos hn]
    refine wpAny_bind (ba_write g₁ (by simp; omega) fun h₂ g₂ k₂ => ?_)
    exact wpAny_pure (k h₂ g₂ fun b o hb e => (k₂.2 b hb).trans ((k₁.2 b hb).trans e))
  · rw [if_neg hn]
    have : n = 0 := by omega
    subst this
    exact wpAny_pure (k h₁ g₁ fun b o hb e => (k₁.2 b hb).trans e)
theorem dBuiltin {id : String} {args : Args} {b : Builtin} {R : Result → Shared → Prop} (hd : Builtin.Bytes.decodersThatHold.contains id = false) (hb : entryFor table id = some b)
    (h : wpD (model prog w) (A.under (.builtin id args)) (b args) (fun fin s' => match fin with | .done f => R (.ok f) s' | .again c' => c'.quiet = true ∧ codeD (model prog w) A c' R s') (fun e s' => R (.error e) s') s) :
    codeD (model prog w) A (.builtin id args) R s := by
  refine dTree hd ?_
  show wpD _ _ (match entryFor table id with | some b => b args | none => unsupported ((withoutEnding? id "#data").getD id)) _ _ s
  rw [hb]; exact h
theorem dCallBuiltin {id : String} {args : Args} {b : Builtin} {R : Result → Shared → Prop} (hq : plainId id = true) (hd : Builtin.Bytes.decodersThatHold.contains id = false) (hb : entryFor table id = some b)
    (h : wpAny (model prog w) A.in1 (checkBuiltinCall id args) (fun _ s₁ => wpD (model prog w) A.in1 (b args)
      (fun fin s' => match fin with | .done f => R (.ok f) s' | .again c' => c'.quiet = true ∧ codeD (model prog w) A c' R s') (fun e s' => R (.error e) s') s₁) (fun e s' => R (.error e) s') s) :
    codeD (model prog w) A (.call (.builtin id) args) R s := by
  refine dTree rfl ?_
  show wpD _ A.in1 (callAny (.builtin id) args) _ _ s
  refine dBind (dAny (wpAny_mono h (fun _ s₁ h₁ => ?_) fun _ _ x => x))
  refine dPure ⟨plainId_quiet hq args, dBuiltin hd hb ?_⟩
  rw [Around.under_plainId hq args]
  exact h₁
theorem dIfF {α : Type} {c : Bool} {a b : Sem α} {Q : α → Shared → Prop} (hc : c = false) (h : wpD (model prog w) A b Q E s) : wpD (model prog w) A (if c = true then a else b) Q E s := by subst hc; exact h
theorem dIfT {α : Type} {c : Bool} {a b : Sem α} {Q : α → Shared → Prop} (hc : c = true) (h : wpD (model prog w) A a Q E s) : wpD (model prog w) A (if c = true then a else b) Q E s := by subst hc; exact h
theorem ba_canCreate : ((Manifest.find? "bytearray").bind (·.mro.findSome? fun t => (Manifest.find? t).bind fun b => if b.noNew then some true else if b.attrs.any (·.1 == "__new__") then some false else none)).getD false = false := by decide +kernel
theorem ba_call {n : Int} {t : Tok} {Q : Value → Shared → Prop} (hg : A.guards = some []) (h0 : 0 ≤ n) (h1 : n ≤ 100)
    (k : ∀ h', h'.get? s.heap.objs.size = some (baObj (Array.replicate n.toNat 0)) → s.heap.StaysIn h' → Q (.ref s.heap.objs.size) { s with heap := h' }) :
    wpD (model prog w) A (call (.type "bytearray") [.int n t]) Q E s := by
  refine dCall (dTree rfl ?_)
  show wpD _ _ (callAny (.type "bytearray") _) _ _ _
  refine dPure ⟨Code.quiet_builtin _ (by decide +kernel), dBuiltin (by decide +kernel) F.entry_type_call ?_⟩
  rw [Around.under_plain (weight_type_call_type "bytearray" _ []) (units_type_call_type "bytearray" _ [])]
  unfold Builtin.«type.__call__»
  dsimp only
  refine dIfF (by decide +kernel) ?_
  refine dIfF ba_canCreate ?_
  refine dBind (dAny (wpAny_of_eq (ba_typeCall _) ?_))
  refine dBind (dAny (wpAny_of_eq ba_mro ?_))
  refine dIfF rfl ?_
  refine dBind (dAny (wpAny_of_eq ba_made ?_))
  dsimp only
  refine dBind (dPure ?_)
  refine dBind (dHold (dCall (dCode (codeAny_mono (ba_new (.int n t) (Q₁ := fun v s₁ => v = .ref s.heap.objs.size ∧ s₁ = { s with heap := s.heap.push (baObj #[]) }) (E := fun _ _ => False) ⟨rfl, rfl⟩) fun r s₁ hr => ?_))))
  cases r with
  | error e => exact hr.elim
  | ok fl =>
    cases fl with
    | ret obj =>
      obtain ⟨rfl, rfl⟩ := hr
      have g₀ : (s.heap.push (baObj #[])).get? s.heap.objs.size = some (baObj #[]) := Heap.get?_push_size _ rfl
      dsimp only
      refine dBind (dAny (wpAny_isInstance (b := true) (ba_typeIs g₀) F.isi_self_bytearray ?_))
      refine dIfF rfl ?_
      refine dBind (dHold ?_)
      unfold callSpecial?
      refine dBind (dAny (wpAny_specialOf (ba_typeIs g₀) ba_slot_init.lookup ?_))
      dsimp only
      refine dHold (dBind (dAny (wpAny_of_eq (ba_slot_init.bind _) ?_)))
      dsimp only
      refine dBind (dCall (dCodeMono (dCallBuiltin (R := fun r s₂ => r = .ok (.ret .none) ∧ ∃ h', s₂ = { s with heap := h' } ∧ h'.get? s.heap.objs.size = some (baObj (Array.replicate n.toNat 0)) ∧ s.heap.StaysIn h') ba_plain_init (by decide +kernel) ba_entry_init ?_) ?_))
      · refine ba_slot_init.check _ _ _ _ _ _ _ _ (ba_typeIs g₀) (ba_args_init _ _) ?_
        refine ba_init (s := { s with heap := s.heap.push (baObj #[]) }) hg g₀ h0 h1 (fun h' g' k' => ?_)
        exact ⟨rfl, h', rfl, g', fun b o e => k' b o (Nat.ne_of_lt (Heap.lt_size e)) (Heap.get?_push_of_some _ e)⟩
      · rintro r s₂ ⟨rfl, h', rfl, g', st⟩
        dsimp only
        refine dPure ?_
        dsimp only
        refine dIfF (by decide) ?_
        exact dPure (k h' g' st)
    | _ => exact hr.elim
end
end
section
theorem ba_slot_set : Slot "bytearray" "__setitem__" "bytearray.__setitem__" :=
  .of (owner := "bytearray") (n := "__setitem__") (by rw [typeLookup_type, builtinLookup_eq_fast]; kernel_rfl) (by decide +kernel) (by decide +kernel) (by decide +kernel)
    (by first | exact .inl (by decide +kernel) | exact .inr (by decide +kernel)) (by rw [isSubtype_type]; kernel_rfl)
theorem ba_entry_set : entryFor table "bytearray.__setitem__" = some Builtin.«bytearray.__setitem__» := by first | exact entryFor_of_tree (by kernel_rfl) | exact entryFor_of_fast (by kernel_rfl)
theorem ba_args_set (a b c : Value) : argsOk "bytearray.__setitem__" ⟨[a, b, c], []⟩ := by unfold argsOk; kernel_rfl
theorem ba_no_bytes : typeLookup (.type "bytearray") "__bytes__" = pure none := by rw [typeLookup_type, builtinLookup_eq_fast]; kernel_rfl
theorem ba_no_index : typeLookup (.type "bytearray") "__index__" = pure none := by rw [typeLookup_type, builtinLookup_eq_fast]; kernel_rfl
theorem ba_buffer : typeLookup (.type "bytearray") "__buffer__" = pure (some (.builtin "bytearray.__buffer__")) := by rw [typeLookup_type, builtinLookup_eq_fast]; kernel_rfl
theorem ba_dropB : (".".isEmpty, "bytearray.__buffer__".endsWith ("." ++ "__buffer__"), "bytearray.__buffer__".dropRight ("__buffer__".length + 1)) = (false, true, "bytearray") := by decide +kernel
theorem int_no_bytes : typeLookup (.type "int") "__bytes__" = pure none := by rw [typeLookup_type, builtinLookup_eq_fast]; kernel_rfl
section
variable {prog : Program} {w : World} {A : Around} {E : Value → Shared → Prop} {s : Shared}
theorem ba_setItem {a : Addr} {b : Array UInt8} {i v : Int} {t u : Tok} {Q : Unit → Shared → Prop} (h : s.heap.get? a = some (baObj b)) (hz : b.size ≤ 1000) (h0 : 0 ≤ i) (h1 : i < b.size) (hv0 : 0 ≤ v) (hv1 : v < 256)
    (k : ∀ h', h'.get? a = some (baObj (b.setIfInBounds i.toNat v.toNat.toUInt8)) → Heap.SameBut a s.heap h' → Q () { s with heap := h' }) :
    wpAny (model prog w) A (setItem (.ref a) (.int i t) (.int v u)) Q E s := by
  have hT := ba_typeIs h
  unfold setItem
  try with_reducible refine wpAny_holding ?_
  first | refine wpAny_bind (wpAny_pure ?_) | skip
  refine wpAny_bind (wpAny_sequenceKey hT (by decide) ?_)
  refine wpAny_bind (wpAny_callSpecial?_slot (name := Str.ofString "__setitem__") hT ba_slot_set (wpAny_call_entry ba_slot_set hT ba_entry_set ?_ (ba_args_set _ _ _)))
  unfold Builtin.«bytearray.__setitem__»
  refine bm_if_false rfl ?_
  dsimp only
  refine wpAny_bind ?_
  unfold Builtin.Bytes.subscript?
  refine wpAny_bind (wpAny_specialOf (typeIs_int _ i t) AutoSeq1.idx_int ?_)
  refine bm_if_false rfl ?_
  refine wpAny_bind (wpAny_of_eq (rfl : asIndex (.int i t) = pure i) ?_)
  refine bm_if_false (by simp only [Builtin.Bytes.fitsIndex, Bool.not_eq_false', Bool.and_eq_true, decide_eq_true_eq]; omega) ?_
  refine wpAny_pure ?_
  dsimp only
  refine wpAny_bind ?_
  unfold Builtin.Bytes.byteValue
  refine wpAny_bind (wpAny_of_eq (rfl : asIndex (.int v u) = pure v) ?_)
  refine bm_if_false (by simp only [Bool.or_eq_false_iff, decide_eq_false_iff_not]; omega) ?_
  refine wpAny_pure ?_
  refine wpAny_bind ?_
  unfold Builtin.Bytes.payload Builtin.Bytes.payload?
  refine wpAny_bind (wpAny_bind (wpAny_load h ?_))
  refine wpAny_pure (wpAny_pure ?_)
  have hs : seqIndex? i b.size = some i.toNat := by
    have e : (if i < 0 then i + (b.size : Int) else i) = i := if_neg (by omega)
    show (if (decide (0 ≤ (if i < 0 then i + (b.size : Int) else i)) && decide ((if i < 0 then i + (b.size : Int) else i) < (b.size : Int))) = true then some (if i < 0 then i + (b.size : Int) else i).toNat else none) = _
    rw [e]
    exact if_pos (by simp only [Bool.and_eq_true, decide_eq_true_eq]; exact ⟨h0, h1⟩)
  rw [hs]
  dsimp only
  refine wpAny_bind (ba_write h (by rw [Array.size_setIfInBounds]; exact hz) fun h' g' k' => ?_)
  exact wpAny_pure ⟨.none, rfl, wpAny_pure (k h' g' k')⟩
theorem ba_bufferGet {a : Addr} {b : Array UInt8} {id : String} {Q : Option (Array UInt8) → Shared → Prop} (h : s.heap.get? a = some (baObj b)) (k : Q (some b) s) : wpAny (model prog w) A (Builtin.Bytes.buffer? id (.ref a) true) Q E s := by
  have hT := ba_typeIs h
  unfold Builtin.Bytes.buffer?
  refine wpAny_bind (wpAny_specialOf hT ba_buffer ?_)
  try dsimp only
  refine wpAny_bind ?_
  unfold Builtin.Bytes.slotIsOwn
  refine wpAny_bind (wpAny_specialOf hT ba_buffer ?_)
  try dsimp only
  refine bm_if_false (by decide +kernel) ?_
  refine wpAny_isInstance (U := ("bytearray.__buffer__".dropRight ("__buffer__".length + 1))) (b := true) hT (by rw [(Prod.mk.inj (Prod.mk.inj ba_dropB).2).2]; exact F.isi_self_bytearray) ?_
  refine bm_if_false rfl ?_
  refine wpAny_bind (wpAny_specialOf hT ba_buffer ?_)
  try dsimp only
  refine wpAny_bind (ba_ownRelease h ?_)
  refine bm_if_false rfl ?_
  refine wpAny_bind ?_
  unfold Builtin.Bytes.payload Builtin.Bytes.payload?
  refine wpAny_bind (wpAny_bind (wpAny_load h ?_))
  exact wpAny_pure (wpAny_pure (wpAny_pure k))
theorem ba_bytes_new {a : Addr} {b : Array UInt8} {Q : Value → Shared → Prop} (h : s.heap.get? a = some (baObj b)) (hz : b.size ≤ 1000) (k : ∀ t tk, Q (.bytes b t) { s with toks := tk }) :
    codeAny (model prog w) A (.call (.builtin "bytes.__new__") ⟨[.type "bytes", .ref a], []⟩) (wants Q E) s := by
  have hT := ba_typeIs h
  refine codeAny_of_tree ?_
  show wpAny _ A.in1 (do checkBuiltinCall "bytes.__new__" ⟨[.type "bytes", .ref a], []⟩; again (.builtin "bytes.__new__" ⟨[.type "bytes", .ref a], []⟩)) _ _ s
  refine wpAny_bind (wpAny_of_eq (F.bm_newCall _) (wpAny_pure ⟨plainId_quiet F.bm_plain _, codeAny_builtin F.bm_entry ?_⟩))
  rw [Around.under_plainId F.bm_plain _]
  unfold Builtin.«bytes.__new__»
  refine wpAny_bind (wpAny_of_eq (a := true) rfl ?_)
  refine bm_if_false rfl ?_
  refine wpAny_bind (wpAny_of_eq F.bm_sub ?_)
  refine bm_if_false rfl ?_
  refine wpAny_bind (wpAny_of_eq (F.bm_bind _) ?_)
  refine wpAny_bind (wpAny_of_eq (a := ()) rfl ?_)
  refine wpAny_bind (wpAny_of_eq (a := ()) rfl ?_)
  refine bm_if_false rfl ?_
  refine wpAny_bind (wpAny_specialOf hT ba_no_bytes ?_)
  refine wpAny_bind (wpAny_bind ?_)
  show wpAny _ _ (load a >>= _) _ _ _
  refine wpAny_bind (wpAny_load h ?_)
  refine wpAny_pure (wpAny_pure ?_)
  refine bm_if_false rfl ?_
  refine wpAny_bind (wpAny_specialOf hT ba_no_index ?_)
  refine bm_if_true rfl ?_
  first
    | show wpAny _ _ (Builtin.Bytes.buffer? "bytes.__new__" (.ref a) true >>= _) _ _ _
    | (refine wpAny_bind ?_; show wpAny _ _ (Builtin.Bytes.buffer? "bytes.__new__" (.ref a) true >>= _) _ _ _)
  refine wpAny_bind (ba_bufferGet h ?_)
  refine wpAny_bind (wpAny_rule ?_)
  refine wpAny_bind (wpAny_mkBytes ?_ (by rw [PySem.sizeLine_eq]; omega))
  first
    | exact wpAny_bind (bm_if_true (by decide +kernel) (wpAny_pure (wpAny_pure (k _ _))))
    | exact bm_if_true (by decide +kernel) (wpAny_bind (wpAny_pure (wpAny_pure (k _ _))))
    | exact bm_if_true (by decide +kernel) (wpAny_pure (k _ _))
theorem ba_bytes {a : Addr} {b : Array UInt8} {Q : Value → Shared → Prop} (h : s.heap.get? a = some (baObj b)) (hz : b.size ≤ 1000) (k : ∀ t tk, Q (.bytes b t) { s with toks := tk }) :
    wpAny (model prog w) A (call (.type "bytes") [.ref a]) Q E s := by
  refine callType_codes (Q₁ := fun obj s₁ => s₁.TypeIs obj "bytes" ∧ Q obj s₁) F.bm_called (F.bm_typeCall _) F.entry_object_init
    (ba_bytes_new h hz fun t tk => ⟨PySem.W.typeIs_bytes _ _ _, k t tk⟩) fun obj s₁ h₁ => ?_
  exact ⟨h₁.1, F.args_object_init_2 obj _, object_init_meets F.bm_called.init.lookup F.bm_called.made (by decide) prog w A.in1 _ s₁ ⟨h₁.1, rfl, h₁.2⟩⟩
theorem bi_bytes_new {n : Int} {u : Tok} {Q : Value → Shared → Prop} (h0 : 0 ≤ n) (h1 : n ≤ 1000) (k : ∀ t tk, Q (.bytes (Array.replicate n.toNat 0) t) { s with toks := tk }) :
    codeAny (model prog w) A (.call (.builtin "bytes.__new__") ⟨[.type "bytes", .int n u], []⟩) (wants Q E) s := by
  refine codeAny_of_tree ?_
  show wpAny _ A.in1 (do checkBuiltinCall "bytes.__new__" ⟨[.type "bytes", .int n u], []⟩; again (.builtin "bytes.__new__" ⟨[.type "bytes", .int n u], []⟩)) _ _ s
  refine wpAny_bind (wpAny_of_eq (F.bm_newCall _) (wpAny_pure ⟨plainId_quiet F.bm_plain _, codeAny_builtin F.bm_entry ?_⟩))
  rw [Around.under_plainId F.bm_plain _]
  unfold Builtin.«bytes.__new__»
  refine wpAny_bind (wpAny_of_eq (a := true) rfl ?_)
  refine bm_if_false rfl ?_
  refine wpAny_bind (wpAny_of_eq F.bm_sub ?_)
  refine bm_if_false rfl ?_
  refine wpAny_bind (wpAny_of_eq (F.bm_bind _) ?_)
  refine wpAny_bind (wpAny_of_eq (a := ()) rfl ?_)
  refine wpAny_bind (wpAny_of_eq (a := ()) rfl ?_)
  refine bm_if_false rfl ?_
  refine wpAny_bind (wpAny_specialOf (typeIs_int _ n u) int_no_bytes ?_)
  refine wpAny_bind (wpAny_of_eq (a := false) rfl ?_)
  refine bm_if_false rfl ?_
  refine wpAny_bind (wpAny_specialOf (typeIs_int _ n u) AutoSeq1.idx_int ?_)
  refine bm_if_false rfl ?_
  refine wpAny_bind (wpAny_attempt (wpAny_of_eq (rfl : asIndex (.int n u) = pure n) ?_))
  try dsimp only
  refine bm_if_false (by simp only [Builtin.Bytes.fitsIndex, Bool.not_eq_false', Bool.and_eq_true, decide_eq_true_eq]; omega) ?_
  rw [if_neg (by omega), if_neg (by omega)]
  refine bm_if_false (KBy.tooLong_not (by omega)) ?_
  refine wpAny_bind (wpAny_rule ?_)
  refine wpAny_bind (wpAny_mkBytes ?_ (by rw [PySem.sizeLine_eq, Array.size_replicate]; omega))
  first
    | exact wpAny_bind (bm_if_true (by decide +kernel) (wpAny_pure (wpAny_pure (k _ _))))
    | exact bm_if_true (by decide +kernel) (wpAny_bind (wpAny_pure (wpAny_pure (k _ _))))
    | exact bm_if_true (by decide +kernel) (wpAny_pure (k _ _))
theorem bi_bytes {n : Int} {u : Tok} {Q : Value → Shared → Prop} (h0 : 0 ≤ n) (h1 : n ≤ 1000) (k : ∀ Y t tk, KBw.bInts Y = List.replicate n.toNat 0 → Q (.bytes Y t) { s with toks := tk }) :
    wpAny (model prog w) A (call (.type "bytes") [.int n u]) Q E s := by
  have e : KBw.bInts (Array.replicate n.toNat 0) = List.replicate n.toNat 0 := by
    unfold KBw.bInts
    rw [Array.toList_replicate, List.map_replicate]; rfl
  refine callType_codes (Q₁ := fun obj s₁ => s₁.TypeIs obj "bytes" ∧ Q obj s₁) F.bm_called (F.bm_typeCall _) F.entry_object_init
    (bi_bytes_new h0 h1 fun t tk => ⟨PySem.W.typeIs_bytes _ _ _, k _ t tk e⟩) fun obj s₁ h₁ => ?_
  exact ⟨h₁.1, F.args_object_init_2 obj _, object_init_meets F.bm_called.init.lookup F.bm_called.made (by decide) prog w A.in1 _ s₁ ⟨h₁.1, rfl, h₁.2⟩⟩
end
end
section
section
variable {prog : Program} {w : World} {A : Around} {s : Shared} {R : Result → Shared → Prop}
theorem dFunc {body : List Stmt} {env : Env} (h : wpD (model prog w) (A.deeper env) (execs body env) (fun f s' => R (.ok (.ret (match f with | .ret v => v | _ => .none))) s')
      (fun e s' => wpAny (model prog w) (A.deeper env) (leaving env e) (fun _ s'' => R (.error e) s'') (fun e' s'' => R (.error e') s'') s') s) : codeD (model prog w) A (.func body env) R s := by
  refine dTree rfl ?_
  show wpD _ (A.deeper env) (do point; match ← (execs body env).onRaise (leaving env) with | .ret v => ret v | _ => ret .none) _ _ s
  refine dBind (dAny (wpAny_point (dBind (dOnRaise (dMono h (fun f s' h' => ?_) fun _ _ x => x)))))
  cases f <;> exact dPure h'
end
section
variable {w : World} {p : Program} {loose : List Str} {mean : ExcName → Option Value} {mg mb : Str → Option Value} {f : Addr} {vs : List Value} {d u : Nat} {P : Heap → Heap → Value → Prop}
theorem dEnter {K : Frag} {A : Around} {s : Shared} {R : Result → Shared → Prop} {name qual : Str} {params : Arguments} {body : List Stmt} {scope : Scope} {dV kV doc pm cdv ct oc : Value} {an od : Option Addr} {osl : Array (Option Value)} {binds : List (Str × Value)} {prog : Program} {args : Args}
    (X : K.In s.heap) (T : Top p loose mean mg mb s.heap)
    (ho : K.lookup f = some ⟨oc, od, .func (fnOf name qual params body scope dV kV doc pm an cdv ct), osl⟩) (hcd : codeIn K cdv qual = true) (hroom : A.depth < recursionLimit)
    (hbind : BindsTo s (fnOf name qual params body scope dV kV doc pm an cdv ct) args binds) (hloc : ∀ y ∈ binds, scope.names.lookup y.1 = some .local)
    (h : ∀ L h₁, Fr s.heap L h₁ (bmap binds.reverse) → News s.heap L h₁ [] →
      wpD (model prog w) (A.deeper (envOf qual scope L f cdv)) (execs body (envOf qual scope L f cdv)) (fun fl s' => R (.ok (.ret (match fl with | .ret v => v | _ => .none))) s')
        (fun e s' => wpAny (model prog w) (A.deeper (envOf qual scope L f cdv)) (leaving (envOf qual scope L f cdv) e) (fun _ s'' => R (.error e) s'') (fun e' s'' => R (.error e') s'') s')
        { s with heap := h₁, toks := s.toks + binds.length })
    (hco : scope.isCoroutine = false) (hgen : scope.isGenerator = false) (hk : scope.kind = .function)
    (hcell : ∀ x ∈ scope.names, x.2 ≠ .cell) : codeD (model prog w) A (.call (.ref f) args) R s := by
  refine dTree rfl ?_
  show wpD _ A.in1 (callAny (.ref f) args) _ _ s
  simp only [callAny]
  refine dBind (dAny (wpAny_load (X _ _ ho) ?_))
  obtain ⟨c, oc', vs', tq, hc, hoc, hdc, hq⟩ := codeRec_of X hcd
  simp only [fnOf, callFunction, hco, hgen, hc]
  refine dBind (m := field (.ref c) 1) (dAny (wpAny_field hoc hdc hq (dBind (dPure ?_))))
  have hb := hbind (model prog w) A.in1
  simp only [fnOf, hc] at hb
  refine dBind (dAny (hb _ _ (dBind (dAny (wpAny_newFunctionEnv hcell hloc (fun h₀ hns₀ hsb₀ => dBind (dAny (wpAny_enterFrame (T.nolimit.fresh _ hsb₀) hroom (dPure (And.intro rfl (dFunc ?_)))))) hk)))))
  rw [bmap_eq] at hns₀
  have F : Fr s.heap s.heap.objs.size h₀ (bmap binds.reverse) := ⟨hns₀, fun b o e => hsb₀.extBut b o (Nat.ne_of_lt (Heap.lt_size e)) (Heap.get?_push_of_some _ e), Nat.le_refl _⟩
  have := h _ h₀ F News.nil
  rw [← hc]
  exact this
noncomputable def DCon (w : World) (p : Program) (loose : List Str) (mean : ExcName → Option Value) (mg mb : Str → Option Value) (f : Addr) (vs : List Value) (d u : Nat) (P : Heap → Heap → Value → Prop) : Prop :=
  ∀ (A : Around) (base : Heap) (l : List Env) (s : Shared), A.handled = none → A.guards = some [] → Below A base l s.heap → (hd.heap_39 w.params).In s.heap → Top p loose mean mg mb s.heap →
    A.depth + d < recursionLimit → A.units + u < cLine →
    codeD (model PySem.Challenge.rw_no0081_01.row.prog w) A (.call (.ref f) ⟨vs, []⟩) (fun r s' => ∃ v h' tk', r = .ok (.ret v) ∧ s' = { s with heap := h', toks := tk' } ∧ P s.heap h' v ∧ s.heap.StaysIn h') s
theorem dcon_of (h : ∀ (dp un : Nat) (base : Heap) (l : List Env) (s : Shared) (R : Result → Shared → Prop),
    Below ⟨none, dp, some l, some [], un⟩ base l s.heap → (hd.heap_39 w.params).In s.heap → Top p loose mean mg mb s.heap → dp + d < recursionLimit → un + u < cLine →
    (∀ v h' tk', P s.heap h' v → s.heap.StaysIn h' → R (.ok (.ret v)) { s with heap := h', toks := tk' }) →
    codeD (model PySem.Challenge.rw_no0081_01.row.prog w) ⟨none, dp, some l, some [], un⟩ (.call (.ref f) ⟨vs, []⟩) R s) : DCon w p loose mean mg mb f vs d u P := by
  intro A base l s hh hg B X T hd hu
  obtain ⟨ha, dp, fr, gd, un⟩ := A
  have e := B.stack
  simp only at hh e hg
  subst hh; subst e; subst hg
  exact h dp un base l s _ B X T hd hu fun v h' tk' hp st => ⟨v, h', tk', rfl, rfl, hp, st⟩
section
variable {A A₀ : Around} {base h₀ : Heap} {outer : List Env} {L a : Addr} {m : Str → Option Value} {cn : Str} {cs : Scope} {ccd : Value} {news : List (Addr × Obj)} {s : Shared} {Q E : Value → Shared → Prop}
theorem dUse (C : DCon w p loose mean mg mb f vs d u P) (B : Below A₀ base outer h₀) (F : Fr h₀ L s.heap m) (X : (hd.heap_39 w.params).In h₀) (N : News h₀ L s.heap news) (T : Top p loose mean mg mb h₀)
    (hA : A.frames = some (envOf cn cs L a ccd :: outer)) (hh : A.handled = none) (hg : A.guards = some []) (hk : cs.kind = .function) (hdp : A.depth + d < recursionLimit) (hun : A.units + u < cLine)
    (k : ∀ v h' tk', P s.heap h' v → s.heap.StaysIn h' → Fr h₀ L h' m → News h₀ L h' news → Q v { s with heap := h', toks := tk' }) :
    wpD (model PySem.Challenge.rw_no0081_01.row.prog w) A (call (.ref f) vs) Q E s := by
  have B₁ := B.push (name := cn) (scope := cs) (a := a) (cd := ccd) F hk
  refine dCall (dCodeMono (C A base _ s hh hg ⟨hA, B₁.stays, B₁.frames⟩ (X.keeps F.keep) (T.keeps F.keep) hdp hun) ?_)
  rintro r s' ⟨v, h', tk', rfl, rfl, hp, st⟩
  exact k v h' tk' hp st (Fr.stays F st) (News.stays N st)
end
end
section
variable {M : Model} {A : Around} {E : Value → Shared → Prop} {s : Shared} {env : Env}
theorem dCallWithT {T : String} {pos : Pos} {e : PySem.Expr} {rest : List PySem.Expr} {Q : Value → Shared → Prop}
    (h : wpD M A (spliced (backTo pos (starEach (e :: rest) env))) (fun vs s₁ => wpD M A (call (.type T) vs) Q E s₁) E s)
    (he : starEach (e :: rest) env = (false, eval e env) :: starEach rest env := by rfl) (hplain : (backTo pos (starEach rest env)).any (·.1) = false := by rfl) :
    wpD M A (callWith pos (.type T) [] (backTo pos (starEach (e :: rest) env)) []) Q E s := by
  rw [he] at h ⊢
  have hp : (((backTo pos ((false, eval e env) :: starEach rest env)).any (·.1)) || ([] : List (Option Str × Sem Value)).any (·.1.isNone)) = false := by
    show ((false || (backTo pos (starEach rest env)).any (·.1)) || false) = false
    rw [hplain]; rfl
  unfold callWith
  refine dBind (dHold (dMono (dEvalArgs (Q := fun a s₁ => wpD M A (call (.type T) a.pos a.kw) Q E s₁) h) (fun a s₁ h₁ => dBind (dAny (wpAny_standAt ?_))) fun _ _ x => x))
  simp only [hp]
  refine dBind (dPure ?_)
  exact dBind (dMono h₁ (fun r s₂ hr => dBind (dHold (dAny (wpAny_point (dPure hr))))) fun _ _ x => x)
end
theorem newsNew {h₀ h h' : Heap} {L : Addr} {m : Str → Option Value} {news : List (Addr × Obj)} {o : Obj} (F : Fr h₀ L h m) (N : News h₀ L h news) (st : h.StaysIn h') (g : h'.get? h.objs.size = some o) :
    Fr h₀ L h' m ∧ News h₀ L h' ((h.objs.size, o) :: news) ∧ ∀ q ∈ news, q.1 < h.objs.size := by
  refine ⟨Fr.stays F st, fun q hq => ?_, fun q hq => Heap.lt_size (N q hq).1⟩
  rcases List.mem_cons.mp hq with rfl | hq
  · obtain ⟨oL, _, _, hL, _⟩ := F.ns
    refine ⟨g, Nat.ne_of_gt (Heap.lt_size hL), ?_⟩
    cases e : h₀.get? h.objs.size with
    | none => rfl
    | some o' => exact absurd (Heap.lt_size (F.keep _ _ e)) (Nat.lt_irrefl _)
  · exact News.stays N st q hq
end
section
theorem In.keepsF {K : Frag} {h₀ h : Heap} {L : Addr} {m : Str → Option Value} (X : K.In h₀) (F : Fr h₀ L h m) : K.In h := X.keeps F.keep
section
variable {w : World} {p : Program} {loose : List Str} {mean : ExcName → Option Value} {mg mb : Str → Option Value} {f : Addr} {vs : List Value} {d u : Nat} {P : Heap → Heap → Value → Prop}
variable {A A₀ : Around} {base h₀ : Heap} {outer : List Env} {L a : Addr} {m : Str → Option Value} {cn : Str} {cs : Scope} {ccd : Value} {news : List (Addr × Obj)} {s : Shared} {Q E : Value → Shared → Prop}
theorem dUseB {ns : List Int} (C : DCon w p loose mean mg mb f vs d u (isB ns)) (B : Below A₀ base outer h₀) (F : Fr h₀ L s.heap m) (X : (hd.heap_39 w.params).In h₀) (N : News h₀ L s.heap news) (T : Top p loose mean mg mb h₀)
    (hA : A.frames = some (envOf cn cs L a ccd :: outer)) (hh : A.handled = none) (hg : A.guards = some []) (hk : cs.kind = .function) (hdp : A.depth + d < recursionLimit) (hun : A.units + u < cLine)
    (k : ∀ Y t h' tk', KBw.bInts Y = ns → Fr h₀ L h' m → News h₀ L h' news → Q (.bytes Y t) { s with heap := h', toks := tk' }) :
    wpD (model PySem.Challenge.rw_no0081_01.row.prog w) A (call (.ref f) vs) Q E s :=
  dUse C B F X N T hA hh hg hk hdp hun fun v h' tk' hP _ F' N' => by obtain ⟨Y, t, e, hY⟩ := hP; subst e; exact k Y t h' tk' hY F' N'
theorem dUseL {ns : List Int} {n : Nat} (C : DCon w p loose mean mg mb f vs d u (isB ns)) (hl : ns.length = n) (B : Below A₀ base outer h₀) (F : Fr h₀ L s.heap m) (X : (hd.heap_39 w.params).In h₀) (N : News h₀ L s.heap news) (T : Top p loose mean mg mb h₀)
    (hA : A.frames = some (envOf cn cs L a ccd :: outer)) (hh : A.handled = none) (hg : A.guards = some []) (hk : cs.kind = .function) (hdp : A.depth + d < recursionLimit) (hun : A.units + u < cLine)
    (k : ∀ Y t h' tk' zs, KBw.bInts Y = zs → zs = ns → zs.length = n → Fr h₀ L h' m → News h₀ L h' news → Q (.bytes Y t) { s with heap := h', toks := tk' }) :
    wpD (model PySem.Challenge.rw_no0081_01.row.prog w) A (call (.ref f) vs) Q E s :=
  dUse C B F X N T hA hh hg hk hdp hun fun v h' tk' hP _ F' N' => by obtain ⟨Y, t, e, hY⟩ := hP; subst e; exact k Y t h' tk' ns hY rfl hl F' N'
theorem useL {ns : List Int} {n : Nat} (C : Con w p loose mean mg mb f vs d u (isB ns)) (hl : ns.length = n) (B : Below A₀ base outer h₀) (F : Fr h₀ L s.heap m) (X : (hd.heap_39 w.params).In h₀) (N : News h₀ L s.heap news) (T : Top p loose mean mg mb h₀)
    (hA : A.frames = some (envOf cn cs L a ccd :: outer)) (hh : A.handled = none) (hk : cs.kind = .function) (hdp : A.depth + d < recursionLimit) (hun : A.units + u < cLine)
    (k : ∀ Y t h' tk' zs, KBw.bInts Y = zs → zs = ns → zs.length = n → Fr h₀ L h' m → News h₀ L h' news → Q (.bytes Y t) { s with heap := h', toks := tk' }) :
    wpAny (model PySem.Challenge.rw_no0081_01.row.prog w) A (call (.ref f) vs) Q E s :=
  use C B F X N T hA hh hk hdp hun fun v h' tk' hP _ F' N' => by obtain ⟨Y, t, e, hY⟩ := hP; subst e; exact k Y t h' tk' ns hY rfl hl F' N'
end
section
variable {w : World} {p : Program} {loose : List Str} {mean : ExcName → Option Value} {mg mb : Str → Option Value} {f : Addr}
theorem enterC {K : Frag} {A : Around} {s : Shared} {R : Result → Shared → Prop} {name qual : Str} {params : Arguments} {body : List Stmt} {scope : Scope} {dV kV doc pm cdv ct oc : Value} {an od : Option Addr} {osl : Array (Option Value)} {binds : List (Str × Value)} {prog : Program} {args : Args}
    (X : K.In s.heap) (T : Top p loose mean mg mb s.heap)
    (ho : K.lookup f = some ⟨oc, od, .func (fnOf name qual params body scope dV kV doc pm an cdv ct), osl⟩) (hcd : codeIn K cdv qual = true) (hroom : A.depth < recursionLimit)
    (hbind : BindsTo s (fnOf name qual params body scope dV kV doc pm an cdv ct) args binds) (hkind : (binds.all fun y => scope.names.lookup y.1 == some .local || scope.names.lookup y.1 == some .cell) = true)
    (hnd : ((cellsFrom 0 scope.names []).map (·.1)).Nodup)
    (h : ∀ L h₁ tk cells, Fr s.heap L h₁ (bindL (envOfC qual scope L f cdv).kindOf binds fun _ => none) → News s.heap L h₁ cells →
      CellsAre (bindC (envOfC qual scope L f cdv).kindOf binds fun _ => none) (cellsFrom (L + 1) scope.names []) cells →
      wpAny (model prog w) (A.deeper (envOfC qual scope L f cdv)) (execs body (envOfC qual scope L f cdv)) (fun fl s' => R (.ok (.ret (match fl with | .ret v => v | _ => .none))) s')
        (fun e s' => wpAny (model prog w) (A.deeper (envOfC qual scope L f cdv)) (leaving (envOfC qual scope L f cdv) e) (fun _ s'' => R (.error e) s'') (fun e' s'' => R (.error e') s'') s')
        { s with heap := h₁, toks := tk })
    (hco : scope.isCoroutine = false) (hgen : scope.isGenerator = false) (hk : scope.kind = .function) : codeAny (model prog w) A (.call (.ref f) args) R s := by
  refine codeAny_call_function hroom (X _ _ ho) rfl hco hgen rfl (codeRec_of X hcd) (hbind _ _ _ _ ?_)
  refine wpAny_newFunctionEnv_cells hk (kindsX hkind _) fun env' he s' x => ?_
  subst he
  refine ⟨T.nolimit.keeps x.toInCall.keep, codeAny_func ?_⟩
  obtain ⟨h₁, tk, rfl, _⟩ := x.done
  have hk₁ := x.toInCall.keep
  obtain ⟨cells, NC, Y⟩ := Cl.news (h₀ := s.heap) (Nat.le_refl _) fun n c hm => ⟨x.cell n c (lookup_of_mem_nodup (cellsFrom_names scope.names 0 (s.heap.objs.size + 1) [] [] rfl ▸ hnd) hm), x.above n c hm⟩
  exact h s.heap.objs.size h₁ tk cells ⟨x.toInCall.ns, hk₁, Nat.le_refl _⟩ NC Y
end
section
variable {M : Model} {A : Around} {E : Value → Shared → Prop} {s : Shared} {env : Env}
theorem dSplNil {pos : Pos} {Q : List Value → Shared → Prop} (h : Q [] s) : wpD M A (spliced (backTo pos (starEach [] env))) Q E s := dAny (spliced_none h)
theorem dSplMore {e : PySem.Expr} {rest : List PySem.Expr} {pos : Pos} {Q : List Value → Shared → Prop}
    (h : wpD M A (eval e env) (fun v s₁ => wpD M A (spliced (backTo pos (starEach rest env))) (fun vs s₂ => Q (v :: vs) s₂) E s₁) E s)
    (he : starEach (e :: rest) env = (false, eval e env) :: starEach rest env := by rfl) : wpD M A (spliced (backTo pos (starEach (e :: rest) env))) Q E s := by
  rw [he]
  show wpD M A (do let v ← eval e env; let here ← pure [v]; return here ++ (← holding here (spliced (backTo pos (starEach rest env))))) Q E s
  exact dBind (dMono h (fun v s₁ h₁ => dBind (dPure (dBind (dHold (dMono h₁ (fun vs s₂ h₂ => dPure h₂) fun _ _ x => x))))) fun _ _ x => x)
theorem dABin {op : Operator} {a b : Value} {Q : Value → Shared → Prop} (h : wpAny M A (binaryOp op a b) Q E s) : wpD M A (binaryOp op a b) Q E s := dAny h
theorem dAName {x : Str} {p : Pos} {Q : Value → Shared → Prop} (h : wpAny M A (eval (.Name x p) env) Q E s) : wpD M A (eval (.Name x p) env) Q E s := dAny h
theorem dAStore {x : Str} {v : Value} {Q : Unit → Shared → Prop} (h : wpAny M A (storeName env x v) Q E s) : wpD M A (storeName env x v) Q E s := dAny h
theorem dACmp {op : CmpOp} {a b : Value} {Q : Value → Shared → Prop} (h : wpAny M A (compareOp op a b) Q E s) : wpD M A (compareOp op a b) Q E s := dAny h
theorem dATru {a : Value} {Q : Bool → Shared → Prop} (h : wpAny M A (truthy a) Q E s) : wpD M A (truthy a) Q E s := dAny h
theorem dASub {v sl : PySem.Expr} {p : Pos} {Q : Value → Shared → Prop} (h : wpAny M A (eval (.Subscript v sl p) env) Q E s) : wpD M A (eval (.Subscript v sl p) env) Q E s := dAny h
end
end
section
section
variable {prog : Program} {w : World} {A : Around} {E : Value → Shared → Prop} {s : Shared} {b : Array UInt8} {t : Tok}
theorem bnextOf_item {it : Addr} {i : Nat} {c : UInt8} {Q : Value → Shared → Prop} (hit : KBw.IsBytesIter s.heap it b t i) (hx : b[i]? = some c)
    (hQ : ∀ h', KBw.IsBytesIter h' it b t (i + 1) → Heap.SameBut it s.heap h' → Q (.int (c.toNat : Int) s.toks) { s with heap := h', toks := s.toks + 1 }) :
    wpAny (model prog w) A (Builtin.SmallTypes.nextOf (.ref it)) Q E s := by
  obtain ⟨o, ho, hc, hd⟩ := id hit
  unfold Builtin.SmallTypes.nextOf
  refine wpAny_bind (wpAny_callSpecial?_slot (name := Str.ofString "__next__") (KBw.iter_typeIs hit) KBw.slot_next
    (wpAny_call_entry KBw.slot_next (KBw.iter_typeIs hit) KBw.entry_next ?_ (KBw.args_next _)))
  show wpAny _ _ (field (.ref it) 0 >>= _) _ _ s
  refine wpAny_bind (wpAny_field ho hd (x := .bytes b t) rfl ?_)
  show wpAny _ _ (if (Value.bytes b t == Value.none) = true then _ else _) _ _ s
  rw [if_neg (show ¬ ((Value.bytes b t == Value.none) = true) from Bool.false_ne_true)]
  show wpAny _ _ (field (.ref it) 1 >>= _) _ _ s
  refine wpAny_bind (wpAny_field ho hd (x := .int i 0) rfl ?_)
  refine wpAny_bind (wpAny_of_eq (a := b) rfl ?_)
  simp only [Int.toNat_natCast, hx]
  refine wpAny_bind (wpAny_setField ho hd (by simp) (wpAny_bind (wpAny_mkInt (wpAny_pure ⟨_, rfl, wpAny_pure (hQ _ ?_ (Heap.SameBut.update ..))⟩))))
  exact ⟨_, Heap.get?_update_self _ ho (Obj.isFreed_of_fields (Obj.data_mapFields hd _)), (Obj.cls_mapFields ..).trans hc, by
    rw [Obj.data_mapFields hd]; simp [rawInt]⟩
theorem bnextOf_end {it : Addr} {i : Nat} {Q : Value → Shared → Prop} (hh : A.handled = none) (hit : KBw.IsBytesIter s.heap it b t i) (hx : b[i]? = none)
    (hE : ∀ h' e, Heap.ExtBut it s.heap h' → (∃ o, h'.get? e = some o ∧ o.cls = .type "StopIteration") → E (.ref e) { s with heap := h' }) :
    wpAny (model prog w) A (Builtin.SmallTypes.nextOf (.ref it)) Q E s := by
  obtain ⟨o, ho, hc, hd⟩ := id hit
  unfold Builtin.SmallTypes.nextOf
  refine wpAny_bind (wpAny_callSpecial?_slot (name := Str.ofString "__next__") (KBw.iter_typeIs hit) KBw.slot_next
    (wpAny_call_entry KBw.slot_next (KBw.iter_typeIs hit) KBw.entry_next ?_ (KBw.args_next _)))
  show wpAny _ _ (field (.ref it) 0 >>= _) _ _ s
  refine wpAny_bind (wpAny_field ho hd (x := .bytes b t) rfl ?_)
  show wpAny _ _ (if (Value.bytes b t == Value.none) = true then _ else _) _ _ s
  rw [if_neg (show ¬ ((Value.bytes b t == Value.none) = true) from Bool.false_ne_true)]
  show wpAny _ _ (field (.ref it) 1 >>= _) _ _ s
  refine wpAny_bind (wpAny_field ho hd (x := .int i 0) rfl ?_)
  refine wpAny_bind (wpAny_of_eq (a := b) rfl ?_)
  simp only [Int.toNat_natCast, hx]
  refine wpAny_bind (wpAny_rule (wpAny_bind (wpAny_setField ho hd (by simp) ?_)))
  show wpAny _ _ (newExc (.type "StopIteration") [] >>= _) _ _ _
  refine wpAny_bind ?_
  simp only [newExc, newTuple]
  refine wpAny_bind (wpAny_newObj_type ?_ (by size_fits))
  refine wpAny_bind (m := firstArgMember _ _) (wpAny_of_eq (a := Value.none) (by first | rfl | (simp only [firstArgMember]; rfl)) ?_)
  refine wpAny_newObj_type ?_ (by size_fits)
  simp only [raiseNew]
  refine wpAny_bind (wpAny_handled ?_)
  first | rw [show A.in1.handled = none from hh] | rw [hh]
  refine wpAny_bind (wpAny_pure (wpAny_throw ?_))
  exact hE _ _ (((Heap.SameBut.update ..).extBut.push _).push _) ⟨_, Heap.get?_push_size _ rfl, rfl⟩
end
theorem drawsBytes {prog : Program} {w : World} {A : Around} (hh : A.handled = none) (it : Addr) (b : Array UInt8) (t : Tok) :
    Draws prog w A it [it] b.size (fun i v => ∃ c u, b[i]? = some c ∧ v = .int (c.toNat : Int) u) (fun i h => KBw.IsBytesIter h it b t i) where
  live := fun _ _ st => let ⟨o, ho, _⟩ := st; ⟨o, ho⟩
  frame := fun _ _ _ st hk => let ⟨o, ho, r⟩ := st; ⟨o, hk it (by simp) o ho, r⟩
  item := fun i s Q E hi st hQ => by
    refine bnextOf_item st (c := b[i]) (by simp [hi]) fun h' hit' hs' => ?_
    exact hQ _ h' (s.toks + 1) ⟨_, _, by simp [hi], rfl⟩ hit' hs'
  done := fun s Q E st hE => bnextOf_end hh st (by simp) hE
set_option maxHeartbeats 4000000 in
theorem meets_enum_bytes (b : Array UInt8) (t : Tok) :
    Meets (Builtin.«enumerate.__new__» ⟨[.type "enumerate", .bytes b t], []⟩) (fun _ R s =>
      R (.ok (.ret (.ref (s.heap.push { cls := .type "bytes_iterator", data := .fields #[.bytes b t, .int 0 0] }).objs.size)))
        { s with heap := (s.heap.push { cls := .type "bytes_iterator", data := .fields #[.bytes b t, .int 0 0] }).push { cls := .type "enumerate", data := .fields #[.none, .bool false, .ref s.heap.objs.size, rawInt 0, .none, .none] } }) :=
  .of_wp fun prog w A R s h => by
    obtain ⟨hp, g, d, tk, os⟩ := s
    have hsub := sub_enumerate
    wp_walk
    refine wpAny_stack_any fun st => wpAny_pure ?_
    split
    · rename_i c _ _ _ _ _
      cases (c == Value.type "enumerate")
      · wp_walk using KBw.pyIter_bytes
        exact ⟨_, rfl, h⟩
      · wp_walk using KBw.pyIter_bytes
        exact ⟨_, rfl, h⟩
    · wp_walk using KBw.pyIter_bytes
      exact ⟨_, rfl, h⟩
section
variable {prog : Program} {w : World} {A : Around} {E : Value → Shared → Prop} {s : Shared}
theorem call_enum_bytes {b : Array UInt8} {t : Tok} {Q : Value → Shared → Prop}
    (h : ∀ h', IsEnum h' (s.heap.objs.size + 1) s.heap.objs.size 0 .none → KBw.IsBytesIter h' s.heap.objs.size b t 0 → h'.objs.size = s.heap.objs.size + 2 →
      (∀ b o, s.heap.get? b = some o → h'.get? b = some o) → Q (.ref (s.heap.objs.size + 1)) { s with heap := h' }) :
    wpAny (model prog w) A (call (.type "enumerate") [.bytes b t]) Q E s := by
  refine callType_new F.called_enumerate (by decide) (F.typeCall_enumerate_1 _) (F.newCall_enumerate_1 _) (fun obj => F.args_object_init_2 obj _) F.entry_enumerate_new
    (meets_enum_bytes b t) ?_
  have hz : (s.heap.push { cls := .type "bytes_iterator", data := .fields #[.bytes b t, .int 0 0] }).objs.size = s.heap.objs.size + 1 := Heap.size_push ..
  show _ ∧ _
  rw [hz]
  have he : IsEnum ((s.heap.push { cls := .type "bytes_iterator", data := .fields #[.bytes b t, .int 0 0] }).push
      { cls := .type "enumerate", data := .fields #[.none, .bool false, .ref s.heap.objs.size, rawInt 0, .none, .none] }) (s.heap.objs.size + 1) s.heap.objs.size 0 .none := by
    have := Heap.get?_push_size (s.heap.push { cls := .type "bytes_iterator", data := .fields #[.bytes b t, .int 0 0] })
      (o := { cls := .type "enumerate", data := .fields #[.none, .bool false, .ref s.heap.objs.size, rawInt 0, .none, .none] }) rfl
    rw [hz] at this; exact this
  refine ⟨⟨_, he, rfl⟩, h _ he ⟨_, Heap.get?_push_of_some _ (Heap.get?_push_size _ rfl), rfl, rfl⟩ (by rw [Heap.size_push, hz]) fun b o y => Heap.get?_push_of_some _ (Heap.get?_push_of_some _ y)⟩
end
set_option maxHeartbeats 4000000 in
open LCg LCp in
theorem comp_enum {prog : Program} {w : World} {A : Around} {E : Value → Shared → Prop} {s : Shared} {h₀ : Heap} {L : Addr} {m : Str → Option Value} {env : Env} {f : Nat → Int}
    {elt iter : PySem.Expr} {x x₂ : Str} {px px₂ tp : Pos} {tk} {scope : Scope} {cl : List (Str × Addr)} {pos : Pos} {Q : Value → Shared → Prop}
    (_F₀ : Fr h₀ L s.heap m) (hh : A.handled = none) (hclos : closureFor scope env = pure cl) (hcell : ∀ y ∈ scope.names, y.2 ≠ .cell) (hkind : scope.kind = .function)
    (hnames : ∀ y ∈ scope.names, y.2 = .local → scope.names.lookup y.1 = some .local) (hx : scope.names.lookup x = some .local) (hx₂ : scope.names.lookup x₂ = some .local) (hxx : x ≠ x₂)
    (h : wpAny (model prog w) A (eval iter env) (fun xv s₁ => ∃ e it b t news, xv = .ref e ∧ IsEnum s₁.heap e it 0 .none ∧ KBw.IsBytesIter s₁.heap it b t 0 ∧ e ≠ it ∧ h₀.get? e = none ∧ h₀.get? it = none ∧ e ≠ L ∧ it ≠ L ∧ (∀ p ∈ news, p.1 ≠ e ∧ p.1 ≠ it) ∧
        Fr h₀ L s₁.heap m ∧ News h₀ L s₁.heap news ∧ b.size ≤ sizeLine ∧
        (∀ (i : Nat) (c : UInt8) t₁ t₂ C oC m₂ h tk E', b[i]? = some c → NsObj oC m₂ → m₂ x = some (.int (i : Int) t₁) → m₂ x₂ = some (.int (c.toNat : Int) t₂) → Fr h₀ L h m → News h₀ L h ((C, oC) :: news) →
          wpAny (model prog w) A (eval elt (compEnvC scope cl C env)) (fun y s' => ∃ t' tk', y = .int (f i) t' ∧ s' = { s₁ with heap := h, toks := tk' }) E' { s₁ with heap := h, toks := tk }) ∧
        (∀ D vs h tk, Fr h₀ L h m → News h₀ L h ((D, lst vs) :: news) → IntsAre vs ((List.range b.size).map f) → Q (.ref D) { s₁ with heap := h, toks := tk })) E s)
    (hs : ∀ x, foldedSetIterable iter env x = pure x := by intro _; rfl) :
    wpAny (model prog w) A (eval (.ListComp elt [⟨.Tuple [.Name x px, .Name x₂ px₂] tk tp, iter, [], 0⟩] scope pos) env) Q E s := by
  rw [eval_ListComp]
  refine wpAny_comprehension_free (use := none) rfl hs hclos hkind hnames (wpAny_mono h (fun xv s₁ h₁ => ?_) fun _ _ e => e)
  obtain ⟨e, it, b, t, news, rfl, hen, hit, hei, he₀, hit₀, heL, hitL, hoff, F, N, hsz, helt, hfin⟩ := h₁
  have W := WalksT.enumerateD (drawsBytes (prog := prog) (w := w) (A := A.in1) hh it b t) e hei (by simp [hei]) (by simp)
  have st₀ : (∃ old, IsEnum s₁.heap e it ((0 : Nat) : Int) old) ∧ KBw.IsBytesIter s₁.heap it b t 0 := ⟨⟨_, hen⟩, hit⟩
  refine W.self 0 s₁ _ _ st₀ ?_
  refine wpAny_newObj_type (wpAny_newFunctionEnv hcell (by intro y hy; simp at hy) (fun h₁ hns₁ hsb₁ => ?_) hkind)
  dsimp only at hns₁ hsb₁ ⊢
  generalize hH2 : s₁.heap.push { cls := .type "list", dict := none, data := .seq ([] : List Value).toArray } = H2 at hns₁ hsb₁ ⊢
  have hC : H2.objs.size = s₁.heap.objs.size + 1 := by rw [← hH2, Heap.size_push]
  have hDC : s₁.heap.objs.size ≠ H2.objs.size := by rw [hC]; exact Nat.ne_of_lt (Nat.lt_succ_self _)
  have below : ∀ b, b < s₁.heap.objs.size → b ≠ H2.objs.size ∧ b ≠ s₁.heap.objs.size := fun b hb => ⟨by rw [hC]; exact Nat.ne_of_lt (Nat.lt_succ_of_lt hb), Nat.ne_of_lt hb⟩
  have helt' : e < s₁.heap.objs.size := Heap.lt_size hen
  have hilt' : it < s₁.heap.objs.size := by obtain ⟨_, y, _⟩ := hit; exact Heap.lt_size y
  have old : ∀ b o, s₁.heap.get? b = some o → h₁.get? b = some o := fun b o e => hsb₁.extBut b o (below b (Heap.lt_size e)).1 (Heap.get?_push_of_some _ (hH2 ▸ Heap.get?_push_of_some _ e))
  have hacc : h₁.get? s₁.heap.objs.size = some (lst []) := hsb₁.extBut _ _ hDC (Heap.get?_push_of_some _ (hH2 ▸ Heap.get?_push_size _ rfl))
  have fresh₀ : ∀ a, s₁.heap.objs.size ≤ a → h₀.get? a = none := fun a ha => by
    cases e : h₀.get? a with
    | none => rfl
    | some o' => exact absurd (Heap.lt_size (F.keep a o' e)) (Nat.not_lt.mpr ha)
  have hD₀ : h₀.get? s₁.heap.objs.size = none := fresh₀ _ (Nat.le_refl _)
  have hC₀ : h₀.get? H2.objs.size = none := fresh₀ _ (by rw [hC]; exact Nat.le_succ _)
  have hLlt : L < s₁.heap.objs.size := F.ns.lt
  have hDL : s₁.heap.objs.size ≠ L := Ne.symm (below L hLlt).2
  have hCL : H2.objs.size ≠ L := Ne.symm (below L hLlt).1
  have hnew : ∀ p ∈ news, p.1 ≠ H2.objs.size ∧ p.1 ≠ s₁.heap.objs.size := fun p hp => below _ (Heap.lt_size (N p hp).1)
  generalize hDD : s₁.heap.objs.size = D at *
  generalize hCC : H2.objs.size = C at *
  have wsz : b.size ≤ sizeLine := hsz
  have offD : ∀ p ∈ news, p.1 ≠ D := fun p hp => (hnew p hp).2
  have offC : ∀ p ∈ news, p.1 ≠ C := fun p hp => (hnew p hp).1
  have keepL : ∀ {h h' : Heap} {m' : Str → Option Value} , Fr h₀ L h m → (∀ b o, b ∉ [e, it] → h.get? b = some o → h'.get? b = some o) → Fr h₀ L h' m := fun F hk =>
    ⟨F.ns.at' fun o q => hk L o (by simp [Ne.symm heL, Ne.symm hitL]) q, fun b o q => hk b o (by
      intro hm
      rcases List.mem_cons.mp hm with rfl | hm
      · rw [he₀] at q; cases q
      · rw [List.mem_singleton.mp hm, hit₀] at q; cases q) (F.keep b o q), F.above⟩
  have loop : ∀ s₃ : Shared, s₃ = { s₁ with heap := h₁, toks := s₁.toks + ([] : List (Str × Value)).length } →
      codeAny (model prog w) A (.compLoop (.ListComp elt [⟨.Tuple [.Name x px, .Name x₂ px₂] tk tp, iter, [], 0⟩] scope pos) 0 (.ref e) (.ref D) (compEnvC scope cl C env))
        (compPost (model prog w) A E none Q (.ref D) C) s₃ := by
    rintro s₃ rfl
    refine codeAny_compLoop_pair
      (fun k s' => ∃ h' tk i ys m', s' = { s₁ with heap := h', toks := tk } ∧ i ≤ b.size ∧ k = b.size + 1 - i ∧ ys.length = i ∧ IntsAre ys ((List.range i).map f) ∧ ((∃ old, IsEnum h' e it ((i : Nat) : Int) old) ∧ KBw.IsBytesIter h' it b t i) ∧ Fr h₀ L h' m ∧ h'.Ns C m' ∧ News h₀ L h' ((D, lst ys) :: news)) ?_ (b.size + 1)
      ⟨h₁, _, 0, [], _, rfl, Nat.zero_le _, rfl, rfl, .nil, W.frame _ _ _ st₀ fun b _ o q => old b o q, F.keeps old, hns₁, fun p hp => ?_⟩
    · rintro k s' ⟨h', tk', i, ys, m', rfl, hi, rfl, hyl, hys, hst', F', hn', N'⟩
      have heC : e ≠ C := by rw [hC]; exact Nat.ne_of_lt (Nat.lt_succ_of_lt helt')
      have hitC : it ≠ C := by rw [hC]; exact Nat.ne_of_lt (Nat.lt_succ_of_lt hilt')
      have heD : e ≠ D := Nat.ne_of_lt helt'
      have hitD : it ≠ D := Nat.ne_of_lt hilt'
      by_cases hlt : i < b.size
      · refine W.item i _ _ _ hlt hst' fun T vals h₂ tk₂ hPv hTsz hT hmid hk₂ => ?_
        obtain ⟨u, xv, ⟨c, u₂, hbc, rfl⟩, rfl⟩ := hPv
        have hTw := W.apart _ _ _ hmid
        refine W.go _ _ _ i T _ _ _ hmid fun h₃ hst₃ hk₃ => ?_
        have ht₃ : IsTup h₃ T #[.int (i : Int) u, .int (c.toNat : Int) u₂] := by
          obtain ⟨o, ho, r⟩ := hT
          exact ⟨o, hk₃ _ _ hTw ho, r⟩
        refine assign_Tuple_tuple hh ht₃ rfl rfl fun h₅ he => ?_
        have he' : ∀ b o, h₃.get? b = some o → h₅.get? b = some o := fun b o q => he b o (Nat.ne_of_lt (Heap.lt_size q)) q
        have hn₅ : h₅.Ns C m' := ((hn'.at' fun o q => hk₂ _ o (by simp [Ne.symm heC, Ne.symm hitC]) q).at' fun o q => hk₃ _ o (by simp [Ne.symm heC, Ne.symm hitC]) q).at' fun o q => he' _ o q
        have F₅ : Fr h₀ L h₅ m := (keepL (m' := m) (keepL (m' := m) F' hk₂) hk₃).keeps he'
        have N₅ : News h₀ L h₅ ((D, lst ys) :: news) := fun p hp => by
          have z := N' p hp
          have off : p.1 ∉ [e, it] := by
            rcases List.mem_cons.mp hp with rfl | hp
            · simp [Ne.symm heD, Ne.symm hitD]
            · simp [(hoff p hp).1, (hoff p hp).2]
          exact ⟨he' _ _ (hk₃ _ _ off (hk₂ _ _ off z.1)), z.2⟩
        have hst₅ := W.frame _ _ _ hst₃ fun b _ o q => he' b o q
        refine assignInOrder_cons (wpAny_assign_Name (wpAny_storeName_local (lookup_relabel_local hx) hn₅ (fun h₆ hn₆ hs₆ => ?_) (by simp [compEnvC, relabel, hkind])))
        refine assignInOrder_cons (wpAny_assign_Name (wpAny_storeName_local (lookup_relabel_local hx₂) hn₆ (fun h₇ hn₇ hs₇ => ?_) (by simp [compEnvC, relabel, hkind])))
        refine assignInOrder_nil ?_
        have old7 : ∀ b o, b ≠ C → h₅.get? b = some o → h₇.get? b = some o := fun b o hb q => hs₇.extBut b o hb (hs₆.extBut b o hb q)
        have F₇ : Fr h₀ L h₇ m := (F₅.change hs₆ hCL hC₀).change hs₇ hCL hC₀
        have N₇ : News h₀ L h₇ ((D, lst ys) :: news) := fun p hp => by
          refine ⟨old7 _ _ ?_ (N₅ p hp).1, (N₅ p hp).2⟩
          rcases List.mem_cons.mp hp with rfl | hp
          · exact hDC
          · exact offC p hp
        have hst₇ := W.frame (i + 1) _ h₇ hst₅ fun b hb o q => old7 b o (by
          rcases List.mem_cons.mp hb with rfl | hb
          · exact heC
          · rw [List.mem_singleton.mp hb]; exact hitC) q
        obtain ⟨oC, heC₇, hoC⟩ := ns_obj hn₇
        refine wpAny_mono (helt i c u u₂ C oC _ h₇ _ _ hbc hoC (by simp [hxx]) (by simp) F₇ fun p hp => ?_) (fun y s₄ h₄ => ?_) fun _ _ e => e
        · rcases List.mem_cons.mp hp with rfl | hp
          · exact ⟨heC₇, hCL, hC₀⟩
          · exact N₇ p (List.mem_cons_of_mem _ hp)
        · obtain ⟨t', tk₄, rfl, rfl⟩ := h₄
          refine append_at (hsz := by show ys.toArray.size ≤ sizeLine; rw [List.size_toArray, hyl]; exact Nat.le_trans hi wsz) (N₇ (D, lst ys) List.mem_cons_self).1 fun h₈ hs₈ hD₈ => ?_
          refine ⟨b.size + 1 - (i + 1), by omega, h₈, tk₄, i + 1, ys ++ [.int (f i) t'], _, rfl, hlt, rfl, by rw [List.length_append, List.length_singleton, hyl], ?_, ?_, F₇.change hs₈ hDL hD₀, hn₇.sameBut hs₈ (Ne.symm hDC), fun p hp => ?_⟩
          · rw [List.range_succ, List.map_append]
            exact hys.append (.cons _ _ .nil)
          · exact W.frame _ _ _ hst₇ fun b hb o q => hs₈.extBut b o (by
              rcases List.mem_cons.mp hb with rfl | hb
              · exact heD
              · rw [List.mem_singleton.mp hb]; exact hitD) q
          · rcases List.mem_cons.mp hp with rfl | hp
            · exact ⟨hD₈.trans (congrArg some (lst_snoc ys _)), hDL, hD₀⟩
            · exact ⟨hs₈.extBut _ _ (offD p hp) (N₇ p (List.mem_cons_of_mem _ hp)).1, (N₇ p (List.mem_cons_of_mem _ hp)).2⟩
      · obtain rfl : i = b.size := Nat.le_antisymm hi (Nat.not_lt.mp hlt)
        refine W.done _ _ _ hst' fun h₂ tk₂ hk₂ => ?_
        have F₂ := keepL (m' := m) F' hk₂
        have N₂ : News h₀ L h₂ ((D, lst ys) :: news) := fun p hp => by
          have z := N' p hp
          have off : p.1 ∉ [e, it] := by
            rcases List.mem_cons.mp hp with rfl | hp
            · simp [Ne.symm heD, Ne.symm hitD]
            · simp [(hoff p hp).1, (hoff p hp).2]
          exact ⟨hk₂ _ _ off z.1, z.2⟩
        have hn₂ : h₂.Ns C m' := hn'.at' fun o q => hk₂ _ o (by simp [Ne.symm heC, Ne.symm hitC]) q
        refine ⟨m', hn₂, fun h'' hs'' => hfin D ys h'' tk₂ (F₂.change hs'' hCL hC₀) (fun p hp => ?_) hys⟩
        refine ⟨hs''.extBut _ _ ?_ (N₂ p hp).1, (N₂ p hp).2⟩
        rcases List.mem_cons.mp hp with rfl | hp
        · exact hDC
        · exact offC p hp
    · rcases List.mem_cons.mp hp with rfl | hp
      · exact ⟨hacc, hDL, hD₀⟩
      · exact ⟨old _ _ (N p hp).1, (N p hp).2⟩
  exact codeAny_compStart_list (loop _ rfl) (W.self 0 _ _ _ (W.frame _ _ _ st₀ fun b _ o q => old b o q) (loop _ rfl))
end
section
variable {w : World} {p : Program} {loose : List Str} {mean : ExcName → Option Value} {mg mb : Str → Option Value}
section
variable {K : Frag} {A : Around} {s : Shared} {R : Result → Shared → Prop} {f : Addr}
theorem enterH {g : Heap} {news : List (Addr × Obj)} {name qual : Str} {params : Arguments} {body : List Stmt} {scope : Scope} {dV kV doc pm cdv ct oc : Value} {an od : Option Addr} {osl : Array (Option Value)} {binds : List (Str × Value)} {prog : Program} {args : Args}
    (st : g.StaysIn s.heap) (sz : g.objs.size ≤ s.heap.objs.size) (hn : ∀ q ∈ news, s.heap.get? q.1 = some q.2 ∧ g.get? q.1 = none) (X : K.In g) (T : Top p loose mean mg mb g)
    (ho : K.lookup f = some ⟨oc, od, .func (fnOf name qual params body scope dV kV doc pm an cdv ct), osl⟩) (hcd : codeIn K cdv qual = true) (hroom : A.depth < recursionLimit)
    (hbind : BindsTo s (fnOf name qual params body scope dV kV doc pm an cdv ct) args binds) (hloc : ∀ y ∈ binds, scope.names.lookup y.1 = some .local)
    (h : ∀ L h₁, Fr g L h₁ (bmap binds.reverse) → News g L h₁ news → (∀ b o, s.heap.get? b = some o → h₁.get? b = some o ∧ b ≠ L) →
      wpAny (model prog w) (A.deeper (envOf qual scope L f cdv)) (execs body (envOf qual scope L f cdv)) (fun fl s' => R (.ok (.ret (match fl with | .ret v => v | _ => .none))) s')
        (fun e s' => wpAny (model prog w) (A.deeper (envOf qual scope L f cdv)) (leaving (envOf qual scope L f cdv) e) (fun _ s'' => R (.error e) s'') (fun e' s'' => R (.error e') s'') s')
        { s with heap := h₁, toks := s.toks + binds.length })
    (hco : scope.isCoroutine = false) (hgen : scope.isGenerator = false) (hk : scope.kind = .function)
    (hcell : ∀ x ∈ scope.names, x.2 ≠ .cell) : codeAny (model prog w) A (.call (.ref f) args) R s := by
  refine codeAny_call_def (fd := fnOf name qual params body scope dV kV doc pm an cdv ct) (body := body) (binds := binds) hroom (st _ _ (X _ _ ho)) rfl (T.keeps st).nolimit (codeRec_of (X.keeps st) hcd) rfl hbind hcell hloc (fun h₁ hns hk₁ => ?_) hco hgen hk
  rw [bmap_eq] at hns
  exact h _ h₁ ⟨hns, fun b o e => hk₁ b o (st _ _ e), sz⟩ (fun q hq => ⟨hk₁ _ _ (hn q hq).1, Nat.ne_of_lt (Heap.lt_size (hn q hq).1), (hn q hq).2⟩) fun b o e => ⟨hk₁ b o e, Nat.ne_of_lt (Heap.lt_size e)⟩
end
theorem ns_of_in {K : Frag} {h : Heap} {N : Addr} {x : Str} {v : Value} (X : K.In h) (e : nsOkIn K N = true) (q : nsIn K N x = some (some v)) : h.nsMap N x = some v := by
  have G : h.Ns N (h.nsMap N) := .of_isNs (isNs_of_in X e)
  obtain ⟨o, es, ep, ho, hd, _, hf⟩ := G
  unfold nsIn at q
  split at q
  · rename_i c d es' n' sl q'
    have := X _ _ q'
    rw [ho] at this
    cases this
    cases hd
    split at q
    · rename_i y hy
      cases q
      rw [← hf]
      unfold nsFind findBy
      rw [← Array.find?_toList, hy]
      rfl
    · split at q <;> cases q
  · cases q
section
variable {prog : Program} {A : Around} {E : Value → Shared → Prop} {h : Heap} {g : Array GenState} {d : Drawn} {t : Nat} {os : OsState}
variable {nm q : Str} {C N : Addr} {bs bm bmB : List Value} {hdct : Bool} {sn : List Str} {sub : List Value} {ab : Bool} {col : Option Bool} {dd : Option Addr} {k0 k1 k2 k3 k5 : Option Value} {newId : String}
theorem meta_Exception : typeOf (.type "Exception") = pure (.type "type") := by kernel_rfl
noncomputable def newVs (t : Addr) : Array Value := #[.ref t, .none, .none, .none, .bool false, .none]
theorem xi_call {e t₀ : Addr} {D : Option Addr} {x : Value} {sl : Array (Option Value)} {Q : Value → Shared → Prop}
    (hC : h.get? C = some (excClassObj nm q C N bs [.type "Exception", .type "BaseException", .type "object"] hdct sn sub ab col dd k0 k1 k2 k3 k5 newId)) (he : h.get? e = some { cls := .ref C, dict := D, data := .fields (newVs t₀), slots := sl })
    (k : ∀ h' t', h'.get? e = some { cls := .ref C, dict := D, data := .fields (newVs t'), slots := sl } → (∀ b o, b ≠ e → h.get? b = some o → h'.get? b = some o) → Q .none ⟨h', g, d, t, os⟩) :
    wpAny (model prog w) A (call (.builtin "Exception.__init__") [.ref e, x]) Q E ⟨h, g, d, t, os⟩ := by
  have F := PySem.F.excBase_Exception
  refine wpAny_call (codeAny_call_builtin F.init.plain F.initEntry (wpAny_check_init_subU F .base hC he rfl ?_))
  unfold newVs at he
  wp_walk
  refine k _ h.objs.size ?_ ?_
  · rw [Heap.get?_update_self _ (Heap.get?_push_of_some _ he) rfl]
    rfl
  · intro b o hb ho
    rw [Heap.get?_update_other _ _ (Ne.symm hb)]
    exact Heap.get?_push_of_some _ ho
end
section
variable {prog : Program} {A : Around} {E : Value → Shared → Prop} {h : Heap} {g : Array GenState} {d : Drawn} {t : Nat} {os : OsState}
variable {nm q : Str} {C N x : Addr} {bs bm : List Value} {sn : List Str} {sub : List Value} {ab : Bool} {col : Option Bool} {dd : Option Addr} {k0 k1 k2 k3 k5 : Option Value} {B newId sa owner : String}
  {mN : Str → Option Value} {name : Str} {v : Value} {vs : Array Value} {sl : Array (Option Value)}
theorem first_entry {tk : Tok} {Q : PySem.Fin → Shared → Prop} (SF : StoreFacts B bm sa owner)
    (hC : h.get? C = some (excClassObj nm q C N bs bm true sn sub ab col dd k0 k1 k2 k3 k5 newId)) (hn : h.Ns N mN) (hna : mN name = none)
    (hB : typeLookup (.type B) name = pure none) {o : Obj} (hx : h.get? x = some o) (hc : o.cls = .ref C) (hdn : o.dict = none) (hd : o.data = .fields vs)
    (hq : ∀ h' tk', h'.get? x = some { cls := o.cls, dict := some h.objs.size, data := o.data, slots := o.slots } → h'.Ns1 h.objs.size (fun y => if y = name then some v else none) →
      (∀ b o, b ≠ x → h.get? b = some o → h'.get? b = some o) → Q (.done (.ret .none)) ⟨h', g, d, tk', os⟩) :
    wpAny (model prog w) A (Builtin.«object.__setattr__» ⟨[.ref x, .str name tk, v], []⟩) Q E ⟨h, g, d, t, os⟩ := by
  have hpass := SF.passes (.ref x)
  unfold Builtin.«object.__setattr__»
  repeat (first | rw [refuse_eq] | (rw [refuseLoop_ref, hpass]) | (with_reducible refine wpAny_loadPart_at hx ?_; rw [hc]) | with_reducible refine wpAny_mroOf_exc hC ?_ | (with_reducible refine wpAny_typeLookup_exc hC hn SF.mro hB ?_; rw [hna]) | wp_step)
  rw [hdn, if_neg (by simp [typeHasDict])]
  split
  · rename_i hcd
    cases hcd
  split
  · rename_i c hcd
    rw [hd] at hcd; cases hcd
  have hx₁ : (h.push { cls := .type "dict", data := .dict #[] }).get? x = some o := Heap.get?_push_of_some _ hx
  have hxs : x ≠ h.objs.size := Nat.ne_of_lt (Heap.lt_size hx)
  refine wpAny_bind (wpAny_alloc' ?_)
  refine wpAny_bind (wpAny_update' hx₁ ?_)
  refine wpAny_pure ?_
  have hgd : ((h.push { cls := .type "dict", data := .dict #[] }).update x fun o => { cls := o.cls, dict := some h.objs.size, data := o.data, slots := o.slots }).get? h.objs.size
      = some { cls := .type "dict", data := .dict #[] } :=
    (Heap.get?_update_ne _ _ _ _ hxs.symm).trans (Heap.get?_push_at rfl rfl)
  have hnd : ((h.push { cls := .type "dict", data := .dict #[] }).update x fun o => { cls := o.cls, dict := some h.objs.size, data := o.data, slots := o.slots }).Ns h.objs.size (fun _ => none) :=
    ⟨_, #[], _, hgd, rfl, fun e he => absurd he (by simp), fun _ => rfl⟩
  show wpAny _ _ (Builtin.ObjectAttr.storeInDict h.objs.size (.str name tk) name v) _ _ _
  unfold Builtin.ObjectAttr.storeInDict Builtin.ObjectAttr.newKeyGuard
  refine wpAny_bind (wpAny_pure (wpAny_bind (wpAny_nsSet1 (Heap.Ns1.of_empty hnd) fun h' hn' hs => ?_)))
  obtain ⟨oD, esD, epD, hoD, hdD, hcD⟩ := hn'.count (Within.cons name v Within.nil)
  refine wpAny_bind (wpAny_lookBehind hoD (by rw [hdD]; exact pastItsLine_dict (Nat.le_trans hcD (by rw [List.length_cons, List.length_nil, sizeLine_eq]; omega))) ?_)
  wp_walk
  refine hq h' _ ((hs.2 x hxs).trans (Heap.get?_update_self _ hx₁ (Obj.isFreed_of_fields hd))) hn' fun b ob hbx hb => ?_
  exact (hs.2 b (Nat.ne_of_lt (Heap.lt_size hb))).trans ((Heap.get?_update_ne _ _ _ _ hbx).trans (Heap.get?_push_of_some _ hb))
theorem first_attr {Q : Unit → Shared → Prop} (SF : StoreFacts B bm sa owner)
    (hC : h.get? C = some (excClassObj nm q C N bs bm true sn sub ab col dd k0 k1 k2 k3 k5 newId)) (hn : h.Ns N mN) (hns : mN "__setattr__" = none) (hna : mN name = none)
    (hB : typeLookup (.type B) name = pure none) {o : Obj} (hx : h.get? x = some o) (hc : o.cls = .ref C) (hdn : o.dict = none) (hd : o.data = .fields vs)
    (hq : ∀ h' tk', h'.get? x = some { cls := o.cls, dict := some h.objs.size, data := o.data, slots := o.slots } → h'.Ns1 h.objs.size (fun y => if y = name then some v else none) →
      (∀ b o, b ≠ x → h.get? b = some o → h'.get? b = some o) → Q () ⟨h', g, d, tk', os⟩) :
    wpAny (model prog w) A (setAttr (.ref x) name v) Q E ⟨h, g, d, t, os⟩ := by
  have f3 := SF.slot.bind (.ref x)
  unfold setAttr callSpecial? specialOf
  repeat (any_goals (first | assumption | (with_reducible refine wpAny_loadPart_at hx ?_; rw [hc]) | (with_reducible refine wpAny_typeLookup_exc hC hn SF.mro SF.slot.lookup ?_; rw [hns]) | wp_step))
  refine codeAny_call_builtin SF.slot.plain SF.entry (wpAny_check_sa SF hC hx hc (first_entry SF hC hn hna hB hx hc hdn hd fun h' tk' a b c => ?_))
  repeat (any_goals (first | assumption | wp_step))
  exact hq h' tk' a b c
end
/-- an exception of a class of its own, while its __init__ runs -/
noncomputable def XSt (g : Heap) (L : Addr) (h : Heap) (e C : Addr) (mA : Str → Option Value) : Prop :=
  ∃ o t, h.get? e = some o ∧ o.cls = .ref C ∧ o.data = .fields (newVs t) ∧ g.get? e = none ∧ e ≠ L ∧ ((o.dict = none ∧ ∀ n, mA n = none) ∨ ∃ d, o.dict = some d ∧ d ≠ e ∧ h.Ns1 d mA ∧ g.get? d = none ∧ d ≠ L)
theorem XSt.inst {g : Heap} {L : Addr} {h : Heap} {e C : Addr} {mA : Str → Option Value} (x : XSt g L h e C mA) : h.Inst e C mA := by
  obtain ⟨o, t, he, hc, hd, hg, hL, hx⟩ := x
  refine ⟨o, he, hc, (fun c q => by rw [hd] at q; cases q), hx.imp id ?_⟩
  rintro ⟨d, a, b, c, _⟩
  exact ⟨d, a, b, c⟩
theorem XSt.keeps {g : Heap} {L : Addr} {h h' : Heap} {e C : Addr} {mA : Str → Option Value} (x : XSt g L h e C mA) (k : ∀ b o, b ≠ L → h.get? b = some o → h'.get? b = some o) : XSt g L h' e C mA := by
  obtain ⟨o, t, he, hc, hd, hg, hL, hx⟩ := x
  refine ⟨o, t, k _ _ hL he, hc, hd, hg, hL, hx.imp id ?_⟩
  rintro ⟨d, a, b, c, g0, l⟩
  exact ⟨d, a, b, c.at fun o q => k _ _ l q, g0, l⟩
section
variable {prog : Program} {A : Around} {E : Value → Shared → Prop} {s : Shared} {g : Heap} {L e C N : Addr} {m mA : Str → Option Value} {K : Frag}
variable {nm q : Str} {bs : List Value} {sn : List Str} {sub : List Value} {ab : Bool} {col : Option Bool} {dd : Option Addr} {k0 k1 k2 k3 k5 : Option Value} {newId : String}
theorem xs_init {x : Value} {Q : Value → Shared → Prop} (F : Fr g L s.heap m) (S : XSt g L s.heap e C mA)
    (hC : g.get? C = some (excClassObj nm q C N bs [.type "Exception", .type "BaseException", .type "object"] true sn sub ab col dd k0 k1 k2 k3 k5 newId))
    (k : ∀ h', Fr g L h' m → XSt g L h' e C mA → Q .none { s with heap := h' }) :
    wpAny (model prog w) A (call (.builtin "Exception.__init__") [.ref e, x]) Q E s := by
  obtain ⟨⟨oc, od, odt, osl⟩, t, he, hc, hd, hg, hL, hx⟩ := S
  simp only at hc hd hx
  subst hc hd
  obtain ⟨hh, gg, dd', tk, os⟩ := s
  refine xi_call (F.keep _ _ hC) he fun h' t' he' hk => ?_
  refine k h' ⟨F.ns.at fun o ho => hk _ _ (Ne.symm hL) ho, fun b o hb => hk b o (fun q => by rw [q, hg] at hb; cases hb) (F.keep _ _ hb), F.above⟩ ⟨_, t', he', rfl, rfl, hg, hL, ?_⟩
  refine hx.imp id ?_
  rintro ⟨d, a, b, c, g0, l⟩
  exact ⟨d, a, b, c.at fun o q => hk _ _ b q, g0, l⟩
theorem xs_set {name : Str} {v : Value} {Q : Unit → Shared → Prop} {ns : List Str} (F : Fr g L s.heap m) (S : XSt g L s.heap e C mA) (X : K.In g)
    (hC : g.get? C = some (excClassObj nm q C N bs [.type "Exception", .type "BaseException", .type "object"] true sn sub ab col dd k0 k1 k2 k3 k5 newId))
    (h1 : nsOkIn K N = true) (h2 : nsIn K N "__setattr__" = some none) (h3 : nsIn K N name = some none) (h4 : typeLookup (.type "Exception") name = pure none)
    (k : ∀ h' tk', Fr g L h' m → XSt g L h' e C (fun y => if y = name then some v else mA y) → Q () { s with heap := h', toks := tk' }) (hw : Within mA ns := by within_ways) (hz : ns.length ≤ sizeLine := by size_fits) :
    wpAny (model prog w) A (setAttr (.ref e) name v) Q E s := by
  have Xs := X.keeps F.keep
  have hnk : s.heap.Ns N (s.heap.nsMap N) := .of_isNs (isNs_of_in Xs h1)
  have S' := S
  obtain ⟨o, t, he, hc, hd, hg, hL, hx⟩ := S
  have hne : e ≠ C := fun q => by rw [q, hC] at hg; cases hg
  obtain ⟨hh, gg, dd', tk, os⟩ := s
  rcases hx with ⟨hx, hmA⟩ | ⟨dx, hx, hdne, hns, hg0, hlne⟩
  · obtain ⟨oc, od, odt, osl⟩ := o
    simp only at hc hd hx
    subst hc hd hx
    refine first_attr PySem.F.store_Exception (F.keep _ _ hC) hnk (nsMap_none_of_in Xs h1 h2) (nsMap_none_of_in Xs h1 h3) h4 he rfl rfl rfl fun h' tk' he' hn' hk => ?_
    have hgs : g.get? hh.objs.size = none := by
      cases z : g.get? hh.objs.size with
      | none => rfl
      | some o => exact absurd (Heap.lt_size (F.keep _ _ z)) (Nat.lt_irrefl _)
    refine k h' tk' ⟨F.ns.at fun o ho => hk _ _ (Ne.symm hL) ho, fun b o hb => hk b o (fun q => by rw [q, hg] at hb; cases hb) (F.keep _ _ hb), F.above⟩ ⟨_, t, he', rfl, rfl, hg, hL, .inr ⟨_, rfl, Nat.ne_of_gt (Heap.lt_size he), ?_, hgs, Nat.ne_of_gt F.ns.lt⟩⟩
    have e1 : (fun y => if y = name then some v else mA y) = fun y => if y = name then some v else none := by funext y; rw [hmA y]
    rw [e1]; exact hn'
  refine store_attr PySem.F.store_Exception (F.keep _ _ hC) hnk (nsMap_none_of_in Xs h1 h2) (nsMap_none_of_in Xs h1 h3) h4 hne S'.inst (fun h' tk' I' hk hsame => ?_) hw hz
  obtain ⟨o₁, he₁, c1, c2, c3, c4⟩ := hsame o he
  have hdx : ∀ b, b ≠ dx → b ≠ e → ∀ ob, hh.get? b = some ob → h'.get? b = some ob := fun b h1 h2 ob hb =>
    hk b ob h2 (fun o₀ d₀ e₀ e₁ => by obtain rfl : o = o₀ := Option.some.inj (he.symm.trans e₀); rw [hx] at e₁; cases e₁; exact h1) hb
  refine k h' tk' ⟨F.ns.at fun o' ho => hdx L hlne.symm hL.symm _ ho, fun b o' hb => hdx b (fun z => by rw [z, hg0] at hb; cases hb) (fun z => by rw [z, hg] at hb; cases hb) _ (F.keep _ _ hb), F.above⟩ ⟨o₁, t, he₁, c1.trans hc, c2.trans hd, hg, hL, .inr ⟨dx, c4 _ hx, hdne, ?_, hg0, hlne⟩⟩
  obtain ⟨o₂, he₂, _, _, hd₂⟩ := I'
  obtain rfl : o₁ = o₂ := Option.some.inj (he₁.symm.trans he₂)
  rcases hd₂ with ⟨z, _⟩ | ⟨d, z, hne', hns⟩
  · rw [c4 _ hx] at z; cases z
  · rw [c4 _ hx] at z; cases z; exact hns
end
end
section
variable {w : World} {p : Program} {loose : List Str} {mean : ExcName → Option Value} {mg mb : Str → Option Value}
structure NewX (h h' : Heap) (e C : Addr) (mA : Str → Option Value) : Prop where
  keeps : h.StaysIn h'
  new : h.get? e = none
  there : ∃ o t D, h'.get? e = some o ∧ o.cls = .ref C ∧ o.dict = some D ∧ o.data = .fields (newVs t) ∧ h'.Ns1 D mA ∧ h.get? D = none
theorem NewX.of {g : Heap} {L : Addr} {h : Heap} {e C : Addr} {mA : Str → Option Value} {m : Str → Option Value} {x : Str} {v : Value} (F : Fr g L h m) (S : XSt g L h e C mA) (hx : mA x = some v) : NewX g h e C mA := by
  obtain ⟨o, t, he, hc, hd, hg, hL, hx'⟩ := S
  rcases hx' with ⟨_, z⟩ | ⟨D, a, b, c, d, f⟩
  · rw [z] at hx; cases hx
  · exact ⟨F.keep, hg, o, t, D, he, hc, a, hd, c, d⟩
theorem NewX.base {hh g h : Heap} {e C : Addr} {mA : Str → Option Value} (x : NewX g h e C mA) (st : hh.StaysIn g) (he : hh.get? e = none) : NewX hh h e C mA := by
  obtain ⟨a, b, o, t, D, c1, c2, c3, c4, c5, c6⟩ := x
  exact ⟨fun b o q => a b o (st b o q), he, o, t, D, c1, c2, c3, c4, c5, fresh_of_stays st c6⟩
theorem ok57 (w : World) : nsOkIn (hd.heap_39 w.params) 57 = true := by kernel_rfl
theorem ok77 (w : World) : nsOkIn (hd.heap_39 w.params) 77 = true := by kernel_rfl
theorem ok37 (w : World) : nsOkIn (hd.heap_39 w.params) 37 = true := by kernel_rfl
theorem lk_text : typeLookup (.type "Exception") "text" = pure none := by rw [typeLookup_type, builtinLookup_eq_fast]; kernel_rfl
theorem lk_code : typeLookup (.type "Exception") "code" = pure none := by rw [typeLookup_type, builtinLookup_eq_fast]; kernel_rfl
theorem lk_frame : typeLookup (.type "Exception") "frame_type" = pure none := by rw [typeLookup_type, builtinLookup_eq_fast]; kernel_rfl
local macro_rules | `(tactic| walk_at "getMethod type:Exception") => `(tactic| (k_here; refine' method_type ?F ?X ?m (by decide +kernel) ?e ?h ?_; (case F => k_asm); (case X => k_asm); (case m => exact meta_Exception); (case e => k_dflt k_is); (case h => k_handed)))
section
set_option maxHeartbeats 4000000 in
theorem mk_short (x : Str) (tx : Tok) {A : Around} {s : Shared} {Q : Value → Shared → Prop} {E : Value → Shared → Prop} (X : (hd.heap_39 w.params).In s.heap) (T : Top p loose mean mg mb s.heap) (hdp : A.depth + 3 < recursionLimit) (hun : A.units + 20 < cLine)
    (k : ∀ e h' tk' mA, NewX s.heap h' e 58 mA → Q (.ref e) { s with heap := h', toks := tk' }) :
    wpAny (model PySem.Challenge.rw_no0081_01.row.prog w) A (call (.ref 58) [.str x tx]) Q E s := by
  have hC : s.heap.get? 58 = some (excClassObj _ _ 58 57 _ [.type "Exception", .type "BaseException", .type "object"] true _ _ _ _ _ _ _ _ _ _ _) := X 58 _ rfl
  have hN : s.heap.Ns 57 (s.heap.nsMap 57) := .of_isNs (isNs_of_in X (ok57 w))
  have hi : s.heap.nsMap 57 "__init__" = some (.ref 55) := ns_of_in X (ok57 w) (by k_is)
  obtain ⟨hh, gg, dd', tk, os⟩ := s
  refine wpAny_call_exc_init PySem.F.excBase_Exception hC hN hi (X 55 _ rfl) rfl fun h' e hm => wpAny_call ?_
  obtain ⟨t, he, htn, ht⟩ := hm.there
  have he0 : hh.get? e = none := hm.new
  have st0 : hh.StaysIn (hideAll h' [e]) := fun b o q => hideAll_get _ (hm.keeps b o q) fun z => by rw [List.mem_singleton.mp z, he0] at q; cases q
  have hg0 : (hideAll h' [e]).get? e = none := hideAll_none _ (List.mem_singleton.mpr rfl)
  have X' := X.keeps st0
  have T' := T.keeps st0
  have hC' := st0 _ _ hC
  generalize hgg : hideAll h' [e] = g at *
  have st1 : g.StaysIn h' := fun b o q => of_hideAll [e] (by rw [hgg]; exact q)
  have sz1 : g.objs.size ≤ h'.objs.size := by rw [← hgg, hideAll_size]; exact Nat.le_refl _
  clear hgg hC X T
  refine enterH (g := g) (news := []) (binds := [(Str.ofString "self", .ref e), (Str.ofString "text", .str x tx)]) st1 sz1 (fun q hq => nomatch hq) X' T' (by k_is) (by k_is) (by ktr_room) (BindsTo.of_eq rfl) (locs rfl) (fun L' h₁' F' N' O' => ?_) rfl rfl rfl (by decide)
  have S' : XSt g L' h₁' e 58 (fun _ => none) := ⟨_, t, (O' _ _ he).1, rfl, rfl, hg0, (O' _ _ he).2, .inl ⟨rfl, fun _ => rfl⟩⟩
  (dsimp only [List.reverse, List.reverseAux, bmap] at F')
  (try dsimp only)
  (try k_fold)
  repeat' (first | (k_unfold; (try dsimp only)) | (k_end; wrow_close) | (k_here; (with_reducible show wpAny _ _ (call (Value.builtin _) _) _ _ _); k_dflt (refine xs_init (by k_asm) (by assumption) (by assumption) ?_); intro h9 F9 S9; tb_rel) | (k_here; (with_reducible show wpAny _ _ (setAttr (Value.ref _) _ _) _ _ _); k_dflt (refine xs_set (by k_asm) (by assumption) (by k_asm) (by assumption) (by first | exact ok57 _ | exact ok77 _ | exact ok37 _) (by k_is) (by k_is) (by first | exact lk_text | exact lk_code | exact lk_frame) ?_); intro h9 tk9 F9 S9; tb_rel) | walk1 | (dsimp only; first | (k_here; (with_reducible show wpAny _ _ (call (Value.builtin _) _) _ _ _); k_dflt (refine xs_init (by k_asm) (by assumption) (by assumption) ?_); intro h9 F9 S9; tb_rel) | (k_here; (with_reducible show wpAny _ _ (setAttr (Value.ref _) _ _) _ _ _); k_dflt (refine xs_set (by k_asm) (by assumption) (by k_asm) (by assumption) (by first | exact ok57 _ | exact ok77 _ | exact ok37 _) (by k_is) (by k_is) (by first | exact lk_text | exact lk_code | exact lk_frame) ?_); intro h9 tk9 F9 S9; tb_rel) | walk1) | (leave1; try dsimp only) | fail "no step")
  refine k e _ _ _ ((NewX.of (x := Str.ofString "text") (v := .str x tx) (by k_asm) (by assumption) (by rfl)).base st0 he0)
end
section
set_option maxHeartbeats 4000000 in
theorem mk_refused (x : Str) (tx : Tok) {A : Around} {s : Shared} {Q : Value → Shared → Prop} {E : Value → Shared → Prop} (X : (hd.heap_39 w.params).In s.heap) (T : Top p loose mean mg mb s.heap) (hdp : A.depth + 3 < recursionLimit) (hun : A.units + 20 < cLine)
    (k : ∀ e h' tk' mA, NewX s.heap h' e 78 mA → Q (.ref e) { s with heap := h', toks := tk' }) :
    wpAny (model PySem.Challenge.rw_no0081_01.row.prog w) A (call (.ref 78) [.str x tx]) Q E s := by
  have hC : s.heap.get? 78 = some (excClassObj _ _ 78 77 _ [.type "Exception", .type "BaseException", .type "object"] true _ _ _ _ _ _ _ _ _ _ _) := X 78 _ rfl
  have hN : s.heap.Ns 77 (s.heap.nsMap 77) := .of_isNs (isNs_of_in X (ok77 w))
  have hi : s.heap.nsMap 77 "__init__" = some (.ref 75) := ns_of_in X (ok77 w) (by k_is)
  obtain ⟨hh, gg, dd', tk, os⟩ := s
  refine wpAny_call_exc_init PySem.F.excBase_Exception hC hN hi (X 75 _ rfl) rfl fun h' e hm => wpAny_call ?_
  obtain ⟨t, he, htn, ht⟩ := hm.there
  have he0 : hh.get? e = none := hm.new
  have st0 : hh.StaysIn (hideAll h' [e]) := fun b o q => hideAll_get _ (hm.keeps b o q) fun z => by rw [List.mem_singleton.mp z, he0] at q; cases q
  have hg0 : (hideAll h' [e]).get? e = none := hideAll_none _ (List.mem_singleton.mpr rfl)
  have X' := X.keeps st0
  have T' := T.keeps st0
  have hC' := st0 _ _ hC
  generalize hgg : hideAll h' [e] = g at *
  have st1 : g.StaysIn h' := fun b o q => of_hideAll [e] (by rw [hgg]; exact q)
  have sz1 : g.objs.size ≤ h'.objs.size := by rw [← hgg, hideAll_size]; exact Nat.le_refl _
  clear hgg hC X T
  refine enterH (g := g) (news := []) (binds := [(Str.ofString "self", .ref e), (Str.ofString "text", .str x tx)]) st1 sz1 (fun q hq => nomatch hq) X' T' (by k_is) (by k_is) (by ktr_room) (BindsTo.of_eq rfl) (locs rfl) (fun L' h₁' F' N' O' => ?_) rfl rfl rfl (by decide)
  have S' : XSt g L' h₁' e 78 (fun _ => none) := ⟨_, t, (O' _ _ he).1, rfl, rfl, hg0, (O' _ _ he).2, .inl ⟨rfl, fun _ => rfl⟩⟩
  (dsimp only [List.reverse, List.reverseAux, bmap] at F')
  (try dsimp only)
  (try k_fold)
  repeat' (first | (k_unfold; (try dsimp only)) | (k_end; wrow_close) | (k_here; (with_reducible show wpAny _ _ (call (Value.builtin _) _) _ _ _); k_dflt (refine xs_init (by k_asm) (by assumption) (by assumption) ?_); intro h9 F9 S9; tb_rel) | (k_here; (with_reducible show wpAny _ _ (setAttr (Value.ref _) _ _) _ _ _); k_dflt (refine xs_set (by k_asm) (by assumption) (by k_asm) (by assumption) (by first | exact ok57 _ | exact ok77 _ | exact ok37 _) (by k_is) (by k_is) (by first | exact lk_text | exact lk_code | exact lk_frame) ?_); intro h9 tk9 F9 S9; tb_rel) | walk1 | (dsimp only; first | (k_here; (with_reducible show wpAny _ _ (call (Value.builtin _) _) _ _ _); k_dflt (refine xs_init (by k_asm) (by assumption) (by assumption) ?_); intro h9 F9 S9; tb_rel) | (k_here; (with_reducible show wpAny _ _ (setAttr (Value.ref _) _ _) _ _ _); k_dflt (refine xs_set (by k_asm) (by assumption) (by k_asm) (by assumption) (by first | exact ok57 _ | exact ok77 _ | exact ok37 _) (by k_is) (by k_is) (by first | exact lk_text | exact lk_code | exact lk_frame) ?_); intro h9 tk9 F9 S9; tb_rel) | walk1) | (leave1; try dsimp only) | fail "no step")
  refine k e _ _ _ ((NewX.of (x := Str.ofString "text") (v := .str x tx) (by k_asm) (by assumption) (by rfl)).base st0 he0)
end
section
set_option maxHeartbeats 4000000 in
theorem mk_quic (x : Str) (tc tf tx : Tok) (hx : x.length ≤ 1000) {A : Around} {s : Shared} {Q : Value → Shared → Prop} {E : Value → Shared → Prop} (X : (hd.heap_39 w.params).In s.heap) (T : Top p loose mean mg mb s.heap) (hdp : A.depth + 3 < recursionLimit) (hun : A.units + 20 < cLine)
    (k : ∀ e h' tk' mA, NewX s.heap h' e 38 mA → mA (Str.ofString "code") = some (.int 10 tc) → Q (.ref e) { s with heap := h', toks := tk' }) :
    wpAny (model PySem.Challenge.rw_no0081_01.row.prog w) A (call (.ref 38) [.int 10 tc, .int 0 tf, .str x tx]) Q E s := by
  have hC : s.heap.get? 38 = some (excClassObj _ _ 38 37 _ [.type "Exception", .type "BaseException", .type "object"] true _ _ _ _ _ _ _ _ _ _ _) := X 38 _ rfl
  have hN : s.heap.Ns 37 (s.heap.nsMap 37) := .of_isNs (isNs_of_in X (ok37 w))
  have hi : s.heap.nsMap 37 "__init__" = some (.ref 35) := ns_of_in X (ok37 w) (by k_is)
  obtain ⟨hh, gg, dd', tk, os⟩ := s
  refine wpAny_call_exc_init PySem.F.excBase_Exception hC hN hi (X 35 _ rfl) rfl fun h' e hm => wpAny_call ?_
  obtain ⟨t, he, htn, ht⟩ := hm.there
  have he0 : hh.get? e = none := hm.new
  have st0 : hh.StaysIn (hideAll h' [e]) := fun b o q => hideAll_get _ (hm.keeps b o q) fun z => by rw [List.mem_singleton.mp z, he0] at q; cases q
  have hg0 : (hideAll h' [e]).get? e = none := hideAll_none _ (List.mem_singleton.mpr rfl)
  have X' := X.keeps st0
  have T' := T.keeps st0
  have hC' := st0 _ _ hC
  generalize hgg : hideAll h' [e] = g at *
  have st1 : g.StaysIn h' := fun b o q => of_hideAll [e] (by rw [hgg]; exact q)
  have sz1 : g.objs.size ≤ h'.objs.size := by rw [← hgg, hideAll_size]; exact Nat.le_refl _
  clear hgg hC X T
  refine enterH (g := g) (news := []) (binds := [(Str.ofString "self", .ref e), (Str.ofString "code", .int 10 tc), (Str.ofString "frame_type", .int 0 tf), (Str.ofString "text", .str x tx)]) st1 sz1 (fun q hq => nomatch hq) X' T' (by k_is) (by k_is) (by ktr_room) (BindsTo.of_eq rfl) (locs rfl) (fun L' h₁' F' N' O' => ?_) rfl rfl rfl (by decide)
  have S' : XSt g L' h₁' e 38 (fun _ => none) := ⟨_, t, (O' _ _ he).1, rfl, rfl, hg0, (O' _ _ he).2, .inl ⟨rfl, fun _ => rfl⟩⟩
  (dsimp only [List.reverse, List.reverseAux, bmap] at F')
  (try dsimp only)
  (try k_fold)
  repeat' (first | (k_unfold; (try dsimp only)) | (k_end; wrow_close) | (k_here; (with_reducible show wpAny _ _ (call (Value.builtin _) _) _ _ _); k_dflt (refine xs_init (by k_asm) (by assumption) (by assumption) ?_); intro h9 F9 S9; tb_rel) | (k_here; (with_reducible show wpAny _ _ (setAttr (Value.ref _) _ _) _ _ _); k_dflt (refine xs_set (by k_asm) (by assumption) (by k_asm) (by assumption) (by first | exact ok57 _ | exact ok77 _ | exact ok37 _) (by k_is) (by k_is) (by first | exact lk_text | exact lk_code | exact lk_frame) ?_); intro h9 tk9 F9 S9; tb_rel) | walk1 | (dsimp only; first | (k_here; (with_reducible show wpAny _ _ (call (Value.builtin _) _) _ _ _); k_dflt (refine xs_init (by k_asm) (by assumption) (by assumption) ?_); intro h9 F9 S9; tb_rel) | (k_here; (with_reducible show wpAny _ _ (setAttr (Value.ref _) _ _) _ _ _); k_dflt (refine xs_set (by k_asm) (by assumption) (by k_asm) (by assumption) (by first | exact ok57 _ | exact ok77 _ | exact ok37 _) (by k_is) (by k_is) (by first | exact lk_text | exact lk_code | exact lk_frame) ?_); intro h9 tk9 F9 S9; tb_rel) | walk1) | (leave1; try dsimp only) | fail "no step")
  refine k e _ _ _ ((NewX.of (x := Str.ofString "text") (v := .str x tx) (by k_asm) (by assumption) (by rfl)).base st0 he0) (by rfl)
end
end
theorem rstEX3 {M : Model} {A : Around} {env : Env} {Q : Flow → Shared → Prop} {E : Value → Shared → Prop} {s : Shared} (h : Q .next s) : wpAny M A (execs [] env) Q E s := by
  first | (walk1; fail) | exact wpAny_execs_nil h
section
noncomputable abbrev excBm : List Value := [.type "Exception", .type "BaseException", .type "object"]
noncomputable def ClsAt (h : Heap) (C : Addr) : Prop :=
  ∃ nm q N bs hdct sn sub ab col dd k0 k1 k2 k3 k5 newId, h.get? C = some (excClassObj nm q C N bs excBm hdct sn sub ab col dd k0 k1 k2 k3 k5 newId)
theorem ClsAt.keeps {h h' : Heap} {C : Addr} (x : ClsAt h C) (st : h.StaysIn h') : ClsAt h' C := by
  obtain ⟨nm, q, N, bs, hdct, sn, sub, ab, col, dd, k0, k1, k2, k3, k5, newId, e⟩ := x
  exact ⟨nm, q, N, bs, hdct, sn, sub, ab, col, dd, k0, k1, k2, k3, k5, newId, st _ _ e⟩
section
variable {w : World} {h : Heap}
theorem cls58 (X : (hd.heap_39 w.params).In h) : ClsAt h 58 := ⟨_, _, _, _, _, _, _, _, _, _, _, _, _, _, _, _, X 58 _ rfl⟩
theorem cls78 (X : (hd.heap_39 w.params).In h) : ClsAt h 78 := ⟨_, _, _, _, _, _, _, _, _, _, _, _, _, _, _, _, X 78 _ rfl⟩
theorem cls38 (X : (hd.heap_39 w.params).In h) : ClsAt h 38 := ⟨_, _, _, _, _, _, _, _, _, _, _, _, _, _, _, _, X 38 _ rfl⟩
end
noncomputable def RaiseX (E : Value → Shared → Prop) (v : Value) (s : Shared) : Prop :=
  ∃ e o vs C, v = .ref e ∧ s.heap.get? e = some o ∧ o.cls = .ref C ∧ o.data = .fields vs ∧ vs[1]? = some .none ∧ ClsAt s.heap C ∧ E (.ref e) s
noncomputable def RaiseX1 (e₁ : Addr) (E : Value → Shared → Prop) (v : Value) (s : Shared) : Prop :=
  ∃ e o vs C o₁ vs₁, v = .ref e ∧ s.heap.get? e = some o ∧ o.cls = .ref C ∧ o.data = .fields vs ∧ vs[1]? = some .none ∧ 2 < vs.size ∧ ClsAt s.heap C ∧ e ≠ e₁ ∧ s.heap.get? e₁ = some o₁ ∧ o₁.data = .fields vs₁ ∧ vs₁[2]? = some .none ∧
    E (.ref e) { s with heap := s.heap.update e (Obj.mapFields (·.setIfInBounds 2 (.ref e₁))) }
section
variable {prog : Program} {w : World} {A : Around} {E : Value → Shared → Prop} {s : Shared} {env : Env}
theorem raise_stmt {x : Sem Value} {Q : Flow → Shared → Prop} {P : Value → Shared → Prop} (hP : ∀ v s, P v s → ∃ e o vs C, v = .ref e ∧ s.heap.get? e = some o ∧ o.cls = .ref C ∧ o.data = .fields vs ∧ vs[1]? = some .none ∧ ClsAt s.heap C ∧ wpAny (model prog w) A (raiseNew (.ref e)) Q E s)
    (h : wpAny (model prog w) A x P E s) : wpAny (model prog w) A (raiseStmt env (some x) none) Q E s := by
  unfold raiseStmt
  refine wpAny_bind (wpAny_mono h (fun v s₁ h₁ => ?_) fun _ _ x => x)
  obtain ⟨e, ⟨oc, od, odt, osl⟩, vs, C, rfl, he, hc, hd, h1, ⟨nm, q, N, bs, hdct, sn, sub, ab, col, dd, k0, k1, k2, k3, k5, newId, hC⟩, hE⟩ := hP _ _ h₁
  simp only at hc hd
  subst hc hd
  obtain ⟨hp, g, d, tk, os⟩ := s₁
  have hcB : (Value.ref C :: excBm).contains (.type "BaseException") = true := by rw [List.contains_cons, show excBm.contains (.type "BaseException") = true from by decide, Bool.or_true]
  repeat (first | with_reducible refine wpAny_loadPart_at he ?_ | with_reducible refine wpAny_loadPart_at hC ?_ | (with_reducible refine wpAny_isSubtype_exc hC ?_; rw [hcB]) | wp_step)
  rw [h1]
  repeat wp_step
  exact hE
theorem x_Raise0 {ex : PySem.Expr} {pos : Pos} {Q : Flow → Shared → Prop} (hh : A.handled = none) (h : wpAny (model prog w) A (eval ex env) (RaiseX E) E s) : wpAny (model prog w) A (exec (.Raise (some ex) none pos) env) Q E s := by
  show wpAny _ A (do standAt pos; raiseStmt env (some (do let v ← eval ex env; standAt pos; pure v)) none) Q E s
  refine wpAny_bind (wpAny_standAt (raise_stmt (P := RaiseX E) ?_ (wpAny_bind (wpAny_mono h (fun v s₁ h₁ => wpAny_bind (wpAny_standAt (wpAny_pure h₁))) fun _ _ x => x))))
  rintro v s ⟨e, o, vs, C, a1, a2, a3, a4, a5, a6, hE⟩
  exact ⟨e, o, vs, C, a1, a2, a3, a4, a5, a6, wpAny_raiseNew_none hh hE⟩
theorem unchain_entry : entryFor table "proto.unchain" = some Builtin.«proto.unchain» := by first | exact entryFor_of_tree (by kernel_rfl) | exact entryFor_of_fast (by kernel_rfl)
theorem x_unchain {e e₁ : Addr} {o₁ : Obj} {vs₁ : Array Value} {Q : Value → Shared → Prop} (h1 : s.heap.get? e₁ = some o₁) (h2 : o₁.data = .fields vs₁) (h3 : vs₁[2]? = some .none) (h : Q .none s) :
    wpAny (model prog w) A (runValue (.builtin "proto.unchain" ⟨[.ref e, .ref e₁, .ref e₁, .bool false], []⟩)) Q E s := by
  refine wpAny_runValue (codeAny_builtin unchain_entry ?_)
  unfold Builtin.«proto.unchain»
  refine wpAny_bind (wpAny_field h1 h2 h3 ?_)
  rw [if_pos (by decide)]
  exact wpAny_pure h
theorem x_raiseNew {α : Type} {e e₁ : Addr} {o o₁ : Obj} {vs vs₁ : Array Value} {Q : α → Shared → Prop} (hh : A.handled = some (.ref e₁)) (hne : e ≠ e₁) (he : s.heap.get? e = some o) (hd : o.data = .fields vs) (h2 : 2 < vs.size)
    (h1 : s.heap.get? e₁ = some o₁) (hd1 : o₁.data = .fields vs₁) (h3 : vs₁[2]? = some .none) (h : E (.ref e) { s with heap := s.heap.update e (Obj.mapFields (·.setIfInBounds 2 (.ref e₁))) }) :
    wpAny (model prog w) A (raiseNew (.ref e) : Sem α) Q E s := by
  unfold raiseNew
  refine wpAny_bind (wpAny_handled ?_)
  rw [hh]
  dsimp only
  rw [if_pos (by simp [Ne.symm hne])]
  first
    | refine wpAny_bind (wpAny_holding (x_unchain h1 hd1 h3 ?_))
    | (trace_state; fail)
  refine wpAny_bind ?_
  unfold updateField
  refine wpAny_bind (wpAny_load he ?_)
  rw [hd]
  dsimp only
  rw [if_pos h2]
  exact wpAny_update he (wpAny_throw h)
theorem x_Raise1 {ex : PySem.Expr} {pos : Pos} {e₁ : Addr} {Q : Flow → Shared → Prop} (hh : A.handled = some (.ref e₁)) (h : wpAny (model prog w) A (eval ex env) (RaiseX1 e₁ E) E s) : wpAny (model prog w) A (exec (.Raise (some ex) none pos) env) Q E s := by
  show wpAny _ A (do standAt pos; raiseStmt env (some (do let v ← eval ex env; standAt pos; pure v)) none) Q E s
  refine wpAny_bind (wpAny_standAt (raise_stmt (P := RaiseX1 e₁ E) ?_ (wpAny_bind (wpAny_mono h (fun v s₁ h₁ => wpAny_bind (wpAny_standAt (wpAny_pure h₁))) fun _ _ x => x))))
  rintro v s ⟨e, o, vs, C, o₁, vs₁, a1, a2, a3, a4, a5, a6, a7, a8, b1, b2, b3, hE⟩
  exact ⟨e, o, vs, C, a1, a2, a3, a4, a5, a7, x_raiseNew hh a8 a2 a4 a6 b1 b2 b3 hE⟩
end
/-- the end of a call that raised an exception of the class C -/
noncomputable def XRes (base : Heap) (l : List Env) (C : Addr) (I : Heap → Option Addr → Value → Prop) (s : Shared) (r : Result) (s' : Shared) : Prop :=
  ∃ e h' tk' D c, r = .error (.ref e) ∧ s' = { s with heap := h', toks := tk' } ∧ Fly base l e C D c .none h' ∧ s.heap.UpToSlots h' ∧ I h' D c
noncomputable def ECon (w : World) (p : Program) (loose : List Str) (mean : ExcName → Option Value) (mg mb : Str → Option Value) (f : Addr) (vs : List Value) (d u : Nat) (P : Heap → Heap → Value → Prop) (C : Addr) (I : Heap → Option Addr → Value → Prop) : Prop :=
  ∀ (A : Around) (base : Heap) (l : List Env) (s : Shared), A.handled = none → Below A base l s.heap → (hd.heap_39 w.params).In base → Top p loose mean mg mb base → base.objs.size ≤ s.heap.objs.size →
    A.depth + d < recursionLimit → A.units + u < cLine →
    codeAny (model PySem.Challenge.rw_no0081_01.row.prog w) A (.call (.ref f) ⟨vs, []⟩) (fun r s' => (∃ v h' tk', r = .ok (.ret v) ∧ s' = { s with heap := h', toks := tk' } ∧ P s.heap h' v ∧ s.heap.StaysIn h') ∨ XRes base l C I s r s') s
section
variable {w : World} {p : Program} {loose : List Str} {mean : ExcName → Option Value} {mg mb : Str → Option Value} {f C : Addr} {vs : List Value} {d u : Nat} {P : Heap → Heap → Value → Prop} {I : Heap → Option Addr → Value → Prop}
theorem econ_of (h : ∀ (dp un : Nat) (gd : Option (List Code)) (base : Heap) (l : List Env) (s : Shared) (R : Result → Shared → Prop),
    Below ⟨none, dp, some l, gd, un⟩ base l s.heap → (hd.heap_39 w.params).In base → Top p loose mean mg mb base → (hd.heap_39 w.params).In s.heap → Top p loose mean mg mb s.heap → base.objs.size ≤ s.heap.objs.size → dp + d < recursionLimit → un + u < cLine →
    (∀ v h' tk', P s.heap h' v → s.heap.StaysIn h' → R (.ok (.ret v)) { s with heap := h', toks := tk' }) →
    (∀ e h' tk' D c, Fly base l e C D c .none h' → s.heap.UpToSlots h' → I h' D c → R (.error (.ref e)) { s with heap := h', toks := tk' }) →
    codeAny (model PySem.Challenge.rw_no0081_01.row.prog w) ⟨none, dp, some l, gd, un⟩ (.call (.ref f) ⟨vs, []⟩) R s) : ECon w p loose mean mg mb f vs d u P C I := by
  intro A base l s hh B X T hsz hd hu
  obtain ⟨ha, dp, fr, gd, un⟩ := A
  have e := B.stack
  simp only at hh e
  subst hh; subst e
  exact h dp un gd base l s _ B X T (X.keeps B.stays) (T.keeps B.stays) hsz hd hu (fun v h' tk' hp st => .inl ⟨v, h', tk', rfl, rfl, hp, st⟩) fun e h' tk' D c a b i => .inr ⟨e, h', tk', D, c, rfl, rfl, a, b, i⟩
section
variable {A A₀ : Around} {base h₀ : Heap} {outer : List Env} {L a : Addr} {m : Str → Option Value} {cn : Str} {cs : Scope} {ccd : Value} {news : List (Addr × Obj)} {s : Shared} {Q E : Value → Shared → Prop}
theorem useE (K : ECon w p loose mean mg mb f vs d u P C I) (B : Below A₀ base outer h₀) (F : Fr h₀ L s.heap m) (X : (hd.heap_39 w.params).In base) (T : Top p loose mean mg mb base) (hsz : base.objs.size ≤ h₀.objs.size) (N : News h₀ L s.heap news)
    (hA : A.frames = some (envOf cn cs L a ccd :: outer)) (hh : A.handled = none) (hk : cs.kind = .function) (hdp : A.depth + d < recursionLimit) (hun : A.units + u < cLine)
    (k : ∀ v h' tk', P s.heap h' v → s.heap.StaysIn h' → Fr h₀ L h' m → News h₀ L h' news → Q v { s with heap := h', toks := tk' })
    (kx : ∀ e h' tk' D c, Fly base (envOf cn cs L a ccd :: outer) e C D c .none h' → s.heap.UpToSlots h' → h₀.UpToSlots h' → I h' D c → E (.ref e) { s with heap := h', toks := tk' }) :
    wpAny (model PySem.Challenge.rw_no0081_01.row.prog w) A (call (.ref f) vs) Q E s := by
  have B₁ := B.push (name := cn) (scope := cs) (a := a) (cd := ccd) F hk
  refine wpAny_call (codeAny_mono (K A base _ s hh ⟨hA, B₁.stays, B₁.frames⟩ X T (Nat.le_trans hsz (Nat.le_trans F.above (Nat.le_of_lt F.ns.lt))) hdp hun) ?_)
  rintro r s' (⟨v, h', tk', rfl, rfl, hp, st⟩ | ⟨e, h', tk', D, c, rfl, rfl, fl, up, i⟩)
  · exact k v h' tk' hp st (Fr.stays F st) (News.stays N st)
  · exact kx e h' tk' D c fl up ((Heap.UpToSlots.of_keeps F.keep).trans up) i
/-- an exception goes on out of a function -/
theorem fin_on {M : Model} {Q : Unit → Shared → Prop} {E : Value → Shared → Prop} {e : Addr} {D : Option Addr} {c : Value} (B : Below A₀ base outer h₀) (fl : Fly base (envOf cn cs L a ccd :: outer) e C D c .none s.heap)
    (k : ∀ h', Fly base outer e C D c .none h' → s.heap.UpToSlots h' → Q () { s with heap := h' }) :
    wpAny M (A₀.deeper (envOf cn cs L a ccd)) (leaving (envOf cn cs L a ccd) (.ref e)) Q E s :=
  x_leave_next (Around.frames_deeper B.stack) rfl fl k
/-- a new exception leaves the function that made it -/
theorem fin_new {M : Model} {Q : Unit → Shared → Prop} {E : Value → Shared → Prop} {e : Addr} {h₁ : Heap} {mA : Str → Option Value} (B : Below A₀ base outer h₀) (F : Fr h₀ L h₁ m) (N : NewX h₁ s.heap e C mA) (hk : cs.kind = .function)
    (k : ∀ h' D, Fly base outer e C (some D) .none .none h' → h₀.UpToSlots h' → h'.Ns D mA → Q () { s with heap := h' }) :
    wpAny M (A₀.deeper (envOf cn cs L a ccd)) (leaving (envOf cn cs L a ccd) (.ref e)) Q E s := by
  obtain ⟨k1, k2, o, t, D, he, hc, hD, hd, hns, _⟩ := N
  have B₁ := B.push (name := cn) (scope := cs) (a := a) (cd := ccd) F hk
  refine x_leave_first (C := C) (D := some D) (c := .none) (Around.frames_deeper B.stack) (B₁.frames.of_keeps fun b o q _ => ⟨o, k1 b o q, rfl⟩) rfl he (fun b o q => k1 b o (B₁.stays b o q)) (fresh_of_stays B₁.stays k2) ⟨hc, hD, hd, rfl⟩ rfl fun h' fl up => ?_
  exact k h' D fl (((Heap.UpToSlots.of_keeps F.keep).trans (Heap.UpToSlots.of_keeps k1)).trans up) (up.ns hns.ns)
theorem fin_raise {M : Model} {Q : Unit → Shared → Prop} {E' : Value → Shared → Prop} {e : Addr} {h₁ : Heap} {mA : Str → Option Value} (N : NewX h₁ s.heap e C mA) (hC : ClsAt h₁ C) (k : E (.ref e) s) : RaiseX E (.ref e) s := by
  obtain ⟨k1, k2, o, t, D, he, hc, hD, hd, hns, _⟩ := N
  exact ⟨e, o, _, C, rfl, he, hc, hd, rfl, hC.keeps k1, k⟩
theorem name_X {M : Model} {K : Frag} {x : Str} {pos : Pos} {v : Value} {Q : Value → Shared → Prop} {mean : ExcName → Option Value} (st : base.StaysIn s.heap) (X : K.In base) (T : Top p loose mean mg mb base) (e : nsIn K mainGlobals x = some (some v)) (h : Q v s)
    (hk : cs.kind = .function) (hx : (envOf cn cs L a ccd).kindOf x = some .globalImplicit) (hd : (x == ("__debug__" : Str)) = false) :
    wpAny M A (eval (.Name x pos) (envOf cn cs L a ccd)) Q E s :=
  Calls.Name_function_global hk hx (Calls.loadGlobal_global (env := envOf cn cs L a ccd) (T.g.keeps st) (mg_of X T.g e) h) hd
end
end
section
variable {prog : Program} {w : World} {p : Program} {loose : List Str} {mean : ExcName → Option Value} {mg mb : Str → Option Value} {A₀ : Around} {base h₀ h : Heap} {outer : List Env} {L a e C : Addr} {D : Option Addr} {c : Value} {m : Str → Option Value} {name x : Str} {scope : Scope} {cd : Value} {K : Frag}
  {b₀ : Stmt} {suite : List Stmt} {np pos : Pos} {rest : List ExceptHandler} {Q : Flow → Shared → Prop} {E : Value → Shared → Prop} {s' : Shared} {n : Str}
theorem x_caught (B : Below A₀ base outer h₀) (F : Fr h₀ L h m) (fl : Fly base (envOf name scope L a cd :: outer) e C D c .none s'.heap) (up : h.UpToSlots s'.heap) (X : K.In base) (T : Top p loose mean mg mb base) (hsz : base.objs.size ≤ h₀.objs.size)
    (hC : ClsAt base C) (ex : nsIn K mainGlobals x = some (some (.ref C)))
    (k : ∀ h', Fly base (envOf name scope L a cd :: outer) e C D c .none h' → s'.heap.UpToSlots h' → Fr base L h' m → News base L h' [] →
      wpAny (model prog w) ((A₀.deeper (envOf name scope L a cd)).mark (some (.ref e))) (execs (b₀ :: suite) (envOf name scope L a cd)) Q E { s' with heap := h' })
    (hk : scope.kind = .function) (hx : (envOf name scope L a cd).kindOf x = some .globalImplicit) (hd : (x == ("__debug__" : Str)) = false)
    (hE : PassesOwnAt (model prog w) ((A₀.deeper (envOf name scope L a cd)).mark (some (.ref e))) (A₀.deeper (envOf name scope L a cd)) (envOf name scope L a cd) E) :
    wpAny (model prog w) (A₀.deeper (envOf name scope L a cd)) (noteFrame (.ref e) (envOf name scope L a cd))
      (fun _ s₂ => wpAny (model prog w) (A₀.deeper (envOf name scope L a cd)) (setFlight (.ref e) none) (fun _ s₃ =>
        wpAny (model prog w) (A₀.deeper (envOf name scope L a cd)) (handleBy (.ref e) (envOf name scope L a cd) (.ExceptHandler (some (.Name x np)) none (b₀ :: suite) pos :: rest)) Q E s₃) E s₂) E s' := by
  refine x_note_next (Around.frames_deeper B.stack) rfl fl fun h₄ fl₄ up₄ => ?_
  refine x_flight fl₄ fun h₅ fl₅ up₅ => ?_
  refine wpAny_handleBy_cons (codeAny_handlers_test (name_X fl₅.1 X T ex ?_ hk hx hd)) (by intro q; cases q)
  obtain ⟨nm, q, N, bs, hdct, sn, sub, ab, col, dd, k0, k1, k2, k3, k5, newId, hC'⟩ := hC.keeps fl₅.1
  obtain ⟨oe, vs, he, ho, _⟩ := fl₅.there
  refine wpAny_excMatches_sub_self hC' he ho.1 (by decide) (codeAny_handlers_suite ?_)
  refine x_flight fl₅ fun h₆ fl₆ up₆ => ?_
  have F' : Fr base L h₆ m := ⟨(up.trans (up₄.trans (up₅.trans up₆))).ns F.ns, fl₆.1, Nat.le_trans hsz F.above⟩
  exact wpAny_passesOwnAt hE (k h₆ fl₆ (up₄.trans (up₅.trans up₆)) F' News.nil)
end
section
variable {w : World} {p : Program} {loose : List Str} {mean : ExcName → Option Value} {mg mb : Str → Option Value} {A : Around} {s : Shared} {Q : Value → Shared → Prop} {E : Value → Shared → Prop} {h₀ : Heap} {L : Addr} {m : Str → Option Value}
theorem mkShortF {x : Str} {tx : Tok} (F : Fr h₀ L s.heap m) (X : (hd.heap_39 w.params).In h₀) (T : Top p loose mean mg mb h₀) (hdp : A.depth + 3 < recursionLimit) (hun : A.units + 20 < cLine)
    (k : ∀ e h' tk' mA, NewX s.heap h' e 58 mA → Q (.ref e) { s with heap := h', toks := tk' }) :
    wpAny (model PySem.Challenge.rw_no0081_01.row.prog w) A (call (.ref 58) [.str x tx]) Q E s := mk_short x tx (X.keeps F.keep) (T.keeps F.keep) hdp hun k
theorem mkRefusedF {x : Str} {tx : Tok} (F : Fr h₀ L s.heap m) (X : (hd.heap_39 w.params).In h₀) (T : Top p loose mean mg mb h₀) (hdp : A.depth + 3 < recursionLimit) (hun : A.units + 20 < cLine)
    (k : ∀ e h' tk' mA, NewX s.heap h' e 78 mA → Q (.ref e) { s with heap := h', toks := tk' }) :
    wpAny (model PySem.Challenge.rw_no0081_01.row.prog w) A (call (.ref 78) [.str x tx]) Q E s := mk_refused x tx (X.keeps F.keep) (T.keeps F.keep) hdp hun k
theorem mkQuicF {x : Str} {tc tf tx : Tok} (hx : x.length ≤ 1000) (F : Fr h₀ L s.heap m) (X : (hd.heap_39 w.params).In h₀) (T : Top p loose mean mg mb h₀) (hdp : A.depth + 3 < recursionLimit) (hun : A.units + 20 < cLine)
    (k : ∀ e h' tk' mA, NewX s.heap h' e 38 mA → mA (Str.ofString "code") = some (.int 10 tc) → Q (.ref e) { s with heap := h', toks := tk' }) :
    wpAny (model PySem.Challenge.rw_no0081_01.row.prog w) A (call (.ref 38) [.int 10 tc, .int 0 tf, .str x tx]) Q E s := mk_quic x tc tf tx hx (X.keeps F.keep) (T.keeps F.keep) hdp hun k
end
section
variable {w : World} {A₀ : Around} {base h₀ h₁ : Heap} {outer : List Env} {L a e C : Addr} {m mA : Str → Option Value} {cn : Str} {cs : Scope} {ccd : Value} {s : Shared} {M : Model} {E' : Value → Value → Shared → Prop} {R : Result → Shared → Prop}
theorem raise_out (B : Below A₀ base outer h₀) (F : Fr h₀ L h₁ m) (N : NewX h₁ s.heap e C mA) (hC : ClsAt h₀ C) (hk : cs.kind = .function)
    (k : ∀ h' D, Fly base outer e C (some D) .none .none h' → h₀.UpToSlots h' → h'.Ns D mA → R (.error (.ref e)) { s with heap := h' }) :
    RaiseX (fun e s' => wpAny M (A₀.deeper (envOf cn cs L a ccd)) (leaving (envOf cn cs L a ccd) e) (fun _ s'' => R (.error e) s'') (E' e) s') (.ref e) s :=
  fin_raise (M := M) (Q := fun _ _ => True) (E' := fun _ _ => True) N (hC.keeps F.keep) (fin_new B F N hk k)
theorem retP {P : Heap → Heap → Value → Prop} {v : Value} {h' : Heap} {tk' : Nat} (hret : ∀ v h' tk', P s.heap h' v → s.heap.StaysIn h' → R (.ok (.ret v)) { s with heap := h', toks := tk' }) (F : Fr s.heap L h' m) (hp : P s.heap h' v) :
    R (.ok (.ret v)) { s with heap := h', toks := tk' } := hret v h' tk' hp F.keep
end
section
variable {A₀ : Around} {base h₀ h₁ : Heap} {outer : List Env} {L a e C : Addr} {m mA : Str → Option Value} {s : Shared} {E : Value → Shared → Prop}
theorem fin_raiseF (N : NewX h₁ s.heap e C mA) (F : Fr h₀ L h₁ m) (B : Below A₀ base outer h₀) (hC : ClsAt base C) (k : E (.ref e) s) : RaiseX E (.ref e) s := by
  obtain ⟨k1, k2, o, t, D, he, hc, hD, hd, hns, _⟩ := N
  exact ⟨e, o, _, C, rfl, he, hc, hd, rfl, hC.keeps fun b o q => k1 _ _ (F.keep _ _ (B.stays b o q)), k⟩
theorem sz_up {base h₀ g : Heap} {L : Addr} {m : Str → Option Value} (F : Fr h₀ L g m) (h : base.objs.size ≤ h₀.objs.size) : base.objs.size ≤ g.objs.size := Nat.le_trans h (Nat.le_trans F.above (Nat.le_of_lt F.ns.lt))
theorem up_fr {h₀ g : Heap} {L : Addr} {m : Str → Option Value} (F : Fr h₀ L g m) : h₀.UpToSlots g := .of_keeps F.keep
end
end
section
noncomputable def XOut (base : Heap) (l outer : List Env) (R : Result → Shared → Prop) (v : Value) (s₂ : Shared) : Prop :=
  ∃ e₂ o vs C₂ D₂ c₂, v = .ref e₂ ∧ s₂.heap.get? e₂ = some o ∧ XObj C₂ D₂ c₂ o vs ∧ vs[1]? = some .none ∧ base.StaysIn s₂.heap ∧ base.get? e₂ = none ∧ s₂.heap.FunFrames base l ∧
    ∀ h₃, Fly base outer e₂ C₂ D₂ c₂ .none h₃ → s₂.heap.UpToSlots h₃ → R (.error (.ref e₂)) { s₂ with heap := h₃ }
section
variable {prog : Program} {w : World} {p : Program} {loose : List Str} {mean : ExcName → Option Value} {mg mb : Str → Option Value} {A₀ : Around} {base h₀ h : Heap} {outer : List Env} {L a e C : Addr} {D : Option Addr} {c : Value} {m : Str → Option Value} {name x : Str} {scope : Scope} {cd : Value} {K : Frag}
  {b₀ : Stmt} {suite : List Stmt} {np pos : Pos} {rest : List ExceptHandler} {Q : Flow → Shared → Prop} {E' : Value → Value → Shared → Prop} {R : Result → Shared → Prop} {s' : Shared} {n : Str}
theorem x_caughtR (B : Below A₀ base outer h₀) (F : Fr h₀ L h m) (fl : Fly base (envOf name scope L a cd :: outer) e C D c .none s'.heap) (up : h.UpToSlots s'.heap) (X : K.In base) (T : Top p loose mean mg mb base) (hsz : base.objs.size ≤ h₀.objs.size)
    (hC : ClsAt base C) (ex : nsIn K mainGlobals x = some (some (.ref C)))
    (k : ∀ h', Fly base (envOf name scope L a cd :: outer) e C D c .none h' → s'.heap.UpToSlots h' → Fr base L h' m → News base L h' [] →
      wpAny (model prog w) ((A₀.deeper (envOf name scope L a cd)).mark (some (.ref e))) (execs (b₀ :: suite) (envOf name scope L a cd)) Q (XOut base (envOf name scope L a cd :: outer) outer R) { s' with heap := h' })
    (hk : scope.kind = .function) (hx : (envOf name scope L a cd).kindOf x = some .globalImplicit) (hd : (x == ("__debug__" : Str)) = false) :
    wpAny (model prog w) (A₀.deeper (envOf name scope L a cd)) (noteFrame (.ref e) (envOf name scope L a cd))
      (fun _ s₂ => wpAny (model prog w) (A₀.deeper (envOf name scope L a cd)) (setFlight (.ref e) none) (fun _ s₃ =>
        wpAny (model prog w) (A₀.deeper (envOf name scope L a cd)) (handleBy (.ref e) (envOf name scope L a cd) (.ExceptHandler (some (.Name x np)) none (b₀ :: suite) pos :: rest)) Q
          (fun v s₄ => wpAny (model prog w) (A₀.deeper (envOf name scope L a cd)) (leaving (envOf name scope L a cd) v) (fun _ s₅ => R (.error v) s₅) (E' v) s₄) s₃)
        (fun v s₄ => wpAny (model prog w) (A₀.deeper (envOf name scope L a cd)) (leaving (envOf name scope L a cd) v) (fun _ s₅ => R (.error v) s₅) (E' v) s₄) s₂)
      (fun v s₄ => wpAny (model prog w) (A₀.deeper (envOf name scope L a cd)) (leaving (envOf name scope L a cd) v) (fun _ s₅ => R (.error v) s₅) (E' v) s₄) s' := by
  refine x_note_next (Around.frames_deeper B.stack) rfl fl fun h₄ fl₄ up₄ => ?_
  refine x_flight fl₄ fun h₅ fl₅ up₅ => ?_
  refine wpAny_handleBy_cons (codeAny_handlers_test (name_X fl₅.1 X T ex ?_ hk hx hd)) (by intro q; cases q)
  obtain ⟨nm, q, N, bs, hdct, sn, sub, ab, col, dd, k0, k1, k2, k3, k5, newId, hC'⟩ := hC.keeps fl₅.1
  obtain ⟨oe, vs, he, ho, _⟩ := fl₅.there
  refine wpAny_excMatches_sub_self hC' he ho.1 (by decide) (codeAny_handlers_suite ?_)
  refine x_flight fl₅ fun h₆ fl₆ up₆ => ?_
  have F' : Fr base L h₆ m := ⟨(up.trans (up₄.trans (up₅.trans up₆))).ns F.ns, fl₆.1, Nat.le_trans hsz F.above⟩
  refine wpAny_mono (k h₆ fl₆ (up₄.trans (up₅.trans up₆)) F' News.nil) (fun _ _ y => y) ?_
  rintro v s₂ ⟨e₂, o, vs₂, C₂, D₂, c₂, rfl, h1, h2, h3, h4, h5, h6, kk⟩
  refine x_note_first (Around.frames_deeper B.stack) h6 rfl h1 h4 h5 h2 h3 fun g₁ x₁ u₁ => ?_
  refine x_came_back rfl x₁ fun g₂ x₂ u₂ => ?_
  show wpAny _ _ (leaving _ _) _ _ _
  unfold leaving
  refine wpAny_bind (x_note_again rfl x₂ (x_flight x₂ fun g₃ x₃ u₃ => ?_))
  exact kk _ x₃.tail (u₁.trans (u₂.trans u₃))
end
section
variable {base h₁ : Heap} {l outer : List Env} {L e e₁ C C₁ : Addr} {D₁ : Option Addr} {m mA : Str → Option Value} {s : Shared} {R : Result → Shared → Prop} {fl : Value}
theorem fin_raise1 (N : NewX h₁ s.heap e C mA) (hC : ClsAt base C) (x : Fly base l e₁ C₁ D₁ .none fl h₁)
    (k : ∀ D h₃, Fly base outer e C (some D) (.ref e₁) .none h₃ → h₁.UpToSlots h₃ → R (.error (.ref e)) { s with heap := h₃ }) : RaiseX1 e₁ (XOut base l outer R) (.ref e) s := by
  obtain ⟨k1, k2, o, t, D, he, hc, hD, hd, hns, _⟩ := N
  obtain ⟨o₁, vs₁, T₁, oT₁, ts₁, b1, b2, b3, _⟩ := x.2.2.2
  have hne : e ≠ e₁ := fun q => by rw [q, b1] at k2; cases k2
  refine ⟨e, o, _, C, o₁, vs₁, rfl, he, hc, hd, rfl, by unfold newVs; simp, hC.keeps fun b o q => k1 _ _ (x.1 _ _ q), hne, k1 _ _ b1, b2.2.2.1, b2.2.2.2, ?_⟩
  have hd₂ := Obj.data_mapFields hd (·.setIfInBounds 2 (Value.ref e₁))
  have he₂ := Heap.get?_update_self (Obj.mapFields (·.setIfInBounds 2 (Value.ref e₁))) he (Obj.isFreed_of_fields hd₂)
  have keep : ∀ b o, h₁.get? b = some o → (s.heap.update e (Obj.mapFields (·.setIfInBounds 2 (Value.ref e₁)))).get? b = some o := fun b o q => by
    rw [Heap.get?_update_other _ _ (fun z => by rw [← z, k2] at q; cases q)]
    exact k1 _ _ q
  refine ⟨e, _, _, C, some D, .ref e₁, rfl, he₂, ⟨(Obj.cls_mapFields _ _).trans hc, ?_, hd₂, by unfold newVs; simp⟩, by unfold newVs; simp, fun b o q => keep _ _ (x.1 _ _ q), fresh_of_stays x.1 k2, x.2.2.1.of_keeps fun b o q _ => ⟨o, keep b o q, rfl⟩, fun h₃ x₃ u₃ => ?_⟩
  · rw [← hD]
    obtain ⟨a1, a2, a3, a4⟩ := o
    simp only at hd
    subst hd
    rfl
  · exact k D h₃ x₃ ((Heap.UpToSlots.of_keeps keep).trans u₃)
end
end
section
variable {w : World} {p : Program} {loose : List Str} {mean : ExcName → Option Value} {mg mb : Str → Option Value}
noncomputable def mixStep (f o : Int) : Int := (f * 6364136223846793005 + o + 1).fmod 170141183460469231731687303715884105727
noncomputable def mix (i : Int) (ks : List Int) : Int := ks.foldl mixStep (i.fmod 170141183460469231731687303715884105727)
set_option maxHeartbeats 4000000 in
theorem c_mixed (i : Int) (ti : Tok) (b : Array UInt8) (tb : Tok) (ks : List Int) (hk : KBw.bInts b = ks) :
   Con w p loose mean mg mb 244 [.int i ti, .bytes b tb] 3 20 (isI (mix i ks)) := by
  refine con_of fun dp un gd base l s R B X T hd hu hret => ?_
  refine enter (binds := [(Str.ofString "start", .int i ti), (Str.ofString "data", .bytes b tb)]) X T (by k_is) (by k_is) (by ktr_room) (BindsTo.of_eq rfl) (locs rfl) (fun L' h₁' F' N' => ?_) rfl rfl rfl (by decide)
  (dsimp only [List.reverse, List.reverseAux, bmap] at F')
  (try dsimp only)
  (try k_fold)
  k_steps
  rename Fr _ _ _ _ => F9
  exact retI hret F9 rfl
end
section
variable {w : World} {p : Program} {loose : List Str} {mean : ExcName → Option Value} {mg mb : Str → Option Value}
set_option maxHeartbeats 4000000 in
theorem c_putids (b c : Array UInt8) (tb tc : Tok) (ds ss : List Int) (hb : KBw.bInts b = ds) (hc : KBw.bInts c = ss) (hd : ds.length ≤ 21) (hs : ss.length ≤ 21) :
   Con w p loose mean mg mb 188 [.bytes b tb, .bytes c tc] 5 40 (isB ((ds.length : Int) :: ds ++ (ss.length : Int) :: ss)) := by
  refine con_of fun dp un gd base l s R B X T hd hu hret => ?_
  refine enter (binds := [(Str.ofString "dcid", .bytes b tb), (Str.ofString "scid", .bytes c tc)]) X T (by k_is) (by k_is) (by ktr_room) (BindsTo.of_eq rfl) (locs rfl) (fun L' h₁' F' N' => ?_) rfl rfl rfl (by decide)
  (dsimp only [List.reverse, List.reverseAux, bmap] at F')
  (try dsimp only)
  (try k_fold)
  k_steps
  rename Fr _ _ _ _ => F9
  refine retB (s := s) hret F9 (by assumption) ?_
  have e1 : (((ds.length : Int).toNat.toUInt8.toNat : Nat) : Int) = (ds.length : Int) := by assumption
  have e2 : (((ss.length : Int).toNat.toUInt8.toNat : Nat) : Int) = (ss.length : Int) := by assumption
  simp only [List.map_cons, List.map_nil, e1, e2]
  simp
end
section
variable {w : World} {p : Program} {loose : List Str} {mean : ExcName → Option Value} {mg mb : Str → Option Value}
noncomputable def turnStep (s : Int) : Int := (s * 6364136223846793005 + 1442695040888963407).fmod 170141183460469231731687303715884105727
noncomputable def turnGo : Int → List Int → List Int
  | _, [] => []
  | s, o :: r => Builtin.bitXor o (((turnStep s).fdiv 65536).fmod 256) :: turnGo (turnStep s) r
noncomputable def turnEnd : Int → List Int → Int
  | s, [] => s
  | s, _ :: r => turnEnd (turnStep s) r
theorem turn_app : ∀ (s : Int) (r : List Int) (o : Int), turnGo s (r ++ [o]) = turnGo s r ++ [Builtin.bitXor o (((turnStep (turnEnd s r)).fdiv 65536).fmod 256)]
  | _, [], _ => rfl
  | s, _ :: r, o => by show _ :: turnGo _ (r ++ [o]) = _ :: (turnGo _ r ++ _); rw [turn_app]; rfl
theorem turnEnd_app : ∀ (s : Int) (r : List Int) (o : Int), turnEnd s (r ++ [o]) = turnStep (turnEnd s r)
  | _, [], _ => rfl
  | s, _ :: r, o => turnEnd_app (turnStep s) r o
theorem turn_len : ∀ (s : Int) (r : List Int), (turnGo s r).length = r.length
  | _, [] => rfl
  | s, _ :: r => by show (_ :: turnGo _ r).length = _; simp [turn_len]
theorem turn_in : ∀ (s : Int) (r : List Int), KBa.In r → KBa.In (turnGo s r)
  | _, [], _ => fun _ h => nomatch h
  | s, o :: r, h => by
    intro n hn
    rcases List.mem_cons.mp hn with rfl | hn
    · exact xor_byte (h o (by simp)) (byte_mod _)
    · exact turn_in _ r (fun k hk => h k (by simp [hk])) n hn
noncomputable def turned (kk : List Int) (i : Int) (ks : List Int) : List Int := turnGo (mix (mix (i + 1) kk) [98, 111, 100, 121]) ks
noncomputable def TurnInv (s0 : Int) (pre : List Int) (st : Int) (items : List Int) : Prop := st = turnEnd s0 pre ∧ items = turnGo s0 pre
theorem mix_in (i : Int) (ks : List Int) : 0 ≤ mix i ks ∧ mix i ks < 170141183460469231731687303715884105727 := by
  have key : ∀ (ks : List Int) (a : Int), 0 ≤ a ∧ a < 170141183460469231731687303715884105727 → 0 ≤ ks.foldl mixStep a ∧ ks.foldl mixStep a < 170141183460469231731687303715884105727 := by
    intro ks
    induction ks with
    | nil => exact fun a h => h
    | cons o r ih =>
      intro a _
      refine ih _ ?_
      unfold mixStep
      rw [Int.fmod_eq_emod_of_nonneg _ (by decide)]; omega
  refine key ks _ ?_
  rw [Int.fmod_eq_emod_of_nonneg _ (by decide)]; omega
theorem bInts_in {b : Array UInt8} {ks : List Int} (hk : KBw.bInts b = ks) : KBa.In ks := by subst hk; exact fun n hn => KBw.ints_in hn
theorem turn_items {s0 st : Int} {ks items : List Int} {b : Array UInt8} (h : TurnInv s0 ks st items) (hk : KBw.bInts b = ks) : KBa.In items := by
  obtain ⟨_, e⟩ := h
  subst e; exact turn_in _ _ (bInts_in hk)
theorem turn_end {st i : Int} {ks items kk : List Int} (h : TurnInv (mix (mix (i + 1) kk) [98, 111, 100, 121]) ks st items) : items = turned kk i ks := h.2
theorem turnStart {kk ls : List Int} {i s0 s1 : Int} (h1 : s0 = mix (i + 1) kk) (h2 : s1 = mix s0 ls) (e : ls = [98, 111, 100, 121]) : ([] : List Int).length = ([] : List Int).length ∧ TurnInv (mix (mix (i + 1) kk) [98, 111, 100, 121]) [] s1 [] := by
  subst h1; subst h2; subst e; exact ⟨rfl, rfl, rfl⟩
theorem turnNext {s0 : Int} {pre : List Int} {st n : Int} {items : List Int} (h1 : items.length = pre.length) (h : TurnInv s0 pre st items) :
    (items ++ [Builtin.bitXor n ((((st * 6364136223846793005 + 1442695040888963407).fmod 170141183460469231731687303715884105727).fdiv 65536).fmod 256)]).length = (pre ++ [n]).length ∧ TurnInv s0 (pre ++ [n]) ((st * 6364136223846793005 + 1442695040888963407).fmod 170141183460469231731687303715884105727) (items ++ [Builtin.bitXor n ((((st * 6364136223846793005 + 1442695040888963407).fmod 170141183460469231731687303715884105727).fdiv 65536).fmod 256)]) := by
  obtain ⟨h4, h5⟩ := h
  exact ⟨by simp [h1], by rw [turnEnd_app, ← h4]; rfl, by rw [turn_app, ← h4, ← h5]; rfl⟩
local macro_rules | `(tactic| kst_facts) => `(tactic| exact IntsAre.nil)
set_option maxHeartbeats 4000000 in
theorem c_turned (key : Array UInt8) (tk : Tok) (i : Int) (ti : Tok) (b : Array UInt8) (tb : Tok) (kk ks : List Int) (hkk : KBw.bInts key = kk) (hk : KBw.bInts b = ks) (hb : ks.length ≤ 1000) :
   Con w p loose mean mg mb 251 [.bytes key tk, .int i ti, .bytes b tb] 5 40 (isB (turned kk i ks)) := by
  refine con_of fun dp un gd base l s R B X T hd hu hret => ?_
  refine enter (binds := [(Str.ofString "key", .bytes key tk), (Str.ofString "number", .int i ti), (Str.ofString "data", .bytes b tb)]) X T (by k_is) (by k_is) (by ktr_room) (BindsTo.of_eq rfl) (locs rfl) (fun L' h₁' F' N' => ?_) rfl rfl rfl (by decide)
  (dsimp only [List.reverse, List.reverseAux, bmap] at F')
  (try dsimp only)
  (try k_fold)
  (k_with "state" => first | exact turnStart (by assumption) (by assumption) rfl | exact turnNext (by assumption) (by assumption))
  repeat' (first | ((fail_if_success (with_reducible show wpAny _ _ (pyIter _) _ _ _)); first | (k_unfold; (try dsimp only)) | (k_end; wrow_close) | (k_here; (with_reducible show wpAny _ _ (call (Value.ref 244) _) _ _ _); k_dflt (refine useI (c_mixed _ _ _ _ _ (by kba_ints2)) (by k_asm) (by k_asm) (by k_asm) (by k_asm) (by k_asm) (by exact rfl) (by exact rfl) (by exact rfl) (by ktr_room) (by ktr_units) ?_); intro y9 t9 h9 tk9 e9 F9 N9; tb_rel) | walk1 | (dsimp only; first | (k_here; (with_reducible show wpAny _ _ (call (Value.ref 244) _) _ _ _); k_dflt (refine useI (c_mixed _ _ _ _ _ (by kba_ints2)) (by k_asm) (by k_asm) (by k_asm) (by k_asm) (by k_asm) (by exact rfl) (by exact rfl) (by exact rfl) (by ktr_room) (by ktr_units) ?_); intro y9 t9 h9 tk9 e9 F9 N9; tb_rel) | walk1)))
  k_state (fun pre st items => items.length = pre.length ∧ TurnInv (mix (mix (i + 1) kk) [98, 111, 100, 121]) pre st items) "state" "found"
  · repeat' (first | (k_unfold; (try dsimp only)) | (k_end; wrow_close) | (k_here; (with_reducible show wpAny _ _ (call (Value.ref 244) _) _ _ _); k_dflt (refine useI (c_mixed _ _ _ _ _ (by kba_ints2)) (by k_asm) (by k_asm) (by k_asm) (by k_asm) (by k_asm) (by exact rfl) (by exact rfl) (by exact rfl) (by ktr_room) (by ktr_units) ?_); intro y9 t9 h9 tk9 e9 F9 N9; tb_rel) | walk1 | (dsimp only; first | (k_here; (with_reducible show wpAny _ _ (call (Value.ref 244) _) _ _ _); k_dflt (refine useI (c_mixed _ _ _ _ _ (by kba_ints2)) (by k_asm) (by k_asm) (by k_asm) (by k_asm) (by k_asm) (by exact rfl) (by exact rfl) (by exact rfl) (by ktr_room) (by ktr_units) ?_); intro y9 t9 h9 tk9 e9 F9 N9; tb_rel) | walk1) | (leave1; try dsimp only) | fail "no step")
  · (have hin := turn_items (by assumption) hk)
    repeat' (first | (k_unfold; (try dsimp only)) | (k_end; wrow_close) | (k_here; (with_reducible show wpAny _ _ (call (Value.ref 244) _) _ _ _); k_dflt (refine useI (c_mixed _ _ _ _ _ (by kba_ints2)) (by k_asm) (by k_asm) (by k_asm) (by k_asm) (by k_asm) (by exact rfl) (by exact rfl) (by exact rfl) (by ktr_room) (by ktr_units) ?_); intro y9 t9 h9 tk9 e9 F9 N9; tb_rel) | walk1 | (dsimp only; first | (k_here; (with_reducible show wpAny _ _ (call (Value.ref 244) _) _ _ _); k_dflt (refine useI (c_mixed _ _ _ _ _ (by kba_ints2)) (by k_asm) (by k_asm) (by k_asm) (by k_asm) (by k_asm) (by exact rfl) (by exact rfl) (by exact rfl) (by ktr_room) (by ktr_units) ?_); intro y9 t9 h9 tk9 e9 F9 N9; tb_rel) | walk1) | (leave1; try dsimp only) | fail "no step")
    exact retB (s := s) hret (by k_asm) (KBa.ints_make (by assumption)) (turn_end (by assumption))
end
section
variable {w : World} {p : Program} {loose : List Str} {mean : ExcName → Option Value} {mg mb : Str → Option Value}
noncomputable def itd : Nat → Int → Int
  | 0, n => n
  | j + 1, n => (itd j n).fdiv 256
noncomputable def be : Nat → Int → List Int
  | 0, _ => []
  | j + 1, n => (itd j n).fmod 256 :: be j n
theorem be_len : ∀ (j : Nat) (n : Int), (be j n).length = j
  | 0, _ => rfl
  | j + 1, n => by show (_ :: be j n).length = _; simp [be_len]
theorem itd_nn : ∀ (j : Nat) (n : Int), 0 ≤ n → 0 ≤ itd j n
  | 0, _, h => h
  | j + 1, n, h => by
    have := itd_nn j n h
    show 0 ≤ (itd j n).fdiv 256
    rw [Int.fdiv_eq_ediv_of_nonneg _ (by decide)]; omega
theorem be_in : ∀ (j : Nat) (n : Int), KBa.In (be j n)
  | 0, _ => fun _ h => nomatch h
  | j + 1, n => by
    intro k hk
    rcases List.mem_cons.mp hk with rfl | hk
    · exact byte_mod _
    · exact be_in j n k hk
theorem ba_set {b : Array UInt8} {m j : Nat} {n : Int} (h : KBw.bInts b = List.replicate (m + 1) 0 ++ be j n) :
    KBw.bInts (b.setIfInBounds m ((itd j n).fmod 256).toNat.toUInt8) = List.replicate m 0 ++ be (j + 1) n := by
  have hb := byte_mod (itd j n)
  have e : KBw.bInts (b.setIfInBounds m ((itd j n).fmod 256).toNat.toUInt8) = (KBw.bInts b).set m ((itd j n).fmod 256) := by
    unfold KBw.bInts
    rw [Array.toList_setIfInBounds, List.map_set]
    congr 1
    show ((UInt8.ofNat ((itd j n).fmod 256).toNat).toNat : Int) = _
    rw [UInt8.toNat_ofNat']
    omega
  rw [e, h, List.replicate_succ', List.append_assoc, List.set_append]
  simp [be]
theorem sz_bInts {b : Array UInt8} {ks : List Int} (h : KBw.bInts b = ks) : b.size = ks.length := by
  subst h; unfold KBw.bInts; simp
theorem sz_inv {b : Array UInt8} {m j : Nat} {n : Int} (h : KBw.bInts b = List.replicate m 0 ++ be j n) : b.size = m + j := by
  rw [sz_bInts h, List.length_append, List.length_replicate, be_len]
structure PutInv (size : Nat) (n : Int) (pre : List Int) (c : Int × Tok × Array UInt8) : Prop where
  num : c.1 = itd pre.length n
  oct : KBw.bInts c.2.2 = List.replicate (size - pre.length) 0 ++ be pre.length n
section
variable {prog : Program} {w : World} {A : Around} {E : Value → Shared → Prop} {s : Shared}
theorem setN {h₀ : Heap} {L a : Addr} {m : Str → Option Value} {rest : List (Addr × Obj)} {b : Array UInt8} {i v : Int} {t u : Tok} {Q : Unit → Shared → Prop}
    (F : Fr h₀ L s.heap m) (N : News h₀ L s.heap ((a, baObj b) :: rest)) (hap : ∀ p ∈ rest, p.1 ≠ a) (hz : b.size ≤ 1000) (h0 : 0 ≤ i) (h1 : i < b.size) (hv : 0 ≤ v ∧ v < 256)
    (k : ∀ h', Fr h₀ L h' m → News h₀ L h' ((a, baObj (b.setIfInBounds i.toNat v.toNat.toUInt8)) :: rest) → Q () { s with heap := h' }) :
    wpAny (model prog w) A (setItem (.ref a) (.int i t) (.int v u)) Q E s := by
  obtain ⟨g, gL, g0⟩ := N _ (.head _)
  exact ba_setItem g hz h0 h1 hv.1 hv.2 fun h' g' st => k h' (F.change st gL g0) (N.setHead hap st g')
theorem bytesN {h₀ : Heap} {L a : Addr} {rest : List (Addr × Obj)} {b : Array UInt8} {Q : Value → Shared → Prop}
    (N : News h₀ L s.heap ((a, baObj b) :: rest)) (hz : b.size ≤ 1000) (k : ∀ t tk, Q (.bytes b t) { s with toks := tk }) :
    wpAny (model prog w) A (call (.type "bytes") [.ref a]) Q E s := ba_bytes (N _ (.head _)).1 hz k
end
set_option maxHeartbeats 4000000 in
theorem c_put (n size : Int) (tn ts : Tok) (h0 : 0 ≤ n) (hs0 : 0 ≤ size) (hs1 : size ≤ 16) (hn : n.fdiv (2 ^ (8 * size).toNat) = 0) :
   DCon w p loose mean mg mb 89 [.int n tn, .int size ts] 5 40 (isB (be size.toNat n)) := by
  refine dcon_of fun dp un base l s R B X T hd hu hret => ?_
  refine dEnter (binds := [(Str.ofString "n", .int n tn), (Str.ofString "size", .int size ts)]) X T (by k_is) (by k_is) (by ktr_room) (BindsTo.of_eq rfl) (locs rfl) (fun L' h₁' F' N' => ?_) rfl rfl rfl (by decide)
  (dsimp only [List.reverse, List.reverseAux, bmap] at F')
  (try dsimp only)
  refine dExecs (dAny ?_)
  (try k_fold)
  repeat' (first | (k_unfold; (try dsimp only)) | (k_end; wrow_close) | (k_here; (with_reducible show wpAny _ _ (setItem (Value.ref _) _ _) _ _ _); k_dflt (refine setN (by k_asm) (by assumption) (by assumption) (by assumption) (by omega) (by omega) (byte_mod _) ?_); intro h9 F9 N9; tb_rel) | (k_here; (with_reducible show wpAny _ _ (call (Value.type _) _) _ _ _); k_dflt (refine bytesN (by assumption) (by assumption) ?_); intro t9 tk9; tb_rel) | walk1 | (dsimp only; first | (k_here; (with_reducible show wpAny _ _ (setItem (Value.ref _) _ _) _ _ _); k_dflt (refine setN (by k_asm) (by assumption) (by assumption) (by assumption) (by omega) (by omega) (byte_mod _) ?_); intro h9 F9 N9; tb_rel) | (k_here; (with_reducible show wpAny _ _ (call (Value.type _) _) _ _ _); k_dflt (refine bytesN (by assumption) (by assumption) ?_); intro t9 tk9; tb_rel) | walk1) | (leave1; try dsimp only) | fail "no step")
  · exact absurd hn (by assumption)
  refine dExecs (dAssign (dCallName ?_))
  (try k_fold)
  repeat' (first | (k_unfold; (try dsimp only)) | (k_end; wrow_close) | (k_here; (with_reducible show wpAny _ _ (setItem (Value.ref _) _ _) _ _ _); k_dflt (refine setN (by k_asm) (by assumption) (by assumption) (by assumption) (by omega) (by omega) (byte_mod _) ?_); intro h9 F9 N9; tb_rel) | (k_here; (with_reducible show wpAny _ _ (call (Value.type _) _) _ _ _); k_dflt (refine bytesN (by assumption) (by assumption) ?_); intro t9 tk9; tb_rel) | walk1 | (dsimp only; first | (k_here; (with_reducible show wpAny _ _ (setItem (Value.ref _) _ _) _ _ _); k_dflt (refine setN (by k_asm) (by assumption) (by assumption) (by assumption) (by omega) (by omega) (byte_mod _) ?_); intro h9 F9 N9; tb_rel) | (k_here; (with_reducible show wpAny _ _ (call (Value.type _) _) _ _ _); k_dflt (refine bytesN (by assumption) (by assumption) ?_); intro t9 tk9; tb_rel) | walk1) | (leave1; try dsimp only) | fail "no step")
  refine dCallWithT (dAny ?_)
  (try k_fold)
  repeat' (first | (k_unfold; (try dsimp only)) | (k_end; wrow_close) | (k_here; (with_reducible show wpAny _ _ (setItem (Value.ref _) _ _) _ _ _); k_dflt (refine setN (by k_asm) (by assumption) (by assumption) (by assumption) (by omega) (by omega) (byte_mod _) ?_); intro h9 F9 N9; tb_rel) | (k_here; (with_reducible show wpAny _ _ (call (Value.type _) _) _ _ _); k_dflt (refine bytesN (by assumption) (by assumption) ?_); intro t9 tk9; tb_rel) | walk1 | (dsimp only; first | (k_here; (with_reducible show wpAny _ _ (setItem (Value.ref _) _ _) _ _ _); k_dflt (refine setN (by k_asm) (by assumption) (by assumption) (by assumption) (by omega) (by omega) (byte_mod _) ?_); intro h9 F9 N9; tb_rel) | (k_here; (with_reducible show wpAny _ _ (call (Value.type _) _) _ _ _); k_dflt (refine bytesN (by assumption) (by assumption) ?_); intro t9 tk9; tb_rel) | walk1) | (leave1; try dsimp only) | fail "no step")
  refine ba_call rfl hs0 (by omega) fun h₂ g₂ st₂ => ?_
  rename Fr _ _ _ _ => F9
  rename News _ _ _ _ => N9
  obtain ⟨F2, N2, -⟩ := newsNew F9 N9 st₂ g₂
  clear F9 N9 g₂ st₂
  refine dAny ?_
  (try dsimp only at F2 N2)
  generalize Array.size _ = D at *
  (try k_fold)
  repeat' (first | (k_unfold; (try dsimp only)) | (k_end; wrow_close) | (k_here; (with_reducible show wpAny _ _ (setItem (Value.ref _) _ _) _ _ _); k_dflt (refine setN (by k_asm) (by assumption) (by assumption) (by assumption) (by omega) (by omega) (byte_mod _) ?_); intro h9 F9 N9; tb_rel) | (k_here; (with_reducible show wpAny _ _ (call (Value.type _) _) _ _ _); k_dflt (refine bytesN (by assumption) (by assumption) ?_); intro t9 tk9; tb_rel) | walk1 | (dsimp only; first | (k_here; (with_reducible show wpAny _ _ (setItem (Value.ref _) _ _) _ _ _); k_dflt (refine setN (by k_asm) (by assumption) (by assumption) (by assumption) (by omega) (by omega) (byte_mod _) ?_); intro h9 F9 N9; tb_rel) | (k_here; (with_reducible show wpAny _ _ (call (Value.type _) _) _ _ _); k_dflt (refine bytesN (by assumption) (by assumption) ?_); intro t9 tk9; tb_rel) | walk1) | (leave1; try dsimp only) | fail "no step")
  refine dAny ?_
  (try k_fold)
  repeat' (first | ((fail_if_success (with_reducible show wpAny _ _ (pyIter _) _ _ _)); first | (k_unfold; (try dsimp only)) | (k_end; wrow_close) | (k_here; (with_reducible show wpAny _ _ (setItem (Value.ref _) _ _) _ _ _); k_dflt (refine setN (by k_asm) (by assumption) (by assumption) (by assumption) (by omega) (by omega) (byte_mod _) ?_); intro h9 F9 N9; tb_rel) | (k_here; (with_reducible show wpAny _ _ (call (Value.type _) _) _ _ _); k_dflt (refine bytesN (by assumption) (by assumption) ?_); intro t9 tk9; tb_rel) | walk1 | (dsimp only; first | (k_here; (with_reducible show wpAny _ _ (setItem (Value.ref _) _ _) _ _ _); k_dflt (refine setN (by k_asm) (by assumption) (by assumption) (by assumption) (by omega) (by omega) (byte_mod _) ?_); intro h9 F9 N9; tb_rel) | (k_here; (with_reducible show wpAny _ _ (call (Value.type _) _) _ _ _); k_dflt (refine bytesN (by assumption) (by assumption) ?_); intro t9 tk9; tb_rel) | walk1)))
  rename Fr _ _ _ _ => F9
  rename News _ _ _ _ => N9
  rename IsRange _ _ _ _ _ _ _ _ => I9
  refine kst_rangeD (n := size.toNat) (fun c : Int × Tok × Array UInt8 => [(D, baObj c.2.2)]) (fun c => [(Str.ofString "n", .int c.1 c.2.1)]) (fun _ => True) [] (PutInv size.toNat n) (n, tn, Array.replicate size.toNat 0) rfl I9
    (small_down (by omega) (by omega) (by omega) (by omega)) ?hnn F9 N9 trivial (by kst_all) ?hpp ?turn ?done
  case hnn => rw [rangeSize_downNat]; congr 1; omega
  case hpp => exact ⟨rfl, by simp [KBw.bInts, be]⟩
  case turn =>
    rintro ⟨x9, u9, b9⟩ pre k9 t9 u h9 tk9 own hk9 hlt hoff - ⟨hnum, hoct⟩ F8 N8
    clear F9 N9
    dsimp only at F8 N8 hnum hoct
    have hap : ∀ p ∈ own, p.1 ≠ D := hoff.ne (by simp)
    have hsz : b9.size = size.toNat := by rw [sz_inv hoct]; omega
    have hle : b9.size ≤ 1000 := by omega
    have hi0 : 0 ≤ k9 := by omega
    have hi1 : k9 < b9.size := by omega
    (try k_fold)
    repeat' (first | (k_unfold; (try dsimp only)) | (k_end; wrow_close) | (k_here; (with_reducible show wpAny _ _ (setItem (Value.ref _) _ _) _ _ _); k_dflt (refine setN (by k_asm) (by assumption) (by assumption) (by assumption) (by omega) (by omega) (byte_mod _) ?_); intro h9 F9 N9; tb_rel) | (k_here; (with_reducible show wpAny _ _ (call (Value.type _) _) _ _ _); k_dflt (refine bytesN (by assumption) (by assumption) ?_); intro t9 tk9; tb_rel) | walk1 | (dsimp only; first | (k_here; (with_reducible show wpAny _ _ (setItem (Value.ref _) _ _) _ _ _); k_dflt (refine setN (by k_asm) (by assumption) (by assumption) (by assumption) (by omega) (by omega) (byte_mod _) ?_); intro h9 F9 N9; tb_rel) | (k_here; (with_reducible show wpAny _ _ (call (Value.type _) _) _ _ _); k_dflt (refine bytesN (by assumption) (by assumption) ?_); intro t9 tk9; tb_rel) | walk1) | (leave1; try dsimp only) | fail "no step")
    rename Fr _ _ _ _ => F7
    rename News _ _ _ _ => N7
    refine kst_end (x9.fdiv 256, _, b9.setIfInBounds k9.toNat (x9.fmod 256).toNat.toUInt8) F7 N7 (fun q hq => by cases List.mem_singleton.mp hq; exact .head _) (fun q hq => .tail _ hq) rfl trivial (fun q hq => by cases List.mem_singleton.mp hq; rfl) (fun z h1 h2 _ => by have h3 : z ≠ Str.ofString "n" := h2 _ (.head _); (try dsimp only); simp [h1, h3, kstB]) ⟨?_, ?_⟩
    · subst hnum
      show _ = itd (pre ++ [k9]).length n
      rw [List.length_append]; rfl
    · subst hnum
      have e1 : size.toNat - pre.length = (size.toNat - (pre.length + 1)) + 1 := by omega
      have e2 : k9.toNat = size.toNat - (pre.length + 1) := by omega
      rw [e1] at hoct
      have := ba_set hoct
      show _ = List.replicate (size.toNat - (pre ++ [k9]).length) 0 ++ be (pre ++ [k9]).length n
      rw [List.length_append]
      show KBw.bInts (b9.setIfInBounds k9.toNat _) = _
      rw [e2]
      exact this
  case done =>
    rintro ⟨x9, u9, b9⟩ u h9 tk9 - ⟨hnum, hoct⟩ F8 N8
    clear F9 N9
    dsimp only at F8 N8 hnum hoct
    have hsz : b9.size = size.toNat := by rw [sz_inv hoct, downKs_length]; omega
    have hle : b9.size ≤ 1000 := by omega
    (try k_fold)
    repeat' (first | (k_unfold; (try dsimp only)) | (k_end; wrow_close) | (k_here; (with_reducible show wpAny _ _ (setItem (Value.ref _) _ _) _ _ _); k_dflt (refine setN (by k_asm) (by assumption) (by assumption) (by assumption) (by omega) (by omega) (byte_mod _) ?_); intro h9 F9 N9; tb_rel) | (k_here; (with_reducible show wpAny _ _ (call (Value.type _) _) _ _ _); k_dflt (refine bytesN (by assumption) (by assumption) ?_); intro t9 tk9; tb_rel) | walk1 | (dsimp only; first | (k_here; (with_reducible show wpAny _ _ (setItem (Value.ref _) _ _) _ _ _); k_dflt (refine setN (by k_asm) (by assumption) (by assumption) (by assumption) (by omega) (by omega) (byte_mod _) ?_); intro h9 F9 N9; tb_rel) | (k_here; (with_reducible show wpAny _ _ (call (Value.type _) _) _ _ _); k_dflt (refine bytesN (by assumption) (by assumption) ?_); intro t9 tk9; tb_rel) | walk1) | (leave1; try dsimp only) | fail "no step")
    rename Fr _ _ _ _ => F7
    refine retB (s := s) hret F7 hoct ?_
    rw [downKs_length, Nat.sub_self]; rfl
end
section
variable {w : World} {p : Program} {loose : List Str} {mean : ExcName → Option Value} {mg mb : Str → Option Value}
theorem rst3 {x t W : Int} (hW : 256 ≤ W) (h0 : 0 ≤ x) (h1 : x < 100) : (x + 1).fdiv W * W + t = t := by
  rw [Int.fdiv_eq_ediv_of_nonneg _ (by omega), Int.ediv_eq_zero_of_lt (by omega) (by omega)]; omega
theorem rst1 {x t W : Int} (hW : 256 ≤ W) (h0 : 0 ≤ x) (h1 : x < 100) (h2 : 0 ≤ t) (h3 : t < 100) : ¬ (x + 1).fdiv W * W + t ≤ x + 1 - W.fdiv 2 := by
  rw [rst3 hW h0 h1, Int.fdiv_eq_ediv_of_nonneg _ (by decide)]; omega
theorem rst2 {x t W : Int} (hW : 256 ≤ W) (h0 : 0 ≤ x) (h1 : x < 100) (h2 : 0 ≤ t) (h3 : t < 100) : ¬ x + 1 + W.fdiv 2 < (x + 1).fdiv W * W + t := by
  rw [rst3 hW h0 h1, Int.fdiv_eq_ediv_of_nonneg _ (by decide)]; omega
set_option maxHeartbeats 4000000 in
theorem c_tfirst (f : Int) (tf : Tok) (b : Array UInt8) (tb : Tok) (ms : List Int) (hb : KBw.bInts b = ms) (hm : ms.length = 5) (h0 : 0 ≤ f) (h1 : f < 256) :
   Con w p loose mean mg mb 286 [.int f tf, .bytes b tb] 3 20 (isI (Builtin.bitXor f (Builtin.bitAnd (ms.getD 0 0) (if f ≥ 128 then 15 else 31)))) := by
  refine con_of fun dp un gd base l s R B X T hd hu hret => ?_
  refine enter (binds := [(Str.ofString "first", .int f tf), (Str.ofString "mask", .bytes b tb)]) X T (by k_is) (by k_is) (by ktr_room) (BindsTo.of_eq rfl) (locs rfl) (fun L' h₁' F' N' => ?_) rfl rfl rfl (by decide)
  (dsimp only [List.reverse, List.reverseAux, bmap] at F')
  (try dsimp only)
  (try k_fold)
  k_steps
  · exact retI (s := s) hret (by k_asm) (by rw [if_pos (by omega)]; rfl)
  · exact retI (s := s) hret (by k_asm) (by rw [if_neg (by omega)]; rfl)
set_option maxHeartbeats 4000000 in
theorem c_sample (b : Array UInt8) (tb : Tok) (i j : Int) (ti tj : Tok) (ks : List Int) (hb : KBw.bInts b = ks) (hk : ks.length ≤ 1000) (h0 : 0 ≤ i) (h1 : i + 20 ≤ j) (h2 : j ≤ ks.length) :
   Con w p loose mean mg mb 298 [.bytes b tb, .int i ti, .int j tj] 3 20 (isB ((ks.drop (i + 4).toNat).take 16)) := by
  refine con_of fun dp un gd base l s R B X T hd hu hret => ?_
  refine enter (binds := [(Str.ofString "data", .bytes b tb), (Str.ofString "number_at", .int i ti), (Str.ofString "end", .int j tj)]) X T (by k_is) (by k_is) (by ktr_room) (BindsTo.of_eq rfl) (locs rfl) (fun L' h₁' F' N' => ?_) rfl rfl rfl (by decide)
  (dsimp only [List.reverse, List.reverseAux, bmap] at F')
  (try dsimp only)
  (try k_fold)
  k_steps
  refine retB (s := s) hret (by k_asm) (by assumption) ?_
  rw [PyProof.Rows.clipAt_in (by omega) (by omega), PyProof.Rows.clipAt_in (by omega) (by omega), show (i + 4 + 16).toNat - (i + 4).toNat = 16 from toNatDiff (z := 16) (by omega) (by decide) rfl]
theorem aCut {M : Model} {A : Around} {E : Value → Shared → Prop} {s : Shared} {env : Env} {Q : Flow → Shared → Prop} (J : Shared → Prop) (pre : List Stmt) {rest : List Stmt} (h1 : wpAny M A (execs pre env) (fun f s' => match f with | .next => J s' | f => Q f s') E s) (h2 : ∀ s', J s' → wpAny M A (execs rest env) Q E s') :
    wpAny M A (execs (pre ++ rest) env) Q E s := by
  intro Γ p hΓ
  have key : ∀ (pre : List Stmt) p (s : Shared), Sem.wp M Γ (execs pre env) (fun f _ s' => match f with | .next => J s' | f => Q f s') (fun e _ s' => E e s') p s → Sem.wp M Γ (execs (pre ++ rest) env) (fun f _ s' => Q f s') (fun e _ s' => E e s') p s := by
    intro pre
    induction pre with
    | nil =>
      intro p s h
      exact h2 s h Γ p hΓ
    | cons st r ih =>
      intro p s h
      rw [List.cons_append, execs_cons]
      rw [execs_cons] at h
      rw [Sem.wp_bind'] at h ⊢
      refine Sem.wp_mono _ Γ _ (fun f p' s' z => ?_) (fun _ _ _ z => z) p s h
      cases f with
      | next => exact ih p' s' z
      | _ => exact z
  exact key pre p s (h1 Γ p hΓ)
inductive RstJ (h₀ : Heap) (L : Addr) (s : Shared) (t z x : Int) (tt tz tl : Tok) (s' : Shared) : Prop
  | mk (W : Int) (tw te : Tok) (h' : Heap) (tk' : Nat) (q0 : 256 ≤ W) (q1 : W ≤ 4294967296) (q2 : s' = { s with heap := h', toks := tk' }) (q3 : Fr h₀ L h' (bmap [(Str.ofString "window", .int W tw), (Str.ofString "expected", .int (x + 1) te), (Str.ofString "largest_seen", .int x tl), (Str.ofString "size", .int z tz), (Str.ofString "truncated", .int t tt)])) (q4 : News h₀ L h' []) : RstJ h₀ L s t z x tt tz tl s'
set_option maxHeartbeats 4000000 in
theorem c_restore (t z x : Int) (tt tz tl : Tok) (hz0 : 1 ≤ z) (hz1 : z ≤ 4) (ht0 : 0 ≤ t) (ht1 : t < 100) (hl0 : 0 ≤ x) (hl1 : x < 100) :
   Con w p loose mean mg mb 319 [.int t tt, .int z tz, .int x tl] 3 20 (isI t) := by
  refine con_of fun dp un gd base l s R B X T hd hu hret => ?_
  refine enter (binds := [(Str.ofString "truncated", .int t tt), (Str.ofString "size", .int z tz), (Str.ofString "largest_seen", .int x tl)]) X T (by k_is) (by k_is) (by ktr_room) (BindsTo.of_eq rfl) (locs rfl) (fun L' h₁' F' N' => ?_) rfl rfl rfl (by decide)
  (dsimp only [List.reverse, List.reverseAux, bmap] at F')
  (try dsimp only)
  (try k_fold)
  refine aCut (RstJ s.heap L' s t z x tt tz tl) [_, _] ?_ (fun s₂ j => ?_)
  · obtain rfl | rfl | rfl | rfl : z = 1 ∨ z = 2 ∨ z = 3 ∨ z = 4 := by omega
    all_goals k_steps
    all_goals (try dsimp only)
    all_goals refine ⟨_, _, _, _, _, ?_, ?_, rfl, by assumption, by assumption⟩ <;> decide
  · obtain ⟨W, tw, te, h', tk', hW, hW', rfl, F, N⟩ := j
    clear F' N'
    have hW0 : W ≠ 0 := by omega
    have hW1 : 0 < W := by omega
    repeat' (first | ((fail_if_success (with_reducible show wpAny _ _ (binaryOp Operator.FloorDiv (Value.int _ _) (Value.int W _)) _ _ _)); first | (k_unfold; (try dsimp only)) | (k_end; wrow_close) | walk1 | (dsimp only; walk1)))
    refine floordiv_int hW0 ?_ (Or.inl (PyProof.noPylong_of_log2 (Nat.lt_trans ((Nat.log2_lt (by omega)).mpr (show W.natAbs < 2 ^ 33 by omega)) (by decide))))
    (try dsimp only)
    k_steps
    all_goals (try dsimp only)
    all_goals first
      | exact absurd ‹(x + 1).fdiv _ * _ + t ≤ x + 1 - Int.fdiv _ 2› (rst1 hW hl0 hl1 ht0 ht1)
      | exact absurd ‹x + 1 + Int.fdiv _ 2 < (x + 1).fdiv _ * _ + t› (rst2 hW hl0 hl1 ht0 ht1)
      | exact retI (s := s) hret (by k_asm) (rst3 hW hl0 hl1)
set_option maxHeartbeats 4000000 in
theorem c_reserved (f : Int) (tf : Tok) :
   Con w p loose mean mg mb 326 [.int f tf] 3 20 (isI (if f ≥ 128 then (f.fdiv 4).fmod 4 else (f.fdiv 8).fmod 4)) := by
  refine con_of fun dp un gd base l s R B X T hd hu hret => ?_
  refine enter (binds := [(Str.ofString "first", .int f tf)]) X T (by k_is) (by k_is) (by ktr_room) (BindsTo.of_eq rfl) (locs rfl) (fun L' h₁' F' N' => ?_) rfl rfl rfl (by decide)
  (dsimp only [List.reverse, List.reverseAux, bmap] at F')
  (try dsimp only)
  (try k_fold)
  k_steps
  · exact retI (s := s) hret (by k_asm) (by rw [if_pos (by omega)])
  · exact retI (s := s) hret (by k_asm) (by rw [if_neg (by omega)])
end
section
variable {w : World} {p : Program} {loose : List Str} {mean : ExcName → Option Value} {mg mb : Str → Option Value}
theorem popHead {prog : Program} {w : World} {A : Around} {E : Value → Shared → Prop} {s : Shared} {h₀ : Heap} {L D : Addr} {m : Str → Option Value} {news news' : List (Addr × Obj)} {n : Nat} {u : Tok} {y : Value} {q : List Value} {Q : Value → Shared → Prop} (F : Fr h₀ L s.heap m) (N : News h₀ L s.heap news)
    (U : Upd D (listOf (y :: q).toArray n) (listOf q.toArray (n + 1)) news news') (hz : q.length ≤ 1000) (h : ∀ h', Fr h₀ L h' m → News h₀ L h' news' → Q y { s with heap := h' }) : wpAny (model prog w) A (call (.builtin "list.pop") [.ref D, .int 0 u]) Q E s :=
  kl_popAt (k := 0) (p := []) F N rfl (by simp [seqIndex?]) rfl U (by simp [sizeLine_eq]; omega) h
section
variable {prog : Program} {w : World} {A : Around} {E : Value → Shared → Prop} {s : Shared} {h₀ : Heap} {L a b : Addr} {news : List (Addr × Obj)} {n k : Nat} {Q : Value → Shared → Prop}
theorem neNil0 (N : News h₀ L s.heap news) (ha : (a, listOf ([] : List Value).toArray n) ∈ news) (hb : (b, listOf #[] k) ∈ news) (hu : A.units + 64 < cLine) (h : Q (.bool false) s) : wpAny (model prog w) A (compareOp .NotEq (.ref a) (.ref b)) Q E s :=
  ne_intsK (vs := []) (us := []) ⟨_, (N _ ha).1, rfl, _, rfl⟩ .nil ⟨_, (N _ hb).1, rfl, _, rfl⟩ .nil hu h
theorem neNil1 {x : Int} {t : Tok} {vs : List Value} {ns : List Int} (hv : IntsAre vs ns) (N : News h₀ L s.heap news) (ha : (a, listOf (.int x t :: vs).toArray n) ∈ news) (hb : (b, listOf #[] k) ∈ news) (hu : A.units + 64 < cLine) (h : Q (.bool true) s) : wpAny (model prog w) A (compareOp .NotEq (.ref a) (.ref b)) Q E s :=
  ne_intsK (us := []) ⟨_, (N _ ha).1, rfl, _, rfl⟩ (.cons x t hv) ⟨_, (N _ hb).1, rfl, _, rfl⟩ .nil hu h
end
theorem byte_fm {x k : Int} (h : 1 ≤ k) : 0 ≤ x.fmod k ∧ x.fmod k < k := by
  rw [Int.fmod_eq_emod_of_nonneg _ (by omega)]
  exact ⟨Int.emod_nonneg _ (by omega), Int.emod_lt_of_pos _ (by omega)⟩
set_option maxHeartbeats 1000000 in
theorem x_take (many : Int) (tm ts : Tok) (vs : List Value) (ns : List Int) (seed : Int) (n1 n2 : Nat) (hm : 1 ≤ many) (hm1 : many ≤ 1000) (hv : IntsAre vs ns) (hl : ns.length ≤ 40) (hs0 : 0 ≤ seed) (hs1 : seed < 2147483647) (dp un : Nat) (gd : Option (List Code)) (base : Heap) (l : List Env) (g : Heap) (s : Shared) (D Ra : Addr) (R : Result → Shared → Prop)
    (B : Below ⟨none, dp, some l, gd, un⟩ base l g) (X : (hd.heap_39 w.params).In g) (T : Top p loose mean mg mb g) (hdp : dp + 5 < recursionLimit) (hun : un + 100 < cLine)
    (st : g.StaysIn s.heap) (sz : g.objs.size ≤ s.heap.objs.size) (hD : s.heap.get? D = some (listOf #[.ref Ra, .int seed ts] n1)) (hD0 : g.get? D = none) (hR : s.heap.get? Ra = some (listOf vs.toArray n2)) (hR0 : g.get? Ra = none) (hDR : (@Ne Nat D Ra))
    (hret : ∀ y t h' tk' vs' ns' seed' ts' n1' n2', 0 ≤ y → y < many → IntsAre vs' ns' → ns'.length ≤ ns.length → 0 ≤ seed' → seed' < 2147483647 → h'.get? D = some (listOf #[.ref Ra, .int seed' ts'] n1') → h'.get? Ra = some (listOf vs'.toArray n2') → g.StaysIn h' → R (.ok (.ret (.int y t))) { s with heap := h', toks := tk' }) :
    codeAny (model PySem.Challenge.rw_no0081_01.row.prog w) ⟨none, dp, some l, gd, un⟩ (.call (.ref 352) ⟨[.ref D, .int many tm], []⟩) R s := by
  have hlv : vs.length = ns.length := hv.length
  refine enterH (g := g) (news := [(D, listOf #[.ref Ra, .int seed ts] n1), (Ra, listOf vs.toArray n2)]) (binds := [(Str.ofString "draws", .ref D), (Str.ofString "many", .int many tm)]) st sz (fun q hq => ?_) X T (by k_is) (by k_is) (by ktr_room) (BindsTo.of_eq rfl) (locs rfl) (fun L' h₁' F' N' O' => ?_) rfl rfl rfl (by decide)
  · rcases List.mem_cons.mp hq with rfl | hq
    · exact ⟨hD, hD0⟩
    · rcases List.mem_cons.mp hq with rfl | hq
      · exact ⟨hR, hR0⟩
      · cases hq
  have lr : @LT.lt Nat _ D s.heap.objs.size := Heap.lt_size hD
  have ld : @LT.lt Nat _ Ra s.heap.objs.size := Heap.lt_size hR
  clear O' hD hR sz st
  (dsimp only [List.reverse, List.reverseAux, bmap] at F')
  (try dsimp only)
  (try k_fold)
  rcases hv with _ | ⟨x, t, hr⟩
  · repeat' (first | (k_unfold; (try dsimp only)) | (k_end; wrow_close) | (k_here; (with_reducible show wpAny _ _ (call (Value.builtin _) _) _ _ _); k_dflt (refine' popHead ?F ?N ?U ?z ?_; (case F => k_asm); (case N => k_asm); (case U => k_upd); (case z => omega)); kl_rest) | (k_here; (with_reducible show wpAny _ _ (compareOp CmpOp.NotEq (Value.ref _) (Value.ref _)) _ _ _); k_dflt (first | refine neNil0 (by k_asm) (by k_mem) (by k_mem) (by ktr_units) ?_ | refine neNil1 (by assumption) (by k_asm) (by k_mem) (by k_mem) (by ktr_units) ?_)) | walk1 | (dsimp only; first | (k_here; (with_reducible show wpAny _ _ (call (Value.builtin _) _) _ _ _); k_dflt (refine' popHead ?F ?N ?U ?z ?_; (case F => k_asm); (case N => k_asm); (case U => k_upd); (case z => omega)); kl_rest) | (k_here; (with_reducible show wpAny _ _ (compareOp CmpOp.NotEq (Value.ref _) (Value.ref _)) _ _ _); k_dflt (first | refine neNil0 (by k_asm) (by k_mem) (by k_mem) (by ktr_units) ?_ | refine neNil1 (by assumption) (by k_asm) (by k_mem) (by k_mem) (by ktr_units) ?_)) | walk1) | (leave1; try dsimp only) | fail "no step")
    rename News _ _ _ _ => N9
    exact hret _ _ _ _ [] [] _ _ _ _ (byte_fm (by omega)).1 (byte_fm (by omega)).2 .nil (Nat.le_refl _) (byte_fm (by decide)).1 (byte_fm (by decide)).2 (N9 (D, _) (by k_mem)).1 (N9 (Ra, _) (by k_mem)).1 (Fr.keep (L := L') (by k_asm))
  · have hq := hr.length
    rw [List.length_cons] at hl
    repeat' (first | (k_unfold; (try dsimp only)) | (k_end; wrow_close) | (k_here; (with_reducible show wpAny _ _ (call (Value.builtin _) _) _ _ _); k_dflt (refine' popHead ?F ?N ?U ?z ?_; (case F => k_asm); (case N => k_asm); (case U => k_upd); (case z => omega)); kl_rest) | (k_here; (with_reducible show wpAny _ _ (compareOp CmpOp.NotEq (Value.ref _) (Value.ref _)) _ _ _); k_dflt (first | refine neNil0 (by k_asm) (by k_mem) (by k_mem) (by ktr_units) ?_ | refine neNil1 (by assumption) (by k_asm) (by k_mem) (by k_mem) (by ktr_units) ?_)) | walk1 | (dsimp only; first | (k_here; (with_reducible show wpAny _ _ (call (Value.builtin _) _) _ _ _); k_dflt (refine' popHead ?F ?N ?U ?z ?_; (case F => k_asm); (case N => k_asm); (case U => k_upd); (case z => omega)); kl_rest) | (k_here; (with_reducible show wpAny _ _ (compareOp CmpOp.NotEq (Value.ref _) (Value.ref _)) _ _ _); k_dflt (first | refine neNil0 (by k_asm) (by k_mem) (by k_mem) (by ktr_units) ?_ | refine neNil1 (by assumption) (by k_asm) (by k_mem) (by k_mem) (by ktr_units) ?_)) | walk1) | (leave1; try dsimp only) | fail "no step")
    rename News _ _ _ _ => N9
    exact hret _ _ _ _ _ _ _ _ _ _ (byte_fm (by omega)).1 (byte_fm (by omega)).2 hr (Nat.le_succ _) hs0 hs1 (N9 (D, _) (by k_mem)).1 (N9 (Ra, _) (by k_mem)).1 (Fr.keep (L := L') (by k_asm))
end
section
variable {w : World} {p : Program} {loose : List Str} {mean : ExcName → Option Value} {mg mb : Str → Option Value}
theorem Below.pushE {A : Around} {base h₀ h : Heap} {outer : List Env} {L : Addr} {m : Str → Option Value} {env : Env}
    (K : Below A base outer h₀) (F : Fr h₀ L h m) (hk : env.scope.kind = .function) (hf : env.frame = some L) : Below (A.deeper env) base (env :: outer) h := by
  have hnew : base.get? L = none := by
    cases hq : base.get? L with
    | none => rfl
    | some o => exact absurd (Nat.lt_of_lt_of_le (Heap.lt_size (K.stays L o hq)) F.above) (Nat.lt_irrefl _)
  refine ⟨Around.frames_deeper K.stack, fun b o e => F.keep b o (K.stays b o e), ?_⟩
  exact .cons (by rw [hk]; decide) hf F.ns hnew (K.frames.of_keeps fun b o e _ => ⟨o, F.keep b o e, rfl⟩)
section
variable {A A₀ : Around} {base h₀ : Heap} {outer : List Env} {L : Addr} {m : Str → Option Value} {env : Env} {news : List (Addr × Obj)} {s : Shared} {Q E : Value → Shared → Prop}
theorem groundE {own : List (Addr × Obj)} (B : Below A₀ base outer h₀) (F : Fr h₀ L s.heap m) (N : News h₀ L s.heap news) (ho : ∀ q ∈ own, q ∈ news) (hA : A.frames = some (env :: outer)) (hck : env.scope.kind = .function) (hfr : env.frame = some L) :
    ∃ g, Fr h₀ L g m ∧ Below A base (env :: outer) g ∧ h₀.StaysIn g ∧ g.StaysIn s.heap ∧ g.objs.size = s.heap.objs.size ∧ (∀ q ∈ own, s.heap.get? q.1 = some q.2 ∧ g.get? q.1 = none) ∧
      (∀ q, q ∈ news → (∀ z ∈ own, q.1 ≠ z.1) → g.get? q.1 = some q.2) := by
  obtain ⟨as, has⟩ : ∃ as : List Addr, as = own.map (·.1) := ⟨_, rfl⟩
  have nm : ∀ b o, h₀.get? b = some o → b ∉ as := fun b o e q => by
    rw [has] at q
    obtain ⟨p, hp, rfl⟩ := List.mem_map.mp q
    rw [(N p (ho p hp)).2.2] at e; cases e
  have st : h₀.StaysIn (hideAll s.heap as) := fun b o e => hideAll_get _ (F.keep b o e) (nm b o e)
  obtain ⟨oL, es, ep, hL, hLd, hLk, hLf⟩ := F.ns
  have nL : L ∉ as := fun q => by
    rw [has] at q
    obtain ⟨p, hp, e⟩ := List.mem_map.mp q
    exact (N p (ho p hp)).2.1 e
  have hLg := hideAll_get as hL nL
  have B₁ := Below.pushE (env := env) B F hck hfr
  refine ⟨hideAll s.heap as, ⟨⟨oL, es, ep, hLg, hLd, hLk, hLf⟩, st, F.above⟩, ⟨hA, fun b o e => st b o (B.stays b o e), funFrames_hideAll B₁.frames fun env he b hb hf => ?_⟩, st, fun b o e => of_hideAll _ e, hideAll_size _ _, fun q hq => ⟨(N q (ho q hq)).1, hideAll_none _ (by rw [has]; exact List.mem_map_of_mem hq)⟩, fun q hq hz => hideAll_get _ (N q hq).1 fun hm => ?_⟩
  · cases he with
    | head => rw [hfr] at hf; exact nL ((Option.some.inj hf : L = b) ▸ hb)
    | tail _ he =>
      obtain ⟨L₁, o₁, hf₁, ho₁⟩ := funFrames_in B.frames env he
      rw [hf₁] at hf
      exact nm L₁ o₁ ho₁ ((Option.some.inj hf : L₁ = b) ▸ hb)
  · rw [has] at hm
    obtain ⟨p, hp, e⟩ := List.mem_map.mp hm
    exact hz p hp e.symm
/-- what is known of the draws -/
structure Dr (vs : List Value) (ns : List Int) (seed : Int) : Prop where
  dInts : IntsAre vs ns
  dLen : ns.length ≤ 40
  dLo : 0 ≤ seed
  dHi : seed < 2147483647
noncomputable abbrev drD (Ra : Addr) (seed : Int) (ts : Tok) (n1 : Nat) : Obj := listOf #[.ref Ra, .int seed ts] n1
theorem useTake {many seed : Int} {tm ts : Tok} {vs : List Value} {ns : List Int} {n1 n2 : Nat} {D Ra : Addr} {rest : List (Addr × Obj)} (hm : 1 ≤ many) (hm1 : many ≤ 1000) (dr : Dr vs ns seed)
    (F : Fr h₀ L s.heap m) (N : News h₀ L s.heap news) (hD : (D, drD Ra seed ts n1) ∈ news) (hR : (Ra, listOf vs.toArray n2) ∈ news) (hDR : (@Ne Nat D Ra)) (hrest : ∀ q ∈ rest, q ∈ news ∧ (@Ne Nat q.1 D) ∧ (@Ne Nat q.1 Ra))
    (hA : A.frames = some (env :: outer)) (B : Below A₀ base outer h₀) (X : (hd.heap_39 w.params).In h₀) (T : Top p loose mean mg mb h₀)
    (hh : A.handled = none) (hK : env.scope.kind = .function) (hfr : env.frame = some L) (hdp : A.depth + 5 < recursionLimit) (hun : A.units + 100 < cLine)
    (k : ∀ y t h' tk' vs' ns' seed' ts' n1' n2', 0 ≤ y → y < many → Dr vs' ns' seed' → Fr h₀ L h' m → News h₀ L h' ((D, drD Ra seed' ts' n1') :: (Ra, listOf vs'.toArray n2') :: rest) → Q (.int y t) { s with heap := h', toks := tk' }) :
    wpAny (model PySem.Challenge.rw_no0081_01.row.prog w) A (call (.ref 352) [.ref D, .int many tm]) Q E s := by
  obtain ⟨g, Fg, Bg, st, gs, sz, ho, hrs⟩ := groundE (own := [(D, drD Ra seed ts n1), (Ra, listOf vs.toArray n2)]) B F N (fun q hq => by
    rcases List.mem_cons.mp hq with rfl | hq
    · exact hD
    · rw [List.mem_singleton.mp hq]; exact hR) hA hK hfr
  have h1 := ho _ (.head _)
  have h2 := ho _ (.tail _ (.head _))
  obtain ⟨ha, dp, fr, gd, un⟩ := A
  simp only at hA hh hdp hun
  subst hA; subst hh
  refine wpAny_call (x_take many tm ts vs ns seed n1 n2 hm hm1 dr.dInts dr.dLen dr.dLo dr.dHi dp un gd base _ g s D Ra _ Bg (X.keeps st) (T.keeps st) hdp hun gs (Nat.le_of_eq sz) h1.1 h1.2 h2.1 h2.2 hDR ?_)
  intro y t h' tk' vs' ns' seed' ts' n1' n2' y0 y1 hv hl s0 s1 gD gR st'
  refine k y t h' tk' vs' ns' seed' ts' n1' n2' y0 y1 ⟨hv, Nat.le_trans hl dr.dLen, s0, s1⟩ (Fr.stays Fg st') (fun q hq => ?_)
  rcases List.mem_cons.mp hq with rfl | hq
  · exact ⟨gD, (N _ hD).2.1, (N _ hD).2.2⟩
  · rcases List.mem_cons.mp hq with rfl | hq
    · exact ⟨gR, (N _ hR).2.1, (N _ hR).2.2⟩
    · obtain ⟨q1, q2, q3⟩ := hrest q hq
      refine ⟨st' _ _ (hrs q q1 fun z hz => ?_), (N _ q1).2⟩
      rcases List.mem_cons.mp hz with rfl | hz
      · exact q2
      · rw [List.mem_singleton.mp hz]; exact q3
end
section
variable {f : Addr}
theorem enterCH {K : Frag} {A : Around} {s : Shared} {R : Result → Shared → Prop} {g : Heap} {news : List (Addr × Obj)} {name qual : Str} {params : Arguments} {body : List Stmt} {scope : Scope} {dV kV doc pm cdv ct oc : Value} {an od : Option Addr} {osl : Array (Option Value)} {binds : List (Str × Value)} {prog : Program} {args : Args}
    (st : g.StaysIn s.heap) (sz : g.objs.size ≤ s.heap.objs.size) (hn : ∀ q ∈ news, s.heap.get? q.1 = some q.2 ∧ g.get? q.1 = none) (X : K.In g) (T : Top p loose mean mg mb g)
    (ho : K.lookup f = some ⟨oc, od, .func (fnOf name qual params body scope dV kV doc pm an cdv ct), osl⟩) (hcd : codeIn K cdv qual = true) (hroom : A.depth < recursionLimit)
    (hbind : BindsTo s (fnOf name qual params body scope dV kV doc pm an cdv ct) args binds) (hkind : (binds.all fun y => scope.names.lookup y.1 == some .local || scope.names.lookup y.1 == some .cell) = true)
    (hnd : ((cellsFrom 0 scope.names []).map (·.1)).Nodup)
    (h : ∀ L h₁ tk cells, Fr g L h₁ (bindL (envOfC qual scope L f cdv).kindOf binds fun _ => none) → News g L h₁ (cells ++ news) → (∀ q ∈ cells, ∀ z ∈ news, (@Ne Nat q.1 z.1)) →
      CellsAre (bindC (envOfC qual scope L f cdv).kindOf binds fun _ => none) (cellsFrom (L + 1) scope.names []) cells →
      wpAny (model prog w) (A.deeper (envOfC qual scope L f cdv)) (execs body (envOfC qual scope L f cdv)) (fun fl s' => R (.ok (.ret (match fl with | .ret v => v | _ => .none))) s')
        (fun e s' => wpAny (model prog w) (A.deeper (envOfC qual scope L f cdv)) (leaving (envOfC qual scope L f cdv) e) (fun _ s'' => R (.error e) s'') (fun e' s'' => R (.error e') s'') s')
        { s with heap := h₁, toks := tk })
    (hco : scope.isCoroutine = false) (hgen : scope.isGenerator = false) (hk : scope.kind = .function) : codeAny (model prog w) A (.call (.ref f) args) R s := by
  refine codeAny_call_function hroom (st _ _ (X _ _ ho)) rfl hco hgen rfl (codeRec_of (X.keeps st) hcd) (hbind _ _ _ _ ?_)
  refine wpAny_newFunctionEnv_cells hk (kindsX hkind _) fun env' he s' x => ?_
  subst he
  refine ⟨(T.keeps st).nolimit.keeps x.toInCall.keep, codeAny_func ?_⟩
  obtain ⟨h₁, tk, rfl, _⟩ := x.done
  have hk₁ := x.toInCall.keep
  obtain ⟨cells, NC, Y⟩ := Cl.news (h₀ := s.heap) (Nat.le_refl _) fun n c hm => ⟨x.cell n c (lookup_of_mem_nodup (cellsFrom_names scope.names 0 (s.heap.objs.size + 1) [] [] rfl ▸ hnd) hm), x.above n c hm⟩
  refine h s.heap.objs.size h₁ tk cells ⟨x.toInCall.ns, fun b o e => hk₁ b o (st b o e), sz⟩ (fun q hq => ?_) (fun q hq z hz => ?_) Y
  · rcases List.mem_append.mp hq with hq | hq
    · exact ⟨(NC q hq).1, (NC q hq).2.1, fresh_of_stays st (NC q hq).2.2⟩
    · exact ⟨hk₁ _ _ (hn q hq).1, Nat.ne_of_lt (Heap.lt_size (hn q hq).1), (hn q hq).2⟩
  · intro e
    have h2 := (NC q hq).2.2
    have h3 := (hn z hz).1
    rw [show q.1 = z.1 from e, h3] at h2; cases h2
end
end
section
open PySem.SeqAt
section
variable {A : Around} {s : Shared}
theorem eqAt_bytes (b : Array UInt8) (t u : Tok) : EqAt A s (.bytes b t) (.bytes b u) true := fun prog w E Q h => by
  unfold eqBool
  refine wpAny_holding ?_
  refine wpAny_ite_split (fun _ => wpAny_bind (wpAny_rule (wpAny_pure h))) (fun _ => ?_)
  have e : (b.toList == b.toList) = true := beq_self_eq_true _
  exact wpAny_bind (W.eq_bytes (by rw [e]; exact wpAny_truthy_bool h))
theorem eqAt_str (x : Str) (t u : Tok) : EqAt A s (.str x t) (.str x u) true := by
  have := EqAt.str_str (A := A) (s := s) x t x u
  rw [beq_self_eq_true] at this
  exact this
theorem eqAt_int (x : Int) (t u : Tok) : EqAt A s (.int x t) (.int x u) true := by
  have := EqAt.int_int (A := A) (s := s) x t x u
  rw [beq_self_eq_true] at this
  exact this
inductive SameAll (A : Around) (s : Shared) : List Value → List Value → Prop
  | nil : SameAll A s [] []
  | cons {v v' vs vs'} (h : EqAt A s v v' true) (r : SameAll A s vs vs') : SameAll A s (v :: vs) (v' :: vs')
theorem SameAll.len : ∀ {vs vs' : List Value}, SameAll A s vs vs' → vs.length = vs'.length
  | _, _, .nil => rfl
  | _, _, .cons _ r => by rw [List.length_cons, List.length_cons, r.len]
theorem SameAll.at : ∀ {vs vs' : List Value}, SameAll A s vs vs' → ∀ j (h1 : j < vs.length) (h2 : j < vs'.length), EqAt A s vs[j] vs'[j] true
  | _, _, .cons h _, 0, _, _ => h
  | _, _, .cons _ r, j + 1, h1, h2 => r.at j (by simpa using h1) (by simpa using h2)
variable {prog : Program} {w : World} {E : Value → Shared → Prop} {h₀ : Heap} {L l b : Addr} {news : List (Addr × Obj)} {vs vs' : List Value} {Q : Value → Shared → Prop}
theorem tup_ne (N : News h₀ L s.heap news) (ha : (l, ({ cls := .type "tuple", data := .seq vs.toArray } : Obj)) ∈ news) (hb : (b, ({ cls := .type "tuple", data := .seq vs'.toArray } : Obj)) ∈ news) (hs : SameAll A.in1 s vs vs') (hu : A.units < cLine) (h : Q (.bool false) s) :
    wpAny (model prog w) A (compareOp .NotEq (.ref l) (.ref b)) Q E s := by
  refine RcNeAt.tuples (e := fun _ => true) (items := vs.toArray) (items2 := vs'.toArray) ⟨_, (N _ ha).1, rfl, _, rfl⟩ ⟨_, (N _ hb).1, rfl, _, rfl⟩ hu (fun j h1 h2 => ?_) prog w E Q ?_
  · have := hs.at j (by simpa using h1) (by simpa using h2)
    simpa using this
  · have : (!((List.range (min vs.toArray.size vs'.toArray.size)).all (fun _ => true) && vs.toArray.size == vs'.toArray.size)) = false := by
      simp [hs.len]
    rw [this]; exact h
theorem tup_eq (N : News h₀ L s.heap news) (ha : (l, ({ cls := .type "tuple", data := .seq vs.toArray } : Obj)) ∈ news) (hb : (b, ({ cls := .type "tuple", data := .seq vs'.toArray } : Obj)) ∈ news) (hs : SameAll A.in1 s vs vs') (hu : A.units < cLine) (h : Q (.bool true) s) :
    wpAny (model prog w) A (compareOp .Eq (.ref l) (.ref b)) Q E s := by
  refine RcAt.tuples (e := fun _ => true) (items := vs.toArray) (items2 := vs'.toArray) ⟨_, (N _ ha).1, rfl, _, rfl⟩ ⟨_, (N _ hb).1, rfl, _, rfl⟩ hu (fun j h1 h2 => ?_) prog w E Q ?_
  · have := hs.at j (by simpa using h1) (by simpa using h2)
    simpa using this
  · have : ((List.range (min vs.toArray.size vs'.toArray.size)).all (fun _ => true) && vs.toArray.size == vs'.toArray.size) = true := by
      simp [hs.len]
    rw [this]; exact h
end
end
section
section
variable {prog : Program} {w : World} {A : Around} {E : Value → Shared → Prop} {s : Shared} {h₀ : Heap} {L : Addr} {m : Str → Option Value} {news : List (Addr × Obj)}
theorem last2_adjust (n : Nat) (hn : 2 ≤ n) : Builtin.Slice.sliceAdjust (some (-2)) none 1 (n : Int) = (((n - 2 : Nat) : Int), (n : Int)) := by
  unfold Builtin.Slice.sliceAdjust
  have h1 : ¬ ((1 : Int) < 0) := by omega
  have h2 : ((-2 : Int) < 0) := by omega
  simp only [h1, h2, if_false, if_true]
  congr 1
  omega
theorem last2_applied {sl : Addr} {n : Nat} {u : Tok} {Q : Int × Int × Nat → Shared → Prop} (hs : s.heap.IsSliceOf sl (.int (-2) u) .none .none) (hn : 2 ≤ n) (h : Q (((n - 2 : Nat) : Int), 1, n - (n - 2)) s) :
    wpAny (model prog w) A (Builtin.Slice.sliceApplied (.ref sl) (pure (n : Int))) Q E s := by
  obtain ⟨o, ho, _, hd⟩ := id hs
  unfold Builtin.Slice.sliceApplied Builtin.Slice.sliceFields
  refine wpAny_bind (wpAny_bind (wpAny_field ho hd (x := .int (-2) u) rfl (wpAny_bind (wpAny_field ho hd (x := .none) rfl (wpAny_bind (wpAny_field ho hd (x := .none) rfl (wpAny_pure ?_)))))))
  refine wpAny_bind (slicePart_none ?_)
  refine bm_if_false (by decide) ?_
  refine wpAny_bind (slicePart_int (wpAny_bind (slicePart_none (wpAny_bind (wpAny_pure ?_)))))
  show wpAny _ _ (match Builtin.Slice.sliceAdjust (some (-2)) none 1 (n : Int) with | (lo, hi) => pure (lo, (1 : Int), Builtin.Slice.slicePlaces lo hi 1)) _ _ s
  rw [last2_adjust n hn]
  show wpAny _ _ (pure (((n - 2 : Nat) : Int), (1 : Int), Builtin.Slice.slicePlaces ((n - 2 : Nat) : Int) (n : Int) 1)) _ _ s
  rw [places_from (n - 2) n (by omega)]
  exact wpAny_pure h
theorem last2_item {t sl : Addr} {items : Array Value} {u : Tok} {Q : Value → Shared → Prop} (ht : IsTup s.heap t items) (hs : s.heap.IsSliceOf sl (.int (-2) u) .none .none) (hn : 3 ≤ items.size) (hz : items.size ≤ 1000)
    (h : Q (.ref s.heap.objs.size) { s with heap := s.heap.push { cls := .type "tuple", data := .seq (items.toList.drop (items.size - 2)).toArray } }) : wpAny (model prog w) A (getItem (.ref t) (.ref sl)) Q E s := by
  have hdrop : sizeOk (.seq (items.toList.drop (items.size - 2)).toArray) := by
    show (items.toList.drop (items.size - 2)).toArray.size ≤ sizeLine
    rw [List.size_toArray, List.length_drop, Array.length_toList, sizeLine_eq]
    omega
  obtain ⟨os, hos, hcs, hds⟩ := id hs
  have hTs : s.TypeIs (.ref sl) "slice" := ⟨os, hos, hcs⟩
  unfold getItem
  try with_reducible refine wpAny_holding ?_
  first | refine wpAny_bind (wpAny_pure ?_) | skip
  refine wpAny_bind (wpAny_sequenceKey ht.typeIs (by decide) ?_)
  refine wpAny_bind (wpAny_callSpecial?_slot (name := Str.ofString "__getitem__") ht.typeIs slot_tuple_getitem (wpAny_call_entry slot_tuple_getitem ht.typeIs entry_tuple_getitem ?_ (args_tuple_getitem _ _)))
  show wpAny _ _ (Builtin.Tuple.tupleItemsOf (.ref t) >>= _) _ _ s
  refine wpAny_bind (tupleItemsOf_ ht ?_)
  refine wpAny_bind (wpAny_typeOf hTs ?_)
  rw [if_pos (by decide)]
  refine wpAny_bind (last2_applied hs (by omega) ?_)
  have hno : ((((items.size - 2 : Nat) : Int) == 0 && (1 : Int) == 1 && (items.size - (items.size - 2)) == items.size)) = false := by
    have : (((items.size - 2 : Nat) : Int) == 0) = false := by rw [beq_eq_false_iff_ne]; omega
    rw [this]; rfl
  show wpAny _ _ (if (((items.size - 2 : Nat) : Int) == 0 && (1 : Int) == 1 && (items.size - (items.size - 2)) == items.size) = true then _ else _) _ _ s
  refine bm_if_false hno ?_
  rw [pick_from items (items.size - 2) (by omega)]
  first
    | exact wpAny_bind (m := Builtin.Tuple.tupleExact _) (wpAny_newObj_type (wpAny_pure ⟨_, rfl, wpAny_pure h⟩) hdrop)
    | exact wpAny_bind (m := Builtin.Tuple.tupleExact _) (wpAny_newObj_type (wpAny_bind (wpAny_pure (wpAny_pure ⟨_, rfl, wpAny_pure h⟩))) hdrop)
    | exact wpAny_bind (wpAny_bind (m := Builtin.Tuple.tupleExact _) (wpAny_newObj_type (wpAny_pure (wpAny_pure ⟨_, rfl, wpAny_pure h⟩)) hdrop))
    | exact wpAny_bind (wpAny_bind (m := Builtin.Tuple.tupleExact _) (wpAny_newObj_type (wpAny_pure ⟨_, rfl, wpAny_pure h⟩) hdrop))
theorem last2_slice {value slice : PySem.Expr} {t : Addr} {vs : List Value} {x y : Value} {u : Tok} {Q : Value → Shared → Prop}
    (F : Fr h₀ L s.heap m) (N : News h₀ L s.heap news) (ht : (t, ({ cls := .type "tuple", data := .seq (vs ++ [x, y]).toArray } : Obj)) ∈ news) (h1 : 1 ≤ vs.length) (h2 : vs.length ≤ 900)
    (h : ∀ D h', Fr h₀ L h' m → News h₀ L h' ((D, { cls := .type "tuple", data := .seq #[x, y] }) :: news) → Q (.ref D) { s with heap := h' })
    (hs : subscripted slice false (.ref t) (.ref s.heap.objs.size) = operate [.ref s.heap.objs.size, .ref t] (getItem (.ref t) (.ref s.heap.objs.size)))
    (hg : ∀ r, letTemporaryGo value (.ref t) r = pure ()) :
    wpAny (model prog w) A (subscriptTail value slice (.ref t) (.ref s.heap.objs.size)) Q E { s with heap := s.heap.push { cls := .type "slice", data := .fields #[.int (-2) u, .none, .none] } } := by
  have ht' : IsTup (s.heap.push { cls := .type "slice", data := .fields #[.int (-2) u, .none, .none] }) t (vs ++ [x, y]).toArray := ⟨_, Heap.get?_push_of_some _ (N _ ht).1, rfl, _, rfl⟩
  have hz : (vs ++ [x, y]).toArray.size = vs.length + 2 := by rw [List.size_toArray, List.length_append]; rfl
  have hd : ((vs ++ [x, y]).toArray.toList.drop ((vs ++ [x, y]).toArray.size - 2)).toArray = #[x, y] := by
    rw [hz, List.toList_toArray, Nat.add_sub_cancel, List.drop_left]
  refine subscriptTail_ops (s := { s with heap := s.heap.push { cls := .type "slice", data := .fields #[.int (-2) u, .none, .none] } }) ht'.typeIs slot_tuple_getitem.lookup
    (last2_item ht' (Heap.IsSliceOf.new ..) (by omega) (by omega) ?_) hs hg
  rw [hd]
  exact h _ _ ((F.push _).push _) (News.push (F.push { cls := .type "slice", data := .fields #[.int (-2) u, .none, .none] }) (N.grown fun _ _ e => Heap.get?_push_of_some _ e) { cls := .type "tuple", data := .seq #[x, y] })
end
end
section
variable {w : World} {p : Program} {loose : List Str} {mean : ExcName → Option Value} {mg mb : Str → Option Value}
open LCg
noncomputable def drNews (pre : List (Addr × Obj)) (D Ra : Addr) (vs : List Value) (seed : Int) (ts : Tok) (n1 n2 : Nat) : List (Addr × Obj) := (D, drD Ra seed ts n1) :: (Ra, listOf vs.toArray n2) :: pre
theorem restInd {prog : Program} {A : Around} {h₀ : Heap} {L : Addr} {m : Str → Option Value} {env : Env} {elt : PySem.Expr} {x : Str} {scope : Scope} {cl : List (Str × Addr)} {s : Shared} {P : Nat → Value → Prop} {Fin : List Value → List (Addr × Obj) → Prop} {c D Ra : Addr} {oc : Obj} {N₀ : Nat}
    (helt : ∀ (i : Nat) (ys vs : List Value) (ns : List Int) (seed : Int) (ts : Tok) (n1 n2 : Nat) (I : Addr) (oI : Obj) (C : Addr) (oC : Obj) (Dd : Addr) (m₂ : Str → Option Value) (h : Heap) (tk : Nat) (v : Value) (E' : Value → Shared → Prop), P i v → NsObj oC m₂ → m₂ x = some v → Dr vs ns seed → Fr h₀ L h m →
      News h₀ L h ((I, oI) :: (C, oC) :: (Dd, lst ys) :: drNews [(c, oc)] D Ra vs seed ts n1 n2) → ((@Ne Nat I D) ∧ (@Ne Nat C D) ∧ (@Ne Nat Dd D) ∧ (@Ne Nat I Ra) ∧ (@Ne Nat C Ra) ∧ (@Ne Nat Dd Ra)) →
      wpAny (model prog w) A (eval elt (compEnvC scope cl C env)) (fun y s' => ∃ z t h' tk' vs' ns' seed' ts' n1' n2', y = .int z t ∧ s' = { s with heap := h', toks := tk' } ∧ 0 ≤ z ∧ z < 256 ∧ Dr vs' ns' seed' ∧ Fr h₀ L h' m ∧ News h₀ L h' (drNews [(I, oI), (C, oC), (Dd, lst ys), (c, oc)] D Ra vs' seed' ts' n1' n2')) E' { s with heap := h, toks := tk })
    (hfin : ∀ (ys : List Value) (zs : List Int) (vs : List Value) (ns : List Int) (seed : Int) (ts : Tok) (n1 n2 : Nat), IntsAre ys zs → KBa.In zs → zs.length = N₀ → Dr vs ns seed → Fin ys (drNews [(c, oc)] D Ra vs seed ts n1 n2)) :
    ∀ (k i : Nat) (ys : List Value) (zs : List Int) (vs : List Value) (ns : List Int) (seed : Int) (ts : Tok) (n1 n2 : Nat), i + k = N₀ → IntsAre ys zs → KBa.In zs → zs.length = i → Dr vs ns seed →
      CompRest prog w A h₀ L m env elt x scope cl s (fun _ => True) P Fin k i ys (drNews [(c, oc)] D Ra vs seed ts n1 n2)
  | 0, i, ys, zs, vs, ns, seed, ts, n1, n2, hk, hy, hz, hl, dr => CompRest.zero (hfin ys zs vs ns seed ts n1 n2 hy hz (by omega) dr)
  | k + 1, i, ys, zs, vs, ns, seed, ts, n1, n2, hk, hy, hz, hl, dr => CompRest.succ fun v I oI C oC Dd m₂ h tk E' hP hC hx F N off ne => by
    have o1 := off.mem (D, drD Ra seed ts n1) (.head _)
    have o2 := off.mem (Ra, listOf vs.toArray n2) (.tail _ (.head _))
    have o3 := off.mem (c, oc) (.tail _ (.tail _ (.head _)))
    refine wpAny_mono (helt i ys vs ns seed ts n1 n2 I oI C oC Dd m₂ h tk v E' hP hC hx dr F N ⟨Ne.symm o1.1, Ne.symm o1.2.1, Ne.symm o1.2.2, Ne.symm o2.1, Ne.symm o2.2.1, Ne.symm o2.2.2⟩) ?_ fun _ _ e => e
    rintro y s' ⟨z, t, h', tk', vs', ns', seed', ts', n1', n2', rfl, rfl, z0, z1, dr', F', N'⟩
    refine ⟨h', tk', drNews [(c, oc)] D Ra vs' seed' ts' n1' n2', rfl, F', fun q hq => ?_, Off3.of fun q hq => ?_, trivial, ?_⟩
    · refine N' q ?_
      unfold drNews at hq ⊢
      simp only [List.mem_cons, List.not_mem_nil, or_false] at hq ⊢
      rcases hq with q | q | q | q | q | q
      · exact .inr (.inr (.inl q))
      · exact .inr (.inr (.inr (.inl q)))
      · exact .inr (.inr (.inr (.inr (.inl q))))
      · exact .inl q
      · exact .inr (.inl q)
      · exact .inr (.inr (.inr (.inr (.inr q))))
    · unfold drNews at hq
      simp only [List.mem_cons, List.not_mem_nil, or_false] at hq
      rcases hq with rfl | rfl | rfl
      · exact o1
      · exact o2
      · exact o3
    · refine restInd helt hfin k (i + 1) _ (zs ++ [z]) vs' ns' seed' ts' n1' n2' (by omega) (hy.append (.cons _ _ .nil)) (fun n hn => ?_) (by rw [List.length_append, hl]; rfl) dr'
      rcases List.mem_append.mp hn with hn | hn
      · exact hz n hn
      · rw [List.mem_singleton.mp hn]; exact ⟨z0, z1⟩
set_option maxHeartbeats 1000000 in
theorem x_oct (most : Int) (tm ts : Tok) (vs : List Value) (ns : List Int) (seed : Int) (n1 n2 : Nat) (hm : 1 ≤ most) (hm1 : most ≤ 10) (dr : Dr vs ns seed) (dp un : Nat) (gd : Option (List Code)) (base : Heap) (l : List Env) (g : Heap) (s : Shared) (D Ra : Addr) (R : Result → Shared → Prop)
    (B : Below ⟨none, dp, some l, gd, un⟩ base l g) (X : (hd.heap_39 w.params).In g) (T : Top p loose mean mg mb g) (hdp : dp + 10 < recursionLimit) (hun : un + 160 < cLine)
    (st : g.StaysIn s.heap) (sz : g.objs.size ≤ s.heap.objs.size) (hD : s.heap.get? D = some (drD Ra seed ts n1)) (hD0 : g.get? D = none) (hR : s.heap.get? Ra = some (listOf vs.toArray n2)) (hR0 : g.get? Ra = none) (hDR : (@Ne Nat D Ra))
    (hret : ∀ Y t h' tk' vs' ns' seed' ts' n1' n2' zs, KBw.bInts Y = zs → zs.length ≤ most.toNat → Dr vs' ns' seed' → h'.get? D = some (drD Ra seed' ts' n1') → h'.get? Ra = some (listOf vs'.toArray n2') → g.StaysIn h' → R (.ok (.ret (.bytes Y t))) { s with heap := h', toks := tk' }) :
    codeAny (model PySem.Challenge.rw_no0081_01.row.prog w) ⟨none, dp, some l, gd, un⟩ (.call (.ref 357) ⟨[.ref D, .int most tm], []⟩) R s := by
  refine enterCH (g := g) (news := [(D, drD Ra seed ts n1), (Ra, listOf vs.toArray n2)]) (binds := [(Str.ofString "draws", .ref D), (Str.ofString "most", .int most tm)]) st sz (fun q hq => ?_) X T (by k_is) (by k_is) (by ktr_room) (BindsTo.of_eq rfl) rfl (by decide +kernel) (fun L' h₁' tk' cells' F' N' ne' Y' => ?_) rfl rfl rfl
  · rcases List.mem_cons.mp hq with rfl | hq
    · exact ⟨hD, hD0⟩
    · rcases List.mem_cons.mp hq with rfl | hq
      · exact ⟨hR, hR0⟩
      · cases hq
  k_cells Y'
  rename Obj => oc9
  (try simp only [List.cons_append, List.nil_append] at N')
  (have ne1 := ne' _ (.head _) _ (.head _))
  (have ne2 := ne' _ (.head _) _ (.tail _ (.head _)))
  have lr : @LT.lt Nat _ D s.heap.objs.size := Heap.lt_size hD
  have ld : @LT.lt Nat _ Ra s.heap.objs.size := Heap.lt_size hR
  clear hD hR sz st ne'
  (try dsimp only at ne1 ne2)
  (try dsimp only)
  (try k_fold)
  repeat' (first | ((fail_if_success (with_reducible show wpAny _ _ (eval (PySem.Expr.ListComp _ _ _ _) _) _ _ _)); first | (k_unfold; (try dsimp only)) | (k_end; wrow_close) | (k_here; (with_reducible show wpAny _ _ (call (Value.ref 352) _) _ _ _); k_dflt (refine useTake (rest := [(_, _)]) (by omega) (by omega) (by assumption) (by k_asm) (by k_asm) (by k_mem) (by k_mem) (by omega) (by intro q hq; rw [List.mem_singleton.mp hq]; exact ⟨by k_mem, by omega, by omega⟩) (by exact rfl) (by assumption) (by assumption) (by assumption) (by exact rfl) (by exact rfl) (by exact rfl) (by ktr_room) (by ktr_units) ?_); intro y9 t9 h9 tk9 vs9 ns9 sd9 ts9 n19 n29 lo9 hi9 dr9 F9 N9; tb_rel) | walk1 | (dsimp only; first | (k_here; (with_reducible show wpAny _ _ (call (Value.ref 352) _) _ _ _); k_dflt (refine useTake (rest := [(_, _)]) (by omega) (by omega) (by assumption) (by k_asm) (by k_asm) (by k_mem) (by k_mem) (by omega) (by intro q hq; rw [List.mem_singleton.mp hq]; exact ⟨by k_mem, by omega, by omega⟩) (by exact rfl) (by assumption) (by assumption) (by assumption) (by exact rfl) (by exact rfl) (by exact rfl) (by ktr_room) (by ktr_units) ?_); intro y9 t9 h9 tk9 vs9 ns9 sd9 ts9 n19 n29 lo9 hi9 dr9 F9 N9; tb_rel) | walk1)))
  refine ListComp_U (F₀ := by k_asm) (by with_unfolding_all rfl) (by decide) (by rfl) (by decide) (by rfl) ?_
  repeat' (first | ((fail_if_success (with_reducible show CompSrc _ _ _ _ _ _ _ _ _ _ _ _ _ _)); first | (k_unfold; (try dsimp only)) | (k_end; wrow_close) | (k_here; (with_reducible show wpAny _ _ (call (Value.ref 352) _) _ _ _); k_dflt (refine useTake (rest := [(_, _)]) (by omega) (by omega) (by assumption) (by k_asm) (by k_asm) (by k_mem) (by k_mem) (by omega) (by intro q hq; rw [List.mem_singleton.mp hq]; exact ⟨by k_mem, by omega, by omega⟩) (by exact rfl) (by assumption) (by assumption) (by assumption) (by exact rfl) (by exact rfl) (by exact rfl) (by ktr_room) (by ktr_units) ?_); intro y9 t9 h9 tk9 vs9 ns9 sd9 ts9 n19 n29 lo9 hi9 dr9 F9 N9; tb_rel) | walk1 | (dsimp only; first | (k_here; (with_reducible show wpAny _ _ (call (Value.ref 352) _) _ _ _); k_dflt (refine useTake (rest := [(_, _)]) (by omega) (by omega) (by assumption) (by k_asm) (by k_asm) (by k_mem) (by k_mem) (by omega) (by intro q hq; rw [List.mem_singleton.mp hq]; exact ⟨by k_mem, by omega, by omega⟩) (by exact rfl) (by assumption) (by assumption) (by assumption) (by exact rfl) (by exact rfl) (by exact rfl) (by ktr_room) (by ktr_units) ?_); intro y9 t9 h9 tk9 vs9 ns9 sd9 ts9 n19 n29 lo9 hi9 dr9 F9 N9; tb_rel) | walk1)))
  rename IsRange _ _ _ _ _ _ _ _ => I9
  rename News _ _ _ _ => N9
  rename Fr _ _ _ _ => F9
  rename Dr _ _ _ => dr9
  refine CompSrc.range rfl F9 N9 I9 (small_one (by decide) (by decide) (by omega) (by omega)) (rangeSize_nat _ _) (by rw [sizeLine_eq]; omega) (fun gg => ?_)
  refine restInd ?helt ?hfin _ 0 [] [] _ _ _ _ _ _ (Nat.zero_add _) .nil (fun _ h => nomatch h) rfl dr9
  case helt =>
    intro i ys vs2 ns2 seed2 ts2 m1 m2 I oI C oC Dd m₂ h tk v E' hP hC hx dr2 F2 N2 ne2
    unfold drNews at N2
    clear N9 F9 F' N' dr9 I9
    (try k_fold)
    repeat' (first | ((fail_if_success (with_reducible show wpAny _ _ (call (Value.ref 352) _) _ _ _)); first | (k_unfold; (try dsimp only)) | (k_end; wrow_close) | (k_here; (with_reducible show wpAny _ _ (call (Value.ref 352) _) _ _ _); k_dflt (refine useTake (rest := [(_, _)]) (by omega) (by omega) (by assumption) (by k_asm) (by k_asm) (by k_mem) (by k_mem) (by omega) (by intro q hq; rw [List.mem_singleton.mp hq]; exact ⟨by k_mem, by omega, by omega⟩) (by exact rfl) (by assumption) (by assumption) (by assumption) (by exact rfl) (by exact rfl) (by exact rfl) (by ktr_room) (by ktr_units) ?_); intro y9 t9 h9 tk9 vs9 ns9 sd9 ts9 n19 n29 lo9 hi9 dr9 F9 N9; tb_rel) | walk1 | (dsimp only; first | (k_here; (with_reducible show wpAny _ _ (call (Value.ref 352) _) _ _ _); k_dflt (refine useTake (rest := [(_, _)]) (by omega) (by omega) (by assumption) (by k_asm) (by k_asm) (by k_mem) (by k_mem) (by omega) (by intro q hq; rw [List.mem_singleton.mp hq]; exact ⟨by k_mem, by omega, by omega⟩) (by exact rfl) (by assumption) (by assumption) (by assumption) (by exact rfl) (by exact rfl) (by exact rfl) (by ktr_room) (by ktr_units) ?_); intro y9 t9 h9 tk9 vs9 ns9 sd9 ts9 n19 n29 lo9 hi9 dr9 F9 N9; tb_rel) | walk1)))
    refine useTake (rest := [(I, oI), (C, oC), (Dd, lst ys), (L' + 1, oc9)]) (by omega) (by omega) dr2 F2 N2 (by k_mem) (by k_mem) (by omega) (fun q hq => ?_) (by exact rfl) (by assumption) (by assumption) (by assumption) (by exact rfl) (by exact rfl) (by exact rfl) (by ktr_room) (by ktr_units) ?_
    · simp only [List.mem_cons, List.not_mem_nil, or_false] at hq
      rcases hq with rfl | rfl | rfl | rfl
      · exact ⟨by k_mem, by omega, by omega⟩
      · exact ⟨by k_mem, by omega, by omega⟩
      · exact ⟨by k_mem, by omega, by omega⟩
      · exact ⟨by k_mem, by omega, by omega⟩
    · intro y t h' tk' vs' ns' seed' ts' n1' n2' y0 y1 dr' F5 N5
      exact ⟨y, t, h', tk', vs', ns', seed', ts', n1', n2', rfl, rfl, y0, y1, dr', F5, N5⟩
  case hfin =>
    intro ys zs vs2 ns2 seed2 ts2 m1 m2 hy hz hl dr2 Dd h tk F2 N2 off
    unfold drNews at N2
    clear N9 F9 F' N' dr9 I9
    have hle : zs.length ≤ 1000 := by omega
    (try k_fold)
    repeat' (first | (k_unfold; (try dsimp only)) | (k_end; wrow_close) | (k_here; (with_reducible show wpAny _ _ (call (Value.ref 352) _) _ _ _); k_dflt (refine useTake (rest := [(_, _)]) (by omega) (by omega) (by assumption) (by k_asm) (by k_asm) (by k_mem) (by k_mem) (by omega) (by intro q hq; rw [List.mem_singleton.mp hq]; exact ⟨by k_mem, by omega, by omega⟩) (by exact rfl) (by assumption) (by assumption) (by assumption) (by exact rfl) (by exact rfl) (by exact rfl) (by ktr_room) (by ktr_units) ?_); intro y9 t9 h9 tk9 vs9 ns9 sd9 ts9 n19 n29 lo9 hi9 dr9 F9 N9; tb_rel) | walk1 | (dsimp only; first | (k_here; (with_reducible show wpAny _ _ (call (Value.ref 352) _) _ _ _); k_dflt (refine useTake (rest := [(_, _)]) (by omega) (by omega) (by assumption) (by k_asm) (by k_asm) (by k_mem) (by k_mem) (by omega) (by intro q hq; rw [List.mem_singleton.mp hq]; exact ⟨by k_mem, by omega, by omega⟩) (by exact rfl) (by assumption) (by assumption) (by assumption) (by exact rfl) (by exact rfl) (by exact rfl) (by ktr_room) (by ktr_units) ?_); intro y9 t9 h9 tk9 vs9 ns9 sd9 ts9 n19 n29 lo9 hi9 dr9 F9 N9; tb_rel) | walk1) | (leave1; try dsimp only) | fail "no step")
    rename News _ _ _ _ => N5
    exact hret _ _ _ _ vs2 ns2 seed2 ts2 m1 m2 zs (KBa.ints_make hz) (by omega) dr2 (N5 (D, _) (by k_mem)).1 (N5 (Ra, _) (by k_mem)).1 (Fr.keep (L := L') (by k_asm))
end
section
variable {w : World} {p : Program} {loose : List Str} {mean : ExcName → Option Value} {mg mb : Str → Option Value}
noncomputable def SeedOk (seed : Int) : Prop := 0 ≤ seed ∧ seed < 2147483647
theorem seed_ok {x : Int} : 0 ≤ x.fmod 2147483647 ∧ x.fmod 2147483647 < 2147483647 := byte_fm (by decide)
set_option maxHeartbeats 1000000 in
theorem x_draws (a : Addr) (vs : List Value) (ns : List Int) (hi : IntsAre vs ns) (hl : ns.length ≤ 63) (dp un : Nat) (gd : Option (List Code)) (base : Heap) (l : List Env) (s : Shared) (R : Result → Shared → Prop)
    (B : Below ⟨none, dp, some l, gd, un⟩ base l s.heap) (X : (hd.heap_39 w.params).In s.heap) (T : Top p loose mean mg mb s.heap) (hs : s.heap.IsList a vs.toArray) (hdp : dp + 10 < recursionLimit) (hun : un + 160 < cLine)
    (hret : ∀ h' tk' D Ra vs' ns' seed ts n1 n2, s.heap.get? D = none → s.heap.get? Ra = none → (@Ne Nat D Ra) → h'.get? D = some (drD Ra seed ts n1) → h'.get? Ra = some (listOf vs'.toArray n2) → Dr vs' ns' seed → s.heap.StaysIn h' → R (.ok (.ret (.ref D))) { s with heap := h', toks := tk' }) :
    codeAny (model PySem.Challenge.rw_no0081_01.row.prog w) ⟨none, dp, some l, gd, un⟩ (.call (.ref 345) ⟨[.ref a], []⟩) R s := by
  refine enter (binds := [(Str.ofString "script", .ref a)]) X T (by k_is) (by k_is) (by ktr_room) (BindsTo.of_eq rfl) (locs rfl) (fun L' h₁' F' N' => ?_) rfl rfl rfl (by decide)
  (dsimp only [List.reverse, List.reverseAux, bmap] at F')
  (try dsimp only)
  (try k_fold)
  (k_with "pyIter ref" => k_state (fun pre sd => 0 ≤ sd ∧ sd < 2147483647) "seed")
  k_steps
  rename News _ _ _ _ => N9
  rename IntsAre _ (List.map _ _) => hI8
  exact hret _ _ _ _ _ _ _ _ _ _ (N9 (_, listOf #[.ref _, .int _ _] _) (.head _)).2.2 (N9 _ (.tail _ (.tail _ (.head _)))).2.2 (by omega) (N9 (_, listOf #[.ref _, .int _ _] _) (.head _)).1 (N9 _ (.tail _ (.tail _ (.head _)))).1 ⟨hI8, by rw [List.length_map, List.length_take]; omega, by assumption, by assumption⟩ (Fr.keep (by k_asm))
end
section
variable {w : World} {p : Program} {loose : List Str} {mean : ExcName → Option Value} {mg mb : Str → Option Value}
theorem mix_nn {y i : Int} {ks : List Int} (e : y = mix i ks) : 0 ≤ y := by subst e; exact (mix_in i ks).1
theorem mix_16 {y i : Int} {ks : List Int} (e : y = mix i ks) : y.fdiv (2 ^ (8 * (16 : Int)).toNat) = 0 := by
  have h := mix_in i ks
  subst e
  rw [Int.fdiv_eq_ediv_of_nonneg _ (by decide)]
  exact Int.ediv_eq_zero_of_lt h.1 (Int.lt_of_lt_of_le h.2 (by decide))
noncomputable def headMask (kk ss : List Int) : List Int := (be 16 (mix (mix 7 kk) ss)).drop 11
set_option maxHeartbeats 4000000 in
theorem c_hmask (key : Array UInt8) (tk : Tok) (b : Array UInt8) (tb : Tok) (kk ss : List Int) (hkk : KBw.bInts key = kk) (hb : KBw.bInts b = ss) :
   DCon w p loose mean mg mb 279 [.bytes key tk, .bytes b tb] 8 60 (isB (headMask kk ss)) := by
  refine dcon_of fun dp un base l s R B X T hd hu hret => ?_
  refine dEnter (binds := [(Str.ofString "key", .bytes key tk), (Str.ofString "sample", .bytes b tb)]) X T (by k_is) (by k_is) (by ktr_room) (BindsTo.of_eq rfl) (locs rfl) (fun L' h₁' F' N' => ?_) rfl rfl rfl (by decide)
  (dsimp only [List.reverse, List.reverseAux, bmap] at F')
  (try dsimp only)
  refine dExecs (dReturn (dSubscript (dCallName ?_)))
  (try k_fold)
  repeat' (first | (k_unfold; (try dsimp only)) | (k_end; wrow_close) | (k_here; (with_reducible show wpAny _ _ (call (Value.ref 244) _) _ _ _); k_dflt (refine useI (c_mixed _ _ _ _ _ (by kba_ints2)) (by k_asm) (by k_asm) (by k_asm) (by k_asm) (by k_asm) (by exact rfl) (by exact rfl) (by exact rfl) (by ktr_room) (by ktr_units) ?_); intro y9 t9 h9 tk9 e9 F9 N9; tb_rel) | walk1 | (dsimp only; first | (k_here; (with_reducible show wpAny _ _ (call (Value.ref 244) _) _ _ _); k_dflt (refine useI (c_mixed _ _ _ _ _ (by kba_ints2)) (by k_asm) (by k_asm) (by k_asm) (by k_asm) (by k_asm) (by exact rfl) (by exact rfl) (by exact rfl) (by ktr_room) (by ktr_units) ?_); intro y9 t9 h9 tk9 e9 F9 N9; tb_rel) | walk1) | (leave1; try dsimp only) | fail "no step")
  refine dCallWith (K := Mine.hd.heap_39 w.params) (by kernel_rfl) (dAny ?_)
  (try k_fold)
  repeat' (first | (k_unfold; (try dsimp only)) | (k_end; wrow_close) | (k_here; (with_reducible show wpAny _ _ (call (Value.ref 244) _) _ _ _); k_dflt (refine useI (c_mixed _ _ _ _ _ (by kba_ints2)) (by k_asm) (by k_asm) (by k_asm) (by k_asm) (by k_asm) (by exact rfl) (by exact rfl) (by exact rfl) (by ktr_room) (by ktr_units) ?_); intro y9 t9 h9 tk9 e9 F9 N9; tb_rel) | walk1 | (dsimp only; first | (k_here; (with_reducible show wpAny _ _ (call (Value.ref 244) _) _ _ _); k_dflt (refine useI (c_mixed _ _ _ _ _ (by kba_ints2)) (by k_asm) (by k_asm) (by k_asm) (by k_asm) (by k_asm) (by exact rfl) (by exact rfl) (by exact rfl) (by ktr_room) (by ktr_units) ?_); intro y9 t9 h9 tk9 e9 F9 N9; tb_rel) | walk1) | (leave1; try dsimp only) | fail "no step")
  (try dsimp only)
  refine dUseL (c_put _ _ _ _ (mix_nn (by assumption)) (by decide) (by decide) (mix_16 (by assumption))) (be_len _ _) (by k_asm) (by k_asm) (by k_asm) (by k_asm) (by k_asm) (by exact rfl) (by exact rfl) (by exact rfl) (by exact rfl) (by ktr_room) (by ktr_units) ?_
  intro Y9 t9 h9 tk9 zs9 e9 q9 l9 F9 N9
  (try simp only [Int.reduceToNat] at q9 l9)
  tb_rel
  repeat' (first | (k_unfold; (try dsimp only)) | (k_end; wrow_close) | (k_here; (with_reducible show wpAny _ _ (call (Value.ref 244) _) _ _ _); k_dflt (refine useI (c_mixed _ _ _ _ _ (by kba_ints2)) (by k_asm) (by k_asm) (by k_asm) (by k_asm) (by k_asm) (by exact rfl) (by exact rfl) (by exact rfl) (by ktr_room) (by ktr_units) ?_); intro y9 t9 h9 tk9 e9 F9 N9; tb_rel) | walk1 | (dsimp only; first | (k_here; (with_reducible show wpAny _ _ (call (Value.ref 244) _) _ _ _); k_dflt (refine useI (c_mixed _ _ _ _ _ (by kba_ints2)) (by k_asm) (by k_asm) (by k_asm) (by k_asm) (by k_asm) (by exact rfl) (by exact rfl) (by exact rfl) (by ktr_room) (by ktr_units) ?_); intro y9 t9 h9 tk9 e9 F9 N9; tb_rel) | walk1) | (leave1; try dsimp only) | (with_reducible refine dABin ?_) | (with_reducible refine dAName ?_) | (with_reducible refine dAStore ?_) | (with_reducible refine dACmp ?_) | (with_reducible refine dATru ?_) | (with_reducible refine dASub ?_) | (with_reducible refine dSplNil ?_))
  refine retB (s := s) hret (by k_asm) (by assumption) ?_
  rw [l9, PyProof.Rows.clipAt_in (by omega) (by omega), List.take_of_length_le (by rw [List.length_drop, l9]; decide), q9]
  unfold headMask
  first | (subst_vars; rfl) | (trace_state; fail)
end
section
variable {w : World} {p : Program} {loose : List Str} {mean : ExcName → Option Value} {mg mb : Str → Option Value}
theorem small_32 {x : Int} (h0 : 0 ≤ x) (h1 : x < 4294967296) : x.fdiv (2 ^ (8 * (4 : Int)).toNat) = 0 := by
  rw [Int.fdiv_eq_ediv_of_nonneg _ (by decide)]
  exact Int.ediv_eq_zero_of_lt h0 (Int.lt_of_lt_of_le h1 (by decide))
noncomputable def tagL (kk : List Int) (n : Int) (hs bs : List Int) : List Int := be 16 (mix (mix (n + 1) kk) (be 4 (hs.length : Int) ++ hs ++ bs))
theorem tag_fin {kk hs bs zs : List Int} {i y1 y2 : Int} (e1 : y1 = mix (i + 1) kk) (q : zs = be 4 (hs.length : Int)) (e2 : y2 = mix y1 (zs ++ hs ++ bs)) : be (Int.toNat 16) y2 = tagL kk i hs bs := by subst e1; subst q; subst e2; rfl
set_option maxHeartbeats 4000000 in
theorem c_tag (key h b : Array UInt8) (tk ti th tb : Tok) (i : Int) (kk hs bs : List Int) (hkk : KBw.bInts key = kk) (hh : KBw.bInts h = hs) (hb : KBw.bInts b = bs) (lh : hs.length ≤ 200) (lb : bs.length ≤ 200) :
   DCon w p loose mean mg mb 258 [.bytes key tk, .int i ti, .bytes h th, .bytes b tb] 8 60 (isB (tagL kk i hs bs)) := by
  refine dcon_of fun dp un base l s R B X T hd hu hret => ?_
  refine dEnter (binds := [(Str.ofString "key", .bytes key tk), (Str.ofString "number", .int i ti), (Str.ofString "head", .bytes h th), (Str.ofString "body", .bytes b tb)]) X T (by k_is) (by k_is) (by ktr_room) (BindsTo.of_eq rfl) (locs rfl) (fun L' h₁' F' N' => ?_) rfl rfl rfl (by decide)
  (dsimp only [List.reverse, List.reverseAux, bmap] at F')
  (try dsimp only)
  refine dExecs (dAssign (dCallName ?_))
  (try k_fold)
  repeat' (first | (k_unfold; (try dsimp only)) | (k_end; wrow_close) | (k_here; (with_reducible show wpAny _ _ (call (Value.ref 244) _) _ _ _); k_dflt (refine useI (c_mixed _ _ _ _ _ (by kba_ints2)) (by k_asm) (by k_asm) (by k_asm) (by k_asm) (by k_asm) (by exact rfl) (by exact rfl) (by exact rfl) (by ktr_room) (by ktr_units) ?_); intro y9 t9 h9 tk9 e9 F9 N9; tb_rel) | walk1 | (dsimp only; first | (k_here; (with_reducible show wpAny _ _ (call (Value.ref 244) _) _ _ _); k_dflt (refine useI (c_mixed _ _ _ _ _ (by kba_ints2)) (by k_asm) (by k_asm) (by k_asm) (by k_asm) (by k_asm) (by exact rfl) (by exact rfl) (by exact rfl) (by ktr_room) (by ktr_units) ?_); intro y9 t9 h9 tk9 e9 F9 N9; tb_rel) | walk1) | (leave1; try dsimp only) | (with_reducible refine dABin ?_) | (with_reducible refine dAName ?_) | (with_reducible refine dAStore ?_) | (with_reducible refine dACmp ?_) | (with_reducible refine dATru ?_) | (with_reducible refine dASub ?_) | (with_reducible refine dSplNil ?_))
  refine dCallWith (K := Mine.hd.heap_39 w.params) (by kernel_rfl) (dSplMore (dAny ?_))
  (try k_fold)
  repeat' (first | (k_unfold; (try dsimp only)) | (k_end; wrow_close) | (k_here; (with_reducible show wpAny _ _ (call (Value.ref 244) _) _ _ _); k_dflt (refine useI (c_mixed _ _ _ _ _ (by kba_ints2)) (by k_asm) (by k_asm) (by k_asm) (by k_asm) (by k_asm) (by exact rfl) (by exact rfl) (by exact rfl) (by ktr_room) (by ktr_units) ?_); intro y9 t9 h9 tk9 e9 F9 N9; tb_rel) | walk1 | (dsimp only; first | (k_here; (with_reducible show wpAny _ _ (call (Value.ref 244) _) _ _ _); k_dflt (refine useI (c_mixed _ _ _ _ _ (by kba_ints2)) (by k_asm) (by k_asm) (by k_asm) (by k_asm) (by k_asm) (by exact rfl) (by exact rfl) (by exact rfl) (by ktr_room) (by ktr_units) ?_); intro y9 t9 h9 tk9 e9 F9 N9; tb_rel) | walk1) | (leave1; try dsimp only) | (with_reducible refine dABin ?_) | (with_reducible refine dAName ?_) | (with_reducible refine dAStore ?_) | (with_reducible refine dACmp ?_) | (with_reducible refine dATru ?_) | (with_reducible refine dASub ?_) | (with_reducible refine dSplNil ?_))
  refine dSplMore (dBinOp (dBinOp (dCallName ?_)))
  repeat' (first | (k_unfold; (try dsimp only)) | (k_end; wrow_close) | (k_here; (with_reducible show wpAny _ _ (call (Value.ref 244) _) _ _ _); k_dflt (refine useI (c_mixed _ _ _ _ _ (by kba_ints2)) (by k_asm) (by k_asm) (by k_asm) (by k_asm) (by k_asm) (by exact rfl) (by exact rfl) (by exact rfl) (by ktr_room) (by ktr_units) ?_); intro y9 t9 h9 tk9 e9 F9 N9; tb_rel) | walk1 | (dsimp only; first | (k_here; (with_reducible show wpAny _ _ (call (Value.ref 244) _) _ _ _); k_dflt (refine useI (c_mixed _ _ _ _ _ (by kba_ints2)) (by k_asm) (by k_asm) (by k_asm) (by k_asm) (by k_asm) (by exact rfl) (by exact rfl) (by exact rfl) (by ktr_room) (by ktr_units) ?_); intro y9 t9 h9 tk9 e9 F9 N9; tb_rel) | walk1) | (leave1; try dsimp only) | (with_reducible refine dABin ?_) | (with_reducible refine dAName ?_) | (with_reducible refine dAStore ?_) | (with_reducible refine dACmp ?_) | (with_reducible refine dATru ?_) | (with_reducible refine dASub ?_) | (with_reducible refine dSplNil ?_))
  refine dCallWith (K := Mine.hd.heap_39 w.params) (by kernel_rfl) (dAny ?_)
  (try k_fold)
  repeat' (first | (k_unfold; (try dsimp only)) | (k_end; wrow_close) | (k_here; (with_reducible show wpAny _ _ (call (Value.ref 244) _) _ _ _); k_dflt (refine useI (c_mixed _ _ _ _ _ (by kba_ints2)) (by k_asm) (by k_asm) (by k_asm) (by k_asm) (by k_asm) (by exact rfl) (by exact rfl) (by exact rfl) (by ktr_room) (by ktr_units) ?_); intro y9 t9 h9 tk9 e9 F9 N9; tb_rel) | walk1 | (dsimp only; first | (k_here; (with_reducible show wpAny _ _ (call (Value.ref 244) _) _ _ _); k_dflt (refine useI (c_mixed _ _ _ _ _ (by kba_ints2)) (by k_asm) (by k_asm) (by k_asm) (by k_asm) (by k_asm) (by exact rfl) (by exact rfl) (by exact rfl) (by ktr_room) (by ktr_units) ?_); intro y9 t9 h9 tk9 e9 F9 N9; tb_rel) | walk1) | (leave1; try dsimp only) | fail "no step")
  (try dsimp only)
  refine dUseL (c_put _ _ _ _ (by omega) (by decide) (by decide) (small_32 (by omega) (by omega))) (be_len _ _) (by k_asm) (by k_asm) (by k_asm) (by k_asm) (by k_asm) (by exact rfl) (by exact rfl) (by exact rfl) (by exact rfl) (by ktr_room) (by ktr_units) ?_
  intro Y9 t9 h9 tk9 zs9 e9 q9 l9 F9 N9
  (try simp only [Int.reduceToNat] at q9 l9)
  tb_rel
  repeat' (first | (k_unfold; (try dsimp only)) | (k_end; wrow_close) | (k_here; (with_reducible show wpAny _ _ (call (Value.ref 244) _) _ _ _); k_dflt (refine useI (c_mixed _ _ _ _ _ (by kba_ints2)) (by k_asm) (by k_asm) (by k_asm) (by k_asm) (by k_asm) (by exact rfl) (by exact rfl) (by exact rfl) (by ktr_room) (by ktr_units) ?_); intro y9 t9 h9 tk9 e9 F9 N9; tb_rel) | walk1 | (dsimp only; first | (k_here; (with_reducible show wpAny _ _ (call (Value.ref 244) _) _ _ _); k_dflt (refine useI (c_mixed _ _ _ _ _ (by kba_ints2)) (by k_asm) (by k_asm) (by k_asm) (by k_asm) (by k_asm) (by exact rfl) (by exact rfl) (by exact rfl) (by ktr_room) (by ktr_units) ?_); intro y9 t9 h9 tk9 e9 F9 N9; tb_rel) | walk1) | (leave1; try dsimp only) | (with_reducible refine dABin ?_) | (with_reducible refine dAName ?_) | (with_reducible refine dAStore ?_) | (with_reducible refine dACmp ?_) | (with_reducible refine dATru ?_) | (with_reducible refine dASub ?_) | (with_reducible refine dSplNil ?_))
  refine dAny ?_
  repeat' (first | (k_unfold; (try dsimp only)) | (k_end; wrow_close) | (k_here; (with_reducible show wpAny _ _ (call (Value.ref 244) _) _ _ _); k_dflt (refine useI (c_mixed _ _ _ _ _ (by kba_ints2)) (by k_asm) (by k_asm) (by k_asm) (by k_asm) (by k_asm) (by exact rfl) (by exact rfl) (by exact rfl) (by ktr_room) (by ktr_units) ?_); intro y9 t9 h9 tk9 e9 F9 N9; tb_rel) | walk1 | (dsimp only; first | (k_here; (with_reducible show wpAny _ _ (call (Value.ref 244) _) _ _ _); k_dflt (refine useI (c_mixed _ _ _ _ _ (by kba_ints2)) (by k_asm) (by k_asm) (by k_asm) (by k_asm) (by k_asm) (by exact rfl) (by exact rfl) (by exact rfl) (by ktr_room) (by ktr_units) ?_); intro y9 t9 h9 tk9 e9 F9 N9; tb_rel) | walk1) | (leave1; try dsimp only) | (with_reducible refine dABin ?_) | (with_reducible refine dAName ?_) | (with_reducible refine dAStore ?_) | (with_reducible refine dACmp ?_) | (with_reducible refine dATru ?_) | (with_reducible refine dASub ?_) | (with_reducible refine dSplNil ?_))
  refine dExecs (dReturn (dCallName ?_))
  repeat' (first | (k_unfold; (try dsimp only)) | (k_end; wrow_close) | (k_here; (with_reducible show wpAny _ _ (call (Value.ref 244) _) _ _ _); k_dflt (refine useI (c_mixed _ _ _ _ _ (by kba_ints2)) (by k_asm) (by k_asm) (by k_asm) (by k_asm) (by k_asm) (by exact rfl) (by exact rfl) (by exact rfl) (by ktr_room) (by ktr_units) ?_); intro y9 t9 h9 tk9 e9 F9 N9; tb_rel) | walk1 | (dsimp only; first | (k_here; (with_reducible show wpAny _ _ (call (Value.ref 244) _) _ _ _); k_dflt (refine useI (c_mixed _ _ _ _ _ (by kba_ints2)) (by k_asm) (by k_asm) (by k_asm) (by k_asm) (by k_asm) (by exact rfl) (by exact rfl) (by exact rfl) (by ktr_room) (by ktr_units) ?_); intro y9 t9 h9 tk9 e9 F9 N9; tb_rel) | walk1) | (leave1; try dsimp only) | (with_reducible refine dABin ?_) | (with_reducible refine dAName ?_) | (with_reducible refine dAStore ?_) | (with_reducible refine dACmp ?_) | (with_reducible refine dATru ?_) | (with_reducible refine dASub ?_) | (with_reducible refine dSplNil ?_))
  refine dCallWith (K := Mine.hd.heap_39 w.params) (by kernel_rfl) (dAny ?_)
  (try k_fold)
  repeat' (first | (k_unfold; (try dsimp only)) | (k_end; wrow_close) | (k_here; (with_reducible show wpAny _ _ (call (Value.ref 244) _) _ _ _); k_dflt (refine useI (c_mixed _ _ _ _ _ (by kba_ints2)) (by k_asm) (by k_asm) (by k_asm) (by k_asm) (by k_asm) (by exact rfl) (by exact rfl) (by exact rfl) (by ktr_room) (by ktr_units) ?_); intro y9 t9 h9 tk9 e9 F9 N9; tb_rel) | walk1 | (dsimp only; first | (k_here; (with_reducible show wpAny _ _ (call (Value.ref 244) _) _ _ _); k_dflt (refine useI (c_mixed _ _ _ _ _ (by kba_ints2)) (by k_asm) (by k_asm) (by k_asm) (by k_asm) (by k_asm) (by exact rfl) (by exact rfl) (by exact rfl) (by ktr_room) (by ktr_units) ?_); intro y9 t9 h9 tk9 e9 F9 N9; tb_rel) | walk1) | (leave1; try dsimp only) | fail "no step")
  (try dsimp only)
  refine dUseB (c_put _ _ _ _ (mix_nn (by assumption)) (by decide) (by decide) (mix_16 (by assumption))) (by k_asm) (by k_asm) (by k_asm) (by k_asm) (by k_asm) (by exact rfl) (by exact rfl) (by exact rfl) (by exact rfl) (by ktr_room) (by ktr_units) ?_
  intro Y9 t9 h9 tk9 e9 F9 N9
  tb_rel
  repeat' (first | (k_unfold; (try dsimp only)) | (k_end; wrow_close) | (k_here; (with_reducible show wpAny _ _ (call (Value.ref 244) _) _ _ _); k_dflt (refine useI (c_mixed _ _ _ _ _ (by kba_ints2)) (by k_asm) (by k_asm) (by k_asm) (by k_asm) (by k_asm) (by exact rfl) (by exact rfl) (by exact rfl) (by ktr_room) (by ktr_units) ?_); intro y9 t9 h9 tk9 e9 F9 N9; tb_rel) | walk1 | (dsimp only; first | (k_here; (with_reducible show wpAny _ _ (call (Value.ref 244) _) _ _ _); k_dflt (refine useI (c_mixed _ _ _ _ _ (by kba_ints2)) (by k_asm) (by k_asm) (by k_asm) (by k_asm) (by k_asm) (by exact rfl) (by exact rfl) (by exact rfl) (by ktr_room) (by ktr_units) ?_); intro y9 t9 h9 tk9 e9 F9 N9; tb_rel) | walk1) | (leave1; try dsimp only) | (with_reducible refine dABin ?_) | (with_reducible refine dAName ?_) | (with_reducible refine dAStore ?_) | (with_reducible refine dACmp ?_) | (with_reducible refine dATru ?_) | (with_reducible refine dASub ?_) | (with_reducible refine dSplNil ?_))
  exact retB (s := s) hret (by k_asm) (by assumption) (tag_fin (by assumption) (by assumption) (by assumption))
end
section
variable {w : World} {p : Program} {loose : List Str} {mean : ExcName → Option Value} {mg mb : Str → Option Value}
theorem cutTo {P : Array UInt8} {ks bs tg : List Int} (h : KBw.bInts P = List.take (clipAt ks.length ((ks.length : Int) - 16)) ks) (hk : ks = bs ++ tg) (lk : ks.length = bs.length + 16) : KBw.bInts P = bs := by
  rw [h, PyProof.Rows.clipAt_in (by omega) (by omega), show ((ks.length : Int) - 16).toNat = bs.length from by omega, hk, List.take_left]
theorem cutFrom {P : Array UInt8} {ks bs tg : List Int} (h : KBw.bInts P = List.take (ks.length - clipAt ks.length ((ks.length : Int) - 16)) (List.drop (clipAt ks.length ((ks.length : Int) - 16)) ks)) (hk : ks = bs ++ tg) (lk : ks.length = bs.length + 16) : KBw.bInts P = tg := by
  rw [h, PyProof.Rows.clipAt_in (by omega) (by omega), show ((ks.length : Int) - 16).toNat = bs.length from by omega, List.take_of_length_le (by rw [List.length_drop]; exact Nat.le_refl _), hk, List.drop_left]
theorem bInts_inj {a b : Array UInt8} (h : KBw.bInts a = KBw.bInts b) : a = b := by
  have key : ∀ (x y : List UInt8), x.map (fun c => (c.toNat : Int)) = y.map (fun c => (c.toNat : Int)) → x = y := by
    intro x
    induction x with
    | nil => intro y e; cases y with | nil => rfl | cons c r => cases e
    | cons c r ih =>
      intro y e
      cases y with
      | nil => cases e
      | cons d q =>
        rw [List.map_cons, List.map_cons] at e
        injection e with e1 e2
        have e3 : c.toNat = d.toNat := by omega
        rw [ih q e2, UInt8.toNat_inj.mp e3]
  exact Array.ext' (key a.toList b.toList h)
theorem same_bytes {a b : Array UInt8} (h : KBw.bInts a = KBw.bInts b) : ¬ (a.toList != b.toList) = true := by
  rw [bInts_inj h]; simp
theorem tag_len (kk : List Int) (n : Int) (hs bs : List Int) : (tagL kk n hs bs).length = 16 := be_len _ _
noncomputable def sealL (kk : List Int) (n : Int) (hs ps : List Int) : List Int := turned kk n ps ++ tagL kk n hs (turned kk n ps)
theorem seal_fin {kk hs ps zs tg : List Int} {i : Int} (e1 : zs = turned kk i ps) (q : tg = tagL kk i hs zs) : zs ++ tg = sealL kk i hs ps := by subst e1; subst q; rfl
theorem turned_len (kk : List Int) (n : Int) (ps : List Int) : (turned kk n ps).length = ps.length := turn_len _ _
set_option maxHeartbeats 4000000 in
theorem c_seal (key h b : Array UInt8) (tk ti th tb : Tok) (i : Int) (kk hs ps : List Int) (hkk : KBw.bInts key = kk) (hh : KBw.bInts h = hs) (hb : KBw.bInts b = ps) (lh : hs.length ≤ 200) (lb : ps.length ≤ 200) :
   DCon w p loose mean mg mb 265 [.bytes key tk, .int i ti, .bytes h th, .bytes b tb] 16 100 (isB (sealL kk i hs ps)) := by
  refine dcon_of fun dp un base l s R B X T hd hu hret => ?_
  refine dEnter (binds := [(Str.ofString "key", .bytes key tk), (Str.ofString "number", .int i ti), (Str.ofString "head", .bytes h th), (Str.ofString "payload", .bytes b tb)]) X T (by k_is) (by k_is) (by ktr_room) (BindsTo.of_eq rfl) (locs rfl) (fun L' h₁' F' N' => ?_) rfl rfl rfl (by decide)
  (dsimp only [List.reverse, List.reverseAux, bmap] at F')
  (try dsimp only)
  refine dExecs (dAny ?_)
  (try k_fold)
  repeat' (first | (k_unfold; (try dsimp only)) | (k_end; wrow_close) | (k_here; (with_reducible show wpAny _ _ (call (Value.ref 251) _) _ _ _); k_dflt (refine useL (c_turned _ _ _ _ _ _ _ _ (by kba_ints2) (by first | exact cutTo (by assumption) (by assumption) (by assumption) | kba_ints2) (by omega)) (turned_len _ _ _) (by k_asm) (by k_asm) (by k_asm) (by k_asm) (by k_asm) (by exact rfl) (by exact rfl) (by exact rfl) (by ktr_room) (by ktr_units) ?_); intro Y9 t9 h9 tk9 zs9 e9 q9 l9 F9 N9; (try simp only [Int.reduceToNat] at q9 l9); tb_rel) | walk1 | (dsimp only; first | (k_here; (with_reducible show wpAny _ _ (call (Value.ref 251) _) _ _ _); k_dflt (refine useL (c_turned _ _ _ _ _ _ _ _ (by kba_ints2) (by first | exact cutTo (by assumption) (by assumption) (by assumption) | kba_ints2) (by omega)) (turned_len _ _ _) (by k_asm) (by k_asm) (by k_asm) (by k_asm) (by k_asm) (by exact rfl) (by exact rfl) (by exact rfl) (by ktr_room) (by ktr_units) ?_); intro Y9 t9 h9 tk9 zs9 e9 q9 l9 F9 N9; (try simp only [Int.reduceToNat] at q9 l9); tb_rel) | walk1) | (leave1; try dsimp only) | (with_reducible refine dABin ?_) | (with_reducible refine dAName ?_) | (with_reducible refine dAStore ?_) | (with_reducible refine dACmp ?_) | (with_reducible refine dATru ?_) | (with_reducible refine dASub ?_) | (with_reducible refine dSplNil ?_))
  refine dExecs (dReturn (dBinOp (dAny ?_)))
  repeat' (first | (k_unfold; (try dsimp only)) | (k_end; wrow_close) | (k_here; (with_reducible show wpAny _ _ (call (Value.ref 251) _) _ _ _); k_dflt (refine useL (c_turned _ _ _ _ _ _ _ _ (by kba_ints2) (by first | exact cutTo (by assumption) (by assumption) (by assumption) | kba_ints2) (by omega)) (turned_len _ _ _) (by k_asm) (by k_asm) (by k_asm) (by k_asm) (by k_asm) (by exact rfl) (by exact rfl) (by exact rfl) (by ktr_room) (by ktr_units) ?_); intro Y9 t9 h9 tk9 zs9 e9 q9 l9 F9 N9; (try simp only [Int.reduceToNat] at q9 l9); tb_rel) | walk1 | (dsimp only; first | (k_here; (with_reducible show wpAny _ _ (call (Value.ref 251) _) _ _ _); k_dflt (refine useL (c_turned _ _ _ _ _ _ _ _ (by kba_ints2) (by first | exact cutTo (by assumption) (by assumption) (by assumption) | kba_ints2) (by omega)) (turned_len _ _ _) (by k_asm) (by k_asm) (by k_asm) (by k_asm) (by k_asm) (by exact rfl) (by exact rfl) (by exact rfl) (by ktr_room) (by ktr_units) ?_); intro Y9 t9 h9 tk9 zs9 e9 q9 l9 F9 N9; (try simp only [Int.reduceToNat] at q9 l9); tb_rel) | walk1) | (leave1; try dsimp only) | (with_reducible refine dABin ?_) | (with_reducible refine dAName ?_) | (with_reducible refine dAStore ?_) | (with_reducible refine dACmp ?_) | (with_reducible refine dATru ?_) | (with_reducible refine dASub ?_) | (with_reducible refine dSplNil ?_))
  refine dCallName ?_
  repeat' (first | (k_unfold; (try dsimp only)) | (k_end; wrow_close) | (k_here; (with_reducible show wpAny _ _ (call (Value.ref 251) _) _ _ _); k_dflt (refine useL (c_turned _ _ _ _ _ _ _ _ (by kba_ints2) (by first | exact cutTo (by assumption) (by assumption) (by assumption) | kba_ints2) (by omega)) (turned_len _ _ _) (by k_asm) (by k_asm) (by k_asm) (by k_asm) (by k_asm) (by exact rfl) (by exact rfl) (by exact rfl) (by ktr_room) (by ktr_units) ?_); intro Y9 t9 h9 tk9 zs9 e9 q9 l9 F9 N9; (try simp only [Int.reduceToNat] at q9 l9); tb_rel) | walk1 | (dsimp only; first | (k_here; (with_reducible show wpAny _ _ (call (Value.ref 251) _) _ _ _); k_dflt (refine useL (c_turned _ _ _ _ _ _ _ _ (by kba_ints2) (by first | exact cutTo (by assumption) (by assumption) (by assumption) | kba_ints2) (by omega)) (turned_len _ _ _) (by k_asm) (by k_asm) (by k_asm) (by k_asm) (by k_asm) (by exact rfl) (by exact rfl) (by exact rfl) (by ktr_room) (by ktr_units) ?_); intro Y9 t9 h9 tk9 zs9 e9 q9 l9 F9 N9; (try simp only [Int.reduceToNat] at q9 l9); tb_rel) | walk1) | (leave1; try dsimp only) | (with_reducible refine dABin ?_) | (with_reducible refine dAName ?_) | (with_reducible refine dAStore ?_) | (with_reducible refine dACmp ?_) | (with_reducible refine dATru ?_) | (with_reducible refine dASub ?_) | (with_reducible refine dSplNil ?_))
  refine dCallWith (K := Mine.hd.heap_39 w.params) (by kernel_rfl) (dAny ?_)
  (try k_fold)
  repeat' (first | (k_unfold; (try dsimp only)) | (k_end; wrow_close) | (k_here; (with_reducible show wpAny _ _ (call (Value.ref 251) _) _ _ _); k_dflt (refine useL (c_turned _ _ _ _ _ _ _ _ (by kba_ints2) (by first | exact cutTo (by assumption) (by assumption) (by assumption) | kba_ints2) (by omega)) (turned_len _ _ _) (by k_asm) (by k_asm) (by k_asm) (by k_asm) (by k_asm) (by exact rfl) (by exact rfl) (by exact rfl) (by ktr_room) (by ktr_units) ?_); intro Y9 t9 h9 tk9 zs9 e9 q9 l9 F9 N9; (try simp only [Int.reduceToNat] at q9 l9); tb_rel) | walk1 | (dsimp only; first | (k_here; (with_reducible show wpAny _ _ (call (Value.ref 251) _) _ _ _); k_dflt (refine useL (c_turned _ _ _ _ _ _ _ _ (by kba_ints2) (by first | exact cutTo (by assumption) (by assumption) (by assumption) | kba_ints2) (by omega)) (turned_len _ _ _) (by k_asm) (by k_asm) (by k_asm) (by k_asm) (by k_asm) (by exact rfl) (by exact rfl) (by exact rfl) (by ktr_room) (by ktr_units) ?_); intro Y9 t9 h9 tk9 zs9 e9 q9 l9 F9 N9; (try simp only [Int.reduceToNat] at q9 l9); tb_rel) | walk1) | (leave1; try dsimp only) | fail "no step")
  (try dsimp only)
  refine dUseL (c_tag _ _ _ _ _ _ _ _ _ _ _ (by kba_ints2) (by kba_ints2) (by kba_ints2) (by omega) (by omega)) (tag_len _ _ _ _) (by k_asm) (by k_asm) (by k_asm) (by k_asm) (by k_asm) (by exact rfl) (by exact rfl) (by exact rfl) (by exact rfl) (by ktr_room) (by ktr_units) ?_
  intro Y9 t9 h9 tk9 zs9 e9 q9 l9 F9 N9
  (try simp only [Int.reduceToNat] at q9 l9)
  tb_rel
  repeat' (first | (k_unfold; (try dsimp only)) | (k_end; wrow_close) | (k_here; (with_reducible show wpAny _ _ (call (Value.ref 251) _) _ _ _); k_dflt (refine useL (c_turned _ _ _ _ _ _ _ _ (by kba_ints2) (by first | exact cutTo (by assumption) (by assumption) (by assumption) | kba_ints2) (by omega)) (turned_len _ _ _) (by k_asm) (by k_asm) (by k_asm) (by k_asm) (by k_asm) (by exact rfl) (by exact rfl) (by exact rfl) (by ktr_room) (by ktr_units) ?_); intro Y9 t9 h9 tk9 zs9 e9 q9 l9 F9 N9; (try simp only [Int.reduceToNat] at q9 l9); tb_rel) | walk1 | (dsimp only; first | (k_here; (with_reducible show wpAny _ _ (call (Value.ref 251) _) _ _ _); k_dflt (refine useL (c_turned _ _ _ _ _ _ _ _ (by kba_ints2) (by first | exact cutTo (by assumption) (by assumption) (by assumption) | kba_ints2) (by omega)) (turned_len _ _ _) (by k_asm) (by k_asm) (by k_asm) (by k_asm) (by k_asm) (by exact rfl) (by exact rfl) (by exact rfl) (by ktr_room) (by ktr_units) ?_); intro Y9 t9 h9 tk9 zs9 e9 q9 l9 F9 N9; (try simp only [Int.reduceToNat] at q9 l9); tb_rel) | walk1) | (leave1; try dsimp only) | (with_reducible refine dABin ?_) | (with_reducible refine dAName ?_) | (with_reducible refine dAStore ?_) | (with_reducible refine dACmp ?_) | (with_reducible refine dATru ?_) | (with_reducible refine dASub ?_) | (with_reducible refine dSplNil ?_))
  refine retB (s := s) hret (by k_asm) (by assumption) ?_
  exact seal_fin (by assumption) (by assumption)
set_option maxHeartbeats 4000000 in
theorem c_open (key h b : Array UInt8) (tk ti th tb : Tok) (i : Int) (kk hs bs ks : List Int) (hkk : KBw.bInts key = kk) (hh : KBw.bInts h = hs) (hb : KBw.bInts b = ks) (hk : ks = bs ++ tagL kk i hs bs) (lh : hs.length ≤ 200) (lb : bs.length ≤ 200) :
   DCon w p loose mean mg mb 272 [.bytes key tk, .int i ti, .bytes h th, .bytes b tb] 16 100 (isB (turned kk i bs)) := by
  have lk : ks.length = bs.length + 16 := by rw [hk, List.length_append, tag_len]
  refine dcon_of fun dp un base l s R B X T hd hu hret => ?_
  refine dEnter (binds := [(Str.ofString "key", .bytes key tk), (Str.ofString "number", .int i ti), (Str.ofString "head", .bytes h th), (Str.ofString "sealed", .bytes b tb)]) X T (by k_is) (by k_is) (by ktr_room) (BindsTo.of_eq rfl) (locs rfl) (fun L' h₁' F' N' => ?_) rfl rfl rfl (by decide)
  (dsimp only [List.reverse, List.reverseAux, bmap] at F')
  (try dsimp only)
  refine dExecs (dAny ?_)
  (try k_fold)
  repeat' (first | (k_unfold; (try dsimp only)) | (k_end; wrow_close) | (k_here; (with_reducible show wpAny _ _ (call (Value.ref 251) _) _ _ _); k_dflt (refine useL (c_turned _ _ _ _ _ _ _ _ (by kba_ints2) (by first | exact cutTo (by assumption) (by assumption) (by assumption) | kba_ints2) (by omega)) (turned_len _ _ _) (by k_asm) (by k_asm) (by k_asm) (by k_asm) (by k_asm) (by exact rfl) (by exact rfl) (by exact rfl) (by ktr_room) (by ktr_units) ?_); intro Y9 t9 h9 tk9 zs9 e9 q9 l9 F9 N9; (try simp only [Int.reduceToNat] at q9 l9); tb_rel) | walk1 | (dsimp only; first | (k_here; (with_reducible show wpAny _ _ (call (Value.ref 251) _) _ _ _); k_dflt (refine useL (c_turned _ _ _ _ _ _ _ _ (by kba_ints2) (by first | exact cutTo (by assumption) (by assumption) (by assumption) | kba_ints2) (by omega)) (turned_len _ _ _) (by k_asm) (by k_asm) (by k_asm) (by k_asm) (by k_asm) (by exact rfl) (by exact rfl) (by exact rfl) (by ktr_room) (by ktr_units) ?_); intro Y9 t9 h9 tk9 zs9 e9 q9 l9 F9 N9; (try simp only [Int.reduceToNat] at q9 l9); tb_rel) | walk1) | (leave1; try dsimp only) | (with_reducible refine dABin ?_) | (with_reducible refine dAName ?_) | (with_reducible refine dAStore ?_) | (with_reducible refine dACmp ?_) | (with_reducible refine dATru ?_) | (with_reducible refine dASub ?_) | (with_reducible refine dSplNil ?_))
  refine dExecs (dAny ?_)
  repeat' (first | (k_unfold; (try dsimp only)) | (k_end; wrow_close) | (k_here; (with_reducible show wpAny _ _ (call (Value.ref 251) _) _ _ _); k_dflt (refine useL (c_turned _ _ _ _ _ _ _ _ (by kba_ints2) (by first | exact cutTo (by assumption) (by assumption) (by assumption) | kba_ints2) (by omega)) (turned_len _ _ _) (by k_asm) (by k_asm) (by k_asm) (by k_asm) (by k_asm) (by exact rfl) (by exact rfl) (by exact rfl) (by ktr_room) (by ktr_units) ?_); intro Y9 t9 h9 tk9 zs9 e9 q9 l9 F9 N9; (try simp only [Int.reduceToNat] at q9 l9); tb_rel) | walk1 | (dsimp only; first | (k_here; (with_reducible show wpAny _ _ (call (Value.ref 251) _) _ _ _); k_dflt (refine useL (c_turned _ _ _ _ _ _ _ _ (by kba_ints2) (by first | exact cutTo (by assumption) (by assumption) (by assumption) | kba_ints2) (by omega)) (turned_len _ _ _) (by k_asm) (by k_asm) (by k_asm) (by k_asm) (by k_asm) (by exact rfl) (by exact rfl) (by exact rfl) (by ktr_room) (by ktr_units) ?_); intro Y9 t9 h9 tk9 zs9 e9 q9 l9 F9 N9; (try simp only [Int.reduceToNat] at q9 l9); tb_rel) | walk1) | (leave1; try dsimp only) | (with_reducible refine dABin ?_) | (with_reducible refine dAName ?_) | (with_reducible refine dAStore ?_) | (with_reducible refine dACmp ?_) | (with_reducible refine dATru ?_) | (with_reducible refine dASub ?_) | (with_reducible refine dSplNil ?_))
  refine dExecs (dIf (dTest1 (dCallName ?_)))
  repeat' (first | (k_unfold; (try dsimp only)) | (k_end; wrow_close) | (k_here; (with_reducible show wpAny _ _ (call (Value.ref 251) _) _ _ _); k_dflt (refine useL (c_turned _ _ _ _ _ _ _ _ (by kba_ints2) (by first | exact cutTo (by assumption) (by assumption) (by assumption) | kba_ints2) (by omega)) (turned_len _ _ _) (by k_asm) (by k_asm) (by k_asm) (by k_asm) (by k_asm) (by exact rfl) (by exact rfl) (by exact rfl) (by ktr_room) (by ktr_units) ?_); intro Y9 t9 h9 tk9 zs9 e9 q9 l9 F9 N9; (try simp only [Int.reduceToNat] at q9 l9); tb_rel) | walk1 | (dsimp only; first | (k_here; (with_reducible show wpAny _ _ (call (Value.ref 251) _) _ _ _); k_dflt (refine useL (c_turned _ _ _ _ _ _ _ _ (by kba_ints2) (by first | exact cutTo (by assumption) (by assumption) (by assumption) | kba_ints2) (by omega)) (turned_len _ _ _) (by k_asm) (by k_asm) (by k_asm) (by k_asm) (by k_asm) (by exact rfl) (by exact rfl) (by exact rfl) (by ktr_room) (by ktr_units) ?_); intro Y9 t9 h9 tk9 zs9 e9 q9 l9 F9 N9; (try simp only [Int.reduceToNat] at q9 l9); tb_rel) | walk1) | (leave1; try dsimp only) | (with_reducible refine dABin ?_) | (with_reducible refine dAName ?_) | (with_reducible refine dAStore ?_) | (with_reducible refine dACmp ?_) | (with_reducible refine dATru ?_) | (with_reducible refine dASub ?_) | (with_reducible refine dSplNil ?_))
  refine dCallWith (K := Mine.hd.heap_39 w.params) (by kernel_rfl) (dAny ?_)
  (try k_fold)
  repeat' (first | (k_unfold; (try dsimp only)) | (k_end; wrow_close) | (k_here; (with_reducible show wpAny _ _ (call (Value.ref 251) _) _ _ _); k_dflt (refine useL (c_turned _ _ _ _ _ _ _ _ (by kba_ints2) (by first | exact cutTo (by assumption) (by assumption) (by assumption) | kba_ints2) (by omega)) (turned_len _ _ _) (by k_asm) (by k_asm) (by k_asm) (by k_asm) (by k_asm) (by exact rfl) (by exact rfl) (by exact rfl) (by ktr_room) (by ktr_units) ?_); intro Y9 t9 h9 tk9 zs9 e9 q9 l9 F9 N9; (try simp only [Int.reduceToNat] at q9 l9); tb_rel) | walk1 | (dsimp only; first | (k_here; (with_reducible show wpAny _ _ (call (Value.ref 251) _) _ _ _); k_dflt (refine useL (c_turned _ _ _ _ _ _ _ _ (by kba_ints2) (by first | exact cutTo (by assumption) (by assumption) (by assumption) | kba_ints2) (by omega)) (turned_len _ _ _) (by k_asm) (by k_asm) (by k_asm) (by k_asm) (by k_asm) (by exact rfl) (by exact rfl) (by exact rfl) (by ktr_room) (by ktr_units) ?_); intro Y9 t9 h9 tk9 zs9 e9 q9 l9 F9 N9; (try simp only [Int.reduceToNat] at q9 l9); tb_rel) | walk1) | (leave1; try dsimp only) | fail "no step")
  (try dsimp only)
  refine dUseL (c_tag _ _ _ _ _ _ _ _ _ _ bs (by kba_ints2) (by kba_ints2) (cutTo (by assumption) hk lk) (by omega) (by omega)) (tag_len _ _ _ _) (by k_asm) (by k_asm) (by k_asm) (by k_asm) (by k_asm) (by exact rfl) (by exact rfl) (by exact rfl) (by exact rfl) (by ktr_room) (by ktr_units) ?_
  intro Y9 t9 h9 tk9 zs9 e9 q9 l9 F9 N9
  (try simp only [Int.reduceToNat] at q9 l9)
  tb_rel
  repeat' (first | (k_unfold; (try dsimp only)) | (k_end; wrow_close) | (k_here; (with_reducible show wpAny _ _ (call (Value.ref 251) _) _ _ _); k_dflt (refine useL (c_turned _ _ _ _ _ _ _ _ (by kba_ints2) (by first | exact cutTo (by assumption) (by assumption) (by assumption) | kba_ints2) (by omega)) (turned_len _ _ _) (by k_asm) (by k_asm) (by k_asm) (by k_asm) (by k_asm) (by exact rfl) (by exact rfl) (by exact rfl) (by ktr_room) (by ktr_units) ?_); intro Y9 t9 h9 tk9 zs9 e9 q9 l9 F9 N9; (try simp only [Int.reduceToNat] at q9 l9); tb_rel) | walk1 | (dsimp only; first | (k_here; (with_reducible show wpAny _ _ (call (Value.ref 251) _) _ _ _); k_dflt (refine useL (c_turned _ _ _ _ _ _ _ _ (by kba_ints2) (by first | exact cutTo (by assumption) (by assumption) (by assumption) | kba_ints2) (by omega)) (turned_len _ _ _) (by k_asm) (by k_asm) (by k_asm) (by k_asm) (by k_asm) (by exact rfl) (by exact rfl) (by exact rfl) (by ktr_room) (by ktr_units) ?_); intro Y9 t9 h9 tk9 zs9 e9 q9 l9 F9 N9; (try simp only [Int.reduceToNat] at q9 l9); tb_rel) | walk1) | (leave1; try dsimp only) | (with_reducible refine dABin ?_) | (with_reducible refine dAName ?_) | (with_reducible refine dAStore ?_) | (with_reducible refine dACmp ?_) | (with_reducible refine dATru ?_) | (with_reducible refine dASub ?_) | (with_reducible refine dSplNil ?_))
  · refine absurd ‹(_ != _) = true› (same_bytes ?_)
    rw [e9, q9, cutFrom (by assumption) hk lk]
  · refine dAny ?_
    repeat' (first | (k_unfold; (try dsimp only)) | (k_end; wrow_close) | (k_here; (with_reducible show wpAny _ _ (call (Value.ref 251) _) _ _ _); k_dflt (refine useL (c_turned _ _ _ _ _ _ _ _ (by kba_ints2) (by first | exact cutTo (by assumption) (by assumption) (by assumption) | kba_ints2) (by omega)) (turned_len _ _ _) (by k_asm) (by k_asm) (by k_asm) (by k_asm) (by k_asm) (by exact rfl) (by exact rfl) (by exact rfl) (by ktr_room) (by ktr_units) ?_); intro Y9 t9 h9 tk9 zs9 e9 q9 l9 F9 N9; (try simp only [Int.reduceToNat] at q9 l9); tb_rel) | walk1 | (dsimp only; first | (k_here; (with_reducible show wpAny _ _ (call (Value.ref 251) _) _ _ _); k_dflt (refine useL (c_turned _ _ _ _ _ _ _ _ (by kba_ints2) (by first | exact cutTo (by assumption) (by assumption) (by assumption) | kba_ints2) (by omega)) (turned_len _ _ _) (by k_asm) (by k_asm) (by k_asm) (by k_asm) (by k_asm) (by exact rfl) (by exact rfl) (by exact rfl) (by ktr_room) (by ktr_units) ?_); intro Y9 t9 h9 tk9 zs9 e9 q9 l9 F9 N9; (try simp only [Int.reduceToNat] at q9 l9); tb_rel) | walk1) | (leave1; try dsimp only) | (with_reducible refine dABin ?_) | (with_reducible refine dAName ?_) | (with_reducible refine dAStore ?_) | (with_reducible refine dACmp ?_) | (with_reducible refine dATru ?_) | (with_reducible refine dASub ?_) | (with_reducible refine dSplNil ?_))
    refine dAny ?_
    (try k_fold)
    repeat' (first | (k_unfold; (try dsimp only)) | (k_end; wrow_close) | (k_here; (with_reducible show wpAny _ _ (call (Value.ref 251) _) _ _ _); k_dflt (refine useL (c_turned _ _ _ _ _ _ _ _ (by kba_ints2) (by first | exact cutTo (by assumption) (by assumption) (by assumption) | kba_ints2) (by omega)) (turned_len _ _ _) (by k_asm) (by k_asm) (by k_asm) (by k_asm) (by k_asm) (by exact rfl) (by exact rfl) (by exact rfl) (by ktr_room) (by ktr_units) ?_); intro Y9 t9 h9 tk9 zs9 e9 q9 l9 F9 N9; (try simp only [Int.reduceToNat] at q9 l9); tb_rel) | walk1 | (dsimp only; first | (k_here; (with_reducible show wpAny _ _ (call (Value.ref 251) _) _ _ _); k_dflt (refine useL (c_turned _ _ _ _ _ _ _ _ (by kba_ints2) (by first | exact cutTo (by assumption) (by assumption) (by assumption) | kba_ints2) (by omega)) (turned_len _ _ _) (by k_asm) (by k_asm) (by k_asm) (by k_asm) (by k_asm) (by exact rfl) (by exact rfl) (by exact rfl) (by ktr_room) (by ktr_units) ?_); intro Y9 t9 h9 tk9 zs9 e9 q9 l9 F9 N9; (try simp only [Int.reduceToNat] at q9 l9); tb_rel) | walk1) | (leave1; try dsimp only) | (with_reducible refine dABin ?_) | (with_reducible refine dAName ?_) | (with_reducible refine dAStore ?_) | (with_reducible refine dACmp ?_) | (with_reducible refine dATru ?_) | (with_reducible refine dASub ?_) | (with_reducible refine dSplNil ?_))
    exact retB (s := s) hret (by k_asm) (by assumption) (by first | assumption | rfl)
end
section
variable {w : World} {p : Program} {loose : List Str} {mean : ExcName → Option Value} {mg mb : Str → Option Value}
theorem news_ne {h₀ h : Heap} {L e : Addr} {news : List (Addr × Obj)} (N : News h₀ L h news) (hs : h.objs.size ≤ e) : ∀ p ∈ news, p.1 ≠ e := fun p hp => Nat.ne_of_lt (Nat.lt_of_lt_of_le (Heap.lt_size (N p hp).1) hs)
theorem fresh_at {h₀ h : Heap} {L e : Addr} {m : Str → Option Value} (F : Fr h₀ L h m) (hs : h.objs.size ≤ e) : h₀.get? e = none ∧ e ≠ L := by
  refine ⟨?_, fun q => ?_⟩
  · cases z : h₀.get? e with
    | none => rfl
    | some o => exact absurd (Heap.lt_size (F.keep _ _ z)) (Nat.not_lt.mpr hs)
  · subst q; exact absurd F.ns.lt (Nat.not_lt.mpr hs)
theorem enumB {prog : Program} {w : World} {A : Around} {E : Value → Shared → Prop} {s : Shared} {b : Array UInt8} {t : Tok} {Q : Value → Shared → Prop} {h₀ : Heap} {L : Addr} {m : Str → Option Value} {news : List (Addr × Obj)} (F : Fr h₀ L s.heap m) (N : News h₀ L s.heap news)
    (k : ∀ e it h', IsEnum h' e it 0 .none → KBw.IsBytesIter h' it b t 0 → (e ≠ it ∧ h₀.get? e = none ∧ h₀.get? it = none ∧ e ≠ L ∧ it ≠ L) → (∀ p ∈ news, p.1 ≠ e ∧ p.1 ≠ it) → Fr h₀ L h' m → News h₀ L h' news → Q (.ref e) { s with heap := h' }) :
    wpAny (model prog w) A (call (.type "enumerate") [.bytes b t]) Q E s :=
  call_enum_bytes fun h' en it sz kp => k _ _ h' en it ⟨Nat.succ_ne_self _, (fresh_at F (Nat.le_succ _)).1, (fresh_at F (Nat.le_refl _)).1, (fresh_at F (Nat.le_succ _)).2, (fresh_at F (Nat.le_refl _)).2⟩ (fun p hp => ⟨news_ne N (Nat.le_succ _) p hp, news_ne N (Nat.le_refl _) p hp⟩) (Fr.keeps F kp) (N.grown kp)
noncomputable def xorGo (cs ms : List Int) (i : Nat) : Int := Builtin.bitXor (cs.getD i 0) (ms.getD (i + 1) 0)
theorem xor_zip : ∀ (cs ms : List Int), cs.length ≤ ms.length → (List.range cs.length).map (fun i => Builtin.bitXor (cs.getD i 0) (ms.getD i 0)) = List.zipWith Builtin.bitXor cs ms
  | [], _, _ => rfl
  | c :: cs, [], h => by simp at h
  | c :: cs, m :: ms, h => by
    rw [List.length_cons, List.range_succ_eq_map, List.map_cons, List.map_map, List.zipWith_cons_cons, ← xor_zip cs ms (by simpa using h)]
    rfl
theorem xor_map {cs ms : List Int} (lc : cs.length ≤ 4) (lm : ms.length = 5) : (List.range cs.length).map (xorGo cs ms) = List.zipWith Builtin.bitXor cs (ms.drop 1) := by
  rw [← xor_zip cs (ms.drop 1) (by rw [List.length_drop]; omega)]
  refine List.map_congr_left fun i hi => ?_
  unfold xorGo
  congr 1
  simp [List.getD_eq_getElem?_getD, Nat.add_comm]
theorem bInts_in' {b : Array UInt8} {ks : List Int} (hk : KBw.bInts b = ks) : ∀ n ∈ ks, 0 ≤ n ∧ n < 256 := by subst hk; exact fun n hn => KBw.ints_in hn
theorem xor_zip_in {cs ms : List Int} (hc : ∀ n ∈ cs, 0 ≤ n ∧ n < 256) (hm : ∀ n ∈ ms, 0 ≤ n ∧ n < 256) : KBa.In (List.zipWith Builtin.bitXor cs ms) := by
  intro n hn
  obtain ⟨i, hi, rfl⟩ := List.mem_iff_getElem.mp hn
  rw [List.getElem_zipWith]
  exact xor_byte (hc _ (List.getElem_mem _)) (hm _ (List.getElem_mem _))
set_option maxHeartbeats 4000000 in
theorem c_tnum (b m : Array UInt8) (tb tm : Tok) (cs ms : List Int) (hb : KBw.bInts b = cs) (hm : KBw.bInts m = ms) (lc : cs.length ≤ 4) (lm : ms.length = 5) :
   Con w p loose mean mg mb 291 [.bytes b tb, .bytes m tm] 8 60 (isB (List.zipWith Builtin.bitXor cs (ms.drop 1))) := by
  refine con_of fun dp un gd base l s R B X T hd hu hret => ?_
  refine enterC (binds := [(Str.ofString "octets", .bytes b tb), (Str.ofString "mask", .bytes m tm)]) X T (by k_is) (by k_is) (by ktr_room) (BindsTo.of_eq rfl) rfl (by decide +kernel) (fun L' h₁' tk' cells' F' N' Y' => ?_) rfl rfl rfl
  k_cells Y'
  (try simp only [List.cons_append, List.nil_append] at N')
  (try dsimp only)
  (try k_fold)
  repeat' (first | ((fail_if_success (with_reducible show wpAny _ _ (eval (PySem.Expr.ListComp _ _ _ _) _) _ _ _)); first | (k_unfold; (try dsimp only)) | (k_end; wrow_close) | (k_here; (with_reducible show wpAny _ _ (call (Value.type _) _) _ _ _); (with_reducible show wpAny _ _ (call (Value.type _) [Value.bytes _ _]) _ _ _); k_dflt (refine enumB (by k_asm) (by k_asm) ?_); intro e9 i9 h9 en9 it9 ne9 no9 F9 N9; tb_rel) | walk1 | (dsimp only; first | (k_here; (with_reducible show wpAny _ _ (call (Value.type _) _) _ _ _); (with_reducible show wpAny _ _ (call (Value.type _) [Value.bytes _ _]) _ _ _); k_dflt (refine enumB (by k_asm) (by k_asm) ?_); intro e9 i9 h9 en9 it9 ne9 no9 F9 N9; tb_rel) | walk1)))
  refine comp_enum (f := xorGo cs ms) (_F₀ := by k_asm) (by exact rfl) (by with_unfolding_all rfl) (by decide) (by rfl) (by decide) (by rfl) (by rfl) (by decide) ?_
  repeat' (first | ((fail_if_success (with_reducible show Exists _)); first | (k_unfold; (try dsimp only)) | (k_end; wrow_close) | (k_here; (with_reducible show wpAny _ _ (call (Value.type _) _) _ _ _); (with_reducible show wpAny _ _ (call (Value.type _) [Value.bytes _ _]) _ _ _); k_dflt (refine enumB (by k_asm) (by k_asm) ?_); intro e9 i9 h9 en9 it9 ne9 no9 F9 N9; tb_rel) | walk1 | (dsimp only; first | (k_here; (with_reducible show wpAny _ _ (call (Value.type _) _) _ _ _); (with_reducible show wpAny _ _ (call (Value.type _) [Value.bytes _ _]) _ _ _); k_dflt (refine enumB (by k_asm) (by k_asm) ?_); intro e9 i9 h9 en9 it9 ne9 no9 F9 N9; tb_rel) | walk1)))
  rename IsEnum _ _ _ _ _ => en9
  rename KBw.IsBytesIter _ _ _ _ _ => it9
  rename _ ∧ _ ∧ _ ∧ _ ∧ _ => ne9
  refine ⟨_, _, b, tb, _, rfl, en9, it9, ne9.1, ne9.2.1, ne9.2.2.1, ne9.2.2.2.1, ne9.2.2.2.2, by assumption, by assumption, by assumption, by rw [sz_bInts hb, sizeLine_eq]; omega, ?_, ?_⟩
  · intro i c t1 t2 C oC m2 h tk E' hbc hC hx1 hx2 F N
    have hi : i < cs.length := by rw [← sz_bInts hb]; exact (Array.getElem?_eq_some_iff.mp hbc).1
    have hcv : (c.toNat : Int) = cs.getD i 0 := by
      subst hb
      unfold KBw.bInts
      rw [List.getD_eq_getElem?_getD, List.getElem?_map, Array.getElem?_toList, hbc]; rfl
    clear F' N'
    (try k_fold)
    repeat' (first | ((fail_if_success (with_reducible show Exists _)); first | (k_unfold; (try dsimp only)) | (k_end; wrow_close) | (k_here; (with_reducible show wpAny _ _ (call (Value.type _) _) _ _ _); (with_reducible show wpAny _ _ (call (Value.type _) [Value.bytes _ _]) _ _ _); k_dflt (refine enumB (by k_asm) (by k_asm) ?_); intro e9 i9 h9 en9 it9 ne9 no9 F9 N9; tb_rel) | walk1 | (dsimp only; first | (k_here; (with_reducible show wpAny _ _ (call (Value.type _) _) _ _ _); (with_reducible show wpAny _ _ (call (Value.type _) [Value.bytes _ _]) _ _ _); k_dflt (refine enumB (by k_asm) (by k_asm) ?_); intro e9 i9 h9 en9 it9 ne9 no9 F9 N9; tb_rel) | walk1)))
    refine ⟨_, _, congrArg (Value.int · _) ?_, rfl⟩
    rw [hcv, show (1 + (i : Int)).toNat = i + 1 from by omega]; rfl
  · intro D vs h tk F N hv
    have hin : KBa.In ((List.range b.size).map (xorGo cs ms)) := by
      rw [sz_bInts hb, xor_map lc lm]
      exact xor_zip_in (bInts_in' hb) fun n hn => bInts_in' hm n (List.mem_of_mem_drop hn)
    have hle : ((List.range b.size).map (xorGo cs ms)).length ≤ 1000 := by rw [List.length_map, List.length_range, sz_bInts hb]; omega
    clear F' N'
    (try k_fold)
    repeat' (first | (k_unfold; (try dsimp only)) | (k_end; wrow_close) | (k_here; (with_reducible show wpAny _ _ (call (Value.type _) _) _ _ _); (with_reducible show wpAny _ _ (call (Value.type _) [Value.bytes _ _]) _ _ _); k_dflt (refine enumB (by k_asm) (by k_asm) ?_); intro e9 i9 h9 en9 it9 ne9 no9 F9 N9; tb_rel) | walk1 | (dsimp only; first | (k_here; (with_reducible show wpAny _ _ (call (Value.type _) _) _ _ _); (with_reducible show wpAny _ _ (call (Value.type _) [Value.bytes _ _]) _ _ _); k_dflt (refine enumB (by k_asm) (by k_asm) ?_); intro e9 i9 h9 en9 it9 ne9 no9 F9 N9; tb_rel) | walk1) | (leave1; try dsimp only) | fail "no step")
    exact retB (s := s) hret (by k_asm) (KBa.ints_make (by assumption)) (by rw [sz_bInts hb, xor_map lc lm])
end
section
variable {w : World} {p : Program} {loose : List Str} {mean : ExcName → Option Value} {mg mb : Str → Option Value}
section
variable {f : Addr} {vs : List Value} {d u : Nat}
variable {A A₀ : Around} {base h₀ : Heap} {outer : List Env} {L a : Addr} {m : Str → Option Value} {cn : Str} {cs : Scope} {ccd : Value} {news : List (Addr × Obj)} {s : Shared} {Q E : Value → Shared → Prop}
theorem useIR {x : Int} (C : Con w p loose mean mg mb f vs d u (isI x)) (hx : 0 ≤ x ∧ x < 256) (B : Below A₀ base outer h₀) (F : Fr h₀ L s.heap m) (X : (hd.heap_39 w.params).In h₀) (N : News h₀ L s.heap news) (T : Top p loose mean mg mb h₀)
    (hA : A.frames = some (envOf cn cs L a ccd :: outer)) (hh : A.handled = none) (hk : cs.kind = .function) (hdp : A.depth + d < recursionLimit) (hun : A.units + u < cLine)
    (k : ∀ y t h' tk', y = x → 0 ≤ y → y < 256 → Fr h₀ L h' m → News h₀ L h' news → Q (.int y t) { s with heap := h', toks := tk' }) :
    wpAny (model PySem.Challenge.rw_no0081_01.row.prog w) A (call (.ref f) vs) Q E s :=
  useI C B F X N T hA hh hk hdp hun fun y t h' tk' e F' N' => k y t h' tk' e (by omega) (by omega) F' N'
end
section
variable {f : Addr} {vs : List Value} {d u : Nat}
variable {A A₀ : Around} {base h₀ : Heap} {outer : List Env} {L a : Addr} {m : Str → Option Value} {cn : Str} {cs : Scope} {ccd : Value} {news : List (Addr × Obj)} {s : Shared} {Q E : Value → Shared → Prop}
theorem useLE {ns : List Int} {n : Nat} (C : Con w p loose mean mg mb f vs d u (isB ns)) (hl : ns.length ≤ n) (B : Below A₀ base outer h₀) (F : Fr h₀ L s.heap m) (X : (hd.heap_39 w.params).In h₀) (N : News h₀ L s.heap news) (T : Top p loose mean mg mb h₀)
    (hA : A.frames = some (envOf cn cs L a ccd :: outer)) (hh : A.handled = none) (hk : cs.kind = .function) (hdp : A.depth + d < recursionLimit) (hun : A.units + u < cLine)
    (k : ∀ Y t h' tk' zs, KBw.bInts Y = zs → zs = ns → zs.length ≤ n → Fr h₀ L h' m → News h₀ L h' news → Q (.bytes Y t) { s with heap := h', toks := tk' }) :
    wpAny (model PySem.Challenge.rw_no0081_01.row.prog w) A (call (.ref f) vs) Q E s :=
  use C B F X N T hA hh hk hdp hun fun v h' tk' hP _ F' N' => by obtain ⟨Y, t, e, hY⟩ := hP; subst e; exact k Y t h' tk' ns hY rfl hl F' N'
end
theorem seal_len (kk : List Int) (i : Int) (hs ps : List Int) : (sealL kk i hs ps).length = ps.length + 16 := by unfold sealL; rw [List.length_append, turned_len, tag_len]
theorem hmask_len (kk ss : List Int) : (headMask kk ss).length = 5 := by unfold headMask; rw [List.length_drop, be_len]
theorem hmask_in (kk ss : List Int) : ∀ n ∈ headMask kk ss, 0 ≤ n ∧ n < 256 := fun n hn => be_in _ _ n (List.mem_of_mem_drop hn)
noncomputable def firstX (f : Int) (ms : List Int) : Int := Builtin.bitXor f (Builtin.bitAnd (ms.getD 0 0) (if f ≥ 128 then 15 else 31))
noncomputable def maskOf (kk hs cs sl : List Int) : List Int := headMask kk (((hs ++ cs ++ sl).drop (hs.length + 4)).take 16)
noncomputable def protL (kk : List Int) (i : Int) (hs cs ps : List Int) : List Int :=
  firstX (hs.getD 0 0) (maskOf kk hs cs (sealL kk i (hs ++ cs) ps)) :: (hs.drop 1 ++ List.zipWith Builtin.bitXor cs ((maskOf kk hs cs (sealL kk i (hs ++ cs) ps)).drop 1) ++ sealL kk i (hs ++ cs) ps)
theorem and_in {a b : Int} (ha : 0 ≤ a) (hb : 0 ≤ b) : 0 ≤ Builtin.bitAnd a b ∧ Builtin.bitAnd a b ≤ b := by
  unfold Builtin.bitAnd
  rw [decide_eq_true ha, decide_eq_true hb]
  show (0:Int) ≤ ((a.toNat &&& b.toNat : Nat) : Int) ∧ ((a.toNat &&& b.toNat : Nat) : Int) ≤ b
  have := Nat.and_le_right (n := a.toNat) (m := b.toNat)
  omega
theorem firstX_in {f : Int} {ms : List Int} (h0 : 0 ≤ f) (h1 : f < 256) (hm : 0 ≤ ms.getD 0 0) : 0 ≤ firstX f ms ∧ firstX f ms < 256 := by
  unfold firstX
  refine xor_byte ⟨h0, h1⟩ ?_
  split
  · have := and_in hm (show (0:Int) ≤ 15 by decide); omega
  · have := and_in hm (show (0:Int) ≤ 31 by decide); omega
theorem getD0_in {b : Array UInt8} {ms : List Int} (h : KBw.bInts b = ms) : 0 ≤ ms.getD 0 0 := (KBw.getD_in (bInts_in' h)).1
theorem zip_len {cs ms : List Int} (lc : cs.length ≤ 4) (lm : ms.length = 5) : (List.zipWith Builtin.bitXor cs (ms.drop 1)).length = cs.length := by rw [List.length_zipWith, List.length_drop]; omega
theorem prot_fin {kk hs cs ps sl ss ms zz : List Int} {i y : Int} (q1 : sl = sealL kk i (hs ++ cs) ps) (q2 : ss = List.take 16 (List.drop ((hs.length : Int) + 4).toNat (hs ++ cs ++ sl))) (q3 : ms = headMask kk ss)
    (e : y = Builtin.bitXor (hs.getD (Int.toNat 0) 0) (Builtin.bitAnd (ms.getD 0 0) (if hs.getD (Int.toNat 0) 0 ≥ 128 then 15 else 31))) (hb : ((y.toNat.toUInt8.toNat : Nat) : Int) = y) (q4 : zz = List.zipWith Builtin.bitXor cs (List.drop 1 ms)) (lh1 : 1 ≤ hs.length) :
    List.map (fun c => ((UInt8.toNat c : Nat) : Int)) [y.toNat.toUInt8] ++ List.take (hs.length - clipAt hs.length 1) (List.drop (clipAt hs.length 1) hs) ++ zz ++ sl = protL kk i hs cs ps := by
  have e1 : clipAt hs.length 1 = 1 := by rw [PyProof.Rows.clipAt_in (by decide) (by omega)]; rfl
  have e2 : ((hs.length : Int) + 4).toNat = hs.length + 4 := by omega
  rw [e2] at q2
  rw [e1, List.take_of_length_le (by rw [List.length_drop]; exact Nat.le_refl _), List.map_singleton, hb]
  have e3 : ms = maskOf kk hs cs (sealL kk i (hs ++ cs) ps) := by rw [q3, q2, q1]; rfl
  have e4 : y = firstX (hs.getD 0 0) ms := e
  rw [e4, q4, q1, e3]
  unfold protL
  simp only [List.cons_append, List.nil_append, List.append_assoc]
theorem samp_len {ks : List Int} {i : Int} (h : i + 20 ≤ ks.length) (h0 : 0 ≤ i) : ((ks.drop (i + 4).toNat).take 16).length = 16 := by rw [List.length_take, List.length_drop]; omega
set_option maxHeartbeats 4000000 in
theorem c_prot (key h c b : Array UInt8) (tk ti th tc tb : Tok) (i : Int) (kk hs cs ps : List Int) (hkk : KBw.bInts key = kk) (hh : KBw.bInts h = hs) (hc : KBw.bInts c = cs) (hb : KBw.bInts b = ps) (lh : hs.length ≤ 60) (lh1 : 1 ≤ hs.length) (lc : cs.length ≤ 4) (lb : ps.length ≤ 10) (lb1 : 4 ≤ ps.length) :
   DCon w p loose mean mg mb 305 [.bytes key tk, .int i ti, .bytes h th, .bytes c tc, .bytes b tb] 24 150 (isB (protL kk i hs cs ps)) := by
  refine dcon_of fun dp un base l s R B X T hd hu hret => ?_
  refine dEnter (binds := [(Str.ofString "key", .bytes key tk), (Str.ofString "number", .int i ti), (Str.ofString "head", .bytes h th), (Str.ofString "cut", .bytes c tc), (Str.ofString "payload", .bytes b tb)]) X T (by k_is) (by k_is) (by ktr_room) (BindsTo.of_eq rfl) (locs rfl) (fun L' h₁' F' N' => ?_) rfl rfl rfl (by decide)
  (dsimp only [List.reverse, List.reverseAux, bmap] at F')
  (try dsimp only)
  refine dExecs (dAny ?_)
  (try k_fold)
  repeat' (first | (k_unfold; (try dsimp only)) | (k_end; wrow_close) | (k_here; (with_reducible show wpAny _ _ (call (Value.ref 291) _) _ _ _); k_dflt (refine useL (c_tnum _ _ _ _ _ _ (by kba_ints2) (by kba_ints2) (by omega) (by assumption)) (zip_len (by assumption) (by assumption)) (by k_asm) (by k_asm) (by k_asm) (by k_asm) (by k_asm) (by exact rfl) (by exact rfl) (by exact rfl) (by ktr_room) (by ktr_units) ?_); intro Y9 t9 h9 tk9 zs9 e9 q9 l9 F9 N9; (try simp only [Int.reduceToNat] at q9 l9); tb_rel) | (k_here; (with_reducible show wpAny _ _ (call (Value.ref 286) _) _ _ _); k_dflt (refine useIR (c_tfirst _ _ _ _ _ (by kba_ints2) (by assumption) (by assumption) (by assumption)) (firstX_in (by assumption) (by assumption) (getD0_in (by assumption))) (by k_asm) (by k_asm) (by k_asm) (by k_asm) (by k_asm) (by exact rfl) (by exact rfl) (by exact rfl) (by ktr_room) (by ktr_units) ?_); intro y9 t9 h9 tk9 e9 lo9 hi9 F9 N9; tb_rel) | (k_here; (with_reducible show wpAny _ _ (call (Value.ref 298) _) _ _ _); k_dflt (refine useL (c_sample _ _ _ _ _ _ _ (by kba_ints2) (by kba_size) (by omega) (by kba_size) (by kba_size)) (samp_len (by kba_size) (by omega)) (by k_asm) (by k_asm) (by k_asm) (by k_asm) (by k_asm) (by exact rfl) (by exact rfl) (by exact rfl) (by ktr_room) (by ktr_units) ?_); intro Y9 t9 h9 tk9 zs9 e9 q9 l9 F9 N9; (try simp only [Int.reduceToNat] at q9 l9); tb_rel) | walk1 | (dsimp only; first | (k_here; (with_reducible show wpAny _ _ (call (Value.ref 291) _) _ _ _); k_dflt (refine useL (c_tnum _ _ _ _ _ _ (by kba_ints2) (by kba_ints2) (by omega) (by assumption)) (zip_len (by assumption) (by assumption)) (by k_asm) (by k_asm) (by k_asm) (by k_asm) (by k_asm) (by exact rfl) (by exact rfl) (by exact rfl) (by ktr_room) (by ktr_units) ?_); intro Y9 t9 h9 tk9 zs9 e9 q9 l9 F9 N9; (try simp only [Int.reduceToNat] at q9 l9); tb_rel) | (k_here; (with_reducible show wpAny _ _ (call (Value.ref 286) _) _ _ _); k_dflt (refine useIR (c_tfirst _ _ _ _ _ (by kba_ints2) (by assumption) (by assumption) (by assumption)) (firstX_in (by assumption) (by assumption) (getD0_in (by assumption))) (by k_asm) (by k_asm) (by k_asm) (by k_asm) (by k_asm) (by exact rfl) (by exact rfl) (by exact rfl) (by ktr_room) (by ktr_units) ?_); intro y9 t9 h9 tk9 e9 lo9 hi9 F9 N9; tb_rel) | (k_here; (with_reducible show wpAny _ _ (call (Value.ref 298) _) _ _ _); k_dflt (refine useL (c_sample _ _ _ _ _ _ _ (by kba_ints2) (by kba_size) (by omega) (by kba_size) (by kba_size)) (samp_len (by kba_size) (by omega)) (by k_asm) (by k_asm) (by k_asm) (by k_asm) (by k_asm) (by exact rfl) (by exact rfl) (by exact rfl) (by ktr_room) (by ktr_units) ?_); intro Y9 t9 h9 tk9 zs9 e9 q9 l9 F9 N9; (try simp only [Int.reduceToNat] at q9 l9); tb_rel) | walk1) | (leave1; try dsimp only) | (with_reducible refine dABin ?_) | (with_reducible refine dAName ?_) | (with_reducible refine dAStore ?_) | (with_reducible refine dACmp ?_) | (with_reducible refine dATru ?_) | (with_reducible refine dASub ?_) | (with_reducible refine dSplNil ?_))
  refine dExecs (dAssign (dCallName ?_))
  repeat' (first | (k_unfold; (try dsimp only)) | (k_end; wrow_close) | (k_here; (with_reducible show wpAny _ _ (call (Value.ref 291) _) _ _ _); k_dflt (refine useL (c_tnum _ _ _ _ _ _ (by kba_ints2) (by kba_ints2) (by omega) (by assumption)) (zip_len (by assumption) (by assumption)) (by k_asm) (by k_asm) (by k_asm) (by k_asm) (by k_asm) (by exact rfl) (by exact rfl) (by exact rfl) (by ktr_room) (by ktr_units) ?_); intro Y9 t9 h9 tk9 zs9 e9 q9 l9 F9 N9; (try simp only [Int.reduceToNat] at q9 l9); tb_rel) | (k_here; (with_reducible show wpAny _ _ (call (Value.ref 286) _) _ _ _); k_dflt (refine useIR (c_tfirst _ _ _ _ _ (by kba_ints2) (by assumption) (by assumption) (by assumption)) (firstX_in (by assumption) (by assumption) (getD0_in (by assumption))) (by k_asm) (by k_asm) (by k_asm) (by k_asm) (by k_asm) (by exact rfl) (by exact rfl) (by exact rfl) (by ktr_room) (by ktr_units) ?_); intro y9 t9 h9 tk9 e9 lo9 hi9 F9 N9; tb_rel) | (k_here; (with_reducible show wpAny _ _ (call (Value.ref 298) _) _ _ _); k_dflt (refine useL (c_sample _ _ _ _ _ _ _ (by kba_ints2) (by kba_size) (by omega) (by kba_size) (by kba_size)) (samp_len (by kba_size) (by omega)) (by k_asm) (by k_asm) (by k_asm) (by k_asm) (by k_asm) (by exact rfl) (by exact rfl) (by exact rfl) (by ktr_room) (by ktr_units) ?_); intro Y9 t9 h9 tk9 zs9 e9 q9 l9 F9 N9; (try simp only [Int.reduceToNat] at q9 l9); tb_rel) | walk1 | (dsimp only; first | (k_here; (with_reducible show wpAny _ _ (call (Value.ref 291) _) _ _ _); k_dflt (refine useL (c_tnum _ _ _ _ _ _ (by kba_ints2) (by kba_ints2) (by omega) (by assumption)) (zip_len (by assumption) (by assumption)) (by k_asm) (by k_asm) (by k_asm) (by k_asm) (by k_asm) (by exact rfl) (by exact rfl) (by exact rfl) (by ktr_room) (by ktr_units) ?_); intro Y9 t9 h9 tk9 zs9 e9 q9 l9 F9 N9; (try simp only [Int.reduceToNat] at q9 l9); tb_rel) | (k_here; (with_reducible show wpAny _ _ (call (Value.ref 286) _) _ _ _); k_dflt (refine useIR (c_tfirst _ _ _ _ _ (by kba_ints2) (by assumption) (by assumption) (by assumption)) (firstX_in (by assumption) (by assumption) (getD0_in (by assumption))) (by k_asm) (by k_asm) (by k_asm) (by k_asm) (by k_asm) (by exact rfl) (by exact rfl) (by exact rfl) (by ktr_room) (by ktr_units) ?_); intro y9 t9 h9 tk9 e9 lo9 hi9 F9 N9; tb_rel) | (k_here; (with_reducible show wpAny _ _ (call (Value.ref 298) _) _ _ _); k_dflt (refine useL (c_sample _ _ _ _ _ _ _ (by kba_ints2) (by kba_size) (by omega) (by kba_size) (by kba_size)) (samp_len (by kba_size) (by omega)) (by k_asm) (by k_asm) (by k_asm) (by k_asm) (by k_asm) (by exact rfl) (by exact rfl) (by exact rfl) (by ktr_room) (by ktr_units) ?_); intro Y9 t9 h9 tk9 zs9 e9 q9 l9 F9 N9; (try simp only [Int.reduceToNat] at q9 l9); tb_rel) | walk1) | (leave1; try dsimp only) | (with_reducible refine dABin ?_) | (with_reducible refine dAName ?_) | (with_reducible refine dAStore ?_) | (with_reducible refine dACmp ?_) | (with_reducible refine dATru ?_) | (with_reducible refine dASub ?_) | (with_reducible refine dSplNil ?_))
  refine dCallWith (K := Mine.hd.heap_39 w.params) (by kernel_rfl) (dAny ?_)
  (try k_fold)
  repeat' (first | (k_unfold; (try dsimp only)) | (k_end; wrow_close) | (k_here; (with_reducible show wpAny _ _ (call (Value.ref 291) _) _ _ _); k_dflt (refine useL (c_tnum _ _ _ _ _ _ (by kba_ints2) (by kba_ints2) (by omega) (by assumption)) (zip_len (by assumption) (by assumption)) (by k_asm) (by k_asm) (by k_asm) (by k_asm) (by k_asm) (by exact rfl) (by exact rfl) (by exact rfl) (by ktr_room) (by ktr_units) ?_); intro Y9 t9 h9 tk9 zs9 e9 q9 l9 F9 N9; (try simp only [Int.reduceToNat] at q9 l9); tb_rel) | (k_here; (with_reducible show wpAny _ _ (call (Value.ref 286) _) _ _ _); k_dflt (refine useIR (c_tfirst _ _ _ _ _ (by kba_ints2) (by assumption) (by assumption) (by assumption)) (firstX_in (by assumption) (by assumption) (getD0_in (by assumption))) (by k_asm) (by k_asm) (by k_asm) (by k_asm) (by k_asm) (by exact rfl) (by exact rfl) (by exact rfl) (by ktr_room) (by ktr_units) ?_); intro y9 t9 h9 tk9 e9 lo9 hi9 F9 N9; tb_rel) | (k_here; (with_reducible show wpAny _ _ (call (Value.ref 298) _) _ _ _); k_dflt (refine useL (c_sample _ _ _ _ _ _ _ (by kba_ints2) (by kba_size) (by omega) (by kba_size) (by kba_size)) (samp_len (by kba_size) (by omega)) (by k_asm) (by k_asm) (by k_asm) (by k_asm) (by k_asm) (by exact rfl) (by exact rfl) (by exact rfl) (by ktr_room) (by ktr_units) ?_); intro Y9 t9 h9 tk9 zs9 e9 q9 l9 F9 N9; (try simp only [Int.reduceToNat] at q9 l9); tb_rel) | walk1 | (dsimp only; first | (k_here; (with_reducible show wpAny _ _ (call (Value.ref 291) _) _ _ _); k_dflt (refine useL (c_tnum _ _ _ _ _ _ (by kba_ints2) (by kba_ints2) (by omega) (by assumption)) (zip_len (by assumption) (by assumption)) (by k_asm) (by k_asm) (by k_asm) (by k_asm) (by k_asm) (by exact rfl) (by exact rfl) (by exact rfl) (by ktr_room) (by ktr_units) ?_); intro Y9 t9 h9 tk9 zs9 e9 q9 l9 F9 N9; (try simp only [Int.reduceToNat] at q9 l9); tb_rel) | (k_here; (with_reducible show wpAny _ _ (call (Value.ref 286) _) _ _ _); k_dflt (refine useIR (c_tfirst _ _ _ _ _ (by kba_ints2) (by assumption) (by assumption) (by assumption)) (firstX_in (by assumption) (by assumption) (getD0_in (by assumption))) (by k_asm) (by k_asm) (by k_asm) (by k_asm) (by k_asm) (by exact rfl) (by exact rfl) (by exact rfl) (by ktr_room) (by ktr_units) ?_); intro y9 t9 h9 tk9 e9 lo9 hi9 F9 N9; tb_rel) | (k_here; (with_reducible show wpAny _ _ (call (Value.ref 298) _) _ _ _); k_dflt (refine useL (c_sample _ _ _ _ _ _ _ (by kba_ints2) (by kba_size) (by omega) (by kba_size) (by kba_size)) (samp_len (by kba_size) (by omega)) (by k_asm) (by k_asm) (by k_asm) (by k_asm) (by k_asm) (by exact rfl) (by exact rfl) (by exact rfl) (by ktr_room) (by ktr_units) ?_); intro Y9 t9 h9 tk9 zs9 e9 q9 l9 F9 N9; (try simp only [Int.reduceToNat] at q9 l9); tb_rel) | walk1) | (leave1; try dsimp only) | fail "no step")
  (try dsimp only)
  refine dUseL (c_seal _ _ _ _ _ _ _ _ _ _ _ (by kba_ints2) (by kba_ints2) (by kba_ints2) (by kba_size) (by kba_size)) (seal_len _ _ _ _) (by k_asm) (by k_asm) (by k_asm) (by k_asm) (by k_asm) (by exact rfl) (by exact rfl) (by exact rfl) (by exact rfl) (by ktr_room) (by ktr_units) ?_
  intro Y9 t9 h9 tk9 zs9 e9 q9 l9 F9 N9
  (try simp only [Int.reduceToNat] at q9 l9)
  tb_rel
  repeat' (first | (k_unfold; (try dsimp only)) | (k_end; wrow_close) | (k_here; (with_reducible show wpAny _ _ (call (Value.ref 291) _) _ _ _); k_dflt (refine useL (c_tnum _ _ _ _ _ _ (by kba_ints2) (by kba_ints2) (by omega) (by assumption)) (zip_len (by assumption) (by assumption)) (by k_asm) (by k_asm) (by k_asm) (by k_asm) (by k_asm) (by exact rfl) (by exact rfl) (by exact rfl) (by ktr_room) (by ktr_units) ?_); intro Y9 t9 h9 tk9 zs9 e9 q9 l9 F9 N9; (try simp only [Int.reduceToNat] at q9 l9); tb_rel) | (k_here; (with_reducible show wpAny _ _ (call (Value.ref 286) _) _ _ _); k_dflt (refine useIR (c_tfirst _ _ _ _ _ (by kba_ints2) (by assumption) (by assumption) (by assumption)) (firstX_in (by assumption) (by assumption) (getD0_in (by assumption))) (by k_asm) (by k_asm) (by k_asm) (by k_asm) (by k_asm) (by exact rfl) (by exact rfl) (by exact rfl) (by ktr_room) (by ktr_units) ?_); intro y9 t9 h9 tk9 e9 lo9 hi9 F9 N9; tb_rel) | (k_here; (with_reducible show wpAny _ _ (call (Value.ref 298) _) _ _ _); k_dflt (refine useL (c_sample _ _ _ _ _ _ _ (by kba_ints2) (by kba_size) (by omega) (by kba_size) (by kba_size)) (samp_len (by kba_size) (by omega)) (by k_asm) (by k_asm) (by k_asm) (by k_asm) (by k_asm) (by exact rfl) (by exact rfl) (by exact rfl) (by ktr_room) (by ktr_units) ?_); intro Y9 t9 h9 tk9 zs9 e9 q9 l9 F9 N9; (try simp only [Int.reduceToNat] at q9 l9); tb_rel) | walk1 | (dsimp only; first | (k_here; (with_reducible show wpAny _ _ (call (Value.ref 291) _) _ _ _); k_dflt (refine useL (c_tnum _ _ _ _ _ _ (by kba_ints2) (by kba_ints2) (by omega) (by assumption)) (zip_len (by assumption) (by assumption)) (by k_asm) (by k_asm) (by k_asm) (by k_asm) (by k_asm) (by exact rfl) (by exact rfl) (by exact rfl) (by ktr_room) (by ktr_units) ?_); intro Y9 t9 h9 tk9 zs9 e9 q9 l9 F9 N9; (try simp only [Int.reduceToNat] at q9 l9); tb_rel) | (k_here; (with_reducible show wpAny _ _ (call (Value.ref 286) _) _ _ _); k_dflt (refine useIR (c_tfirst _ _ _ _ _ (by kba_ints2) (by assumption) (by assumption) (by assumption)) (firstX_in (by assumption) (by assumption) (getD0_in (by assumption))) (by k_asm) (by k_asm) (by k_asm) (by k_asm) (by k_asm) (by exact rfl) (by exact rfl) (by exact rfl) (by ktr_room) (by ktr_units) ?_); intro y9 t9 h9 tk9 e9 lo9 hi9 F9 N9; tb_rel) | (k_here; (with_reducible show wpAny _ _ (call (Value.ref 298) _) _ _ _); k_dflt (refine useL (c_sample _ _ _ _ _ _ _ (by kba_ints2) (by kba_size) (by omega) (by kba_size) (by kba_size)) (samp_len (by kba_size) (by omega)) (by k_asm) (by k_asm) (by k_asm) (by k_asm) (by k_asm) (by exact rfl) (by exact rfl) (by exact rfl) (by ktr_room) (by ktr_units) ?_); intro Y9 t9 h9 tk9 zs9 e9 q9 l9 F9 N9; (try simp only [Int.reduceToNat] at q9 l9); tb_rel) | walk1) | (leave1; try dsimp only) | (with_reducible refine dABin ?_) | (with_reducible refine dAName ?_) | (with_reducible refine dAStore ?_) | (with_reducible refine dACmp ?_) | (with_reducible refine dATru ?_) | (with_reducible refine dASub ?_) | (with_reducible refine dSplNil ?_))
  refine dExecs (dAny ?_)
  (try k_fold)
  repeat' (first | (k_unfold; (try dsimp only)) | (k_end; wrow_close) | (k_here; (with_reducible show wpAny _ _ (call (Value.ref 291) _) _ _ _); k_dflt (refine useL (c_tnum _ _ _ _ _ _ (by kba_ints2) (by kba_ints2) (by omega) (by assumption)) (zip_len (by assumption) (by assumption)) (by k_asm) (by k_asm) (by k_asm) (by k_asm) (by k_asm) (by exact rfl) (by exact rfl) (by exact rfl) (by ktr_room) (by ktr_units) ?_); intro Y9 t9 h9 tk9 zs9 e9 q9 l9 F9 N9; (try simp only [Int.reduceToNat] at q9 l9); tb_rel) | (k_here; (with_reducible show wpAny _ _ (call (Value.ref 286) _) _ _ _); k_dflt (refine useIR (c_tfirst _ _ _ _ _ (by kba_ints2) (by assumption) (by assumption) (by assumption)) (firstX_in (by assumption) (by assumption) (getD0_in (by assumption))) (by k_asm) (by k_asm) (by k_asm) (by k_asm) (by k_asm) (by exact rfl) (by exact rfl) (by exact rfl) (by ktr_room) (by ktr_units) ?_); intro y9 t9 h9 tk9 e9 lo9 hi9 F9 N9; tb_rel) | (k_here; (with_reducible show wpAny _ _ (call (Value.ref 298) _) _ _ _); k_dflt (refine useL (c_sample _ _ _ _ _ _ _ (by kba_ints2) (by kba_size) (by omega) (by kba_size) (by kba_size)) (samp_len (by kba_size) (by omega)) (by k_asm) (by k_asm) (by k_asm) (by k_asm) (by k_asm) (by exact rfl) (by exact rfl) (by exact rfl) (by ktr_room) (by ktr_units) ?_); intro Y9 t9 h9 tk9 zs9 e9 q9 l9 F9 N9; (try simp only [Int.reduceToNat] at q9 l9); tb_rel) | walk1 | (dsimp only; first | (k_here; (with_reducible show wpAny _ _ (call (Value.ref 291) _) _ _ _); k_dflt (refine useL (c_tnum _ _ _ _ _ _ (by kba_ints2) (by kba_ints2) (by omega) (by assumption)) (zip_len (by assumption) (by assumption)) (by k_asm) (by k_asm) (by k_asm) (by k_asm) (by k_asm) (by exact rfl) (by exact rfl) (by exact rfl) (by ktr_room) (by ktr_units) ?_); intro Y9 t9 h9 tk9 zs9 e9 q9 l9 F9 N9; (try simp only [Int.reduceToNat] at q9 l9); tb_rel) | (k_here; (with_reducible show wpAny _ _ (call (Value.ref 286) _) _ _ _); k_dflt (refine useIR (c_tfirst _ _ _ _ _ (by kba_ints2) (by assumption) (by assumption) (by assumption)) (firstX_in (by assumption) (by assumption) (getD0_in (by assumption))) (by k_asm) (by k_asm) (by k_asm) (by k_asm) (by k_asm) (by exact rfl) (by exact rfl) (by exact rfl) (by ktr_room) (by ktr_units) ?_); intro y9 t9 h9 tk9 e9 lo9 hi9 F9 N9; tb_rel) | (k_here; (with_reducible show wpAny _ _ (call (Value.ref 298) _) _ _ _); k_dflt (refine useL (c_sample _ _ _ _ _ _ _ (by kba_ints2) (by kba_size) (by omega) (by kba_size) (by kba_size)) (samp_len (by kba_size) (by omega)) (by k_asm) (by k_asm) (by k_asm) (by k_asm) (by k_asm) (by exact rfl) (by exact rfl) (by exact rfl) (by ktr_room) (by ktr_units) ?_); intro Y9 t9 h9 tk9 zs9 e9 q9 l9 F9 N9; (try simp only [Int.reduceToNat] at q9 l9); tb_rel) | walk1) | (leave1; try dsimp only) | (with_reducible refine dABin ?_) | (with_reducible refine dAName ?_) | (with_reducible refine dAStore ?_) | (with_reducible refine dACmp ?_) | (with_reducible refine dATru ?_) | (with_reducible refine dASub ?_) | (with_reducible refine dSplNil ?_))
  refine dExecs (dAssign (dCallName ?_))
  repeat' (first | (k_unfold; (try dsimp only)) | (k_end; wrow_close) | (k_here; (with_reducible show wpAny _ _ (call (Value.ref 291) _) _ _ _); k_dflt (refine useL (c_tnum _ _ _ _ _ _ (by kba_ints2) (by kba_ints2) (by omega) (by assumption)) (zip_len (by assumption) (by assumption)) (by k_asm) (by k_asm) (by k_asm) (by k_asm) (by k_asm) (by exact rfl) (by exact rfl) (by exact rfl) (by ktr_room) (by ktr_units) ?_); intro Y9 t9 h9 tk9 zs9 e9 q9 l9 F9 N9; (try simp only [Int.reduceToNat] at q9 l9); tb_rel) | (k_here; (with_reducible show wpAny _ _ (call (Value.ref 286) _) _ _ _); k_dflt (refine useIR (c_tfirst _ _ _ _ _ (by kba_ints2) (by assumption) (by assumption) (by assumption)) (firstX_in (by assumption) (by assumption) (getD0_in (by assumption))) (by k_asm) (by k_asm) (by k_asm) (by k_asm) (by k_asm) (by exact rfl) (by exact rfl) (by exact rfl) (by ktr_room) (by ktr_units) ?_); intro y9 t9 h9 tk9 e9 lo9 hi9 F9 N9; tb_rel) | (k_here; (with_reducible show wpAny _ _ (call (Value.ref 298) _) _ _ _); k_dflt (refine useL (c_sample _ _ _ _ _ _ _ (by kba_ints2) (by kba_size) (by omega) (by kba_size) (by kba_size)) (samp_len (by kba_size) (by omega)) (by k_asm) (by k_asm) (by k_asm) (by k_asm) (by k_asm) (by exact rfl) (by exact rfl) (by exact rfl) (by ktr_room) (by ktr_units) ?_); intro Y9 t9 h9 tk9 zs9 e9 q9 l9 F9 N9; (try simp only [Int.reduceToNat] at q9 l9); tb_rel) | walk1 | (dsimp only; first | (k_here; (with_reducible show wpAny _ _ (call (Value.ref 291) _) _ _ _); k_dflt (refine useL (c_tnum _ _ _ _ _ _ (by kba_ints2) (by kba_ints2) (by omega) (by assumption)) (zip_len (by assumption) (by assumption)) (by k_asm) (by k_asm) (by k_asm) (by k_asm) (by k_asm) (by exact rfl) (by exact rfl) (by exact rfl) (by ktr_room) (by ktr_units) ?_); intro Y9 t9 h9 tk9 zs9 e9 q9 l9 F9 N9; (try simp only [Int.reduceToNat] at q9 l9); tb_rel) | (k_here; (with_reducible show wpAny _ _ (call (Value.ref 286) _) _ _ _); k_dflt (refine useIR (c_tfirst _ _ _ _ _ (by kba_ints2) (by assumption) (by assumption) (by assumption)) (firstX_in (by assumption) (by assumption) (getD0_in (by assumption))) (by k_asm) (by k_asm) (by k_asm) (by k_asm) (by k_asm) (by exact rfl) (by exact rfl) (by exact rfl) (by ktr_room) (by ktr_units) ?_); intro y9 t9 h9 tk9 e9 lo9 hi9 F9 N9; tb_rel) | (k_here; (with_reducible show wpAny _ _ (call (Value.ref 298) _) _ _ _); k_dflt (refine useL (c_sample _ _ _ _ _ _ _ (by kba_ints2) (by kba_size) (by omega) (by kba_size) (by kba_size)) (samp_len (by kba_size) (by omega)) (by k_asm) (by k_asm) (by k_asm) (by k_asm) (by k_asm) (by exact rfl) (by exact rfl) (by exact rfl) (by ktr_room) (by ktr_units) ?_); intro Y9 t9 h9 tk9 zs9 e9 q9 l9 F9 N9; (try simp only [Int.reduceToNat] at q9 l9); tb_rel) | walk1) | (leave1; try dsimp only) | (with_reducible refine dABin ?_) | (with_reducible refine dAName ?_) | (with_reducible refine dAStore ?_) | (with_reducible refine dACmp ?_) | (with_reducible refine dATru ?_) | (with_reducible refine dASub ?_) | (with_reducible refine dSplNil ?_))
  refine dCallWith (K := Mine.hd.heap_39 w.params) (by kernel_rfl) (dAny ?_)
  (try k_fold)
  repeat' (first | (k_unfold; (try dsimp only)) | (k_end; wrow_close) | (k_here; (with_reducible show wpAny _ _ (call (Value.ref 291) _) _ _ _); k_dflt (refine useL (c_tnum _ _ _ _ _ _ (by kba_ints2) (by kba_ints2) (by omega) (by assumption)) (zip_len (by assumption) (by assumption)) (by k_asm) (by k_asm) (by k_asm) (by k_asm) (by k_asm) (by exact rfl) (by exact rfl) (by exact rfl) (by ktr_room) (by ktr_units) ?_); intro Y9 t9 h9 tk9 zs9 e9 q9 l9 F9 N9; (try simp only [Int.reduceToNat] at q9 l9); tb_rel) | (k_here; (with_reducible show wpAny _ _ (call (Value.ref 286) _) _ _ _); k_dflt (refine useIR (c_tfirst _ _ _ _ _ (by kba_ints2) (by assumption) (by assumption) (by assumption)) (firstX_in (by assumption) (by assumption) (getD0_in (by assumption))) (by k_asm) (by k_asm) (by k_asm) (by k_asm) (by k_asm) (by exact rfl) (by exact rfl) (by exact rfl) (by ktr_room) (by ktr_units) ?_); intro y9 t9 h9 tk9 e9 lo9 hi9 F9 N9; tb_rel) | (k_here; (with_reducible show wpAny _ _ (call (Value.ref 298) _) _ _ _); k_dflt (refine useL (c_sample _ _ _ _ _ _ _ (by kba_ints2) (by kba_size) (by omega) (by kba_size) (by kba_size)) (samp_len (by kba_size) (by omega)) (by k_asm) (by k_asm) (by k_asm) (by k_asm) (by k_asm) (by exact rfl) (by exact rfl) (by exact rfl) (by ktr_room) (by ktr_units) ?_); intro Y9 t9 h9 tk9 zs9 e9 q9 l9 F9 N9; (try simp only [Int.reduceToNat] at q9 l9); tb_rel) | walk1 | (dsimp only; first | (k_here; (with_reducible show wpAny _ _ (call (Value.ref 291) _) _ _ _); k_dflt (refine useL (c_tnum _ _ _ _ _ _ (by kba_ints2) (by kba_ints2) (by omega) (by assumption)) (zip_len (by assumption) (by assumption)) (by k_asm) (by k_asm) (by k_asm) (by k_asm) (by k_asm) (by exact rfl) (by exact rfl) (by exact rfl) (by ktr_room) (by ktr_units) ?_); intro Y9 t9 h9 tk9 zs9 e9 q9 l9 F9 N9; (try simp only [Int.reduceToNat] at q9 l9); tb_rel) | (k_here; (with_reducible show wpAny _ _ (call (Value.ref 286) _) _ _ _); k_dflt (refine useIR (c_tfirst _ _ _ _ _ (by kba_ints2) (by assumption) (by assumption) (by assumption)) (firstX_in (by assumption) (by assumption) (getD0_in (by assumption))) (by k_asm) (by k_asm) (by k_asm) (by k_asm) (by k_asm) (by exact rfl) (by exact rfl) (by exact rfl) (by ktr_room) (by ktr_units) ?_); intro y9 t9 h9 tk9 e9 lo9 hi9 F9 N9; tb_rel) | (k_here; (with_reducible show wpAny _ _ (call (Value.ref 298) _) _ _ _); k_dflt (refine useL (c_sample _ _ _ _ _ _ _ (by kba_ints2) (by kba_size) (by omega) (by kba_size) (by kba_size)) (samp_len (by kba_size) (by omega)) (by k_asm) (by k_asm) (by k_asm) (by k_asm) (by k_asm) (by exact rfl) (by exact rfl) (by exact rfl) (by ktr_room) (by ktr_units) ?_); intro Y9 t9 h9 tk9 zs9 e9 q9 l9 F9 N9; (try simp only [Int.reduceToNat] at q9 l9); tb_rel) | walk1) | (leave1; try dsimp only) | fail "no step")
  (try dsimp only)
  refine dUseL (c_hmask _ _ _ _ _ _ (by kba_ints2) (by kba_ints2)) (hmask_len _ _) (by k_asm) (by k_asm) (by k_asm) (by k_asm) (by k_asm) (by exact rfl) (by exact rfl) (by exact rfl) (by exact rfl) (by ktr_room) (by ktr_units) ?_
  intro Y9 t9 h9 tk9 zs9 e9 q9 l9 F9 N9
  (try simp only [Int.reduceToNat] at q9 l9)
  tb_rel
  repeat' (first | (k_unfold; (try dsimp only)) | (k_end; wrow_close) | (k_here; (with_reducible show wpAny _ _ (call (Value.ref 291) _) _ _ _); k_dflt (refine useL (c_tnum _ _ _ _ _ _ (by kba_ints2) (by kba_ints2) (by omega) (by assumption)) (zip_len (by assumption) (by assumption)) (by k_asm) (by k_asm) (by k_asm) (by k_asm) (by k_asm) (by exact rfl) (by exact rfl) (by exact rfl) (by ktr_room) (by ktr_units) ?_); intro Y9 t9 h9 tk9 zs9 e9 q9 l9 F9 N9; (try simp only [Int.reduceToNat] at q9 l9); tb_rel) | (k_here; (with_reducible show wpAny _ _ (call (Value.ref 286) _) _ _ _); k_dflt (refine useIR (c_tfirst _ _ _ _ _ (by kba_ints2) (by assumption) (by assumption) (by assumption)) (firstX_in (by assumption) (by assumption) (getD0_in (by assumption))) (by k_asm) (by k_asm) (by k_asm) (by k_asm) (by k_asm) (by exact rfl) (by exact rfl) (by exact rfl) (by ktr_room) (by ktr_units) ?_); intro y9 t9 h9 tk9 e9 lo9 hi9 F9 N9; tb_rel) | (k_here; (with_reducible show wpAny _ _ (call (Value.ref 298) _) _ _ _); k_dflt (refine useL (c_sample _ _ _ _ _ _ _ (by kba_ints2) (by kba_size) (by omega) (by kba_size) (by kba_size)) (samp_len (by kba_size) (by omega)) (by k_asm) (by k_asm) (by k_asm) (by k_asm) (by k_asm) (by exact rfl) (by exact rfl) (by exact rfl) (by ktr_room) (by ktr_units) ?_); intro Y9 t9 h9 tk9 zs9 e9 q9 l9 F9 N9; (try simp only [Int.reduceToNat] at q9 l9); tb_rel) | walk1 | (dsimp only; first | (k_here; (with_reducible show wpAny _ _ (call (Value.ref 291) _) _ _ _); k_dflt (refine useL (c_tnum _ _ _ _ _ _ (by kba_ints2) (by kba_ints2) (by omega) (by assumption)) (zip_len (by assumption) (by assumption)) (by k_asm) (by k_asm) (by k_asm) (by k_asm) (by k_asm) (by exact rfl) (by exact rfl) (by exact rfl) (by ktr_room) (by ktr_units) ?_); intro Y9 t9 h9 tk9 zs9 e9 q9 l9 F9 N9; (try simp only [Int.reduceToNat] at q9 l9); tb_rel) | (k_here; (with_reducible show wpAny _ _ (call (Value.ref 286) _) _ _ _); k_dflt (refine useIR (c_tfirst _ _ _ _ _ (by kba_ints2) (by assumption) (by assumption) (by assumption)) (firstX_in (by assumption) (by assumption) (getD0_in (by assumption))) (by k_asm) (by k_asm) (by k_asm) (by k_asm) (by k_asm) (by exact rfl) (by exact rfl) (by exact rfl) (by ktr_room) (by ktr_units) ?_); intro y9 t9 h9 tk9 e9 lo9 hi9 F9 N9; tb_rel) | (k_here; (with_reducible show wpAny _ _ (call (Value.ref 298) _) _ _ _); k_dflt (refine useL (c_sample _ _ _ _ _ _ _ (by kba_ints2) (by kba_size) (by omega) (by kba_size) (by kba_size)) (samp_len (by kba_size) (by omega)) (by k_asm) (by k_asm) (by k_asm) (by k_asm) (by k_asm) (by exact rfl) (by exact rfl) (by exact rfl) (by ktr_room) (by ktr_units) ?_); intro Y9 t9 h9 tk9 zs9 e9 q9 l9 F9 N9; (try simp only [Int.reduceToNat] at q9 l9); tb_rel) | walk1) | (leave1; try dsimp only) | (with_reducible refine dABin ?_) | (with_reducible refine dAName ?_) | (with_reducible refine dAStore ?_) | (with_reducible refine dACmp ?_) | (with_reducible refine dATru ?_) | (with_reducible refine dASub ?_) | (with_reducible refine dSplNil ?_))
  refine dAny ?_
  (try k_fold)
  repeat' (first | (k_unfold; (try dsimp only)) | (k_end; wrow_close) | (k_here; (with_reducible show wpAny _ _ (call (Value.ref 291) _) _ _ _); k_dflt (refine useL (c_tnum _ _ _ _ _ _ (by kba_ints2) (by kba_ints2) (by omega) (by assumption)) (zip_len (by assumption) (by assumption)) (by k_asm) (by k_asm) (by k_asm) (by k_asm) (by k_asm) (by exact rfl) (by exact rfl) (by exact rfl) (by ktr_room) (by ktr_units) ?_); intro Y9 t9 h9 tk9 zs9 e9 q9 l9 F9 N9; (try simp only [Int.reduceToNat] at q9 l9); tb_rel) | (k_here; (with_reducible show wpAny _ _ (call (Value.ref 286) _) _ _ _); k_dflt (refine useIR (c_tfirst _ _ _ _ _ (by kba_ints2) (by assumption) (by assumption) (by assumption)) (firstX_in (by assumption) (by assumption) (getD0_in (by assumption))) (by k_asm) (by k_asm) (by k_asm) (by k_asm) (by k_asm) (by exact rfl) (by exact rfl) (by exact rfl) (by ktr_room) (by ktr_units) ?_); intro y9 t9 h9 tk9 e9 lo9 hi9 F9 N9; tb_rel) | (k_here; (with_reducible show wpAny _ _ (call (Value.ref 298) _) _ _ _); k_dflt (refine useL (c_sample _ _ _ _ _ _ _ (by kba_ints2) (by kba_size) (by omega) (by kba_size) (by kba_size)) (samp_len (by kba_size) (by omega)) (by k_asm) (by k_asm) (by k_asm) (by k_asm) (by k_asm) (by exact rfl) (by exact rfl) (by exact rfl) (by ktr_room) (by ktr_units) ?_); intro Y9 t9 h9 tk9 zs9 e9 q9 l9 F9 N9; (try simp only [Int.reduceToNat] at q9 l9); tb_rel) | walk1 | (dsimp only; first | (k_here; (with_reducible show wpAny _ _ (call (Value.ref 291) _) _ _ _); k_dflt (refine useL (c_tnum _ _ _ _ _ _ (by kba_ints2) (by kba_ints2) (by omega) (by assumption)) (zip_len (by assumption) (by assumption)) (by k_asm) (by k_asm) (by k_asm) (by k_asm) (by k_asm) (by exact rfl) (by exact rfl) (by exact rfl) (by ktr_room) (by ktr_units) ?_); intro Y9 t9 h9 tk9 zs9 e9 q9 l9 F9 N9; (try simp only [Int.reduceToNat] at q9 l9); tb_rel) | (k_here; (with_reducible show wpAny _ _ (call (Value.ref 286) _) _ _ _); k_dflt (refine useIR (c_tfirst _ _ _ _ _ (by kba_ints2) (by assumption) (by assumption) (by assumption)) (firstX_in (by assumption) (by assumption) (getD0_in (by assumption))) (by k_asm) (by k_asm) (by k_asm) (by k_asm) (by k_asm) (by exact rfl) (by exact rfl) (by exact rfl) (by ktr_room) (by ktr_units) ?_); intro y9 t9 h9 tk9 e9 lo9 hi9 F9 N9; tb_rel) | (k_here; (with_reducible show wpAny _ _ (call (Value.ref 298) _) _ _ _); k_dflt (refine useL (c_sample _ _ _ _ _ _ _ (by kba_ints2) (by kba_size) (by omega) (by kba_size) (by kba_size)) (samp_len (by kba_size) (by omega)) (by k_asm) (by k_asm) (by k_asm) (by k_asm) (by k_asm) (by exact rfl) (by exact rfl) (by exact rfl) (by ktr_room) (by ktr_units) ?_); intro Y9 t9 h9 tk9 zs9 e9 q9 l9 F9 N9; (try simp only [Int.reduceToNat] at q9 l9); tb_rel) | walk1) | (leave1; try dsimp only) | (with_reducible refine dABin ?_) | (with_reducible refine dAName ?_) | (with_reducible refine dAStore ?_) | (with_reducible refine dACmp ?_) | (with_reducible refine dATru ?_) | (with_reducible refine dASub ?_) | (with_reducible refine dSplNil ?_))
  exact retB (s := s) hret (by k_asm) (by assumption) (prot_fin (by assumption) (by assumption) (by assumption) (by assumption) (by assumption) (by assumption) lh1)
end
section
variable {w : World} {p : Program} {loose : List Str} {mean : ExcName → Option Value} {mg mb : Str → Option Value}
theorem sl0 {p q : Int} (h : p ≤ q + 4) : (max 0 p).toNat - (max 0 q).toNat ≤ 4 := by
  refine Nat.sub_le_of_le_add (Int.toNat_le.mpr ?_)
  rw [Int.natCast_add, Int.toNat_of_nonneg (Int.le_max_left _ _)]
  exact Int.max_le.mpr ⟨Int.add_nonneg (by decide) (Int.le_max_left _ _), Int.le_trans h (Int.add_comm q 4 ▸ Int.add_le_add_left (Int.le_max_right _ _) 4)⟩
theorem sl1 {a b n : Int} (h : b ≤ a + 4) : min b n ≤ min a n + 4 := by
  rcases Int.le_total a n with q | q
  · rw [Int.min_eq_left q]; exact Int.le_trans (Int.min_le_left _ _) h
  · rw [Int.min_eq_right q]; exact Int.le_trans (Int.min_le_right _ _) (Int.le_add_of_nonneg_right (by decide))
theorem slice_le {ks : List Int} {a b : Int} (h0 : 0 ≤ a) (h1 : a ≤ b) (h : b ≤ a + 4) : ((ks.drop (clipAt ks.length a)).take (clipAt ks.length b - clipAt ks.length a)).length ≤ 4 := by
  refine Nat.le_trans (List.length_take_le _ _) ?_
  unfold clipAt
  rw [if_neg (Int.not_lt.mpr h0), if_neg (Int.not_lt.mpr (Int.le_trans h0 h1))]
  exact sl0 (sl1 h)
theorem fm4 (y : Int) : 0 ≤ y.fmod 4 ∧ y.fmod 4 < 4 := by
  rw [Int.fmod_eq_emod_of_nonneg _ (by decide)]; omega
theorem slice_le4 {ks : List Int} {a y : Int} (h0 : 0 ≤ a) : ((ks.drop (clipAt ks.length a)).take (clipAt ks.length (a + (y.fmod 4 + 1)) - clipAt ks.length a)).length ≤ 4 := by
  have := fm4 y
  exact slice_le h0 (by omega) (by omega)
theorem zip_le {cs ms : List Int} (lc : cs.length ≤ 4) (lm : ms.length = 5) : (List.zipWith Builtin.bitXor cs (ms.drop 1)).length ≤ 4 := by rw [zip_len lc lm]; exact lc
noncomputable def bareF (kk ks : List Int) (na : Nat) : Int := firstX (ks.getD 0 0) (headMask kk ((ks.drop (na + 4)).take 16))
noncomputable def bareL (kk ks : List Int) (na : Nat) : List Int :=
  bareF kk ks na :: ((ks.drop 1).take (na - 1) ++ List.zipWith Builtin.bitXor ((ks.drop na).take ((bareF kk ks na).fmod 4 + 1).toNat) ((headMask kk ((ks.drop (na + 4)).take 16)).drop 1))
theorem bare_f {kk ks ss ms : List Int} {na y : Int} (q2 : ss = List.take 16 (List.drop (na + 4).toNat ks)) (q3 : ms = headMask kk ss)
    (e : y = Builtin.bitXor (ks.getD (Int.toNat 0) 0) (Builtin.bitAnd (ms.getD 0 0) (if ks.getD (Int.toNat 0) 0 ≥ 128 then 15 else 31))) (hna : 1 ≤ na := by assumption) : y = bareF kk ks na.toNat := by
  rw [show (na + 4).toNat = na.toNat + 4 from by omega] at q2
  subst q2; subst q3; exact e
theorem bare_fin {kk ks ss ms zz : List Int} {na y : Int} (q2 : ss = List.take 16 (List.drop (na + 4).toNat ks)) (q3 : ms = headMask kk ss)
    (e : y = Builtin.bitXor (ks.getD (Int.toNat 0) 0) (Builtin.bitAnd (ms.getD 0 0) (if ks.getD (Int.toNat 0) 0 ≥ 128 then 15 else 31))) (hb : ((y.toNat.toUInt8.toNat : Nat) : Int) = y)
    (q4 : zz = List.zipWith Builtin.bitXor (List.take (clipAt ks.length (na + (y.fmod 4 + 1)) - clipAt ks.length na) (List.drop (clipAt ks.length na) ks)) (List.drop 1 ms)) (hna : 1 ≤ na) (hle : na + 20 ≤ (ks.length : Int)) :
    List.map (fun c => ((UInt8.toNat c : Nat) : Int)) [y.toNat.toUInt8] ++ List.take (clipAt ks.length na - clipAt ks.length (0 + 1)) (List.drop (clipAt ks.length (0 + 1)) ks) ++ zz = bareL kk ks na.toNat := by
  have ey := bare_f q2 q3 e hna
  have := fm4 y
  rw [PyProof.Rows.clipAt_in (x := 0 + 1) (by decide) (by omega), PyProof.Rows.clipAt_in (x := na) (by omega) (by omega), List.map_singleton, hb]
  rw [PyProof.Rows.clipAt_in (x := na) (by omega) (by omega), PyProof.Rows.clipAt_in (x := na + (y.fmod 4 + 1)) (by omega) (by omega), show (na + (y.fmod 4 + 1)).toNat - na.toNat = (y.fmod 4 + 1).toNat from toNatDiff (by omega) (by omega) rfl] at q4
  rw [show (na + 4).toNat = na.toNat + 4 from by omega] at q2
  rw [q4, ey, q3, q2]
  unfold bareL
  simp only [List.cons_append, List.nil_append, List.append_assoc]
  rfl
noncomputable def BareOut (kk ks : List Int) (na : Nat) (h h' : Heap) (v : Value) : Prop :=
  ∃ t Y z ty tz, v = .ref t ∧ h.get? t = none ∧ h'.get? t = some { cls := .type "tuple", data := .seq #[.bytes Y ty, .int z tz] } ∧ KBw.bInts Y = bareL kk ks na ∧ z = (bareF kk ks na).fmod 4 + 1
theorem cbA {n k m : Nat} (h : n ≤ 1000) : 0 + 1 + min k (n - m) ≤ 16777216 :=
  Nat.le_trans (Nat.add_le_add_left (Nat.le_trans (Nat.min_le_right _ _) (Nat.le_trans (Nat.sub_le _ _) h)) 1) (by decide)
theorem cbB {n k m z : Nat} (h : n ≤ 1000) (hz : z ≤ 4) : 0 + 1 + min k (n - m) + z ≤ 16777216 :=
  Nat.le_trans (Nat.add_le_add (Nat.add_le_add_left (Nat.le_trans (Nat.min_le_right _ _) (Nat.le_trans (Nat.sub_le _ _) h)) 1) hz) (by decide)
local macro_rules | `(tactic| omega) => `(tactic| first | exact cbA (by assumption) | exact cbB (by assumption) (by assumption) | fail)
set_option maxHeartbeats 4000000 in
theorem c_bare (key b : Array UInt8) (tk tb t0 tn te : Tok) (na en : Int) (kk ks : List Int) (hkk : KBw.bInts key = kk) (hb : KBw.bInts b = ks) (lk : ks.length ≤ 1000) (hna : 1 ≤ na) (hen : en = ks.length) (hle : na + 20 ≤ (ks.length : Int)) :
   DCon w p loose mean mg mb 312 [.bytes key tk, .bytes b tb, .int 0 t0, .int na tn, .int en te] 24 150 (BareOut kk ks na.toNat) := by
  refine dcon_of fun dp un base l s R B X T hd hu hret => ?_
  refine dEnter (binds := [(Str.ofString "key", .bytes key tk), (Str.ofString "data", .bytes b tb), (Str.ofString "start", .int 0 t0), (Str.ofString "number_at", .int na tn), (Str.ofString "end", .int en te)]) X T (by k_is) (by k_is) (by ktr_room) (BindsTo.of_eq rfl) (locs rfl) (fun L' h₁' F' N' => ?_) rfl rfl rfl (by decide)
  (dsimp only [List.reverse, List.reverseAux, bmap] at F')
  (try dsimp only)
  refine dExecs (dAny ?_)
  (try k_fold)
  repeat' (first | (k_unfold; (try dsimp only)) | (k_end; wrow_close) | (k_here; (with_reducible show wpAny _ _ (call (Value.ref 291) _) _ _ _); k_dflt (refine useLE (c_tnum _ _ _ _ _ _ (by kba_ints2) (by kba_ints2) (slice_le4 (by omega)) (by assumption)) (zip_le (slice_le4 (by omega)) (by assumption)) (by k_asm) (by k_asm) (by k_asm) (by k_asm) (by k_asm) (by exact rfl) (by exact rfl) (by exact rfl) (by ktr_room) (by ktr_units) ?_); intro Y9 t9 h9 tk9 zs9 e9 q9 l9 F9 N9; (try simp only [Int.reduceToNat] at q9 l9); tb_rel) | (k_here; (with_reducible show wpAny _ _ (call (Value.ref 286) _) _ _ _); k_dflt (refine useIR (c_tfirst _ _ _ _ _ (by kba_ints2) (by assumption) (by assumption) (by assumption)) (firstX_in (by assumption) (by assumption) (getD0_in (by assumption))) (by k_asm) (by k_asm) (by k_asm) (by k_asm) (by k_asm) (by exact rfl) (by exact rfl) (by exact rfl) (by ktr_room) (by ktr_units) ?_); intro y9 t9 h9 tk9 e9 lo9 hi9 F9 N9; tb_rel) | (k_here; (with_reducible show wpAny _ _ (call (Value.ref 298) _) _ _ _); k_dflt (refine useL (c_sample _ _ _ _ _ _ _ (by kba_ints2) (by kba_size) (by omega) (by kba_size) (by kba_size)) (samp_len (by kba_size) (by omega)) (by k_asm) (by k_asm) (by k_asm) (by k_asm) (by k_asm) (by exact rfl) (by exact rfl) (by exact rfl) (by ktr_room) (by ktr_units) ?_); intro Y9 t9 h9 tk9 zs9 e9 q9 l9 F9 N9; (try simp only [Int.reduceToNat] at q9 l9); tb_rel) | walk1 | (dsimp only; first | (k_here; (with_reducible show wpAny _ _ (call (Value.ref 291) _) _ _ _); k_dflt (refine useLE (c_tnum _ _ _ _ _ _ (by kba_ints2) (by kba_ints2) (slice_le4 (by omega)) (by assumption)) (zip_le (slice_le4 (by omega)) (by assumption)) (by k_asm) (by k_asm) (by k_asm) (by k_asm) (by k_asm) (by exact rfl) (by exact rfl) (by exact rfl) (by ktr_room) (by ktr_units) ?_); intro Y9 t9 h9 tk9 zs9 e9 q9 l9 F9 N9; (try simp only [Int.reduceToNat] at q9 l9); tb_rel) | (k_here; (with_reducible show wpAny _ _ (call (Value.ref 286) _) _ _ _); k_dflt (refine useIR (c_tfirst _ _ _ _ _ (by kba_ints2) (by assumption) (by assumption) (by assumption)) (firstX_in (by assumption) (by assumption) (getD0_in (by assumption))) (by k_asm) (by k_asm) (by k_asm) (by k_asm) (by k_asm) (by exact rfl) (by exact rfl) (by exact rfl) (by ktr_room) (by ktr_units) ?_); intro y9 t9 h9 tk9 e9 lo9 hi9 F9 N9; tb_rel) | (k_here; (with_reducible show wpAny _ _ (call (Value.ref 298) _) _ _ _); k_dflt (refine useL (c_sample _ _ _ _ _ _ _ (by kba_ints2) (by kba_size) (by omega) (by kba_size) (by kba_size)) (samp_len (by kba_size) (by omega)) (by k_asm) (by k_asm) (by k_asm) (by k_asm) (by k_asm) (by exact rfl) (by exact rfl) (by exact rfl) (by ktr_room) (by ktr_units) ?_); intro Y9 t9 h9 tk9 zs9 e9 q9 l9 F9 N9; (try simp only [Int.reduceToNat] at q9 l9); tb_rel) | walk1) | (leave1; try dsimp only) | (with_reducible refine dABin ?_) | (with_reducible refine dAName ?_) | (with_reducible refine dAStore ?_) | (with_reducible refine dACmp ?_) | (with_reducible refine dATru ?_) | (with_reducible refine dASub ?_) | (with_reducible refine dSplNil ?_))
  refine dExecs (dAny ?_)
  (try k_fold)
  repeat' (first | (k_unfold; (try dsimp only)) | (k_end; wrow_close) | (k_here; (with_reducible show wpAny _ _ (call (Value.ref 291) _) _ _ _); k_dflt (refine useLE (c_tnum _ _ _ _ _ _ (by kba_ints2) (by kba_ints2) (slice_le4 (by omega)) (by assumption)) (zip_le (slice_le4 (by omega)) (by assumption)) (by k_asm) (by k_asm) (by k_asm) (by k_asm) (by k_asm) (by exact rfl) (by exact rfl) (by exact rfl) (by ktr_room) (by ktr_units) ?_); intro Y9 t9 h9 tk9 zs9 e9 q9 l9 F9 N9; (try simp only [Int.reduceToNat] at q9 l9); tb_rel) | (k_here; (with_reducible show wpAny _ _ (call (Value.ref 286) _) _ _ _); k_dflt (refine useIR (c_tfirst _ _ _ _ _ (by kba_ints2) (by assumption) (by assumption) (by assumption)) (firstX_in (by assumption) (by assumption) (getD0_in (by assumption))) (by k_asm) (by k_asm) (by k_asm) (by k_asm) (by k_asm) (by exact rfl) (by exact rfl) (by exact rfl) (by ktr_room) (by ktr_units) ?_); intro y9 t9 h9 tk9 e9 lo9 hi9 F9 N9; tb_rel) | (k_here; (with_reducible show wpAny _ _ (call (Value.ref 298) _) _ _ _); k_dflt (refine useL (c_sample _ _ _ _ _ _ _ (by kba_ints2) (by kba_size) (by omega) (by kba_size) (by kba_size)) (samp_len (by kba_size) (by omega)) (by k_asm) (by k_asm) (by k_asm) (by k_asm) (by k_asm) (by exact rfl) (by exact rfl) (by exact rfl) (by ktr_room) (by ktr_units) ?_); intro Y9 t9 h9 tk9 zs9 e9 q9 l9 F9 N9; (try simp only [Int.reduceToNat] at q9 l9); tb_rel) | walk1 | (dsimp only; first | (k_here; (with_reducible show wpAny _ _ (call (Value.ref 291) _) _ _ _); k_dflt (refine useLE (c_tnum _ _ _ _ _ _ (by kba_ints2) (by kba_ints2) (slice_le4 (by omega)) (by assumption)) (zip_le (slice_le4 (by omega)) (by assumption)) (by k_asm) (by k_asm) (by k_asm) (by k_asm) (by k_asm) (by exact rfl) (by exact rfl) (by exact rfl) (by ktr_room) (by ktr_units) ?_); intro Y9 t9 h9 tk9 zs9 e9 q9 l9 F9 N9; (try simp only [Int.reduceToNat] at q9 l9); tb_rel) | (k_here; (with_reducible show wpAny _ _ (call (Value.ref 286) _) _ _ _); k_dflt (refine useIR (c_tfirst _ _ _ _ _ (by kba_ints2) (by assumption) (by assumption) (by assumption)) (firstX_in (by assumption) (by assumption) (getD0_in (by assumption))) (by k_asm) (by k_asm) (by k_asm) (by k_asm) (by k_asm) (by exact rfl) (by exact rfl) (by exact rfl) (by ktr_room) (by ktr_units) ?_); intro y9 t9 h9 tk9 e9 lo9 hi9 F9 N9; tb_rel) | (k_here; (with_reducible show wpAny _ _ (call (Value.ref 298) _) _ _ _); k_dflt (refine useL (c_sample _ _ _ _ _ _ _ (by kba_ints2) (by kba_size) (by omega) (by kba_size) (by kba_size)) (samp_len (by kba_size) (by omega)) (by k_asm) (by k_asm) (by k_asm) (by k_asm) (by k_asm) (by exact rfl) (by exact rfl) (by exact rfl) (by ktr_room) (by ktr_units) ?_); intro Y9 t9 h9 tk9 zs9 e9 q9 l9 F9 N9; (try simp only [Int.reduceToNat] at q9 l9); tb_rel) | walk1) | (leave1; try dsimp only) | (with_reducible refine dABin ?_) | (with_reducible refine dAName ?_) | (with_reducible refine dAStore ?_) | (with_reducible refine dACmp ?_) | (with_reducible refine dATru ?_) | (with_reducible refine dASub ?_) | (with_reducible refine dSplNil ?_))
  refine dExecs (dAssign (dCallName ?_))
  repeat' (first | (k_unfold; (try dsimp only)) | (k_end; wrow_close) | (k_here; (with_reducible show wpAny _ _ (call (Value.ref 291) _) _ _ _); k_dflt (refine useLE (c_tnum _ _ _ _ _ _ (by kba_ints2) (by kba_ints2) (slice_le4 (by omega)) (by assumption)) (zip_le (slice_le4 (by omega)) (by assumption)) (by k_asm) (by k_asm) (by k_asm) (by k_asm) (by k_asm) (by exact rfl) (by exact rfl) (by exact rfl) (by ktr_room) (by ktr_units) ?_); intro Y9 t9 h9 tk9 zs9 e9 q9 l9 F9 N9; (try simp only [Int.reduceToNat] at q9 l9); tb_rel) | (k_here; (with_reducible show wpAny _ _ (call (Value.ref 286) _) _ _ _); k_dflt (refine useIR (c_tfirst _ _ _ _ _ (by kba_ints2) (by assumption) (by assumption) (by assumption)) (firstX_in (by assumption) (by assumption) (getD0_in (by assumption))) (by k_asm) (by k_asm) (by k_asm) (by k_asm) (by k_asm) (by exact rfl) (by exact rfl) (by exact rfl) (by ktr_room) (by ktr_units) ?_); intro y9 t9 h9 tk9 e9 lo9 hi9 F9 N9; tb_rel) | (k_here; (with_reducible show wpAny _ _ (call (Value.ref 298) _) _ _ _); k_dflt (refine useL (c_sample _ _ _ _ _ _ _ (by kba_ints2) (by kba_size) (by omega) (by kba_size) (by kba_size)) (samp_len (by kba_size) (by omega)) (by k_asm) (by k_asm) (by k_asm) (by k_asm) (by k_asm) (by exact rfl) (by exact rfl) (by exact rfl) (by ktr_room) (by ktr_units) ?_); intro Y9 t9 h9 tk9 zs9 e9 q9 l9 F9 N9; (try simp only [Int.reduceToNat] at q9 l9); tb_rel) | walk1 | (dsimp only; first | (k_here; (with_reducible show wpAny _ _ (call (Value.ref 291) _) _ _ _); k_dflt (refine useLE (c_tnum _ _ _ _ _ _ (by kba_ints2) (by kba_ints2) (slice_le4 (by omega)) (by assumption)) (zip_le (slice_le4 (by omega)) (by assumption)) (by k_asm) (by k_asm) (by k_asm) (by k_asm) (by k_asm) (by exact rfl) (by exact rfl) (by exact rfl) (by ktr_room) (by ktr_units) ?_); intro Y9 t9 h9 tk9 zs9 e9 q9 l9 F9 N9; (try simp only [Int.reduceToNat] at q9 l9); tb_rel) | (k_here; (with_reducible show wpAny _ _ (call (Value.ref 286) _) _ _ _); k_dflt (refine useIR (c_tfirst _ _ _ _ _ (by kba_ints2) (by assumption) (by assumption) (by assumption)) (firstX_in (by assumption) (by assumption) (getD0_in (by assumption))) (by k_asm) (by k_asm) (by k_asm) (by k_asm) (by k_asm) (by exact rfl) (by exact rfl) (by exact rfl) (by ktr_room) (by ktr_units) ?_); intro y9 t9 h9 tk9 e9 lo9 hi9 F9 N9; tb_rel) | (k_here; (with_reducible show wpAny _ _ (call (Value.ref 298) _) _ _ _); k_dflt (refine useL (c_sample _ _ _ _ _ _ _ (by kba_ints2) (by kba_size) (by omega) (by kba_size) (by kba_size)) (samp_len (by kba_size) (by omega)) (by k_asm) (by k_asm) (by k_asm) (by k_asm) (by k_asm) (by exact rfl) (by exact rfl) (by exact rfl) (by ktr_room) (by ktr_units) ?_); intro Y9 t9 h9 tk9 zs9 e9 q9 l9 F9 N9; (try simp only [Int.reduceToNat] at q9 l9); tb_rel) | walk1) | (leave1; try dsimp only) | (with_reducible refine dABin ?_) | (with_reducible refine dAName ?_) | (with_reducible refine dAStore ?_) | (with_reducible refine dACmp ?_) | (with_reducible refine dATru ?_) | (with_reducible refine dASub ?_) | (with_reducible refine dSplNil ?_))
  refine dCallWith (K := Mine.hd.heap_39 w.params) (by kernel_rfl) (dAny ?_)
  (try k_fold)
  repeat' (first | (k_unfold; (try dsimp only)) | (k_end; wrow_close) | (k_here; (with_reducible show wpAny _ _ (call (Value.ref 291) _) _ _ _); k_dflt (refine useLE (c_tnum _ _ _ _ _ _ (by kba_ints2) (by kba_ints2) (slice_le4 (by omega)) (by assumption)) (zip_le (slice_le4 (by omega)) (by assumption)) (by k_asm) (by k_asm) (by k_asm) (by k_asm) (by k_asm) (by exact rfl) (by exact rfl) (by exact rfl) (by ktr_room) (by ktr_units) ?_); intro Y9 t9 h9 tk9 zs9 e9 q9 l9 F9 N9; (try simp only [Int.reduceToNat] at q9 l9); tb_rel) | (k_here; (with_reducible show wpAny _ _ (call (Value.ref 286) _) _ _ _); k_dflt (refine useIR (c_tfirst _ _ _ _ _ (by kba_ints2) (by assumption) (by assumption) (by assumption)) (firstX_in (by assumption) (by assumption) (getD0_in (by assumption))) (by k_asm) (by k_asm) (by k_asm) (by k_asm) (by k_asm) (by exact rfl) (by exact rfl) (by exact rfl) (by ktr_room) (by ktr_units) ?_); intro y9 t9 h9 tk9 e9 lo9 hi9 F9 N9; tb_rel) | (k_here; (with_reducible show wpAny _ _ (call (Value.ref 298) _) _ _ _); k_dflt (refine useL (c_sample _ _ _ _ _ _ _ (by kba_ints2) (by kba_size) (by omega) (by kba_size) (by kba_size)) (samp_len (by kba_size) (by omega)) (by k_asm) (by k_asm) (by k_asm) (by k_asm) (by k_asm) (by exact rfl) (by exact rfl) (by exact rfl) (by ktr_room) (by ktr_units) ?_); intro Y9 t9 h9 tk9 zs9 e9 q9 l9 F9 N9; (try simp only [Int.reduceToNat] at q9 l9); tb_rel) | walk1 | (dsimp only; first | (k_here; (with_reducible show wpAny _ _ (call (Value.ref 291) _) _ _ _); k_dflt (refine useLE (c_tnum _ _ _ _ _ _ (by kba_ints2) (by kba_ints2) (slice_le4 (by omega)) (by assumption)) (zip_le (slice_le4 (by omega)) (by assumption)) (by k_asm) (by k_asm) (by k_asm) (by k_asm) (by k_asm) (by exact rfl) (by exact rfl) (by exact rfl) (by ktr_room) (by ktr_units) ?_); intro Y9 t9 h9 tk9 zs9 e9 q9 l9 F9 N9; (try simp only [Int.reduceToNat] at q9 l9); tb_rel) | (k_here; (with_reducible show wpAny _ _ (call (Value.ref 286) _) _ _ _); k_dflt (refine useIR (c_tfirst _ _ _ _ _ (by kba_ints2) (by assumption) (by assumption) (by assumption)) (firstX_in (by assumption) (by assumption) (getD0_in (by assumption))) (by k_asm) (by k_asm) (by k_asm) (by k_asm) (by k_asm) (by exact rfl) (by exact rfl) (by exact rfl) (by ktr_room) (by ktr_units) ?_); intro y9 t9 h9 tk9 e9 lo9 hi9 F9 N9; tb_rel) | (k_here; (with_reducible show wpAny _ _ (call (Value.ref 298) _) _ _ _); k_dflt (refine useL (c_sample _ _ _ _ _ _ _ (by kba_ints2) (by kba_size) (by omega) (by kba_size) (by kba_size)) (samp_len (by kba_size) (by omega)) (by k_asm) (by k_asm) (by k_asm) (by k_asm) (by k_asm) (by exact rfl) (by exact rfl) (by exact rfl) (by ktr_room) (by ktr_units) ?_); intro Y9 t9 h9 tk9 zs9 e9 q9 l9 F9 N9; (try simp only [Int.reduceToNat] at q9 l9); tb_rel) | walk1) | (leave1; try dsimp only) | fail "no step")
  (try dsimp only)
  refine dUseL (c_hmask _ _ _ _ _ _ (by kba_ints2) (by kba_ints2)) (hmask_len _ _) (by k_asm) (by k_asm) (by k_asm) (by k_asm) (by k_asm) (by exact rfl) (by exact rfl) (by exact rfl) (by exact rfl) (by ktr_room) (by ktr_units) ?_
  intro Y9 t9 h9 tk9 zs9 e9 q9 l9 F9 N9
  (try simp only [Int.reduceToNat] at q9 l9)
  tb_rel
  repeat' (first | (k_unfold; (try dsimp only)) | (k_end; wrow_close) | (k_here; (with_reducible show wpAny _ _ (call (Value.ref 291) _) _ _ _); k_dflt (refine useLE (c_tnum _ _ _ _ _ _ (by kba_ints2) (by kba_ints2) (slice_le4 (by omega)) (by assumption)) (zip_le (slice_le4 (by omega)) (by assumption)) (by k_asm) (by k_asm) (by k_asm) (by k_asm) (by k_asm) (by exact rfl) (by exact rfl) (by exact rfl) (by ktr_room) (by ktr_units) ?_); intro Y9 t9 h9 tk9 zs9 e9 q9 l9 F9 N9; (try simp only [Int.reduceToNat] at q9 l9); tb_rel) | (k_here; (with_reducible show wpAny _ _ (call (Value.ref 286) _) _ _ _); k_dflt (refine useIR (c_tfirst _ _ _ _ _ (by kba_ints2) (by assumption) (by assumption) (by assumption)) (firstX_in (by assumption) (by assumption) (getD0_in (by assumption))) (by k_asm) (by k_asm) (by k_asm) (by k_asm) (by k_asm) (by exact rfl) (by exact rfl) (by exact rfl) (by ktr_room) (by ktr_units) ?_); intro y9 t9 h9 tk9 e9 lo9 hi9 F9 N9; tb_rel) | (k_here; (with_reducible show wpAny _ _ (call (Value.ref 298) _) _ _ _); k_dflt (refine useL (c_sample _ _ _ _ _ _ _ (by kba_ints2) (by kba_size) (by omega) (by kba_size) (by kba_size)) (samp_len (by kba_size) (by omega)) (by k_asm) (by k_asm) (by k_asm) (by k_asm) (by k_asm) (by exact rfl) (by exact rfl) (by exact rfl) (by ktr_room) (by ktr_units) ?_); intro Y9 t9 h9 tk9 zs9 e9 q9 l9 F9 N9; (try simp only [Int.reduceToNat] at q9 l9); tb_rel) | walk1 | (dsimp only; first | (k_here; (with_reducible show wpAny _ _ (call (Value.ref 291) _) _ _ _); k_dflt (refine useLE (c_tnum _ _ _ _ _ _ (by kba_ints2) (by kba_ints2) (slice_le4 (by omega)) (by assumption)) (zip_le (slice_le4 (by omega)) (by assumption)) (by k_asm) (by k_asm) (by k_asm) (by k_asm) (by k_asm) (by exact rfl) (by exact rfl) (by exact rfl) (by ktr_room) (by ktr_units) ?_); intro Y9 t9 h9 tk9 zs9 e9 q9 l9 F9 N9; (try simp only [Int.reduceToNat] at q9 l9); tb_rel) | (k_here; (with_reducible show wpAny _ _ (call (Value.ref 286) _) _ _ _); k_dflt (refine useIR (c_tfirst _ _ _ _ _ (by kba_ints2) (by assumption) (by assumption) (by assumption)) (firstX_in (by assumption) (by assumption) (getD0_in (by assumption))) (by k_asm) (by k_asm) (by k_asm) (by k_asm) (by k_asm) (by exact rfl) (by exact rfl) (by exact rfl) (by ktr_room) (by ktr_units) ?_); intro y9 t9 h9 tk9 e9 lo9 hi9 F9 N9; tb_rel) | (k_here; (with_reducible show wpAny _ _ (call (Value.ref 298) _) _ _ _); k_dflt (refine useL (c_sample _ _ _ _ _ _ _ (by kba_ints2) (by kba_size) (by omega) (by kba_size) (by kba_size)) (samp_len (by kba_size) (by omega)) (by k_asm) (by k_asm) (by k_asm) (by k_asm) (by k_asm) (by exact rfl) (by exact rfl) (by exact rfl) (by ktr_room) (by ktr_units) ?_); intro Y9 t9 h9 tk9 zs9 e9 q9 l9 F9 N9; (try simp only [Int.reduceToNat] at q9 l9); tb_rel) | walk1) | (leave1; try dsimp only) | (with_reducible refine dABin ?_) | (with_reducible refine dAName ?_) | (with_reducible refine dAStore ?_) | (with_reducible refine dACmp ?_) | (with_reducible refine dATru ?_) | (with_reducible refine dASub ?_) | (with_reducible refine dSplNil ?_))
  refine dAny ?_
  (try k_fold)
  repeat' (first | (k_unfold; (try dsimp only)) | (k_end; wrow_close) | (k_here; (with_reducible show wpAny _ _ (call (Value.ref 291) _) _ _ _); k_dflt (refine useLE (c_tnum _ _ _ _ _ _ (by kba_ints2) (by kba_ints2) (slice_le4 (by omega)) (by assumption)) (zip_le (slice_le4 (by omega)) (by assumption)) (by k_asm) (by k_asm) (by k_asm) (by k_asm) (by k_asm) (by exact rfl) (by exact rfl) (by exact rfl) (by ktr_room) (by ktr_units) ?_); intro Y9 t9 h9 tk9 zs9 e9 q9 l9 F9 N9; (try simp only [Int.reduceToNat] at q9 l9); tb_rel) | (k_here; (with_reducible show wpAny _ _ (call (Value.ref 286) _) _ _ _); k_dflt (refine useIR (c_tfirst _ _ _ _ _ (by kba_ints2) (by assumption) (by assumption) (by assumption)) (firstX_in (by assumption) (by assumption) (getD0_in (by assumption))) (by k_asm) (by k_asm) (by k_asm) (by k_asm) (by k_asm) (by exact rfl) (by exact rfl) (by exact rfl) (by ktr_room) (by ktr_units) ?_); intro y9 t9 h9 tk9 e9 lo9 hi9 F9 N9; tb_rel) | (k_here; (with_reducible show wpAny _ _ (call (Value.ref 298) _) _ _ _); k_dflt (refine useL (c_sample _ _ _ _ _ _ _ (by kba_ints2) (by kba_size) (by omega) (by kba_size) (by kba_size)) (samp_len (by kba_size) (by omega)) (by k_asm) (by k_asm) (by k_asm) (by k_asm) (by k_asm) (by exact rfl) (by exact rfl) (by exact rfl) (by ktr_room) (by ktr_units) ?_); intro Y9 t9 h9 tk9 zs9 e9 q9 l9 F9 N9; (try simp only [Int.reduceToNat] at q9 l9); tb_rel) | walk1 | (dsimp only; first | (k_here; (with_reducible show wpAny _ _ (call (Value.ref 291) _) _ _ _); k_dflt (refine useLE (c_tnum _ _ _ _ _ _ (by kba_ints2) (by kba_ints2) (slice_le4 (by omega)) (by assumption)) (zip_le (slice_le4 (by omega)) (by assumption)) (by k_asm) (by k_asm) (by k_asm) (by k_asm) (by k_asm) (by exact rfl) (by exact rfl) (by exact rfl) (by ktr_room) (by ktr_units) ?_); intro Y9 t9 h9 tk9 zs9 e9 q9 l9 F9 N9; (try simp only [Int.reduceToNat] at q9 l9); tb_rel) | (k_here; (with_reducible show wpAny _ _ (call (Value.ref 286) _) _ _ _); k_dflt (refine useIR (c_tfirst _ _ _ _ _ (by kba_ints2) (by assumption) (by assumption) (by assumption)) (firstX_in (by assumption) (by assumption) (getD0_in (by assumption))) (by k_asm) (by k_asm) (by k_asm) (by k_asm) (by k_asm) (by exact rfl) (by exact rfl) (by exact rfl) (by ktr_room) (by ktr_units) ?_); intro y9 t9 h9 tk9 e9 lo9 hi9 F9 N9; tb_rel) | (k_here; (with_reducible show wpAny _ _ (call (Value.ref 298) _) _ _ _); k_dflt (refine useL (c_sample _ _ _ _ _ _ _ (by kba_ints2) (by kba_size) (by omega) (by kba_size) (by kba_size)) (samp_len (by kba_size) (by omega)) (by k_asm) (by k_asm) (by k_asm) (by k_asm) (by k_asm) (by exact rfl) (by exact rfl) (by exact rfl) (by ktr_room) (by ktr_units) ?_); intro Y9 t9 h9 tk9 zs9 e9 q9 l9 F9 N9; (try simp only [Int.reduceToNat] at q9 l9); tb_rel) | walk1) | (leave1; try dsimp only) | (with_reducible refine dABin ?_) | (with_reducible refine dAName ?_) | (with_reducible refine dAStore ?_) | (with_reducible refine dACmp ?_) | (with_reducible refine dATru ?_) | (with_reducible refine dASub ?_) | (with_reducible refine dSplNil ?_))
  rename News _ _ _ _ => N9
  refine hret _ _ _ ⟨_, _, _, _, _, rfl, (N9 _ (.head _)).2.2, (N9 _ (.head _)).1, ?_, ?_⟩ (Fr.keep (L := L') (by k_asm))
  · refine Eq.trans (by assumption) (bare_fin (by assumption) (by assumption) (by assumption) (by assumption) (by assumption) hna hle)
  · exact congrArg (fun t : Int => t.fmod 4 + 1) (bare_f (by assumption) (by assumption) (by assumption))
end
local macro_rules | `(tactic| o_reads) => `(tactic| first | assumption | exact sz_up (by assumption) (by assumption) | exact sz_up (by assumption) (sz_up (by assumption) (by assumption)) | exact sz_up (by assumption) (sz_up (by assumption) (sz_up (by assumption) (by assumption))))
section
local macro_rules | `(tactic| walk_at "exec Raise some none") => `(tactic| (k_here; k_dflt (refine x_Raise0 (by exact rfl) ?_)))
local macro_rules | `(tactic| walk_at "RaiseX") => `(tactic| (k_here; k_dflt (refine fin_raiseF (by assumption) (by assumption) (by assumption) (by assumption) ?_); (try dsimp only)))
local macro_rules | `(tactic| walk_at "leaving ref") => `(tactic| (k_here; k_dflt (first
  | (refine fin_on (by assumption) (by assumption) ?_; intro h9 fl9 up9)
  | (refine fin_new (by assumption) (by assumption) (by assumption) (by exact rfl) ?_; intro h9 D9 fl9 up9 ns9)); tb_rel))
section
variable {w : World} {p : Program} {loose : List Str} {mean : ExcName → Option Value} {mg mb : Str → Option Value}
local macro_rules | `(tactic| walk_at "exec For Name Subscript cons nil") => `(tactic| (k_here; (rename Fr _ _ _ _ => lF'); (with_unfolding_all refine' For_invVF lF' ?k1 ?k2 ?_; (case k1 => exact rfl); (case k2 => exact rfl); k_whole)))
noncomputable def noInv : Heap → Option Addr → Value → Prop := fun _ _ c => c = .none
noncomputable def be2n (ks : List Int) : Int := ks.foldl (fun f o => f * 256 + o) 0
set_option maxHeartbeats 4000000 in
theorem x_getwhole (b : Array UInt8) (tb : Tok) (i z : Int) (ti tz : Tok) (ks : List Int) (hb : KBw.bInts b = ks) (hk : ks.length ≤ 1000) (hi : 0 ≤ i) (hz : 0 ≤ z) (hz1 : z ≤ 4) :
   ECon w p loose mean mg mb 96 [.bytes b tb, .int i ti, .int z tz] 5 40 (fun h h' v => i + z ≤ ks.length ∧ isI (be2n ((ks.drop i.toNat).take z.toNat)) h h' v) 58 (fun h D c => ¬ i + z ≤ ks.length ∧ noInv h D c) := by
  refine econ_of fun dp un gd base l s R B XB TB X T hsz hd hu hret hx => ?_
  refine enter (binds := [(Str.ofString "data", .bytes b tb), (Str.ofString "at", .int i ti), (Str.ofString "size", .int z tz)]) X T (by k_is) (by k_is) (by ktr_room) (BindsTo.of_eq rfl) (locs rfl) (fun L' h₁' F' N' => ?_) rfl rfl rfl (by decide)
  (dsimp only [List.reverse, List.reverseAux, bmap] at F')
  (try dsimp only)
  (try k_fold)
  repeat' (first | (k_unfold; (try dsimp only)) | (k_end; wrow_close) | (k_here; (with_reducible show wpAny _ _ (call (Value.ref 38) _) _ _ _); k_dflt (refine mkQuicF (by decide) (by k_asm) (by k_asm) (by k_asm) (by ktr_room) (by ktr_units) ?_); intro e9 h9 tk9 mA9 N9 q9; tb_rel) | (k_here; (with_reducible show wpAny _ _ (call (Value.ref 78) _) _ _ _); k_dflt (refine mkRefusedF (by k_asm) (by k_asm) (by k_asm) (by ktr_room) (by ktr_units) ?_); intro e9 h9 tk9 mA9 N9; tb_rel) | (k_here; (with_reducible show wpAny _ _ (call (Value.ref 58) _) _ _ _); k_dflt (refine mkShortF (by k_asm) (by k_asm) (by k_asm) (by ktr_room) (by ktr_units) ?_); intro e9 h9 tk9 mA9 N9; tb_rel) | walk1 | (dsimp only; first | (k_here; (with_reducible show wpAny _ _ (call (Value.ref 38) _) _ _ _); k_dflt (refine mkQuicF (by decide) (by k_asm) (by k_asm) (by k_asm) (by ktr_room) (by ktr_units) ?_); intro e9 h9 tk9 mA9 N9 q9; tb_rel) | (k_here; (with_reducible show wpAny _ _ (call (Value.ref 78) _) _ _ _); k_dflt (refine mkRefusedF (by k_asm) (by k_asm) (by k_asm) (by ktr_room) (by ktr_units) ?_); intro e9 h9 tk9 mA9 N9; tb_rel) | (k_here; (with_reducible show wpAny _ _ (call (Value.ref 58) _) _ _ _); k_dflt (refine mkShortF (by k_asm) (by k_asm) (by k_asm) (by ktr_room) (by ktr_units) ?_); intro e9 h9 tk9 mA9 N9; tb_rel) | walk1) | (leave1; try dsimp only) | fail "no step")
  · refine raise_out B (by k_asm) (by assumption) (cls58 X) rfl fun h8 D8 fl8 up8 _ => ?_
    exact hx _ _ _ _ _ fl8 up8 ⟨by omega, rfl⟩
  · refine hret _ _ _ ⟨by omega, ?_⟩ (Fr.keep (L := L') (by k_asm))
    rw [PyProof.Rows.clipAt_in (by omega) (by omega), PyProof.Rows.clipAt_in hi (by omega), show (i + z).toNat - i.toNat = z.toNat from toNatDiff (by omega) (by omega) rfl]
    exact ⟨_, rfl⟩
end
theorem rstC6 {M : Model} {A : Around} {env : Env} {Q : Flow → Shared → Prop} {E : Value → Shared → Prop} {s : Shared} (h : Q .next s) : wpAny M A (execs [] env) Q E s := by
  first | (walk1; fail) | exact wpAny_execs_nil h
section
variable {w : World} {p : Program} {loose : List Str} {mean : ExcName → Option Value} {mg mb : Str → Option Value}
theorem be2n_one {ks : List Int} {i : Nat} (h : i < ks.length) : be2n ((ks.drop i).take 1) = ks.getD i 0 := by
  have e : (ks.drop i).take 1 = [ks.getD i 0] := by
    rw [List.drop_eq_getElem_cons h, List.take_succ_cons, List.take_zero]
    simp [List.getD_eq_getElem?_getD, h]
  rw [e]; simp [be2n]
theorem x_whole1 (b : Array UInt8) (tb : Tok) (i : Int) (ti tz : Tok) (ks : List Int) (hb : KBw.bInts b = ks) (hk : ks.length ≤ 1000) (hi : 0 ≤ i) :
   ECon w p loose mean mg mb 96 [.bytes b tb, .int i ti, .int 1 tz] 5 40 (fun h h' v => (i + 1 ≤ ks.length ∧ 0 ≤ ks.getD i.toNat 0 ∧ ks.getD i.toNat 0 < 256) ∧ isI (ks.getD i.toNat 0) h h' v) 58 (fun h D c => ¬ i + 1 ≤ ks.length ∧ noInv h D c) := by
  intro A base l s hh B X T hsz hd hu
  refine codeAny_mono (x_getwhole b tb i 1 ti tz ks hb hk hi (by decide) (by decide) A base l s hh B X T hsz hd hu) fun r s' hr => ?_
  rcases hr with ⟨v, h', tk', e1, e2, ⟨hp, hv⟩, st⟩ | hx
  · refine .inl ⟨v, h', tk', e1, e2, ⟨⟨hp, KBw.getD_in (bInts_in' hb)⟩, ?_⟩, st⟩
    rw [← be2n_one (by omega)]; exact hv
  · exact .inr hx
theorem x_whole4 (b : Array UInt8) (tb : Tok) (i : Int) (ti tz : Tok) (ks : List Int) (hb : KBw.bInts b = ks) (hk : ks.length ≤ 1000) (hi : i = 1) (hv : 5 ≤ ks.length → be2n ((ks.drop 1).take 4) = 1) :
   ECon w p loose mean mg mb 96 [.bytes b tb, .int i ti, .int 4 tz] 5 40 (fun h h' v => (i + 4 ≤ ks.length ∧ (0:Int) ≤ 1 ∧ (1:Int) < 256) ∧ isI 1 h h' v) 58 (fun h D c => ¬ i + 4 ≤ ks.length ∧ noInv h D c) := by
  subst hi
  intro A base l s hh B X T hsz hd hu
  refine codeAny_mono (x_getwhole b tb 1 4 ti tz ks hb hk (by decide) (by decide) (by decide) A base l s hh B X T hsz hd hu) fun r s' hr => ?_
  rcases hr with ⟨v, h', tk', e1, e2, ⟨hp, hv'⟩, st⟩ | hx
  · refine .inl ⟨v, h', tk', e1, e2, ⟨⟨hp, by decide, by decide⟩, ?_⟩, st⟩
    rw [← hv (by omega)]; exact hv'
  · exact .inr hx
section
variable {f C : Addr} {vs : List Value} {d u : Nat} {x : Int} {c1 c2 c3 : Prop} {I : Heap → Option Addr → Value → Prop}
variable {A A₀ : Around} {base h₀ : Heap} {outer : List Env} {L a : Addr} {m : Str → Option Value} {cn : Str} {cs : Scope} {ccd : Value} {news : List (Addr × Obj)} {s : Shared} {Q E : Value → Shared → Prop}
theorem useEI (K : ECon w p loose mean mg mb f vs d u (fun h h' v => (c1 ∧ c2 ∧ c3) ∧ isI x h h' v) C I) (F : Fr h₀ L s.heap m) (hA : A.frames = some (envOf cn cs L a ccd :: outer)) (B : Below A₀ base outer h₀) (X : (hd.heap_39 w.params).In base) (T : Top p loose mean mg mb base) (hsz : base.objs.size ≤ h₀.objs.size) (N : News h₀ L s.heap news)
    (hh : A.handled = none) (hk : cs.kind = .function) (hdp : A.depth + d < recursionLimit) (hun : A.units + u < cLine)
    (k : ∀ y t h' tk', y = x → c1 → c2 → c3 → Fr h₀ L h' m → News h₀ L h' news → Q (.int y t) { s with heap := h', toks := tk' })
    (kx : ∀ e h' tk' D c, Fly base (envOf cn cs L a ccd :: outer) e C D c .none h' → s.heap.UpToSlots h' → h₀.UpToSlots h' → I h' D c → E (.ref e) { s with heap := h', toks := tk' }) :
    wpAny (model PySem.Challenge.rw_no0081_01.row.prog w) A (call (.ref f) vs) Q E s :=
  useE K B F X T hsz N hA hh hk hdp hun (fun v h' tk' hP _ F' N' => by obtain ⟨⟨hc, hc2, hc3⟩, t, e⟩ := hP; subst e; exact k x t h' tk' rfl hc hc2 hc3 F' N') kx
end
noncomputable def invEnd (ks : List Int) : Int := 7 + ks.getD 5 0 + ks.getD (6 + ks.getD 5 0).toNat 0
theorem inv_ge {b : Array UInt8} {ks : List Int} (hb : KBw.bInts b = ks) : 7 ≤ invEnd ks := by
  have h1 := (KBw.getD_in (j := 5) (bInts_in' hb)).1
  have h2 := (KBw.getD_in (j := (6 + ks.getD 5 0).toNat) (bInts_in' hb)).1
  unfold invEnd; omega
theorem inv_ge5 {b : Array UInt8} {ks : List Int} {y : Int} (hb : KBw.bInts b = ks) (e : y = ks.getD 5 0) : 7 + y ≤ invEnd ks := by
  subst e
  have h2 := (KBw.getD_in (j := (6 + ks.getD 5 0).toNat) (bInts_in' hb)).1
  unfold invEnd; omega
theorem inv_eq {ks : List Int} {y z : Int} (e : y = ks.getD 5 0) (e' : z = ks.getD (6 + y).toNat 0) : invEnd ks = 7 + y + z := by subst e; subst e'; rfl
inductive InvOut (ks : List Int) (h h' : Heap) (v : Value) : Prop
  | mk (q0 : invEnd ks ≤ ks.length) (t : Addr) (D S : Array UInt8) (n0 n1 n4 : Int) (t1 t2 t3 t4 t5 : Tok) (q1 : v = .ref t) (q2 : h.get? t = none) (q3 : h'.get? t = some { cls := .type "tuple", data := .seq #[.int n0 t1, .int n1 t2, .bytes D t3, .bytes S t4, .int n4 t5] })
    (q4 : n0 = ks.getD 0 0) (q5 : n1 = 1) (q6 : n4 = invEnd ks) (q7 : KBw.bInts D = (ks.drop 6).take (ks.getD 5 0).toNat) (q8 : KBw.bInts S = (ks.drop (7 + ks.getD 5 0).toNat).take (ks.getD (6 + ks.getD 5 0).toNat 0).toNat) : InvOut ks h h' v
theorem inv_sl1 {D : Array UInt8} {ks : List Int} {y p q : Int} (h : KBw.bInts D = (ks.drop (clipAt ks.length p)).take (clipAt ks.length q - clipAt ks.length p)) (e : y = ks.getD 5 0) (hp : p = 6) (hq : q = 6 + y) (h0 : 0 ≤ y) (h1 : 6 + y ≤ ks.length) :
    KBw.bInts D = (ks.drop 6).take (ks.getD 5 0).toNat := by
  rw [h, PyProof.Rows.clipAt_in (by omega) (by omega), PyProof.Rows.clipAt_in (by omega) (by omega), ← e, show q.toNat - p.toNat = y.toNat from toNatDiff (by rw [hp]; decide) h0 (by rw [hq, hp]), show p.toNat = 6 from by omega]
theorem inv_sl2 {D : Array UInt8} {ks : List Int} {y z p q : Int} (h : KBw.bInts D = (ks.drop (clipAt ks.length p)).take (clipAt ks.length q - clipAt ks.length p)) (e : y = ks.getD 5 0) (e' : z = ks.getD (6 + y).toNat 0) (hp : p = 7 + y) (hq : q = 7 + y + z) (h0 : 0 ≤ y) (h0' : 0 ≤ z) (h1 : 7 + y + z ≤ ks.length) :
    KBw.bInts D = (ks.drop (7 + ks.getD 5 0).toNat).take (ks.getD (6 + ks.getD 5 0).toNat 0).toNat := by
  rw [h, PyProof.Rows.clipAt_in (by omega) (by omega), PyProof.Rows.clipAt_in (by omega) (by omega), ← e, ← e', show q.toNat - p.toNat = z.toNat from toNatDiff (by omega) h0' (by rw [hq, hp]), show p.toNat = (7 + y).toNat from by omega]
set_option maxHeartbeats 4000000 in
theorem x_inv (b : Array UInt8) (tb : Tok) (t0 : Tok) (ks : List Int) (hb : KBw.bInts b = ks) (hk : ks.length ≤ 1000) (hv : 5 ≤ ks.length → be2n ((ks.drop 1).take 4) = 1) :
   ECon w p loose mean mg mb 195 [.bytes b tb, .int 0 t0] 20 100 (InvOut ks) 58 (fun h D c => ¬ invEnd ks ≤ ks.length ∧ noInv h D c) := by
  refine econ_of fun dp un gd base l s R B XB TB X T hsz hd hu hret hx => ?_
  refine enter (binds := [(Str.ofString "data", .bytes b tb), (Str.ofString "start", .int 0 t0)]) X T (by k_is) (by k_is) (by ktr_room) (BindsTo.of_eq rfl) (locs rfl) (fun L' h₁' F' N' => ?_) rfl rfl rfl (by decide)
  (dsimp only [List.reverse, List.reverseAux, bmap] at F')
  (try dsimp only)
  (have hC58 := cls58 XB)
  (have hC78 := cls78 XB)
  (have hC38 := cls38 XB)
  (try k_fold)
  repeat' (first | (k_unfold; (try dsimp only)) | (k_end; wrow_close) | (k_here; (with_reducible show wpAny _ _ (call (Value.ref 96) _) _ _ _); k_dflt (first | refine useEI (x_whole1 _ _ _ _ _ _ (by kba_ints2) (by assumption) (by omega)) (by k_asm) (by exact rfl) (by assumption) (by assumption) (by assumption) (by first | assumption | exact sz_up (by assumption) (by assumption) | exact sz_up (by assumption) (sz_up (by assumption) (by assumption)) | exact sz_up (by assumption) (sz_up (by assumption) (sz_up (by assumption) (by assumption)))) (by k_asm) (by exact rfl) (by exact rfl) (by ktr_room) (by ktr_units) ?_ ?_ | refine useEI (x_whole4 _ _ _ _ _ _ (by kba_ints2) (by assumption) (by omega) (by assumption)) (by k_asm) (by exact rfl) (by assumption) (by assumption) (by assumption) (by first | assumption | exact sz_up (by assumption) (by assumption) | exact sz_up (by assumption) (sz_up (by assumption) (by assumption)) | exact sz_up (by assumption) (sz_up (by assumption) (sz_up (by assumption) (by assumption)))) (by k_asm) (by exact rfl) (by exact rfl) (by ktr_room) (by ktr_units) ?_ ?_); rotate_left; intro e9 h9 tk9 D9 c9 fl9 up9 uq9 i9; (obtain ⟨i9, j9⟩ := i9); (try unfold noInv at j9); rotate_left; intro y9 t9 h9 tk9 e9 c9 d9 f9 F9 N9; (try simp only [Int.reduceAdd, Int.reduceToNat, Int.zero_add] at e9 c9 d9 f9); tb_rel) | (k_here; (with_reducible show wpAny _ _ (call (Value.ref 38) _) _ _ _); k_dflt (refine mkQuicF (by decide) (by k_asm) (by k_asm) (by k_asm) (by ktr_room) (by ktr_units) ?_); intro e9 h9 tk9 mA9 N9 q9; tb_rel) | (k_here; (with_reducible show wpAny _ _ (call (Value.ref 78) _) _ _ _); k_dflt (refine mkRefusedF (by k_asm) (by k_asm) (by k_asm) (by ktr_room) (by ktr_units) ?_); intro e9 h9 tk9 mA9 N9; tb_rel) | (k_here; (with_reducible show wpAny _ _ (call (Value.ref 58) _) _ _ _); k_dflt (refine mkShortF (by k_asm) (by k_asm) (by k_asm) (by ktr_room) (by ktr_units) ?_); intro e9 h9 tk9 mA9 N9; tb_rel) | walk1 | (dsimp only; first | (k_here; (with_reducible show wpAny _ _ (call (Value.ref 96) _) _ _ _); k_dflt (first | refine useEI (x_whole1 _ _ _ _ _ _ (by kba_ints2) (by assumption) (by omega)) (by k_asm) (by exact rfl) (by assumption) (by assumption) (by assumption) (by first | assumption | exact sz_up (by assumption) (by assumption) | exact sz_up (by assumption) (sz_up (by assumption) (by assumption)) | exact sz_up (by assumption) (sz_up (by assumption) (sz_up (by assumption) (by assumption)))) (by k_asm) (by exact rfl) (by exact rfl) (by ktr_room) (by ktr_units) ?_ ?_ | refine useEI (x_whole4 _ _ _ _ _ _ (by kba_ints2) (by assumption) (by omega) (by assumption)) (by k_asm) (by exact rfl) (by assumption) (by assumption) (by assumption) (by first | assumption | exact sz_up (by assumption) (by assumption) | exact sz_up (by assumption) (sz_up (by assumption) (by assumption)) | exact sz_up (by assumption) (sz_up (by assumption) (sz_up (by assumption) (by assumption)))) (by k_asm) (by exact rfl) (by exact rfl) (by ktr_room) (by ktr_units) ?_ ?_); rotate_left; intro e9 h9 tk9 D9 c9 fl9 up9 uq9 i9; (obtain ⟨i9, j9⟩ := i9); (try unfold noInv at j9); rotate_left; intro y9 t9 h9 tk9 e9 c9 d9 f9 F9 N9; (try simp only [Int.reduceAdd, Int.reduceToNat, Int.zero_add] at e9 c9 d9 f9); tb_rel) | (k_here; (with_reducible show wpAny _ _ (call (Value.ref 38) _) _ _ _); k_dflt (refine mkQuicF (by decide) (by k_asm) (by k_asm) (by k_asm) (by ktr_room) (by ktr_units) ?_); intro e9 h9 tk9 mA9 N9 q9; tb_rel) | (k_here; (with_reducible show wpAny _ _ (call (Value.ref 78) _) _ _ _); k_dflt (refine mkRefusedF (by k_asm) (by k_asm) (by k_asm) (by ktr_room) (by ktr_units) ?_); intro e9 h9 tk9 mA9 N9; tb_rel) | (k_here; (with_reducible show wpAny _ _ (call (Value.ref 58) _) _ _ _); k_dflt (refine mkShortF (by k_asm) (by k_asm) (by k_asm) (by ktr_room) (by ktr_units) ?_); intro e9 h9 tk9 mA9 N9; tb_rel) | walk1) | (leave1; try dsimp only) | fail "no step")
  all_goals first
    | (refine hx _ _ _ _ _ (by assumption) (by first | assumption | (refine Heap.UpToSlots.trans ?_ (by assumption); first | assumption | exact up_fr (by assumption) | (refine Heap.UpToSlots.trans ?_ (by assumption); first | assumption | exact up_fr (by assumption) | (refine Heap.UpToSlots.trans ?_ (by assumption); first | assumption | exact up_fr (by assumption))))) ⟨?_, ?_⟩
       · first
          | (have hq := inv_ge hb; omega)
          | (have hq := inv_ge5 hb (by assumption); omega)
          | (rw [inv_eq (by assumption) (by assumption)]; omega)
       · show _ = Value.none
         first | rfl | assumption)
    | skip
  rename News _ _ _ _ => N9
  refine hret _ _ _ ⟨?_, _, _, _, _, _, _, _, _, _, _, _, rfl, (N9 _ (.head _)).2.2, (N9 _ (.head _)).1, by assumption, by assumption, ?_, ?_, ?_⟩ (Fr.keep (by k_asm))
  · rw [inv_eq (by assumption) (by assumption)]; omega
  · rw [inv_eq (by assumption) (by assumption)]; omega
  · exact inv_sl1 (by assumption) (by assumption) (by omega) (by omega) (by omega) (by omega)
  · exact inv_sl2 (by assumption) (by assumption) (by assumption) (by omega) (by omega) (by omega) (by omega) (by omega)
end
section
variable {w : World} {p : Program} {loose : List Str} {mean : ExcName → Option Value} {mg mb : Str → Option Value}
theorem bitAnd_63 {y : Int} (h0 : 0 ≤ y) (h1 : y < 64) : Builtin.bitAnd y (1 * 2 ^ (8 * 1 - 2 : Int).toNat - 1) = y := by
  show Builtin.bitAnd y 63 = y
  unfold Builtin.bitAnd
  rw [decide_eq_true h0]
  show ((y.toNat &&& 63 : Nat) : Int) = y
  rw [show (63 : Nat) = 2 ^ 6 - 1 from rfl, Nat.and_two_pow_sub_one_eq_mod, Nat.mod_eq_of_lt (by omega)]
  omega
noncomputable def VarOut (ks : List Int) (i : Int) (h h' : Heap) (v : Value) : Prop :=
  (i < ks.length ∧ 0 ≤ ks.getD i.toNat 0 ∧ ks.getD i.toNat 0 < 64) ∧ ∃ t n0 n1 t1 t2, v = .ref t ∧ h.get? t = none ∧ h'.get? t = some { cls := .type "tuple", data := .seq #[.int n0 t1, .int n1 t2] } ∧ n0 = ks.getD i.toNat 0 ∧ n1 = i + 1
set_option maxHeartbeats 4000000 in
theorem x_varint (b : Array UInt8) (tb ti : Tok) (i : Int) (ks : List Int) (hb : KBw.bInts b = ks) (hk : ks.length ≤ 1000) (hi : 0 ≤ i) (hv : i < ks.length → ks.getD i.toNat 0 < 64) :
   ECon w p loose mean mg mb 103 [.bytes b tb, .int i ti] 20 100 (VarOut ks i) 58 (fun h D c => ¬ i < ks.length ∧ noInv h D c) := by
  refine econ_of fun dp un gd base l s R B XB TB X T hsz hd hu hret hx => ?_
  refine enter (binds := [(Str.ofString "data", .bytes b tb), (Str.ofString "at", .int i ti)]) X T (by k_is) (by k_is) (by ktr_room) (BindsTo.of_eq rfl) (locs rfl) (fun L' h₁' F' N' => ?_) rfl rfl rfl (by decide)
  (dsimp only [List.reverse, List.reverseAux, bmap] at F')
  (try dsimp only)
  (have hC58 := cls58 XB)
  (have hC78 := cls78 XB)
  (have hC38 := cls38 XB)
  (try k_fold)
  repeat' (first | ((fail_if_success (with_reducible show wpAny _ _ (subscriptTail _ _ (Value.ref 82) _) _ _ _)); first | (k_unfold; (try dsimp only)) | (k_end; wrow_close) | (k_here; (with_reducible show wpAny _ _ (call (Value.ref 96) _) _ _ _); k_dflt (first | refine useEI (x_whole1 _ _ _ _ _ _ (by kba_ints2) (by assumption) (by omega)) (by k_asm) (by exact rfl) (by assumption) (by assumption) (by assumption) (by first | assumption | exact sz_up (by assumption) (by assumption) | exact sz_up (by assumption) (sz_up (by assumption) (by assumption)) | exact sz_up (by assumption) (sz_up (by assumption) (sz_up (by assumption) (by assumption)))) (by k_asm) (by exact rfl) (by exact rfl) (by ktr_room) (by ktr_units) ?_ ?_); rotate_left; intro e9 h9 tk9 D9 c9 fl9 up9 uq9 i9; (obtain ⟨i9, j9⟩ := i9); (try unfold noInv at j9); rotate_left; intro y9 t9 h9 tk9 e9 c9 d9 f9 F9 N9; (try simp only [Int.reduceAdd, Int.reduceToNat, Int.zero_add] at e9 c9 d9 f9); tb_rel) | (k_here; (with_reducible show wpAny _ _ (call (Value.ref 38) _) _ _ _); k_dflt (refine mkQuicF (by decide) (by k_asm) (by k_asm) (by k_asm) (by ktr_room) (by ktr_units) ?_); intro e9 h9 tk9 mA9 N9 q9; tb_rel) | (k_here; (with_reducible show wpAny _ _ (call (Value.ref 78) _) _ _ _); k_dflt (refine mkRefusedF (by k_asm) (by k_asm) (by k_asm) (by ktr_room) (by ktr_units) ?_); intro e9 h9 tk9 mA9 N9; tb_rel) | (k_here; (with_reducible show wpAny _ _ (call (Value.ref 58) _) _ _ _); k_dflt (refine mkShortF (by k_asm) (by k_asm) (by k_asm) (by ktr_room) (by ktr_units) ?_); intro e9 h9 tk9 mA9 N9; tb_rel) | walk1 | (dsimp only; first | (k_here; (with_reducible show wpAny _ _ (call (Value.ref 96) _) _ _ _); k_dflt (first | refine useEI (x_whole1 _ _ _ _ _ _ (by kba_ints2) (by assumption) (by omega)) (by k_asm) (by exact rfl) (by assumption) (by assumption) (by assumption) (by first | assumption | exact sz_up (by assumption) (by assumption) | exact sz_up (by assumption) (sz_up (by assumption) (by assumption)) | exact sz_up (by assumption) (sz_up (by assumption) (sz_up (by assumption) (by assumption)))) (by k_asm) (by exact rfl) (by exact rfl) (by ktr_room) (by ktr_units) ?_ ?_); rotate_left; intro e9 h9 tk9 D9 c9 fl9 up9 uq9 i9; (obtain ⟨i9, j9⟩ := i9); (try unfold noInv at j9); rotate_left; intro y9 t9 h9 tk9 e9 c9 d9 f9 F9 N9; (try simp only [Int.reduceAdd, Int.reduceToNat, Int.zero_add] at e9 c9 d9 f9); tb_rel) | (k_here; (with_reducible show wpAny _ _ (call (Value.ref 38) _) _ _ _); k_dflt (refine mkQuicF (by decide) (by k_asm) (by k_asm) (by k_asm) (by ktr_room) (by ktr_units) ?_); intro e9 h9 tk9 mA9 N9 q9; tb_rel) | (k_here; (with_reducible show wpAny _ _ (call (Value.ref 78) _) _ _ _); k_dflt (refine mkRefusedF (by k_asm) (by k_asm) (by k_asm) (by ktr_room) (by ktr_units) ?_); intro e9 h9 tk9 mA9 N9; tb_rel) | (k_here; (with_reducible show wpAny _ _ (call (Value.ref 58) _) _ _ _); k_dflt (refine mkShortF (by k_asm) (by k_asm) (by k_asm) (by ktr_room) (by ktr_units) ?_); intro e9 h9 tk9 mA9 N9; tb_rel) | walk1)))
  rotate_left
  · have z9 : (ks.getD i.toNat 0).fdiv (2 ^ Int.toNat 6) = 0 := by
      rw [Int.fdiv_eq_ediv_of_nonneg _ (by decide)]
      exact Int.ediv_eq_zero_of_lt (KBw.getD_in (bInts_in' hb)).1 (hv (by omega))
    rw [z9]
    repeat' (first | (k_unfold; (try dsimp only)) | (k_end; wrow_close) | (k_here; (with_reducible show wpAny _ _ (call (Value.ref 96) _) _ _ _); k_dflt (first | refine useEI (x_whole1 _ _ _ _ _ _ (by kba_ints2) (by assumption) (by omega)) (by k_asm) (by exact rfl) (by assumption) (by assumption) (by assumption) (by first | assumption | exact sz_up (by assumption) (by assumption) | exact sz_up (by assumption) (sz_up (by assumption) (by assumption)) | exact sz_up (by assumption) (sz_up (by assumption) (sz_up (by assumption) (by assumption)))) (by k_asm) (by exact rfl) (by exact rfl) (by ktr_room) (by ktr_units) ?_ ?_); rotate_left; intro e9 h9 tk9 D9 c9 fl9 up9 uq9 i9; (obtain ⟨i9, j9⟩ := i9); (try unfold noInv at j9); rotate_left; intro y9 t9 h9 tk9 e9 c9 d9 f9 F9 N9; (try simp only [Int.reduceAdd, Int.reduceToNat, Int.zero_add] at e9 c9 d9 f9); tb_rel) | (k_here; (with_reducible show wpAny _ _ (call (Value.ref 38) _) _ _ _); k_dflt (refine mkQuicF (by decide) (by k_asm) (by k_asm) (by k_asm) (by ktr_room) (by ktr_units) ?_); intro e9 h9 tk9 mA9 N9 q9; tb_rel) | (k_here; (with_reducible show wpAny _ _ (call (Value.ref 78) _) _ _ _); k_dflt (refine mkRefusedF (by k_asm) (by k_asm) (by k_asm) (by ktr_room) (by ktr_units) ?_); intro e9 h9 tk9 mA9 N9; tb_rel) | (k_here; (with_reducible show wpAny _ _ (call (Value.ref 58) _) _ _ _); k_dflt (refine mkShortF (by k_asm) (by k_asm) (by k_asm) (by ktr_room) (by ktr_units) ?_); intro e9 h9 tk9 mA9 N9; tb_rel) | walk1 | (dsimp only; first | (k_here; (with_reducible show wpAny _ _ (call (Value.ref 96) _) _ _ _); k_dflt (first | refine useEI (x_whole1 _ _ _ _ _ _ (by kba_ints2) (by assumption) (by omega)) (by k_asm) (by exact rfl) (by assumption) (by assumption) (by assumption) (by first | assumption | exact sz_up (by assumption) (by assumption) | exact sz_up (by assumption) (sz_up (by assumption) (by assumption)) | exact sz_up (by assumption) (sz_up (by assumption) (sz_up (by assumption) (by assumption)))) (by k_asm) (by exact rfl) (by exact rfl) (by ktr_room) (by ktr_units) ?_ ?_); rotate_left; intro e9 h9 tk9 D9 c9 fl9 up9 uq9 i9; (obtain ⟨i9, j9⟩ := i9); (try unfold noInv at j9); rotate_left; intro y9 t9 h9 tk9 e9 c9 d9 f9 F9 N9; (try simp only [Int.reduceAdd, Int.reduceToNat, Int.zero_add] at e9 c9 d9 f9); tb_rel) | (k_here; (with_reducible show wpAny _ _ (call (Value.ref 38) _) _ _ _); k_dflt (refine mkQuicF (by decide) (by k_asm) (by k_asm) (by k_asm) (by ktr_room) (by ktr_units) ?_); intro e9 h9 tk9 mA9 N9 q9; tb_rel) | (k_here; (with_reducible show wpAny _ _ (call (Value.ref 78) _) _ _ _); k_dflt (refine mkRefusedF (by k_asm) (by k_asm) (by k_asm) (by ktr_room) (by ktr_units) ?_); intro e9 h9 tk9 mA9 N9; tb_rel) | (k_here; (with_reducible show wpAny _ _ (call (Value.ref 58) _) _ _ _); k_dflt (refine mkShortF (by k_asm) (by k_asm) (by k_asm) (by ktr_room) (by ktr_units) ?_); intro e9 h9 tk9 mA9 N9; tb_rel) | walk1) | (leave1; try dsimp only) | fail "no step")
    · rename News _ _ _ _ => N9
      refine hret _ _ _ ⟨⟨by omega, by omega, hv (by omega)⟩, _, _, _, _, _, rfl, (N9 _ (.head _)).2.2, (N9 _ (.head _)).1, ?_, rfl⟩ (Fr.keep (L := L') (by k_asm))
      exact (bitAnd_63 (by omega) (by have := hv (by omega); omega)).trans (by assumption)
    · omega
  · exact hx _ _ _ _ _ (by assumption) (by first | assumption | (refine Heap.UpToSlots.trans ?_ (by assumption); first | assumption | exact up_fr (by assumption) | (refine Heap.UpToSlots.trans ?_ (by assumption); first | assumption | exact up_fr (by assumption) | (refine Heap.UpToSlots.trans ?_ (by assumption); first | assumption | exact up_fr (by assumption))))) ⟨by omega, rfl⟩
section
variable {A A₀ : Around} {base h₀ : Heap} {outer : List Env} {L a : Addr} {m : Str → Option Value} {cn : Str} {cs : Scope} {ccd : Value} {news : List (Addr × Obj)} {s : Shared} {Q E : Value → Shared → Prop}
theorem newsAdd {h₀ h h' : Heap} {L t : Addr} {m : Str → Option Value} {news : List (Addr × Obj)} {o : Obj} (F : Fr h₀ L h m) (N : News h₀ L h' news) (g : h'.get? t = some o) (hf : h.get? t = none) : News h₀ L h' ((t, o) :: news) := by
  intro q hq
  rcases List.mem_cons.mp hq with rfl | hq
  · refine ⟨g, fun q => ?_, ?_⟩
    · obtain ⟨oL, _, _, hL, _⟩ := F.ns
      simp only at q
      rw [q, hL] at hf; cases hf
    · cases z : h₀.get? t with
      | none => rfl
      | some o' => rw [F.keep _ _ z] at hf; cases hf
  · exact N q hq
noncomputable def AllNe (t : Addr) : List (Addr × Obj) → Prop
  | [] => True
  | q :: r => (@Ne Nat q.1 t) ∧ AllNe t r
theorem allNe {h₀ h : Heap} {L t : Addr} (hf : h.get? t = none) : ∀ {news : List (Addr × Obj)}, News h₀ L h news → AllNe t news
  | [], _ => trivial
  | q :: r, N => ⟨fun e => by { have := (N q (.head _)).1; rw [e, hf] at this; cases this }, allNe hf fun p hp => N p (.tail _ hp)⟩
theorem useVar (b : Array UInt8) (tb ti : Tok) (i : Int) (ks : List Int) (hb : KBw.bInts b = ks) (hk : ks.length ≤ 1000) (hi : 0 ≤ i) (hv : i < ks.length → ks.getD i.toNat 0 < 64)
    (F : Fr h₀ L s.heap m) (hA : A.frames = some (envOf cn cs L a ccd :: outer)) (B : Below A₀ base outer h₀) (X : (hd.heap_39 w.params).In base) (T : Top p loose mean mg mb base) (hsz : base.objs.size ≤ h₀.objs.size) (N : News h₀ L s.heap news)
    (hh : A.handled = none) (hK : cs.kind = .function) (hdp : A.depth + 20 < recursionLimit) (hun : A.units + 100 < cLine)
    (k : ∀ t n0 n1 t1 t2 h' tk', i < ks.length → 0 ≤ n0 → n0 < 64 → n0 = ks.getD i.toNat 0 → n1 = i + 1 → AllNe t news →
      Fr h₀ L h' m → News h₀ L h' ((t, { cls := .type "tuple", data := .seq #[.int n0 t1, .int n1 t2] }) :: news) → Q (.ref t) { s with heap := h', toks := tk' })
    (kx : ∀ e h' tk' D, Fly base (envOf cn cs L a ccd :: outer) e 58 D .none .none h' → s.heap.UpToSlots h' → h₀.UpToSlots h' → ¬ i < ks.length → E (.ref e) { s with heap := h', toks := tk' }) :
    wpAny (model PySem.Challenge.rw_no0081_01.row.prog w) A (call (.ref 103) [.bytes b tb, .int i ti]) Q E s :=
  useE (x_varint b tb ti i ks hb hk hi hv) B F X T hsz N hA hh hK hdp hun (fun v h' tk' hP _ F' N' => by obtain ⟨⟨h1, h2, h3⟩, t, n0, n1, t1, t2, e, hf, g, e0, e1⟩ := hP; subst e; exact k t n0 n1 t1 t2 h' tk' h1 (by omega) (by omega) e0 e1 (allNe hf N) F' (newsAdd F N' g hf)) fun e h' tk' D c fl up uq hi => by obtain ⟨n, j⟩ := hi; unfold noInv at j; subst j; exact kx e h' tk' D fl up uq n
end
end
section
local macro_rules | `(tactic| walk_at "exec Raise some none") => `(tactic| (k_here; k_dflt (first | refine x_Raise0 (by exact rfl) ?_ | refine x_Raise1 (by exact rfl) ?_)))
local macro_rules | `(tactic| walk_at "RaiseX1") => `(tactic| (k_here; k_dflt (refine fin_raise1 (by assumption) (by assumption) (by assumption) ?_); intros; (try dsimp only)))
section
variable {w : World} {p : Program} {loose : List Str} {mean : ExcName → Option Value} {mg mb : Str → Option Value}
theorem varA {n : Int} {ks : List Int} (e : n = invEnd ks) (h : invEnd ks < ks.length → ks.getD (invEnd ks).toNat 0 < 64) : n < ks.length → ks.getD n.toNat 0 < 64 := by subst e; exact h
theorem varB {n y z : Int} {ks : List Int} (e : n = invEnd ks) (e0 : y = ks.getD n.toNat 0) (e1 : z = n + 1) (h : invEnd ks + 1 + ks.getD (invEnd ks).toNat 0 < ks.length → ks.getD (invEnd ks + 1 + ks.getD (invEnd ks).toNat 0).toNat 0 < 64) : z + y < ks.length → ks.getD (z + y).toNat 0 < 64 := by
  subst e; subst e0; subst e1; exact h
noncomputable def numAt (ks : List Int) (x : Str) : Int := if x = Str.ofString "initial" then invEnd ks + 1 + ks.getD (invEnd ks).toNat 0 else invEnd ks
noncomputable def tokL (ks : List Int) (x : Str) : List Int := if x = Str.ofString "initial" then (ks.drop (invEnd ks + 1).toNat).take (ks.getD (invEnd ks).toNat 0).toNat else []
theorem tok_sl {D : Array UInt8} {ks : List Int} {n y z p q : Int} (h : KBw.bInts D = (ks.drop (clipAt ks.length p)).take (clipAt ks.length q - clipAt ks.length p)) (e0 : y = ks.getD n.toNat 0) (e1 : z = n + 1) (hn : n = invEnd ks) (hp : p = z) (hq : q = z + y) (h0 : 0 ≤ y ∧ 0 ≤ z) (h1 : z + y ≤ ks.length) :
    KBw.bInts D = (ks.drop (invEnd ks + 1).toNat).take (ks.getD (invEnd ks).toNat 0).toNat := by
  rw [h, PyProof.Rows.clipAt_in (by omega) (by omega), PyProof.Rows.clipAt_in (by omega) (by omega), ← hn, ← e0, show q.toNat - p.toNat = y.toNat from toNatDiff (by rw [hp]; exact h0.2) h0.1 (by rw [hq, hp]), show p.toNat = (n + 1).toNat from by omega]
noncomputable def NumOk (ks : List Int) (x : Str) : Prop := numAt ks x < ks.length ∧ numAt ks x + 1 + ks.getD (numAt ks x).toNat 0 ≤ ks.length
inductive NumOut (w : World) (ks : List Int) (x : Str) (d r : Addr) (fi : Int) (D S G : Array UInt8) (lv : Addr) (k0 k1 k2 k3 k4 k5 k6 k7 k8 k9 k10 : Tok) (g h' : Heap) : Prop
  | mk (T : Array UInt8) (na' : Int) (en' : Int) (u0 : Tok) (u1 : Tok) (u2 : Tok) (u3 : Tok) (u4 : Tok) (u5' : Tok) (u6 : Tok) (u8 : Tok) (u9' : Tok) (u10' : Tok) (q0 : h'.get? r = some (instObj 177 d)) (q1 : h'.get? d = some (dictOf [{ hash := PyData.keyHash w.params (Str.ofString "kind"), key := .str (Str.ofString "kind") k0, val := .str x u0 }, { hash := PyData.keyHash w.params (Str.ofString "first"), key := .str (Str.ofString "first") k1, val := .int fi u1 }, { hash := PyData.keyHash w.params (Str.ofString "version"), key := .str (Str.ofString "version") k2, val := .int 1 u2 }, { hash := PyData.keyHash w.params (Str.ofString "dcid"), key := .str (Str.ofString "dcid") k3, val := .bytes D u3 }, { hash := PyData.keyHash w.params (Str.ofString "scid"), key := .str (Str.ofString "scid") k4, val := .bytes S u4 }, { hash := PyData.keyHash w.params (Str.ofString "token"), key := .str (Str.ofString "token") k5, val := .bytes T u5' }, { hash := PyData.keyHash w.params (Str.ofString "tag"), key := .str (Str.ofString "tag") k6, val := .bytes G u6 }, { hash := PyData.keyHash w.params (Str.ofString "versions"), key := .str (Str.ofString "versions") k7, val := .ref lv }, { hash := PyData.keyHash w.params (Str.ofString "start"), key := .str (Str.ofString "start") k8, val := .int 0 u8 }, { hash := PyData.keyHash w.params (Str.ofString "number_at"), key := .str (Str.ofString "number_at") k9, val := .int na' u9' }, { hash := PyData.keyHash w.params (Str.ofString "end"), key := .str (Str.ofString "end") k10, val := .int en' u10' }] 11)) (q2 : KBw.bInts T = tokL ks x) (q3 : na' = numAt ks x + 1) (q4 : en' = numAt ks x + 1 + ks.getD (numAt ks x).toNat 0) : NumOut w ks x d r fi D S G lv k0 k1 k2 k3 k4 k5 k6 k7 k8 k9 k10 g h'
theorem numX {ks : List Int} {n y z y2 z2 : Int} (hn : n = invEnd ks) (e0 : y = ks.getD n.toNat 0) (e1 : z = n + 1) (f0 : y2 = ks.getD (z + y).toNat 0) (f1 : z2 = z + y + 1) :
    y2 = ks.getD (invEnd ks + 1 + ks.getD (invEnd ks).toNat 0).toNat 0 ∧ z2 = invEnd ks + 1 + ks.getD (invEnd ks).toNat 0 + 1 ∧ y = ks.getD (invEnd ks).toNat 0 ∧ z = invEnd ks + 1 := by
  subst hn; subst e0; subst e1; exact ⟨f0, f1, rfl, rfl⟩
set_option maxHeartbeats 4000000 in
theorem x_num (b : Array UInt8) (tb ta : Tok) (ks : List Int) (n : Int) (hb : KBw.bInts b = ks) (hk : ks.length ≤ 1000) (hn : n = invEnd ks) (h7 : 7 ≤ n)
    (hvA : invEnd ks < ks.length → ks.getD (invEnd ks).toNat 0 < 64) (hvB : invEnd ks + 1 + ks.getD (invEnd ks).toNat 0 < ks.length → ks.getD (invEnd ks + 1 + ks.getD (invEnd ks).toNat 0).toNat 0 < 64)
    (x : Str) (hx3 : x = Str.ofString "initial" ∨ x = Str.ofString "zero" ∨ x = Str.ofString "handshake")
    (fi na en : Int) (D S G : Array UInt8) (lv : Addr) (k0 k1 k2 k3 k4 k5 k6 k7 k8 k9 k10 u0 u1 u2 u3 u4 u5 u6 u8 u9 u10 : Tok) (dp un : Nat) (gd : Option (List Code)) (base : Heap) (l : List Env) (g : Heap) (s : Shared) (r d : Addr) (R : Result → Shared → Prop)
    (B : Below ⟨none, dp, some l, gd, un⟩ base l g) (XB : (hd.heap_39 w.params).In base) (TB : Top p loose mean mg mb base) (X : (hd.heap_39 w.params).In g) (T : Top p loose mean mg mb g) (hsz : base.objs.size ≤ g.objs.size) (hdp : dp + 40 < recursionLimit) (hun : un + 250 < cLine)
    (st : g.StaysIn s.heap) (sz : g.objs.size ≤ s.heap.objs.size) (hr : s.heap.get? r = some (instObj 177 d)) (hr0 : g.get? r = none) (hd0 : s.heap.get? d = some (dictOf [{ hash := PyData.keyHash w.params (Str.ofString "kind"), key := .str (Str.ofString "kind") k0, val := .str x u0 }, { hash := PyData.keyHash w.params (Str.ofString "first"), key := .str (Str.ofString "first") k1, val := .int fi u1 }, { hash := PyData.keyHash w.params (Str.ofString "version"), key := .str (Str.ofString "version") k2, val := .int 1 u2 }, { hash := PyData.keyHash w.params (Str.ofString "dcid"), key := .str (Str.ofString "dcid") k3, val := .bytes D u3 }, { hash := PyData.keyHash w.params (Str.ofString "scid"), key := .str (Str.ofString "scid") k4, val := .bytes S u4 }, { hash := PyData.keyHash w.params (Str.ofString "token"), key := .str (Str.ofString "token") k5, val := .bytes #[] u5 }, { hash := PyData.keyHash w.params (Str.ofString "tag"), key := .str (Str.ofString "tag") k6, val := .bytes G u6 }, { hash := PyData.keyHash w.params (Str.ofString "versions"), key := .str (Str.ofString "versions") k7, val := .ref lv }, { hash := PyData.keyHash w.params (Str.ofString "start"), key := .str (Str.ofString "start") k8, val := .int 0 u8 }, { hash := PyData.keyHash w.params (Str.ofString "number_at"), key := .str (Str.ofString "number_at") k9, val := .int na u9 }, { hash := PyData.keyHash w.params (Str.ofString "end"), key := .str (Str.ofString "end") k10, val := .int en u10 }] 11)) (hd1 : g.get? d = none) (hrd : (@Ne Nat r d))
    (hret : ∀ h' tk', NumOk ks x → NumOut w ks x d r fi D S G lv k0 k1 k2 k3 k4 k5 k6 k7 k8 k9 k10 g h' → g.StaysIn h' → R (.ok (.ret (.ref r))) { s with heap := h', toks := tk' })
    (hx : ∀ e h' tk' D c, Fly base l e 78 D c .none h' → g.UpToSlots h' → ¬ NumOk ks x → R (.error (.ref e)) { s with heap := h', toks := tk' }) :
    codeAny (model PySem.Challenge.rw_no0081_01.row.prog w) ⟨none, dp, some l, gd, un⟩ (.call (.ref 223) ⟨[.bytes b tb, .int n ta, .ref r], []⟩) R s := by
  refine enterH (g := g) (news := [(r, instObj 177 d), (d, dictOf [{ hash := PyData.keyHash w.params (Str.ofString "kind"), key := .str (Str.ofString "kind") k0, val := .str x u0 }, { hash := PyData.keyHash w.params (Str.ofString "first"), key := .str (Str.ofString "first") k1, val := .int fi u1 }, { hash := PyData.keyHash w.params (Str.ofString "version"), key := .str (Str.ofString "version") k2, val := .int 1 u2 }, { hash := PyData.keyHash w.params (Str.ofString "dcid"), key := .str (Str.ofString "dcid") k3, val := .bytes D u3 }, { hash := PyData.keyHash w.params (Str.ofString "scid"), key := .str (Str.ofString "scid") k4, val := .bytes S u4 }, { hash := PyData.keyHash w.params (Str.ofString "token"), key := .str (Str.ofString "token") k5, val := .bytes #[] u5 }, { hash := PyData.keyHash w.params (Str.ofString "tag"), key := .str (Str.ofString "tag") k6, val := .bytes G u6 }, { hash := PyData.keyHash w.params (Str.ofString "versions"), key := .str (Str.ofString "versions") k7, val := .ref lv }, { hash := PyData.keyHash w.params (Str.ofString "start"), key := .str (Str.ofString "start") k8, val := .int 0 u8 }, { hash := PyData.keyHash w.params (Str.ofString "number_at"), key := .str (Str.ofString "number_at") k9, val := .int na u9 }, { hash := PyData.keyHash w.params (Str.ofString "end"), key := .str (Str.ofString "end") k10, val := .int en u10 }] 11)]) (binds := [(Str.ofString "data", .bytes b tb), (Str.ofString "at", .int n ta), (Str.ofString "raw", .ref r)]) st sz (fun q hq => ?_) X T (by k_is) (by k_is) (by ktr_room) (BindsTo.of_eq rfl) (locs rfl) (fun L' h₁' F' N' O' => ?_) rfl rfl rfl (by decide)
  · rcases List.mem_cons.mp hq with rfl | hq
    · exact ⟨hr, hr0⟩
    · rcases List.mem_cons.mp hq with rfl | hq
      · exact ⟨hd0, hd1⟩
      · cases hq
  have lr : @LT.lt Nat _ r s.heap.objs.size := Heap.lt_size hr
  have ld : @LT.lt Nat _ d s.heap.objs.size := Heap.lt_size hd0
  clear O' hr hd0 sz st
  (dsimp only [List.reverse, List.reverseAux, bmap] at F')
  (try dsimp only)
  (have hC58 := cls58 XB)
  (have hC78 := cls78 XB)
  (try k_fold)
  obtain ⟨hN, hT⟩ : numAt ks x = (if x = Str.ofString "initial" then invEnd ks + 1 + ks.getD (invEnd ks).toNat 0 else invEnd ks) ∧ tokL ks x = (if x = Str.ofString "initial" then (ks.drop (invEnd ks + 1).toNat).take (ks.getD (invEnd ks).toNat 0).toNat else []) := ⟨rfl, rfl⟩
  have hge := inv_ge hb
  have hnn : 0 ≤ ks.getD (invEnd ks).toNat 0 := (KBw.getD_in (bInts_in' hb)).1
  rcases hx3 with rfl | rfl | rfl
  all_goals (first | rw [if_pos rfl] at hN hT | rw [if_neg (by decide)] at hN hT)
  all_goals repeat' (first | (k_unfold; (try dsimp only)) | (k_end; wrow_close) | (k_here; (with_reducible show wpAny _ _ (call (Value.ref 103) _) _ _ _); k_dflt (refine useVar _ _ _ _ _ (by kba_ints2) (by assumption) (by omega) (by first | exact varA (by assumption) (by assumption) | exact varB (by assumption) (by assumption) (by assumption) (by assumption)) (by k_asm) (by exact rfl) (by assumption) (by assumption) (by assumption) (by first | assumption | exact sz_up (by assumption) (by assumption) | exact sz_up (by assumption) (sz_up (by assumption) (by assumption)) | exact sz_up (by assumption) (sz_up (by assumption) (sz_up (by assumption) (by assumption)))) (by k_asm) (by exact rfl) (by exact rfl) (by ktr_room) (by ktr_units) ?_ ?_); rotate_left; intro e9 h9 tk9 D9 fl9 up9 uq9 i9; rotate_left; intro t9 n9 n91 t91 t92 h9 tk9 le9 lo9 hi9 a9 b9 ne9 F9 N9; (simp only [AllNe, and_true] at ne9); tb_rel) | (k_here; (with_reducible show wpAny _ _ (noteFrame _ _) _ _ _); k_dflt (refine' x_caughtR ?B ?F ?fl ?up ?X ?T ?sz ?C ?ex ?_ ?a ?b ?c; (case fl => assumption); (case F => assumption); (case up => exact (by repeat (first | assumption | exact up_fr (by assumption) | (refine Heap.UpToSlots.trans ?_ (by assumption))))); (case B => assumption); (case X => assumption); (case T => assumption); (case C => assumption); (case sz => first | assumption | exact sz_up (by assumption) (by assumption) | exact sz_up (by assumption) (sz_up (by assumption) (by assumption)) | exact sz_up (by assumption) (sz_up (by assumption) (sz_up (by assumption) (by assumption)))); (case ex => k_is); (case a => exact rfl); (case b => exact rfl); (case c => decide)); intro h9 fl9 up9 F9 N9; tb_rel) | (k_here; (with_reducible show wpAny _ _ (call (Value.ref 38) _) _ _ _); k_dflt (refine mkQuicF (by decide) (by k_asm) (by k_asm) (by k_asm) (by ktr_room) (by ktr_units) ?_); intro e9 h9 tk9 mA9 N9 q9; tb_rel) | (k_here; (with_reducible show wpAny _ _ (call (Value.ref 78) _) _ _ _); k_dflt (refine mkRefusedF (by k_asm) (by k_asm) (by k_asm) (by ktr_room) (by ktr_units) ?_); intro e9 h9 tk9 mA9 N9; tb_rel) | (k_here; (with_reducible show wpAny _ _ (call (Value.ref 58) _) _ _ _); k_dflt (refine mkShortF (by k_asm) (by k_asm) (by k_asm) (by ktr_room) (by ktr_units) ?_); intro e9 h9 tk9 mA9 N9; tb_rel) | walk1 | (dsimp only; first | (k_here; (with_reducible show wpAny _ _ (call (Value.ref 103) _) _ _ _); k_dflt (refine useVar _ _ _ _ _ (by kba_ints2) (by assumption) (by omega) (by first | exact varA (by assumption) (by assumption) | exact varB (by assumption) (by assumption) (by assumption) (by assumption)) (by k_asm) (by exact rfl) (by assumption) (by assumption) (by assumption) (by first | assumption | exact sz_up (by assumption) (by assumption) | exact sz_up (by assumption) (sz_up (by assumption) (by assumption)) | exact sz_up (by assumption) (sz_up (by assumption) (sz_up (by assumption) (by assumption)))) (by k_asm) (by exact rfl) (by exact rfl) (by ktr_room) (by ktr_units) ?_ ?_); rotate_left; intro e9 h9 tk9 D9 fl9 up9 uq9 i9; rotate_left; intro t9 n9 n91 t91 t92 h9 tk9 le9 lo9 hi9 a9 b9 ne9 F9 N9; (simp only [AllNe, and_true] at ne9); tb_rel) | (k_here; (with_reducible show wpAny _ _ (noteFrame _ _) _ _ _); k_dflt (refine' x_caughtR ?B ?F ?fl ?up ?X ?T ?sz ?C ?ex ?_ ?a ?b ?c; (case fl => assumption); (case F => assumption); (case up => exact (by repeat (first | assumption | exact up_fr (by assumption) | (refine Heap.UpToSlots.trans ?_ (by assumption))))); (case B => assumption); (case X => assumption); (case T => assumption); (case C => assumption); (case sz => first | assumption | exact sz_up (by assumption) (by assumption) | exact sz_up (by assumption) (sz_up (by assumption) (by assumption)) | exact sz_up (by assumption) (sz_up (by assumption) (sz_up (by assumption) (by assumption)))); (case ex => k_is); (case a => exact rfl); (case b => exact rfl); (case c => decide)); intro h9 fl9 up9 F9 N9; tb_rel) | (k_here; (with_reducible show wpAny _ _ (call (Value.ref 38) _) _ _ _); k_dflt (refine mkQuicF (by decide) (by k_asm) (by k_asm) (by k_asm) (by ktr_room) (by ktr_units) ?_); intro e9 h9 tk9 mA9 N9 q9; tb_rel) | (k_here; (with_reducible show wpAny _ _ (call (Value.ref 78) _) _ _ _); k_dflt (refine mkRefusedF (by k_asm) (by k_asm) (by k_asm) (by ktr_room) (by ktr_units) ?_); intro e9 h9 tk9 mA9 N9; tb_rel) | (k_here; (with_reducible show wpAny _ _ (call (Value.ref 58) _) _ _ _); k_dflt (refine mkShortF (by k_asm) (by k_asm) (by k_asm) (by ktr_room) (by ktr_units) ?_); intro e9 h9 tk9 mA9 N9; tb_rel) | walk1) | (leave1; try dsimp only) | fail "no step")
  all_goals try (refine hx _ _ _ _ _ (by assumption) ?_ ?_)
  all_goals try (show Heap.UpToSlots _ _; repeat (first | assumption | exact up_fr (by assumption) | (refine Heap.UpToSlots.trans ?_ (by assumption))))
  all_goals try (intro hq9; obtain ⟨c1, c2⟩ := hq9; rw [hN] at c1 c2; first | lia | (obtain ⟨v1, v2, v3, v4⟩ := numX hn (by assumption) (by assumption) (by assumption) (by assumption); lia) | (subst_vars; omega))
  all_goals rename News _ _ _ _ => N9
  all_goals refine hret _ _ ?_ ⟨_, _, _, _, _, _, _, _, _, _, _, _, _, (N9 (r, _) (by k_mem)).1, (N9 (d, _) (by k_mem)).1, ?_, ?_, ?_⟩ (Fr.keep (L := L') (by k_asm))
  all_goals first
    | (unfold NumOk; rw [hN]; first | exact ⟨by lia, by lia⟩ | (obtain ⟨v1, v2, v3, v4⟩ := numX hn (by assumption) (by assumption) (by assumption) (by assumption); rw [← v1]; exact ⟨by lia, by lia⟩) | (subst_vars; exact ⟨by omega, by omega⟩))
    | (rw [hN]; first | lia | (obtain ⟨v1, v2, v3, v4⟩ := numX hn (by assumption) (by assumption) (by assumption) (by assumption); lia) | (trace_state; subst_vars; first | rfl | omega))
    | (rw [hT]; rfl)
    | (rw [hT]; exact tok_sl (by assumption) (by assumption) (by assumption) hn (by omega) (by omega) (by omega) (by omega))
end
section
variable {w : World} {p : Program} {loose : List Str} {mean : ExcName → Option Value} {mg mb : Str → Option Value}
section
variable {A A₀ : Around} {base h₀ : Heap} {outer : List Env} {L a : Addr} {m : Str → Option Value} {cn : Str} {cs : Scope} {ccd : Value} {news : List (Addr × Obj)} {s : Shared} {Q E : Value → Shared → Prop}
/-- the ground under a call that is handed objects of the ledger -/
theorem ground {own : List (Addr × Obj)} (B : Below A₀ base outer h₀) (F : Fr h₀ L s.heap m) (N : News h₀ L s.heap news) (ho : ∀ q ∈ own, q ∈ news) (hA : A.frames = some (envOf cn cs L a ccd :: outer)) (hck : cs.kind = .function) :
    ∃ g, Fr h₀ L g m ∧ Below A base (envOf cn cs L a ccd :: outer) g ∧ h₀.StaysIn g ∧ g.StaysIn s.heap ∧ g.objs.size = s.heap.objs.size ∧ (∀ q ∈ own, s.heap.get? q.1 = some q.2 ∧ g.get? q.1 = none) ∧
      (∀ q, q ∈ news → (∀ z ∈ own, q.1 ≠ z.1) → g.get? q.1 = some q.2) := by
  obtain ⟨as, has⟩ : ∃ as : List Addr, as = own.map (·.1) := ⟨_, rfl⟩
  have nm : ∀ b o, h₀.get? b = some o → b ∉ as := fun b o e q => by
    rw [has] at q
    obtain ⟨p, hp, rfl⟩ := List.mem_map.mp q
    rw [(N p (ho p hp)).2.2] at e; cases e
  have st : h₀.StaysIn (hideAll s.heap as) := fun b o e => hideAll_get _ (F.keep b o e) (nm b o e)
  obtain ⟨oL, es, ep, hL, hLd, hLk, hLf⟩ := F.ns
  have nL : L ∉ as := fun q => by
    rw [has] at q
    obtain ⟨p, hp, e⟩ := List.mem_map.mp q
    exact (N p (ho p hp)).2.1 e
  have hLg := hideAll_get as hL nL
  have B₁ := B.push (name := cn) (scope := cs) (a := a) (cd := ccd) F hck
  refine ⟨hideAll s.heap as, ⟨⟨oL, es, ep, hLg, hLd, hLk, hLf⟩, st, F.above⟩, ⟨hA, fun b o e => st b o (B.stays b o e), funFrames_hideAll B₁.frames fun env he b hb hf => ?_⟩, st, fun b o e => of_hideAll _ e, hideAll_size _ _, fun q hq => ⟨(N q (ho q hq)).1, hideAll_none _ (by rw [has]; exact List.mem_map_of_mem hq)⟩, fun q hq hz => hideAll_get _ (N q hq).1 fun hm => ?_⟩
  · cases he with
    | head => exact nL ((Option.some.inj hf : L = b) ▸ hb)
    | tail _ he =>
      obtain ⟨L₁, o₁, hf₁, ho₁⟩ := funFrames_in B.frames env he
      rw [hf₁] at hf
      exact nm L₁ o₁ ho₁ ((Option.some.inj hf : L₁ = b) ▸ hb)
  · rw [has] at hm
    obtain ⟨p, hp, e⟩ := List.mem_map.mp hm
    exact hz p hp e.symm
theorem useNum (b : Array UInt8) (tb ta : Tok) (ks : List Int) (n : Int) (hb : KBw.bInts b = ks) (hk : ks.length ≤ 1000) (hn : n = invEnd ks) (h7 : 7 ≤ n)
    (hvA : invEnd ks < ks.length → ks.getD (invEnd ks).toNat 0 < 64) (hvB : invEnd ks + 1 + ks.getD (invEnd ks).toNat 0 < ks.length → ks.getD (invEnd ks + 1 + ks.getD (invEnd ks).toNat 0).toNat 0 < 64)
    (x : Str) (hx3 : x = Str.ofString "initial" ∨ x = Str.ofString "zero" ∨ x = Str.ofString "handshake")
    {fi na en : Int} {D S G : Array UInt8} {lv r d : Addr} {k0 k1 k2 k3 k4 k5 k6 k7 k8 k9 k10 u0 u1 u2 u3 u4 u5 u6 u8 u9 u10 : Tok}
    (F : Fr h₀ L s.heap m) (N : News h₀ L s.heap news) (hr : (r, instObj 177 d) ∈ news) (hdd : (d, dictOf [{ hash := PyData.keyHash w.params (Str.ofString "kind"), key := .str (Str.ofString "kind") k0, val := .str x u0 }, { hash := PyData.keyHash w.params (Str.ofString "first"), key := .str (Str.ofString "first") k1, val := .int fi u1 }, { hash := PyData.keyHash w.params (Str.ofString "version"), key := .str (Str.ofString "version") k2, val := .int 1 u2 }, { hash := PyData.keyHash w.params (Str.ofString "dcid"), key := .str (Str.ofString "dcid") k3, val := .bytes D u3 }, { hash := PyData.keyHash w.params (Str.ofString "scid"), key := .str (Str.ofString "scid") k4, val := .bytes S u4 }, { hash := PyData.keyHash w.params (Str.ofString "token"), key := .str (Str.ofString "token") k5, val := .bytes #[] u5 }, { hash := PyData.keyHash w.params (Str.ofString "tag"), key := .str (Str.ofString "tag") k6, val := .bytes G u6 }, { hash := PyData.keyHash w.params (Str.ofString "versions"), key := .str (Str.ofString "versions") k7, val := .ref lv }, { hash := PyData.keyHash w.params (Str.ofString "start"), key := .str (Str.ofString "start") k8, val := .int 0 u8 }, { hash := PyData.keyHash w.params (Str.ofString "number_at"), key := .str (Str.ofString "number_at") k9, val := .int na u9 }, { hash := PyData.keyHash w.params (Str.ofString "end"), key := .str (Str.ofString "end") k10, val := .int en u10 }] 11) ∈ news) (hrd : (@Ne Nat r d)) (hA : A.frames = some (envOf cn cs L a ccd :: outer)) (B : Below A₀ base outer h₀) (X : (hd.heap_39 w.params).In base) (T : Top p loose mean mg mb base) (hsz : base.objs.size ≤ h₀.objs.size)
    (hh : A.handled = none) (hK : cs.kind = .function) (hdp : A.depth + 40 < recursionLimit) (hun : A.units + 250 < cLine)
    (k : ∀ h' tk' g, NumOk ks x → NumOut w ks x d r fi D S G lv k0 k1 k2 k3 k4 k5 k6 k7 k8 k9 k10 g h' → Fr h₀ L h' m → Q (.ref r) { s with heap := h', toks := tk' })
    (kx : ∀ e h' tk' D c, Fly base (envOf cn cs L a ccd :: outer) e 78 D c .none h' → h₀.UpToSlots h' → ¬ NumOk ks x → E (.ref e) { s with heap := h', toks := tk' }) :
    wpAny (model PySem.Challenge.rw_no0081_01.row.prog w) A (call (.ref 223) [.bytes b tb, .int n ta, .ref r]) Q E s := by
  obtain ⟨g, Fg, Bg, st, gs, sz, ho, -⟩ := ground (own := [(r, instObj 177 d), (d, dictOf [{ hash := PyData.keyHash w.params (Str.ofString "kind"), key := .str (Str.ofString "kind") k0, val := .str x u0 }, { hash := PyData.keyHash w.params (Str.ofString "first"), key := .str (Str.ofString "first") k1, val := .int fi u1 }, { hash := PyData.keyHash w.params (Str.ofString "version"), key := .str (Str.ofString "version") k2, val := .int 1 u2 }, { hash := PyData.keyHash w.params (Str.ofString "dcid"), key := .str (Str.ofString "dcid") k3, val := .bytes D u3 }, { hash := PyData.keyHash w.params (Str.ofString "scid"), key := .str (Str.ofString "scid") k4, val := .bytes S u4 }, { hash := PyData.keyHash w.params (Str.ofString "token"), key := .str (Str.ofString "token") k5, val := .bytes #[] u5 }, { hash := PyData.keyHash w.params (Str.ofString "tag"), key := .str (Str.ofString "tag") k6, val := .bytes G u6 }, { hash := PyData.keyHash w.params (Str.ofString "versions"), key := .str (Str.ofString "versions") k7, val := .ref lv }, { hash := PyData.keyHash w.params (Str.ofString "start"), key := .str (Str.ofString "start") k8, val := .int 0 u8 }, { hash := PyData.keyHash w.params (Str.ofString "number_at"), key := .str (Str.ofString "number_at") k9, val := .int na u9 }, { hash := PyData.keyHash w.params (Str.ofString "end"), key := .str (Str.ofString "end") k10, val := .int en u10 }] 11)]) B F N (fun q hq => by
    rcases List.mem_cons.mp hq with rfl | hq
    · exact hr
    · rw [List.mem_singleton.mp hq]; exact hdd) hA hK
  have h1 := ho _ (.head _)
  have h2 := ho _ (.tail _ (.head _))
  obtain ⟨ha, dp, fr, gd, un⟩ := A
  simp only at hA hh hdp hun
  subst hA; subst hh
  have szb : base.objs.size ≤ g.objs.size := Nat.le_trans hsz (Nat.le_trans Fg.above (Nat.le_of_lt Fg.ns.lt))
  refine wpAny_call (x_num b tb ta ks n hb hk hn h7 hvA hvB x hx3 fi na en D S G lv k0 k1 k2 k3 k4 k5 k6 k7 k8 k9 k10 u0 u1 u2 u3 u4 u5 u6 u8 u9 u10 dp un gd base _ g s r d _ Bg X T (X.keeps Bg.stays) (T.keeps Bg.stays) szb hdp hun gs (Nat.le_of_eq sz) h1.1 h1.2 h2.1 h2.2 hrd ?_ ?_)
  · intro h' tk' ok out st'
    exact k h' tk' g ok out (Fr.stays Fg st')
  · intro e h' tk' D c fl up no
    exact kx e h' tk' D c fl ((Heap.UpToSlots.of_keeps st).trans up) no
end
inductive RawOut (w : World) (x : Str) (fi : Int) (dl sl tl : List Int) (na en : Int) (h h' : Heap) (v : Value) : Prop
  | mk (r : Addr) (d : Addr) (D : Array UInt8) (S : Array UInt8) (T : Array UInt8) (G : Array UInt8) (lv : Addr) (k0 : Tok) (k1 : Tok) (k2 : Tok) (k3 : Tok) (k4 : Tok) (k5 : Tok) (k6 : Tok) (k7 : Tok) (k8 : Tok) (k9 : Tok) (k10 : Tok) (u0 : Tok) (u1 : Tok) (u2 : Tok) (u3 : Tok) (u4 : Tok) (u5 : Tok) (u6 : Tok) (u8 : Tok) (u9 : Tok) (u10 : Tok) (q0 : v = .ref r) (q1 : h.get? r = none) (q2 : h.get? d = none) (q3 : (@Ne Nat r d)) (q4 : h'.get? r = some (instObj 177 d)) (q5 : h'.get? d = some (dictOf [{ hash := PyData.keyHash w.params (Str.ofString "kind"), key := .str (Str.ofString "kind") k0, val := .str x u0 }, { hash := PyData.keyHash w.params (Str.ofString "first"), key := .str (Str.ofString "first") k1, val := .int fi u1 }, { hash := PyData.keyHash w.params (Str.ofString "version"), key := .str (Str.ofString "version") k2, val := .int 1 u2 }, { hash := PyData.keyHash w.params (Str.ofString "dcid"), key := .str (Str.ofString "dcid") k3, val := .bytes D u3 }, { hash := PyData.keyHash w.params (Str.ofString "scid"), key := .str (Str.ofString "scid") k4, val := .bytes S u4 }, { hash := PyData.keyHash w.params (Str.ofString "token"), key := .str (Str.ofString "token") k5, val := .bytes T u5 }, { hash := PyData.keyHash w.params (Str.ofString "tag"), key := .str (Str.ofString "tag") k6, val := .bytes G u6 }, { hash := PyData.keyHash w.params (Str.ofString "versions"), key := .str (Str.ofString "versions") k7, val := .ref lv }, { hash := PyData.keyHash w.params (Str.ofString "start"), key := .str (Str.ofString "start") k8, val := .int 0 u8 }, { hash := PyData.keyHash w.params (Str.ofString "number_at"), key := .str (Str.ofString "number_at") k9, val := .int na u9 }, { hash := PyData.keyHash w.params (Str.ofString "end"), key := .str (Str.ofString "end") k10, val := .int en u10 }] 11)) (q6 : KBw.bInts D = dl) (q7 : KBw.bInts S = sl) (q8 : KBw.bInts T = tl) : RawOut w x fi dl sl tl na en h h' v
end
section
variable {w : World} {p : Program} {loose : List Str} {mean : ExcName → Option Value} {mg mb : Str → Option Value}
noncomputable def ShortOk (ks : List Int) (c : Int) : Prop := ((ks.getD 0 0).fdiv 64).fmod 2 ≠ 0 ∧ 1 + c ≤ ks.length
theorem short_sl {D : Array UInt8} {ks : List Int} {c p q : Int} (h : KBw.bInts D = (ks.drop (clipAt ks.length p)).take (clipAt ks.length q - clipAt ks.length p)) (hp : p = 1) (hq : q = 1 + c) (h0 : 0 ≤ c) (h1 : 1 + c ≤ ks.length) : KBw.bInts D = (ks.drop 1).take c.toNat := by
  rw [h, PyProof.Rows.clipAt_in (by omega) (by omega), PyProof.Rows.clipAt_in (by omega) (by omega), show q.toNat - p.toNat = c.toNat from toNatDiff (by omega) (by omega) (by omega), show p.toNat = 1 from by omega]
set_option maxHeartbeats 4000000 in
theorem x_short (b : Array UInt8) (tb t0 tc : Tok) (c : Int) (ks : List Int) (hb : KBw.bInts b = ks) (hk : ks.length ≤ 1000) (h1 : 1 ≤ ks.length) (hc : 0 ≤ c) (hc1 : c ≤ 21) :
   ECon w p loose mean mg mb 230 [.bytes b tb, .int 0 t0, .int c tc] 20 100 (fun h h' v => ShortOk ks c ∧ RawOut w (Str.ofString "short") (ks.getD 0 0) ((ks.drop 1).take c.toNat) [] [] (1 + c) ks.length h h' v) 78 (fun _ _ _ => ¬ ShortOk ks c) := by
  refine econ_of fun dp un gd base l s R B XB TB X T hsz hd hu hret hx => ?_
  refine enter (binds := [(Str.ofString "data", .bytes b tb), (Str.ofString "start", .int 0 t0), (Str.ofString "cid_size", .int c tc)]) X T (by k_is) (by k_is) (by ktr_room) (BindsTo.of_eq rfl) (locs rfl) (fun L' h₁' F' N' => ?_) rfl rfl rfl (by decide)
  (dsimp only [List.reverse, List.reverseAux, bmap] at F')
  (try dsimp only)
  (have hC58 := cls58 XB)
  (have hC78 := cls78 XB)
  (have hC38 := cls38 XB)
  (try k_fold)
  repeat' (first | (k_unfold; (try dsimp only)) | (k_end; wrow_close) | (k_here; (with_reducible show wpAny _ _ (call (Value.ref 38) _) _ _ _); k_dflt (refine mkQuicF (by decide) (by k_asm) (by k_asm) (by k_asm) (by ktr_room) (by ktr_units) ?_); intro e9 h9 tk9 mA9 N9 q9; tb_rel) | (k_here; (with_reducible show wpAny _ _ (call (Value.ref 78) _) _ _ _); k_dflt (refine mkRefusedF (by k_asm) (by k_asm) (by k_asm) (by ktr_room) (by ktr_units) ?_); intro e9 h9 tk9 mA9 N9; tb_rel) | (k_here; (with_reducible show wpAny _ _ (call (Value.ref 58) _) _ _ _); k_dflt (refine mkShortF (by k_asm) (by k_asm) (by k_asm) (by ktr_room) (by ktr_units) ?_); intro e9 h9 tk9 mA9 N9; tb_rel) | walk1 | (dsimp only; first | (k_here; (with_reducible show wpAny _ _ (call (Value.ref 38) _) _ _ _); k_dflt (refine mkQuicF (by decide) (by k_asm) (by k_asm) (by k_asm) (by ktr_room) (by ktr_units) ?_); intro e9 h9 tk9 mA9 N9 q9; tb_rel) | (k_here; (with_reducible show wpAny _ _ (call (Value.ref 78) _) _ _ _); k_dflt (refine mkRefusedF (by k_asm) (by k_asm) (by k_asm) (by ktr_room) (by ktr_units) ?_); intro e9 h9 tk9 mA9 N9; tb_rel) | (k_here; (with_reducible show wpAny _ _ (call (Value.ref 58) _) _ _ _); k_dflt (refine mkShortF (by k_asm) (by k_asm) (by k_asm) (by ktr_room) (by ktr_units) ?_); intro e9 h9 tk9 mA9 N9; tb_rel) | walk1) | (leave1; try dsimp only) | fail "no step")
  · exact hx _ _ _ _ _ (by assumption) (by repeat (first | assumption | exact up_fr (by assumption) | (refine Heap.UpToSlots.trans ?_ (by assumption)))) fun hq => hq.1 (by assumption)
  · refine hx _ _ _ _ _ (by assumption) (by repeat (first | assumption | exact up_fr (by assumption) | (refine Heap.UpToSlots.trans ?_ (by assumption)))) fun hq => ?_
    have := hq.2
    omega
  · rename News _ _ _ _ => N9
    refine hret _ _ _ ⟨⟨by assumption, by omega⟩, _, _, _, _, _, _, _, _, _, _, _, _, _, _, _, _, _, _, _, _, _, _, _, _, _, _, _, _, rfl, (N9 (_, instObj 177 _) (by k_mem)).2.2, (N9 (_, dictOf _ _) (by k_mem)).2.2, by omega, (N9 (_, instObj 177 _) (by k_mem)).1, (N9 (_, dictOf _ _) (by k_mem)).1, short_sl (by kba_ints2) (by omega) (by omega) hc (by omega), rfl, rfl⟩ (Fr.keep (L := L') (by k_asm))
end
section
variable {w : World} {p : Program} {loose : List Str} {mean : ExcName → Option Value} {mg mb : Str → Option Value}
section
variable {A A₀ : Around} {base h₀ : Heap} {outer : List Env} {L a : Addr} {m : Str → Option Value} {cn : Str} {cs : Scope} {ccd : Value} {news : List (Addr × Obj)} {s : Shared} {Q E : Value → Shared → Prop}
theorem useInv (b : Array UInt8) (tb : Tok) (t0 : Tok) (ks : List Int) (hb : KBw.bInts b = ks) (hk : ks.length ≤ 1000) (hv : 5 ≤ ks.length → be2n ((ks.drop 1).take 4) = 1)
    (F : Fr h₀ L s.heap m) (hA : A.frames = some (envOf cn cs L a ccd :: outer)) (B : Below A₀ base outer h₀) (X : (hd.heap_39 w.params).In base) (T : Top p loose mean mg mb base) (hsz : base.objs.size ≤ h₀.objs.size) (N : News h₀ L s.heap news)
    (hh : A.handled = none) (hK : cs.kind = .function) (hdp : A.depth + 20 < recursionLimit) (hun : A.units + 100 < cLine)
    (k : ∀ t D S n0 n4 t1 t2 t3 t4 t5 h' tk', invEnd ks ≤ ks.length → n0 = ks.getD 0 0 → n4 = invEnd ks → KBw.bInts D = (ks.drop 6).take (ks.getD 5 0).toNat → KBw.bInts S = (ks.drop (7 + ks.getD 5 0).toNat).take (ks.getD (6 + ks.getD 5 0).toNat 0).toNat →
      Fr h₀ L h' m → News h₀ L h' ((t, { cls := .type "tuple", data := .seq #[.int n0 t1, .int 1 t2, .bytes D t3, .bytes S t4, .int n4 t5] }) :: news) → Q (.ref t) { s with heap := h', toks := tk' })
    (kx : ∀ e h' tk' D, Fly base (envOf cn cs L a ccd :: outer) e 58 D .none .none h' → s.heap.UpToSlots h' → h₀.UpToSlots h' → ¬ invEnd ks ≤ ks.length → E (.ref e) { s with heap := h', toks := tk' }) :
    wpAny (model PySem.Challenge.rw_no0081_01.row.prog w) A (call (.ref 195) [.bytes b tb, .int 0 t0]) Q E s :=
  useE (x_inv b tb t0 ks hb hk hv) B F X T hsz N hA hh hK hdp hun (fun v h' tk' hP _ F' N' => by obtain ⟨hle, t, D, S, n0, n1, n4, t1, t2, t3, t4, t5, e, hf, g, e0, e1, e4, eD, eS⟩ := hP; subst e; subst e1; exact k t D S n0 n4 t1 t2 t3 t4 t5 h' tk' hle e0 e4 eD eS F' (newsAdd F N' g hf)) fun e h' tk' D c fl up uq hi => by obtain ⟨n, j⟩ := hi; unfold noInv at j; subst j; exact kx e h' tk' D fl up uq n
end
theorem fdj {n j : Int} {ks : List Int} (e : n = ks.getD 0 0) (h : ((ks.getD 0 0).fdiv 16).fmod 4 = j) : (n.fdiv 16).fmod 4 = j := by subst e; exact h
theorem fd2 {n : Int} {ks : List Int} (e : n = ks.getD 0 0) (h : (n.fdiv 64).fmod 2 = 0) : ((ks.getD 0 0).fdiv 64).fmod 2 = 0 := by subst e; exact h
section
variable {A : Around} {E : Value → Shared → Prop} {s : Shared}
theorem kind_at {value slice : PySem.Expr} {j : Int} {x : Str} {u : Tok} {Q : Value → Shared → Prop} {h₀ : Heap} {L : Addr} {m : Str → Option Value} (F : Fr h₀ L s.heap m) (X₀ : (hd.heap_39 w.params).In h₀) (hjx : (j = 0 ∧ x = Str.ofString "initial") ∨ (j = 1 ∧ x = Str.ofString "zero") ∨ (j = 2 ∧ x = Str.ofString "handshake")) (h : ∀ t, Q (.str x t) s)
    (hs : subscripted slice false (.ref 160) (.int j u) = operate [.ref 160, .int j u] (getItem (.ref 160) (.int j u)) := by with_unfolding_all rfl) :
    wpAny (model PySem.Challenge.rw_no0081_01.row.prog w) A (subscriptTail value slice (.ref 160) (.int j u)) Q E s := by
  have X := X₀.keeps F.keep
  have hl : ∃ vs, s.heap.IsList 160 vs ∧ ∃ a b c r, vs = #[.str (Str.ofString "initial") a, .str (Str.ofString "zero") b, .str (Str.ofString "handshake") c, r] := ⟨_, ⟨_, X 160 _ rfl, rfl, _, rfl⟩, _, _, _, _, rfl⟩
  obtain ⟨vs, hl, a, b, c, r, rfl⟩ := hl
  rcases hjx with ⟨rfl, rfl⟩ | ⟨rfl, rfl⟩ | ⟨rfl, rfl⟩
  · exact tail_any hl.typeIs slot_list_getitem.lookup (wpAny_getItem_list hl (by decide) (by decide) rfl (h _)) hs
  · exact tail_any hl.typeIs slot_list_getitem.lookup (wpAny_getItem_list hl (by decide) (by decide) rfl (h _)) hs
  · exact tail_any hl.typeIs slot_list_getitem.lookup (wpAny_getItem_list hl (by decide) (by decide) rfl (h _)) hs
end
theorem fd3 {n : Int} {ks : List Int} (e : n = ks.getD 0 0) (h : ¬ (n.fdiv 64).fmod 2 = 0) : ((ks.getD 0 0).fdiv 64).fmod 2 ≠ 0 := by subst e; exact h
noncomputable def LongOk (ks : List Int) (x : Str) : Prop := invEnd ks ≤ ks.length ∧ ks.getD 5 0 ≤ 20 ∧ ks.getD (6 + ks.getD 5 0).toNat 0 ≤ 20 ∧ ((ks.getD 0 0).fdiv 64).fmod 2 ≠ 0 ∧ NumOk ks x
theorem mB1 {n a b : Nat} (h : n ≤ 1000) : min a (n - b) ≤ 1099511627776 :=
  Nat.le_trans (Nat.le_trans (Nat.min_le_right _ _) (Nat.le_trans (Nat.sub_le _ _) h)) (by decide)
theorem mB2 {a : Int} {b : Nat} (h : 20 < ((min a.toNat b : Nat) : Int)) (h' : a ≤ 20) : False :=
  absurd (Int.ofNat_lt.mp h : 20 < min a.toNat b) (Nat.not_lt.mpr (Nat.le_trans (Nat.min_le_left _ _) (Int.toNat_le.mpr h')))
theorem min20 {a : Int} {b : Nat} (h : ¬ 20 < ((min a.toNat b : Nat) : Int)) (hb : a.toNat ≤ b) : a ≤ 20 := by
  rw [Nat.min_eq_left hb] at h
  exact Int.le_trans (Int.self_le_toNat a) (Int.not_lt.mp h)
theorem mB3 {y z : Int} {ks : List Int} (hn : ¬ 20 < ((min z.toNat (ks.length - (7 + y).toNat) : Nat) : Int)) (hle : invEnd ks ≤ ks.length) (he : invEnd ks = 7 + y + z) (h0 : 0 ≤ y) (h1 : 0 ≤ z) : z ≤ 20 := by
  refine min20 hn (Nat.le_sub_of_add_le ?_)
  rw [Nat.add_comm, ← Int.toNat_add (Int.add_nonneg (by decide) h0) h1, ← he]
  exact Int.toNat_le.mpr hle
theorem mB4 {y z : Int} {ks : List Int} (hn : ¬ 20 < ((min y.toNat (ks.length - 6) : Nat) : Int)) (hle : invEnd ks ≤ ks.length) (he : invEnd ks = 7 + y + z) (h0 : 0 ≤ y) (h1 : 0 ≤ z) : y ≤ 20 := by
  refine min20 hn (Nat.le_sub_of_add_le (Int.ofNat_le.mp (Int.le_trans ?_ hle)))
  rw [he, Int.natCast_add, Int.toNat_of_nonneg h0, Int.add_comm]
  exact Int.le_trans (Int.add_le_add_right (by decide : ((6 : Nat) : Int) ≤ 7) y) (Int.le_add_of_nonneg_right h1)
local macro_rules | `(tactic| omega) => `(tactic| first | exact mB1 (by assumption) | exact mB2 (by assumption) (by assumption) | exact mB3 (by assumption) (by assumption) (by assumption) (by assumption) (by assumption) | exact mB4 (by assumption) (by assumption) (by assumption) (by assumption) (by assumption) | fail)
set_option maxHeartbeats 4000000 in
theorem x_long (b : Array UInt8) (tb t0 : Tok) (ks : List Int) (j : Int) (x : Str) (hb : KBw.bInts b = ks) (hk : ks.length ≤ 1000) (h1 : 1 ≤ ks.length) (hv : 5 ≤ ks.length → be2n ((ks.drop 1).take 4) = 1)
    (hvA : invEnd ks < ks.length → ks.getD (invEnd ks).toNat 0 < 64) (hvB : invEnd ks + 1 + ks.getD (invEnd ks).toNat 0 < ks.length → ks.getD (invEnd ks + 1 + ks.getD (invEnd ks).toNat 0).toNat 0 < 64)
    (hj : ((ks.getD 0 0).fdiv 16).fmod 4 = j) (hjx : (j = 0 ∧ x = Str.ofString "initial") ∨ (j = 1 ∧ x = Str.ofString "zero") ∨ (j = 2 ∧ x = Str.ofString "handshake")) :
   ECon w p loose mean mg mb 209 [.bytes b tb, .int 0 t0] 60 400 (fun h h' v => LongOk ks x ∧ RawOut w x (ks.getD 0 0) ((ks.drop 6).take (ks.getD 5 0).toNat) ((ks.drop (7 + ks.getD 5 0).toNat).take (ks.getD (6 + ks.getD 5 0).toNat 0).toNat) (tokL ks x) (numAt ks x + 1) (numAt ks x + 1 + ks.getD (numAt ks x).toNat 0) h h' v) 78 (fun _ _ _ => ¬ LongOk ks x) := by
  have hdl : 0 ≤ ks.getD 5 0 := (KBw.getD_in (bInts_in' hb)).1
  have hsl : 0 ≤ ks.getD (6 + ks.getD 5 0).toNat 0 := (KBw.getD_in (bInts_in' hb)).1
  have hie : invEnd ks = 7 + ks.getD 5 0 + ks.getD (6 + ks.getD 5 0).toNat 0 := rfl
  have hx3 : x = Str.ofString "initial" ∨ x = Str.ofString "zero" ∨ x = Str.ofString "handshake" := hjx.imp And.right (Or.imp And.right And.right)
  refine econ_of fun dp un gd base l s R B XB TB X T hsz hd hu hret hx => ?_
  refine enter (binds := [(Str.ofString "data", .bytes b tb), (Str.ofString "start", .int 0 t0)]) X T (by k_is) (by k_is) (by ktr_room) (BindsTo.of_eq rfl) (locs rfl) (fun L' h₁' F' N' => ?_) rfl rfl rfl (by decide)
  (dsimp only [List.reverse, List.reverseAux, bmap] at F')
  (try dsimp only)
  (have hC58 := cls58 XB)
  (have hC78 := cls78 XB)
  (have hC38 := cls38 XB)
  (try k_fold)
  repeat' (first | ((fail_if_success (with_reducible show wpAny _ _ (subscriptTail _ _ (Value.ref 160) _) _ _ _)); first | (k_unfold; (try dsimp only)) | (k_end; wrow_close) | (k_here; (with_reducible show wpAny _ _ (call (Value.ref 223) _) _ _ _); k_dflt (refine useNum _ _ _ _ _ (by kba_ints2) (by assumption) (by assumption) (by omega) (by assumption) (by assumption) _ (by assumption) (by k_asm) (by assumption) (by k_mem) (by k_mem) (by omega) (by exact rfl) (by assumption) (by assumption) (by assumption) (by first | assumption | exact sz_up (by assumption) (by assumption) | exact sz_up (by assumption) (sz_up (by assumption) (by assumption)) | exact sz_up (by assumption) (sz_up (by assumption) (sz_up (by assumption) (by assumption)))) (by exact rfl) (by exact rfl) (by ktr_room) (by ktr_units) ?_ ?_); rotate_left; intro e9 h9 tk9 D9 c9 fl9 up9 no9; rotate_left; intro h9 tk9 g9 ok9 out9 F9; tb_rel) | (k_here; (with_reducible show wpAny _ _ (call (Value.ref 195) _) _ _ _); k_dflt (refine useInv _ _ _ _ (by kba_ints2) (by assumption) (by assumption) (by k_asm) (by exact rfl) (by assumption) (by assumption) (by assumption) (by first | assumption | exact sz_up (by assumption) (by assumption) | exact sz_up (by assumption) (sz_up (by assumption) (by assumption)) | exact sz_up (by assumption) (sz_up (by assumption) (sz_up (by assumption) (by assumption)))) (by k_asm) (by exact rfl) (by exact rfl) (by ktr_room) (by ktr_units) ?_ ?_); rotate_left; intro e9 h9 tk9 D9 fl9 up9 uq9 i9; rotate_left; intro t9 D9 S9 n9 n94 t91 t92 t93 t94 t95 h9 tk9 le9 a9 c9 d9 f9 F9 N9; tb_rel) | (k_here; (with_reducible show wpAny _ _ (noteFrame _ _) _ _ _); k_dflt (refine' x_caughtR ?B ?F ?fl ?up ?X ?T ?sz ?C ?ex ?_ ?a ?b ?c; (case fl => assumption); (case F => assumption); (case up => exact (by repeat (first | assumption | exact up_fr (by assumption) | (refine Heap.UpToSlots.trans ?_ (by assumption))))); (case B => assumption); (case X => assumption); (case T => assumption); (case C => assumption); (case sz => first | assumption | exact sz_up (by assumption) (by assumption) | exact sz_up (by assumption) (sz_up (by assumption) (by assumption)) | exact sz_up (by assumption) (sz_up (by assumption) (sz_up (by assumption) (by assumption)))); (case ex => k_is); (case a => exact rfl); (case b => exact rfl); (case c => decide)); intro h9 fl9 up9 F9 N9; tb_rel) | (k_here; (with_reducible show wpAny _ _ (call (Value.ref 38) _) _ _ _); k_dflt (refine mkQuicF (by decide) (by k_asm) (by k_asm) (by k_asm) (by ktr_room) (by ktr_units) ?_); intro e9 h9 tk9 mA9 N9 q9; tb_rel) | (k_here; (with_reducible show wpAny _ _ (call (Value.ref 78) _) _ _ _); k_dflt (refine mkRefusedF (by k_asm) (by k_asm) (by k_asm) (by ktr_room) (by ktr_units) ?_); intro e9 h9 tk9 mA9 N9; tb_rel) | (k_here; (with_reducible show wpAny _ _ (call (Value.ref 58) _) _ _ _); k_dflt (refine mkShortF (by k_asm) (by k_asm) (by k_asm) (by ktr_room) (by ktr_units) ?_); intro e9 h9 tk9 mA9 N9; tb_rel) | walk1 | (dsimp only; first | (k_here; (with_reducible show wpAny _ _ (call (Value.ref 223) _) _ _ _); k_dflt (refine useNum _ _ _ _ _ (by kba_ints2) (by assumption) (by assumption) (by omega) (by assumption) (by assumption) _ (by assumption) (by k_asm) (by assumption) (by k_mem) (by k_mem) (by omega) (by exact rfl) (by assumption) (by assumption) (by assumption) (by first | assumption | exact sz_up (by assumption) (by assumption) | exact sz_up (by assumption) (sz_up (by assumption) (by assumption)) | exact sz_up (by assumption) (sz_up (by assumption) (sz_up (by assumption) (by assumption)))) (by exact rfl) (by exact rfl) (by ktr_room) (by ktr_units) ?_ ?_); rotate_left; intro e9 h9 tk9 D9 c9 fl9 up9 no9; rotate_left; intro h9 tk9 g9 ok9 out9 F9; tb_rel) | (k_here; (with_reducible show wpAny _ _ (call (Value.ref 195) _) _ _ _); k_dflt (refine useInv _ _ _ _ (by kba_ints2) (by assumption) (by assumption) (by k_asm) (by exact rfl) (by assumption) (by assumption) (by assumption) (by first | assumption | exact sz_up (by assumption) (by assumption) | exact sz_up (by assumption) (sz_up (by assumption) (by assumption)) | exact sz_up (by assumption) (sz_up (by assumption) (sz_up (by assumption) (by assumption)))) (by k_asm) (by exact rfl) (by exact rfl) (by ktr_room) (by ktr_units) ?_ ?_); rotate_left; intro e9 h9 tk9 D9 fl9 up9 uq9 i9; rotate_left; intro t9 D9 S9 n9 n94 t91 t92 t93 t94 t95 h9 tk9 le9 a9 c9 d9 f9 F9 N9; tb_rel) | (k_here; (with_reducible show wpAny _ _ (noteFrame _ _) _ _ _); k_dflt (refine' x_caughtR ?B ?F ?fl ?up ?X ?T ?sz ?C ?ex ?_ ?a ?b ?c; (case fl => assumption); (case F => assumption); (case up => exact (by repeat (first | assumption | exact up_fr (by assumption) | (refine Heap.UpToSlots.trans ?_ (by assumption))))); (case B => assumption); (case X => assumption); (case T => assumption); (case C => assumption); (case sz => first | assumption | exact sz_up (by assumption) (by assumption) | exact sz_up (by assumption) (sz_up (by assumption) (by assumption)) | exact sz_up (by assumption) (sz_up (by assumption) (sz_up (by assumption) (by assumption)))); (case ex => k_is); (case a => exact rfl); (case b => exact rfl); (case c => decide)); intro h9 fl9 up9 F9 N9; tb_rel) | (k_here; (with_reducible show wpAny _ _ (call (Value.ref 38) _) _ _ _); k_dflt (refine mkQuicF (by decide) (by k_asm) (by k_asm) (by k_asm) (by ktr_room) (by ktr_units) ?_); intro e9 h9 tk9 mA9 N9 q9; tb_rel) | (k_here; (with_reducible show wpAny _ _ (call (Value.ref 78) _) _ _ _); k_dflt (refine mkRefusedF (by k_asm) (by k_asm) (by k_asm) (by ktr_room) (by ktr_units) ?_); intro e9 h9 tk9 mA9 N9; tb_rel) | (k_here; (with_reducible show wpAny _ _ (call (Value.ref 58) _) _ _ _); k_dflt (refine mkShortF (by k_asm) (by k_asm) (by k_asm) (by ktr_room) (by ktr_units) ?_); intro e9 h9 tk9 mA9 N9; tb_rel) | walk1)))
  all_goals try (exfalso; omega)
  all_goals (first | (with_reducible show wpAny _ _ _ _ _ _) | (refine hx _ _ _ _ _ (by assumption) (by repeat (first | assumption | exact up_fr (by assumption) | (refine Heap.UpToSlots.trans ?_ (by assumption)))) ?_; clear hx hret; intro hq; obtain ⟨c1, c2, c3, c4, c5⟩ := hq; first | omega | exact c4 (fd2 (by assumption) (by assumption))))
  (rw [show Int.fmod (Int.fdiv _ 16) 4 = j from fdj (by assumption) hj])
  refine kind_at (by k_asm) (by k_asm) hjx fun tj => ?_
  tb_rel
  repeat' (first | ((fail_if_success (with_reducible show wpAny _ _ (eval (PySem.Expr.Call (PySem.Expr.Name _ _) _ _ _) _) _ _ _)); first | (k_unfold; (try dsimp only)) | (k_end; wrow_close) | (k_here; (with_reducible show wpAny _ _ (call (Value.ref 223) _) _ _ _); k_dflt (refine useNum _ _ _ _ _ (by kba_ints2) (by assumption) (by assumption) (by omega) (by assumption) (by assumption) _ (by assumption) (by k_asm) (by assumption) (by k_mem) (by k_mem) (by omega) (by exact rfl) (by assumption) (by assumption) (by assumption) (by first | assumption | exact sz_up (by assumption) (by assumption) | exact sz_up (by assumption) (sz_up (by assumption) (by assumption)) | exact sz_up (by assumption) (sz_up (by assumption) (sz_up (by assumption) (by assumption)))) (by exact rfl) (by exact rfl) (by ktr_room) (by ktr_units) ?_ ?_); rotate_left; intro e9 h9 tk9 D9 c9 fl9 up9 no9; rotate_left; intro h9 tk9 g9 ok9 out9 F9; tb_rel) | (k_here; (with_reducible show wpAny _ _ (call (Value.ref 195) _) _ _ _); k_dflt (refine useInv _ _ _ _ (by kba_ints2) (by assumption) (by assumption) (by k_asm) (by exact rfl) (by assumption) (by assumption) (by assumption) (by first | assumption | exact sz_up (by assumption) (by assumption) | exact sz_up (by assumption) (sz_up (by assumption) (by assumption)) | exact sz_up (by assumption) (sz_up (by assumption) (sz_up (by assumption) (by assumption)))) (by k_asm) (by exact rfl) (by exact rfl) (by ktr_room) (by ktr_units) ?_ ?_); rotate_left; intro e9 h9 tk9 D9 fl9 up9 uq9 i9; rotate_left; intro t9 D9 S9 n9 n94 t91 t92 t93 t94 t95 h9 tk9 le9 a9 c9 d9 f9 F9 N9; tb_rel) | (k_here; (with_reducible show wpAny _ _ (noteFrame _ _) _ _ _); k_dflt (refine' x_caughtR ?B ?F ?fl ?up ?X ?T ?sz ?C ?ex ?_ ?a ?b ?c; (case fl => assumption); (case F => assumption); (case up => exact (by repeat (first | assumption | exact up_fr (by assumption) | (refine Heap.UpToSlots.trans ?_ (by assumption))))); (case B => assumption); (case X => assumption); (case T => assumption); (case C => assumption); (case sz => first | assumption | exact sz_up (by assumption) (by assumption) | exact sz_up (by assumption) (sz_up (by assumption) (by assumption)) | exact sz_up (by assumption) (sz_up (by assumption) (sz_up (by assumption) (by assumption)))); (case ex => k_is); (case a => exact rfl); (case b => exact rfl); (case c => decide)); intro h9 fl9 up9 F9 N9; tb_rel) | (k_here; (with_reducible show wpAny _ _ (call (Value.ref 38) _) _ _ _); k_dflt (refine mkQuicF (by decide) (by k_asm) (by k_asm) (by k_asm) (by ktr_room) (by ktr_units) ?_); intro e9 h9 tk9 mA9 N9 q9; tb_rel) | (k_here; (with_reducible show wpAny _ _ (call (Value.ref 78) _) _ _ _); k_dflt (refine mkRefusedF (by k_asm) (by k_asm) (by k_asm) (by ktr_room) (by ktr_units) ?_); intro e9 h9 tk9 mA9 N9; tb_rel) | (k_here; (with_reducible show wpAny _ _ (call (Value.ref 58) _) _ _ _); k_dflt (refine mkShortF (by k_asm) (by k_asm) (by k_asm) (by ktr_room) (by ktr_units) ?_); intro e9 h9 tk9 mA9 N9; tb_rel) | walk1 | (dsimp only; first | (k_here; (with_reducible show wpAny _ _ (call (Value.ref 223) _) _ _ _); k_dflt (refine useNum _ _ _ _ _ (by kba_ints2) (by assumption) (by assumption) (by omega) (by assumption) (by assumption) _ (by assumption) (by k_asm) (by assumption) (by k_mem) (by k_mem) (by omega) (by exact rfl) (by assumption) (by assumption) (by assumption) (by first | assumption | exact sz_up (by assumption) (by assumption) | exact sz_up (by assumption) (sz_up (by assumption) (by assumption)) | exact sz_up (by assumption) (sz_up (by assumption) (sz_up (by assumption) (by assumption)))) (by exact rfl) (by exact rfl) (by ktr_room) (by ktr_units) ?_ ?_); rotate_left; intro e9 h9 tk9 D9 c9 fl9 up9 no9; rotate_left; intro h9 tk9 g9 ok9 out9 F9; tb_rel) | (k_here; (with_reducible show wpAny _ _ (call (Value.ref 195) _) _ _ _); k_dflt (refine useInv _ _ _ _ (by kba_ints2) (by assumption) (by assumption) (by k_asm) (by exact rfl) (by assumption) (by assumption) (by assumption) (by first | assumption | exact sz_up (by assumption) (by assumption) | exact sz_up (by assumption) (sz_up (by assumption) (by assumption)) | exact sz_up (by assumption) (sz_up (by assumption) (sz_up (by assumption) (by assumption)))) (by k_asm) (by exact rfl) (by exact rfl) (by ktr_room) (by ktr_units) ?_ ?_); rotate_left; intro e9 h9 tk9 D9 fl9 up9 uq9 i9; rotate_left; intro t9 D9 S9 n9 n94 t91 t92 t93 t94 t95 h9 tk9 le9 a9 c9 d9 f9 F9 N9; tb_rel) | (k_here; (with_reducible show wpAny _ _ (noteFrame _ _) _ _ _); k_dflt (refine' x_caughtR ?B ?F ?fl ?up ?X ?T ?sz ?C ?ex ?_ ?a ?b ?c; (case fl => assumption); (case F => assumption); (case up => exact (by repeat (first | assumption | exact up_fr (by assumption) | (refine Heap.UpToSlots.trans ?_ (by assumption))))); (case B => assumption); (case X => assumption); (case T => assumption); (case C => assumption); (case sz => first | assumption | exact sz_up (by assumption) (by assumption) | exact sz_up (by assumption) (sz_up (by assumption) (by assumption)) | exact sz_up (by assumption) (sz_up (by assumption) (sz_up (by assumption) (by assumption)))); (case ex => k_is); (case a => exact rfl); (case b => exact rfl); (case c => decide)); intro h9 fl9 up9 F9 N9; tb_rel) | (k_here; (with_reducible show wpAny _ _ (call (Value.ref 38) _) _ _ _); k_dflt (refine mkQuicF (by decide) (by k_asm) (by k_asm) (by k_asm) (by ktr_room) (by ktr_units) ?_); intro e9 h9 tk9 mA9 N9 q9; tb_rel) | (k_here; (with_reducible show wpAny _ _ (call (Value.ref 78) _) _ _ _); k_dflt (refine mkRefusedF (by k_asm) (by k_asm) (by k_asm) (by ktr_room) (by ktr_units) ?_); intro e9 h9 tk9 mA9 N9; tb_rel) | (k_here; (with_reducible show wpAny _ _ (call (Value.ref 58) _) _ _ _); k_dflt (refine mkShortF (by k_asm) (by k_asm) (by k_asm) (by ktr_room) (by ktr_units) ?_); intro e9 h9 tk9 mA9 N9; tb_rel) | walk1)))
  · exfalso; rcases hx3 with rfl | rfl | rfl <;> contradiction
  repeat' (first | ((fail_if_success (with_reducible show wpAny _ _ (call (Value.ref 223) _) _ _ _)); first | (k_unfold; (try dsimp only)) | (k_end; wrow_close) | (k_here; (with_reducible show wpAny _ _ (call (Value.ref 223) _) _ _ _); k_dflt (refine useNum _ _ _ _ _ (by kba_ints2) (by assumption) (by assumption) (by omega) (by assumption) (by assumption) _ (by assumption) (by k_asm) (by assumption) (by k_mem) (by k_mem) (by omega) (by exact rfl) (by assumption) (by assumption) (by assumption) (by first | assumption | exact sz_up (by assumption) (by assumption) | exact sz_up (by assumption) (sz_up (by assumption) (by assumption)) | exact sz_up (by assumption) (sz_up (by assumption) (sz_up (by assumption) (by assumption)))) (by exact rfl) (by exact rfl) (by ktr_room) (by ktr_units) ?_ ?_); rotate_left; intro e9 h9 tk9 D9 c9 fl9 up9 no9; rotate_left; intro h9 tk9 g9 ok9 out9 F9; tb_rel) | (k_here; (with_reducible show wpAny _ _ (call (Value.ref 195) _) _ _ _); k_dflt (refine useInv _ _ _ _ (by kba_ints2) (by assumption) (by assumption) (by k_asm) (by exact rfl) (by assumption) (by assumption) (by assumption) (by first | assumption | exact sz_up (by assumption) (by assumption) | exact sz_up (by assumption) (sz_up (by assumption) (by assumption)) | exact sz_up (by assumption) (sz_up (by assumption) (sz_up (by assumption) (by assumption)))) (by k_asm) (by exact rfl) (by exact rfl) (by ktr_room) (by ktr_units) ?_ ?_); rotate_left; intro e9 h9 tk9 D9 fl9 up9 uq9 i9; rotate_left; intro t9 D9 S9 n9 n94 t91 t92 t93 t94 t95 h9 tk9 le9 a9 c9 d9 f9 F9 N9; tb_rel) | (k_here; (with_reducible show wpAny _ _ (noteFrame _ _) _ _ _); k_dflt (refine' x_caughtR ?B ?F ?fl ?up ?X ?T ?sz ?C ?ex ?_ ?a ?b ?c; (case fl => assumption); (case F => assumption); (case up => exact (by repeat (first | assumption | exact up_fr (by assumption) | (refine Heap.UpToSlots.trans ?_ (by assumption))))); (case B => assumption); (case X => assumption); (case T => assumption); (case C => assumption); (case sz => first | assumption | exact sz_up (by assumption) (by assumption) | exact sz_up (by assumption) (sz_up (by assumption) (by assumption)) | exact sz_up (by assumption) (sz_up (by assumption) (sz_up (by assumption) (by assumption)))); (case ex => k_is); (case a => exact rfl); (case b => exact rfl); (case c => decide)); intro h9 fl9 up9 F9 N9; tb_rel) | (k_here; (with_reducible show wpAny _ _ (call (Value.ref 38) _) _ _ _); k_dflt (refine mkQuicF (by decide) (by k_asm) (by k_asm) (by k_asm) (by ktr_room) (by ktr_units) ?_); intro e9 h9 tk9 mA9 N9 q9; tb_rel) | (k_here; (with_reducible show wpAny _ _ (call (Value.ref 78) _) _ _ _); k_dflt (refine mkRefusedF (by k_asm) (by k_asm) (by k_asm) (by ktr_room) (by ktr_units) ?_); intro e9 h9 tk9 mA9 N9; tb_rel) | (k_here; (with_reducible show wpAny _ _ (call (Value.ref 58) _) _ _ _); k_dflt (refine mkShortF (by k_asm) (by k_asm) (by k_asm) (by ktr_room) (by ktr_units) ?_); intro e9 h9 tk9 mA9 N9; tb_rel) | walk1 | (dsimp only; first | (k_here; (with_reducible show wpAny _ _ (call (Value.ref 223) _) _ _ _); k_dflt (refine useNum _ _ _ _ _ (by kba_ints2) (by assumption) (by assumption) (by omega) (by assumption) (by assumption) _ (by assumption) (by k_asm) (by assumption) (by k_mem) (by k_mem) (by omega) (by exact rfl) (by assumption) (by assumption) (by assumption) (by first | assumption | exact sz_up (by assumption) (by assumption) | exact sz_up (by assumption) (sz_up (by assumption) (by assumption)) | exact sz_up (by assumption) (sz_up (by assumption) (sz_up (by assumption) (by assumption)))) (by exact rfl) (by exact rfl) (by ktr_room) (by ktr_units) ?_ ?_); rotate_left; intro e9 h9 tk9 D9 c9 fl9 up9 no9; rotate_left; intro h9 tk9 g9 ok9 out9 F9; tb_rel) | (k_here; (with_reducible show wpAny _ _ (call (Value.ref 195) _) _ _ _); k_dflt (refine useInv _ _ _ _ (by kba_ints2) (by assumption) (by assumption) (by k_asm) (by exact rfl) (by assumption) (by assumption) (by assumption) (by first | assumption | exact sz_up (by assumption) (by assumption) | exact sz_up (by assumption) (sz_up (by assumption) (by assumption)) | exact sz_up (by assumption) (sz_up (by assumption) (sz_up (by assumption) (by assumption)))) (by k_asm) (by exact rfl) (by exact rfl) (by ktr_room) (by ktr_units) ?_ ?_); rotate_left; intro e9 h9 tk9 D9 fl9 up9 uq9 i9; rotate_left; intro t9 D9 S9 n9 n94 t91 t92 t93 t94 t95 h9 tk9 le9 a9 c9 d9 f9 F9 N9; tb_rel) | (k_here; (with_reducible show wpAny _ _ (noteFrame _ _) _ _ _); k_dflt (refine' x_caughtR ?B ?F ?fl ?up ?X ?T ?sz ?C ?ex ?_ ?a ?b ?c; (case fl => assumption); (case F => assumption); (case up => exact (by repeat (first | assumption | exact up_fr (by assumption) | (refine Heap.UpToSlots.trans ?_ (by assumption))))); (case B => assumption); (case X => assumption); (case T => assumption); (case C => assumption); (case sz => first | assumption | exact sz_up (by assumption) (by assumption) | exact sz_up (by assumption) (sz_up (by assumption) (by assumption)) | exact sz_up (by assumption) (sz_up (by assumption) (sz_up (by assumption) (by assumption)))); (case ex => k_is); (case a => exact rfl); (case b => exact rfl); (case c => decide)); intro h9 fl9 up9 F9 N9; tb_rel) | (k_here; (with_reducible show wpAny _ _ (call (Value.ref 38) _) _ _ _); k_dflt (refine mkQuicF (by decide) (by k_asm) (by k_asm) (by k_asm) (by ktr_room) (by ktr_units) ?_); intro e9 h9 tk9 mA9 N9 q9; tb_rel) | (k_here; (with_reducible show wpAny _ _ (call (Value.ref 78) _) _ _ _); k_dflt (refine mkRefusedF (by k_asm) (by k_asm) (by k_asm) (by ktr_room) (by ktr_units) ?_); intro e9 h9 tk9 mA9 N9; tb_rel) | (k_here; (with_reducible show wpAny _ _ (call (Value.ref 58) _) _ _ _); k_dflt (refine mkShortF (by k_asm) (by k_asm) (by k_asm) (by ktr_room) (by ktr_units) ?_); intro e9 h9 tk9 mA9 N9; tb_rel) | walk1)))
  (rename News _ _ _ _ => N8)
  repeat' (first | (k_unfold; (try dsimp only)) | (k_end; wrow_close) | (k_here; (with_reducible show wpAny _ _ (call (Value.ref 223) _) _ _ _); k_dflt (refine useNum _ _ _ _ _ (by kba_ints2) (by assumption) (by assumption) (by omega) (by assumption) (by assumption) _ (by assumption) (by k_asm) (by assumption) (by k_mem) (by k_mem) (by omega) (by exact rfl) (by assumption) (by assumption) (by assumption) (by first | assumption | exact sz_up (by assumption) (by assumption) | exact sz_up (by assumption) (sz_up (by assumption) (by assumption)) | exact sz_up (by assumption) (sz_up (by assumption) (sz_up (by assumption) (by assumption)))) (by exact rfl) (by exact rfl) (by ktr_room) (by ktr_units) ?_ ?_); rotate_left; intro e9 h9 tk9 D9 c9 fl9 up9 no9; rotate_left; intro h9 tk9 g9 ok9 out9 F9; tb_rel) | (k_here; (with_reducible show wpAny _ _ (call (Value.ref 195) _) _ _ _); k_dflt (refine useInv _ _ _ _ (by kba_ints2) (by assumption) (by assumption) (by k_asm) (by exact rfl) (by assumption) (by assumption) (by assumption) (by first | assumption | exact sz_up (by assumption) (by assumption) | exact sz_up (by assumption) (sz_up (by assumption) (by assumption)) | exact sz_up (by assumption) (sz_up (by assumption) (sz_up (by assumption) (by assumption)))) (by k_asm) (by exact rfl) (by exact rfl) (by ktr_room) (by ktr_units) ?_ ?_); rotate_left; intro e9 h9 tk9 D9 fl9 up9 uq9 i9; rotate_left; intro t9 D9 S9 n9 n94 t91 t92 t93 t94 t95 h9 tk9 le9 a9 c9 d9 f9 F9 N9; tb_rel) | (k_here; (with_reducible show wpAny _ _ (noteFrame _ _) _ _ _); k_dflt (refine' x_caughtR ?B ?F ?fl ?up ?X ?T ?sz ?C ?ex ?_ ?a ?b ?c; (case fl => assumption); (case F => assumption); (case up => exact (by repeat (first | assumption | exact up_fr (by assumption) | (refine Heap.UpToSlots.trans ?_ (by assumption))))); (case B => assumption); (case X => assumption); (case T => assumption); (case C => assumption); (case sz => first | assumption | exact sz_up (by assumption) (by assumption) | exact sz_up (by assumption) (sz_up (by assumption) (by assumption)) | exact sz_up (by assumption) (sz_up (by assumption) (sz_up (by assumption) (by assumption)))); (case ex => k_is); (case a => exact rfl); (case b => exact rfl); (case c => decide)); intro h9 fl9 up9 F9 N9; tb_rel) | (k_here; (with_reducible show wpAny _ _ (call (Value.ref 38) _) _ _ _); k_dflt (refine mkQuicF (by decide) (by k_asm) (by k_asm) (by k_asm) (by ktr_room) (by ktr_units) ?_); intro e9 h9 tk9 mA9 N9 q9; tb_rel) | (k_here; (with_reducible show wpAny _ _ (call (Value.ref 78) _) _ _ _); k_dflt (refine mkRefusedF (by k_asm) (by k_asm) (by k_asm) (by ktr_room) (by ktr_units) ?_); intro e9 h9 tk9 mA9 N9; tb_rel) | (k_here; (with_reducible show wpAny _ _ (call (Value.ref 58) _) _ _ _); k_dflt (refine mkShortF (by k_asm) (by k_asm) (by k_asm) (by ktr_room) (by ktr_units) ?_); intro e9 h9 tk9 mA9 N9; tb_rel) | walk1 | (dsimp only; first | (k_here; (with_reducible show wpAny _ _ (call (Value.ref 223) _) _ _ _); k_dflt (refine useNum _ _ _ _ _ (by kba_ints2) (by assumption) (by assumption) (by omega) (by assumption) (by assumption) _ (by assumption) (by k_asm) (by assumption) (by k_mem) (by k_mem) (by omega) (by exact rfl) (by assumption) (by assumption) (by assumption) (by first | assumption | exact sz_up (by assumption) (by assumption) | exact sz_up (by assumption) (sz_up (by assumption) (by assumption)) | exact sz_up (by assumption) (sz_up (by assumption) (sz_up (by assumption) (by assumption)))) (by exact rfl) (by exact rfl) (by ktr_room) (by ktr_units) ?_ ?_); rotate_left; intro e9 h9 tk9 D9 c9 fl9 up9 no9; rotate_left; intro h9 tk9 g9 ok9 out9 F9; tb_rel) | (k_here; (with_reducible show wpAny _ _ (call (Value.ref 195) _) _ _ _); k_dflt (refine useInv _ _ _ _ (by kba_ints2) (by assumption) (by assumption) (by k_asm) (by exact rfl) (by assumption) (by assumption) (by assumption) (by first | assumption | exact sz_up (by assumption) (by assumption) | exact sz_up (by assumption) (sz_up (by assumption) (by assumption)) | exact sz_up (by assumption) (sz_up (by assumption) (sz_up (by assumption) (by assumption)))) (by k_asm) (by exact rfl) (by exact rfl) (by ktr_room) (by ktr_units) ?_ ?_); rotate_left; intro e9 h9 tk9 D9 fl9 up9 uq9 i9; rotate_left; intro t9 D9 S9 n9 n94 t91 t92 t93 t94 t95 h9 tk9 le9 a9 c9 d9 f9 F9 N9; tb_rel) | (k_here; (with_reducible show wpAny _ _ (noteFrame _ _) _ _ _); k_dflt (refine' x_caughtR ?B ?F ?fl ?up ?X ?T ?sz ?C ?ex ?_ ?a ?b ?c; (case fl => assumption); (case F => assumption); (case up => exact (by repeat (first | assumption | exact up_fr (by assumption) | (refine Heap.UpToSlots.trans ?_ (by assumption))))); (case B => assumption); (case X => assumption); (case T => assumption); (case C => assumption); (case sz => first | assumption | exact sz_up (by assumption) (by assumption) | exact sz_up (by assumption) (sz_up (by assumption) (by assumption)) | exact sz_up (by assumption) (sz_up (by assumption) (sz_up (by assumption) (by assumption)))); (case ex => k_is); (case a => exact rfl); (case b => exact rfl); (case c => decide)); intro h9 fl9 up9 F9 N9; tb_rel) | (k_here; (with_reducible show wpAny _ _ (call (Value.ref 38) _) _ _ _); k_dflt (refine mkQuicF (by decide) (by k_asm) (by k_asm) (by k_asm) (by ktr_room) (by ktr_units) ?_); intro e9 h9 tk9 mA9 N9 q9; tb_rel) | (k_here; (with_reducible show wpAny _ _ (call (Value.ref 78) _) _ _ _); k_dflt (refine mkRefusedF (by k_asm) (by k_asm) (by k_asm) (by ktr_room) (by ktr_units) ?_); intro e9 h9 tk9 mA9 N9; tb_rel) | (k_here; (with_reducible show wpAny _ _ (call (Value.ref 58) _) _ _ _); k_dflt (refine mkShortF (by k_asm) (by k_asm) (by k_asm) (by ktr_room) (by ktr_units) ?_); intro e9 h9 tk9 mA9 N9; tb_rel) | walk1) | (leave1; try dsimp only) | fail "no step")
  · rename NumOut _ _ _ _ _ _ _ _ _ _ _ _ _ _ _ _ _ _ _ _ _ _ _ => out9
    obtain ⟨T9, na9, en9, v0, v1, v2, v3, v4, v5, v6, v7, v8, v9, e1, e2, e3, e4, e5⟩ := out9
    refine hret _ _ _ ⟨⟨by assumption, by omega, by omega, fd3 (by assumption) (by assumption), by assumption⟩, ?_⟩ (Fr.keep (L := L') (by k_asm))
    rename _ = List.getD ks 0 0 => a9
    subst a9
    subst e4
    subst e5
    exact ⟨_, _, _, _, T9, _, _, _, _, _, _, _, _, _, _, _, _, _, _, _, _, _, _, _, _, _, _, _, rfl, (N8 (_, instObj 177 _) (by k_mem)).2.2, (N8 (_, dictOf _ _) (by k_mem)).2.2, by omega, e1, e2, by assumption, by assumption, e3⟩
  · refine hx _ _ _ _ _ (by assumption) (by repeat (first | assumption | exact up_fr (by assumption) | (refine Heap.UpToSlots.trans ?_ (by assumption)))) fun hq => ?_
    have := hq.2.2.2.2
    contradiction
  all_goals (try dsimp only)
end
end
theorem rstSC19 {M : Model} {A : Around} {env : Env} {Q : Flow → Shared → Prop} {E : Value → Shared → Prop} {s : Shared} (h : Q .next s) : wpAny M A (execs [] env) Q E s := by
  first | (walk1; fail) | exact wpAny_execs_nil h
section
variable {w : World} {p : Program} {loose : List Str} {mean : ExcName → Option Value} {mg mb : Str → Option Value}
section
variable {A A₀ : Around} {base h₀ : Heap} {outer : List Env} {L a : Addr} {m : Str → Option Value} {cn : Str} {cs : Scope} {ccd : Value} {news : List (Addr × Obj)} {s : Shared} {Q E : Value → Shared → Prop}
theorem useRaw {f : Addr} {vs : List Value} {d₀ u₀ : Nat} {ok : Prop} {x : Str} {fi : Int} {dl sl tl : List Int} {na en : Int} (K : ECon w p loose mean mg mb f vs d₀ u₀ (fun h h' v => ok ∧ RawOut w x fi dl sl tl na en h h' v) 78 (fun _ _ _ => ¬ ok))
    (F : Fr h₀ L s.heap m) (hA : A.frames = some (envOf cn cs L a ccd :: outer)) (B : Below A₀ base outer h₀) (X : (hd.heap_39 w.params).In base) (T : Top p loose mean mg mb base) (hsz : base.objs.size ≤ h₀.objs.size) (N : News h₀ L s.heap news)
    (hh : A.handled = none) (hK : cs.kind = .function) (hdp : A.depth + d₀ < recursionLimit) (hun : A.units + u₀ < cLine)
    (k : ∀ r d D S T G lv k0 k1 k2 k3 k4 k5 k6 k7 k8 k9 k10 u0 u1 u2 u3 u4 u5 u6 u8 u9 u10 h' tk', ok → KBw.bInts D = dl → KBw.bInts S = sl → KBw.bInts T = tl → (@Ne Nat r d) → Fr h₀ L h' m → News h₀ L h' ((r, instObj 177 d) :: (d, dictOf [{ hash := PyData.keyHash w.params (Str.ofString "kind"), key := .str (Str.ofString "kind") k0, val := .str x u0 }, { hash := PyData.keyHash w.params (Str.ofString "first"), key := .str (Str.ofString "first") k1, val := .int fi u1 }, { hash := PyData.keyHash w.params (Str.ofString "version"), key := .str (Str.ofString "version") k2, val := .int 1 u2 }, { hash := PyData.keyHash w.params (Str.ofString "dcid"), key := .str (Str.ofString "dcid") k3, val := .bytes D u3 }, { hash := PyData.keyHash w.params (Str.ofString "scid"), key := .str (Str.ofString "scid") k4, val := .bytes S u4 }, { hash := PyData.keyHash w.params (Str.ofString "token"), key := .str (Str.ofString "token") k5, val := .bytes T u5 }, { hash := PyData.keyHash w.params (Str.ofString "tag"), key := .str (Str.ofString "tag") k6, val := .bytes G u6 }, { hash := PyData.keyHash w.params (Str.ofString "versions"), key := .str (Str.ofString "versions") k7, val := .ref lv }, { hash := PyData.keyHash w.params (Str.ofString "start"), key := .str (Str.ofString "start") k8, val := .int 0 u8 }, { hash := PyData.keyHash w.params (Str.ofString "number_at"), key := .str (Str.ofString "number_at") k9, val := .int na u9 }, { hash := PyData.keyHash w.params (Str.ofString "end"), key := .str (Str.ofString "end") k10, val := .int en u10 }] 11) :: news) → Q (.ref r) { s with heap := h', toks := tk' })
    (kx : ∀ e h' tk' D c, Fly base (envOf cn cs L a ccd :: outer) e 78 D c .none h' → s.heap.UpToSlots h' → h₀.UpToSlots h' → ¬ ok → E (.ref e) { s with heap := h', toks := tk' }) :
    wpAny (model PySem.Challenge.rw_no0081_01.row.prog w) A (call (.ref f) vs) Q E s :=
  useE K B F X T hsz N hA hh hK hdp hun (fun v h' tk' hP _ F' N' => by obtain ⟨hok, r, d, D, S, T, G, lv, k0, k1, k2, k3, k4, k5, k6, k7, k8, k9, k10, u0, u1, u2, u3, u4, u5, u6, u8, u9, u10, e, r0, d0, rd, gr, gd, eD, eS, eT⟩ := hP; subst e; exact k r d D S T G lv k0 k1 k2 k3 k4 k5 k6 k7 k8 k9 k10 u0 u1 u2 u3 u4 u5 u6 u8 u9 u10 h' tk' hok eD eS eT rd F' (newsAdd F (newsAdd F N' gd d0) gr r0)) kx
end
noncomputable def kindOf (ks : List Int) : Str := if ks.getD 0 0 ≥ 128 then (if ((ks.getD 0 0).fdiv 16).fmod 4 = 0 then Str.ofString "initial" else if ((ks.getD 0 0).fdiv 16).fmod 4 = 1 then Str.ofString "zero" else Str.ofString "handshake") else Str.ofString "short"
noncomputable def RawOk (ks : List Int) (c : Int) : Prop := if ks.getD 0 0 ≥ 128 then LongOk ks (kindOf ks) else ShortOk ks c
noncomputable def dcidOf (ks : List Int) (c : Int) : List Int := if ks.getD 0 0 ≥ 128 then (ks.drop 6).take (ks.getD 5 0).toNat else (ks.drop 1).take c.toNat
noncomputable def scidOf (ks : List Int) : List Int := if ks.getD 0 0 ≥ 128 then (ks.drop (7 + ks.getD 5 0).toNat).take (ks.getD (6 + ks.getD 5 0).toNat 0).toNat else []
noncomputable def tokOf (ks : List Int) : List Int := if ks.getD 0 0 ≥ 128 then tokL ks (kindOf ks) else []
noncomputable def naOf (ks : List Int) (c : Int) : Int := if ks.getD 0 0 ≥ 128 then numAt ks (kindOf ks) + 1 else 1 + c
noncomputable def enOf (ks : List Int) (c : Int) : Int := if ks.getD 0 0 ≥ 128 then numAt ks (kindOf ks) + 1 + ks.getD (numAt ks (kindOf ks)).toNat 0 else ks.length
structure RawPre (ks : List Int) (c : Int) : Prop where
  lk : ks.length ≤ 1000
  l1 : 1 ≤ ks.length
  c0 : 0 ≤ c
  c1 : c ≤ 21
  hv : ks.getD 0 0 ≥ 128 → 5 ≤ ks.length → be2n ((ks.drop 1).take 4) = 1
  hA : ks.getD 0 0 ≥ 128 → invEnd ks < ks.length → ks.getD (invEnd ks).toNat 0 < 64
  hB : ks.getD 0 0 ≥ 128 → invEnd ks + 1 + ks.getD (invEnd ks).toNat 0 < ks.length → ks.getD (invEnd ks + 1 + ks.getD (invEnd ks).toNat 0).toNat 0 < 64
  hj : ks.getD 0 0 ≥ 128 → ((ks.getD 0 0).fdiv 16).fmod 4 ≠ 3
theorem kind_of {ks : List Int} (h : ks.getD 0 0 ≥ 128) (h3 : ((ks.getD 0 0).fdiv 16).fmod 4 ≠ 3) :
    (((ks.getD 0 0).fdiv 16).fmod 4 = 0 ∧ kindOf ks = Str.ofString "initial") ∨ (((ks.getD 0 0).fdiv 16).fmod 4 = 1 ∧ kindOf ks = Str.ofString "zero") ∨ (((ks.getD 0 0).fdiv 16).fmod 4 = 2 ∧ kindOf ks = Str.ofString "handshake") := by
  have hb : 0 ≤ ((ks.getD 0 0).fdiv 16).fmod 4 ∧ ((ks.getD 0 0).fdiv 16).fmod 4 < 4 := by
    rw [Int.fmod_eq_emod_of_nonneg _ (by decide)]; omega
  unfold kindOf
  rw [if_pos h]
  by_cases e0 : ((ks.getD 0 0).fdiv 16).fmod 4 = 0
  · rw [if_pos e0]; exact .inl ⟨e0, rfl⟩
  · rw [if_neg e0]
    by_cases e1 : ((ks.getD 0 0).fdiv 16).fmod 4 = 1
    · rw [if_pos e1]; exact .inr (.inl ⟨e1, rfl⟩)
    · rw [if_neg e1]; exact .inr (.inr ⟨by omega, rfl⟩)
set_option maxHeartbeats 4000000 in
theorem x_raw (b : Array UInt8) (tb t0 tc : Tok) (c : Int) (ks : List Int) (hb : KBw.bInts b = ks) (hpre : RawPre ks c) :
   ECon w p loose mean mg mb 237 [.bytes b tb, .int 0 t0, .int c tc] 70 500 (fun h h' v => RawOk ks c ∧ RawOut w (kindOf ks) (ks.getD 0 0) (dcidOf ks c) (scidOf ks) (tokOf ks) (naOf ks c) (enOf ks c) h h' v) 78 (fun _ _ _ => ¬ RawOk ks c) := by
  obtain ⟨hk, h1, hc0, hc1, hv, hvA, hvB, hj⟩ := hpre
  unfold RawOk dcidOf scidOf tokOf naOf enOf
  by_cases h128 : ks.getD 0 0 ≥ 128
  all_goals (first | simp only [if_pos h128] | simp only [if_neg h128])
  · have hjx := kind_of h128 (hj h128)
    have h128' : ks.getD (Int.toNat 0) 0 ≥ 128 := h128
    have hv := hv h128
    have hvA := hvA h128
    have hvB := hvB h128
    generalize kindOf ks = x at *
    refine econ_of fun dp un gd base l s R B XB TB X T hsz hd hu hret hx => ?_
    refine enter (binds := [(Str.ofString "data", .bytes b tb), (Str.ofString "start", .int 0 t0), (Str.ofString "cid_size", .int c tc)]) X T (by k_is) (by k_is) (by ktr_room) (BindsTo.of_eq rfl) (locs rfl) (fun L' h₁' F' N' => ?_) rfl rfl rfl (by decide)
    (dsimp only [List.reverse, List.reverseAux, bmap] at F')
    (try dsimp only)
    (have hC58 := cls58 XB)
    (have hC78 := cls78 XB)
    (have hC38 := cls38 XB)
    (try k_fold)
    repeat' (first | (k_unfold; (try dsimp only)) | (k_end; wrow_close) | (k_here; (with_reducible show wpAny _ _ (call (Value.ref 38) _) _ _ _); k_dflt (refine mkQuicF (by decide) (by k_asm) (by k_asm) (by k_asm) (by ktr_room) (by ktr_units) ?_); intro e9 h9 tk9 mA9 N9 q9; tb_rel) | (k_here; (with_reducible show wpAny _ _ (call (Value.ref 78) _) _ _ _); k_dflt (refine mkRefusedF (by k_asm) (by k_asm) (by k_asm) (by ktr_room) (by ktr_units) ?_); intro e9 h9 tk9 mA9 N9; tb_rel) | (k_here; (with_reducible show wpAny _ _ (call (Value.ref 58) _) _ _ _); k_dflt (refine mkShortF (by k_asm) (by k_asm) (by k_asm) (by ktr_room) (by ktr_units) ?_); intro e9 h9 tk9 mA9 N9; tb_rel) | (k_here; (with_reducible show wpAny _ _ (call (Value.ref 230) _) _ _ _); k_dflt (refine useRaw (x_short _ _ _ _ _ _ (by kba_ints2) (by assumption) (by assumption) (by assumption) (by assumption)) (by k_asm) (by exact rfl) (by assumption) (by assumption) (by assumption) (by first | assumption | exact sz_up (by assumption) (by assumption) | exact sz_up (by assumption) (sz_up (by assumption) (by assumption)) | exact sz_up (by assumption) (sz_up (by assumption) (sz_up (by assumption) (by assumption)))) (by k_asm) (by exact rfl) (by exact rfl) (by ktr_room) (by ktr_units) ?_ ?_); rotate_left; intro e9 h9 tk9 D9 c9 fl9 up9 uq9 no9; rotate_left; intro r9 d9 D9 S9 T9 G9 l9 k90 k91 k92 k93 k94 k95 k96 k97 k98 k99 k910 u90 u91 u92 u93 u94 u95 u96 u98 u99 u910 h9 tk9 ok9 a9 b9 c9 ne9 F9 N9; tb_rel) | (k_here; (with_reducible show wpAny _ _ (call (Value.ref 209) _) _ _ _); k_dflt (refine useRaw (x_long _ _ _ _ _ _ (by kba_ints2) (by assumption) (by assumption) (by assumption) (by assumption) (by assumption) rfl (by assumption)) (by k_asm) (by exact rfl) (by assumption) (by assumption) (by assumption) (by first | assumption | exact sz_up (by assumption) (by assumption) | exact sz_up (by assumption) (sz_up (by assumption) (by assumption)) | exact sz_up (by assumption) (sz_up (by assumption) (sz_up (by assumption) (by assumption)))) (by k_asm) (by exact rfl) (by exact rfl) (by ktr_room) (by ktr_units) ?_ ?_); rotate_left; intro e9 h9 tk9 D9 c9 fl9 up9 uq9 no9; rotate_left; intro r9 d9 D9 S9 T9 G9 l9 k90 k91 k92 k93 k94 k95 k96 k97 k98 k99 k910 u90 u91 u92 u93 u94 u95 u96 u98 u99 u910 h9 tk9 ok9 a9 b9 c9 ne9 F9 N9; tb_rel) | walk1 | (dsimp only; first | (k_here; (with_reducible show wpAny _ _ (call (Value.ref 38) _) _ _ _); k_dflt (refine mkQuicF (by decide) (by k_asm) (by k_asm) (by k_asm) (by ktr_room) (by ktr_units) ?_); intro e9 h9 tk9 mA9 N9 q9; tb_rel) | (k_here; (with_reducible show wpAny _ _ (call (Value.ref 78) _) _ _ _); k_dflt (refine mkRefusedF (by k_asm) (by k_asm) (by k_asm) (by ktr_room) (by ktr_units) ?_); intro e9 h9 tk9 mA9 N9; tb_rel) | (k_here; (with_reducible show wpAny _ _ (call (Value.ref 58) _) _ _ _); k_dflt (refine mkShortF (by k_asm) (by k_asm) (by k_asm) (by ktr_room) (by ktr_units) ?_); intro e9 h9 tk9 mA9 N9; tb_rel) | (k_here; (with_reducible show wpAny _ _ (call (Value.ref 230) _) _ _ _); k_dflt (refine useRaw (x_short _ _ _ _ _ _ (by kba_ints2) (by assumption) (by assumption) (by assumption) (by assumption)) (by k_asm) (by exact rfl) (by assumption) (by assumption) (by assumption) (by first | assumption | exact sz_up (by assumption) (by assumption) | exact sz_up (by assumption) (sz_up (by assumption) (by assumption)) | exact sz_up (by assumption) (sz_up (by assumption) (sz_up (by assumption) (by assumption)))) (by k_asm) (by exact rfl) (by exact rfl) (by ktr_room) (by ktr_units) ?_ ?_); rotate_left; intro e9 h9 tk9 D9 c9 fl9 up9 uq9 no9; rotate_left; intro r9 d9 D9 S9 T9 G9 l9 k90 k91 k92 k93 k94 k95 k96 k97 k98 k99 k910 u90 u91 u92 u93 u94 u95 u96 u98 u99 u910 h9 tk9 ok9 a9 b9 c9 ne9 F9 N9; tb_rel) | (k_here; (with_reducible show wpAny _ _ (call (Value.ref 209) _) _ _ _); k_dflt (refine useRaw (x_long _ _ _ _ _ _ (by kba_ints2) (by assumption) (by assumption) (by assumption) (by assumption) (by assumption) rfl (by assumption)) (by k_asm) (by exact rfl) (by assumption) (by assumption) (by assumption) (by first | assumption | exact sz_up (by assumption) (by assumption) | exact sz_up (by assumption) (sz_up (by assumption) (by assumption)) | exact sz_up (by assumption) (sz_up (by assumption) (sz_up (by assumption) (by assumption)))) (by k_asm) (by exact rfl) (by exact rfl) (by ktr_room) (by ktr_units) ?_ ?_); rotate_left; intro e9 h9 tk9 D9 c9 fl9 up9 uq9 no9; rotate_left; intro r9 d9 D9 S9 T9 G9 l9 k90 k91 k92 k93 k94 k95 k96 k97 k98 k99 k910 u90 u91 u92 u93 u94 u95 u96 u98 u99 u910 h9 tk9 ok9 a9 b9 c9 ne9 F9 N9; tb_rel) | walk1) | (leave1; try dsimp only) | fail "no step")
    · rename News _ _ _ _ => N9
      exact hret _ _ _ ⟨by assumption, _, _, _, _, _, _, _, _, _, _, _, _, _, _, _, _, _, _, _, _, _, _, _, _, _, _, _, _, rfl, (N9 (_, instObj 177 _) (by k_mem)).2.2, (N9 (_, dictOf _ _) (by k_mem)).2.2, by assumption, (N9 (_, instObj 177 _) (by k_mem)).1, (N9 (_, dictOf _ _) (by k_mem)).1, by assumption, by assumption, by assumption⟩ (Fr.keep (L := L') (by k_asm))
    · exact hx _ _ _ _ _ (by assumption) (by repeat (first | assumption | exact up_fr (by assumption) | (refine Heap.UpToSlots.trans ?_ (by assumption)))) (by assumption)
  · have hkd : kindOf ks = Str.ofString "short" := by unfold kindOf; rw [if_neg h128]
    rw [hkd]
    have h128' : ¬ ks.getD (Int.toNat 0) 0 ≥ 128 := h128
    refine econ_of fun dp un gd base l s R B XB TB X T hsz hd hu hret hx => ?_
    refine enter (binds := [(Str.ofString "data", .bytes b tb), (Str.ofString "start", .int 0 t0), (Str.ofString "cid_size", .int c tc)]) X T (by k_is) (by k_is) (by ktr_room) (BindsTo.of_eq rfl) (locs rfl) (fun L' h₁' F' N' => ?_) rfl rfl rfl (by decide)
    (dsimp only [List.reverse, List.reverseAux, bmap] at F')
    (try dsimp only)
    (have hC58 := cls58 XB)
    (have hC78 := cls78 XB)
    (have hC38 := cls38 XB)
    (try k_fold)
    repeat' (first | (k_unfold; (try dsimp only)) | (k_end; wrow_close) | (k_here; (with_reducible show wpAny _ _ (call (Value.ref 38) _) _ _ _); k_dflt (refine mkQuicF (by decide) (by k_asm) (by k_asm) (by k_asm) (by ktr_room) (by ktr_units) ?_); intro e9 h9 tk9 mA9 N9 q9; tb_rel) | (k_here; (with_reducible show wpAny _ _ (call (Value.ref 78) _) _ _ _); k_dflt (refine mkRefusedF (by k_asm) (by k_asm) (by k_asm) (by ktr_room) (by ktr_units) ?_); intro e9 h9 tk9 mA9 N9; tb_rel) | (k_here; (with_reducible show wpAny _ _ (call (Value.ref 58) _) _ _ _); k_dflt (refine mkShortF (by k_asm) (by k_asm) (by k_asm) (by ktr_room) (by ktr_units) ?_); intro e9 h9 tk9 mA9 N9; tb_rel) | (k_here; (with_reducible show wpAny _ _ (call (Value.ref 230) _) _ _ _); k_dflt (refine useRaw (x_short _ _ _ _ _ _ (by kba_ints2) (by assumption) (by assumption) (by assumption) (by assumption)) (by k_asm) (by exact rfl) (by assumption) (by assumption) (by assumption) (by first | assumption | exact sz_up (by assumption) (by assumption) | exact sz_up (by assumption) (sz_up (by assumption) (by assumption)) | exact sz_up (by assumption) (sz_up (by assumption) (sz_up (by assumption) (by assumption)))) (by k_asm) (by exact rfl) (by exact rfl) (by ktr_room) (by ktr_units) ?_ ?_); rotate_left; intro e9 h9 tk9 D9 c9 fl9 up9 uq9 no9; rotate_left; intro r9 d9 D9 S9 T9 G9 l9 k90 k91 k92 k93 k94 k95 k96 k97 k98 k99 k910 u90 u91 u92 u93 u94 u95 u96 u98 u99 u910 h9 tk9 ok9 a9 b9 c9 ne9 F9 N9; tb_rel) | (k_here; (with_reducible show wpAny _ _ (call (Value.ref 209) _) _ _ _); k_dflt (refine useRaw (x_long _ _ _ _ _ _ (by kba_ints2) (by assumption) (by assumption) (by assumption) (by assumption) (by assumption) rfl (by assumption)) (by k_asm) (by exact rfl) (by assumption) (by assumption) (by assumption) (by first | assumption | exact sz_up (by assumption) (by assumption) | exact sz_up (by assumption) (sz_up (by assumption) (by assumption)) | exact sz_up (by assumption) (sz_up (by assumption) (sz_up (by assumption) (by assumption)))) (by k_asm) (by exact rfl) (by exact rfl) (by ktr_room) (by ktr_units) ?_ ?_); rotate_left; intro e9 h9 tk9 D9 c9 fl9 up9 uq9 no9; rotate_left; intro r9 d9 D9 S9 T9 G9 l9 k90 k91 k92 k93 k94 k95 k96 k97 k98 k99 k910 u90 u91 u92 u93 u94 u95 u96 u98 u99 u910 h9 tk9 ok9 a9 b9 c9 ne9 F9 N9; tb_rel) | walk1 | (dsimp only; first | (k_here; (with_reducible show wpAny _ _ (call (Value.ref 38) _) _ _ _); k_dflt (refine mkQuicF (by decide) (by k_asm) (by k_asm) (by k_asm) (by ktr_room) (by ktr_units) ?_); intro e9 h9 tk9 mA9 N9 q9; tb_rel) | (k_here; (with_reducible show wpAny _ _ (call (Value.ref 78) _) _ _ _); k_dflt (refine mkRefusedF (by k_asm) (by k_asm) (by k_asm) (by ktr_room) (by ktr_units) ?_); intro e9 h9 tk9 mA9 N9; tb_rel) | (k_here; (with_reducible show wpAny _ _ (call (Value.ref 58) _) _ _ _); k_dflt (refine mkShortF (by k_asm) (by k_asm) (by k_asm) (by ktr_room) (by ktr_units) ?_); intro e9 h9 tk9 mA9 N9; tb_rel) | (k_here; (with_reducible show wpAny _ _ (call (Value.ref 230) _) _ _ _); k_dflt (refine useRaw (x_short _ _ _ _ _ _ (by kba_ints2) (by assumption) (by assumption) (by assumption) (by assumption)) (by k_asm) (by exact rfl) (by assumption) (by assumption) (by assumption) (by first | assumption | exact sz_up (by assumption) (by assumption) | exact sz_up (by assumption) (sz_up (by assumption) (by assumption)) | exact sz_up (by assumption) (sz_up (by assumption) (sz_up (by assumption) (by assumption)))) (by k_asm) (by exact rfl) (by exact rfl) (by ktr_room) (by ktr_units) ?_ ?_); rotate_left; intro e9 h9 tk9 D9 c9 fl9 up9 uq9 no9; rotate_left; intro r9 d9 D9 S9 T9 G9 l9 k90 k91 k92 k93 k94 k95 k96 k97 k98 k99 k910 u90 u91 u92 u93 u94 u95 u96 u98 u99 u910 h9 tk9 ok9 a9 b9 c9 ne9 F9 N9; tb_rel) | (k_here; (with_reducible show wpAny _ _ (call (Value.ref 209) _) _ _ _); k_dflt (refine useRaw (x_long _ _ _ _ _ _ (by kba_ints2) (by assumption) (by assumption) (by assumption) (by assumption) (by assumption) rfl (by assumption)) (by k_asm) (by exact rfl) (by assumption) (by assumption) (by assumption) (by first | assumption | exact sz_up (by assumption) (by assumption) | exact sz_up (by assumption) (sz_up (by assumption) (by assumption)) | exact sz_up (by assumption) (sz_up (by assumption) (sz_up (by assumption) (by assumption)))) (by k_asm) (by exact rfl) (by exact rfl) (by ktr_room) (by ktr_units) ?_ ?_); rotate_left; intro e9 h9 tk9 D9 c9 fl9 up9 uq9 no9; rotate_left; intro r9 d9 D9 S9 T9 G9 l9 k90 k91 k92 k93 k94 k95 k96 k97 k98 k99 k910 u90 u91 u92 u93 u94 u95 u96 u98 u99 u910 h9 tk9 ok9 a9 b9 c9 ne9 F9 N9; tb_rel) | walk1) | (leave1; try dsimp only) | fail "no step")
    · rename News _ _ _ _ => N9
      exact hret _ _ _ ⟨by assumption, _, _, _, _, _, _, _, _, _, _, _, _, _, _, _, _, _, _, _, _, _, _, _, _, _, _, _, _, rfl, (N9 (_, instObj 177 _) (by k_mem)).2.2, (N9 (_, dictOf _ _) (by k_mem)).2.2, by assumption, (N9 (_, instObj 177 _) (by k_mem)).1, (N9 (_, dictOf _ _) (by k_mem)).1, by assumption, by assumption, by assumption⟩ (Fr.keep (L := L') (by k_asm))
    · exact hx _ _ _ _ _ (by assumption) (by repeat (first | assumption | exact up_fr (by assumption) | (refine Heap.UpToSlots.trans ?_ (by assumption)))) (by assumption)
end
section

section
variable {w : World} {p : Program} {loose : List Str} {mean : ExcName → Option Value} {mg mb : Str → Option Value}
noncomputable def RCon (w : World) (p : Program) (loose : List Str) (mean : ExcName → Option Value) (mg mb : Str → Option Value) (f : Addr) (vs : List Value) (d u : Nat) (P : Heap → Value → Prop) : Prop :=
  ∀ (A : Around) (base : Heap) (l : List Env) (s : Shared), A.handled = none → Below A base l s.heap → (hd.heap_39 w.params).In base → Top p loose mean mg mb base → base.objs.size ≤ s.heap.objs.size →
    A.depth + d < recursionLimit → A.units + u < cLine →
    codeAny (model PySem.Challenge.rw_no0081_01.row.prog w) A (.call (.ref f) ⟨vs, []⟩) (fun r s' => ∃ v h' tk', r = .ok (.ret v) ∧ s' = { s with heap := h', toks := tk' } ∧ P h' v ∧ base.StaysIn h' ∧ s.heap.UpToSlots h') s
section
variable {f : Addr} {vs : List Value} {d u : Nat} {P : Heap → Value → Prop}
theorem rcon_of (h : ∀ (dp un : Nat) (gd : Option (List Code)) (base : Heap) (l : List Env) (s : Shared) (R : Result → Shared → Prop),
    Below ⟨none, dp, some l, gd, un⟩ base l s.heap → (hd.heap_39 w.params).In base → Top p loose mean mg mb base → (hd.heap_39 w.params).In s.heap → Top p loose mean mg mb s.heap → base.objs.size ≤ s.heap.objs.size → dp + d < recursionLimit → un + u < cLine →
    (∀ v h' tk', P h' v → base.StaysIn h' → s.heap.UpToSlots h' → R (.ok (.ret v)) { s with heap := h', toks := tk' }) →
    codeAny (model PySem.Challenge.rw_no0081_01.row.prog w) ⟨none, dp, some l, gd, un⟩ (.call (.ref f) ⟨vs, []⟩) R s) : RCon w p loose mean mg mb f vs d u P := by
  intro A base l s hh B X T hsz hd hu
  obtain ⟨ha, dp, fr, gd, un⟩ := A
  have e := B.stack
  simp only at hh e
  subst hh; subst e
  exact h dp un gd base l s _ B X T (X.keeps B.stays) (T.keeps B.stays) hsz hd hu (fun v h' tk' hp st up => ⟨v, h', tk', rfl, rfl, hp, st, up⟩)
end
set_option maxHeartbeats 4000000 in
theorem c_refused (b : Array UInt8) (tb tc : Tok) (c : Int) (ks : List Int) (hb : KBw.bInts b = ks) (hpre : RawPre ks c) :
   RCon w p loose mean mg mb 364 [.bytes b tb, .int c tc] 90 600 (fun _ v => (v = .bool false ∧ RawOk ks c) ∨ (v = .bool true ∧ ¬ RawOk ks c)) := by
  refine rcon_of fun dp un gd base l s R B XB TB X T hsz hd hu hret => ?_
  refine enter (binds := [(Str.ofString "data", .bytes b tb), (Str.ofString "cid_size", .int c tc)]) X T (by k_is) (by k_is) (by ktr_room) (BindsTo.of_eq rfl) (locs rfl) (fun L' h₁' F' N' => ?_) rfl rfl rfl (by decide)
  (dsimp only [List.reverse, List.reverseAux, bmap] at F')
  (try dsimp only)
  (have hC58 := cls58 XB)
  (have hC78 := cls78 XB)
  (have hC38 := cls38 XB)
  (try k_fold)
  repeat' (first | (k_unfold; (try dsimp only)) | (k_end; wrow_close) | (k_here; (with_reducible show wpAny _ _ (noteFrame _ _) _ _ _); k_dflt (refine' x_caught ?B ?F ?fl ?up ?X ?T ?sz ?C ?ex ?_ ?a ?b ?c ?hE; (case fl => assumption); (case F => assumption); (case up => exact (by repeat (first | assumption | exact up_fr (by assumption) | (refine Heap.UpToSlots.trans ?_ (by assumption))))); (case B => assumption); (case X => assumption); (case T => assumption); (case C => assumption); (case sz => first | assumption | exact sz_up (by assumption) (by assumption) | exact sz_up (by assumption) (sz_up (by assumption) (by assumption)) | exact sz_up (by assumption) (sz_up (by assumption) (sz_up (by assumption) (by assumption)))); (case ex => k_is); (case a => exact rfl); (case b => exact rfl); (case c => decide); (case hE => passes_own)); intro h9 fl9 up9 F9 N9; tb_rel) | (k_here; (with_reducible show wpAny _ _ (call (Value.ref 237) _) _ _ _); k_dflt (refine useRaw (x_raw _ _ _ _ _ _ (by kba_ints2) (by assumption)) (by k_asm) (by exact rfl) (by assumption) (by assumption) (by assumption) (by first | assumption | exact sz_up (by assumption) (by assumption) | exact sz_up (by assumption) (sz_up (by assumption) (by assumption)) | exact sz_up (by assumption) (sz_up (by assumption) (sz_up (by assumption) (by assumption)))) (by k_asm) (by exact rfl) (by exact rfl) (by ktr_room) (by ktr_units) ?_ ?_); rotate_left; intro e9 h9 tk9 D9 c9 fl9 up9 uq9 no9; rotate_left; intro r9 d9 D9 S9 T9 G9 l9 k90 k91 k92 k93 k94 k95 k96 k97 k98 k99 k910 u90 u91 u92 u93 u94 u95 u96 u98 u99 u910 h9 tk9 ok9 a9 b9 c9 ne9 F9 N9; tb_rel) | walk1 | (dsimp only; first | (k_here; (with_reducible show wpAny _ _ (noteFrame _ _) _ _ _); k_dflt (refine' x_caught ?B ?F ?fl ?up ?X ?T ?sz ?C ?ex ?_ ?a ?b ?c ?hE; (case fl => assumption); (case F => assumption); (case up => exact (by repeat (first | assumption | exact up_fr (by assumption) | (refine Heap.UpToSlots.trans ?_ (by assumption))))); (case B => assumption); (case X => assumption); (case T => assumption); (case C => assumption); (case sz => first | assumption | exact sz_up (by assumption) (by assumption) | exact sz_up (by assumption) (sz_up (by assumption) (by assumption)) | exact sz_up (by assumption) (sz_up (by assumption) (sz_up (by assumption) (by assumption)))); (case ex => k_is); (case a => exact rfl); (case b => exact rfl); (case c => decide); (case hE => passes_own)); intro h9 fl9 up9 F9 N9; tb_rel) | (k_here; (with_reducible show wpAny _ _ (call (Value.ref 237) _) _ _ _); k_dflt (refine useRaw (x_raw _ _ _ _ _ _ (by kba_ints2) (by assumption)) (by k_asm) (by exact rfl) (by assumption) (by assumption) (by assumption) (by first | assumption | exact sz_up (by assumption) (by assumption) | exact sz_up (by assumption) (sz_up (by assumption) (by assumption)) | exact sz_up (by assumption) (sz_up (by assumption) (sz_up (by assumption) (by assumption)))) (by k_asm) (by exact rfl) (by exact rfl) (by ktr_room) (by ktr_units) ?_ ?_); rotate_left; intro e9 h9 tk9 D9 c9 fl9 up9 uq9 no9; rotate_left; intro r9 d9 D9 S9 T9 G9 l9 k90 k91 k92 k93 k94 k95 k96 k97 k98 k99 k910 u90 u91 u92 u93 u94 u95 u96 u98 u99 u910 h9 tk9 ok9 a9 b9 c9 ne9 F9 N9; tb_rel) | walk1) | (leave1; try dsimp only) | fail "no step")
  · rename Fr _ _ _ _ => F9
    exact hret _ _ _ (.inl ⟨rfl, by assumption⟩) (fun b o e => F9.keep _ _ (B.stays b o e)) (up_fr F9)
  · rename Fr _ _ _ _ => F9
    exact hret _ _ _ (.inr ⟨rfl, by assumption⟩) F9.keep (by repeat (first | assumption | exact up_fr (by assumption) | (refine Heap.UpToSlots.trans ?_ (by assumption))))
end
section
variable {w : World} {p : Program} {loose : List Str} {mean : ExcName → Option Value} {mg mb : Str → Option Value}
section
variable {w : World} {p : Program} {loose : List Str} {mean : ExcName → Option Value} {mg mb : Str → Option Value} {f : Addr} {vs : List Value} {d u : Nat} {P : Heap → Heap → Value → Prop}
theorem dEnterH {K : Frag} {A : Around} {s : Shared} {R : Result → Shared → Prop} {g : Heap} {news : List (Addr × Obj)} {name qual : Str} {params : Arguments} {body : List Stmt} {scope : Scope} {dV kV doc pm cdv ct oc : Value} {an od : Option Addr} {osl : Array (Option Value)} {binds : List (Str × Value)} {prog : Program} {args : Args}
    (st : g.StaysIn s.heap) (sz : g.objs.size ≤ s.heap.objs.size) (hn : ∀ q ∈ news, s.heap.get? q.1 = some q.2 ∧ g.get? q.1 = none) (X : K.In g) (T : Top p loose mean mg mb g)
    (ho : K.lookup f = some ⟨oc, od, .func (fnOf name qual params body scope dV kV doc pm an cdv ct), osl⟩) (hcd : codeIn K cdv qual = true) (hroom : A.depth < recursionLimit)
    (hbind : BindsTo s (fnOf name qual params body scope dV kV doc pm an cdv ct) args binds) (hloc : ∀ y ∈ binds, scope.names.lookup y.1 = some .local)
    (h : ∀ L h₁, Fr g L h₁ (bmap binds.reverse) → News g L h₁ news → (∀ b o, s.heap.get? b = some o → h₁.get? b = some o ∧ b ≠ L) →
      wpD (model prog w) (A.deeper (envOf qual scope L f cdv)) (execs body (envOf qual scope L f cdv)) (fun fl s' => R (.ok (.ret (match fl with | .ret v => v | _ => .none))) s')
        (fun e s' => wpAny (model prog w) (A.deeper (envOf qual scope L f cdv)) (leaving (envOf qual scope L f cdv) e) (fun _ s'' => R (.error e) s'') (fun e' s'' => R (.error e') s'') s')
        { s with heap := h₁, toks := s.toks + binds.length })
    (hco : scope.isCoroutine = false) (hgen : scope.isGenerator = false) (hk : scope.kind = .function)
    (hcell : ∀ x ∈ scope.names, x.2 ≠ .cell) : codeD (model prog w) A (.call (.ref f) args) R s := by
  refine dTree rfl ?_
  show wpD _ A.in1 (callAny (.ref f) args) _ _ s
  simp only [callAny]
  refine dBind (dAny (wpAny_load (st _ _ (X _ _ ho)) ?_))
  obtain ⟨c, oc', vs', tq, hc, hoc, hdc, hq⟩ := codeRec_of (X.keeps st) hcd
  simp only [fnOf, callFunction, hco, hgen, hc]
  refine dBind (m := field (.ref c) 1) (dAny (wpAny_field hoc hdc hq (dBind (dPure ?_))))
  have hb := hbind (model prog w) A.in1
  simp only [fnOf, hc] at hb
  refine dBind (dAny (hb _ _ (dBind (dAny (wpAny_newFunctionEnv hcell hloc (fun h₀ hns₀ hsb₀ => dBind (dAny (wpAny_enterFrame ((T.keeps st).nolimit.fresh _ hsb₀) hroom (dPure (And.intro rfl (dFunc ?_)))))) hk)))))
  rw [bmap_eq] at hns₀
  have kp : ∀ b o, s.heap.get? b = some o → h₀.get? b = some o ∧ b ≠ s.heap.objs.size := fun b o e => ⟨hsb₀.extBut b o (Nat.ne_of_lt (Heap.lt_size e)) (Heap.get?_push_of_some _ e), Nat.ne_of_lt (Heap.lt_size e)⟩
  have F : Fr g s.heap.objs.size h₀ (bmap binds.reverse) := ⟨hns₀, fun b o e => (kp b o (st b o e)).1, sz⟩
  have := h _ h₀ F (fun q hq => ⟨(kp _ _ (hn q hq).1).1, (kp _ _ (hn q hq).1).2, (hn q hq).2⟩) kp
  rw [← hc]
  exact this
end
section
variable {A A₀ : Around} {base h₀ : Heap} {outer : List Env} {L a : Addr} {m : Str → Option Value} {cn : Str} {cs : Scope} {ccd : Value} {news : List (Addr × Obj)} {s : Shared} {Q E : Value → Shared → Prop}
theorem dUseBare {f : Addr} {vs : List Value} {d u : Nat} {kk ks : List Int} {na : Nat} (C : DCon w p loose mean mg mb f vs d u (BareOut kk ks na)) (B : Below A₀ base outer h₀) (F : Fr h₀ L s.heap m) (X : (hd.heap_39 w.params).In h₀) (N : News h₀ L s.heap news) (T : Top p loose mean mg mb h₀)
    (hA : A.frames = some (envOf cn cs L a ccd :: outer)) (hh : A.handled = none) (hg : A.guards = some []) (hk : cs.kind = .function) (hdp : A.depth + d < recursionLimit) (hun : A.units + u < cLine)
    (k : ∀ t Y z ty tz h' tk' zs, KBw.bInts Y = zs → zs = bareL kk ks na → z = (bareF kk ks na).fmod 4 + 1 → Fr h₀ L h' m → News h₀ L h' ((t, { cls := .type "tuple", data := .seq #[.bytes Y ty, .int z tz] }) :: news) → Q (.ref t) { s with heap := h', toks := tk' }) :
    wpD (model PySem.Challenge.rw_no0081_01.row.prog w) A (call (.ref f) vs) Q E s :=
  dUse C B F X N T hA hh hg hk hdp hun fun v h' tk' hP _ F' N' => by obtain ⟨t, Y, z, ty, tz, e, hf, gt, eY, ez⟩ := hP; subst e; exact k t Y z ty tz h' tk' _ eY rfl ez F' (newsAdd F N' gt hf)
theorem useGet {f : Addr} {vs : List Value} {d u : Nat} {x : Int} (K : ECon w p loose mean mg mb f vs d u (fun h h' v => isI x h h' v) 58 (fun _ _ _ => False)) (F : Fr h₀ L s.heap m) (hA : A.frames = some (envOf cn cs L a ccd :: outer)) (B : Below A₀ base outer h₀) (X : (hd.heap_39 w.params).In base) (T : Top p loose mean mg mb base) (hsz : base.objs.size ≤ h₀.objs.size) (N : News h₀ L s.heap news)
    (hh : A.handled = none) (hk : cs.kind = .function) (hdp : A.depth + d < recursionLimit) (hun : A.units + u < cLine)
    (k : ∀ y t h' tk', y = x → Fr h₀ L h' m → News h₀ L h' news → Q (.int y t) { s with heap := h', toks := tk' }) :
    wpAny (model PySem.Challenge.rw_no0081_01.row.prog w) A (call (.ref f) vs) Q E s :=
  useE K B F X T hsz N hA hh hk hdp hun (fun v h' tk' hP _ F' N' => by obtain ⟨t, e⟩ := hP; subst e; exact k x t h' tk' rfl F' N') fun _ _ _ _ _ _ _ _ i => i.elim
end
theorem fin_newQ {M : Model} {A₀ : Around} {base h₀ h₁ : Heap} {outer : List Env} {L a C : Addr} {m mA : Str → Option Value} {cn : Str} {cs : Scope} {ccd : Value} {s : Shared} {Q : Unit → Shared → Prop} {E : Value → Shared → Prop} {e : Addr} (B : Below A₀ base outer h₀) (F : Fr h₀ L h₁ m) (N : NewX h₁ s.heap e C mA) (hk : cs.kind = .function)
    (k : ∀ h' D, Fly base outer e C (some D) .none .none h' → h₀.UpToSlots h' → h'.Ns D mA → h₀.get? D = none → Q () { s with heap := h' }) :
    wpAny M (A₀.deeper (envOf cn cs L a ccd)) (leaving (envOf cn cs L a ccd) (.ref e)) Q E s := by
  obtain ⟨k1, k2, o, t, D, he, hc, hD, hd, hns, hnew⟩ := N
  have B₁ := B.push (name := cn) (scope := cs) (a := a) (cd := ccd) F hk
  refine x_leave_first (C := C) (D := some D) (c := .none) (Around.frames_deeper B.stack) (B₁.frames.of_keeps fun b o q _ => ⟨o, k1 b o q, rfl⟩) rfl he (fun b o q => k1 b o (B₁.stays b o q)) (fresh_of_stays B₁.stays k2) ⟨hc, hD, hd, rfl⟩ rfl fun h' fl up => ?_
  exact k h' D fl (((Heap.UpToSlots.of_keeps F.keep).trans (Heap.UpToSlots.of_keeps k1)).trans up) (up.ns hns.ns) (fresh_of_stays F.keep hnew)
theorem x_tail (b : Array UInt8) (tb : Tok) (i z : Int) (ti tz : Tok) (ks : List Int) (t : Int) (hb : KBw.bInts b = ks) (hk : ks.length ≤ 1000) (hi : i = ks.length - z) (hz : 1 ≤ z) (hz1 : z ≤ 4) (hl : z ≤ ks.length) (ht : be2n (ks.drop (ks.length - z.toNat)) = t) :
   ECon w p loose mean mg mb 96 [.bytes b tb, .int i ti, .int z tz] 5 40 (fun h h' v => isI t h h' v) 58 (fun _ _ _ => False) := by
  intro A base l s hh B X T hsz hd hu
  refine codeAny_mono (x_getwhole b tb i z ti tz ks hb hk (by omega) (by omega) hz1 A base l s hh B X T hsz hd hu) fun r s' hr => ?_
  rcases hr with ⟨v, h', tk', e1, e2, ⟨hp, hv⟩, st⟩ | ⟨e, h', tk', D, c, e1, e2, fl, up, i9⟩
  · refine .inl ⟨v, h', tk', e1, e2, ?_, st⟩
    rw [show i.toNat = ks.length - z.toNat from by omega, List.take_of_length_le (by rw [List.length_drop]; omega), ht] at hv
    exact hv
  · exact absurd (show i + z ≤ ks.length by omega) i9.1
theorem bareL_len {kk ks : List Int} {na : Nat} (h1 : 1 ≤ na) (hl : na + 20 ≤ ks.length) : (bareL kk ks na).length = na + ((bareF kk ks na).fmod 4 + 1).toNat := by
  have := fm4 (bareF kk ks na)
  unfold bareL
  rw [List.length_cons, List.length_append, List.length_take, List.length_drop, List.length_zipWith, List.length_take, List.length_drop, List.length_drop, hmask_len]
  obtain ⟨h2, h3⟩ := this
  generalize (bareF kk ks na).fmod 4 = y at *
  rw [Nat.min_eq_left (show na - 1 ≤ ks.length - 1 from Nat.sub_le_sub_right (Nat.le_trans (Nat.le_add_right _ 20) hl) 1), Nat.min_eq_left (show (y + 1).toNat ≤ ks.length - na by omega), Nat.min_eq_left (show (y + 1).toNat ≤ 5 - 1 by omega)]
  omega
theorem open_sl {ks : List Int} {na z en : Int} (hen : en = ks.length) (h1 : 1 ≤ na) (hz : 1 ≤ z ∧ z ≤ 4) (hle : na + 20 ≤ (ks.length : Int)) : List.take (clipAt ks.length en - clipAt ks.length (na + z)) (List.drop (clipAt ks.length (na + z)) ks) = ks.drop (na + z).toNat := by
  rw [PyProof.Rows.clipAt_in (by omega) (by omega), PyProof.Rows.clipAt_in (by omega) (by omega), List.take_of_length_le (by rw [List.length_drop]; omega)]
noncomputable def OpenedOut (x : Str) (t : Int) (pl : List Int) (g h' : Heap) (v : Value) : Prop :=
  ∃ T P a q u, v = .ref T ∧ g.get? T = none ∧ KBw.bInts P = pl ∧ ((∃ v1 v2 v3, h'.get? T = some { cls := .type "tuple", data := .seq #[.str x a, v1, v2, v3, .int t u, .bytes P q] }) ∨ ∃ v1 v2 v3 v4, h'.get? T = some { cls := .type "tuple", data := .seq #[.str x a, v1, v2, v3, v4, .int t u, .bytes P q] })
noncomputable def resv (f : Int) : Int := if f ≥ 128 then (f.fdiv 4).fmod 4 else (f.fdiv 8).fmod 4
local macro_rules | `(tactic| walk_at "leaving ref") => `(tactic| (k_here; k_dflt (refine fin_newQ (by assumption) (by assumption) (by assumption) (by exact rfl) ?_); intros; tb_rel))
set_option maxHeartbeats 4000000 in
theorem d_openp (b key : Array UInt8) (tb tk tl : Tok) (kk ks : List Int) (t ls : Int) (bs : List Int) (hb : KBw.bInts b = ks) (hkk : KBw.bInts key = kk) (lk : ks.length ≤ 180) (na en : Int) (hna : 1 ≤ na) (hen : en = ks.length) (hle : na + 20 ≤ (ks.length : Int))
    (hl0 : 0 ≤ ls) (hl1 : ls < 100) (ht0 : 0 ≤ t) (ht1 : t < 100) (ht : be2n ((bareL kk ks na.toNat).drop (na.toNat)) = t) (hbs : ks.drop (na + ((bareF kk ks na.toNat).fmod 4 + 1)).toNat = bs ++ tagL kk t (bareL kk ks na.toNat) bs)
    (x : Str) (hx4 : x = Str.ofString "initial" ∨ x = Str.ofString "zero" ∨ x = Str.ofString "handshake" ∨ x = Str.ofString "short")
    (fi : Int) (D S T₀ G : Array UInt8) (lv : Addr) (k0 k1 k2 k3 k4 k5 k6 k7 k8 k9 k10 u0 u1 u2 u3 u4 u5 u6 u8 u9 u10 : Tok) (dp un : Nat) (base : Heap) (l : List Env) (g : Heap) (s : Shared) (r d : Addr) (R : Result → Shared → Prop)
    (B : Below ⟨none, dp, some l, some [], un⟩ base l g) (XB : (hd.heap_39 w.params).In base) (TB : Top p loose mean mg mb base) (X : (hd.heap_39 w.params).In g) (T : Top p loose mean mg mb g) (hsz : base.objs.size ≤ g.objs.size) (hdp : dp + 60 < recursionLimit) (hun : un + 400 < cLine)
    (st : g.StaysIn s.heap) (sz : g.objs.size ≤ s.heap.objs.size) (hr : s.heap.get? r = some (instObj 177 d)) (hr0 : g.get? r = none) (hd0 : s.heap.get? d = some (dictOf [{ hash := PyData.keyHash w.params (Str.ofString "kind"), key := .str (Str.ofString "kind") k0, val := .str x u0 }, { hash := PyData.keyHash w.params (Str.ofString "first"), key := .str (Str.ofString "first") k1, val := .int fi u1 }, { hash := PyData.keyHash w.params (Str.ofString "version"), key := .str (Str.ofString "version") k2, val := .int 1 u2 }, { hash := PyData.keyHash w.params (Str.ofString "dcid"), key := .str (Str.ofString "dcid") k3, val := .bytes D u3 }, { hash := PyData.keyHash w.params (Str.ofString "scid"), key := .str (Str.ofString "scid") k4, val := .bytes S u4 }, { hash := PyData.keyHash w.params (Str.ofString "token"), key := .str (Str.ofString "token") k5, val := .bytes T₀ u5 }, { hash := PyData.keyHash w.params (Str.ofString "tag"), key := .str (Str.ofString "tag") k6, val := .bytes G u6 }, { hash := PyData.keyHash w.params (Str.ofString "versions"), key := .str (Str.ofString "versions") k7, val := .ref lv }, { hash := PyData.keyHash w.params (Str.ofString "start"), key := .str (Str.ofString "start") k8, val := .int 0 u8 }, { hash := PyData.keyHash w.params (Str.ofString "number_at"), key := .str (Str.ofString "number_at") k9, val := .int na u9 }, { hash := PyData.keyHash w.params (Str.ofString "end"), key := .str (Str.ofString "end") k10, val := .int en u10 }] 11)) (hd1 : g.get? d = none) (hrd : (@Ne Nat r d))
    (hret : ∀ v h' tk', resv (bareF kk ks na.toNat) = 0 → OpenedOut x t (turned kk t bs) g h' v → g.StaysIn h' → R (.ok (.ret v)) { s with heap := h', toks := tk' })
    (hx : ∀ e h' tk' D mA tc, Fly base l e 38 (some D) .none .none h' → g.UpToSlots h' → h'.Ns D mA → mA (Str.ofString "code") = some (.int 10 tc) → g.get? D = none → resv (bareF kk ks na.toNat) ≠ 0 → R (.error (.ref e)) { s with heap := h', toks := tk' }) :
    codeD (model PySem.Challenge.rw_no0081_01.row.prog w) ⟨none, dp, some l, some [], un⟩ (.call (.ref 333) ⟨[.bytes b tb, .ref r, .bytes key tk, .int ls tl], []⟩) R s := by
  refine dEnterH (g := g) (news := [(r, instObj 177 d), (d, dictOf [{ hash := PyData.keyHash w.params (Str.ofString "kind"), key := .str (Str.ofString "kind") k0, val := .str x u0 }, { hash := PyData.keyHash w.params (Str.ofString "first"), key := .str (Str.ofString "first") k1, val := .int fi u1 }, { hash := PyData.keyHash w.params (Str.ofString "version"), key := .str (Str.ofString "version") k2, val := .int 1 u2 }, { hash := PyData.keyHash w.params (Str.ofString "dcid"), key := .str (Str.ofString "dcid") k3, val := .bytes D u3 }, { hash := PyData.keyHash w.params (Str.ofString "scid"), key := .str (Str.ofString "scid") k4, val := .bytes S u4 }, { hash := PyData.keyHash w.params (Str.ofString "token"), key := .str (Str.ofString "token") k5, val := .bytes T₀ u5 }, { hash := PyData.keyHash w.params (Str.ofString "tag"), key := .str (Str.ofString "tag") k6, val := .bytes G u6 }, { hash := PyData.keyHash w.params (Str.ofString "versions"), key := .str (Str.ofString "versions") k7, val := .ref lv }, { hash := PyData.keyHash w.params (Str.ofString "start"), key := .str (Str.ofString "start") k8, val := .int 0 u8 }, { hash := PyData.keyHash w.params (Str.ofString "number_at"), key := .str (Str.ofString "number_at") k9, val := .int na u9 }, { hash := PyData.keyHash w.params (Str.ofString "end"), key := .str (Str.ofString "end") k10, val := .int en u10 }] 11)]) (binds := [(Str.ofString "data", .bytes b tb), (Str.ofString "raw", .ref r), (Str.ofString "key", .bytes key tk), (Str.ofString "largest_seen", .int ls tl)]) st sz (fun q hq => ?_) X T (by k_is) (by k_is) (by ktr_room) (BindsTo.of_eq rfl) (locs rfl) (fun L' h₁' F' N' O' => ?_) rfl rfl rfl (by decide)
  · rcases List.mem_cons.mp hq with rfl | hq
    · exact ⟨hr, hr0⟩
    · rcases List.mem_cons.mp hq with rfl | hq
      · exact ⟨hd0, hd1⟩
      · cases hq
  have lr : @LT.lt Nat _ r s.heap.objs.size := Heap.lt_size hr
  have ld : @LT.lt Nat _ d s.heap.objs.size := Heap.lt_size hd0
  clear O' hr hd0 sz st
  (dsimp only [List.reverse, List.reverseAux, bmap] at F')
  (try dsimp only)
  (have hC58 := cls58 XB)
  (have hC78 := cls78 XB)
  (have hC38 := cls38 XB)
  (try k_fold)
  refine dExecs (dAssign (dCallName ?_))
  repeat' (first | (k_unfold; (try dsimp only)) | (k_end; wrow_close) | (k_here; (with_reducible show wpAny _ _ (call (Value.ref 326) _) _ _ _); k_dflt (refine useI (c_reserved _ _) (by k_asm) (by k_asm) (by k_asm) (by k_asm) (by k_asm) (by exact rfl) (by exact rfl) (by exact rfl) (by ktr_room) (by ktr_units) ?_); intro y9 t9 h9 tk9 e9 F9 N9; tb_rel) | (k_here; (with_reducible show wpAny _ _ (call (Value.ref 319) _) _ _ _); k_dflt (refine useI (c_restore _ _ _ _ _ _ (by omega) (by omega) (by omega) (by omega) (by assumption) (by assumption)) (by k_asm) (by k_asm) (by k_asm) (by k_asm) (by k_asm) (by exact rfl) (by exact rfl) (by exact rfl) (by ktr_room) (by ktr_units) ?_); intro y9 t9 h9 tk9 e9 F9 N9; tb_rel) | (k_here; (with_reducible show wpAny _ _ (call (Value.ref 96) _) _ _ _); k_dflt (refine useGet (x_tail _ _ _ _ _ _ _ _ (by kba_ints2) (by omega) (by omega) (by omega) (by omega) (by omega) (by assumption)) (by k_asm) (by exact rfl) (by assumption) (by assumption) (by assumption) (by first | assumption | exact sz_up (by assumption) (by assumption) | exact sz_up (by assumption) (sz_up (by assumption) (by assumption)) | exact sz_up (by assumption) (sz_up (by assumption) (sz_up (by assumption) (by assumption)))) (by k_asm) (by exact rfl) (by exact rfl) (by ktr_room) (by ktr_units) ?_); intro y9 t9 h9 tk9 e9 F9 N9; tb_rel) | (k_here; (with_reducible show wpAny _ _ (call (Value.ref 38) _) _ _ _); k_dflt (refine mkQuicF (by decide) (by k_asm) (by k_asm) (by k_asm) (by ktr_room) (by ktr_units) ?_); intro e9 h9 tk9 mA9 N9 q9; tb_rel) | (k_here; (with_reducible show wpAny _ _ (call (Value.ref 78) _) _ _ _); k_dflt (refine mkRefusedF (by k_asm) (by k_asm) (by k_asm) (by ktr_room) (by ktr_units) ?_); intro e9 h9 tk9 mA9 N9; tb_rel) | (k_here; (with_reducible show wpAny _ _ (call (Value.ref 58) _) _ _ _); k_dflt (refine mkShortF (by k_asm) (by k_asm) (by k_asm) (by ktr_room) (by ktr_units) ?_); intro e9 h9 tk9 mA9 N9; tb_rel) | walk1 | (dsimp only; first | (k_here; (with_reducible show wpAny _ _ (call (Value.ref 326) _) _ _ _); k_dflt (refine useI (c_reserved _ _) (by k_asm) (by k_asm) (by k_asm) (by k_asm) (by k_asm) (by exact rfl) (by exact rfl) (by exact rfl) (by ktr_room) (by ktr_units) ?_); intro y9 t9 h9 tk9 e9 F9 N9; tb_rel) | (k_here; (with_reducible show wpAny _ _ (call (Value.ref 319) _) _ _ _); k_dflt (refine useI (c_restore _ _ _ _ _ _ (by omega) (by omega) (by omega) (by omega) (by assumption) (by assumption)) (by k_asm) (by k_asm) (by k_asm) (by k_asm) (by k_asm) (by exact rfl) (by exact rfl) (by exact rfl) (by ktr_room) (by ktr_units) ?_); intro y9 t9 h9 tk9 e9 F9 N9; tb_rel) | (k_here; (with_reducible show wpAny _ _ (call (Value.ref 96) _) _ _ _); k_dflt (refine useGet (x_tail _ _ _ _ _ _ _ _ (by kba_ints2) (by omega) (by omega) (by omega) (by omega) (by omega) (by assumption)) (by k_asm) (by exact rfl) (by assumption) (by assumption) (by assumption) (by first | assumption | exact sz_up (by assumption) (by assumption) | exact sz_up (by assumption) (sz_up (by assumption) (by assumption)) | exact sz_up (by assumption) (sz_up (by assumption) (sz_up (by assumption) (by assumption)))) (by k_asm) (by exact rfl) (by exact rfl) (by ktr_room) (by ktr_units) ?_); intro y9 t9 h9 tk9 e9 F9 N9; tb_rel) | (k_here; (with_reducible show wpAny _ _ (call (Value.ref 38) _) _ _ _); k_dflt (refine mkQuicF (by decide) (by k_asm) (by k_asm) (by k_asm) (by ktr_room) (by ktr_units) ?_); intro e9 h9 tk9 mA9 N9 q9; tb_rel) | (k_here; (with_reducible show wpAny _ _ (call (Value.ref 78) _) _ _ _); k_dflt (refine mkRefusedF (by k_asm) (by k_asm) (by k_asm) (by ktr_room) (by ktr_units) ?_); intro e9 h9 tk9 mA9 N9; tb_rel) | (k_here; (with_reducible show wpAny _ _ (call (Value.ref 58) _) _ _ _); k_dflt (refine mkShortF (by k_asm) (by k_asm) (by k_asm) (by ktr_room) (by ktr_units) ?_); intro e9 h9 tk9 mA9 N9; tb_rel) | walk1) | (leave1; try dsimp only) | (with_reducible refine dABin ?_) | (with_reducible refine dAName ?_) | (with_reducible refine dAStore ?_) | (with_reducible refine dACmp ?_) | (with_reducible refine dATru ?_) | (with_reducible refine dASub ?_) | (with_reducible refine dSplNil ?_))
  refine dCallWith (K := Mine.hd.heap_39 w.params) (by kernel_rfl) (dAny ?_)
  (try k_fold)
  repeat' (first | (k_unfold; (try dsimp only)) | (k_end; wrow_close) | (k_here; (with_reducible show wpAny _ _ (call (Value.ref 326) _) _ _ _); k_dflt (refine useI (c_reserved _ _) (by k_asm) (by k_asm) (by k_asm) (by k_asm) (by k_asm) (by exact rfl) (by exact rfl) (by exact rfl) (by ktr_room) (by ktr_units) ?_); intro y9 t9 h9 tk9 e9 F9 N9; tb_rel) | (k_here; (with_reducible show wpAny _ _ (call (Value.ref 319) _) _ _ _); k_dflt (refine useI (c_restore _ _ _ _ _ _ (by omega) (by omega) (by omega) (by omega) (by assumption) (by assumption)) (by k_asm) (by k_asm) (by k_asm) (by k_asm) (by k_asm) (by exact rfl) (by exact rfl) (by exact rfl) (by ktr_room) (by ktr_units) ?_); intro y9 t9 h9 tk9 e9 F9 N9; tb_rel) | (k_here; (with_reducible show wpAny _ _ (call (Value.ref 96) _) _ _ _); k_dflt (refine useGet (x_tail _ _ _ _ _ _ _ _ (by kba_ints2) (by omega) (by omega) (by omega) (by omega) (by omega) (by assumption)) (by k_asm) (by exact rfl) (by assumption) (by assumption) (by assumption) (by first | assumption | exact sz_up (by assumption) (by assumption) | exact sz_up (by assumption) (sz_up (by assumption) (by assumption)) | exact sz_up (by assumption) (sz_up (by assumption) (sz_up (by assumption) (by assumption)))) (by k_asm) (by exact rfl) (by exact rfl) (by ktr_room) (by ktr_units) ?_); intro y9 t9 h9 tk9 e9 F9 N9; tb_rel) | (k_here; (with_reducible show wpAny _ _ (call (Value.ref 38) _) _ _ _); k_dflt (refine mkQuicF (by decide) (by k_asm) (by k_asm) (by k_asm) (by ktr_room) (by ktr_units) ?_); intro e9 h9 tk9 mA9 N9 q9; tb_rel) | (k_here; (with_reducible show wpAny _ _ (call (Value.ref 78) _) _ _ _); k_dflt (refine mkRefusedF (by k_asm) (by k_asm) (by k_asm) (by ktr_room) (by ktr_units) ?_); intro e9 h9 tk9 mA9 N9; tb_rel) | (k_here; (with_reducible show wpAny _ _ (call (Value.ref 58) _) _ _ _); k_dflt (refine mkShortF (by k_asm) (by k_asm) (by k_asm) (by ktr_room) (by ktr_units) ?_); intro e9 h9 tk9 mA9 N9; tb_rel) | walk1 | (dsimp only; first | (k_here; (with_reducible show wpAny _ _ (call (Value.ref 326) _) _ _ _); k_dflt (refine useI (c_reserved _ _) (by k_asm) (by k_asm) (by k_asm) (by k_asm) (by k_asm) (by exact rfl) (by exact rfl) (by exact rfl) (by ktr_room) (by ktr_units) ?_); intro y9 t9 h9 tk9 e9 F9 N9; tb_rel) | (k_here; (with_reducible show wpAny _ _ (call (Value.ref 319) _) _ _ _); k_dflt (refine useI (c_restore _ _ _ _ _ _ (by omega) (by omega) (by omega) (by omega) (by assumption) (by assumption)) (by k_asm) (by k_asm) (by k_asm) (by k_asm) (by k_asm) (by exact rfl) (by exact rfl) (by exact rfl) (by ktr_room) (by ktr_units) ?_); intro y9 t9 h9 tk9 e9 F9 N9; tb_rel) | (k_here; (with_reducible show wpAny _ _ (call (Value.ref 96) _) _ _ _); k_dflt (refine useGet (x_tail _ _ _ _ _ _ _ _ (by kba_ints2) (by omega) (by omega) (by omega) (by omega) (by omega) (by assumption)) (by k_asm) (by exact rfl) (by assumption) (by assumption) (by assumption) (by first | assumption | exact sz_up (by assumption) (by assumption) | exact sz_up (by assumption) (sz_up (by assumption) (by assumption)) | exact sz_up (by assumption) (sz_up (by assumption) (sz_up (by assumption) (by assumption)))) (by k_asm) (by exact rfl) (by exact rfl) (by ktr_room) (by ktr_units) ?_); intro y9 t9 h9 tk9 e9 F9 N9; tb_rel) | (k_here; (with_reducible show wpAny _ _ (call (Value.ref 38) _) _ _ _); k_dflt (refine mkQuicF (by decide) (by k_asm) (by k_asm) (by k_asm) (by ktr_room) (by ktr_units) ?_); intro e9 h9 tk9 mA9 N9 q9; tb_rel) | (k_here; (with_reducible show wpAny _ _ (call (Value.ref 78) _) _ _ _); k_dflt (refine mkRefusedF (by k_asm) (by k_asm) (by k_asm) (by ktr_room) (by ktr_units) ?_); intro e9 h9 tk9 mA9 N9; tb_rel) | (k_here; (with_reducible show wpAny _ _ (call (Value.ref 58) _) _ _ _); k_dflt (refine mkShortF (by k_asm) (by k_asm) (by k_asm) (by ktr_room) (by ktr_units) ?_); intro e9 h9 tk9 mA9 N9; tb_rel) | walk1) | (leave1; try dsimp only) | fail "no step")
  (try dsimp only)
  refine dUseBare (c_bare _ _ _ _ _ _ _ _ _ _ _ (by kba_ints2) (by kba_ints2) (by omega) hna hen hle) (by k_asm) (by k_asm) (by k_asm) (by k_asm) (by k_asm) (by exact rfl) (by exact rfl) (by exact rfl) (by exact rfl) (by ktr_room) (by ktr_units) ?_
  intro t9 Y9 z9 ty9 tz9 h9 tk9 zs9 e9 q9 c9 F9 N9
  tb_rel
  repeat' (first | (k_unfold; (try dsimp only)) | (k_end; wrow_close) | (k_here; (with_reducible show wpAny _ _ (call (Value.ref 326) _) _ _ _); k_dflt (refine useI (c_reserved _ _) (by k_asm) (by k_asm) (by k_asm) (by k_asm) (by k_asm) (by exact rfl) (by exact rfl) (by exact rfl) (by ktr_room) (by ktr_units) ?_); intro y9 t9 h9 tk9 e9 F9 N9; tb_rel) | (k_here; (with_reducible show wpAny _ _ (call (Value.ref 319) _) _ _ _); k_dflt (refine useI (c_restore _ _ _ _ _ _ (by omega) (by omega) (by omega) (by omega) (by assumption) (by assumption)) (by k_asm) (by k_asm) (by k_asm) (by k_asm) (by k_asm) (by exact rfl) (by exact rfl) (by exact rfl) (by ktr_room) (by ktr_units) ?_); intro y9 t9 h9 tk9 e9 F9 N9; tb_rel) | (k_here; (with_reducible show wpAny _ _ (call (Value.ref 96) _) _ _ _); k_dflt (refine useGet (x_tail _ _ _ _ _ _ _ _ (by kba_ints2) (by omega) (by omega) (by omega) (by omega) (by omega) (by assumption)) (by k_asm) (by exact rfl) (by assumption) (by assumption) (by assumption) (by first | assumption | exact sz_up (by assumption) (by assumption) | exact sz_up (by assumption) (sz_up (by assumption) (by assumption)) | exact sz_up (by assumption) (sz_up (by assumption) (sz_up (by assumption) (by assumption)))) (by k_asm) (by exact rfl) (by exact rfl) (by ktr_room) (by ktr_units) ?_); intro y9 t9 h9 tk9 e9 F9 N9; tb_rel) | (k_here; (with_reducible show wpAny _ _ (call (Value.ref 38) _) _ _ _); k_dflt (refine mkQuicF (by decide) (by k_asm) (by k_asm) (by k_asm) (by ktr_room) (by ktr_units) ?_); intro e9 h9 tk9 mA9 N9 q9; tb_rel) | (k_here; (with_reducible show wpAny _ _ (call (Value.ref 78) _) _ _ _); k_dflt (refine mkRefusedF (by k_asm) (by k_asm) (by k_asm) (by ktr_room) (by ktr_units) ?_); intro e9 h9 tk9 mA9 N9; tb_rel) | (k_here; (with_reducible show wpAny _ _ (call (Value.ref 58) _) _ _ _); k_dflt (refine mkShortF (by k_asm) (by k_asm) (by k_asm) (by ktr_room) (by ktr_units) ?_); intro e9 h9 tk9 mA9 N9; tb_rel) | walk1 | (dsimp only; first | (k_here; (with_reducible show wpAny _ _ (call (Value.ref 326) _) _ _ _); k_dflt (refine useI (c_reserved _ _) (by k_asm) (by k_asm) (by k_asm) (by k_asm) (by k_asm) (by exact rfl) (by exact rfl) (by exact rfl) (by ktr_room) (by ktr_units) ?_); intro y9 t9 h9 tk9 e9 F9 N9; tb_rel) | (k_here; (with_reducible show wpAny _ _ (call (Value.ref 319) _) _ _ _); k_dflt (refine useI (c_restore _ _ _ _ _ _ (by omega) (by omega) (by omega) (by omega) (by assumption) (by assumption)) (by k_asm) (by k_asm) (by k_asm) (by k_asm) (by k_asm) (by exact rfl) (by exact rfl) (by exact rfl) (by ktr_room) (by ktr_units) ?_); intro y9 t9 h9 tk9 e9 F9 N9; tb_rel) | (k_here; (with_reducible show wpAny _ _ (call (Value.ref 96) _) _ _ _); k_dflt (refine useGet (x_tail _ _ _ _ _ _ _ _ (by kba_ints2) (by omega) (by omega) (by omega) (by omega) (by omega) (by assumption)) (by k_asm) (by exact rfl) (by assumption) (by assumption) (by assumption) (by first | assumption | exact sz_up (by assumption) (by assumption) | exact sz_up (by assumption) (sz_up (by assumption) (by assumption)) | exact sz_up (by assumption) (sz_up (by assumption) (sz_up (by assumption) (by assumption)))) (by k_asm) (by exact rfl) (by exact rfl) (by ktr_room) (by ktr_units) ?_); intro y9 t9 h9 tk9 e9 F9 N9; tb_rel) | (k_here; (with_reducible show wpAny _ _ (call (Value.ref 38) _) _ _ _); k_dflt (refine mkQuicF (by decide) (by k_asm) (by k_asm) (by k_asm) (by ktr_room) (by ktr_units) ?_); intro e9 h9 tk9 mA9 N9 q9; tb_rel) | (k_here; (with_reducible show wpAny _ _ (call (Value.ref 78) _) _ _ _); k_dflt (refine mkRefusedF (by k_asm) (by k_asm) (by k_asm) (by ktr_room) (by ktr_units) ?_); intro e9 h9 tk9 mA9 N9; tb_rel) | (k_here; (with_reducible show wpAny _ _ (call (Value.ref 58) _) _ _ _); k_dflt (refine mkShortF (by k_asm) (by k_asm) (by k_asm) (by ktr_room) (by ktr_units) ?_); intro e9 h9 tk9 mA9 N9; tb_rel) | walk1) | (leave1; try dsimp only) | (with_reducible refine dABin ?_) | (with_reducible refine dAName ?_) | (with_reducible refine dAStore ?_) | (with_reducible refine dACmp ?_) | (with_reducible refine dATru ?_) | (with_reducible refine dASub ?_) | (with_reducible refine dSplNil ?_))
  have hz9 := fm4 (bareF kk ks na.toNat)
  have hL9 : zs9.length = na.toNat + z9.toNat := by rw [q9, bareL_len (by omega) (by omega), c9]
  have ht9 : be2n (zs9.drop (zs9.length - z9.toNat)) = t := by rw [hL9, Nat.add_sub_cancel, q9]; exact ht
  have hz1 : 1 ≤ z9 := by omega
  have hbl : bs.length ≤ 180 := by
    have := congrArg List.length hbs
    rw [List.length_drop, List.length_append, tag_len] at this
    omega
  have hz4 : z9 ≤ 4 := by omega
  refine dExecs (dAny ?_)
  (try k_fold)
  repeat' (first | (k_unfold; (try dsimp only)) | (k_end; wrow_close) | (k_here; (with_reducible show wpAny _ _ (call (Value.ref 326) _) _ _ _); k_dflt (refine useI (c_reserved _ _) (by k_asm) (by k_asm) (by k_asm) (by k_asm) (by k_asm) (by exact rfl) (by exact rfl) (by exact rfl) (by ktr_room) (by ktr_units) ?_); intro y9 t9 h9 tk9 e9 F9 N9; tb_rel) | (k_here; (with_reducible show wpAny _ _ (call (Value.ref 319) _) _ _ _); k_dflt (refine useI (c_restore _ _ _ _ _ _ (by omega) (by omega) (by omega) (by omega) (by assumption) (by assumption)) (by k_asm) (by k_asm) (by k_asm) (by k_asm) (by k_asm) (by exact rfl) (by exact rfl) (by exact rfl) (by ktr_room) (by ktr_units) ?_); intro y9 t9 h9 tk9 e9 F9 N9; tb_rel) | (k_here; (with_reducible show wpAny _ _ (call (Value.ref 96) _) _ _ _); k_dflt (refine useGet (x_tail _ _ _ _ _ _ _ _ (by kba_ints2) (by omega) (by omega) (by omega) (by omega) (by omega) (by assumption)) (by k_asm) (by exact rfl) (by assumption) (by assumption) (by assumption) (by first | assumption | exact sz_up (by assumption) (by assumption) | exact sz_up (by assumption) (sz_up (by assumption) (by assumption)) | exact sz_up (by assumption) (sz_up (by assumption) (sz_up (by assumption) (by assumption)))) (by k_asm) (by exact rfl) (by exact rfl) (by ktr_room) (by ktr_units) ?_); intro y9 t9 h9 tk9 e9 F9 N9; tb_rel) | (k_here; (with_reducible show wpAny _ _ (call (Value.ref 38) _) _ _ _); k_dflt (refine mkQuicF (by decide) (by k_asm) (by k_asm) (by k_asm) (by ktr_room) (by ktr_units) ?_); intro e9 h9 tk9 mA9 N9 q9; tb_rel) | (k_here; (with_reducible show wpAny _ _ (call (Value.ref 78) _) _ _ _); k_dflt (refine mkRefusedF (by k_asm) (by k_asm) (by k_asm) (by ktr_room) (by ktr_units) ?_); intro e9 h9 tk9 mA9 N9; tb_rel) | (k_here; (with_reducible show wpAny _ _ (call (Value.ref 58) _) _ _ _); k_dflt (refine mkShortF (by k_asm) (by k_asm) (by k_asm) (by ktr_room) (by ktr_units) ?_); intro e9 h9 tk9 mA9 N9; tb_rel) | walk1 | (dsimp only; first | (k_here; (with_reducible show wpAny _ _ (call (Value.ref 326) _) _ _ _); k_dflt (refine useI (c_reserved _ _) (by k_asm) (by k_asm) (by k_asm) (by k_asm) (by k_asm) (by exact rfl) (by exact rfl) (by exact rfl) (by ktr_room) (by ktr_units) ?_); intro y9 t9 h9 tk9 e9 F9 N9; tb_rel) | (k_here; (with_reducible show wpAny _ _ (call (Value.ref 319) _) _ _ _); k_dflt (refine useI (c_restore _ _ _ _ _ _ (by omega) (by omega) (by omega) (by omega) (by assumption) (by assumption)) (by k_asm) (by k_asm) (by k_asm) (by k_asm) (by k_asm) (by exact rfl) (by exact rfl) (by exact rfl) (by ktr_room) (by ktr_units) ?_); intro y9 t9 h9 tk9 e9 F9 N9; tb_rel) | (k_here; (with_reducible show wpAny _ _ (call (Value.ref 96) _) _ _ _); k_dflt (refine useGet (x_tail _ _ _ _ _ _ _ _ (by kba_ints2) (by omega) (by omega) (by omega) (by omega) (by omega) (by assumption)) (by k_asm) (by exact rfl) (by assumption) (by assumption) (by assumption) (by first | assumption | exact sz_up (by assumption) (by assumption) | exact sz_up (by assumption) (sz_up (by assumption) (by assumption)) | exact sz_up (by assumption) (sz_up (by assumption) (sz_up (by assumption) (by assumption)))) (by k_asm) (by exact rfl) (by exact rfl) (by ktr_room) (by ktr_units) ?_); intro y9 t9 h9 tk9 e9 F9 N9; tb_rel) | (k_here; (with_reducible show wpAny _ _ (call (Value.ref 38) _) _ _ _); k_dflt (refine mkQuicF (by decide) (by k_asm) (by k_asm) (by k_asm) (by ktr_room) (by ktr_units) ?_); intro e9 h9 tk9 mA9 N9 q9; tb_rel) | (k_here; (with_reducible show wpAny _ _ (call (Value.ref 78) _) _ _ _); k_dflt (refine mkRefusedF (by k_asm) (by k_asm) (by k_asm) (by ktr_room) (by ktr_units) ?_); intro e9 h9 tk9 mA9 N9; tb_rel) | (k_here; (with_reducible show wpAny _ _ (call (Value.ref 58) _) _ _ _); k_dflt (refine mkShortF (by k_asm) (by k_asm) (by k_asm) (by ktr_room) (by ktr_units) ?_); intro e9 h9 tk9 mA9 N9; tb_rel) | walk1) | (leave1; try dsimp only) | (with_reducible refine dABin ?_) | (with_reducible refine dAName ?_) | (with_reducible refine dAStore ?_) | (with_reducible refine dACmp ?_) | (with_reducible refine dATru ?_) | (with_reducible refine dASub ?_) | (with_reducible refine dSplNil ?_))
  refine dExecs (dAny ?_)
  (try k_fold)
  repeat' (first | (k_unfold; (try dsimp only)) | (k_end; wrow_close) | (k_here; (with_reducible show wpAny _ _ (call (Value.ref 326) _) _ _ _); k_dflt (refine useI (c_reserved _ _) (by k_asm) (by k_asm) (by k_asm) (by k_asm) (by k_asm) (by exact rfl) (by exact rfl) (by exact rfl) (by ktr_room) (by ktr_units) ?_); intro y9 t9 h9 tk9 e9 F9 N9; tb_rel) | (k_here; (with_reducible show wpAny _ _ (call (Value.ref 319) _) _ _ _); k_dflt (refine useI (c_restore _ _ _ _ _ _ (by omega) (by omega) (by omega) (by omega) (by assumption) (by assumption)) (by k_asm) (by k_asm) (by k_asm) (by k_asm) (by k_asm) (by exact rfl) (by exact rfl) (by exact rfl) (by ktr_room) (by ktr_units) ?_); intro y9 t9 h9 tk9 e9 F9 N9; tb_rel) | (k_here; (with_reducible show wpAny _ _ (call (Value.ref 96) _) _ _ _); k_dflt (refine useGet (x_tail _ _ _ _ _ _ _ _ (by kba_ints2) (by omega) (by omega) (by omega) (by omega) (by omega) (by assumption)) (by k_asm) (by exact rfl) (by assumption) (by assumption) (by assumption) (by first | assumption | exact sz_up (by assumption) (by assumption) | exact sz_up (by assumption) (sz_up (by assumption) (by assumption)) | exact sz_up (by assumption) (sz_up (by assumption) (sz_up (by assumption) (by assumption)))) (by k_asm) (by exact rfl) (by exact rfl) (by ktr_room) (by ktr_units) ?_); intro y9 t9 h9 tk9 e9 F9 N9; tb_rel) | (k_here; (with_reducible show wpAny _ _ (call (Value.ref 38) _) _ _ _); k_dflt (refine mkQuicF (by decide) (by k_asm) (by k_asm) (by k_asm) (by ktr_room) (by ktr_units) ?_); intro e9 h9 tk9 mA9 N9 q9; tb_rel) | (k_here; (with_reducible show wpAny _ _ (call (Value.ref 78) _) _ _ _); k_dflt (refine mkRefusedF (by k_asm) (by k_asm) (by k_asm) (by ktr_room) (by ktr_units) ?_); intro e9 h9 tk9 mA9 N9; tb_rel) | (k_here; (with_reducible show wpAny _ _ (call (Value.ref 58) _) _ _ _); k_dflt (refine mkShortF (by k_asm) (by k_asm) (by k_asm) (by ktr_room) (by ktr_units) ?_); intro e9 h9 tk9 mA9 N9; tb_rel) | walk1 | (dsimp only; first | (k_here; (with_reducible show wpAny _ _ (call (Value.ref 326) _) _ _ _); k_dflt (refine useI (c_reserved _ _) (by k_asm) (by k_asm) (by k_asm) (by k_asm) (by k_asm) (by exact rfl) (by exact rfl) (by exact rfl) (by ktr_room) (by ktr_units) ?_); intro y9 t9 h9 tk9 e9 F9 N9; tb_rel) | (k_here; (with_reducible show wpAny _ _ (call (Value.ref 319) _) _ _ _); k_dflt (refine useI (c_restore _ _ _ _ _ _ (by omega) (by omega) (by omega) (by omega) (by assumption) (by assumption)) (by k_asm) (by k_asm) (by k_asm) (by k_asm) (by k_asm) (by exact rfl) (by exact rfl) (by exact rfl) (by ktr_room) (by ktr_units) ?_); intro y9 t9 h9 tk9 e9 F9 N9; tb_rel) | (k_here; (with_reducible show wpAny _ _ (call (Value.ref 96) _) _ _ _); k_dflt (refine useGet (x_tail _ _ _ _ _ _ _ _ (by kba_ints2) (by omega) (by omega) (by omega) (by omega) (by omega) (by assumption)) (by k_asm) (by exact rfl) (by assumption) (by assumption) (by assumption) (by first | assumption | exact sz_up (by assumption) (by assumption) | exact sz_up (by assumption) (sz_up (by assumption) (by assumption)) | exact sz_up (by assumption) (sz_up (by assumption) (sz_up (by assumption) (by assumption)))) (by k_asm) (by exact rfl) (by exact rfl) (by ktr_room) (by ktr_units) ?_); intro y9 t9 h9 tk9 e9 F9 N9; tb_rel) | (k_here; (with_reducible show wpAny _ _ (call (Value.ref 38) _) _ _ _); k_dflt (refine mkQuicF (by decide) (by k_asm) (by k_asm) (by k_asm) (by ktr_room) (by ktr_units) ?_); intro e9 h9 tk9 mA9 N9 q9; tb_rel) | (k_here; (with_reducible show wpAny _ _ (call (Value.ref 78) _) _ _ _); k_dflt (refine mkRefusedF (by k_asm) (by k_asm) (by k_asm) (by ktr_room) (by ktr_units) ?_); intro e9 h9 tk9 mA9 N9; tb_rel) | (k_here; (with_reducible show wpAny _ _ (call (Value.ref 58) _) _ _ _); k_dflt (refine mkShortF (by k_asm) (by k_asm) (by k_asm) (by ktr_room) (by ktr_units) ?_); intro e9 h9 tk9 mA9 N9; tb_rel) | walk1) | (leave1; try dsimp only) | (with_reducible refine dABin ?_) | (with_reducible refine dAName ?_) | (with_reducible refine dAStore ?_) | (with_reducible refine dACmp ?_) | (with_reducible refine dATru ?_) | (with_reducible refine dASub ?_) | (with_reducible refine dSplNil ?_))
  refine dExecs (dAssign (dCallName ?_))
  repeat' (first | (k_unfold; (try dsimp only)) | (k_end; wrow_close) | (k_here; (with_reducible show wpAny _ _ (call (Value.ref 326) _) _ _ _); k_dflt (refine useI (c_reserved _ _) (by k_asm) (by k_asm) (by k_asm) (by k_asm) (by k_asm) (by exact rfl) (by exact rfl) (by exact rfl) (by ktr_room) (by ktr_units) ?_); intro y9 t9 h9 tk9 e9 F9 N9; tb_rel) | (k_here; (with_reducible show wpAny _ _ (call (Value.ref 319) _) _ _ _); k_dflt (refine useI (c_restore _ _ _ _ _ _ (by omega) (by omega) (by omega) (by omega) (by assumption) (by assumption)) (by k_asm) (by k_asm) (by k_asm) (by k_asm) (by k_asm) (by exact rfl) (by exact rfl) (by exact rfl) (by ktr_room) (by ktr_units) ?_); intro y9 t9 h9 tk9 e9 F9 N9; tb_rel) | (k_here; (with_reducible show wpAny _ _ (call (Value.ref 96) _) _ _ _); k_dflt (refine useGet (x_tail _ _ _ _ _ _ _ _ (by kba_ints2) (by omega) (by omega) (by omega) (by omega) (by omega) (by assumption)) (by k_asm) (by exact rfl) (by assumption) (by assumption) (by assumption) (by first | assumption | exact sz_up (by assumption) (by assumption) | exact sz_up (by assumption) (sz_up (by assumption) (by assumption)) | exact sz_up (by assumption) (sz_up (by assumption) (sz_up (by assumption) (by assumption)))) (by k_asm) (by exact rfl) (by exact rfl) (by ktr_room) (by ktr_units) ?_); intro y9 t9 h9 tk9 e9 F9 N9; tb_rel) | (k_here; (with_reducible show wpAny _ _ (call (Value.ref 38) _) _ _ _); k_dflt (refine mkQuicF (by decide) (by k_asm) (by k_asm) (by k_asm) (by ktr_room) (by ktr_units) ?_); intro e9 h9 tk9 mA9 N9 q9; tb_rel) | (k_here; (with_reducible show wpAny _ _ (call (Value.ref 78) _) _ _ _); k_dflt (refine mkRefusedF (by k_asm) (by k_asm) (by k_asm) (by ktr_room) (by ktr_units) ?_); intro e9 h9 tk9 mA9 N9; tb_rel) | (k_here; (with_reducible show wpAny _ _ (call (Value.ref 58) _) _ _ _); k_dflt (refine mkShortF (by k_asm) (by k_asm) (by k_asm) (by ktr_room) (by ktr_units) ?_); intro e9 h9 tk9 mA9 N9; tb_rel) | walk1 | (dsimp only; first | (k_here; (with_reducible show wpAny _ _ (call (Value.ref 326) _) _ _ _); k_dflt (refine useI (c_reserved _ _) (by k_asm) (by k_asm) (by k_asm) (by k_asm) (by k_asm) (by exact rfl) (by exact rfl) (by exact rfl) (by ktr_room) (by ktr_units) ?_); intro y9 t9 h9 tk9 e9 F9 N9; tb_rel) | (k_here; (with_reducible show wpAny _ _ (call (Value.ref 319) _) _ _ _); k_dflt (refine useI (c_restore _ _ _ _ _ _ (by omega) (by omega) (by omega) (by omega) (by assumption) (by assumption)) (by k_asm) (by k_asm) (by k_asm) (by k_asm) (by k_asm) (by exact rfl) (by exact rfl) (by exact rfl) (by ktr_room) (by ktr_units) ?_); intro y9 t9 h9 tk9 e9 F9 N9; tb_rel) | (k_here; (with_reducible show wpAny _ _ (call (Value.ref 96) _) _ _ _); k_dflt (refine useGet (x_tail _ _ _ _ _ _ _ _ (by kba_ints2) (by omega) (by omega) (by omega) (by omega) (by omega) (by assumption)) (by k_asm) (by exact rfl) (by assumption) (by assumption) (by assumption) (by first | assumption | exact sz_up (by assumption) (by assumption) | exact sz_up (by assumption) (sz_up (by assumption) (by assumption)) | exact sz_up (by assumption) (sz_up (by assumption) (sz_up (by assumption) (by assumption)))) (by k_asm) (by exact rfl) (by exact rfl) (by ktr_room) (by ktr_units) ?_); intro y9 t9 h9 tk9 e9 F9 N9; tb_rel) | (k_here; (with_reducible show wpAny _ _ (call (Value.ref 38) _) _ _ _); k_dflt (refine mkQuicF (by decide) (by k_asm) (by k_asm) (by k_asm) (by ktr_room) (by ktr_units) ?_); intro e9 h9 tk9 mA9 N9 q9; tb_rel) | (k_here; (with_reducible show wpAny _ _ (call (Value.ref 78) _) _ _ _); k_dflt (refine mkRefusedF (by k_asm) (by k_asm) (by k_asm) (by ktr_room) (by ktr_units) ?_); intro e9 h9 tk9 mA9 N9; tb_rel) | (k_here; (with_reducible show wpAny _ _ (call (Value.ref 58) _) _ _ _); k_dflt (refine mkShortF (by k_asm) (by k_asm) (by k_asm) (by ktr_room) (by ktr_units) ?_); intro e9 h9 tk9 mA9 N9; tb_rel) | walk1) | (leave1; try dsimp only) | (with_reducible refine dABin ?_) | (with_reducible refine dAName ?_) | (with_reducible refine dAStore ?_) | (with_reducible refine dACmp ?_) | (with_reducible refine dATru ?_) | (with_reducible refine dASub ?_) | (with_reducible refine dSplNil ?_))
  refine dCallWith (K := Mine.hd.heap_39 w.params) (by kernel_rfl) (dAny ?_)
  (try k_fold)
  repeat' (first | (k_unfold; (try dsimp only)) | (k_end; wrow_close) | (k_here; (with_reducible show wpAny _ _ (call (Value.ref 326) _) _ _ _); k_dflt (refine useI (c_reserved _ _) (by k_asm) (by k_asm) (by k_asm) (by k_asm) (by k_asm) (by exact rfl) (by exact rfl) (by exact rfl) (by ktr_room) (by ktr_units) ?_); intro y9 t9 h9 tk9 e9 F9 N9; tb_rel) | (k_here; (with_reducible show wpAny _ _ (call (Value.ref 319) _) _ _ _); k_dflt (refine useI (c_restore _ _ _ _ _ _ (by omega) (by omega) (by omega) (by omega) (by assumption) (by assumption)) (by k_asm) (by k_asm) (by k_asm) (by k_asm) (by k_asm) (by exact rfl) (by exact rfl) (by exact rfl) (by ktr_room) (by ktr_units) ?_); intro y9 t9 h9 tk9 e9 F9 N9; tb_rel) | (k_here; (with_reducible show wpAny _ _ (call (Value.ref 96) _) _ _ _); k_dflt (refine useGet (x_tail _ _ _ _ _ _ _ _ (by kba_ints2) (by omega) (by omega) (by omega) (by omega) (by omega) (by assumption)) (by k_asm) (by exact rfl) (by assumption) (by assumption) (by assumption) (by first | assumption | exact sz_up (by assumption) (by assumption) | exact sz_up (by assumption) (sz_up (by assumption) (by assumption)) | exact sz_up (by assumption) (sz_up (by assumption) (sz_up (by assumption) (by assumption)))) (by k_asm) (by exact rfl) (by exact rfl) (by ktr_room) (by ktr_units) ?_); intro y9 t9 h9 tk9 e9 F9 N9; tb_rel) | (k_here; (with_reducible show wpAny _ _ (call (Value.ref 38) _) _ _ _); k_dflt (refine mkQuicF (by decide) (by k_asm) (by k_asm) (by k_asm) (by ktr_room) (by ktr_units) ?_); intro e9 h9 tk9 mA9 N9 q9; tb_rel) | (k_here; (with_reducible show wpAny _ _ (call (Value.ref 78) _) _ _ _); k_dflt (refine mkRefusedF (by k_asm) (by k_asm) (by k_asm) (by ktr_room) (by ktr_units) ?_); intro e9 h9 tk9 mA9 N9; tb_rel) | (k_here; (with_reducible show wpAny _ _ (call (Value.ref 58) _) _ _ _); k_dflt (refine mkShortF (by k_asm) (by k_asm) (by k_asm) (by ktr_room) (by ktr_units) ?_); intro e9 h9 tk9 mA9 N9; tb_rel) | walk1 | (dsimp only; first | (k_here; (with_reducible show wpAny _ _ (call (Value.ref 326) _) _ _ _); k_dflt (refine useI (c_reserved _ _) (by k_asm) (by k_asm) (by k_asm) (by k_asm) (by k_asm) (by exact rfl) (by exact rfl) (by exact rfl) (by ktr_room) (by ktr_units) ?_); intro y9 t9 h9 tk9 e9 F9 N9; tb_rel) | (k_here; (with_reducible show wpAny _ _ (call (Value.ref 319) _) _ _ _); k_dflt (refine useI (c_restore _ _ _ _ _ _ (by omega) (by omega) (by omega) (by omega) (by assumption) (by assumption)) (by k_asm) (by k_asm) (by k_asm) (by k_asm) (by k_asm) (by exact rfl) (by exact rfl) (by exact rfl) (by ktr_room) (by ktr_units) ?_); intro y9 t9 h9 tk9 e9 F9 N9; tb_rel) | (k_here; (with_reducible show wpAny _ _ (call (Value.ref 96) _) _ _ _); k_dflt (refine useGet (x_tail _ _ _ _ _ _ _ _ (by kba_ints2) (by omega) (by omega) (by omega) (by omega) (by omega) (by assumption)) (by k_asm) (by exact rfl) (by assumption) (by assumption) (by assumption) (by first | assumption | exact sz_up (by assumption) (by assumption) | exact sz_up (by assumption) (sz_up (by assumption) (by assumption)) | exact sz_up (by assumption) (sz_up (by assumption) (sz_up (by assumption) (by assumption)))) (by k_asm) (by exact rfl) (by exact rfl) (by ktr_room) (by ktr_units) ?_); intro y9 t9 h9 tk9 e9 F9 N9; tb_rel) | (k_here; (with_reducible show wpAny _ _ (call (Value.ref 38) _) _ _ _); k_dflt (refine mkQuicF (by decide) (by k_asm) (by k_asm) (by k_asm) (by ktr_room) (by ktr_units) ?_); intro e9 h9 tk9 mA9 N9 q9; tb_rel) | (k_here; (with_reducible show wpAny _ _ (call (Value.ref 78) _) _ _ _); k_dflt (refine mkRefusedF (by k_asm) (by k_asm) (by k_asm) (by ktr_room) (by ktr_units) ?_); intro e9 h9 tk9 mA9 N9; tb_rel) | (k_here; (with_reducible show wpAny _ _ (call (Value.ref 58) _) _ _ _); k_dflt (refine mkShortF (by k_asm) (by k_asm) (by k_asm) (by ktr_room) (by ktr_units) ?_); intro e9 h9 tk9 mA9 N9; tb_rel) | walk1) | (leave1; try dsimp only) | fail "no step")
  (try dsimp only)
  rename _ = t => e9
  refine dAny (useI (c_restore _ _ _ _ _ _ (by omega) (by omega) (by omega) (by omega) (by assumption) (by assumption)) (by k_asm) (by k_asm) (by k_asm) (by k_asm) (by k_asm) (by exact rfl) (by exact rfl) (by exact rfl) (by ktr_room) (by ktr_units) ?_)
  intro y8 t8 h8 tk8 e8 F8 N8
  obtain rfl : y8 = t := e8.trans e9
  tb_rel
  repeat' (first | (k_unfold; (try dsimp only)) | (k_end; wrow_close) | (k_here; (with_reducible show wpAny _ _ (call (Value.ref 326) _) _ _ _); k_dflt (refine useI (c_reserved _ _) (by k_asm) (by k_asm) (by k_asm) (by k_asm) (by k_asm) (by exact rfl) (by exact rfl) (by exact rfl) (by ktr_room) (by ktr_units) ?_); intro y9 t9 h9 tk9 e9 F9 N9; tb_rel) | (k_here; (with_reducible show wpAny _ _ (call (Value.ref 319) _) _ _ _); k_dflt (refine useI (c_restore _ _ _ _ _ _ (by omega) (by omega) (by omega) (by omega) (by assumption) (by assumption)) (by k_asm) (by k_asm) (by k_asm) (by k_asm) (by k_asm) (by exact rfl) (by exact rfl) (by exact rfl) (by ktr_room) (by ktr_units) ?_); intro y9 t9 h9 tk9 e9 F9 N9; tb_rel) | (k_here; (with_reducible show wpAny _ _ (call (Value.ref 96) _) _ _ _); k_dflt (refine useGet (x_tail _ _ _ _ _ _ _ _ (by kba_ints2) (by omega) (by omega) (by omega) (by omega) (by omega) (by assumption)) (by k_asm) (by exact rfl) (by assumption) (by assumption) (by assumption) (by first | assumption | exact sz_up (by assumption) (by assumption) | exact sz_up (by assumption) (sz_up (by assumption) (by assumption)) | exact sz_up (by assumption) (sz_up (by assumption) (sz_up (by assumption) (by assumption)))) (by k_asm) (by exact rfl) (by exact rfl) (by ktr_room) (by ktr_units) ?_); intro y9 t9 h9 tk9 e9 F9 N9; tb_rel) | (k_here; (with_reducible show wpAny _ _ (call (Value.ref 38) _) _ _ _); k_dflt (refine mkQuicF (by decide) (by k_asm) (by k_asm) (by k_asm) (by ktr_room) (by ktr_units) ?_); intro e9 h9 tk9 mA9 N9 q9; tb_rel) | (k_here; (with_reducible show wpAny _ _ (call (Value.ref 78) _) _ _ _); k_dflt (refine mkRefusedF (by k_asm) (by k_asm) (by k_asm) (by ktr_room) (by ktr_units) ?_); intro e9 h9 tk9 mA9 N9; tb_rel) | (k_here; (with_reducible show wpAny _ _ (call (Value.ref 58) _) _ _ _); k_dflt (refine mkShortF (by k_asm) (by k_asm) (by k_asm) (by ktr_room) (by ktr_units) ?_); intro e9 h9 tk9 mA9 N9; tb_rel) | walk1 | (dsimp only; first | (k_here; (with_reducible show wpAny _ _ (call (Value.ref 326) _) _ _ _); k_dflt (refine useI (c_reserved _ _) (by k_asm) (by k_asm) (by k_asm) (by k_asm) (by k_asm) (by exact rfl) (by exact rfl) (by exact rfl) (by ktr_room) (by ktr_units) ?_); intro y9 t9 h9 tk9 e9 F9 N9; tb_rel) | (k_here; (with_reducible show wpAny _ _ (call (Value.ref 319) _) _ _ _); k_dflt (refine useI (c_restore _ _ _ _ _ _ (by omega) (by omega) (by omega) (by omega) (by assumption) (by assumption)) (by k_asm) (by k_asm) (by k_asm) (by k_asm) (by k_asm) (by exact rfl) (by exact rfl) (by exact rfl) (by ktr_room) (by ktr_units) ?_); intro y9 t9 h9 tk9 e9 F9 N9; tb_rel) | (k_here; (with_reducible show wpAny _ _ (call (Value.ref 96) _) _ _ _); k_dflt (refine useGet (x_tail _ _ _ _ _ _ _ _ (by kba_ints2) (by omega) (by omega) (by omega) (by omega) (by omega) (by assumption)) (by k_asm) (by exact rfl) (by assumption) (by assumption) (by assumption) (by first | assumption | exact sz_up (by assumption) (by assumption) | exact sz_up (by assumption) (sz_up (by assumption) (by assumption)) | exact sz_up (by assumption) (sz_up (by assumption) (sz_up (by assumption) (by assumption)))) (by k_asm) (by exact rfl) (by exact rfl) (by ktr_room) (by ktr_units) ?_); intro y9 t9 h9 tk9 e9 F9 N9; tb_rel) | (k_here; (with_reducible show wpAny _ _ (call (Value.ref 38) _) _ _ _); k_dflt (refine mkQuicF (by decide) (by k_asm) (by k_asm) (by k_asm) (by ktr_room) (by ktr_units) ?_); intro e9 h9 tk9 mA9 N9 q9; tb_rel) | (k_here; (with_reducible show wpAny _ _ (call (Value.ref 78) _) _ _ _); k_dflt (refine mkRefusedF (by k_asm) (by k_asm) (by k_asm) (by ktr_room) (by ktr_units) ?_); intro e9 h9 tk9 mA9 N9; tb_rel) | (k_here; (with_reducible show wpAny _ _ (call (Value.ref 58) _) _ _ _); k_dflt (refine mkShortF (by k_asm) (by k_asm) (by k_asm) (by ktr_room) (by ktr_units) ?_); intro e9 h9 tk9 mA9 N9; tb_rel) | walk1) | (leave1; try dsimp only) | (with_reducible refine dABin ?_) | (with_reducible refine dAName ?_) | (with_reducible refine dAStore ?_) | (with_reducible refine dACmp ?_) | (with_reducible refine dATru ?_) | (with_reducible refine dASub ?_) | (with_reducible refine dSplNil ?_))
  refine dExecs (dAssign (dCallName ?_))
  repeat' (first | (k_unfold; (try dsimp only)) | (k_end; wrow_close) | (k_here; (with_reducible show wpAny _ _ (call (Value.ref 326) _) _ _ _); k_dflt (refine useI (c_reserved _ _) (by k_asm) (by k_asm) (by k_asm) (by k_asm) (by k_asm) (by exact rfl) (by exact rfl) (by exact rfl) (by ktr_room) (by ktr_units) ?_); intro y9 t9 h9 tk9 e9 F9 N9; tb_rel) | (k_here; (with_reducible show wpAny _ _ (call (Value.ref 319) _) _ _ _); k_dflt (refine useI (c_restore _ _ _ _ _ _ (by omega) (by omega) (by omega) (by omega) (by assumption) (by assumption)) (by k_asm) (by k_asm) (by k_asm) (by k_asm) (by k_asm) (by exact rfl) (by exact rfl) (by exact rfl) (by ktr_room) (by ktr_units) ?_); intro y9 t9 h9 tk9 e9 F9 N9; tb_rel) | (k_here; (with_reducible show wpAny _ _ (call (Value.ref 96) _) _ _ _); k_dflt (refine useGet (x_tail _ _ _ _ _ _ _ _ (by kba_ints2) (by omega) (by omega) (by omega) (by omega) (by omega) (by assumption)) (by k_asm) (by exact rfl) (by assumption) (by assumption) (by assumption) (by first | assumption | exact sz_up (by assumption) (by assumption) | exact sz_up (by assumption) (sz_up (by assumption) (by assumption)) | exact sz_up (by assumption) (sz_up (by assumption) (sz_up (by assumption) (by assumption)))) (by k_asm) (by exact rfl) (by exact rfl) (by ktr_room) (by ktr_units) ?_); intro y9 t9 h9 tk9 e9 F9 N9; tb_rel) | (k_here; (with_reducible show wpAny _ _ (call (Value.ref 38) _) _ _ _); k_dflt (refine mkQuicF (by decide) (by k_asm) (by k_asm) (by k_asm) (by ktr_room) (by ktr_units) ?_); intro e9 h9 tk9 mA9 N9 q9; tb_rel) | (k_here; (with_reducible show wpAny _ _ (call (Value.ref 78) _) _ _ _); k_dflt (refine mkRefusedF (by k_asm) (by k_asm) (by k_asm) (by ktr_room) (by ktr_units) ?_); intro e9 h9 tk9 mA9 N9; tb_rel) | (k_here; (with_reducible show wpAny _ _ (call (Value.ref 58) _) _ _ _); k_dflt (refine mkShortF (by k_asm) (by k_asm) (by k_asm) (by ktr_room) (by ktr_units) ?_); intro e9 h9 tk9 mA9 N9; tb_rel) | walk1 | (dsimp only; first | (k_here; (with_reducible show wpAny _ _ (call (Value.ref 326) _) _ _ _); k_dflt (refine useI (c_reserved _ _) (by k_asm) (by k_asm) (by k_asm) (by k_asm) (by k_asm) (by exact rfl) (by exact rfl) (by exact rfl) (by ktr_room) (by ktr_units) ?_); intro y9 t9 h9 tk9 e9 F9 N9; tb_rel) | (k_here; (with_reducible show wpAny _ _ (call (Value.ref 319) _) _ _ _); k_dflt (refine useI (c_restore _ _ _ _ _ _ (by omega) (by omega) (by omega) (by omega) (by assumption) (by assumption)) (by k_asm) (by k_asm) (by k_asm) (by k_asm) (by k_asm) (by exact rfl) (by exact rfl) (by exact rfl) (by ktr_room) (by ktr_units) ?_); intro y9 t9 h9 tk9 e9 F9 N9; tb_rel) | (k_here; (with_reducible show wpAny _ _ (call (Value.ref 96) _) _ _ _); k_dflt (refine useGet (x_tail _ _ _ _ _ _ _ _ (by kba_ints2) (by omega) (by omega) (by omega) (by omega) (by omega) (by assumption)) (by k_asm) (by exact rfl) (by assumption) (by assumption) (by assumption) (by first | assumption | exact sz_up (by assumption) (by assumption) | exact sz_up (by assumption) (sz_up (by assumption) (by assumption)) | exact sz_up (by assumption) (sz_up (by assumption) (sz_up (by assumption) (by assumption)))) (by k_asm) (by exact rfl) (by exact rfl) (by ktr_room) (by ktr_units) ?_); intro y9 t9 h9 tk9 e9 F9 N9; tb_rel) | (k_here; (with_reducible show wpAny _ _ (call (Value.ref 38) _) _ _ _); k_dflt (refine mkQuicF (by decide) (by k_asm) (by k_asm) (by k_asm) (by ktr_room) (by ktr_units) ?_); intro e9 h9 tk9 mA9 N9 q9; tb_rel) | (k_here; (with_reducible show wpAny _ _ (call (Value.ref 78) _) _ _ _); k_dflt (refine mkRefusedF (by k_asm) (by k_asm) (by k_asm) (by ktr_room) (by ktr_units) ?_); intro e9 h9 tk9 mA9 N9; tb_rel) | (k_here; (with_reducible show wpAny _ _ (call (Value.ref 58) _) _ _ _); k_dflt (refine mkShortF (by k_asm) (by k_asm) (by k_asm) (by ktr_room) (by ktr_units) ?_); intro e9 h9 tk9 mA9 N9; tb_rel) | walk1) | (leave1; try dsimp only) | (with_reducible refine dABin ?_) | (with_reducible refine dAName ?_) | (with_reducible refine dAStore ?_) | (with_reducible refine dACmp ?_) | (with_reducible refine dATru ?_) | (with_reducible refine dASub ?_) | (with_reducible refine dSplNil ?_))
  refine dCallWith (K := Mine.hd.heap_39 w.params) (by kernel_rfl) (dAny ?_)
  (try k_fold)
  repeat' (first | (k_unfold; (try dsimp only)) | (k_end; wrow_close) | (k_here; (with_reducible show wpAny _ _ (call (Value.ref 326) _) _ _ _); k_dflt (refine useI (c_reserved _ _) (by k_asm) (by k_asm) (by k_asm) (by k_asm) (by k_asm) (by exact rfl) (by exact rfl) (by exact rfl) (by ktr_room) (by ktr_units) ?_); intro y9 t9 h9 tk9 e9 F9 N9; tb_rel) | (k_here; (with_reducible show wpAny _ _ (call (Value.ref 319) _) _ _ _); k_dflt (refine useI (c_restore _ _ _ _ _ _ (by omega) (by omega) (by omega) (by omega) (by assumption) (by assumption)) (by k_asm) (by k_asm) (by k_asm) (by k_asm) (by k_asm) (by exact rfl) (by exact rfl) (by exact rfl) (by ktr_room) (by ktr_units) ?_); intro y9 t9 h9 tk9 e9 F9 N9; tb_rel) | (k_here; (with_reducible show wpAny _ _ (call (Value.ref 96) _) _ _ _); k_dflt (refine useGet (x_tail _ _ _ _ _ _ _ _ (by kba_ints2) (by omega) (by omega) (by omega) (by omega) (by omega) (by assumption)) (by k_asm) (by exact rfl) (by assumption) (by assumption) (by assumption) (by first | assumption | exact sz_up (by assumption) (by assumption) | exact sz_up (by assumption) (sz_up (by assumption) (by assumption)) | exact sz_up (by assumption) (sz_up (by assumption) (sz_up (by assumption) (by assumption)))) (by k_asm) (by exact rfl) (by exact rfl) (by ktr_room) (by ktr_units) ?_); intro y9 t9 h9 tk9 e9 F9 N9; tb_rel) | (k_here; (with_reducible show wpAny _ _ (call (Value.ref 38) _) _ _ _); k_dflt (refine mkQuicF (by decide) (by k_asm) (by k_asm) (by k_asm) (by ktr_room) (by ktr_units) ?_); intro e9 h9 tk9 mA9 N9 q9; tb_rel) | (k_here; (with_reducible show wpAny _ _ (call (Value.ref 78) _) _ _ _); k_dflt (refine mkRefusedF (by k_asm) (by k_asm) (by k_asm) (by ktr_room) (by ktr_units) ?_); intro e9 h9 tk9 mA9 N9; tb_rel) | (k_here; (with_reducible show wpAny _ _ (call (Value.ref 58) _) _ _ _); k_dflt (refine mkShortF (by k_asm) (by k_asm) (by k_asm) (by ktr_room) (by ktr_units) ?_); intro e9 h9 tk9 mA9 N9; tb_rel) | walk1 | (dsimp only; first | (k_here; (with_reducible show wpAny _ _ (call (Value.ref 326) _) _ _ _); k_dflt (refine useI (c_reserved _ _) (by k_asm) (by k_asm) (by k_asm) (by k_asm) (by k_asm) (by exact rfl) (by exact rfl) (by exact rfl) (by ktr_room) (by ktr_units) ?_); intro y9 t9 h9 tk9 e9 F9 N9; tb_rel) | (k_here; (with_reducible show wpAny _ _ (call (Value.ref 319) _) _ _ _); k_dflt (refine useI (c_restore _ _ _ _ _ _ (by omega) (by omega) (by omega) (by omega) (by assumption) (by assumption)) (by k_asm) (by k_asm) (by k_asm) (by k_asm) (by k_asm) (by exact rfl) (by exact rfl) (by exact rfl) (by ktr_room) (by ktr_units) ?_); intro y9 t9 h9 tk9 e9 F9 N9; tb_rel) | (k_here; (with_reducible show wpAny _ _ (call (Value.ref 96) _) _ _ _); k_dflt (refine useGet (x_tail _ _ _ _ _ _ _ _ (by kba_ints2) (by omega) (by omega) (by omega) (by omega) (by omega) (by assumption)) (by k_asm) (by exact rfl) (by assumption) (by assumption) (by assumption) (by first | assumption | exact sz_up (by assumption) (by assumption) | exact sz_up (by assumption) (sz_up (by assumption) (by assumption)) | exact sz_up (by assumption) (sz_up (by assumption) (sz_up (by assumption) (by assumption)))) (by k_asm) (by exact rfl) (by exact rfl) (by ktr_room) (by ktr_units) ?_); intro y9 t9 h9 tk9 e9 F9 N9; tb_rel) | (k_here; (with_reducible show wpAny _ _ (call (Value.ref 38) _) _ _ _); k_dflt (refine mkQuicF (by decide) (by k_asm) (by k_asm) (by k_asm) (by ktr_room) (by ktr_units) ?_); intro e9 h9 tk9 mA9 N9 q9; tb_rel) | (k_here; (with_reducible show wpAny _ _ (call (Value.ref 78) _) _ _ _); k_dflt (refine mkRefusedF (by k_asm) (by k_asm) (by k_asm) (by ktr_room) (by ktr_units) ?_); intro e9 h9 tk9 mA9 N9; tb_rel) | (k_here; (with_reducible show wpAny _ _ (call (Value.ref 58) _) _ _ _); k_dflt (refine mkShortF (by k_asm) (by k_asm) (by k_asm) (by ktr_room) (by ktr_units) ?_); intro e9 h9 tk9 mA9 N9; tb_rel) | walk1) | (leave1; try dsimp only) | fail "no step")
  (try dsimp only)
  refine dUseB (c_open _ _ _ _ _ _ _ _ _ _ bs _ (by kba_ints2) (by kba_ints2) (by kba_ints2) (by rw [open_sl hen hna ⟨hz1, hz4⟩ hle, c9, hbs, q9]) (by omega) (by omega)) (by k_asm) (by k_asm) (by k_asm) (by k_asm) (by k_asm) (by exact rfl) (by exact rfl) (by exact rfl) (by exact rfl) (by ktr_room) (by ktr_units) ?_
  intro Y7 t7 h7 tk7 e7 F7 N7
  tb_rel
  repeat' (first | (k_unfold; (try dsimp only)) | (k_end; wrow_close) | (k_here; (with_reducible show wpAny _ _ (call (Value.ref 326) _) _ _ _); k_dflt (refine useI (c_reserved _ _) (by k_asm) (by k_asm) (by k_asm) (by k_asm) (by k_asm) (by exact rfl) (by exact rfl) (by exact rfl) (by ktr_room) (by ktr_units) ?_); intro y9 t9 h9 tk9 e9 F9 N9; tb_rel) | (k_here; (with_reducible show wpAny _ _ (call (Value.ref 319) _) _ _ _); k_dflt (refine useI (c_restore _ _ _ _ _ _ (by omega) (by omega) (by omega) (by omega) (by assumption) (by assumption)) (by k_asm) (by k_asm) (by k_asm) (by k_asm) (by k_asm) (by exact rfl) (by exact rfl) (by exact rfl) (by ktr_room) (by ktr_units) ?_); intro y9 t9 h9 tk9 e9 F9 N9; tb_rel) | (k_here; (with_reducible show wpAny _ _ (call (Value.ref 96) _) _ _ _); k_dflt (refine useGet (x_tail _ _ _ _ _ _ _ _ (by kba_ints2) (by omega) (by omega) (by omega) (by omega) (by omega) (by assumption)) (by k_asm) (by exact rfl) (by assumption) (by assumption) (by assumption) (by first | assumption | exact sz_up (by assumption) (by assumption) | exact sz_up (by assumption) (sz_up (by assumption) (by assumption)) | exact sz_up (by assumption) (sz_up (by assumption) (sz_up (by assumption) (by assumption)))) (by k_asm) (by exact rfl) (by exact rfl) (by ktr_room) (by ktr_units) ?_); intro y9 t9 h9 tk9 e9 F9 N9; tb_rel) | (k_here; (with_reducible show wpAny _ _ (call (Value.ref 38) _) _ _ _); k_dflt (refine mkQuicF (by decide) (by k_asm) (by k_asm) (by k_asm) (by ktr_room) (by ktr_units) ?_); intro e9 h9 tk9 mA9 N9 q9; tb_rel) | (k_here; (with_reducible show wpAny _ _ (call (Value.ref 78) _) _ _ _); k_dflt (refine mkRefusedF (by k_asm) (by k_asm) (by k_asm) (by ktr_room) (by ktr_units) ?_); intro e9 h9 tk9 mA9 N9; tb_rel) | (k_here; (with_reducible show wpAny _ _ (call (Value.ref 58) _) _ _ _); k_dflt (refine mkShortF (by k_asm) (by k_asm) (by k_asm) (by ktr_room) (by ktr_units) ?_); intro e9 h9 tk9 mA9 N9; tb_rel) | walk1 | (dsimp only; first | (k_here; (with_reducible show wpAny _ _ (call (Value.ref 326) _) _ _ _); k_dflt (refine useI (c_reserved _ _) (by k_asm) (by k_asm) (by k_asm) (by k_asm) (by k_asm) (by exact rfl) (by exact rfl) (by exact rfl) (by ktr_room) (by ktr_units) ?_); intro y9 t9 h9 tk9 e9 F9 N9; tb_rel) | (k_here; (with_reducible show wpAny _ _ (call (Value.ref 319) _) _ _ _); k_dflt (refine useI (c_restore _ _ _ _ _ _ (by omega) (by omega) (by omega) (by omega) (by assumption) (by assumption)) (by k_asm) (by k_asm) (by k_asm) (by k_asm) (by k_asm) (by exact rfl) (by exact rfl) (by exact rfl) (by ktr_room) (by ktr_units) ?_); intro y9 t9 h9 tk9 e9 F9 N9; tb_rel) | (k_here; (with_reducible show wpAny _ _ (call (Value.ref 96) _) _ _ _); k_dflt (refine useGet (x_tail _ _ _ _ _ _ _ _ (by kba_ints2) (by omega) (by omega) (by omega) (by omega) (by omega) (by assumption)) (by k_asm) (by exact rfl) (by assumption) (by assumption) (by assumption) (by first | assumption | exact sz_up (by assumption) (by assumption) | exact sz_up (by assumption) (sz_up (by assumption) (by assumption)) | exact sz_up (by assumption) (sz_up (by assumption) (sz_up (by assumption) (by assumption)))) (by k_asm) (by exact rfl) (by exact rfl) (by ktr_room) (by ktr_units) ?_); intro y9 t9 h9 tk9 e9 F9 N9; tb_rel) | (k_here; (with_reducible show wpAny _ _ (call (Value.ref 38) _) _ _ _); k_dflt (refine mkQuicF (by decide) (by k_asm) (by k_asm) (by k_asm) (by ktr_room) (by ktr_units) ?_); intro e9 h9 tk9 mA9 N9 q9; tb_rel) | (k_here; (with_reducible show wpAny _ _ (call (Value.ref 78) _) _ _ _); k_dflt (refine mkRefusedF (by k_asm) (by k_asm) (by k_asm) (by ktr_room) (by ktr_units) ?_); intro e9 h9 tk9 mA9 N9; tb_rel) | (k_here; (with_reducible show wpAny _ _ (call (Value.ref 58) _) _ _ _); k_dflt (refine mkShortF (by k_asm) (by k_asm) (by k_asm) (by ktr_room) (by ktr_units) ?_); intro e9 h9 tk9 mA9 N9; tb_rel) | walk1) | (leave1; try dsimp only) | (with_reducible refine dABin ?_) | (with_reducible refine dAName ?_) | (with_reducible refine dAStore ?_) | (with_reducible refine dACmp ?_) | (with_reducible refine dATru ?_) | (with_reducible refine dASub ?_) | (with_reducible refine dSplNil ?_))
  refine dExecs (dAny ?_)
  (try k_fold)
  repeat' (first | (k_unfold; (try dsimp only)) | (k_end; wrow_close) | (k_here; (with_reducible show wpAny _ _ (call (Value.ref 326) _) _ _ _); k_dflt (refine useI (c_reserved _ _) (by k_asm) (by k_asm) (by k_asm) (by k_asm) (by k_asm) (by exact rfl) (by exact rfl) (by exact rfl) (by ktr_room) (by ktr_units) ?_); intro y9 t9 h9 tk9 e9 F9 N9; tb_rel) | (k_here; (with_reducible show wpAny _ _ (call (Value.ref 319) _) _ _ _); k_dflt (refine useI (c_restore _ _ _ _ _ _ (by omega) (by omega) (by omega) (by omega) (by assumption) (by assumption)) (by k_asm) (by k_asm) (by k_asm) (by k_asm) (by k_asm) (by exact rfl) (by exact rfl) (by exact rfl) (by ktr_room) (by ktr_units) ?_); intro y9 t9 h9 tk9 e9 F9 N9; tb_rel) | (k_here; (with_reducible show wpAny _ _ (call (Value.ref 96) _) _ _ _); k_dflt (refine useGet (x_tail _ _ _ _ _ _ _ _ (by kba_ints2) (by omega) (by omega) (by omega) (by omega) (by omega) (by assumption)) (by k_asm) (by exact rfl) (by assumption) (by assumption) (by assumption) (by first | assumption | exact sz_up (by assumption) (by assumption) | exact sz_up (by assumption) (sz_up (by assumption) (by assumption)) | exact sz_up (by assumption) (sz_up (by assumption) (sz_up (by assumption) (by assumption)))) (by k_asm) (by exact rfl) (by exact rfl) (by ktr_room) (by ktr_units) ?_); intro y9 t9 h9 tk9 e9 F9 N9; tb_rel) | (k_here; (with_reducible show wpAny _ _ (call (Value.ref 38) _) _ _ _); k_dflt (refine mkQuicF (by decide) (by k_asm) (by k_asm) (by k_asm) (by ktr_room) (by ktr_units) ?_); intro e9 h9 tk9 mA9 N9 q9; tb_rel) | (k_here; (with_reducible show wpAny _ _ (call (Value.ref 78) _) _ _ _); k_dflt (refine mkRefusedF (by k_asm) (by k_asm) (by k_asm) (by ktr_room) (by ktr_units) ?_); intro e9 h9 tk9 mA9 N9; tb_rel) | (k_here; (with_reducible show wpAny _ _ (call (Value.ref 58) _) _ _ _); k_dflt (refine mkShortF (by k_asm) (by k_asm) (by k_asm) (by ktr_room) (by ktr_units) ?_); intro e9 h9 tk9 mA9 N9; tb_rel) | walk1 | (dsimp only; first | (k_here; (with_reducible show wpAny _ _ (call (Value.ref 326) _) _ _ _); k_dflt (refine useI (c_reserved _ _) (by k_asm) (by k_asm) (by k_asm) (by k_asm) (by k_asm) (by exact rfl) (by exact rfl) (by exact rfl) (by ktr_room) (by ktr_units) ?_); intro y9 t9 h9 tk9 e9 F9 N9; tb_rel) | (k_here; (with_reducible show wpAny _ _ (call (Value.ref 319) _) _ _ _); k_dflt (refine useI (c_restore _ _ _ _ _ _ (by omega) (by omega) (by omega) (by omega) (by assumption) (by assumption)) (by k_asm) (by k_asm) (by k_asm) (by k_asm) (by k_asm) (by exact rfl) (by exact rfl) (by exact rfl) (by ktr_room) (by ktr_units) ?_); intro y9 t9 h9 tk9 e9 F9 N9; tb_rel) | (k_here; (with_reducible show wpAny _ _ (call (Value.ref 96) _) _ _ _); k_dflt (refine useGet (x_tail _ _ _ _ _ _ _ _ (by kba_ints2) (by omega) (by omega) (by omega) (by omega) (by omega) (by assumption)) (by k_asm) (by exact rfl) (by assumption) (by assumption) (by assumption) (by first | assumption | exact sz_up (by assumption) (by assumption) | exact sz_up (by assumption) (sz_up (by assumption) (by assumption)) | exact sz_up (by assumption) (sz_up (by assumption) (sz_up (by assumption) (by assumption)))) (by k_asm) (by exact rfl) (by exact rfl) (by ktr_room) (by ktr_units) ?_); intro y9 t9 h9 tk9 e9 F9 N9; tb_rel) | (k_here; (with_reducible show wpAny _ _ (call (Value.ref 38) _) _ _ _); k_dflt (refine mkQuicF (by decide) (by k_asm) (by k_asm) (by k_asm) (by ktr_room) (by ktr_units) ?_); intro e9 h9 tk9 mA9 N9 q9; tb_rel) | (k_here; (with_reducible show wpAny _ _ (call (Value.ref 78) _) _ _ _); k_dflt (refine mkRefusedF (by k_asm) (by k_asm) (by k_asm) (by ktr_room) (by ktr_units) ?_); intro e9 h9 tk9 mA9 N9; tb_rel) | (k_here; (with_reducible show wpAny _ _ (call (Value.ref 58) _) _ _ _); k_dflt (refine mkShortF (by k_asm) (by k_asm) (by k_asm) (by ktr_room) (by ktr_units) ?_); intro e9 h9 tk9 mA9 N9; tb_rel) | walk1) | (leave1; try dsimp only) | (with_reducible refine dABin ?_) | (with_reducible refine dAName ?_) | (with_reducible refine dAStore ?_) | (with_reducible refine dACmp ?_) | (with_reducible refine dATru ?_) | (with_reducible refine dASub ?_) | (with_reducible refine dSplNil ?_))
  refine dExecs (dIf (dTest1 (dCallName ?_)))
  repeat' (first | (k_unfold; (try dsimp only)) | (k_end; wrow_close) | (k_here; (with_reducible show wpAny _ _ (call (Value.ref 326) _) _ _ _); k_dflt (refine useI (c_reserved _ _) (by k_asm) (by k_asm) (by k_asm) (by k_asm) (by k_asm) (by exact rfl) (by exact rfl) (by exact rfl) (by ktr_room) (by ktr_units) ?_); intro y9 t9 h9 tk9 e9 F9 N9; tb_rel) | (k_here; (with_reducible show wpAny _ _ (call (Value.ref 319) _) _ _ _); k_dflt (refine useI (c_restore _ _ _ _ _ _ (by omega) (by omega) (by omega) (by omega) (by assumption) (by assumption)) (by k_asm) (by k_asm) (by k_asm) (by k_asm) (by k_asm) (by exact rfl) (by exact rfl) (by exact rfl) (by ktr_room) (by ktr_units) ?_); intro y9 t9 h9 tk9 e9 F9 N9; tb_rel) | (k_here; (with_reducible show wpAny _ _ (call (Value.ref 96) _) _ _ _); k_dflt (refine useGet (x_tail _ _ _ _ _ _ _ _ (by kba_ints2) (by omega) (by omega) (by omega) (by omega) (by omega) (by assumption)) (by k_asm) (by exact rfl) (by assumption) (by assumption) (by assumption) (by first | assumption | exact sz_up (by assumption) (by assumption) | exact sz_up (by assumption) (sz_up (by assumption) (by assumption)) | exact sz_up (by assumption) (sz_up (by assumption) (sz_up (by assumption) (by assumption)))) (by k_asm) (by exact rfl) (by exact rfl) (by ktr_room) (by ktr_units) ?_); intro y9 t9 h9 tk9 e9 F9 N9; tb_rel) | (k_here; (with_reducible show wpAny _ _ (call (Value.ref 38) _) _ _ _); k_dflt (refine mkQuicF (by decide) (by k_asm) (by k_asm) (by k_asm) (by ktr_room) (by ktr_units) ?_); intro e9 h9 tk9 mA9 N9 q9; tb_rel) | (k_here; (with_reducible show wpAny _ _ (call (Value.ref 78) _) _ _ _); k_dflt (refine mkRefusedF (by k_asm) (by k_asm) (by k_asm) (by ktr_room) (by ktr_units) ?_); intro e9 h9 tk9 mA9 N9; tb_rel) | (k_here; (with_reducible show wpAny _ _ (call (Value.ref 58) _) _ _ _); k_dflt (refine mkShortF (by k_asm) (by k_asm) (by k_asm) (by ktr_room) (by ktr_units) ?_); intro e9 h9 tk9 mA9 N9; tb_rel) | walk1 | (dsimp only; first | (k_here; (with_reducible show wpAny _ _ (call (Value.ref 326) _) _ _ _); k_dflt (refine useI (c_reserved _ _) (by k_asm) (by k_asm) (by k_asm) (by k_asm) (by k_asm) (by exact rfl) (by exact rfl) (by exact rfl) (by ktr_room) (by ktr_units) ?_); intro y9 t9 h9 tk9 e9 F9 N9; tb_rel) | (k_here; (with_reducible show wpAny _ _ (call (Value.ref 319) _) _ _ _); k_dflt (refine useI (c_restore _ _ _ _ _ _ (by omega) (by omega) (by omega) (by omega) (by assumption) (by assumption)) (by k_asm) (by k_asm) (by k_asm) (by k_asm) (by k_asm) (by exact rfl) (by exact rfl) (by exact rfl) (by ktr_room) (by ktr_units) ?_); intro y9 t9 h9 tk9 e9 F9 N9; tb_rel) | (k_here; (with_reducible show wpAny _ _ (call (Value.ref 96) _) _ _ _); k_dflt (refine useGet (x_tail _ _ _ _ _ _ _ _ (by kba_ints2) (by omega) (by omega) (by omega) (by omega) (by omega) (by assumption)) (by k_asm) (by exact rfl) (by assumption) (by assumption) (by assumption) (by first | assumption | exact sz_up (by assumption) (by assumption) | exact sz_up (by assumption) (sz_up (by assumption) (by assumption)) | exact sz_up (by assumption) (sz_up (by assumption) (sz_up (by assumption) (by assumption)))) (by k_asm) (by exact rfl) (by exact rfl) (by ktr_room) (by ktr_units) ?_); intro y9 t9 h9 tk9 e9 F9 N9; tb_rel) | (k_here; (with_reducible show wpAny _ _ (call (Value.ref 38) _) _ _ _); k_dflt (refine mkQuicF (by decide) (by k_asm) (by k_asm) (by k_asm) (by ktr_room) (by ktr_units) ?_); intro e9 h9 tk9 mA9 N9 q9; tb_rel) | (k_here; (with_reducible show wpAny _ _ (call (Value.ref 78) _) _ _ _); k_dflt (refine mkRefusedF (by k_asm) (by k_asm) (by k_asm) (by ktr_room) (by ktr_units) ?_); intro e9 h9 tk9 mA9 N9; tb_rel) | (k_here; (with_reducible show wpAny _ _ (call (Value.ref 58) _) _ _ _); k_dflt (refine mkShortF (by k_asm) (by k_asm) (by k_asm) (by ktr_room) (by ktr_units) ?_); intro e9 h9 tk9 mA9 N9; tb_rel) | walk1) | (leave1; try dsimp only) | (with_reducible refine dABin ?_) | (with_reducible refine dAName ?_) | (with_reducible refine dAStore ?_) | (with_reducible refine dACmp ?_) | (with_reducible refine dATru ?_) | (with_reducible refine dASub ?_) | (with_reducible refine dSplNil ?_))
  refine dCallWith (K := Mine.hd.heap_39 w.params) (by kernel_rfl) (dAny ?_)
  (try k_fold)
  repeat' (first | (k_unfold; (try dsimp only)) | (k_end; wrow_close) | (k_here; (with_reducible show wpAny _ _ (call (Value.ref 326) _) _ _ _); k_dflt (refine useI (c_reserved _ _) (by k_asm) (by k_asm) (by k_asm) (by k_asm) (by k_asm) (by exact rfl) (by exact rfl) (by exact rfl) (by ktr_room) (by ktr_units) ?_); intro y9 t9 h9 tk9 e9 F9 N9; tb_rel) | (k_here; (with_reducible show wpAny _ _ (call (Value.ref 319) _) _ _ _); k_dflt (refine useI (c_restore _ _ _ _ _ _ (by omega) (by omega) (by omega) (by omega) (by assumption) (by assumption)) (by k_asm) (by k_asm) (by k_asm) (by k_asm) (by k_asm) (by exact rfl) (by exact rfl) (by exact rfl) (by ktr_room) (by ktr_units) ?_); intro y9 t9 h9 tk9 e9 F9 N9; tb_rel) | (k_here; (with_reducible show wpAny _ _ (call (Value.ref 96) _) _ _ _); k_dflt (refine useGet (x_tail _ _ _ _ _ _ _ _ (by kba_ints2) (by omega) (by omega) (by omega) (by omega) (by omega) (by assumption)) (by k_asm) (by exact rfl) (by assumption) (by assumption) (by assumption) (by first | assumption | exact sz_up (by assumption) (by assumption) | exact sz_up (by assumption) (sz_up (by assumption) (by assumption)) | exact sz_up (by assumption) (sz_up (by assumption) (sz_up (by assumption) (by assumption)))) (by k_asm) (by exact rfl) (by exact rfl) (by ktr_room) (by ktr_units) ?_); intro y9 t9 h9 tk9 e9 F9 N9; tb_rel) | (k_here; (with_reducible show wpAny _ _ (call (Value.ref 38) _) _ _ _); k_dflt (refine mkQuicF (by decide) (by k_asm) (by k_asm) (by k_asm) (by ktr_room) (by ktr_units) ?_); intro e9 h9 tk9 mA9 N9 q9; tb_rel) | (k_here; (with_reducible show wpAny _ _ (call (Value.ref 78) _) _ _ _); k_dflt (refine mkRefusedF (by k_asm) (by k_asm) (by k_asm) (by ktr_room) (by ktr_units) ?_); intro e9 h9 tk9 mA9 N9; tb_rel) | (k_here; (with_reducible show wpAny _ _ (call (Value.ref 58) _) _ _ _); k_dflt (refine mkShortF (by k_asm) (by k_asm) (by k_asm) (by ktr_room) (by ktr_units) ?_); intro e9 h9 tk9 mA9 N9; tb_rel) | walk1 | (dsimp only; first | (k_here; (with_reducible show wpAny _ _ (call (Value.ref 326) _) _ _ _); k_dflt (refine useI (c_reserved _ _) (by k_asm) (by k_asm) (by k_asm) (by k_asm) (by k_asm) (by exact rfl) (by exact rfl) (by exact rfl) (by ktr_room) (by ktr_units) ?_); intro y9 t9 h9 tk9 e9 F9 N9; tb_rel) | (k_here; (with_reducible show wpAny _ _ (call (Value.ref 319) _) _ _ _); k_dflt (refine useI (c_restore _ _ _ _ _ _ (by omega) (by omega) (by omega) (by omega) (by assumption) (by assumption)) (by k_asm) (by k_asm) (by k_asm) (by k_asm) (by k_asm) (by exact rfl) (by exact rfl) (by exact rfl) (by ktr_room) (by ktr_units) ?_); intro y9 t9 h9 tk9 e9 F9 N9; tb_rel) | (k_here; (with_reducible show wpAny _ _ (call (Value.ref 96) _) _ _ _); k_dflt (refine useGet (x_tail _ _ _ _ _ _ _ _ (by kba_ints2) (by omega) (by omega) (by omega) (by omega) (by omega) (by assumption)) (by k_asm) (by exact rfl) (by assumption) (by assumption) (by assumption) (by first | assumption | exact sz_up (by assumption) (by assumption) | exact sz_up (by assumption) (sz_up (by assumption) (by assumption)) | exact sz_up (by assumption) (sz_up (by assumption) (sz_up (by assumption) (by assumption)))) (by k_asm) (by exact rfl) (by exact rfl) (by ktr_room) (by ktr_units) ?_); intro y9 t9 h9 tk9 e9 F9 N9; tb_rel) | (k_here; (with_reducible show wpAny _ _ (call (Value.ref 38) _) _ _ _); k_dflt (refine mkQuicF (by decide) (by k_asm) (by k_asm) (by k_asm) (by ktr_room) (by ktr_units) ?_); intro e9 h9 tk9 mA9 N9 q9; tb_rel) | (k_here; (with_reducible show wpAny _ _ (call (Value.ref 78) _) _ _ _); k_dflt (refine mkRefusedF (by k_asm) (by k_asm) (by k_asm) (by ktr_room) (by ktr_units) ?_); intro e9 h9 tk9 mA9 N9; tb_rel) | (k_here; (with_reducible show wpAny _ _ (call (Value.ref 58) _) _ _ _); k_dflt (refine mkShortF (by k_asm) (by k_asm) (by k_asm) (by ktr_room) (by ktr_units) ?_); intro e9 h9 tk9 mA9 N9; tb_rel) | walk1) | (leave1; try dsimp only) | fail "no step")
  (try dsimp only)
  refine dAny (useI (c_reserved _ _) (by k_asm) (by k_asm) (by k_asm) (by k_asm) (by k_asm) (by exact rfl) (by exact rfl) (by exact rfl) (by ktr_room) (by ktr_units) ?_)
  intro y6 t6 h6 tk6 e6 F6 N6
  have e6' : y6 = resv (bareF kk ks na.toNat) := by rw [e6, q9]; rfl
  tb_rel
  repeat' (first | (k_unfold; (try dsimp only)) | (k_end; wrow_close) | (k_here; (with_reducible show wpAny _ _ (call (Value.ref 326) _) _ _ _); k_dflt (refine useI (c_reserved _ _) (by k_asm) (by k_asm) (by k_asm) (by k_asm) (by k_asm) (by exact rfl) (by exact rfl) (by exact rfl) (by ktr_room) (by ktr_units) ?_); intro y9 t9 h9 tk9 e9 F9 N9; tb_rel) | (k_here; (with_reducible show wpAny _ _ (call (Value.ref 319) _) _ _ _); k_dflt (refine useI (c_restore _ _ _ _ _ _ (by omega) (by omega) (by omega) (by omega) (by assumption) (by assumption)) (by k_asm) (by k_asm) (by k_asm) (by k_asm) (by k_asm) (by exact rfl) (by exact rfl) (by exact rfl) (by ktr_room) (by ktr_units) ?_); intro y9 t9 h9 tk9 e9 F9 N9; tb_rel) | (k_here; (with_reducible show wpAny _ _ (call (Value.ref 96) _) _ _ _); k_dflt (refine useGet (x_tail _ _ _ _ _ _ _ _ (by kba_ints2) (by omega) (by omega) (by omega) (by omega) (by omega) (by assumption)) (by k_asm) (by exact rfl) (by assumption) (by assumption) (by assumption) (by first | assumption | exact sz_up (by assumption) (by assumption) | exact sz_up (by assumption) (sz_up (by assumption) (by assumption)) | exact sz_up (by assumption) (sz_up (by assumption) (sz_up (by assumption) (by assumption)))) (by k_asm) (by exact rfl) (by exact rfl) (by ktr_room) (by ktr_units) ?_); intro y9 t9 h9 tk9 e9 F9 N9; tb_rel) | (k_here; (with_reducible show wpAny _ _ (call (Value.ref 38) _) _ _ _); k_dflt (refine mkQuicF (by decide) (by k_asm) (by k_asm) (by k_asm) (by ktr_room) (by ktr_units) ?_); intro e9 h9 tk9 mA9 N9 q9; tb_rel) | (k_here; (with_reducible show wpAny _ _ (call (Value.ref 78) _) _ _ _); k_dflt (refine mkRefusedF (by k_asm) (by k_asm) (by k_asm) (by ktr_room) (by ktr_units) ?_); intro e9 h9 tk9 mA9 N9; tb_rel) | (k_here; (with_reducible show wpAny _ _ (call (Value.ref 58) _) _ _ _); k_dflt (refine mkShortF (by k_asm) (by k_asm) (by k_asm) (by ktr_room) (by ktr_units) ?_); intro e9 h9 tk9 mA9 N9; tb_rel) | walk1 | (dsimp only; first | (k_here; (with_reducible show wpAny _ _ (call (Value.ref 326) _) _ _ _); k_dflt (refine useI (c_reserved _ _) (by k_asm) (by k_asm) (by k_asm) (by k_asm) (by k_asm) (by exact rfl) (by exact rfl) (by exact rfl) (by ktr_room) (by ktr_units) ?_); intro y9 t9 h9 tk9 e9 F9 N9; tb_rel) | (k_here; (with_reducible show wpAny _ _ (call (Value.ref 319) _) _ _ _); k_dflt (refine useI (c_restore _ _ _ _ _ _ (by omega) (by omega) (by omega) (by omega) (by assumption) (by assumption)) (by k_asm) (by k_asm) (by k_asm) (by k_asm) (by k_asm) (by exact rfl) (by exact rfl) (by exact rfl) (by ktr_room) (by ktr_units) ?_); intro y9 t9 h9 tk9 e9 F9 N9; tb_rel) | (k_here; (with_reducible show wpAny _ _ (call (Value.ref 96) _) _ _ _); k_dflt (refine useGet (x_tail _ _ _ _ _ _ _ _ (by kba_ints2) (by omega) (by omega) (by omega) (by omega) (by omega) (by assumption)) (by k_asm) (by exact rfl) (by assumption) (by assumption) (by assumption) (by first | assumption | exact sz_up (by assumption) (by assumption) | exact sz_up (by assumption) (sz_up (by assumption) (by assumption)) | exact sz_up (by assumption) (sz_up (by assumption) (sz_up (by assumption) (by assumption)))) (by k_asm) (by exact rfl) (by exact rfl) (by ktr_room) (by ktr_units) ?_); intro y9 t9 h9 tk9 e9 F9 N9; tb_rel) | (k_here; (with_reducible show wpAny _ _ (call (Value.ref 38) _) _ _ _); k_dflt (refine mkQuicF (by decide) (by k_asm) (by k_asm) (by k_asm) (by ktr_room) (by ktr_units) ?_); intro e9 h9 tk9 mA9 N9 q9; tb_rel) | (k_here; (with_reducible show wpAny _ _ (call (Value.ref 78) _) _ _ _); k_dflt (refine mkRefusedF (by k_asm) (by k_asm) (by k_asm) (by ktr_room) (by ktr_units) ?_); intro e9 h9 tk9 mA9 N9; tb_rel) | (k_here; (with_reducible show wpAny _ _ (call (Value.ref 58) _) _ _ _); k_dflt (refine mkShortF (by k_asm) (by k_asm) (by k_asm) (by ktr_room) (by ktr_units) ?_); intro e9 h9 tk9 mA9 N9; tb_rel) | walk1) | (leave1; try dsimp only) | (with_reducible refine dABin ?_) | (with_reducible refine dAName ?_) | (with_reducible refine dAStore ?_) | (with_reducible refine dACmp ?_) | (with_reducible refine dATru ?_) | (with_reducible refine dASub ?_) | (with_reducible refine dSplNil ?_))
  refine dAny ?_
  repeat' (first | (k_unfold; (try dsimp only)) | (k_end; wrow_close) | (k_here; (with_reducible show wpAny _ _ (call (Value.ref 326) _) _ _ _); k_dflt (refine useI (c_reserved _ _) (by k_asm) (by k_asm) (by k_asm) (by k_asm) (by k_asm) (by exact rfl) (by exact rfl) (by exact rfl) (by ktr_room) (by ktr_units) ?_); intro y9 t9 h9 tk9 e9 F9 N9; tb_rel) | (k_here; (with_reducible show wpAny _ _ (call (Value.ref 319) _) _ _ _); k_dflt (refine useI (c_restore _ _ _ _ _ _ (by omega) (by omega) (by omega) (by omega) (by assumption) (by assumption)) (by k_asm) (by k_asm) (by k_asm) (by k_asm) (by k_asm) (by exact rfl) (by exact rfl) (by exact rfl) (by ktr_room) (by ktr_units) ?_); intro y9 t9 h9 tk9 e9 F9 N9; tb_rel) | (k_here; (with_reducible show wpAny _ _ (call (Value.ref 96) _) _ _ _); k_dflt (refine useGet (x_tail _ _ _ _ _ _ _ _ (by kba_ints2) (by omega) (by omega) (by omega) (by omega) (by omega) (by assumption)) (by k_asm) (by exact rfl) (by assumption) (by assumption) (by assumption) (by first | assumption | exact sz_up (by assumption) (by assumption) | exact sz_up (by assumption) (sz_up (by assumption) (by assumption)) | exact sz_up (by assumption) (sz_up (by assumption) (sz_up (by assumption) (by assumption)))) (by k_asm) (by exact rfl) (by exact rfl) (by ktr_room) (by ktr_units) ?_); intro y9 t9 h9 tk9 e9 F9 N9; tb_rel) | (k_here; (with_reducible show wpAny _ _ (call (Value.ref 38) _) _ _ _); k_dflt (refine mkQuicF (by decide) (by k_asm) (by k_asm) (by k_asm) (by ktr_room) (by ktr_units) ?_); intro e9 h9 tk9 mA9 N9 q9; tb_rel) | (k_here; (with_reducible show wpAny _ _ (call (Value.ref 78) _) _ _ _); k_dflt (refine mkRefusedF (by k_asm) (by k_asm) (by k_asm) (by ktr_room) (by ktr_units) ?_); intro e9 h9 tk9 mA9 N9; tb_rel) | (k_here; (with_reducible show wpAny _ _ (call (Value.ref 58) _) _ _ _); k_dflt (refine mkShortF (by k_asm) (by k_asm) (by k_asm) (by ktr_room) (by ktr_units) ?_); intro e9 h9 tk9 mA9 N9; tb_rel) | walk1 | (dsimp only; first | (k_here; (with_reducible show wpAny _ _ (call (Value.ref 326) _) _ _ _); k_dflt (refine useI (c_reserved _ _) (by k_asm) (by k_asm) (by k_asm) (by k_asm) (by k_asm) (by exact rfl) (by exact rfl) (by exact rfl) (by ktr_room) (by ktr_units) ?_); intro y9 t9 h9 tk9 e9 F9 N9; tb_rel) | (k_here; (with_reducible show wpAny _ _ (call (Value.ref 319) _) _ _ _); k_dflt (refine useI (c_restore _ _ _ _ _ _ (by omega) (by omega) (by omega) (by omega) (by assumption) (by assumption)) (by k_asm) (by k_asm) (by k_asm) (by k_asm) (by k_asm) (by exact rfl) (by exact rfl) (by exact rfl) (by ktr_room) (by ktr_units) ?_); intro y9 t9 h9 tk9 e9 F9 N9; tb_rel) | (k_here; (with_reducible show wpAny _ _ (call (Value.ref 96) _) _ _ _); k_dflt (refine useGet (x_tail _ _ _ _ _ _ _ _ (by kba_ints2) (by omega) (by omega) (by omega) (by omega) (by omega) (by assumption)) (by k_asm) (by exact rfl) (by assumption) (by assumption) (by assumption) (by first | assumption | exact sz_up (by assumption) (by assumption) | exact sz_up (by assumption) (sz_up (by assumption) (by assumption)) | exact sz_up (by assumption) (sz_up (by assumption) (sz_up (by assumption) (by assumption)))) (by k_asm) (by exact rfl) (by exact rfl) (by ktr_room) (by ktr_units) ?_); intro y9 t9 h9 tk9 e9 F9 N9; tb_rel) | (k_here; (with_reducible show wpAny _ _ (call (Value.ref 38) _) _ _ _); k_dflt (refine mkQuicF (by decide) (by k_asm) (by k_asm) (by k_asm) (by ktr_room) (by ktr_units) ?_); intro e9 h9 tk9 mA9 N9 q9; tb_rel) | (k_here; (with_reducible show wpAny _ _ (call (Value.ref 78) _) _ _ _); k_dflt (refine mkRefusedF (by k_asm) (by k_asm) (by k_asm) (by ktr_room) (by ktr_units) ?_); intro e9 h9 tk9 mA9 N9; tb_rel) | (k_here; (with_reducible show wpAny _ _ (call (Value.ref 58) _) _ _ _); k_dflt (refine mkShortF (by k_asm) (by k_asm) (by k_asm) (by ktr_room) (by ktr_units) ?_); intro e9 h9 tk9 mA9 N9; tb_rel) | walk1) | (leave1; try dsimp only) | (with_reducible refine dABin ?_) | (with_reducible refine dAName ?_) | (with_reducible refine dAStore ?_) | (with_reducible refine dACmp ?_) | (with_reducible refine dATru ?_) | (with_reducible refine dASub ?_) | (with_reducible refine dSplNil ?_))
  · refine dAny ?_
    (try k_fold)
    repeat' (first | (k_unfold; (try dsimp only)) | (k_end; wrow_close) | (k_here; (with_reducible show wpAny _ _ (call (Value.ref 326) _) _ _ _); k_dflt (refine useI (c_reserved _ _) (by k_asm) (by k_asm) (by k_asm) (by k_asm) (by k_asm) (by exact rfl) (by exact rfl) (by exact rfl) (by ktr_room) (by ktr_units) ?_); intro y9 t9 h9 tk9 e9 F9 N9; tb_rel) | (k_here; (with_reducible show wpAny _ _ (call (Value.ref 319) _) _ _ _); k_dflt (refine useI (c_restore _ _ _ _ _ _ (by omega) (by omega) (by omega) (by omega) (by assumption) (by assumption)) (by k_asm) (by k_asm) (by k_asm) (by k_asm) (by k_asm) (by exact rfl) (by exact rfl) (by exact rfl) (by ktr_room) (by ktr_units) ?_); intro y9 t9 h9 tk9 e9 F9 N9; tb_rel) | (k_here; (with_reducible show wpAny _ _ (call (Value.ref 96) _) _ _ _); k_dflt (refine useGet (x_tail _ _ _ _ _ _ _ _ (by kba_ints2) (by omega) (by omega) (by omega) (by omega) (by omega) (by assumption)) (by k_asm) (by exact rfl) (by assumption) (by assumption) (by assumption) (by first | assumption | exact sz_up (by assumption) (by assumption) | exact sz_up (by assumption) (sz_up (by assumption) (by assumption)) | exact sz_up (by assumption) (sz_up (by assumption) (sz_up (by assumption) (by assumption)))) (by k_asm) (by exact rfl) (by exact rfl) (by ktr_room) (by ktr_units) ?_); intro y9 t9 h9 tk9 e9 F9 N9; tb_rel) | (k_here; (with_reducible show wpAny _ _ (call (Value.ref 38) _) _ _ _); k_dflt (refine mkQuicF (by decide) (by k_asm) (by k_asm) (by k_asm) (by ktr_room) (by ktr_units) ?_); intro e9 h9 tk9 mA9 N9 q9; tb_rel) | (k_here; (with_reducible show wpAny _ _ (call (Value.ref 78) _) _ _ _); k_dflt (refine mkRefusedF (by k_asm) (by k_asm) (by k_asm) (by ktr_room) (by ktr_units) ?_); intro e9 h9 tk9 mA9 N9; tb_rel) | (k_here; (with_reducible show wpAny _ _ (call (Value.ref 58) _) _ _ _); k_dflt (refine mkShortF (by k_asm) (by k_asm) (by k_asm) (by ktr_room) (by ktr_units) ?_); intro e9 h9 tk9 mA9 N9; tb_rel) | walk1 | (dsimp only; first | (k_here; (with_reducible show wpAny _ _ (call (Value.ref 326) _) _ _ _); k_dflt (refine useI (c_reserved _ _) (by k_asm) (by k_asm) (by k_asm) (by k_asm) (by k_asm) (by exact rfl) (by exact rfl) (by exact rfl) (by ktr_room) (by ktr_units) ?_); intro y9 t9 h9 tk9 e9 F9 N9; tb_rel) | (k_here; (with_reducible show wpAny _ _ (call (Value.ref 319) _) _ _ _); k_dflt (refine useI (c_restore _ _ _ _ _ _ (by omega) (by omega) (by omega) (by omega) (by assumption) (by assumption)) (by k_asm) (by k_asm) (by k_asm) (by k_asm) (by k_asm) (by exact rfl) (by exact rfl) (by exact rfl) (by ktr_room) (by ktr_units) ?_); intro y9 t9 h9 tk9 e9 F9 N9; tb_rel) | (k_here; (with_reducible show wpAny _ _ (call (Value.ref 96) _) _ _ _); k_dflt (refine useGet (x_tail _ _ _ _ _ _ _ _ (by kba_ints2) (by omega) (by omega) (by omega) (by omega) (by omega) (by assumption)) (by k_asm) (by exact rfl) (by assumption) (by assumption) (by assumption) (by first | assumption | exact sz_up (by assumption) (by assumption) | exact sz_up (by assumption) (sz_up (by assumption) (by assumption)) | exact sz_up (by assumption) (sz_up (by assumption) (sz_up (by assumption) (by assumption)))) (by k_asm) (by exact rfl) (by exact rfl) (by ktr_room) (by ktr_units) ?_); intro y9 t9 h9 tk9 e9 F9 N9; tb_rel) | (k_here; (with_reducible show wpAny _ _ (call (Value.ref 38) _) _ _ _); k_dflt (refine mkQuicF (by decide) (by k_asm) (by k_asm) (by k_asm) (by ktr_room) (by ktr_units) ?_); intro e9 h9 tk9 mA9 N9 q9; tb_rel) | (k_here; (with_reducible show wpAny _ _ (call (Value.ref 78) _) _ _ _); k_dflt (refine mkRefusedF (by k_asm) (by k_asm) (by k_asm) (by ktr_room) (by ktr_units) ?_); intro e9 h9 tk9 mA9 N9; tb_rel) | (k_here; (with_reducible show wpAny _ _ (call (Value.ref 58) _) _ _ _); k_dflt (refine mkShortF (by k_asm) (by k_asm) (by k_asm) (by ktr_room) (by ktr_units) ?_); intro e9 h9 tk9 mA9 N9; tb_rel) | walk1) | (leave1; try dsimp only) | (with_reducible refine dABin ?_) | (with_reducible refine dAName ?_) | (with_reducible refine dAStore ?_) | (with_reducible refine dACmp ?_) | (with_reducible refine dATru ?_) | (with_reducible refine dASub ?_) | (with_reducible refine dSplNil ?_))
    refine hx _ _ _ _ _ _ (by assumption) (by repeat (first | assumption | exact up_fr (by assumption) | (refine Heap.UpToSlots.trans ?_ (by assumption)))) (by assumption) (by assumption) (by assumption) (by rw [← e6']; assumption)
  · have z6 : resv (bareF kk ks na.toNat) = 0 := by rw [← e6']; first | assumption | omega
    refine dAny ?_
    (try k_fold)
    repeat' (first | (k_unfold; (try dsimp only)) | (k_end; wrow_close) | (k_here; (with_reducible show wpAny _ _ (call (Value.ref 326) _) _ _ _); k_dflt (refine useI (c_reserved _ _) (by k_asm) (by k_asm) (by k_asm) (by k_asm) (by k_asm) (by exact rfl) (by exact rfl) (by exact rfl) (by ktr_room) (by ktr_units) ?_); intro y9 t9 h9 tk9 e9 F9 N9; tb_rel) | (k_here; (with_reducible show wpAny _ _ (call (Value.ref 319) _) _ _ _); k_dflt (refine useI (c_restore _ _ _ _ _ _ (by omega) (by omega) (by omega) (by omega) (by assumption) (by assumption)) (by k_asm) (by k_asm) (by k_asm) (by k_asm) (by k_asm) (by exact rfl) (by exact rfl) (by exact rfl) (by ktr_room) (by ktr_units) ?_); intro y9 t9 h9 tk9 e9 F9 N9; tb_rel) | (k_here; (with_reducible show wpAny _ _ (call (Value.ref 96) _) _ _ _); k_dflt (refine useGet (x_tail _ _ _ _ _ _ _ _ (by kba_ints2) (by omega) (by omega) (by omega) (by omega) (by omega) (by assumption)) (by k_asm) (by exact rfl) (by assumption) (by assumption) (by assumption) (by first | assumption | exact sz_up (by assumption) (by assumption) | exact sz_up (by assumption) (sz_up (by assumption) (by assumption)) | exact sz_up (by assumption) (sz_up (by assumption) (sz_up (by assumption) (by assumption)))) (by k_asm) (by exact rfl) (by exact rfl) (by ktr_room) (by ktr_units) ?_); intro y9 t9 h9 tk9 e9 F9 N9; tb_rel) | (k_here; (with_reducible show wpAny _ _ (call (Value.ref 38) _) _ _ _); k_dflt (refine mkQuicF (by decide) (by k_asm) (by k_asm) (by k_asm) (by ktr_room) (by ktr_units) ?_); intro e9 h9 tk9 mA9 N9 q9; tb_rel) | (k_here; (with_reducible show wpAny _ _ (call (Value.ref 78) _) _ _ _); k_dflt (refine mkRefusedF (by k_asm) (by k_asm) (by k_asm) (by ktr_room) (by ktr_units) ?_); intro e9 h9 tk9 mA9 N9; tb_rel) | (k_here; (with_reducible show wpAny _ _ (call (Value.ref 58) _) _ _ _); k_dflt (refine mkShortF (by k_asm) (by k_asm) (by k_asm) (by ktr_room) (by ktr_units) ?_); intro e9 h9 tk9 mA9 N9; tb_rel) | walk1 | (dsimp only; first | (k_here; (with_reducible show wpAny _ _ (call (Value.ref 326) _) _ _ _); k_dflt (refine useI (c_reserved _ _) (by k_asm) (by k_asm) (by k_asm) (by k_asm) (by k_asm) (by exact rfl) (by exact rfl) (by exact rfl) (by ktr_room) (by ktr_units) ?_); intro y9 t9 h9 tk9 e9 F9 N9; tb_rel) | (k_here; (with_reducible show wpAny _ _ (call (Value.ref 319) _) _ _ _); k_dflt (refine useI (c_restore _ _ _ _ _ _ (by omega) (by omega) (by omega) (by omega) (by assumption) (by assumption)) (by k_asm) (by k_asm) (by k_asm) (by k_asm) (by k_asm) (by exact rfl) (by exact rfl) (by exact rfl) (by ktr_room) (by ktr_units) ?_); intro y9 t9 h9 tk9 e9 F9 N9; tb_rel) | (k_here; (with_reducible show wpAny _ _ (call (Value.ref 96) _) _ _ _); k_dflt (refine useGet (x_tail _ _ _ _ _ _ _ _ (by kba_ints2) (by omega) (by omega) (by omega) (by omega) (by omega) (by assumption)) (by k_asm) (by exact rfl) (by assumption) (by assumption) (by assumption) (by first | assumption | exact sz_up (by assumption) (by assumption) | exact sz_up (by assumption) (sz_up (by assumption) (by assumption)) | exact sz_up (by assumption) (sz_up (by assumption) (sz_up (by assumption) (by assumption)))) (by k_asm) (by exact rfl) (by exact rfl) (by ktr_room) (by ktr_units) ?_); intro y9 t9 h9 tk9 e9 F9 N9; tb_rel) | (k_here; (with_reducible show wpAny _ _ (call (Value.ref 38) _) _ _ _); k_dflt (refine mkQuicF (by decide) (by k_asm) (by k_asm) (by k_asm) (by ktr_room) (by ktr_units) ?_); intro e9 h9 tk9 mA9 N9 q9; tb_rel) | (k_here; (with_reducible show wpAny _ _ (call (Value.ref 78) _) _ _ _); k_dflt (refine mkRefusedF (by k_asm) (by k_asm) (by k_asm) (by ktr_room) (by ktr_units) ?_); intro e9 h9 tk9 mA9 N9; tb_rel) | (k_here; (with_reducible show wpAny _ _ (call (Value.ref 58) _) _ _ _); k_dflt (refine mkShortF (by k_asm) (by k_asm) (by k_asm) (by ktr_room) (by ktr_units) ?_); intro e9 h9 tk9 mA9 N9; tb_rel) | walk1) | (leave1; try dsimp only) | (with_reducible refine dABin ?_) | (with_reducible refine dAName ?_) | (with_reducible refine dAStore ?_) | (with_reducible refine dACmp ?_) | (with_reducible refine dATru ?_) | (with_reducible refine dASub ?_) | (with_reducible refine dSplNil ?_))
    refine dAny ?_
    (try k_fold)
    rcases hx4 with rfl | rfl | rfl | rfl
    all_goals repeat' (first | (k_unfold; (try dsimp only)) | (k_end; wrow_close) | (k_here; (with_reducible show wpAny _ _ (call (Value.ref 326) _) _ _ _); k_dflt (refine useI (c_reserved _ _) (by k_asm) (by k_asm) (by k_asm) (by k_asm) (by k_asm) (by exact rfl) (by exact rfl) (by exact rfl) (by ktr_room) (by ktr_units) ?_); intro y9 t9 h9 tk9 e9 F9 N9; tb_rel) | (k_here; (with_reducible show wpAny _ _ (call (Value.ref 319) _) _ _ _); k_dflt (refine useI (c_restore _ _ _ _ _ _ (by omega) (by omega) (by omega) (by omega) (by assumption) (by assumption)) (by k_asm) (by k_asm) (by k_asm) (by k_asm) (by k_asm) (by exact rfl) (by exact rfl) (by exact rfl) (by ktr_room) (by ktr_units) ?_); intro y9 t9 h9 tk9 e9 F9 N9; tb_rel) | (k_here; (with_reducible show wpAny _ _ (call (Value.ref 96) _) _ _ _); k_dflt (refine useGet (x_tail _ _ _ _ _ _ _ _ (by kba_ints2) (by omega) (by omega) (by omega) (by omega) (by omega) (by assumption)) (by k_asm) (by exact rfl) (by assumption) (by assumption) (by assumption) (by first | assumption | exact sz_up (by assumption) (by assumption) | exact sz_up (by assumption) (sz_up (by assumption) (by assumption)) | exact sz_up (by assumption) (sz_up (by assumption) (sz_up (by assumption) (by assumption)))) (by k_asm) (by exact rfl) (by exact rfl) (by ktr_room) (by ktr_units) ?_); intro y9 t9 h9 tk9 e9 F9 N9; tb_rel) | (k_here; (with_reducible show wpAny _ _ (call (Value.ref 38) _) _ _ _); k_dflt (refine mkQuicF (by decide) (by k_asm) (by k_asm) (by k_asm) (by ktr_room) (by ktr_units) ?_); intro e9 h9 tk9 mA9 N9 q9; tb_rel) | (k_here; (with_reducible show wpAny _ _ (call (Value.ref 78) _) _ _ _); k_dflt (refine mkRefusedF (by k_asm) (by k_asm) (by k_asm) (by ktr_room) (by ktr_units) ?_); intro e9 h9 tk9 mA9 N9; tb_rel) | (k_here; (with_reducible show wpAny _ _ (call (Value.ref 58) _) _ _ _); k_dflt (refine mkShortF (by k_asm) (by k_asm) (by k_asm) (by ktr_room) (by ktr_units) ?_); intro e9 h9 tk9 mA9 N9; tb_rel) | walk1 | (dsimp only; first | (k_here; (with_reducible show wpAny _ _ (call (Value.ref 326) _) _ _ _); k_dflt (refine useI (c_reserved _ _) (by k_asm) (by k_asm) (by k_asm) (by k_asm) (by k_asm) (by exact rfl) (by exact rfl) (by exact rfl) (by ktr_room) (by ktr_units) ?_); intro y9 t9 h9 tk9 e9 F9 N9; tb_rel) | (k_here; (with_reducible show wpAny _ _ (call (Value.ref 319) _) _ _ _); k_dflt (refine useI (c_restore _ _ _ _ _ _ (by omega) (by omega) (by omega) (by omega) (by assumption) (by assumption)) (by k_asm) (by k_asm) (by k_asm) (by k_asm) (by k_asm) (by exact rfl) (by exact rfl) (by exact rfl) (by ktr_room) (by ktr_units) ?_); intro y9 t9 h9 tk9 e9 F9 N9; tb_rel) | (k_here; (with_reducible show wpAny _ _ (call (Value.ref 96) _) _ _ _); k_dflt (refine useGet (x_tail _ _ _ _ _ _ _ _ (by kba_ints2) (by omega) (by omega) (by omega) (by omega) (by omega) (by assumption)) (by k_asm) (by exact rfl) (by assumption) (by assumption) (by assumption) (by first | assumption | exact sz_up (by assumption) (by assumption) | exact sz_up (by assumption) (sz_up (by assumption) (by assumption)) | exact sz_up (by assumption) (sz_up (by assumption) (sz_up (by assumption) (by assumption)))) (by k_asm) (by exact rfl) (by exact rfl) (by ktr_room) (by ktr_units) ?_); intro y9 t9 h9 tk9 e9 F9 N9; tb_rel) | (k_here; (with_reducible show wpAny _ _ (call (Value.ref 38) _) _ _ _); k_dflt (refine mkQuicF (by decide) (by k_asm) (by k_asm) (by k_asm) (by ktr_room) (by ktr_units) ?_); intro e9 h9 tk9 mA9 N9 q9; tb_rel) | (k_here; (with_reducible show wpAny _ _ (call (Value.ref 78) _) _ _ _); k_dflt (refine mkRefusedF (by k_asm) (by k_asm) (by k_asm) (by ktr_room) (by ktr_units) ?_); intro e9 h9 tk9 mA9 N9; tb_rel) | (k_here; (with_reducible show wpAny _ _ (call (Value.ref 58) _) _ _ _); k_dflt (refine mkShortF (by k_asm) (by k_asm) (by k_asm) (by ktr_room) (by ktr_units) ?_); intro e9 h9 tk9 mA9 N9; tb_rel) | walk1) | (leave1; try dsimp only) | (with_reducible refine dABin ?_) | (with_reducible refine dAName ?_) | (with_reducible refine dAStore ?_) | (with_reducible refine dACmp ?_) | (with_reducible refine dATru ?_) | (with_reducible refine dASub ?_) | (with_reducible refine dSplNil ?_))
    all_goals
      rename News g _ _ _ => N5
      rename Fr g _ _ _ => F5
      first
        | exact hret _ _ _ z6 ⟨_, _, _, _, _, rfl, (N5 _ (.head _)).2.2, e7, .inr ⟨_, _, _, _, (N5 _ (.head _)).1⟩⟩ (Fr.keep (L := L') F5)
        | exact hret _ _ _ z6 ⟨_, _, _, _, _, rfl, (N5 _ (.head _)).2.2, e7, .inl ⟨_, _, _, (N5 _ (.head _)).1⟩⟩ (Fr.keep (L := L') F5)
end
theorem rstC22 {M : Model} {A : Around} {env : Env} {Q : Flow → Shared → Prop} {E : Value → Shared → Prop} {s : Shared} (h : Q .next s) : wpAny M A (execs [] env) Q E s := by
  first | (walk1; fail) | exact wpAny_execs_nil h
section
variable {w : World} {p : Program} {loose : List Str} {mean : ExcName → Option Value} {mg mb : Str → Option Value}
section
variable {prog : Program} {w : World} {A : Around} {E : Value → Shared → Prop} {s : Shared} {env : Env}
theorem dTryExcept {body orelse : List Stmt} {h₀ : ExceptHandler} {hs : List ExceptHandler} {pos : Pos} {Q : Flow → Shared → Prop}
    (h : wpD (model prog w) A (execs body env) (fun f s₁ => match f with | .next => wpD (model prog w) A (execs orelse env) Q E s₁ | f => Q f s₁)
      (fun e s₁ => wpAny (model prog w) A (noteFrame e env) (fun _ s₂ => wpAny (model prog w) A (setFlight e none) (fun _ s₃ => wpAny (model prog w) A (handleBy e env (h₀ :: hs)) Q E s₃) E s₂) E s₁) s) :
    wpD (model prog w) A (exec (.Try body (h₀ :: hs) orelse [] pos) env) Q E s := by
  rw [arm_exec_Try]
  refine dBind (dAny (wpAny_standAt ?_))
  unfold tryStmt
  simp only [List.isEmpty_nil, if_true, List.isEmpty_cons, Bool.false_and, Bool.false_eq_true, if_false]
  refine dBind ?_
  intro Γ p hΓ c1 c2
  rw [Sem.wp_attempt]
  refine Sem.wp_mono _ Γ _ (fun f p' s' h' => ?_) (fun e p' s' h' => ?_) p s (h Γ p hΓ c1 c2)
  · cases f <;> first | exact h' | exact dPure h'
  · exact dBind (dAny (wpAny_mono h' (fun _ _ h₂ => dBind (dAny (wpAny_mono h₂ (fun _ _ h₃ => dAny h₃) fun _ _ x => x))) fun _ _ x => x))
end
section
variable {prog : Program} {w : World} {A : Around} {E : Value → Shared → Prop} {h : Heap} {g : Array GenState} {d : Drawn} {t : Nat} {os : OsState}
variable {nm q : Str} {C N x dx : Addr} {bs : List Value} {sn : List Str} {sub : List Value} {ab : Bool} {col : Option Bool} {dd : Option Addr} {k0 k1 k2 k3 k5 : Option Value} {newId : String}
  {mN mA : Str → Option Value} {name : Str} {v : Value} {o : Obj} {vs : Array Value}
open Builtin Builtin.ObjectAttr in
theorem xload_entry {tk : Tok} {Q : PySem.Fin → Shared → Prop}
    (hC : h.get? C = some (excClassObj nm q C N bs excBm true sn sub ab col dd k0 k1 k2 k3 k5 newId)) (hn : h.Ns N mN) (hna : mN name = none)
    (hB : typeLookup (.type "Exception") name = pure none) (hx : h.get? x = some o) (hc : o.cls = .ref C) (hd : o.data = .fields vs) (hdx : o.dict = some dx) (hns : h.Ns dx mA) (hv : mA name = some v) (hq : Q (.done (.ret v)) ⟨h, g, d, t, os⟩) :
    wpAny (model prog w) A (Builtin.«object.__getattribute__» ⟨[.ref x, .str name tk], []⟩) Q E ⟨h, g, d, t, os⟩ := by
  unfold Builtin.«object.__getattribute__»
  repeat (first | (with_reducible refine wpAny_loadPart_at hx ?_; rw [hc]) | (with_reducible refine wpAny_typeLookup_exc hC hn PySem.F.store_Exception.mro hB ?_; rw [hna]) | wp_step)
  split
  · rename_i c hcd
    rw [hd] at hcd; cases hcd
  unfold instanceDict
  repeat (first | (with_reducible refine wpAny_loadPart_at hx ?_; rw [hc]) | with_reducible refine wpAny_loadPart_at hC ?_ | wp_step)
  rw [hdx]
  repeat (first | (with_reducible refine wpAny_nsGet hns ?_; rw [hv]) | wp_step)
  exact hq
theorem lk_exc_ga : typeLookup (.type "Exception") "__getattribute__" = pure (some (.builtin "BaseException.__getattribute__")) := by rw [typeLookup_type, builtinLookup_eq_fast]; kernel_rfl
theorem lk_exc_gattr : typeLookup (.type "Exception") "__getattr__" = pure none := by rw [typeLookup_type, builtinLookup_eq_fast]; kernel_rfl
theorem slot_exc_ga : Slot "Exception" "__getattribute__" "BaseException.__getattribute__" :=
  .of (owner := "BaseException") (n := "__getattribute__") (by rw [typeLookup_type, builtinLookup_eq_fast]; kernel_rfl) (by decide +kernel) (by decide +kernel) (by decide +kernel)
    (by first | exact .inl (by decide +kernel) | exact .inr (by decide +kernel)) (by rw [isSubtype_type]; kernel_rfl)
theorem kind_exc_ga : builtinKind "BaseException.__getattribute__" = some .slot := by decide +kernel
theorem split_exc_ga : splitId "BaseException.__getattribute__" = some ("BaseException", "__getattribute__") := by decide +kernel
theorem check_ga {M : Model} {nameV : Value} {Q : Unit → Shared → Prop}
    (hC : h.get? C = some (excClassObj nm q C N bs excBm true sn sub ab col dd k0 k1 k2 k3 k5 newId)) (hx : h.get? x = some o) (hc : o.cls = .ref C) (hq : Q () ⟨h, g, d, t, os⟩) :
    wpAny M A (checkBuiltinCall "BaseException.__getattribute__" ⟨[.ref x, nameV], []⟩) Q E ⟨h, g, d, t, os⟩ := by
  have hcB : (Value.ref C :: excBm).contains (.type "BaseException") = true := by rw [List.contains_cons, show excBm.contains (.type "BaseException") = true from by decide, Bool.or_true]
  simp only [checkBuiltinCall, kind_exc_ga, split_exc_ga]
  refine wpAny_bind ?_
  · unfold isInstance
    repeat (first | (with_reducible refine wpAny_loadPart_at hx ?_; rw [hc]) | (with_reducible refine wpAny_isSubtype_exc hC ?_; rw [hcB]) | wp_step)
    exact hq
theorem xload_attr {expr : Bool} {Q : Value → Shared → Prop}
    (hC : h.get? C = some (excClassObj nm q C N bs excBm true sn sub ab col dd k0 k1 k2 k3 k5 newId)) (hn : h.Ns N mN) (hng : mN "__getattribute__" = none) (hngh : mN "__getattr__" = none) (hna : mN name = none)
    (hB : typeLookup (.type "Exception") name = pure none) (hx : h.get? x = some o) (hc : o.cls = .ref C) (hd : o.data = .fields vs) (hdx : o.dict = some dx) (hns : h.Ns dx mA) (hv : mA name = some v) (hh : handedOut v = pure v) (hq : Q v ⟨h, g, d, t + 1, os⟩) :
    wpAny (model prog w) A (getAttr (.ref x) name expr) Q E ⟨h, g, d, t, os⟩ := by
  have f4 := slot_exc_ga.bind (.ref x)
  unfold getAttr getAttrBy
  repeat (first | (with_reducible refine wpAny_loadPart_at hx ?_; rw [hc]) | (with_reducible refine wpAny_typeLookup_exc hC hn PySem.F.store_Exception.mro lk_exc_ga ?_; rw [hng]) | (with_reducible refine wpAny_typeLookup_exc hC hn PySem.F.store_Exception.mro lk_exc_gattr ?_; rw [hngh]) | wp_step)
  rw [show (expr && onTheHeap (Value.builtin "BaseException.__getattribute__")) = false from Bool.and_false _, if_neg (by decide)]
  unfold boundAndCalled
  rw [f4]
  refine wpAny_bind (wpAny_pure ?_)
  show wpAny _ _ (call (.builtin "BaseException.__getattribute__") [.ref x, .str name t]) _ _ _
  refine wpAny_call (codeAny_call_builtin slot_exc_ga.plain F.entry_bexc_ga (check_ga hC hx hc (xload_entry hC hn hna hB hx hc hd hdx hns hv ?_)))
  show wpAny _ _ (handedOut v) _ _ _
  rw [hh]
  exact wpAny_pure hq
end
end
section
variable {w : World} {p : Program} {loose : List Str} {mean : ExcName → Option Value} {mg mb : Str → Option Value}
noncomputable def DRCon (w : World) (p : Program) (loose : List Str) (mean : ExcName → Option Value) (mg mb : Str → Option Value) (f : Addr) (vs : List Value) (d u : Nat) (P : Heap → Heap → Value → Prop) : Prop :=
  ∀ (A : Around) (base : Heap) (l : List Env) (s : Shared), A.handled = none → A.guards = some [] → Below A base l s.heap → (hd.heap_39 w.params).In base → Top p loose mean mg mb base → base.objs.size ≤ s.heap.objs.size →
    A.depth + d < recursionLimit → A.units + u < cLine →
    codeD (model PySem.Challenge.rw_no0081_01.row.prog w) A (.call (.ref f) ⟨vs, []⟩) (fun r s' => ∃ v h' tk', r = .ok (.ret v) ∧ s' = { s with heap := h', toks := tk' } ∧ P s.heap h' v ∧ base.StaysIn h' ∧ s.heap.UpToSlots h') s
section
variable {f : Addr} {vs : List Value} {d u : Nat} {P : Heap → Heap → Value → Prop}
theorem drcon_of (h : ∀ (dp un : Nat) (base : Heap) (l : List Env) (s : Shared) (R : Result → Shared → Prop),
    Below ⟨none, dp, some l, some [], un⟩ base l s.heap → (hd.heap_39 w.params).In base → Top p loose mean mg mb base → (hd.heap_39 w.params).In s.heap → Top p loose mean mg mb s.heap → base.objs.size ≤ s.heap.objs.size → dp + d < recursionLimit → un + u < cLine →
    (∀ v h' tk', P s.heap h' v → base.StaysIn h' → s.heap.UpToSlots h' → R (.ok (.ret v)) { s with heap := h', toks := tk' }) →
    codeD (model PySem.Challenge.rw_no0081_01.row.prog w) ⟨none, dp, some l, some [], un⟩ (.call (.ref f) ⟨vs, []⟩) R s) : DRCon w p loose mean mg mb f vs d u P := by
  intro A base l s hh hg B X T hsz hd hu
  obtain ⟨ha, dp, fr, gd, un⟩ := A
  have e := B.stack
  simp only at hh e hg
  subst hh; subst e; subst hg
  exact h dp un base l s _ B X T (X.keeps B.stays) (T.keeps B.stays) hsz hd hu (fun v h' tk' hp st up => ⟨v, h', tk', rfl, rfl, hp, st, up⟩)
end
section
variable {A A₀ : Around} {base h₀ : Heap} {outer : List Env} {L a : Addr} {m : Str → Option Value} {cn : Str} {cs : Scope} {ccd : Value} {news : List (Addr × Obj)} {s : Shared} {Q E : Value → Shared → Prop}
theorem dUseOpen (b key : Array UInt8) (tb tk tl : Tok) (kk ks : List Int) (t ls : Int) (bs : List Int) (hb : KBw.bInts b = ks) (hkk : KBw.bInts key = kk) (lk : ks.length ≤ 180) (na en : Int) (hna : 1 ≤ na) (hen : en = ks.length) (hle : na + 20 ≤ (ks.length : Int))
    (hl0 : 0 ≤ ls) (hl1 : ls < 100) (ht0 : 0 ≤ t) (ht1 : t < 100) (ht : be2n ((bareL kk ks na.toNat).drop (na.toNat)) = t) (hbs : ks.drop (na + ((bareF kk ks na.toNat).fmod 4 + 1)).toNat = bs ++ tagL kk t (bareL kk ks na.toNat) bs)
    (x : Str) (hx4 : x = Str.ofString "initial" ∨ x = Str.ofString "zero" ∨ x = Str.ofString "handshake" ∨ x = Str.ofString "short")
    {fi : Int} {D S T₀ G : Array UInt8} {lv r d : Addr} {k0 k1 k2 k3 k4 k5 k6 k7 k8 k9 k10 u0 u1 u2 u3 u4 u5 u6 u8 u9 u10 : Tok}
    (F : Fr h₀ L s.heap m) (N : News h₀ L s.heap news) (hr : (r, instObj 177 d) ∈ news) (hdd : (d, dictOf [{ hash := PyData.keyHash w.params (Str.ofString "kind"), key := .str (Str.ofString "kind") k0, val := .str x u0 }, { hash := PyData.keyHash w.params (Str.ofString "first"), key := .str (Str.ofString "first") k1, val := .int fi u1 }, { hash := PyData.keyHash w.params (Str.ofString "version"), key := .str (Str.ofString "version") k2, val := .int 1 u2 }, { hash := PyData.keyHash w.params (Str.ofString "dcid"), key := .str (Str.ofString "dcid") k3, val := .bytes D u3 }, { hash := PyData.keyHash w.params (Str.ofString "scid"), key := .str (Str.ofString "scid") k4, val := .bytes S u4 }, { hash := PyData.keyHash w.params (Str.ofString "token"), key := .str (Str.ofString "token") k5, val := .bytes T₀ u5 }, { hash := PyData.keyHash w.params (Str.ofString "tag"), key := .str (Str.ofString "tag") k6, val := .bytes G u6 }, { hash := PyData.keyHash w.params (Str.ofString "versions"), key := .str (Str.ofString "versions") k7, val := .ref lv }, { hash := PyData.keyHash w.params (Str.ofString "start"), key := .str (Str.ofString "start") k8, val := .int 0 u8 }, { hash := PyData.keyHash w.params (Str.ofString "number_at"), key := .str (Str.ofString "number_at") k9, val := .int na u9 }, { hash := PyData.keyHash w.params (Str.ofString "end"), key := .str (Str.ofString "end") k10, val := .int en u10 }] 11) ∈ news) (hrd : (@Ne Nat r d)) (hA : A.frames = some (envOf cn cs L a ccd :: outer)) (B : Below A₀ base outer h₀) (X : (hd.heap_39 w.params).In base) (T : Top p loose mean mg mb base) (hsz : base.objs.size ≤ h₀.objs.size)
    (hh : A.handled = none) (hg : A.guards = some []) (hK : cs.kind = .function) (hdp : A.depth + 60 < recursionLimit) (hun : A.units + 400 < cLine)
    (k : ∀ v h' tk', resv (bareF kk ks na.toNat) = 0 → OpenedOut x t (turned kk t bs) h₀ h' v → Fr h₀ L h' m → Q v { s with heap := h', toks := tk' })
    (kx : ∀ e h' tk' D mA tc, Fly base (envOf cn cs L a ccd :: outer) e 38 (some D) .none .none h' → h₀.UpToSlots h' → Fr h₀ L s.heap m → s.heap.Ns L m → h'.Ns L m → h'.Ns D mA → mA (Str.ofString "code") = some (.int 10 tc) → (@Ne Nat D L) → resv (bareF kk ks na.toNat) ≠ 0 → E (.ref e) { s with heap := h', toks := tk' }) :
    wpD (model PySem.Challenge.rw_no0081_01.row.prog w) A (call (.ref 333) [.bytes b tb, .ref r, .bytes key tk, .int ls tl]) Q E s := by
  obtain ⟨g, Fg, Bg, st, gs, sz, ho, -⟩ := ground (own := [(r, instObj 177 d), (d, dictOf [{ hash := PyData.keyHash w.params (Str.ofString "kind"), key := .str (Str.ofString "kind") k0, val := .str x u0 }, { hash := PyData.keyHash w.params (Str.ofString "first"), key := .str (Str.ofString "first") k1, val := .int fi u1 }, { hash := PyData.keyHash w.params (Str.ofString "version"), key := .str (Str.ofString "version") k2, val := .int 1 u2 }, { hash := PyData.keyHash w.params (Str.ofString "dcid"), key := .str (Str.ofString "dcid") k3, val := .bytes D u3 }, { hash := PyData.keyHash w.params (Str.ofString "scid"), key := .str (Str.ofString "scid") k4, val := .bytes S u4 }, { hash := PyData.keyHash w.params (Str.ofString "token"), key := .str (Str.ofString "token") k5, val := .bytes T₀ u5 }, { hash := PyData.keyHash w.params (Str.ofString "tag"), key := .str (Str.ofString "tag") k6, val := .bytes G u6 }, { hash := PyData.keyHash w.params (Str.ofString "versions"), key := .str (Str.ofString "versions") k7, val := .ref lv }, { hash := PyData.keyHash w.params (Str.ofString "start"), key := .str (Str.ofString "start") k8, val := .int 0 u8 }, { hash := PyData.keyHash w.params (Str.ofString "number_at"), key := .str (Str.ofString "number_at") k9, val := .int na u9 }, { hash := PyData.keyHash w.params (Str.ofString "end"), key := .str (Str.ofString "end") k10, val := .int en u10 }] 11)]) B F N (fun q hq => by
    rcases List.mem_cons.mp hq with rfl | hq
    · exact hr
    · rw [List.mem_singleton.mp hq]; exact hdd) hA hK
  have h1 := ho _ (.head _)
  have h2 := ho _ (.tail _ (.head _))
  obtain ⟨ha, dp, fr, gd, un⟩ := A
  simp only at hA hh hg hdp hun
  subst hA; subst hh; subst hg
  have szb : base.objs.size ≤ g.objs.size := Nat.le_trans hsz (Nat.le_trans Fg.above (Nat.le_of_lt Fg.ns.lt))
  refine dCall (d_openp b key tb tk tl kk ks t ls bs hb hkk lk na en hna hen hle hl0 hl1 ht0 ht1 ht hbs x hx4 fi D S T₀ G lv k0 k1 k2 k3 k4 k5 k6 k7 k8 k9 k10 u0 u1 u2 u3 u4 u5 u6 u8 u9 u10 dp un base _ g s r d _ Bg X T (X.keeps Bg.stays) (T.keeps Bg.stays) szb hdp hun gs (Nat.le_of_eq sz) h1.1 h1.2 h2.1 h2.2 hrd ?_ ?_)
  · rintro v h' tk' hres ⟨T, P, a, q, u, hv, hT, hP, hor⟩ st'
    exact k v h' tk' hres ⟨T, P, a, q, u, hv, fresh_of_stays st hT, hP, hor⟩ (Fr.stays Fg st')
  · intro e h' tk' D mA tc fl up hn hcode hD hres
    obtain ⟨oL, es, ep, hL, hLd, hLk, hLf⟩ := Fg.ns
    refine kx e h' tk' D mA tc fl ((Heap.UpToSlots.of_keeps st).trans up) F F.ns (up.ns Fg.ns) hn hcode (fun q => ?_) hres
    rw [q, hL] at hD; cases hD
end
noncomputable def cutAt (h : Heap) (L : Addr) : Heap := ⟨h.objs.extract 0 L, h.life⟩
theorem cut_size {h : Heap} {L : Addr} : (cutAt h L).objs.size ≤ L := by
  unfold cutAt
  show (h.objs.extract 0 L).size ≤ L
  rw [Array.size_extract]
  exact Nat.le_trans (Nat.sub_le _ _) (Nat.min_le_left _ _)
theorem cut_get {h : Heap} {L b : Addr} (hb : @LT.lt Nat _ b L) : (cutAt h L).get? b = h.get? b := by
  unfold cutAt Heap.get?
  have e : (h.objs.extract 0 L)[b]? = h.objs[b]? := by
    rw [Array.getElem?_extract]
    split
    · rw [Nat.zero_add]
    · rename_i q
      symm
      rw [Array.getElem?_eq_none_iff]
      have : @LT.lt Nat _ b L := hb
      omega
  simp only [e]
theorem of_cut {h : Heap} {L b : Addr} {o : Obj} (e : (cutAt h L).get? b = some o) : h.get? b = some o ∧ b ≠ L := by
  have hb : @LT.lt Nat _ b L := Nat.lt_of_lt_of_le (Heap.lt_size e) cut_size
  exact ⟨(cut_get hb).symm.trans e, Nat.ne_of_lt hb⟩
section
variable {prog : Program} {w : World} {p : Program} {loose : List Str} {mean : ExcName → Option Value} {mg mb : Str → Option Value} {A₀ : Around} {base h₀ : Heap} {outer : List Env} {L a e C D : Addr} {m mA : Str → Option Value} {name x n : Str} {scope : Scope} {cd : Value} {K : Frag}
  {b₀ : Stmt} {suite : List Stmt} {np pos : Pos} {rest : List ExceptHandler} {Q : Flow → Shared → Prop} {E : Value → Shared → Prop} {s' : Shared}
theorem x_caughtN (B : Below A₀ base outer h₀) (hm : s'.heap.Ns L m) (fl : Fly base (envOf name scope L a cd :: outer) e C (some D) .none .none s'.heap) (up : h₀.UpToSlots s'.heap) (hL : h₀.objs.size ≤ L) (hsz : base.objs.size ≤ h₀.objs.size) (X : K.In base) (T : Top p loose mean mg mb base)
    (hC : ClsAt base C) (ex : nsIn K mainGlobals x = some (some (.ref C))) (hD : s'.heap.Ns D mA) (hDL : (@Ne Nat D L))
    (k : ∀ g h' tk o vs, base.StaysIn g → h₀.UpToSlots g → Fr g L h' (fun y => if y = n then some (.ref e) else m y) → News g L h' [] → h'.get? e = some o → o.cls = .ref C → o.data = .fields vs → o.dict = some D → h'.Ns D mA → base.StaysIn h' →
      wpAny (model prog w) ((A₀.deeper (envOf name scope L a cd)).mark (some (.ref e))) (execs (b₀ :: suite) (envOf name scope L a cd))
        (fun f s₄ => wpAny (model prog w) (A₀.deeper (envOf name scope L a cd)) (do bindName (envOf name scope L a cd) n .none; unbindBehindTheSuite (envOf name scope L a cd) n pos) (fun _ s₅ => Q f s₅) E s₄)
        (AsSuiteRaised (model prog w) ((A₀.deeper (envOf name scope L a cd)).mark (some (.ref e))) (envOf name scope L a cd) n pos (notedBy (model prog w) ((A₀.deeper (envOf name scope L a cd)).mark (some (.ref e))) (envOf name scope L a cd) (cameBackBy (model prog w) (A₀.deeper (envOf name scope L a cd)) (envOf name scope L a cd) E)))
        { s' with heap := h', toks := tk })
    (hk : scope.kind = .function) (hlo : (envOf name scope L a cd).kindOf n = some .local) (hx : (envOf name scope L a cd).kindOf x = some .globalImplicit) (hd : (x == ("__debug__" : Str)) = false) :
    wpAny (model prog w) (A₀.deeper (envOf name scope L a cd)) (noteFrame (.ref e) (envOf name scope L a cd))
      (fun _ s₂ => wpAny (model prog w) (A₀.deeper (envOf name scope L a cd)) (setFlight (.ref e) none) (fun _ s₃ =>
        wpAny (model prog w) (A₀.deeper (envOf name scope L a cd)) (handleBy (.ref e) (envOf name scope L a cd) (.ExceptHandler (some (.Name x np)) (some n) (b₀ :: suite) pos :: rest)) Q E s₃) E s₂) E s' := by
  refine x_note_next (Around.frames_deeper B.stack) rfl fl fun h₄ fl₄ up₄ => ?_
  refine x_flight fl₄ fun h₅ fl₅ up₅ => ?_
  refine wpAny_handleBy_cons (codeAny_handlers_test (name_X fl₅.1 X T ex ?_ hk hx hd)) (by intro q; cases q)
  obtain ⟨nm, q, N, bs, hdct, sn, sub, ab, col, dd, k0, k1, k2, k3, k5, newId, hC'⟩ := hC.keeps fl₅.1
  obtain ⟨oe, vs, he, ho, _⟩ := fl₅.there
  refine wpAny_excMatches_sub_self hC' he ho.1 (by decide) (codeAny_handlers_suite_as ?_)
  refine x_flight fl₅ fun h₆ fl₆ up₆ => ?_
  have u6 := up₄.trans (up₅.trans up₆)
  have ns6 : h₆.Ns L m := u6.ns hm
  have nd6 : h₆.Ns D mA := u6.ns hD
  obtain ⟨oe, vs, he, ho, _⟩ := fl₆.there
  have heL : (@Ne Nat e L) := fun q => by
    obtain ⟨oL, es, ep, hL', hLd, _⟩ := ns6
    rw [q, hL'] at he; cases he
    have z := ho.2.2.1
    rw [hLd] at z; cases z
  refine wpAny_storeName_local hlo ns6 (fun h₇ hn₇ hs₇ => ?_) (by rw [show (envOf name scope L a cd).scope = scope from rfl, hk]; rfl)
  refine k (cutAt h₆ L) h₇ _ oe vs (fun b o q => (cut_get (Nat.lt_of_lt_of_le (Heap.lt_size q) (Nat.le_trans hsz hL))).trans (fl₆.1 b o q)) (fun b o q hf => ?_) ⟨hn₇, fun b o q => ?_, cut_size⟩ News.nil ((hs₇.2 e heL).trans he) ho.1 ho.2.2.1 ho.2.1 (nd6.at' fun o q => (hs₇.2 D hDL).trans q) (fun b o q => (hs₇.2 b (Nat.ne_of_lt (Nat.lt_of_lt_of_le (Heap.lt_size q) (Nat.le_trans hsz hL)))).trans (fl₆.1 b o q))
  · obtain ⟨sl, z⟩ := (up.trans u6) b o q hf
    exact ⟨sl, (cut_get (Nat.lt_of_lt_of_le (Heap.lt_size q) hL)).trans z⟩
  · obtain ⟨z, hb⟩ := of_cut q
    exact (hs₇.2 b hb).trans z
end
end
section
variable {w : World} {p : Program} {loose : List Str} {mean : ExcName → Option Value} {mg mb : Str → Option Value}
theorem load_code {prog : Program} {A : Around} {E : Value → Shared → Prop} {s : Shared} {base : Heap} {e D : Addr} {o : Obj} {vs : Array Value} {mA : Str → Option Value} {tc : Tok} {Q : Value → Shared → Prop} (XB : (hd.heap_39 w.params).In base) (sb : base.StaysIn s.heap)
    (he : s.heap.get? e = some o) (hc : o.cls = .ref 38) (hd : o.data = .fields vs) (hD : o.dict = some D) (nD : s.heap.Ns D mA) (hcode : mA (Str.ofString "code") = some (.int 10 tc)) (h : Q (.int 10 tc) { s with toks := s.toks + 1 }) :
    wpAny (model prog w) A (getAttr (.ref e) (Str.ofString "code") true) Q E s := by
  have X := XB.keeps sb
  have hC : s.heap.get? 38 = some (excClassObj _ _ 38 37 _ excBm true _ _ _ _ _ _ _ _ _ _ _) := X 38 _ rfl
  have hN : s.heap.Ns 37 (s.heap.nsMap 37) := .of_isNs (isNs_of_in X (ok37 w))
  obtain ⟨hh, gg, dd, tt, oo⟩ := s
  exact xload_attr hC hN (nsMap_none_of_in X (ok37 w) (by k_is)) (nsMap_none_of_in X (ok37 w) (by k_is)) (nsMap_none_of_in X (ok37 w) (by k_is)) lk_code he hc hd hD nD hcode rfl h
theorem hx4_of {ks : List Int} {c : Int} (hpre : RawPre ks c) : kindOf ks = Str.ofString "initial" ∨ kindOf ks = Str.ofString "zero" ∨ kindOf ks = Str.ofString "handshake" ∨ kindOf ks = Str.ofString "short" := by
  by_cases h : ks.getD 0 0 ≥ 128
  · rcases kind_of h (hpre.hj h) with z | z | z
    · exact .inl z.2
    · exact .inr (.inl z.2)
    · exact .inr (.inr (.inl z.2))
  · exact .inr (.inr (.inr (by unfold kindOf; rw [if_neg h])))
set_option maxHeartbeats 4000000 in
theorem d_opened (b key : Array UInt8) (tb tk tc tl : Tok) (c : Int) (kk ks : List Int) (hb : KBw.bInts b = ks) (hkk : KBw.bInts key = kk) (hpre : RawPre ks c) (hok : RawOk ks c) (lk : ks.length ≤ 180) (hna : 1 ≤ naOf ks c) (hen : enOf ks c = ks.length) (hle : naOf ks c + 20 ≤ (ks.length : Int))
    (ls t : Int) (bs : List Int) (hl0 : 0 ≤ ls) (hl1 : ls < 100) (ht0 : 0 ≤ t) (ht1 : t < 100) (ht : be2n ((bareL kk ks (naOf ks c).toNat).drop (naOf ks c).toNat) = t) (hbs : ks.drop (naOf ks c + ((bareF kk ks (naOf ks c).toNat).fmod 4 + 1)).toNat = bs ++ tagL kk t (bareL kk ks (naOf ks c).toNat) bs) :
   DRCon w p loose mean mg mb 371 [.bytes b tb, .int c tc, .bytes key tk, .int ls tl] 150 1000 (fun h h' v => (resv (bareF kk ks (naOf ks c).toNat) = 0 ∧ OpenedOut (kindOf ks) t (turned kk t bs) h h' v) ∨ (resv (bareF kk ks (naOf ks c).toNat) ≠ 0 ∧ ∃ t', v = .int 10 t')) := by
  have hx4 := hx4_of hpre
  refine drcon_of fun dp un base l s R B XB TB X T hsz hd hu hret => ?_
  refine dEnter (binds := [(Str.ofString "data", .bytes b tb), (Str.ofString "cid_size", .int c tc), (Str.ofString "key", .bytes key tk), (Str.ofString "seen", .int ls tl)]) X T (by k_is) (by k_is) (by ktr_room) (BindsTo.of_eq rfl) (locs rfl) (fun L' h₁' F' N' => ?_) rfl rfl rfl (by decide)
  (dsimp only [List.reverse, List.reverseAux, bmap] at F')
  (try dsimp only)
  (have hC58 := cls58 XB)
  (have hC78 := cls78 XB)
  (have hC38 := cls38 XB)
  refine dExecs (dTryExcept (dExecs (dReturn (dCallName ?_))))
  (try k_fold)
  repeat' (first | (k_unfold; (try dsimp only)) | (k_end; wrow_close) | (k_here; (with_reducible show wpAny _ _ (getAttr (Value.ref _) _ _) _ _ _); k_dflt (refine load_code (by assumption) (by assumption) (by assumption) (by assumption) (by assumption) (by assumption) (by assumption) (by assumption) ?_)) | (k_here; (with_reducible show wpAny _ _ (noteFrame _ _) _ _ _); k_dflt contradiction) | (k_here; (with_reducible show wpAny _ _ (call (Value.ref 237) _) _ _ _); k_dflt (refine useRaw (x_raw _ _ _ _ _ _ (by kba_ints2) (by assumption)) (by k_asm) (by exact rfl) (by assumption) (by assumption) (by assumption) (by first | assumption | exact sz_up (by assumption) (by assumption) | exact sz_up (by assumption) (sz_up (by assumption) (by assumption)) | exact sz_up (by assumption) (sz_up (by assumption) (sz_up (by assumption) (by assumption)))) (by k_asm) (by exact rfl) (by exact rfl) (by ktr_room) (by ktr_units) ?_ ?_); rotate_left; intro e9 h9 tk9 D9 c9 fl9 up9 uq9 no9; rotate_left; intro r9 d9 D9 S9 T9 G9 l9 k90 k91 k92 k93 k94 k95 k96 k97 k98 k99 k910 u90 u91 u92 u93 u94 u95 u96 u98 u99 u910 h9 tk9 ok9 a9 b9 c9 ne9 F9 N9; tb_rel) | (k_here; (with_reducible show wpAny _ _ (call (Value.ref 38) _) _ _ _); k_dflt (refine mkQuicF (by decide) (by k_asm) (by k_asm) (by k_asm) (by ktr_room) (by ktr_units) ?_); intro e9 h9 tk9 mA9 N9 q9; tb_rel) | (k_here; (with_reducible show wpAny _ _ (call (Value.ref 78) _) _ _ _); k_dflt (refine mkRefusedF (by k_asm) (by k_asm) (by k_asm) (by ktr_room) (by ktr_units) ?_); intro e9 h9 tk9 mA9 N9; tb_rel) | (k_here; (with_reducible show wpAny _ _ (call (Value.ref 58) _) _ _ _); k_dflt (refine mkShortF (by k_asm) (by k_asm) (by k_asm) (by ktr_room) (by ktr_units) ?_); intro e9 h9 tk9 mA9 N9; tb_rel) | walk1 | (dsimp only; first | (k_here; (with_reducible show wpAny _ _ (getAttr (Value.ref _) _ _) _ _ _); k_dflt (refine load_code (by assumption) (by assumption) (by assumption) (by assumption) (by assumption) (by assumption) (by assumption) (by assumption) ?_)) | (k_here; (with_reducible show wpAny _ _ (noteFrame _ _) _ _ _); k_dflt contradiction) | (k_here; (with_reducible show wpAny _ _ (call (Value.ref 237) _) _ _ _); k_dflt (refine useRaw (x_raw _ _ _ _ _ _ (by kba_ints2) (by assumption)) (by k_asm) (by exact rfl) (by assumption) (by assumption) (by assumption) (by first | assumption | exact sz_up (by assumption) (by assumption) | exact sz_up (by assumption) (sz_up (by assumption) (by assumption)) | exact sz_up (by assumption) (sz_up (by assumption) (sz_up (by assumption) (by assumption)))) (by k_asm) (by exact rfl) (by exact rfl) (by ktr_room) (by ktr_units) ?_ ?_); rotate_left; intro e9 h9 tk9 D9 c9 fl9 up9 uq9 no9; rotate_left; intro r9 d9 D9 S9 T9 G9 l9 k90 k91 k92 k93 k94 k95 k96 k97 k98 k99 k910 u90 u91 u92 u93 u94 u95 u96 u98 u99 u910 h9 tk9 ok9 a9 b9 c9 ne9 F9 N9; tb_rel) | (k_here; (with_reducible show wpAny _ _ (call (Value.ref 38) _) _ _ _); k_dflt (refine mkQuicF (by decide) (by k_asm) (by k_asm) (by k_asm) (by ktr_room) (by ktr_units) ?_); intro e9 h9 tk9 mA9 N9 q9; tb_rel) | (k_here; (with_reducible show wpAny _ _ (call (Value.ref 78) _) _ _ _); k_dflt (refine mkRefusedF (by k_asm) (by k_asm) (by k_asm) (by ktr_room) (by ktr_units) ?_); intro e9 h9 tk9 mA9 N9; tb_rel) | (k_here; (with_reducible show wpAny _ _ (call (Value.ref 58) _) _ _ _); k_dflt (refine mkShortF (by k_asm) (by k_asm) (by k_asm) (by ktr_room) (by ktr_units) ?_); intro e9 h9 tk9 mA9 N9; tb_rel) | walk1) | (leave1; try dsimp only) | (with_reducible refine dABin ?_) | (with_reducible refine dAName ?_) | (with_reducible refine dAStore ?_) | (with_reducible refine dACmp ?_) | (with_reducible refine dATru ?_) | (with_reducible refine dASub ?_) | (with_reducible refine dSplNil ?_))
  refine dCallWith (K := Mine.hd.heap_39 w.params) (by kernel_rfl) (dAny ?_)
  (try k_fold)
  repeat' (first | (k_unfold; (try dsimp only)) | (k_end; wrow_close) | (k_here; (with_reducible show wpAny _ _ (getAttr (Value.ref _) _ _) _ _ _); k_dflt (refine load_code (by assumption) (by assumption) (by assumption) (by assumption) (by assumption) (by assumption) (by assumption) (by assumption) ?_)) | (k_here; (with_reducible show wpAny _ _ (noteFrame _ _) _ _ _); k_dflt contradiction) | (k_here; (with_reducible show wpAny _ _ (call (Value.ref 237) _) _ _ _); k_dflt (refine useRaw (x_raw _ _ _ _ _ _ (by kba_ints2) (by assumption)) (by k_asm) (by exact rfl) (by assumption) (by assumption) (by assumption) (by first | assumption | exact sz_up (by assumption) (by assumption) | exact sz_up (by assumption) (sz_up (by assumption) (by assumption)) | exact sz_up (by assumption) (sz_up (by assumption) (sz_up (by assumption) (by assumption)))) (by k_asm) (by exact rfl) (by exact rfl) (by ktr_room) (by ktr_units) ?_ ?_); rotate_left; intro e9 h9 tk9 D9 c9 fl9 up9 uq9 no9; rotate_left; intro r9 d9 D9 S9 T9 G9 l9 k90 k91 k92 k93 k94 k95 k96 k97 k98 k99 k910 u90 u91 u92 u93 u94 u95 u96 u98 u99 u910 h9 tk9 ok9 a9 b9 c9 ne9 F9 N9; tb_rel) | (k_here; (with_reducible show wpAny _ _ (call (Value.ref 38) _) _ _ _); k_dflt (refine mkQuicF (by decide) (by k_asm) (by k_asm) (by k_asm) (by ktr_room) (by ktr_units) ?_); intro e9 h9 tk9 mA9 N9 q9; tb_rel) | (k_here; (with_reducible show wpAny _ _ (call (Value.ref 78) _) _ _ _); k_dflt (refine mkRefusedF (by k_asm) (by k_asm) (by k_asm) (by ktr_room) (by ktr_units) ?_); intro e9 h9 tk9 mA9 N9; tb_rel) | (k_here; (with_reducible show wpAny _ _ (call (Value.ref 58) _) _ _ _); k_dflt (refine mkShortF (by k_asm) (by k_asm) (by k_asm) (by ktr_room) (by ktr_units) ?_); intro e9 h9 tk9 mA9 N9; tb_rel) | walk1 | (dsimp only; first | (k_here; (with_reducible show wpAny _ _ (getAttr (Value.ref _) _ _) _ _ _); k_dflt (refine load_code (by assumption) (by assumption) (by assumption) (by assumption) (by assumption) (by assumption) (by assumption) (by assumption) ?_)) | (k_here; (with_reducible show wpAny _ _ (noteFrame _ _) _ _ _); k_dflt contradiction) | (k_here; (with_reducible show wpAny _ _ (call (Value.ref 237) _) _ _ _); k_dflt (refine useRaw (x_raw _ _ _ _ _ _ (by kba_ints2) (by assumption)) (by k_asm) (by exact rfl) (by assumption) (by assumption) (by assumption) (by first | assumption | exact sz_up (by assumption) (by assumption) | exact sz_up (by assumption) (sz_up (by assumption) (by assumption)) | exact sz_up (by assumption) (sz_up (by assumption) (sz_up (by assumption) (by assumption)))) (by k_asm) (by exact rfl) (by exact rfl) (by ktr_room) (by ktr_units) ?_ ?_); rotate_left; intro e9 h9 tk9 D9 c9 fl9 up9 uq9 no9; rotate_left; intro r9 d9 D9 S9 T9 G9 l9 k90 k91 k92 k93 k94 k95 k96 k97 k98 k99 k910 u90 u91 u92 u93 u94 u95 u96 u98 u99 u910 h9 tk9 ok9 a9 b9 c9 ne9 F9 N9; tb_rel) | (k_here; (with_reducible show wpAny _ _ (call (Value.ref 38) _) _ _ _); k_dflt (refine mkQuicF (by decide) (by k_asm) (by k_asm) (by k_asm) (by ktr_room) (by ktr_units) ?_); intro e9 h9 tk9 mA9 N9 q9; tb_rel) | (k_here; (with_reducible show wpAny _ _ (call (Value.ref 78) _) _ _ _); k_dflt (refine mkRefusedF (by k_asm) (by k_asm) (by k_asm) (by ktr_room) (by ktr_units) ?_); intro e9 h9 tk9 mA9 N9; tb_rel) | (k_here; (with_reducible show wpAny _ _ (call (Value.ref 58) _) _ _ _); k_dflt (refine mkShortF (by k_asm) (by k_asm) (by k_asm) (by ktr_room) (by ktr_units) ?_); intro e9 h9 tk9 mA9 N9; tb_rel) | walk1) | (leave1; try dsimp only) | fail "no step")
  (try dsimp only)
  refine dUseOpen _ _ _ _ _ _ _ _ _ _ (by kba_ints2) (by kba_ints2) lk _ _ hna hen hle hl0 hl1 ht0 ht1 ht hbs _ hx4 (by k_asm) (by k_asm) (by k_mem) (by k_mem) (by assumption) (by exact rfl) (by assumption) (by assumption) (by assumption) (by first | assumption | exact sz_up (by assumption) (by assumption) | exact sz_up (by assumption) (sz_up (by assumption) (by assumption)) | exact sz_up (by assumption) (sz_up (by assumption) (sz_up (by assumption) (by assumption)))) (by exact rfl) (by exact rfl) (by exact rfl) (by ktr_room) (by ktr_units) ?_ ?_
  · intro v h9 tk9 hres out F9
    exact hret _ _ _ (.inl ⟨hres, out⟩) (fun b o e => F9.keep _ _ (B.stays b o e)) (up_fr F9)
  · intro e h9 tk9 D9 mA9 tc9 fl up F9 ns0 ns1 nsD hcode DL hres
    (try dsimp only)
    refine x_caughtN (K := Mine.hd.heap_39 w.params) B ns1 fl up F9.above hsz XB TB hC38 (by k_is) nsD DL (fun g h' tk' o vs sg ug F8 N8 he hc hd' hD nD sb => ?_) rfl rfl rfl (by decide)
    have hab : s.heap.objs.size ≤ L' := F9.above
    clear F' N' F9 ns0 ns1 nsD fl
    tb_rel
    repeat' (first | ((fail_if_success (with_reducible show wpAny _ _ (getAttr _ _ _) _ _ _)); first | (k_unfold; (try dsimp only)) | (k_end; wrow_close) | (k_here; (with_reducible show wpAny _ _ (getAttr (Value.ref _) _ _) _ _ _); k_dflt (refine load_code (by assumption) (by assumption) (by assumption) (by assumption) (by assumption) (by assumption) (by assumption) (by assumption) ?_)) | (k_here; (with_reducible show wpAny _ _ (noteFrame _ _) _ _ _); k_dflt contradiction) | (k_here; (with_reducible show wpAny _ _ (call (Value.ref 237) _) _ _ _); k_dflt (refine useRaw (x_raw _ _ _ _ _ _ (by kba_ints2) (by assumption)) (by k_asm) (by exact rfl) (by assumption) (by assumption) (by assumption) (by first | assumption | exact sz_up (by assumption) (by assumption) | exact sz_up (by assumption) (sz_up (by assumption) (by assumption)) | exact sz_up (by assumption) (sz_up (by assumption) (sz_up (by assumption) (by assumption)))) (by k_asm) (by exact rfl) (by exact rfl) (by ktr_room) (by ktr_units) ?_ ?_); rotate_left; intro e9 h9 tk9 D9 c9 fl9 up9 uq9 no9; rotate_left; intro r9 d9 D9 S9 T9 G9 l9 k90 k91 k92 k93 k94 k95 k96 k97 k98 k99 k910 u90 u91 u92 u93 u94 u95 u96 u98 u99 u910 h9 tk9 ok9 a9 b9 c9 ne9 F9 N9; tb_rel) | (k_here; (with_reducible show wpAny _ _ (call (Value.ref 38) _) _ _ _); k_dflt (refine mkQuicF (by decide) (by k_asm) (by k_asm) (by k_asm) (by ktr_room) (by ktr_units) ?_); intro e9 h9 tk9 mA9 N9 q9; tb_rel) | (k_here; (with_reducible show wpAny _ _ (call (Value.ref 78) _) _ _ _); k_dflt (refine mkRefusedF (by k_asm) (by k_asm) (by k_asm) (by ktr_room) (by ktr_units) ?_); intro e9 h9 tk9 mA9 N9; tb_rel) | (k_here; (with_reducible show wpAny _ _ (call (Value.ref 58) _) _ _ _); k_dflt (refine mkShortF (by k_asm) (by k_asm) (by k_asm) (by ktr_room) (by ktr_units) ?_); intro e9 h9 tk9 mA9 N9; tb_rel) | walk1 | (dsimp only; first | (k_here; (with_reducible show wpAny _ _ (getAttr (Value.ref _) _ _) _ _ _); k_dflt (refine load_code (by assumption) (by assumption) (by assumption) (by assumption) (by assumption) (by assumption) (by assumption) (by assumption) ?_)) | (k_here; (with_reducible show wpAny _ _ (noteFrame _ _) _ _ _); k_dflt contradiction) | (k_here; (with_reducible show wpAny _ _ (call (Value.ref 237) _) _ _ _); k_dflt (refine useRaw (x_raw _ _ _ _ _ _ (by kba_ints2) (by assumption)) (by k_asm) (by exact rfl) (by assumption) (by assumption) (by assumption) (by first | assumption | exact sz_up (by assumption) (by assumption) | exact sz_up (by assumption) (sz_up (by assumption) (by assumption)) | exact sz_up (by assumption) (sz_up (by assumption) (sz_up (by assumption) (by assumption)))) (by k_asm) (by exact rfl) (by exact rfl) (by ktr_room) (by ktr_units) ?_ ?_); rotate_left; intro e9 h9 tk9 D9 c9 fl9 up9 uq9 no9; rotate_left; intro r9 d9 D9 S9 T9 G9 l9 k90 k91 k92 k93 k94 k95 k96 k97 k98 k99 k910 u90 u91 u92 u93 u94 u95 u96 u98 u99 u910 h9 tk9 ok9 a9 b9 c9 ne9 F9 N9; tb_rel) | (k_here; (with_reducible show wpAny _ _ (call (Value.ref 38) _) _ _ _); k_dflt (refine mkQuicF (by decide) (by k_asm) (by k_asm) (by k_asm) (by ktr_room) (by ktr_units) ?_); intro e9 h9 tk9 mA9 N9 q9; tb_rel) | (k_here; (with_reducible show wpAny _ _ (call (Value.ref 78) _) _ _ _); k_dflt (refine mkRefusedF (by k_asm) (by k_asm) (by k_asm) (by ktr_room) (by ktr_units) ?_); intro e9 h9 tk9 mA9 N9; tb_rel) | (k_here; (with_reducible show wpAny _ _ (call (Value.ref 58) _) _ _ _); k_dflt (refine mkShortF (by k_asm) (by k_asm) (by k_asm) (by ktr_room) (by ktr_units) ?_); intro e9 h9 tk9 mA9 N9; tb_rel) | walk1)))
    refine load_code XB sb he hc hd' hD nD hcode ?_
    refine wpAny_nameGoes rfl F8.ns rfl (fun h5 m5 n5 s5 => ?_)
    have hb5 : ∀ b o, s.heap.get? b = some o → b ≠ L' := fun b o q => Nat.ne_of_lt (Nat.lt_of_lt_of_le (Heap.lt_size q) hab)
    refine hret _ _ _ (.inr ⟨hres, _, rfl⟩) (fun b o q => (s5.2 b (hb5 b o (B.stays b o q))).trans (sb b o q)) (fun b o q hf => ?_)
    obtain ⟨sl, z⟩ := ug b o q hf
    exact ⟨sl, (s5.2 b (hb5 b o q)).trans (F8.keep _ _ z)⟩
end
end
theorem rstSC25 {M : Model} {A : Around} {env : Env} {Q : Flow → Shared → Prop} {E : Value → Shared → Prop} {s : Shared} (h : Q .next s) : wpAny M A (execs [] env) Q E s := by
  first | (walk1; fail) | exact wpAny_execs_nil h
end
theorem rstR {M : Model} {A : Around} {env : Env} {Q : Flow → Shared → Prop} {E : Value → Shared → Prop} {s : Shared} (h : Q .next s) : wpAny M A (execs [] env) Q E s := by
  first | (walk1; fail) | exact wpAny_execs_nil h
section
variable {w : World} {p : Program} {loose : List Str} {mean : ExcName → Option Value} {mg mb : Str → Option Value}
theorem dExecsJ {M : Model} {A : Around} {E : Value → Shared → Prop} {s : Shared} {env : Env} {st : Stmt} {rest : List Stmt} {Q : Flow → Shared → Prop} (J : Shared → Prop)
    (h1 : wpAny M A (exec st env) (fun f s' => match f with | .next => J s' | f => Q f s') E s) (h2 : ∀ s', J s' → wpD M A (execs rest env) Q E s') : wpD M A (execs (st :: rest) env) Q E s :=
  dExecs (dAny (wpAny_mono h1 (fun f s' h => by cases f <;> first | exact h2 _ h | exact h) fun _ _ x => x))
section
variable {A A₀ : Around} {h₀ : Heap} {L : Addr} {m : Str → Option Value} {env : Env} {news : List (Addr × Obj)} {s : Shared} {Q E : Value → Shared → Prop}
theorem ref_ground (F : Fr h₀ L s.heap m) (X : (hd.heap_39 w.params).In h₀) (T : Top p loose mean mg mb h₀) (hA : A.frames = some [env]) (hK : env.scope.kind = .function) (hfr : env.frame = some L) :
    Below A (s.heap.hide L) [env] s.heap ∧ (hd.heap_39 w.params).In (s.heap.hide L) ∧ Top p loose mean mg mb (s.heap.hide L) ∧ (s.heap.hide L).objs.size ≤ s.heap.objs.size := by
  have st : h₀.StaysIn (s.heap.hide L) := fun b o e => (Heap.hide_ne s.heap (Nat.ne_of_lt (Nat.lt_of_lt_of_le (Heap.lt_size e) F.above))).trans (F.keep b o e)
  refine ⟨⟨hA, fun b o e => Heap.of_hide e, ?_⟩, X.keeps st, T.keeps st, Nat.le_of_eq (Heap.hide_size _ _)⟩
  exact .cons (by rw [hK]; decide) hfr F.ns (Heap.hide_self _ _) trivial
theorem ref_back {h' : Heap} (F : Fr h₀ L s.heap m) (N : News h₀ L s.heap news) (st : (s.heap.hide L).StaysIn h') (up : s.heap.UpToSlots h') : Fr h₀ L h' m ∧ News h₀ L h' news := by
  refine ⟨⟨up.ns F.ns, fun b o e => st b o ?_, F.above⟩, fun q hq => ⟨st _ _ ?_, (N q hq).2⟩⟩
  · exact (Heap.hide_ne s.heap (Nat.ne_of_lt (Nat.lt_of_lt_of_le (Heap.lt_size e) F.above))).trans (F.keep b o e)
  · exact (Heap.hide_ne s.heap (N q hq).2.1).trans (N q hq).1
theorem useRef {f : Addr} {vs : List Value} {d u : Nat} {P : Heap → Value → Prop} (C : RCon w p loose mean mg mb f vs d u P) (F : Fr h₀ L s.heap m) (N : News h₀ L s.heap news) (X : (hd.heap_39 w.params).In h₀) (T : Top p loose mean mg mb h₀)
    (hA : A.frames = some [env]) (hh : A.handled = none) (hK : env.scope.kind = .function) (hfr : env.frame = some L) (hdp : A.depth + d < recursionLimit) (hun : A.units + u < cLine)
    (k : ∀ v h' tk', P h' v → Fr h₀ L h' m → News h₀ L h' news → Q v { s with heap := h', toks := tk' }) :
    wpAny (model PySem.Challenge.rw_no0081_01.row.prog w) A (call (.ref f) vs) Q E s := by
  obtain ⟨b1, b2, b3, b4⟩ := ref_ground F X T hA hK hfr
  refine wpAny_call (codeAny_mono (C A _ _ s hh b1 b2 b3 b4 hdp hun) ?_)
  rintro r s' ⟨v, h', tk', rfl, rfl, hp, st, up⟩
  exact k v h' tk' hp (ref_back F N st up).1 (ref_back F N st up).2
theorem dUseRef {f : Addr} {vs : List Value} {d u : Nat} {P : Heap → Heap → Value → Prop} (C : DRCon w p loose mean mg mb f vs d u P) (F : Fr h₀ L s.heap m) (N : News h₀ L s.heap news) (X : (hd.heap_39 w.params).In h₀) (T : Top p loose mean mg mb h₀)
    (hA : A.frames = some [env]) (hh : A.handled = none) (hg : A.guards = some []) (hK : env.scope.kind = .function) (hfr : env.frame = some L) (hdp : A.depth + d < recursionLimit) (hun : A.units + u < cLine)
    (k : ∀ v h' tk', P s.heap h' v → Fr h₀ L h' m → News h₀ L h' news → Q v { s with heap := h', toks := tk' }) :
    wpD (model PySem.Challenge.rw_no0081_01.row.prog w) A (call (.ref f) vs) Q E s := by
  obtain ⟨b1, b2, b3, b4⟩ := ref_ground F X T hA hK hfr
  refine dCall (dCodeMono (C A _ _ s hh hg b1 b2 b3 b4 hdp hun) ?_)
  rintro r s' ⟨v, h', tk', rfl, rfl, hp, st, up⟩
  exact k v h' tk' hp (ref_back F N st up).1 (ref_back F N st up).2
theorem useDraws {base : Heap} {outer : List Env} {a : Addr} {vs : List Value} {ns : List Int} (hi : IntsAre vs ns) (hl : ns.length ≤ 63) (F : Fr h₀ L s.heap m) (N : News h₀ L s.heap news) (hs : h₀.IsList a vs.toArray)
    (hA : A.frames = some (env :: outer)) (B : Below A₀ base outer h₀) (X : (hd.heap_39 w.params).In h₀) (T : Top p loose mean mg mb h₀)
    (hh : A.handled = none) (hK : env.scope.kind = .function) (hfr : env.frame = some L) (hdp : A.depth + 10 < recursionLimit) (hun : A.units + 160 < cLine)
    (k : ∀ h' tk' D Ra vs' ns' seed ts n1 n2, (@Ne Nat D Ra) → Dr vs' ns' seed → Fr h₀ L h' m → News h₀ L h' ((D, drD Ra seed ts n1) :: (Ra, listOf vs'.toArray n2) :: news) → Q (.ref D) { s with heap := h', toks := tk' }) :
    wpAny (model PySem.Challenge.rw_no0081_01.row.prog w) A (call (.ref 345) [.ref a]) Q E s := by
  have B₁ := Below.pushE (env := env) B F hK hfr
  obtain ⟨ha, dp, fr, gd, un⟩ := A
  simp only at hA hh hdp hun
  subst hA; subst hh
  have hs' : s.heap.IsList a vs.toArray := by obtain ⟨o, ho, r⟩ := hs; exact ⟨o, F.keep _ _ ho, r⟩
  refine wpAny_call (x_draws a vs ns hi hl dp un gd base _ s _ ⟨rfl, B₁.stays, B₁.frames⟩ (X.keeps F.keep) (T.keeps F.keep) hs' hdp hun ?_)
  intro h' tk' D Ra vs' ns' seed ts n1 n2 d0 r0 ne gD gR dr st
  exact k h' tk' D Ra vs' ns' seed ts n1 n2 ne dr (Fr.stays F st) (newsAdd F (newsAdd F (News.stays N st) gR r0) gD d0)
theorem useOct {base : Heap} {outer : List Env} {most seed : Int} {tm ts : Tok} {vs : List Value} {ns : List Int} {n1 n2 : Nat} {D Ra : Addr} (hm : 1 ≤ most) (hm1 : most ≤ 10) (dr : Dr vs ns seed)
    (F : Fr h₀ L s.heap m) (N : News h₀ L s.heap news) (hD : (D, drD Ra seed ts n1) ∈ news) (hR : (Ra, listOf vs.toArray n2) ∈ news) (hDR : (@Ne Nat D Ra))
    (hA : A.frames = some (env :: outer)) (B : Below A₀ base outer h₀) (X : (hd.heap_39 w.params).In h₀) (T : Top p loose mean mg mb h₀)
    (hh : A.handled = none) (hK : env.scope.kind = .function) (hfr : env.frame = some L) (hdp : A.depth + 10 < recursionLimit) (hun : A.units + 160 < cLine)
    (k : ∀ Y t h' tk' vs' ns' seed' ts' n1' n2' zs, KBw.bInts Y = zs → zs.length ≤ most.toNat → Dr vs' ns' seed' → Fr h₀ L h' m → News h₀ L h' [(D, drD Ra seed' ts' n1'), (Ra, listOf vs'.toArray n2')] → Q (.bytes Y t) { s with heap := h', toks := tk' }) :
    wpAny (model PySem.Challenge.rw_no0081_01.row.prog w) A (call (.ref 357) [.ref D, .int most tm]) Q E s := by
  obtain ⟨g, Fg, Bg, st, gs, sz, ho, hrs⟩ := groundE (own := [(D, drD Ra seed ts n1), (Ra, listOf vs.toArray n2)]) B F N (fun q hq => by
    rcases List.mem_cons.mp hq with rfl | hq
    · exact hD
    · rw [List.mem_singleton.mp hq]; exact hR) hA hK hfr
  have h1 := ho _ (.head _)
  have h2 := ho _ (.tail _ (.head _))
  obtain ⟨ha, dp, fr, gd, un⟩ := A
  simp only at hA hh hdp hun
  subst hA; subst hh
  refine wpAny_call (x_oct most tm ts vs ns seed n1 n2 hm hm1 dr dp un gd base _ g s D Ra _ Bg (X.keeps st) (T.keeps st) hdp hun gs (Nat.le_of_eq sz) h1.1 h1.2 h2.1 h2.2 hDR ?_)
  intro Y t h' tk' vs' ns' seed' ts' n1' n2' zs hY hz dr' gD gR st'
  refine k Y t h' tk' vs' ns' seed' ts' n1' n2' zs hY hz dr' (Fr.stays Fg st') (fun q hq => ?_)
  rcases List.mem_cons.mp hq with rfl | hq
  · exact ⟨gD, (N _ hD).2.1, (N _ hD).2.2⟩
  · rw [List.mem_singleton.mp hq]
    exact ⟨gR, (N _ hR).2.1, (N _ hR).2.2⟩
end
end
section
/-! the plain law: what the packet's octets are -/
theorem xor_low4 {x y : Int} (hx : 0 ≤ x ∧ x < 256) (hy : 0 ≤ y ∧ y < 16) : (Builtin.bitXor x y).fdiv 16 = x.fdiv 16 ∧ (128 ≤ Builtin.bitXor x y ↔ 128 ≤ x) := by
  rw [bitXor_nat hx.1 hy.1]
  have key : ∀ a : Fin 256, ∀ b : Fin 16, (a.val ^^^ b.val) / 16 = a.val / 16 ∧ (128 ≤ a.val ^^^ b.val ↔ 128 ≤ a.val) := by decide +kernel
  obtain ⟨a, rfl⟩ := Int.eq_ofNat_of_zero_le hx.1
  obtain ⟨b, rfl⟩ := Int.eq_ofNat_of_zero_le hy.1
  have := key ⟨a, Int.ofNat_lt.mp hx.2⟩ ⟨b, Int.ofNat_lt.mp hy.2⟩
  rw [Int.fdiv_eq_ediv_of_nonneg _ (by decide), Int.fdiv_eq_ediv_of_nonneg _ (by decide), Int.toNat_natCast, Int.toNat_natCast]
  exact_mod_cast this
theorem xor_low5 {x y : Int} (hx : 0 ≤ x ∧ x < 256) (hy : 0 ≤ y ∧ y < 32) : (Builtin.bitXor x y).fdiv 32 = x.fdiv 32 ∧ (128 ≤ Builtin.bitXor x y ↔ 128 ≤ x) := by
  rw [bitXor_nat hx.1 hy.1]
  have key : ∀ a : Fin 256, ∀ b : Fin 32, (a.val ^^^ b.val) / 32 = a.val / 32 ∧ (128 ≤ a.val ^^^ b.val ↔ 128 ≤ a.val) := by decide +kernel
  obtain ⟨a, rfl⟩ := Int.eq_ofNat_of_zero_le hx.1
  obtain ⟨b, rfl⟩ := Int.eq_ofNat_of_zero_le hy.1
  have := key ⟨a, Int.ofNat_lt.mp hx.2⟩ ⟨b, Int.ofNat_lt.mp hy.2⟩
  rw [Int.fdiv_eq_ediv_of_nonneg _ (by decide), Int.fdiv_eq_ediv_of_nonneg _ (by decide), Int.toNat_natCast, Int.toNat_natCast]
  exact_mod_cast this
theorem firstX_long {f : Int} {ms : List Int} (h0 : 128 ≤ f) (h1 : f < 256) (hm : 0 ≤ ms.getD 0 0) : (firstX f ms).fdiv 16 = f.fdiv 16 ∧ 128 ≤ firstX f ms := by
  unfold firstX
  rw [if_pos h0]
  have b := and_in hm (show (0:Int) ≤ 15 by decide)
  have := xor_low4 (x := f) ⟨by omega, h1⟩ ⟨b.1, by omega⟩
  exact ⟨this.1, this.2.mpr h0⟩
theorem firstX_short {f : Int} {ms : List Int} (h0 : 0 ≤ f) (h1 : f < 128) (hm : 0 ≤ ms.getD 0 0) : (firstX f ms).fdiv 32 = f.fdiv 32 ∧ firstX f ms < 128 := by
  unfold firstX
  rw [if_neg (by omega)]
  have b := and_in hm (show (0:Int) ≤ 31 by decide)
  have := xor_low5 (x := f) ⟨by omega, by omega⟩ ⟨b.1, by omega⟩
  exact ⟨this.1, by omega⟩
theorem firstX_twice {f : Int} {ms : List Int} (h0 : 0 ≤ f) (h1 : f < 256) (hm : 0 ≤ ms.getD 0 0) : firstX (firstX f ms) ms = f := by
  by_cases h : 128 ≤ f
  · have := (firstX_long h h1 hm).2
    have e : firstX (firstX f ms) ms = Builtin.bitXor (firstX f ms) (Builtin.bitAnd (ms.getD 0 0) 15) := by
      show Builtin.bitXor (firstX f ms) (Builtin.bitAnd (ms.getD 0 0) (if firstX f ms ≥ 128 then 15 else 31)) = _
      rw [if_pos (show firstX f ms ≥ 128 from this)]
    rw [e]
    unfold firstX
    rw [if_pos h]
    exact xor_twice h0 (and_in hm (by decide)).1
  · have := (firstX_short h0 (by omega) hm).2
    have e : firstX (firstX f ms) ms = Builtin.bitXor (firstX f ms) (Builtin.bitAnd (ms.getD 0 0) 31) := by
      show Builtin.bitXor (firstX f ms) (Builtin.bitAnd (ms.getD 0 0) (if firstX f ms ≥ 128 then 15 else 31)) = _
      rw [if_neg (show ¬ firstX f ms ≥ 128 by omega)]
    rw [e]
    unfold firstX
    rw [if_neg (by omega)]
    exact xor_twice h0 (and_in hm (by decide)).1
theorem zip_twice : ∀ (cs ms : List Int), cs.length ≤ ms.length → (∀ n ∈ cs, 0 ≤ n) → (∀ n ∈ ms, 0 ≤ n) → List.zipWith Builtin.bitXor (List.zipWith Builtin.bitXor cs ms) ms = cs
  | [], _, _, _, _ => by simp
  | c :: cs, [], h, _, _ => by simp at h
  | c :: cs, m :: ms, h, hc, hm => by
    rw [List.zipWith_cons_cons, List.zipWith_cons_cons, zip_twice cs ms (by simpa using h) (fun n hn => hc n (.tail _ hn)) (fun n hn => hm n (.tail _ hn)), xor_twice (hc _ (.head _)) (hm _ (.head _))]
theorem turn_twice : ∀ (s : Int) (r : List Int), (∀ n ∈ r, 0 ≤ n) → turnGo s (turnGo s r) = r
  | _, [], _ => rfl
  | s, o :: r, h => by
    show Builtin.bitXor (Builtin.bitXor o _) _ :: turnGo _ (turnGo _ r) = _
    rw [turn_twice _ r (fun n hn => h n (.tail _ hn)), xor_twice (h _ (.head _)) (byte_mod _).1]
theorem turned_twice {kk ps : List Int} {i : Int} (h : ∀ n ∈ ps, 0 ≤ n) : turned kk i (turned kk i ps) = ps := turn_twice _ _ h
section
variable {kk hs cs ps : List Int} {i : Int}
noncomputable abbrev msOf (kk : List Int) (i : Int) (hs cs ps : List Int) : List Int := maskOf kk hs cs (sealL kk i (hs ++ cs) ps)
theorem prot_parts (lc : cs.length ≤ 4) (lh1 : 1 ≤ hs.length) : ∃ A zz, protL kk i hs cs ps = A ++ zz ++ sealL kk i (hs ++ cs) ps ∧ A = firstX (hs.getD 0 0) (msOf kk i hs cs ps) :: hs.drop 1 ∧ A.length = hs.length ∧ zz = List.zipWith Builtin.bitXor cs ((msOf kk i hs cs ps).drop 1) ∧ zz.length = cs.length := by
  refine ⟨_, _, ?_, rfl, ?_, rfl, zip_len lc (hmask_len _ _)⟩
  · unfold protL
    simp only [List.cons_append, List.append_assoc]
  · rw [List.length_cons, List.length_drop]; omega
theorem prot_len (lc : cs.length ≤ 4) (lh1 : 1 ≤ hs.length) : (protL kk i hs cs ps).length = hs.length + cs.length + ps.length + 16 := by
  obtain ⟨A, zz, e, -, hA, -, hz⟩ := prot_parts (kk := kk) (i := i) (ps := ps) lc lh1
  rw [e, List.length_append, List.length_append, hA, hz, seal_len]; omega
theorem prot_drop (lc : cs.length ≤ 4) (lh1 : 1 ≤ hs.length) {j : Nat} (hj : hs.length + cs.length ≤ j) : (protL kk i hs cs ps).drop j = (hs ++ cs ++ sealL kk i (hs ++ cs) ps).drop j := by
  obtain ⟨A, zz, e, -, hA, -, hz⟩ := prot_parts (kk := kk) (i := i) (ps := ps) lc lh1
  rw [e, List.drop_append, List.drop_append (l₁ := hs ++ cs)]
  rw [List.drop_of_length_le (show (A ++ zz).length ≤ j by rw [List.length_append]; omega), List.drop_of_length_le (show (hs ++ cs).length ≤ j by rw [List.length_append]; omega), List.length_append, List.length_append, hA, hz]
theorem prot_mask (lc : cs.length ≤ 4) (lh1 : 1 ≤ hs.length) : headMask kk (((protL kk i hs cs ps).drop (hs.length + 4)).take 16) = msOf kk i hs cs ps := by
  rw [prot_drop lc lh1 (by omega)]
  rfl
theorem prot_head : (protL kk i hs cs ps).getD 0 0 = firstX (hs.getD 0 0) (msOf kk i hs cs ps) := rfl
theorem ms_nn : 0 ≤ (msOf kk i hs cs ps).getD 0 0 := (KBw.getD_in (hmask_in _ _)).1
theorem prot_bareF (lc : cs.length ≤ 4) (lh1 : 1 ≤ hs.length) (h0 : 0 ≤ hs.getD 0 0) (h1 : hs.getD 0 0 < 256) : bareF kk (protL kk i hs cs ps) hs.length = hs.getD 0 0 := by
  unfold bareF
  rw [prot_mask lc lh1, prot_head, firstX_twice h0 h1 ms_nn]
theorem head_split (lh1 : 1 ≤ hs.length) : hs.getD 0 0 :: hs.drop 1 = hs := by
  cases hs with
  | nil => simp at lh1
  | cons a r => rfl
theorem prot_bareL (lc : cs.length ≤ 4) (lh1 : 1 ≤ hs.length) (h0 : 0 ≤ hs.getD 0 0) (h1 : hs.getD 0 0 < 256) (hz : ((hs.getD 0 0).fmod 4 + 1).toNat = cs.length) (hc : ∀ n ∈ cs, 0 ≤ n) : bareL kk (protL kk i hs cs ps) hs.length = hs ++ cs := by
  unfold bareL
  rw [prot_bareF lc lh1 h0 h1, prot_mask lc lh1, hz]
  obtain ⟨A, zz, e, eA, hA, ez, hzl⟩ := prot_parts (kk := kk) (i := i) (ps := ps) lc lh1
  have e1 : ((protL kk i hs cs ps).drop 1).take (hs.length - 1) = hs.drop 1 := by
    rw [e, eA]
    simp only [List.cons_append, List.drop_succ_cons, List.drop_zero, List.append_assoc]
    rw [List.take_left' (by rw [List.length_drop])]
  have e2 : ((protL kk i hs cs ps).drop hs.length).take cs.length = zz := by
    rw [e, List.append_assoc, List.drop_left' hA, List.take_left' hzl]
  rw [e1, e2, ez, zip_twice cs ((msOf kk i hs cs ps).drop 1) (by rw [List.length_drop, show (msOf kk i hs cs ps).length = 5 from hmask_len _ _]; omega) hc (fun n hn => (hmask_in _ _ n (List.mem_of_mem_drop hn)).1), ← List.cons_append, head_split lh1]
theorem prot_tail (lc : cs.length ≤ 4) (lh1 : 1 ≤ hs.length) : (protL kk i hs cs ps).drop (hs.length + cs.length) = turned kk i ps ++ tagL kk i (hs ++ cs) (turned kk i ps) := by
  rw [prot_drop lc lh1 (Nat.le_refl _), ← List.length_append, List.drop_left]
  rfl
theorem prot_getD {j : Nat} (h1 : 1 ≤ j) (hj : j < hs.length) : (protL kk i hs cs ps).getD j 0 = hs.getD j 0 := by
  unfold protL
  obtain ⟨k, rfl⟩ : ∃ k, j = k + 1 := ⟨j - 1, by omega⟩
  rw [List.getD_cons_succ, List.append_assoc, List.getD_eq_getElem?_getD, List.getD_eq_getElem?_getD, List.getElem?_append_left (by rw [List.length_drop]; omega), List.getElem?_drop, Nat.add_comm]
theorem prot_sub (lc : cs.length ≤ 4) {a n : Nat} (h1 : 1 ≤ a) (hj : a + n ≤ hs.length) : ((protL kk i hs cs ps).drop a).take n = (hs.drop a).take n := by
  obtain ⟨k, rfl⟩ : ∃ k, a = k + 1 := ⟨a - 1, by omega⟩
  unfold protL
  rw [List.drop_succ_cons, List.append_assoc, List.drop_append_of_le_length (by rw [List.length_drop]; omega), List.take_append_of_le_length (by rw [List.length_drop, List.length_drop]; omega), List.drop_drop, Nat.add_comm]
end
theorem be2n_cut (n : Nat) (x : Int) : be2n (List.replicate n 0 ++ [x]) = x := by
  unfold be2n
  rw [List.foldl_append]
  have : ∀ n, List.foldl (fun (f o : Int) => f * 256 + o) 0 (List.replicate n 0) = 0 := by
    intro n
    induction n with
    | zero => rfl
    | succ n ih => rw [List.replicate_succ, List.foldl_cons]; simpa using ih
  rw [this]; simp
end
section
noncomputable def headL (form bits size : Int) (fixed : Bool) (ds ss tl : List Int) (plen : Nat) : List Int :=
  if form = 3 then ((if fixed then 64 else 0) + 8 * bits + size - 1) :: ds
  else (128 + (if fixed then 64 else 0) + 16 * form + 4 * bits + size - 1) :: 0 :: 0 :: 0 :: 1 :: ((ds.length : Int) :: ds ++ (ss.length : Int) :: ss) ++ (if form = 0 then (tl.length : Int) :: tl else []) ++ [size + plen + 16]
structure HV (form bits size : Int) (ds ss tl : List Int) (plen : Nat) : Prop where
  hf : 0 ≤ form ∧ form < 4
  hb : 0 ≤ bits ∧ bits < 4
  hz : 1 ≤ size ∧ size ≤ 4
  hd : ds.length ≤ 21
  hs : ss.length ≤ 21
  ht : tl.length ≤ 3
  hp : 5 ≤ plen ∧ plen ≤ 9
theorem getD_app (A B : List Int) (k : Nat) : (A ++ B).getD (A.length + k) 0 = B.getD k 0 := by
  rw [List.getD_eq_getElem?_getD, List.getD_eq_getElem?_getD, List.getElem?_append_right (by omega), Nat.add_sub_cancel_left]
theorem getD_take (K : List Int) (i j : Nat) : (K.take j).getD i 0 = if i < j then K.getD i 0 else 0 := by
  rw [List.getD_eq_getElem?_getD, List.getD_eq_getElem?_getD, List.getElem?_take]
  split <;> rfl
theorem bI_app (a b : Array UInt8) : KBw.bInts (a ++ b) = KBw.bInts a ++ KBw.bInts b := by unfold KBw.bInts; rw [Array.toList_append, List.map_append]
theorem bI_one {x : Int} (h0 : 0 ≤ x) (h1 : x < 256) : KBw.bInts #[x.toNat.toUInt8] = [x] := by
  show [((x.toNat.toUInt8.toNat : Nat) : Int)] = [x]
  rw [PySem.W.byte_back h0 h1]
theorem bI_five {x : Int} (h0 : 0 ≤ x) (h1 : x < 256) : KBw.bInts #[x.toNat.toUInt8, (Int.toNat 0).toUInt8, (Int.toNat 0).toUInt8, (Int.toNat 0).toUInt8, (Int.toNat 1).toUInt8] = [x, 0, 0, 0, 1] := by
  show [((x.toNat.toUInt8.toNat : Nat) : Int), 0, 0, 0, 1] = _
  rw [PySem.W.byte_back h0 h1]
theorem head_S {form bits size n : Int} {fixed : Bool} {ds ss tl : List Int} {plen : Nat} {Bd : Array UInt8} (h3 : form = 3) (hn : n = if fixed then 64 else 0) (hb : 0 ≤ bits ∧ bits < 4) (hz : 1 ≤ size ∧ size ≤ 4) (eD : KBw.bInts Bd = ds) :
    KBw.bInts (#[(n + 8 * bits + size - 1).toNat.toUInt8] ++ Bd) = headL form bits size fixed ds ss tl plen := by
  subst h3
  have hn' : 0 ≤ n ∧ n ≤ 64 := by subst hn; split <;> decide
  rw [bI_app, bI_one (by omega) (by omega), eD, hn]
  unfold headL
  rw [if_pos rfl]; rfl
theorem head_L {form bits size n : Int} {fixed : Bool} {ds ss tl : List Int} {plen : Nat} {Y B : Array UInt8} (h3 : ¬ form = 3) (hn : n = if fixed then 64 else 0) (hf : 0 ≤ form ∧ form < 4) (hb : 0 ≤ bits ∧ bits < 4) (hz : 1 ≤ size ∧ size ≤ 4) (hp : plen ≤ 9) (eY : KBw.bInts Y = (ds.length : Int) :: ds ++ (ss.length : Int) :: ss)
    (eB : KBw.bInts B = if form = 0 then (tl.length : Int) :: tl else []) :
    KBw.bInts (#[(128 + n + 16 * form + 4 * bits + size - 1).toNat.toUInt8, (Int.toNat 0).toUInt8, (Int.toNat 0).toUInt8, (Int.toNat 0).toUInt8, (Int.toNat 1).toUInt8] ++ Y ++ B ++ #[(size + plen + 16).toNat.toUInt8]) = headL form bits size fixed ds ss tl plen := by
  have hn' : 0 ≤ n ∧ n ≤ 64 := by subst hn; split <;> decide
  rw [bI_app, bI_app, bI_app, bI_five (by omega) (by omega), bI_one (by omega) (by omega), eY, eB, hn]
  unfold headL
  rw [if_neg h3]
  simp only [List.cons_append, List.nil_append, List.append_assoc]
theorem tok_1 {form : Int} {tl : List Int} {Bt : Array UInt8} (h : form = 0) (eT : KBw.bInts Bt = tl) (ht : tl.length ≤ 3) : KBw.bInts (#[(tl.length : Int).toNat.toUInt8] ++ Bt) = if form = 0 then (tl.length : Int) :: tl else [] := by
  rw [if_pos h, bI_app, bI_one (by omega) (by omega), eT]; rfl
theorem tok_0 {form : Int} {tl : List Int} (h : ¬ form = 0) : KBw.bInts #[] = if form = 0 then (tl.length : Int) :: tl else [] := by
  rw [if_neg h]; rfl
/-- the form of a long head -/
structure LongH (hs : List Int) (f : Int) (ds ss R : List Int) : Prop where
  eq : hs = f :: 0 :: 0 :: 0 :: 1 :: (ds.length : Int) :: (ds ++ ((ss.length : Int) :: (ss ++ R)))
section
variable {hs ds ss R : List Int} {f : Int} (H : LongH hs f ds ss R)
include H
theorem LongH.len : hs.length = 7 + ds.length + ss.length + R.length := by rw [H.eq]; simp only [List.length_cons, List.length_append]; omega
theorem LongH.h5 : hs.getD 5 0 = ds.length := by rw [H.eq]; rfl
theorem LongH.h6 : hs.getD (6 + ds.length) 0 = ss.length := by
  have e : hs = (f :: 0 :: 0 :: 0 :: 1 :: (ds.length : Int) :: ds) ++ ((ss.length : Int) :: (ss ++ R)) := by rw [H.eq]; rfl
  have := getD_app (f :: 0 :: 0 :: 0 :: 1 :: (ds.length : Int) :: ds) ((ss.length : Int) :: (ss ++ R)) 0
  rw [← e] at this
  rw [show 6 + ds.length = (f :: 0 :: 0 :: 0 :: 1 :: (ds.length : Int) :: ds).length + 0 by simp only [List.length_cons]; omega, this]; rfl
theorem LongH.eqR : hs = (f :: 0 :: 0 :: 0 :: 1 :: (ds.length : Int) :: (ds ++ ((ss.length : Int) :: ss))) ++ R := by rw [H.eq]; simp only [List.cons_append, List.append_assoc]
theorem LongH.lenA : (f :: 0 :: 0 :: 0 :: 1 :: (ds.length : Int) :: (ds ++ ((ss.length : Int) :: ss))).length = 7 + ds.length + ss.length := by simp only [List.length_cons, List.length_append]; omega
theorem LongH.h7 (k : Nat) : hs.getD (7 + ds.length + ss.length + k) 0 = R.getD k 0 := by
  have := getD_app (f :: 0 :: 0 :: 0 :: 1 :: (ds.length : Int) :: (ds ++ ((ss.length : Int) :: ss))) R k
  rw [← H.eqR, H.lenA] at this
  exact this
theorem LongH.d6 : (hs.drop 6).take ds.length = ds := by rw [H.eq]; simp only [List.drop_succ_cons, List.drop_zero, List.take_left]
theorem LongH.d7 : (hs.drop (7 + ds.length)).take ss.length = ss := by
  have e : hs = (f :: 0 :: 0 :: 0 :: 1 :: (ds.length : Int) :: (ds ++ [(ss.length : Int)])) ++ (ss ++ R) := by rw [H.eq]; simp only [List.cons_append, List.append_assoc, List.nil_append]
  rw [e, List.drop_left' (by simp only [List.length_cons, List.length_append, List.length_nil]; omega), List.take_left]
theorem LongH.dR (k : Nat) : hs.drop (7 + ds.length + ss.length + k) = R.drop k := by
  conv => lhs; rw [H.eqR]
  rw [List.drop_append, H.lenA, List.drop_of_length_le (by rw [H.lenA]; omega), Nat.add_sub_cancel_left, List.nil_append]
theorem LongH.d1 : (hs.drop 1).take 4 = [0, 0, 0, 1] := by rw [H.eq]; rfl
end
theorem headL_long {form bits size : Int} {fixed : Bool} {ds ss tl : List Int} {plen : Nat} (h : form ≠ 3) : LongH (headL form bits size fixed ds ss tl plen) (128 + (if fixed then 64 else 0) + 16 * form + 4 * bits + size - 1) ds ss ((if form = 0 then (tl.length : Int) :: tl else []) ++ [size + plen + 16]) := by
  refine ⟨?_⟩
  unfold headL
  rw [if_neg h]
  simp only [List.cons_append, List.append_assoc]
theorem headL_short {bits size : Int} {fixed : Bool} {ds ss tl : List Int} {plen : Nat} : headL 3 bits size fixed ds ss tl plen = ((if fixed then 64 else 0) + 8 * bits + size - 1) :: ds := by
  unfold headL; rw [if_pos rfl]
noncomputable def f0 (form bits size : Int) (fixed : Bool) : Int := if form = 3 then (if fixed then 64 else 0) + 8 * bits + size - 1 else 128 + (if fixed then 64 else 0) + 16 * form + 4 * bits + size - 1
theorem headL_0 {form bits size : Int} {fixed : Bool} {ds ss tl : List Int} {plen : Nat} : (headL form bits size fixed ds ss tl plen).getD 0 0 = f0 form bits size fixed := by
  unfold headL f0
  split <;> rfl
set_option synthInstance.maxHeartbeats 2000000 in
set_option synthInstance.maxSize 4000 in
theorem f0_all : ∀ fixed : Bool, ∀ f : Nat, f < 4 → ∀ b : Nat, b < 4 → ∀ z : Nat, z < 4 →
    0 ≤ f0 (f : Int) (b : Int) ((z : Int) + 1) fixed ∧ f0 (f : Int) (b : Int) ((z : Int) + 1) fixed < 256 ∧ ((f : Int) = 3 → f0 (f : Int) (b : Int) ((z : Int) + 1) fixed < 128) ∧ ((f : Int) ≠ 3 → 128 ≤ f0 (f : Int) (b : Int) ((z : Int) + 1) fixed) ∧ ((f0 (f : Int) (b : Int) ((z : Int) + 1) fixed).fmod 4 + 1).toNat = ((z : Int) + 1).toNat ∧ resv (f0 (f : Int) (b : Int) ((z : Int) + 1) fixed) = (b : Int) ∧
    ((f : Int) ≠ 3 → ((f0 (f : Int) (b : Int) ((z : Int) + 1) fixed).fdiv 16).fmod 4 = (f : Int)) ∧ ((f0 (f : Int) (b : Int) ((z : Int) + 1) fixed).fdiv 64).fmod 2 = (if fixed then 1 else 0) := by
  decide +kernel
theorem f0_facts {form bits size : Int} {fixed : Bool} (hf : 0 ≤ form ∧ form < 4) (hb : 0 ≤ bits ∧ bits < 4) (hz : 1 ≤ size ∧ size ≤ 4) :
    0 ≤ f0 form bits size fixed ∧ f0 form bits size fixed < 256 ∧ (form = 3 → f0 form bits size fixed < 128) ∧ (form ≠ 3 → 128 ≤ f0 form bits size fixed) ∧ ((f0 form bits size fixed).fmod 4 + 1).toNat = size.toNat ∧ resv (f0 form bits size fixed) = bits ∧
    (form ≠ 3 → ((f0 form bits size fixed).fdiv 16).fmod 4 = form) ∧ ((f0 form bits size fixed).fdiv 64).fmod 2 = (if fixed then 1 else 0) := by
  obtain ⟨f, rfl⟩ : ∃ f : Nat, form = f := ⟨form.toNat, (Int.toNat_of_nonneg hf.1).symm⟩
  obtain ⟨b, rfl⟩ : ∃ b : Nat, bits = b := ⟨bits.toNat, (Int.toNat_of_nonneg hb.1).symm⟩
  obtain ⟨z, rfl⟩ : ∃ z : Nat, size = (z : Int) + 1 := ⟨(size - 1).toNat, by omega⟩
  exact f0_all fixed f (by omega) b (by omega) z (by omega)
end
section
noncomputable def kindN (form : Int) : Str := if form = 0 then Str.ofString "initial" else if form = 1 then Str.ofString "zero" else if form = 2 then Str.ofString "handshake" else Str.ofString "short"
section
variable {kk ds ss tl cs ps : List Int} {i form bits size : Int} {fixed : Bool}
noncomputable abbrev HL (form bits size : Int) (fixed : Bool) (ds ss tl ps : List Int) : List Int := headL form bits size fixed ds ss tl ps.length
noncomputable abbrev KL (kk : List Int) (i form bits size : Int) (fixed : Bool) (ds ss tl cs ps : List Int) : List Int := protL kk i (HL form bits size fixed ds ss tl ps) cs ps
theorem hl_len (V : HV form bits size ds ss tl ps.length) : (HL form bits size fixed ds ss tl ps).length = if form = 3 then 1 + ds.length else if form = 0 then 9 + ds.length + ss.length + tl.length else 8 + ds.length + ss.length := by
  by_cases h3 : form = 3
  · subst h3
    rw [if_pos rfl]
    show (headL 3 bits size fixed ds ss tl ps.length).length = _
    rw [headL_short, List.length_cons]; omega
  · rw [if_neg h3, (headL_long h3).len, List.length_append]
    split
    · simp only [List.length_cons, List.length_nil]; omega
    · simp only [List.length_nil, List.length_cons]; omega
theorem hl_le (V : HV form bits size ds ss tl ps.length) : 1 ≤ (HL form bits size fixed ds ss tl ps).length ∧ (HL form bits size fixed ds ss tl ps).length ≤ 54 := by
  obtain ⟨_, _, _, hd, hs, ht, _⟩ := V
  rw [hl_len ⟨by assumption, by assumption, by assumption, hd, hs, ht, by assumption⟩]
  split
  · omega
  · split <;> omega
theorem kl_len (V : HV form bits size ds ss tl ps.length) (lc : cs.length = size.toNat) : (KL kk i form bits size fixed ds ss tl cs ps).length = (HL form bits size fixed ds ss tl ps).length + size.toNat + ps.length + 16 := by
  have := V.hz
  rw [prot_len (by omega) (hl_le V).1, lc]
theorem kl_0 (V : HV form bits size ds ss tl ps.length) : ∃ f1, (KL kk i form bits size fixed ds ss tl cs ps).getD 0 0 = f1 ∧ (form = 3 → f1 < 128 ∧ f1.fdiv 32 = (f0 form bits size fixed).fdiv 32) ∧ (form ≠ 3 → f1 ≥ 128 ∧ f1.fdiv 16 = (f0 form bits size fixed).fdiv 16) ∧ (f1.fdiv 64).fmod 2 = (if fixed then 1 else 0) := by
  have F := f0_facts (form := form) (bits := bits) (size := size) (fixed := fixed) V.hf V.hb V.hz
  obtain ⟨a0, a1, a2, a3, -, -, -, a7⟩ := F
  refine ⟨_, rfl, ?_, ?_, ?_⟩
  · intro h3
    rw [prot_head, headL_0]
    have := firstX_short (ms := msOf kk i (HL form bits size fixed ds ss tl ps) cs ps) a0 (a2 h3) ms_nn
    exact ⟨this.2, this.1⟩
  · intro h3
    rw [prot_head, headL_0]
    have := firstX_long (ms := msOf kk i (HL form bits size fixed ds ss tl ps) cs ps) (a3 h3) a1 ms_nn
    exact ⟨this.2, this.1⟩
  · rw [prot_head, headL_0, ← a7]
    have e64 : ∀ x : Int, x.fdiv 64 = (x.fdiv 16).fdiv 4 := fun x => by
      rw [Int.fdiv_eq_ediv_of_nonneg _ (by decide), Int.fdiv_eq_ediv_of_nonneg _ (by decide), Int.fdiv_eq_ediv_of_nonneg _ (by decide)]; omega
    have e64' : ∀ x : Int, x.fdiv 64 = (x.fdiv 32).fdiv 2 := fun x => by
      rw [Int.fdiv_eq_ediv_of_nonneg _ (by decide), Int.fdiv_eq_ediv_of_nonneg _ (by decide), Int.fdiv_eq_ediv_of_nonneg _ (by decide)]; omega
    by_cases h3 : form = 3
    · have := (firstX_short (ms := msOf kk i (HL form bits size fixed ds ss tl ps) cs ps) a0 (a2 h3) ms_nn).1
      rw [e64', this, ← e64']
    · have := (firstX_long (ms := msOf kk i (HL form bits size fixed ds ss tl ps) cs ps) (a3 h3) a1 ms_nn).1
      rw [e64, this, ← e64]
/-- what stands in a long packet -/
structure LongK (K : List Int) (form : Int) (n : Int) (ds ss tl : List Int) (hl : Nat) : Prop where
  k5 : K.getD 5 0 = ds.length
  k6 : K.getD (6 + ds.length) 0 = ss.length
  k7 : form ≠ 0 → K.getD (7 + ds.length + ss.length) 0 = n ∧ hl = 8 + ds.length + ss.length
  k8 : form = 0 → K.getD (7 + ds.length + ss.length) 0 = tl.length ∧ K.getD (8 + ds.length + ss.length + tl.length) 0 = n ∧ hl = 9 + ds.length + ss.length + tl.length
  d1 : (K.drop 1).take 4 = [0, 0, 0, 1]
  d6 : (K.drop 6).take ds.length = ds
  d7 : (K.drop (7 + ds.length)).take ss.length = ss
  d8 : form = 0 → (K.drop (8 + ds.length + ss.length)).take tl.length = tl
theorem longK (V : HV form bits size ds ss tl ps.length) (lc : cs.length = size.toNat) (h3 : form ≠ 3) : LongK (KL kk i form bits size fixed ds ss tl cs ps) form (size + ps.length + 16) ds ss tl (HL form bits size fixed ds ss tl ps).length := by
  have H := headL_long (bits := bits) (size := size) (fixed := fixed) (ds := ds) (ss := ss) (tl := tl) (plen := ps.length) h3
  have hl := hl_len (fixed := fixed) (bits := bits) (size := size) V
  rw [if_neg h3] at hl
  have hz := V.hz
  have lc4 : cs.length ≤ 4 := by omega
  by_cases h0 : form = 0
  · rw [if_pos h0] at hl
    rw [if_pos h0] at H
    refine ⟨?_, ?_, fun h => absurd h0 h, fun _ => ⟨?_, ?_, hl⟩, ?_, ?_, ?_, fun _ => ?_⟩
    · rw [prot_getD (by decide) (by omega), H.h5]
    · rw [prot_getD (by omega) (by omega), H.h6]
    · have := H.h7 0
      rw [Nat.add_zero] at this
      rw [prot_getD (by omega) (by omega), this]; rfl
    · have := H.h7 (1 + tl.length)
      rw [prot_getD (by omega) (by omega), show 8 + ds.length + ss.length + tl.length = 7 + ds.length + ss.length + (1 + tl.length) by omega, this]
      have e := getD_app ((tl.length : Int) :: tl) [size + ps.length + 16] 0
      rw [List.length_cons, Nat.add_zero, Nat.add_comm] at e
      exact e
    · rw [prot_sub lc4 (by decide) (by omega), H.d1]
    · rw [prot_sub lc4 (by decide) (by omega), H.d6]
    · rw [prot_sub lc4 (by omega) (by omega), H.d7]
    · rw [prot_sub lc4 (by omega) (by omega), show 8 + ds.length + ss.length = 7 + ds.length + ss.length + 1 by omega, H.dR, List.cons_append, List.drop_succ_cons, List.drop_zero, List.take_left]
  · rw [if_neg h0] at hl
    rw [if_neg h0] at H
    refine ⟨?_, ?_, fun _ => ⟨?_, hl⟩, fun h => absurd h h0, ?_, ?_, ?_, fun h => absurd h h0⟩
    · rw [prot_getD (by decide) (by omega), H.h5]
    · rw [prot_getD (by omega) (by omega), H.h6]
    · have := H.h7 0
      rw [Nat.add_zero] at this
      rw [prot_getD (by omega) (by omega), this]; rfl
    · rw [prot_sub lc4 (by decide) (by omega), H.d1]
    · rw [prot_sub lc4 (by decide) (by omega), H.d6]
    · rw [prot_sub lc4 (by omega) (by omega), H.d7]
end
end
section
section
variable {K ds ss tl : List Int} {form n : Int} {hl : Nat} (LK : LongK K form n ds ss tl hl) (hf : form = 0 ∨ form = 1 ∨ form = 2) (hlen : (K.length : Int) = hl + n) (hn : 0 ≤ n ∧ n < 64) (h0 : K.getD 0 0 ≥ 128) (hk : ((K.getD 0 0).fdiv 16).fmod 4 = form) (hd : ds.length ≤ 21) (hs : ss.length ≤ 21) (ht : tl.length ≤ 3)
include LK
theorem LongK.inv : invEnd K = (7 + ds.length + ss.length : Nat) := by
  unfold invEnd
  rw [LK.k5, show (6 + (ds.length : Int)).toNat = 6 + ds.length by omega, LK.k6]
  omega
include hf h0 hk
theorem LongK.kind : kindOf K = kindN form := by
  unfold kindOf kindN
  rw [if_pos h0, hk]
  rcases hf with rfl | rfl | rfl <;> rfl
theorem LongK.num : numAt K (kindOf K) = (hl : Int) - 1 ∧ K.getD (hl - 1) 0 = n ∧ 1 ≤ hl := by
  rw [LK.kind hf h0 hk]
  unfold numAt kindN
  rw [LK.inv]
  by_cases z : form = 0
  · obtain ⟨a, b, c⟩ := LK.k8 z
    rw [if_pos z, if_pos rfl, show ((7 + ds.length + ss.length : Nat) : Int).toNat = 7 + ds.length + ss.length by omega, a]
    refine ⟨by omega, ?_, by omega⟩
    rw [c, show 9 + ds.length + ss.length + tl.length - 1 = 8 + ds.length + ss.length + tl.length by omega, b]
  · obtain ⟨a, c⟩ := LK.k7 z
    have hne : ¬ (if form = 0 then Str.ofString "initial" else if form = 1 then Str.ofString "zero" else if form = 2 then Str.ofString "handshake" else Str.ofString "short") = Str.ofString "initial" := by
      rw [if_neg z]
      rcases hf with h | rfl | rfl
      · exact absurd h z
      · decide
      · decide
    rw [if_neg hne]
    refine ⟨by omega, ?_, by omega⟩
    rw [c, show 8 + ds.length + ss.length - 1 = 7 + ds.length + ss.length by omega, a]
include hlen hn hd hs ht
theorem LongK.pre : RawPre K (ds.length : Int) := by
  have hinv := LK.inv
  refine ⟨?_, ?_, by omega, by omega, fun _ h5 => ?_, fun _ hi => ?_, fun _ hi => ?_, fun _ => ?_⟩
  · rcases hf with rfl | rfl | rfl
    · have := (LK.k8 rfl).2.2; omega
    · have := (LK.k7 (by decide)).2; omega
    · have := (LK.k7 (by decide)).2; omega
  · obtain ⟨-, -, h1⟩ := LK.num hf h0 hk
    omega
  · rw [LK.d1]; rfl
  · rw [hinv, show ((7 + ds.length + ss.length : Nat) : Int).toNat = 7 + ds.length + ss.length by omega]
    by_cases z : form = 0
    · rw [(LK.k8 z).1]; omega
    · rw [(LK.k7 z).1]; omega
  · rw [hinv, show ((7 + ds.length + ss.length : Nat) : Int).toNat = 7 + ds.length + ss.length by omega] at hi ⊢
    by_cases z : form = 0
    · obtain ⟨a, b, c⟩ := LK.k8 z
      rw [a, show (((7 + ds.length + ss.length : Nat) : Int) + 1 + (tl.length : Int)).toNat = 8 + ds.length + ss.length + tl.length by omega, b]; omega
    · obtain ⟨a, c⟩ := LK.k7 z
      rw [a] at hi
      omega
  · rw [hk]; rcases hf with rfl | rfl | rfl <;> decide
theorem LongK.ok : RawOk K (ds.length : Int) ↔ (((K.getD 0 0).fdiv 64).fmod 2 ≠ 0 ∧ ds.length ≤ 20 ∧ ss.length ≤ 20) := by
  have hinv := LK.inv
  obtain ⟨n1, n2, n3⟩ := LK.num hf h0 hk
  unfold RawOk
  rw [if_pos h0]
  unfold LongOk NumOk
  rw [hinv, LK.k5, show (6 + (ds.length : Int)).toNat = 6 + ds.length by omega, LK.k6, n1, show ((hl : Int) - 1).toNat = hl - 1 by omega, n2]
  constructor
  · rintro ⟨-, a, b, c, -⟩
    exact ⟨c, by omega, by omega⟩
  · rintro ⟨c, a, b⟩
    refine ⟨?_, by omega, by omega, c, by omega, by omega⟩
    by_cases z : form = 0
    · have := (LK.k8 z).2.2; omega
    · have := (LK.k7 z).2; omega
theorem LongK.vals : dcidOf K (ds.length : Int) = ds ∧ scidOf K = ss ∧ tokOf K = (if form = 0 then tl else []) ∧ naOf K (ds.length : Int) = hl ∧ enOf K (ds.length : Int) = K.length := by
  have hinv := LK.inv
  obtain ⟨n1, n2, n3⟩ := LK.num hf h0 hk
  have hkd := LK.kind hf h0 hk
  unfold dcidOf scidOf tokOf naOf enOf
  simp only [if_pos h0]
  rw [n1, show ((hl : Int) - 1).toNat = hl - 1 by omega, n2, LK.k5, show (6 + (ds.length : Int)).toNat = 6 + ds.length by omega, LK.k6, show (7 + (ds.length : Int)).toNat = 7 + ds.length by omega, show ((ds.length : Int)).toNat = ds.length by omega, show ((ss.length : Int)).toNat = ss.length by omega]
  refine ⟨LK.d6, LK.d7, ?_, by omega, by omega⟩
  unfold tokL
  rw [hinv, hkd]
  unfold kindN
  by_cases z : form = 0
  · rw [if_pos z, if_pos rfl, if_pos z, show (((7 + ds.length + ss.length : Nat) : Int) + 1).toNat = 8 + ds.length + ss.length by omega, show ((7 + ds.length + ss.length : Nat) : Int).toNat = 7 + ds.length + ss.length by omega, (LK.k8 z).1, show ((tl.length : Int)).toNat = tl.length by omega]
    exact LK.d8 z
  · have hne : ¬ (if form = 0 then Str.ofString "initial" else if form = 1 then Str.ofString "zero" else if form = 2 then Str.ofString "handshake" else Str.ofString "short") = Str.ofString "initial" := by
      rw [if_neg z]
      rcases hf with h | rfl | rfl
      · exact absurd h z
      · decide
      · decide
    rw [if_neg hne, if_neg z]
theorem LongK.cut {j : Nat} (j1 : 1 ≤ j) (j2 : j + 1 ≤ hl) : RawPre (K.take j) (ds.length : Int) ∧ ¬ RawOk (K.take j) (ds.length : Int) := by
  obtain ⟨-, -, n3⟩ := LK.num hf h0 hk
  have hlK : hl ≤ K.length := by omega
  have lt : (K.take j).length = j := by rw [List.length_take]; omega
  have e0 : (K.take j).getD 0 0 = K.getD 0 0 := by rw [getD_take, if_pos (by omega)]
  have h0' : (K.take j).getD 0 0 ≥ 128 := by rw [e0]; exact h0
  have e5 : (K.take j).getD 5 0 = if 5 < j then (ds.length : Int) else 0 := by rw [getD_take, LK.k5]
  have hinv : invEnd (K.take j) = if 5 < j then (if 6 + ds.length < j then ((7 + ds.length + ss.length : Nat) : Int) else ((7 + ds.length : Nat) : Int)) else 7 := by
    unfold invEnd
    rw [e5]
    by_cases c5 : 5 < j
    · rw [if_pos c5, if_pos c5, show (6 + (ds.length : Int)).toNat = 6 + ds.length by omega, getD_take, LK.k6]
      split <;> omega
    · rw [if_neg c5, if_neg c5, show (6 + (0 : Int)).toNat = 6 by omega, getD_take, if_neg (by omega)]
      omega
  have far : j ≤ 6 + ds.length → (j : Int) < invEnd (K.take j) := fun h => by
    rw [hinv]
    split
    · rw [if_neg (by omega)]; omega
    · omega
  have near : ¬ j ≤ 6 + ds.length → invEnd (K.take j) = ((7 + ds.length + ss.length : Nat) : Int) := fun h => by
    rw [hinv, if_pos (by omega), if_pos (by omega)]
  have hl60 : hl ≤ 60 := by
    rcases hf with rfl | rfl | rfl
    · have := (LK.k8 rfl).2.2; omega
    · have := (LK.k7 (by decide)).2; omega
    · have := (LK.k7 (by decide)).2; omega
  refine ⟨⟨by omega, by omega, by omega, by omega, fun _ h5 => ?_, fun _ hi => ?_, fun _ hi => ?_, fun _ => ?_⟩, ?_⟩
  · rw [List.drop_take, List.take_take, Nat.min_eq_left (by omega), LK.d1]; rfl
  · rw [lt] at hi
    by_cases c : j ≤ 6 + ds.length
    · have := far c; omega
    · rw [near c] at hi ⊢
      rw [show ((7 + ds.length + ss.length : Nat) : Int).toNat = 7 + ds.length + ss.length by omega, getD_take]
      split
      · by_cases z : form = 0
        · rw [(LK.k8 z).1]; omega
        · rw [(LK.k7 z).1]; omega
      · omega
  · rw [lt] at hi
    by_cases c : j ≤ 6 + ds.length
    · have := far c
      have : 0 ≤ (K.take j).getD (invEnd (K.take j)).toNat 0 := by rw [getD_take, if_neg (by omega)]; omega
      omega
    · rw [near c, show ((7 + ds.length + ss.length : Nat) : Int).toNat = 7 + ds.length + ss.length by omega, getD_take] at hi
      exfalso
      by_cases z : form = 0
      · obtain ⟨a, b, d⟩ := LK.k8 z
        split at hi
        · rw [a] at hi
          omega
        · omega
      · obtain ⟨a, d⟩ := LK.k7 z
        rw [if_neg (by omega)] at hi
        omega
  · rw [e0, hk]; rcases hf with rfl | rfl | rfl <;> decide
  · unfold RawOk
    rw [if_pos h0']
    rintro ⟨a, -, -, -, b, c⟩
    rw [lt] at a b
    by_cases cj : j ≤ 6 + ds.length
    · have := far cj; omega
    · have hkd : kindOf (K.take j) = kindN form := by
        have : kindOf (K.take j) = kindOf K := by unfold kindOf; rw [e0]
        rw [this, LK.kind hf h0 hk]
      rw [hkd] at b
      unfold numAt kindN at b
      rw [near cj] at a b
      by_cases z : form = 0
      · obtain ⟨a', b', d⟩ := LK.k8 z
        rw [if_pos z, if_pos rfl, show ((7 + ds.length + ss.length : Nat) : Int).toNat = 7 + ds.length + ss.length by omega, getD_take] at b
        split at b
        · rw [a'] at b; omega
        · omega
      · obtain ⟨a', d⟩ := LK.k7 z
        have hne : ¬ (if form = 0 then Str.ofString "initial" else if form = 1 then Str.ofString "zero" else if form = 2 then Str.ofString "handshake" else Str.ofString "short") = Str.ofString "initial" := by
          rw [if_neg z]
          rcases hf with h | rfl | rfl
          · exact absurd h z
          · decide
          · decide
        rw [if_neg hne] at b
        omega
end
end
section
section
variable {kk ds ss tl cs ps : List Int} {i form bits size : Int} {fixed : Bool}
noncomputable def Good (form : Int) (fixed : Bool) (ds ss : List Int) : Prop := fixed = true ∧ (form = 3 ∨ (ds.length ≤ 20 ∧ ss.length ≤ 20))
theorem short_len : (HL 3 bits size fixed ds ss tl ps).length = 1 + ds.length := by
  show (headL 3 bits size fixed ds ss tl ps.length).length = _
  rw [headL_short, List.length_cons]; omega
theorem short_ids (lc : cs.length ≤ 4) : ((KL kk i 3 bits size fixed ds ss tl cs ps).drop 1).take ds.length = ds := by
  rw [prot_sub lc (by decide) (by rw [short_len]; omega)]
  show ((headL 3 bits size fixed ds ss tl ps.length).drop 1).take ds.length = ds
  rw [headL_short, List.drop_succ_cons, List.drop_zero, List.take_length]
noncomputable def FX (f1 : Int) (fixed : Bool) : Prop := (f1.fdiv 64).fmod 2 ≠ 0 ↔ fixed = true
theorem read_law (V : HV form bits size ds ss tl ps.length) (lc : cs.length = size.toNat) :
    RawPre (KL kk i form bits size fixed ds ss tl cs ps) (ds.length : Int) ∧ (RawOk (KL kk i form bits size fixed ds ss tl cs ps) (ds.length : Int) ↔ Good form fixed ds ss) ∧
    kindOf (KL kk i form bits size fixed ds ss tl cs ps) = kindN form ∧ dcidOf (KL kk i form bits size fixed ds ss tl cs ps) (ds.length : Int) = ds ∧ scidOf (KL kk i form bits size fixed ds ss tl cs ps) = (if form = 3 then [] else ss) ∧ tokOf (KL kk i form bits size fixed ds ss tl cs ps) = (if form = 0 then tl else []) ∧
    naOf (KL kk i form bits size fixed ds ss tl cs ps) (ds.length : Int) = ((HL form bits size fixed ds ss tl ps).length : Int) ∧ enOf (KL kk i form bits size fixed ds ss tl cs ps) (ds.length : Int) = ((KL kk i form bits size fixed ds ss tl cs ps).length : Int) ∧
    ∀ j, 1 ≤ j → j + 1 ≤ (HL form bits size fixed ds ss tl ps).length → RawPre ((KL kk i form bits size fixed ds ss tl cs ps).take j) (ds.length : Int) ∧ ¬ RawOk ((KL kk i form bits size fixed ds ss tl cs ps).take j) (ds.length : Int) := by
  obtain ⟨f1, e0, s3, l3, fx⟩ := kl_0 (kk := kk) (i := i) (cs := cs) (fixed := fixed) (ds := ds) (ss := ss) (tl := tl) (ps := ps) V
  have hlen := kl_len (kk := kk) (i := i) (cs := cs) (fixed := fixed) V lc
  have F := f0_facts (form := form) (bits := bits) (size := size) (fixed := fixed) V.hf V.hb V.hz
  have hfx : FX f1 fixed := by unfold FX; rw [fx]; cases fixed <;> decide
  obtain ⟨vf, vb, vz, vd, vs, vt, vp⟩ := V
  have V : HV form bits size ds ss tl ps.length := ⟨vf, vb, vz, vd, vs, vt, vp⟩
  by_cases h3 : form = 3
  · subst h3
    obtain ⟨hlt, -⟩ := s3 rfl
    clear F s3 l3 fx
    have hs := short_ids (kk := kk) (i := i) (bits := bits) (size := size) (fixed := fixed) (ds := ds) (ss := ss) (tl := tl) (cs := cs) (ps := ps) (by omega)
    have hl := short_len (bits := bits) (size := size) (fixed := fixed) (ds := ds) (ss := ss) (tl := tl) (ps := ps)
    generalize KL kk i 3 bits size fixed ds ss tl cs ps = K at *
    generalize (HL 3 bits size fixed ds ss tl ps).length = hl' at *
    have hn : ¬ K.getD 0 0 ≥ 128 := by omega
    refine ⟨⟨by omega, by omega, by omega, by omega, fun h => absurd h hn, fun h => absurd h hn, fun h => absurd h hn, fun h => absurd h hn⟩, ?_, ?_, ?_, ?_, ?_, ?_, ?_, fun j j1 j2 => ?_⟩
    · unfold RawOk ShortOk Good
      unfold FX at hfx
      rw [if_neg hn, e0, hfx]
      constructor
      · exact fun h => ⟨h.1, .inl rfl⟩
      · exact fun h => ⟨h.1, by omega⟩
    · unfold kindOf; rw [if_neg hn]; rfl
    · unfold dcidOf; rw [if_neg hn, show ((ds.length : Int)).toNat = ds.length by omega]; exact hs
    · unfold scidOf; rw [if_neg hn]; rfl
    · unfold tokOf; rw [if_neg hn]; rfl
    · unfold naOf; rw [if_neg hn]; omega
    · unfold enOf; rw [if_neg hn]
    · have e0' : (K.take j).getD 0 0 = K.getD 0 0 := by rw [getD_take, if_pos (by omega)]
      have hn' : ¬ (K.take j).getD 0 0 ≥ 128 := by rw [e0']; exact hn
      have lt : (K.take j).length = j := by rw [List.length_take]; omega
      refine ⟨⟨by omega, by omega, by omega, by omega, fun h => absurd h hn', fun h => absurd h hn', fun h => absurd h hn', fun h => absurd h hn'⟩, ?_⟩
      unfold RawOk ShortOk
      rw [if_neg hn', lt]
      exact fun h => by have := h.2; omega
  · obtain ⟨hge, h16⟩ := l3 h3
    have LK := longK (kk := kk) (i := i) (fixed := fixed) V lc h3
    have hk : (f1.fdiv 16).fmod 4 = form := by rw [h16]; exact F.2.2.2.2.2.2.1 h3
    clear F s3 l3 fx
    generalize KL kk i form bits size fixed ds ss tl cs ps = K at *
    generalize (HL form bits size fixed ds ss tl ps).length = hl' at *
    have hf : form = 0 ∨ form = 1 ∨ form = 2 := by omega
    subst e0
    have hn : 0 ≤ size + (ps.length : Int) + 16 ∧ size + (ps.length : Int) + 16 < 64 := by omega
    have hlen' : (K.length : Int) = hl' + (size + (ps.length : Int) + 16) := by omega
    obtain ⟨v1, v2, v3, v4, v5⟩ := LK.vals hf hlen' hn hge hk vd vs vt
    refine ⟨LK.pre hf hlen' hn hge hk vd vs vt, ?_, LK.kind hf hge hk, v1, by rw [if_neg h3]; exact v2, v3, v4, v5, fun j j1 j2 => LK.cut hf hlen' hn hge hk vd vs vt j1 j2⟩
    unfold FX at hfx
    rw [LK.ok hf hlen' hn hge hk vd vs vt, hfx]
    unfold Good
    constructor
    · exact fun h => ⟨h.1, .inr h.2⟩
    · exact fun h => ⟨h.1, h.2.elim (fun z => absurd z h3) id⟩
theorem open_law (V : HV form bits size ds ss tl ps.length) {number : Int} (hc : cs = List.replicate (size - 1).toNat 0 ++ [number]) (hn : 0 ≤ number ∧ number < 100) (hp : ∀ n ∈ ps, 0 ≤ n) :
    bareF kk (KL kk number form bits size fixed ds ss tl cs ps) (HL form bits size fixed ds ss tl ps).length = f0 form bits size fixed ∧
    be2n ((bareL kk (KL kk number form bits size fixed ds ss tl cs ps) (HL form bits size fixed ds ss tl ps).length).drop (HL form bits size fixed ds ss tl ps).length) = number ∧
    ((KL kk number form bits size fixed ds ss tl cs ps).drop (((HL form bits size fixed ds ss tl ps).length : Int) + ((bareF kk (KL kk number form bits size fixed ds ss tl cs ps) (HL form bits size fixed ds ss tl ps).length).fmod 4 + 1)).toNat
      = turned kk number ps ++ tagL kk number (bareL kk (KL kk number form bits size fixed ds ss tl cs ps) (HL form bits size fixed ds ss tl ps).length) (turned kk number ps)) ∧
    turned kk number (turned kk number ps) = ps ∧ resv (bareF kk (KL kk number form bits size fixed ds ss tl cs ps) (HL form bits size fixed ds ss tl ps).length) = bits := by
  obtain ⟨a0, a1, -, -, a4, a5, -, -⟩ := f0_facts (form := form) (bits := bits) (size := size) (fixed := fixed) V.hf V.hb V.hz
  have hz := V.hz
  have lcs : cs.length = size.toNat := by rw [hc, List.length_append, List.length_replicate]; show _ + 1 = _; omega
  have lh := (hl_le (fixed := fixed) V).1
  have h0 : (HL form bits size fixed ds ss tl ps).getD 0 0 = f0 form bits size fixed := headL_0
  have eF := prot_bareF (kk := kk) (i := number) (hs := HL form bits size fixed ds ss tl ps) (cs := cs) (ps := ps) (by omega) lh (by omega) (by omega)
  have eL := prot_bareL (kk := kk) (i := number) (hs := HL form bits size fixed ds ss tl ps) (cs := cs) (ps := ps) (by omega) lh (by omega) (by omega) (by rw [h0, a4, lcs]) (fun n hn' => by
    rw [hc] at hn'
    rcases List.mem_append.mp hn' with h | h
    · rw [(List.mem_replicate.mp h).2]; decide
    · rw [List.mem_singleton.mp h]; exact hn.1)
  rw [h0] at eF
  refine ⟨eF, ?_, ?_, turned_twice hp, by rw [eF, a5]⟩
  · rw [eL, List.drop_left, hc, be2n_cut]
  · rw [eF, eL]
    have : (((HL form bits size fixed ds ss tl ps).length : Int) + ((f0 form bits size fixed).fmod 4 + 1)).toNat = (HL form bits size fixed ds ss tl ps).length + cs.length := by
      have := fm4 (f0 form bits size fixed)
      omega
    rw [this, prot_tail (by omega) lh]
end
end
section
variable {w : World} {p : Program} {loose : List Str} {mean : ExcName → Option Value} {mg mb : Str → Option Value}
noncomputable def Menu (n : Int) : Prop := n = 2 ∨ n = 3 ∨ n = 20 ∨ n = 21 ∨ n = 0
noncomputable abbrev S (x : String) : Str := Str.ofString x
inductive LJ (a : Addr) (h₀ : Heap) (L : Addr) (s : Shared) (G : List (Str × Value) → Prop) (s' : Shared) : Prop
  | mk (l : List (Str × Value)) (h' : Heap) (tk' : Nat) (D : Addr) (Ra : Addr) (vs : List Value) (ns : List Int) (seed : Int) (ts : Tok) (n1 : Nat) (n2 : Nat) (q0 : G l) (q1 : s' = { s with heap := h', toks := tk' }) (q2 : (@Ne Nat D Ra)) (q3 : Dr vs ns seed) (q4 : Fr h₀ L h' (bmap (l ++ [(S "draws", .ref D), (S "script", .ref a)]))) (q5 : News h₀ L h' [(D, drD Ra seed ts n1), (Ra, listOf vs.toArray n2)]) : LJ a h₀ L s G s'
inductive LF (a : Addr) (h₀ : Heap) (L : Addr) (s : Shared) (l : List (Str × Value)) (D : Addr) (s' : Shared) : Prop
  | mk (h' : Heap) (tk' : Nat) (q0 : s' = { s with heap := h', toks := tk' }) (q1 : Fr h₀ L h' (bmap (l ++ [(S "draws", .ref D), (S "script", .ref a)]))) : LF a h₀ L s l D s'
inductive RJ (w : World) (a : Addr) (h₀ : Heap) (L : Addr) (s : Shared) (l : List (Str × Value)) (Dr : Addr) (x : Str) (fi : Int) (D : Array UInt8) (na en : Int) (P : Array UInt8 → Array UInt8 → Prop) (s' : Shared) : Prop
  | mk (r : Addr) (d : Addr) (Sc : Array UInt8) (Tk : Array UInt8) (G : Array UInt8) (lv : Addr) (k0 : Tok) (k1 : Tok) (k2 : Tok) (k3 : Tok) (k4 : Tok) (k5 : Tok) (k6 : Tok) (k7 : Tok) (k8 : Tok) (k9 : Tok) (k10 : Tok) (u0 : Tok) (u1 : Tok) (u2 : Tok) (u3 : Tok) (u4 : Tok) (u5 : Tok) (u6 : Tok) (u8 : Tok) (u9 : Tok) (u10 : Tok) (h' : Heap) (tk' : Nat) (q0 : P Sc Tk) (q1 : s' = { s with heap := h', toks := tk' }) (q2 : Fr h₀ L h' (bmap ((S "raw", .ref r) :: l ++ [(S "draws", .ref Dr), (S "script", .ref a)]))) (q3 : News h₀ L h' [(r, instObj 177 d), (d, dictOf [{ hash := PyData.keyHash w.params (Str.ofString "kind"), key := .str (Str.ofString "kind") k0, val := .str x u0 }, { hash := PyData.keyHash w.params (Str.ofString "first"), key := .str (Str.ofString "first") k1, val := .int fi u1 }, { hash := PyData.keyHash w.params (Str.ofString "version"), key := .str (Str.ofString "version") k2, val := .int 1 u2 }, { hash := PyData.keyHash w.params (Str.ofString "dcid"), key := .str (Str.ofString "dcid") k3, val := .bytes D u3 }, { hash := PyData.keyHash w.params (Str.ofString "scid"), key := .str (Str.ofString "scid") k4, val := .bytes Sc u4 }, { hash := PyData.keyHash w.params (Str.ofString "token"), key := .str (Str.ofString "token") k5, val := .bytes Tk u5 }, { hash := PyData.keyHash w.params (Str.ofString "tag"), key := .str (Str.ofString "tag") k6, val := .bytes G u6 }, { hash := PyData.keyHash w.params (Str.ofString "versions"), key := .str (Str.ofString "versions") k7, val := .ref lv }, { hash := PyData.keyHash w.params (Str.ofString "start"), key := .str (Str.ofString "start") k8, val := .int 0 u8 }, { hash := PyData.keyHash w.params (Str.ofString "number_at"), key := .str (Str.ofString "number_at") k9, val := .int na u9 }, { hash := PyData.keyHash w.params (Str.ofString "end"), key := .str (Str.ofString "end") k10, val := .int en u10 }] 11)]) : RJ w a h₀ L s l Dr x fi D na en P s'
inductive KJ (a : Addr) (h₀ : Heap) (L : Addr) (s : Shared) (l : List (Str × Value)) (D : Addr) (x : Str) (s' : Shared) : Prop
  | mk (t : Tok) (rr : Addr) (h' : Heap) (tk' : Nat) (q0 : s' = { s with heap := h', toks := tk' }) (q1 : Fr h₀ L h' (bmap ((S "kind", .str x t) :: (S "raw", .ref rr) :: l ++ [(S "draws", .ref D), (S "script", .ref a)]))) : KJ a h₀ L s l D x s'
inductive TJ (a : Addr) (h₀ : Heap) (L : Addr) (s : Shared) (l : List (Str × Value)) (D : Addr) (bits : Int) (x : Str) (number : Int) (Bp : Array UInt8) (s' : Shared) : Prop
  | mk (v : Value) (h' : Heap) (tk' : Nat) (q0 : s' = { s with heap := h', toks := tk' }) (q1 : Fr h₀ L h' (bmap ((S "told", v) :: l ++ [(S "draws", .ref D), (S "script", .ref a)]))) (q2 : ((bits = 0 ∧ ∃ T a q u, v = .ref T ∧ ((∃ v1 v2 v3, News h₀ L h' [(T, { cls := .type "tuple", data := .seq #[.str x a, v1, v2, v3, .int number u, .bytes Bp q] })]) ∨ ∃ v1 v2 v3 v4, News h₀ L h' [(T, { cls := .type "tuple", data := .seq #[.str x a, v1, v2, v3, v4, .int number u, .bytes Bp q] })])) ∨ (bits ≠ 0 ∧ ∃ t, v = .int 10 t))) : TJ a h₀ L s l D bits x number Bp s'
noncomputable def G2 (form bits size : Int) (fixed : Bool) (l : List (Str × Value)) : Prop := ∃ t1 t2 t3, l = [(S "size", .int size t3), (S "fixed", .bool fixed), (S "bits", .int bits t2), (S "form", .int form t1)]
noncomputable def G3 (x : Str) (c : Int) (n : Int) (G : List (Str × Value) → Prop) (l : List (Str × Value)) : Prop := ∃ l₂ B t, G l₂ ∧ l = (x, .bytes B t) :: l₂ ∧ KBw.bInts B = List.replicate n.toNat c
theorem dCut {M : Model} {A : Around} {E : Value → Shared → Prop} {s : Shared} {env : Env} {Q : Flow → Shared → Prop} (J : Shared → Prop) (pre : List Stmt) {rest : List Stmt} (h1 : wpD M A (execs pre env) (fun f s' => match f with | .next => J s' | f => Q f s') E s) (h2 : ∀ s', J s' → wpD M A (execs rest env) Q E s') :
    wpD M A (execs (pre ++ rest) env) Q E s := by
  intro Γ p hΓ c1 c2
  have key : ∀ (pre : List Stmt) p (s : Shared), Sem.wp M Γ (execs pre env) (fun f _ s' => match f with | .next => J s' | f => Q f s') (fun e _ s' => E e s') p s → Sem.wp M Γ (execs (pre ++ rest) env) (fun f _ s' => Q f s') (fun e _ s' => E e s') p s := by
    intro pre
    induction pre with
    | nil =>
      intro p s h
      exact h2 s h Γ p hΓ c1 c2
    | cons st r ih =>
      intro p s h
      rw [List.cons_append, execs_cons]
      rw [execs_cons] at h
      rw [Sem.wp_bind'] at h ⊢
      refine Sem.wp_mono _ Γ _ (fun f p' s' z => ?_) (fun _ _ _ z => z) p s h
      cases f with
      | next => exact ih p' s' z
      | _ => exact z
  exact key pre p s (h1 Γ p hΓ c1 c2)
theorem eq_str_same {prog : Program} {A : Around} {E : Value → Shared → Prop} {s : Shared} {a : Str} {t u : Tok} {Q : Value → Shared → Prop} (h : Q (.bool true) s) : wpAny (model prog w) A (compareOp .Eq (.str a t) (.str a u)) Q E s :=
  eq_str (by rw [beq_self_eq_true]; exact h)
theorem kind4 {prog : Program} {A : Around} {E : Value → Shared → Prop} {s : Shared} {h₀ : Heap} {L l : Addr} {news : List (Addr × Obj)} {value slice : PySem.Expr} {y : Int} {u a b c d : Tok} {k : Nat} {Q : Value → Shared → Prop} (N : News h₀ L s.heap news) (hm : (l, listOf #[.str (Str.ofString "initial") a, .str (Str.ofString "zero") b, .str (Str.ofString "handshake") c, .str (Str.ofString "short") d] k) ∈ news) (hy : 0 ≤ y ∧ y < 4)
    (h : ∀ t, Q (.str (kindN y) t) s)
    (hs : subscripted slice false (.ref l) (.int y u) = operate [.ref l, .int y u] (getItem (.ref l) (.int y u))) :
    wpAny (model prog w) A (subscriptTail value slice (.ref l) (.int y u)) Q E s := by
  have hl : s.heap.IsList l #[.str (Str.ofString "initial") a, .str (Str.ofString "zero") b, .str (Str.ofString "handshake") c, .str (Str.ofString "short") d] := ⟨_, (N _ hm).1, rfl, _, rfl⟩
  obtain rfl | rfl | rfl | rfl : y = 0 ∨ y = 1 ∨ y = 2 ∨ y = 3 := by omega
  · exact tail_any hl.typeIs slot_list_getitem.lookup (wpAny_getItem_list hl (by decide) (by decide) rfl (h _)) hs
  · exact tail_any hl.typeIs slot_list_getitem.lookup (wpAny_getItem_list hl (by decide) (by decide) rfl (h _)) hs
  · exact tail_any hl.typeIs slot_list_getitem.lookup (wpAny_getItem_list hl (by decide) (by decide) rfl (h _)) hs
  · exact tail_any hl.typeIs slot_list_getitem.lookup (wpAny_getItem_list hl (by decide) (by decide) rfl (h _)) hs
theorem eq_int_ne {prog : Program} {A : Around} {E : Value → Shared → Prop} {s : Shared} {a b : Int} {t u : Tok} {Q : Value → Shared → Prop} (hab : a ≠ b) (h : Q (.bool false) s) : wpAny (model prog w) A (compareOp .Eq (.int a t) (.int b u)) Q E s :=
  eq_int (by rw [show (a == b) = false by simpa using hab]; exact h)
theorem ne_same {prog : Program} {A : Around} {E : Value → Shared → Prop} {s : Shared} {b : Array UInt8} {t u : Tok} {Q : Value → Shared → Prop} (h : Q (.bool false) s) : wpAny (model prog w) A (compareOp .NotEq (.bytes b t) (.bytes b u)) Q E s :=
  W.ne_bytes (by rw [show (b.toList != b.toList) = false by simp]; exact h)
theorem useRefB {A : Around} {h₀ : Heap} {L : Addr} {m : Str → Option Value} {env : Env} {news : List (Addr × Obj)} {s : Shared} {Q E : Value → Shared → Prop} {f : Addr} {vs : List Value} {d u : Nat} {g : Bool} (C : RCon w p loose mean mg mb f vs d u (fun _ v => v = .bool (!g))) (F : Fr h₀ L s.heap m) (N : News h₀ L s.heap news) (X : (hd.heap_39 w.params).In h₀) (T : Top p loose mean mg mb h₀)
    (hA : A.frames = some [env]) (hh : A.handled = none) (hK : env.scope.kind = .function) (hfr : env.frame = some L) (hdp : A.depth + d < recursionLimit) (hun : A.units + u < cLine)
    (k : ∀ h' tk', Fr h₀ L h' m → News h₀ L h' news → Q (.bool (!g)) { s with heap := h', toks := tk' }) :
    wpAny (model PySem.Challenge.rw_no0081_01.row.prog w) A (call (.ref f) vs) Q E s :=
  useRef C F N X T hA hh hK hfr hdp hun fun v h' tk' e F' N' => by
    have e' : v = .bool (!g) := e
    subst e'
    exact k h' tk' F' N'
theorem c_refused' (b : Array UInt8) (tb tc : Tok) (c : Int) (ks : List Int) {g : Bool} (hb : KBw.bInts b = ks) (hpre : RawPre ks c) (hg : g = true ↔ RawOk ks c) :
   RCon w p loose mean mg mb 364 [.bytes b tb, .int c tc] 90 600 (fun _ v => v = .bool (!g)) := by
  intro A base l s hh B X T hsz hd hu
  refine codeAny_mono (c_refused b tb tc c ks hb hpre A base l s hh B X T hsz hd hu) ?_
  rintro r s' ⟨v, h', tk', e1, e2, hp, st, up⟩
  refine ⟨v, h', tk', e1, e2, ?_, st, up⟩
  rcases hp with ⟨rfl, ok⟩ | ⟨rfl, nok⟩
  · rw [hg.mpr ok]; rfl
  · cases g
    · rfl
    · exact absurd (hg.mp rfl) nok
theorem c_refcut (b : Array UInt8) (tb tc : Tok) (K : List Int) (c y : Int) (hl : Nat) (hb : KBw.bInts b = List.take (clipAt K.length (1 + y)) K) (h0 : 0 ≤ y) (h1 : y < (hl : Int) - 1) (hle : hl ≤ K.length) (hj : ∀ j, 1 ≤ j → j + 1 ≤ hl → RawPre (K.take j) c ∧ ¬ RawOk (K.take j) c) :
   RCon w p loose mean mg mb 364 [.bytes b tb, .int c tc] 90 600 (fun _ v => v = .bool (!false)) := by
  rw [PyProof.Rows.clipAt_in (by omega) (by omega)] at hb
  have := hj (1 + y).toNat (by omega) (by omega)
  exact c_refused' b tb tc c _ hb this.1 ⟨fun q => Bool.noConfusion q, fun q => absurd q this.2⟩
noncomputable def JI (c : Int) (s : Shared) (v : Value) (s' : Shared) : Prop := ∃ t tk', v = .int c t ∧ s' = { s with toks := tk' }
theorem joinI {prog : Program} {A : Around} {E : Value → Shared → Prop} {s : Shared} {env : Env} {e : PySem.Expr} {Q : Value → Shared → Prop} (c : Int) (lo : 0 ≤ c) (hi : c ≤ 100)
    (h1 : wpAny (model prog w) A (eval e env) (JI c s) E s) (h2 : ∀ n t tk', n = c → 0 ≤ n → n ≤ 100 → Q (.int n t) { s with toks := tk' }) : wpAny (model prog w) A (eval e env) Q E s :=
  wpAny_mono h1 (fun v s' ⟨t, tk', e1, e2⟩ => by subst e1; subst e2; exact h2 c t tk' rfl lo hi) fun _ _ x => x
theorem cut_end {Y : Array UInt8} {number : Int} {n : Nat} {zs : List Int} (e : KBw.bInts Y = zs) (q : zs = List.replicate n 0) (hb : ((number.toNat.toUInt8.toNat : Nat) : Int) = number) : KBw.bInts (Y ++ #[number.toNat.toUInt8]) = List.replicate n 0 ++ [number] := by
  subst q
  unfold KBw.bInts at e ⊢
  rw [Array.toList_append, List.map_append, e]
  simp only [List.map_cons, List.map_nil, hb]
theorem rep_fact {Y : Array UInt8} {n : Nat} {c : Int} (e : KBw.bInts Y = List.replicate n c) : ∃ zs, KBw.bInts Y = zs ∧ zs = List.replicate n c ∧ zs.length = n := ⟨_, e, rfl, List.length_replicate⟩
theorem menu_bd {n : Int} (h : Menu n) : 0 ≤ n ∧ n ≤ 21 := by unfold Menu at h; omega
theorem frCong {h₀ h : Heap} {L : Addr} {m m' : Str → Option Value} (F : Fr h₀ L h m) (e : ∀ y, m y = m' y) : Fr h₀ L h m' := by
  have : m = m' := funext e
  subst this; exact F
theorem frHead {h₀ h : Heap} {L : Addr} {x : Str} {v : Value} {m m' : Str → Option Value} (F : Fr h₀ L h (fun y => if y = x then some v else m y)) (e : ∀ y, ¬ y = x → m y = m' y) : Fr h₀ L h (fun y => if y = x then some v else m' y) :=
  frCong F fun y => by
    by_cases h : y = x
    · simp only [if_pos h]
    · simp only [if_neg h]; exact e y h
theorem rep_facts {Y : Array UInt8} {n : Nat} (e : KBw.bInts Y = List.replicate n 0) : ∃ zs, KBw.bInts Y = zs ∧ zs = List.replicate n 0 ∧ zs.length = n := ⟨_, e, rfl, List.length_replicate⟩
theorem oct_le {Y : Array UInt8} {zs : List Int} {n : Nat} (e : KBw.bInts Y = zs) (h : zs.length ≤ n) : (KBw.bInts Y).length ≤ n := by rw [e]; exact h
theorem hello_len {Y : Array UInt8} : (KBw.bInts (#[104, 101, 108, 108, 111] ++ Y)).length = 5 + (KBw.bInts Y).length := by
  unfold KBw.bInts
  simp; omega
theorem newsTwo {h₀ h : Heap} {L : Addr} {news : List (Addr × Obj)} {p q : Addr × Obj} (N : News h₀ L h news) (h1 : p ∈ news) (h2 : q ∈ news) : News h₀ L h [p, q] := fun z hz => by
  rcases List.mem_cons.mp hz with rfl | hz
  · exact N _ h1
  · rw [List.mem_singleton.mp hz]; exact N _ h2
theorem menu4 {prog : Program} {A : Around} {E : Value → Shared → Prop} {s : Shared} {h₀ : Heap} {L l : Addr} {news : List (Addr × Obj)} {value slice : PySem.Expr} {y : Int} {u a b c d : Tok} {k : Nat} {x : Int} {Q : Value → Shared → Prop} (N : News h₀ L s.heap news) (hm : (l, listOf #[.int x a, .int 20 b, .int 21 c, .int 0 d] k) ∈ news) (h0 : 0 ≤ y) (h4 : y < 4) (hx : x = 2 ∨ x = 3)
    (h : ∀ n t, Menu n → 0 ≤ n → n ≤ 21 → Q (.int n t) s)
    (hs : subscripted slice false (.ref l) (.int y u) = operate [.ref l, .int y u] (getItem (.ref l) (.int y u))) :
    wpAny (model prog w) A (subscriptTail value slice (.ref l) (.int y u)) Q E s := by
  have hl : s.heap.IsList l #[.int x a, .int 20 b, .int 21 c, .int 0 d] := ⟨_, (N _ hm).1, rfl, _, rfl⟩
  obtain rfl | rfl | rfl | rfl : y = 0 ∨ y = 1 ∨ y = 2 ∨ y = 3 := by omega
  · exact tail_any hl.typeIs slot_list_getitem.lookup (wpAny_getItem_list hl (by decide) (by decide) rfl (h _ _ (by unfold Menu; omega) (by omega) (by omega))) hs
  · exact tail_any hl.typeIs slot_list_getitem.lookup (wpAny_getItem_list hl (by decide) (by decide) rfl (h _ _ (by unfold Menu; omega) (by decide) (by decide))) hs
  · exact tail_any hl.typeIs slot_list_getitem.lookup (wpAny_getItem_list hl (by decide) (by decide) rfl (h _ _ (by unfold Menu; omega) (by decide) (by decide))) hs
  · exact tail_any hl.typeIs slot_list_getitem.lookup (wpAny_getItem_list hl (by decide) (by decide) rfl (h _ _ (by unfold Menu; omega) (by decide) (by decide))) hs
theorem rep_flat (n : Nat) (c : UInt8) : KBw.bInts (List.replicate n [c]).flatten.toArray = List.replicate n ((c.toNat : Nat) : Int) := by
  unfold KBw.bInts
  rw [List.toList_toArray]
  induction n with
  | zero => rfl
  | succ n ih =>
    rw [List.replicate_succ, List.flatten_cons, List.map_append, ih, List.replicate_succ]
    rfl
set_option maxHeartbeats 0 in
theorem x_law (a : Addr) (vs : List Value) (ns : List Int) (hi : IntsAre vs ns) (hl : ns.length ≤ 63) (dp un : Nat) (s : Shared) (R : Result → Shared → Prop)
    (B : Below ⟨none, dp, some [], some [], un⟩ s.heap [] s.heap) (X : (hd.heap_39 w.params).In s.heap) (T : Top p loose mean mg mb s.heap) (hs : s.heap.IsList a vs.toArray) (hdp : dp + 300 < recursionLimit) (hun : un + 2000 < cLine)
    (hret : ∀ h' tk', s.heap.StaysIn h' → R (.ok (.ret (.bool true))) { s with heap := h', toks := tk' }) :
    codeD (model PySem.Challenge.rw_no0081_01.row.prog w) ⟨none, dp, some [], some [], un⟩ (.call (.ref 378) ⟨[.ref a], []⟩) R s := by
  refine dEnter (binds := [(Str.ofString "script", .ref a)]) X T (by k_is) (by k_is) (by ktr_room) (BindsTo.of_eq rfl) (locs rfl) (fun L' h₁' F' N' => ?_) rfl rfl rfl (by decide)
  (dsimp only [List.reverse, List.reverseAux, bmap] at F')
  (try dsimp only)
  refine dCut (LJ a s.heap L' s fun l => ∃ form bits size fixed, (0 ≤ form ∧ form < 4) ∧ (0 ≤ bits ∧ bits < 4) ∧ (1 ≤ size ∧ size ≤ 4) ∧ G2 form bits size fixed l) [_, _] ?_ (fun s₂ j => ?_)
  · skip
    refine dExecs (dAny ?_)
    (try k_fold)
    repeat' (first | (k_unfold; (try dsimp only)) | (k_end; wrow_close) | (k_here; (with_reducible show wpAny _ _ (call (Value.ref 345) _) _ _ _); k_dflt (refine useDraws (by assumption) (by assumption) (by k_asm) (by k_asm) (by assumption) (by exact rfl) (by assumption) (by assumption) (by assumption) (by exact rfl) (by exact rfl) (by exact rfl) (by ktr_room) (by ktr_units) ?_); intro h9 tk9 D9 R9 vs9 ns9 sd9 ts9 n19 n29 ne9 dr9 F9 N9; tb_rel) | walk1 | (dsimp only; first | (k_here; (with_reducible show wpAny _ _ (call (Value.ref 345) _) _ _ _); k_dflt (refine useDraws (by assumption) (by assumption) (by k_asm) (by k_asm) (by assumption) (by exact rfl) (by assumption) (by assumption) (by assumption) (by exact rfl) (by exact rfl) (by exact rfl) (by ktr_room) (by ktr_units) ?_); intro h9 tk9 D9 R9 vs9 ns9 sd9 ts9 n19 n29 ne9 dr9 F9 N9; tb_rel) | walk1) | (leave1; try dsimp only) | (with_reducible refine dABin ?_) | (with_reducible refine dAName ?_) | (with_reducible refine dAStore ?_) | (with_reducible refine dACmp ?_) | (with_reducible refine dATru ?_) | (with_reducible refine dASub ?_) | (with_reducible refine dSplNil ?_))
    refine dExecs (dAny ?_)
    (try k_fold)
    repeat' (first | (k_unfold; (try dsimp only)) | (k_end; wrow_close) | (k_here; (with_reducible show wpAny _ _ (call (Value.ref 352) _) _ _ _); k_dflt (first | refine useTake (rest := [(_, listOf #[.int _ _, .int 20 _, .int 21 _, .int 0 _] _)]) (by omega) (by omega) (by assumption) (by k_asm) (by k_asm) (by k_mem) (by k_mem) (by omega) (by intro q hq; rw [List.mem_singleton.mp hq]; exact ⟨by k_mem, by omega, by omega⟩) (by exact rfl) (by assumption) (by assumption) (by assumption) (by exact rfl) (by exact rfl) (by exact rfl) (by ktr_room) (by ktr_units) ?_ | refine useTake (rest := []) (by omega) (by omega) (by assumption) (by k_asm) (by k_asm) (by k_mem) (by k_mem) (by omega) (fun q hq => nomatch hq) (by exact rfl) (by assumption) (by assumption) (by assumption) (by exact rfl) (by exact rfl) (by exact rfl) (by ktr_room) (by ktr_units) ?_); intro y9 t9 h9 tk9 vs9 ns9 sd9 ts9 n19 n29 lo9 hi9 dr9 F9 N9; tb_rel) | walk1 | (dsimp only; first | (k_here; (with_reducible show wpAny _ _ (call (Value.ref 352) _) _ _ _); k_dflt (first | refine useTake (rest := [(_, listOf #[.int _ _, .int 20 _, .int 21 _, .int 0 _] _)]) (by omega) (by omega) (by assumption) (by k_asm) (by k_asm) (by k_mem) (by k_mem) (by omega) (by intro q hq; rw [List.mem_singleton.mp hq]; exact ⟨by k_mem, by omega, by omega⟩) (by exact rfl) (by assumption) (by assumption) (by assumption) (by exact rfl) (by exact rfl) (by exact rfl) (by ktr_room) (by ktr_units) ?_ | refine useTake (rest := []) (by omega) (by omega) (by assumption) (by k_asm) (by k_asm) (by k_mem) (by k_mem) (by omega) (fun q hq => nomatch hq) (by exact rfl) (by assumption) (by assumption) (by assumption) (by exact rfl) (by exact rfl) (by exact rfl) (by ktr_room) (by ktr_units) ?_); intro y9 t9 h9 tk9 vs9 ns9 sd9 ts9 n19 n29 lo9 hi9 dr9 F9 N9; tb_rel) | walk1) | (leave1; try dsimp only) | (with_reducible refine dABin ?_) | (with_reducible refine dAName ?_) | (with_reducible refine dAStore ?_) | (with_reducible refine dACmp ?_) | (with_reducible refine dATru ?_) | (with_reducible refine dASub ?_) | (with_reducible refine dSplNil ?_))
    refine dAny ?_
    (try k_fold)
    repeat' (first | (k_unfold; (try dsimp only)) | (k_end; wrow_close) | walk1 | (dsimp only; walk1) | (leave1; try dsimp only) | (with_reducible refine dABin ?_) | (with_reducible refine dAName ?_) | (with_reducible refine dAStore ?_) | (with_reducible refine dACmp ?_) | (with_reducible refine dATru ?_) | (with_reducible refine dASub ?_) | (with_reducible refine dSplNil ?_))
    rename Fr _ _ _ _ => F9
    rename News _ _ _ _ => N9
    rename Dr _ _ _ => dr9
    refine ⟨_, _, _, _, _, _, _, _, _, _, _, ⟨_, _, _, _, ⟨?_, ?_⟩, ⟨?_, ?_⟩, ⟨?_, ?_⟩, _, _, _, rfl⟩, rfl, ?_, dr9, F9, newsTwo N9 (by k_mem) (by k_mem)⟩
    all_goals omega
  obtain ⟨l9, h9, tk9, D, Ra, vs9, ns9, seed, ts, n1, n2, ⟨form, bits, size, fixed, hf, hb, hz, t1, t2, t3, rfl⟩, rfl, hne, dr9, F9, N9⟩ := j
  (dsimp only [List.cons_append, List.nil_append, bmap, S] at F9)
  (try dsimp only)
  refine dCut (LJ a s.heap L' s fun l => ∃ nd, Menu nd ∧ G3 (S "dcid") 7 nd (G2 form bits size fixed) l) [_] ?_ (fun s₂ j => ?_)
  · skip
    refine dExecs (dAny ?_)
    (try k_fold)
    repeat' (first | (k_unfold; (try dsimp only)) | (k_end; wrow_close) | (k_here; (with_reducible show wpAny _ _ (subscriptTail _ _ (Value.ref _) (Value.int _ _)) _ _ _); k_dflt (refine menu4 (by k_asm) (by k_mem) (by omega) (by omega) (by omega) ?_ (by with_unfolding_all rfl)); intro n9 t9 mn9 mlo9 mhi9; tb_rel) | (k_here; (with_reducible show wpAny _ _ (call (Value.ref 352) _) _ _ _); k_dflt (first | refine useTake (rest := [(_, listOf #[.int _ _, .int 20 _, .int 21 _, .int 0 _] _)]) (by omega) (by omega) (by assumption) (by k_asm) (by k_asm) (by k_mem) (by k_mem) (by omega) (by intro q hq; rw [List.mem_singleton.mp hq]; exact ⟨by k_mem, by omega, by omega⟩) (by exact rfl) (by assumption) (by assumption) (by assumption) (by exact rfl) (by exact rfl) (by exact rfl) (by ktr_room) (by ktr_units) ?_ | refine useTake (rest := []) (by omega) (by omega) (by assumption) (by k_asm) (by k_asm) (by k_mem) (by k_mem) (by omega) (fun q hq => nomatch hq) (by exact rfl) (by assumption) (by assumption) (by assumption) (by exact rfl) (by exact rfl) (by exact rfl) (by ktr_room) (by ktr_units) ?_); intro y9 t9 h9 tk9 vs9 ns9 sd9 ts9 n19 n29 lo9 hi9 dr9 F9 N9; tb_rel) | walk1 | (dsimp only; first | (k_here; (with_reducible show wpAny _ _ (subscriptTail _ _ (Value.ref _) (Value.int _ _)) _ _ _); k_dflt (refine menu4 (by k_asm) (by k_mem) (by omega) (by omega) (by omega) ?_ (by with_unfolding_all rfl)); intro n9 t9 mn9 mlo9 mhi9; tb_rel) | (k_here; (with_reducible show wpAny _ _ (call (Value.ref 352) _) _ _ _); k_dflt (first | refine useTake (rest := [(_, listOf #[.int _ _, .int 20 _, .int 21 _, .int 0 _] _)]) (by omega) (by omega) (by assumption) (by k_asm) (by k_asm) (by k_mem) (by k_mem) (by omega) (by intro q hq; rw [List.mem_singleton.mp hq]; exact ⟨by k_mem, by omega, by omega⟩) (by exact rfl) (by assumption) (by assumption) (by assumption) (by exact rfl) (by exact rfl) (by exact rfl) (by ktr_room) (by ktr_units) ?_ | refine useTake (rest := []) (by omega) (by omega) (by assumption) (by k_asm) (by k_asm) (by k_mem) (by k_mem) (by omega) (fun q hq => nomatch hq) (by exact rfl) (by assumption) (by assumption) (by assumption) (by exact rfl) (by exact rfl) (by exact rfl) (by ktr_room) (by ktr_units) ?_); intro y9 t9 h9 tk9 vs9 ns9 sd9 ts9 n19 n29 lo9 hi9 dr9 F9 N9; tb_rel) | walk1) | (leave1; try dsimp only) | (with_reducible refine dABin ?_) | (with_reducible refine dAName ?_) | (with_reducible refine dAStore ?_) | (with_reducible refine dACmp ?_) | (with_reducible refine dATru ?_) | (with_reducible refine dASub ?_) | (with_reducible refine dSplNil ?_))
    refine dAny ?_
    (try k_fold)
    repeat' (first | (k_unfold; (try dsimp only)) | (k_end; wrow_close) | walk1 | (dsimp only; walk1) | (leave1; try dsimp only) | (with_reducible refine dABin ?_) | (with_reducible refine dAName ?_) | (with_reducible refine dAStore ?_) | (with_reducible refine dACmp ?_) | (with_reducible refine dATru ?_) | (with_reducible refine dASub ?_) | (with_reducible refine dSplNil ?_))
    rename Fr _ _ _ _ => F9
    rename News _ _ _ _ => N9
    rename Dr _ _ _ => dr9
    refine ⟨_, _, _, _, _, _, _, _, _, _, _, ⟨_, by assumption, _, _, _, ⟨_, _, _, rfl⟩, rfl, rep_flat _ _⟩, rfl, ?_, dr9, F9, newsTwo N9 (by k_mem) (by k_mem)⟩
    all_goals omega
  clear F9 N9 dr9
  obtain ⟨l9, h9, tk9, D, Ra, vs9, ns9, seed, ts, n1, n2, ⟨nd, hnd, l3, Bd, td, ⟨t1, t2, t3, rfl⟩, rfl, hBd⟩, rfl, hne, dr9, F9, N9⟩ := j
  (dsimp only [List.cons_append, List.nil_append, bmap, S] at F9)
  (try dsimp only)
  refine dCut (LJ a s.heap L' s fun l => ∃ nd, Menu nd ∧ G3 (S "scid") 9 nd (fun l => l = [(S "dcid", .bytes Bd td), (S "size", .int size t3), (S "fixed", .bool fixed), (S "bits", .int bits t2), (S "form", .int form t1)]) l) [_] ?_ (fun s₂ j => ?_)
  · skip
    refine dExecs (dAny ?_)
    (try k_fold)
    repeat' (first | (k_unfold; (try dsimp only)) | (k_end; wrow_close) | (k_here; (with_reducible show wpAny _ _ (subscriptTail _ _ (Value.ref _) (Value.int _ _)) _ _ _); k_dflt (refine menu4 (by k_asm) (by k_mem) (by omega) (by omega) (by omega) ?_ (by with_unfolding_all rfl)); intro n9 t9 mn9 mlo9 mhi9; tb_rel) | (k_here; (with_reducible show wpAny _ _ (call (Value.ref 352) _) _ _ _); k_dflt (first | refine useTake (rest := [(_, listOf #[.int _ _, .int 20 _, .int 21 _, .int 0 _] _)]) (by omega) (by omega) (by assumption) (by k_asm) (by k_asm) (by k_mem) (by k_mem) (by omega) (by intro q hq; rw [List.mem_singleton.mp hq]; exact ⟨by k_mem, by omega, by omega⟩) (by exact rfl) (by assumption) (by assumption) (by assumption) (by exact rfl) (by exact rfl) (by exact rfl) (by ktr_room) (by ktr_units) ?_ | refine useTake (rest := []) (by omega) (by omega) (by assumption) (by k_asm) (by k_asm) (by k_mem) (by k_mem) (by omega) (fun q hq => nomatch hq) (by exact rfl) (by assumption) (by assumption) (by assumption) (by exact rfl) (by exact rfl) (by exact rfl) (by ktr_room) (by ktr_units) ?_); intro y9 t9 h9 tk9 vs9 ns9 sd9 ts9 n19 n29 lo9 hi9 dr9 F9 N9; tb_rel) | walk1 | (dsimp only; first | (k_here; (with_reducible show wpAny _ _ (subscriptTail _ _ (Value.ref _) (Value.int _ _)) _ _ _); k_dflt (refine menu4 (by k_asm) (by k_mem) (by omega) (by omega) (by omega) ?_ (by with_unfolding_all rfl)); intro n9 t9 mn9 mlo9 mhi9; tb_rel) | (k_here; (with_reducible show wpAny _ _ (call (Value.ref 352) _) _ _ _); k_dflt (first | refine useTake (rest := [(_, listOf #[.int _ _, .int 20 _, .int 21 _, .int 0 _] _)]) (by omega) (by omega) (by assumption) (by k_asm) (by k_asm) (by k_mem) (by k_mem) (by omega) (by intro q hq; rw [List.mem_singleton.mp hq]; exact ⟨by k_mem, by omega, by omega⟩) (by exact rfl) (by assumption) (by assumption) (by assumption) (by exact rfl) (by exact rfl) (by exact rfl) (by ktr_room) (by ktr_units) ?_ | refine useTake (rest := []) (by omega) (by omega) (by assumption) (by k_asm) (by k_asm) (by k_mem) (by k_mem) (by omega) (fun q hq => nomatch hq) (by exact rfl) (by assumption) (by assumption) (by assumption) (by exact rfl) (by exact rfl) (by exact rfl) (by ktr_room) (by ktr_units) ?_); intro y9 t9 h9 tk9 vs9 ns9 sd9 ts9 n19 n29 lo9 hi9 dr9 F9 N9; tb_rel) | walk1) | (leave1; try dsimp only) | (with_reducible refine dABin ?_) | (with_reducible refine dAName ?_) | (with_reducible refine dAStore ?_) | (with_reducible refine dACmp ?_) | (with_reducible refine dATru ?_) | (with_reducible refine dASub ?_) | (with_reducible refine dSplNil ?_))
    refine dAny ?_
    (try k_fold)
    repeat' (first | (k_unfold; (try dsimp only)) | (k_end; wrow_close) | walk1 | (dsimp only; walk1) | (leave1; try dsimp only) | (with_reducible refine dABin ?_) | (with_reducible refine dAName ?_) | (with_reducible refine dAStore ?_) | (with_reducible refine dACmp ?_) | (with_reducible refine dATru ?_) | (with_reducible refine dASub ?_) | (with_reducible refine dSplNil ?_))
    rename Fr _ _ _ _ => F9
    rename News _ _ _ _ => N9
    rename Dr _ _ _ => dr9
    refine ⟨_, _, _, _, _, _, _, _, _, _, _, ⟨_, by assumption, _, _, _, rfl, rfl, rep_flat _ _⟩, rfl, ?_, dr9, F9, newsTwo N9 (by k_mem) (by k_mem)⟩
    all_goals omega
  clear F9 N9 dr9
  obtain ⟨l9, h9, tk9, D, Ra, vs9, ns9, seed, ts, n1, n2, ⟨nsd, hnsd, l3, Bs, tsc, rfl, rfl, hBs⟩, rfl, hne, dr9, F9, N9⟩ := j
  (dsimp only [List.cons_append, List.nil_append, bmap, S] at F9)
  (try dsimp only)
  refine dCut (LJ a s.heap L' s fun l => ∃ number Bp Bt tn tp tt, l = [(S "number", .int number tn), (S "payload", .bytes Bp tp), (S "token", .bytes Bt tt), (S "scid", .bytes Bs tsc), (S "dcid", .bytes Bd td), (S "size", .int size t3), (S "fixed", .bool fixed), (S "bits", .int bits t2), (S "form", .int form t1)] ∧ (0 ≤ number ∧ number < 100) ∧ (5 ≤ (KBw.bInts Bp).length ∧ (KBw.bInts Bp).length ≤ 9) ∧ (KBw.bInts Bt).length ≤ 3) [_] ?_ (fun s₂ j => ?_)
  · skip
    refine dExecs (dAny ?_)
    (try k_fold)
    repeat' (first | (k_unfold; (try dsimp only)) | (k_end; wrow_close) | (k_here; (with_reducible show wpAny _ _ (call (Value.ref 357) _) _ _ _); k_dflt (refine useOct (by omega) (by omega) (by assumption) (by k_asm) (by k_asm) (by k_mem) (by k_mem) (by omega) (by exact rfl) (by assumption) (by assumption) (by assumption) (by exact rfl) (by exact rfl) (by exact rfl) (by ktr_room) (by ktr_units) ?_); intro Y9 t9 h9 tk9 vs9 ns9 sd9 ts9 n19 n29 zs9 e9 l9 dr9 F9 N9; (have l9' := oct_le e9 l9); tb_rel) | (k_here; (with_reducible show wpAny _ _ (call (Value.ref 352) _) _ _ _); k_dflt (first | refine useTake (rest := [(_, listOf #[.int _ _, .int 20 _, .int 21 _, .int 0 _] _)]) (by omega) (by omega) (by assumption) (by k_asm) (by k_asm) (by k_mem) (by k_mem) (by omega) (by intro q hq; rw [List.mem_singleton.mp hq]; exact ⟨by k_mem, by omega, by omega⟩) (by exact rfl) (by assumption) (by assumption) (by assumption) (by exact rfl) (by exact rfl) (by exact rfl) (by ktr_room) (by ktr_units) ?_ | refine useTake (rest := []) (by omega) (by omega) (by assumption) (by k_asm) (by k_asm) (by k_mem) (by k_mem) (by omega) (fun q hq => nomatch hq) (by exact rfl) (by assumption) (by assumption) (by assumption) (by exact rfl) (by exact rfl) (by exact rfl) (by ktr_room) (by ktr_units) ?_); intro y9 t9 h9 tk9 vs9 ns9 sd9 ts9 n19 n29 lo9 hi9 dr9 F9 N9; tb_rel) | (k_here; (with_reducible show wpAny _ _ (binaryOp Operator.Add (Value.bytes _ _) (Value.bytes _ _)) _ _ _); k_dflt (first | refine KBa.add_K (by kba_ints) (by kba_ints2) (by kba_size) ?_ | refine KBa.add_K (by kba_ints2) (by kba_ints2) (by kba_size) ?_); intro _ _ kbaApp) | walk1 | (dsimp only; first | (k_here; (with_reducible show wpAny _ _ (call (Value.ref 357) _) _ _ _); k_dflt (refine useOct (by omega) (by omega) (by assumption) (by k_asm) (by k_asm) (by k_mem) (by k_mem) (by omega) (by exact rfl) (by assumption) (by assumption) (by assumption) (by exact rfl) (by exact rfl) (by exact rfl) (by ktr_room) (by ktr_units) ?_); intro Y9 t9 h9 tk9 vs9 ns9 sd9 ts9 n19 n29 zs9 e9 l9 dr9 F9 N9; (have l9' := oct_le e9 l9); tb_rel) | (k_here; (with_reducible show wpAny _ _ (call (Value.ref 352) _) _ _ _); k_dflt (first | refine useTake (rest := [(_, listOf #[.int _ _, .int 20 _, .int 21 _, .int 0 _] _)]) (by omega) (by omega) (by assumption) (by k_asm) (by k_asm) (by k_mem) (by k_mem) (by omega) (by intro q hq; rw [List.mem_singleton.mp hq]; exact ⟨by k_mem, by omega, by omega⟩) (by exact rfl) (by assumption) (by assumption) (by assumption) (by exact rfl) (by exact rfl) (by exact rfl) (by ktr_room) (by ktr_units) ?_ | refine useTake (rest := []) (by omega) (by omega) (by assumption) (by k_asm) (by k_asm) (by k_mem) (by k_mem) (by omega) (fun q hq => nomatch hq) (by exact rfl) (by assumption) (by assumption) (by assumption) (by exact rfl) (by exact rfl) (by exact rfl) (by ktr_room) (by ktr_units) ?_); intro y9 t9 h9 tk9 vs9 ns9 sd9 ts9 n19 n29 lo9 hi9 dr9 F9 N9; tb_rel) | (k_here; (with_reducible show wpAny _ _ (binaryOp Operator.Add (Value.bytes _ _) (Value.bytes _ _)) _ _ _); k_dflt (first | refine KBa.add_K (by kba_ints) (by kba_ints2) (by kba_size) ?_ | refine KBa.add_K (by kba_ints2) (by kba_ints2) (by kba_size) ?_); intro _ _ kbaApp) | walk1) | (leave1; try dsimp only) | (with_reducible refine dABin ?_) | (with_reducible refine dAName ?_) | (with_reducible refine dAStore ?_) | (with_reducible refine dACmp ?_) | (with_reducible refine dATru ?_) | (with_reducible refine dASub ?_) | (with_reducible refine dSplNil ?_))
    refine dAny ?_
    (try k_fold)
    repeat' (first | (k_unfold; (try dsimp only)) | (k_end; wrow_close) | walk1 | (dsimp only; walk1) | (leave1; try dsimp only) | (with_reducible refine dABin ?_) | (with_reducible refine dAName ?_) | (with_reducible refine dAStore ?_) | (with_reducible refine dACmp ?_) | (with_reducible refine dATru ?_) | (with_reducible refine dASub ?_) | (with_reducible refine dSplNil ?_))
    rename Fr _ _ _ _ => F9
    rename News _ _ _ _ => N9
    rename Dr _ _ _ => dr9
    refine ⟨_, _, _, _, _, _, _, _, _, _, _, ⟨_, _, _, _, _, _, rfl, ⟨?_, ?_⟩, ⟨?_, ?_⟩, ?_⟩, rfl, ?_, dr9, F9, newsTwo N9 (by k_mem) (by k_mem)⟩
    all_goals (try rw [hello_len])
    all_goals omega
  clear F9 N9 dr9
  obtain ⟨l9, h9, tk9, D, Ra, vs9, ns9, seed, ts, n1, n2, ⟨number, Bp, Bt, tn, tp, tt, rfl, hnum, hps, htt⟩, rfl, hne, dr9, F9, N9⟩ := j
  (dsimp only [List.cons_append, List.nil_append, bmap, S] at F9)
  (try dsimp only)
  refine dCut (LJ a s.heap L' s fun l => ∃ Bc tc, l = (S "cut", .bytes Bc tc) :: [(S "number", .int number tn), (S "payload", .bytes Bp tp), (S "token", .bytes Bt tt), (S "scid", .bytes Bs tsc), (S "dcid", .bytes Bd td), (S "size", .int size t3), (S "fixed", .bool fixed), (S "bits", .int bits t2), (S "form", .int form t1)] ∧ KBw.bInts Bc = List.replicate (size - 1).toNat 0 ++ [number]) [_] ?_ (fun s₂ j => ?_)
  · skip
    refine dExecs (dAny ?_)
    (try k_fold)
    repeat' (first | (k_unfold; (try dsimp only)) | (k_end; wrow_close) | (k_here; (with_reducible show wpAny _ _ (call (Value.type "bytes") [Value.int _ _]) _ _ _); k_dflt (refine bi_bytes (by omega) (by omega) ?_); intro Y9 t9 tk9 e9; (obtain ⟨zs9, e9, q9, l9⟩ := rep_facts e9); tb_rel) | (k_here; (with_reducible show wpAny _ _ (binaryOp Operator.Add (Value.bytes _ _) (Value.bytes _ _)) _ _ _); k_dflt (first | refine KBa.add_K (by kba_ints) (by kba_ints2) (by kba_size) ?_ | refine KBa.add_K (by kba_ints2) (by kba_ints2) (by kba_size) ?_); intro _ _ kbaApp) | walk1 | (dsimp only; first | (k_here; (with_reducible show wpAny _ _ (call (Value.type "bytes") [Value.int _ _]) _ _ _); k_dflt (refine bi_bytes (by omega) (by omega) ?_); intro Y9 t9 tk9 e9; (obtain ⟨zs9, e9, q9, l9⟩ := rep_facts e9); tb_rel) | (k_here; (with_reducible show wpAny _ _ (binaryOp Operator.Add (Value.bytes _ _) (Value.bytes _ _)) _ _ _); k_dflt (first | refine KBa.add_K (by kba_ints) (by kba_ints2) (by kba_size) ?_ | refine KBa.add_K (by kba_ints2) (by kba_ints2) (by kba_size) ?_); intro _ _ kbaApp) | walk1) | (leave1; try dsimp only) | (with_reducible refine dABin ?_) | (with_reducible refine dAName ?_) | (with_reducible refine dAStore ?_) | (with_reducible refine dACmp ?_) | (with_reducible refine dATru ?_) | (with_reducible refine dASub ?_) | (with_reducible refine dSplNil ?_))
    refine dAny ?_
    (try k_fold)
    repeat' (first | (k_unfold; (try dsimp only)) | (k_end; wrow_close) | walk1 | (dsimp only; walk1) | (leave1; try dsimp only) | (with_reducible refine dABin ?_) | (with_reducible refine dAName ?_) | (with_reducible refine dAStore ?_) | (with_reducible refine dACmp ?_) | (with_reducible refine dATru ?_) | (with_reducible refine dASub ?_) | (with_reducible refine dSplNil ?_))
    rename Fr _ _ _ _ => F9
    rename News _ _ _ _ => N9
    rename Dr _ _ _ => dr9
    refine ⟨_, _, _, _, _, _, _, _, _, _, _, ⟨_, _, rfl, ?_⟩, rfl, ?_, dr9, F9, newsTwo N9 (by k_mem) (by k_mem)⟩
    · exact cut_end (by assumption) (by assumption) (by assumption)
    · omega
  clear F9 N9 dr9
  obtain ⟨l9, h9, tk9, D, Ra, vs9, ns9, seed, ts, n1, n2, ⟨Bc, tc, rfl, hBc⟩, rfl, hne, dr9, F9, N9⟩ := j
  (dsimp only [List.cons_append, List.nil_append, bmap, S] at F9)
  (try dsimp only)
  obtain ⟨ds, eD, qD, lD⟩ := rep_fact hBd
  obtain ⟨ss, eS, qS, lS⟩ := rep_fact hBs
  have bnd := menu_bd hnd
  have bns := menu_bd hnsd
  obtain ⟨ps, eP, hP⟩ : ∃ ps, KBw.bInts Bp = ps ∧ 5 ≤ ps.length ∧ ps.length ≤ 9 := ⟨_, rfl, hps⟩
  obtain ⟨tl, eT, hT⟩ : ∃ tl, KBw.bInts Bt = tl ∧ tl.length ≤ 3 := ⟨_, rfl, htt⟩
  clear hBd hBs hps htt
  refine dCut (LJ a s.heap L' s fun l => ∃ Bh th, l = (S "head", .bytes Bh th) :: [(S "cut", .bytes Bc tc), (S "number", .int number tn), (S "payload", .bytes Bp tp), (S "token", .bytes Bt tt), (S "scid", .bytes Bs tsc), (S "dcid", .bytes Bd td), (S "size", .int size t3), (S "fixed", .bool fixed), (S "bits", .int bits t2), (S "form", .int form t1)] ∧ KBw.bInts Bh = headL form bits size fixed ds ss tl ps.length) [_] ?_ (fun s₂ j => ?_)
  · skip
    refine dExecs (dAny ?_)
    (try k_fold)
    repeat' (first | ((fail_if_success (with_reducible show wpAny _ _ (eval (PySem.Expr.IfExp _ _ _ _) _) _ _ _)); first | (k_unfold; (try dsimp only)) | (k_end; wrow_close) | walk1 | (dsimp only; walk1)))
    all_goals refine joinI (if fixed then 64 else 0) (by split <;> decide) (by split <;> decide) ?_ (fun n9 t9 tk9 en9 nlo9 nhi9 => ?_)
    · cases fixed
      all_goals repeat' (first | (k_unfold; (try dsimp only)) | (k_end; wrow_close) | walk1 | (dsimp only; walk1) | (leave1; try dsimp only) | (with_reducible refine dABin ?_) | (with_reducible refine dAName ?_) | (with_reducible refine dAStore ?_) | (with_reducible refine dACmp ?_) | (with_reducible refine dATru ?_) | (with_reducible refine dASub ?_) | (with_reducible refine dSplNil ?_))
      all_goals exact ⟨_, _, rfl, rfl⟩
    rotate_left
    · cases fixed
      all_goals repeat' (first | (k_unfold; (try dsimp only)) | (k_end; wrow_close) | walk1 | (dsimp only; walk1) | (leave1; try dsimp only) | (with_reducible refine dABin ?_) | (with_reducible refine dAName ?_) | (with_reducible refine dAStore ?_) | (with_reducible refine dACmp ?_) | (with_reducible refine dATru ?_) | (with_reducible refine dASub ?_) | (with_reducible refine dSplNil ?_))
      all_goals exact ⟨_, _, rfl, rfl⟩
    all_goals repeat' (first | (k_unfold; (try dsimp only)) | (k_end; wrow_close) | (k_here; (with_reducible show wpAny _ _ (binaryOp Operator.Add (Value.bytes _ _) (Value.bytes _ _)) _ _ _); k_dflt (first | refine KBa.add_K (by kba_ints) (by kba_ints2) (by kba_size) ?_ | refine KBa.add_K (by kba_ints2) (by kba_ints2) (by kba_size) ?_); intro _ _ kbaApp) | (k_here; (with_reducible show wpAny _ _ (call (Value.ref 188) _) _ _ _); k_dflt (refine useB (c_putids _ _ _ _ _ _ (by kba_ints2) (by kba_ints2) (by omega) (by omega)) (by k_asm) (by k_asm) (by k_asm) (by k_asm) (by k_asm) (by exact rfl) (by exact rfl) (by exact rfl) (by ktr_room) (by ktr_units) ?_); intro Y9 t9 h9 tk9 e9 F9 N9; tb_rel) | walk1 | (dsimp only; first | (k_here; (with_reducible show wpAny _ _ (binaryOp Operator.Add (Value.bytes _ _) (Value.bytes _ _)) _ _ _); k_dflt (first | refine KBa.add_K (by kba_ints) (by kba_ints2) (by kba_size) ?_ | refine KBa.add_K (by kba_ints2) (by kba_ints2) (by kba_size) ?_); intro _ _ kbaApp) | (k_here; (with_reducible show wpAny _ _ (call (Value.ref 188) _) _ _ _); k_dflt (refine useB (c_putids _ _ _ _ _ _ (by kba_ints2) (by kba_ints2) (by omega) (by omega)) (by k_asm) (by k_asm) (by k_asm) (by k_asm) (by k_asm) (by exact rfl) (by exact rfl) (by exact rfl) (by ktr_room) (by ktr_units) ?_); intro Y9 t9 h9 tk9 e9 F9 N9; tb_rel) | walk1) | (leave1; try dsimp only) | (with_reducible refine dABin ?_) | (with_reducible refine dAName ?_) | (with_reducible refine dAStore ?_) | (with_reducible refine dACmp ?_) | (with_reducible refine dATru ?_) | (with_reducible refine dASub ?_) | (with_reducible refine dSplNil ?_))
    all_goals (refine dAny ?_)
    all_goals (try k_fold)
    all_goals repeat' (first | (k_unfold; (try dsimp only)) | (k_end; wrow_close) | walk1 | (dsimp only; walk1) | (leave1; try dsimp only) | (with_reducible refine dABin ?_) | (with_reducible refine dAName ?_) | (with_reducible refine dAStore ?_) | (with_reducible refine dACmp ?_) | (with_reducible refine dATru ?_) | (with_reducible refine dASub ?_) | (with_reducible refine dSplNil ?_))
    all_goals rename Fr _ _ _ _ => F9
    all_goals rename News _ _ _ _ => N9
    all_goals rename Dr _ _ _ => dr9
    all_goals refine ⟨_, _, _, _, _, _, _, _, _, _, _, ⟨_, _, rfl, ?_⟩, rfl, ?_, dr9, frHead F9 ?_, newsTwo N9 (by k_mem) (by k_mem)⟩
    all_goals first
      | (intro y hy; first | rfl | (simp only [if_neg (show ¬ y = Str.ofString "head" from hy)]; rfl))
      | omega
      | exact head_S (by assumption) (by assumption) hb hz eD
      | exact head_L (by assumption) (by assumption) hf hb hz hP.2 (by assumption) (tok_0 (by assumption))
      | exact head_L (by assumption) (by assumption) hf hb hz hP.2 (by assumption) (tok_1 (by assumption) eT hT)
  clear F9 N9 dr9
  obtain ⟨l9, h9, tk9, D, Ra, vs9, ns9, seed, ts, n1, n2, ⟨Bh, th, rfl, hBh⟩, rfl, hne, dr9, F9, N9⟩ := j
  (dsimp only [List.cons_append, List.nil_append, bmap, S] at F9)
  (try dsimp only)
  obtain ⟨cs, eC, qC⟩ : ∃ cs, KBw.bInts Bc = cs ∧ cs = List.replicate (size - 1).toNat 0 ++ [number] := ⟨_, hBc, rfl⟩
  have V : HV form bits size ds ss tl ps.length := ⟨hf, hb, hz, by omega, by omega, hT, hP⟩
  have hL1 := (hl_le (fixed := fixed) V).1
  have hL2 := (hl_le (fixed := fixed) V).2
  have lcs : cs.length = size.toNat := by rw [qC, List.length_append, List.length_replicate]; show _ + 1 = _; omega
  obtain ⟨hh, eH, qH⟩ : ∃ h, KBw.bInts Bh = h ∧ h = HL form bits size fixed ds ss tl ps := ⟨_, hBh, rfl⟩
  clear hBc hBh
  rw [← qH] at hL1 hL2
  refine dCut (LJ a s.heap L' s fun l => ∃ Bk tk, l = (S "data", .bytes Bk tk) :: [(S "head", .bytes Bh th), (S "cut", .bytes Bc tc), (S "number", .int number tn), (S "payload", .bytes Bp tp), (S "token", .bytes Bt tt), (S "scid", .bytes Bs tsc), (S "dcid", .bytes Bd td), (S "size", .int size t3), (S "fixed", .bool fixed), (S "bits", .int bits t2), (S "form", .int form t1)] ∧ KBw.bInts Bk = protL [107, 101, 121] number hh cs ps) [_] ?_ (fun s₂ j => ?_)
  · skip
    refine dExecs (dAssign (dCallName ?_))
    repeat' (first | (k_unfold; (try dsimp only)) | (k_end; wrow_close) | walk1 | (dsimp only; walk1) | (leave1; try dsimp only) | (with_reducible refine dABin ?_) | (with_reducible refine dAName ?_) | (with_reducible refine dAStore ?_) | (with_reducible refine dACmp ?_) | (with_reducible refine dATru ?_) | (with_reducible refine dASub ?_) | (with_reducible refine dSplNil ?_))
    refine dCallWith (K := Mine.hd.heap_39 w.params) (by kernel_rfl) (dAny ?_)
    (try k_fold)
    k_steps
    (try dsimp only)
    refine dUseB (c_prot _ _ _ _ _ _ _ _ _ _ [107, 101, 121] hh cs ps (by exact rfl) (by kba_ints2) (by kba_ints2) (by kba_ints2) (by omega) (by omega) (by omega) (by omega) (by omega)) (by k_asm) (by k_asm) (by k_asm) (by k_asm) (by k_asm) (by exact rfl) (by exact rfl) (by exact rfl) (by exact rfl) (by ktr_room) (by ktr_units) ?_
    intro Y9 t9 h9 tk9 e9 F9 N9
    tb_rel
    repeat' (first | (k_unfold; (try dsimp only)) | (k_end; wrow_close) | walk1 | (dsimp only; walk1) | (leave1; try dsimp only) | (with_reducible refine dABin ?_) | (with_reducible refine dAName ?_) | (with_reducible refine dAStore ?_) | (with_reducible refine dACmp ?_) | (with_reducible refine dATru ?_) | (with_reducible refine dASub ?_) | (with_reducible refine dSplNil ?_))
    refine dAny ?_
    (try k_fold)
    repeat' (first | (k_unfold; (try dsimp only)) | (k_end; wrow_close) | walk1 | (dsimp only; walk1) | (leave1; try dsimp only) | (with_reducible refine dABin ?_) | (with_reducible refine dAName ?_) | (with_reducible refine dAStore ?_) | (with_reducible refine dACmp ?_) | (with_reducible refine dATru ?_) | (with_reducible refine dASub ?_) | (with_reducible refine dSplNil ?_))
    rename Fr _ _ _ _ => F9
    rename News _ _ _ _ => N9
    rename Dr _ _ _ => dr9
    refine ⟨_, _, _, _, _, _, _, _, _, _, _, ⟨_, _, rfl, e9⟩, rfl, ?_, dr9, F9, newsTwo N9 (by k_mem) (by k_mem)⟩
    all_goals omega
  clear F9 N9 dr9
  obtain ⟨l9, h9, tk9, D, Ra, vs9, ns9, seed, ts, n1, n2, ⟨Bk, tk, rfl, hBk⟩, rfl, hne, dr9, F9, N9⟩ := j
  (dsimp only [List.cons_append, List.nil_append, bmap, S] at F9)
  (try dsimp only)
  have RL := read_law (kk := [107, 101, 121]) (i := number) (cs := cs) (fixed := fixed) V lcs
  have OL := open_law (kk := [107, 101, 121]) (fixed := fixed) V qC hnum (fun n hn => (bInts_in' eP n hn).1)
  obtain ⟨K, eK, qK⟩ : ∃ K, KBw.bInts Bk = K ∧ K = KL [107, 101, 121] number form bits size fixed ds ss tl cs ps := ⟨_, hBk.trans (by rw [qH]), rfl⟩
  rw [← qK, ← qH] at RL OL
  have lK : K.length ≤ 100 ∧ K.length = hh.length + size.toNat + ps.length + 16 := by
    have := kl_len (kk := [107, 101, 121]) (i := number) (fixed := fixed) V lcs
    rw [← qK, ← qH] at this
    omega
  obtain ⟨R1, R2, R3, R4, R5, R6, R7, R8, R9⟩ := RL
  obtain ⟨O1, O2, O3, O4, O5⟩ := OL
  clear hBk
  refine dCut (LJ a s.heap L' s fun l => ∃ g : Bool, l = (S "is_good", .bool g) :: [(S "data", .bytes Bk tk), (S "head", .bytes Bh th), (S "cut", .bytes Bc tc), (S "number", .int number tn), (S "payload", .bytes Bp tp), (S "token", .bytes Bt tt), (S "scid", .bytes Bs tsc), (S "dcid", .bytes Bd td), (S "size", .int size t3), (S "fixed", .bool fixed), (S "bits", .int bits t2), (S "form", .int form t1)] ∧ (g = true ↔ RawOk K (ds.length : Int))) [_] ?_ (fun s₂ j => ?_)
  · skip
    cases fixed
    all_goals refine dExecs (dAny ?_)
    all_goals (try k_fold)
    all_goals repeat' (first | (k_unfold; (try dsimp only)) | (k_end; wrow_close) | walk1 | (dsimp only; walk1) | (leave1; try dsimp only) | (with_reducible refine dABin ?_) | (with_reducible refine dAName ?_) | (with_reducible refine dAStore ?_) | (with_reducible refine dACmp ?_) | (with_reducible refine dATru ?_) | (with_reducible refine dASub ?_) | (with_reducible refine dSplNil ?_))
    all_goals (refine dAny ?_)
    all_goals (try k_fold)
    all_goals repeat' (first | (k_unfold; (try dsimp only)) | (k_end; wrow_close) | walk1 | (dsimp only; walk1) | (leave1; try dsimp only) | (with_reducible refine dABin ?_) | (with_reducible refine dAName ?_) | (with_reducible refine dAStore ?_) | (with_reducible refine dACmp ?_) | (with_reducible refine dATru ?_) | (with_reducible refine dASub ?_) | (with_reducible refine dSplNil ?_))
    all_goals rename Fr _ _ _ _ => F9
    all_goals rename News _ _ _ _ => N9
    all_goals rename Dr _ _ _ => dr9
    all_goals refine ⟨_, _, _, _, _, _, _, _, _, _, _, ⟨_, rfl, ?_⟩, rfl, ?_, dr9, F9, newsTwo N9 (by k_mem) (by k_mem)⟩
    all_goals try omega
    all_goals
      rw [R2]
      unfold Good
      first
        | exact ⟨fun q => Bool.noConfusion q, fun q => Bool.noConfusion q.1⟩
        | (constructor
           · intro q
             refine ⟨rfl, ?_⟩
             (try simp only [beq_iff_eq, decide_eq_true_eq] at q)
             omega
           · rintro ⟨-, q⟩
             (try simp only [beq_iff_eq, decide_eq_true_eq])
             omega)
  clear F9 N9 dr9
  obtain ⟨l9, h9, tk9, D, Ra, vs9, ns9, seed, ts, n1, n2, ⟨g, rfl, hg⟩, rfl, hne, dr9, F9, N9⟩ := j
  (dsimp only [List.cons_append, List.nil_append, bmap, S] at F9)
  (try dsimp only)
  refine dCut (LJ a s.heap L' s fun l => g = true ∧ l = [(S "is_good", .bool g), (S "data", .bytes Bk tk), (S "head", .bytes Bh th), (S "cut", .bytes Bc tc), (S "number", .int number tn), (S "payload", .bytes Bp tp), (S "token", .bytes Bt tt), (S "scid", .bytes Bs tsc), (S "dcid", .bytes Bd td), (S "size", .int size t3), (S "fixed", .bool fixed), (S "bits", .int bits t2), (S "form", .int form t1)]) [_, _] ?_ (fun s₂ j => ?_)
  · skip
    cases g
    all_goals refine dExecs (dAny ?_)
    all_goals (try k_fold)
    all_goals repeat' (first | (k_unfold; (try dsimp only)) | (k_end; wrow_close) | (k_here; (with_reducible show wpAny _ _ (call (Value.ref 364) _) _ _ _); k_dflt (refine useRefB (c_refused' _ _ _ _ _ (by kba_ints2) (by assumption) (by assumption)) (by k_asm) (by k_asm) (by assumption) (by assumption) (by exact rfl) (by exact rfl) (by exact rfl) (by exact rfl) (by ktr_room) (by ktr_units) ?_); intro h9 tk9 F9 N9; (try simp only [Bool.not_false, Bool.not_true]); tb_rel) | walk1 | (dsimp only; first | (k_here; (with_reducible show wpAny _ _ (call (Value.ref 364) _) _ _ _); k_dflt (refine useRefB (c_refused' _ _ _ _ _ (by kba_ints2) (by assumption) (by assumption)) (by k_asm) (by k_asm) (by assumption) (by assumption) (by exact rfl) (by exact rfl) (by exact rfl) (by exact rfl) (by ktr_room) (by ktr_units) ?_); intro h9 tk9 F9 N9; (try simp only [Bool.not_false, Bool.not_true]); tb_rel) | walk1) | (leave1; try dsimp only) | (with_reducible refine dABin ?_) | (with_reducible refine dAName ?_) | (with_reducible refine dAStore ?_) | (with_reducible refine dACmp ?_) | (with_reducible refine dATru ?_) | (with_reducible refine dASub ?_) | (with_reducible refine dSplNil ?_))
    all_goals refine dExecs (dAny ?_)
    all_goals (try k_fold)
    all_goals repeat' (first | (k_unfold; (try dsimp only)) | (k_end; wrow_close) | walk1 | (dsimp only; walk1) | (leave1; try dsimp only) | (with_reducible refine dABin ?_) | (with_reducible refine dAName ?_) | (with_reducible refine dAStore ?_) | (with_reducible refine dACmp ?_) | (with_reducible refine dATru ?_) | (with_reducible refine dASub ?_) | (with_reducible refine dSplNil ?_))
    all_goals try (refine dAny ?_)
    all_goals (try k_fold)
    all_goals repeat' (first | (k_unfold; (try dsimp only)) | (k_end; wrow_close) | walk1 | (dsimp only; walk1) | (leave1; try dsimp only) | (with_reducible refine dABin ?_) | (with_reducible refine dAName ?_) | (with_reducible refine dAStore ?_) | (with_reducible refine dACmp ?_) | (with_reducible refine dATru ?_) | (with_reducible refine dASub ?_) | (with_reducible refine dSplNil ?_))
    · rename Fr _ _ _ _ => F9
      exact hret _ _ F9.keep
    · rename Fr _ _ _ _ => F9
      rename News _ _ _ _ => N9
      exact ⟨_, _, _, _, _, _, _, _, _, _, _, ⟨rfl, rfl⟩, rfl, hne, dr9, F9, newsTwo N9 (by k_mem) (by k_mem)⟩
  clear F9 N9 dr9
  obtain ⟨l9, h9, tk9, D, Ra, vs9, ns9, seed, ts, n1, n2, ⟨hgt, rfl⟩, rfl, hne, dr9, F9, N9⟩ := j
  (dsimp only [List.cons_append, List.nil_append, bmap, S] at F9)
  (try dsimp only)
  subst hgt
  have hok : RawOk K (ds.length : Int) := hg.mp rfl
  clear hg
  refine dCut (LF a s.heap L' s [(S "is_good", .bool true), (S "data", .bytes Bk tk), (S "head", .bytes Bh th), (S "cut", .bytes Bc tc), (S "number", .int number tn), (S "payload", .bytes Bp tp), (S "token", .bytes Bt tt), (S "scid", .bytes Bs tsc), (S "dcid", .bytes Bd td), (S "size", .int size t3), (S "fixed", .bool fixed), (S "bits", .int bits t2), (S "form", .int form t1)] D) [_] ?_ (fun s₂ j => ?_)
  · skip
    refine dExecs (dAny ?_)
    (try k_fold)
    repeat' (first | (k_unfold; (try dsimp only)) | (k_end; wrow_close) | (k_here; (with_reducible show wpAny _ _ (call (Value.ref 364) [Value.bytes (KBy.picked _ _ _) _, _]) _ _ _); k_dflt (refine useRefB (g := false) (c_refcut _ _ _ _ _ _ _ (by assumption) (by assumption) (by assumption) (by omega) (by assumption)) (by k_asm) (by k_asm) (by assumption) (by assumption) (by exact rfl) (by exact rfl) (by exact rfl) (by exact rfl) (by ktr_room) (by ktr_units) ?_); intro h9 tk9 F9 N9; (try simp only [Bool.not_false, Bool.not_true]); tb_rel) | (k_here; (with_reducible show wpAny _ _ (call (Value.ref 352) _) _ _ _); k_dflt (first | refine useTake (rest := [(_, listOf #[.int _ _, .int 20 _, .int 21 _, .int 0 _] _)]) (by omega) (by omega) (by assumption) (by k_asm) (by k_asm) (by k_mem) (by k_mem) (by omega) (by intro q hq; rw [List.mem_singleton.mp hq]; exact ⟨by k_mem, by omega, by omega⟩) (by exact rfl) (by assumption) (by assumption) (by assumption) (by exact rfl) (by exact rfl) (by exact rfl) (by ktr_room) (by ktr_units) ?_ | refine useTake (rest := []) (by omega) (by omega) (by assumption) (by k_asm) (by k_asm) (by k_mem) (by k_mem) (by omega) (fun q hq => nomatch hq) (by exact rfl) (by assumption) (by assumption) (by assumption) (by exact rfl) (by exact rfl) (by exact rfl) (by ktr_room) (by ktr_units) ?_); intro y9 t9 h9 tk9 vs9 ns9 sd9 ts9 n19 n29 lo9 hi9 dr9 F9 N9; tb_rel) | walk1 | (dsimp only; first | (k_here; (with_reducible show wpAny _ _ (call (Value.ref 364) [Value.bytes (KBy.picked _ _ _) _, _]) _ _ _); k_dflt (refine useRefB (g := false) (c_refcut _ _ _ _ _ _ _ (by assumption) (by assumption) (by assumption) (by omega) (by assumption)) (by k_asm) (by k_asm) (by assumption) (by assumption) (by exact rfl) (by exact rfl) (by exact rfl) (by exact rfl) (by ktr_room) (by ktr_units) ?_); intro h9 tk9 F9 N9; (try simp only [Bool.not_false, Bool.not_true]); tb_rel) | (k_here; (with_reducible show wpAny _ _ (call (Value.ref 352) _) _ _ _); k_dflt (first | refine useTake (rest := [(_, listOf #[.int _ _, .int 20 _, .int 21 _, .int 0 _] _)]) (by omega) (by omega) (by assumption) (by k_asm) (by k_asm) (by k_mem) (by k_mem) (by omega) (by intro q hq; rw [List.mem_singleton.mp hq]; exact ⟨by k_mem, by omega, by omega⟩) (by exact rfl) (by assumption) (by assumption) (by assumption) (by exact rfl) (by exact rfl) (by exact rfl) (by ktr_room) (by ktr_units) ?_ | refine useTake (rest := []) (by omega) (by omega) (by assumption) (by k_asm) (by k_asm) (by k_mem) (by k_mem) (by omega) (fun q hq => nomatch hq) (by exact rfl) (by assumption) (by assumption) (by assumption) (by exact rfl) (by exact rfl) (by exact rfl) (by ktr_room) (by ktr_units) ?_); intro y9 t9 h9 tk9 vs9 ns9 sd9 ts9 n19 n29 lo9 hi9 dr9 F9 N9; tb_rel) | walk1) | (leave1; try dsimp only) | (with_reducible refine dABin ?_) | (with_reducible refine dAName ?_) | (with_reducible refine dAStore ?_) | (with_reducible refine dACmp ?_) | (with_reducible refine dATru ?_) | (with_reducible refine dASub ?_) | (with_reducible refine dSplNil ?_))
    all_goals (refine dAny ?_)
    all_goals (try k_fold)
    all_goals repeat' (first | (k_unfold; (try dsimp only)) | (k_end; wrow_close) | walk1 | (dsimp only; walk1) | (leave1; try dsimp only) | (with_reducible refine dABin ?_) | (with_reducible refine dAName ?_) | (with_reducible refine dAStore ?_) | (with_reducible refine dACmp ?_) | (with_reducible refine dATru ?_) | (with_reducible refine dASub ?_) | (with_reducible refine dSplNil ?_))
    all_goals
      rename Fr _ _ _ _ => F9
      exact ⟨_, _, rfl, F9⟩
  clear F9 N9 dr9
  obtain ⟨h9, tk9, rfl, F9⟩ := j
  (dsimp only [List.cons_append, List.nil_append, bmap, S] at F9)
  (try dsimp only)
  have N9 : News s.heap L' h9 [] := News.nil
  have hszz : s.heap.objs.size ≤ s.heap.objs.size := Nat.le_refl _
  refine dCut (RJ w a s.heap L' s [(S "is_good", .bool true), (S "data", .bytes Bk tk), (S "head", .bytes Bh th), (S "cut", .bytes Bc tc), (S "number", .int number tn), (S "payload", .bytes Bp tp), (S "token", .bytes Bt tt), (S "scid", .bytes Bs tsc), (S "dcid", .bytes Bd td), (S "size", .int size t3), (S "fixed", .bool fixed), (S "bits", .int bits t2), (S "form", .int form t1)] D (kindN form) (K.getD 0 0) Bd (hh.length : Int) (K.length : Int) fun Sc Tk => (form ≠ 3 → Sc = Bs) ∧ (form = 0 → Tk = Bt)) [_] ?_ (fun s₂ j => ?_)
  · skip
    refine dExecs (dAny ?_)
    (try k_fold)
    repeat' (first | (k_unfold; (try dsimp only)) | (k_end; wrow_close) | (k_here; (with_reducible show wpAny _ _ (leaving _ _) _ _ _); k_dflt contradiction) | (k_here; (with_reducible show wpAny _ _ (call (Value.ref 237) _) _ _ _); k_dflt (refine useRaw (x_raw _ _ _ _ _ _ (by kba_ints2) (by assumption)) (by k_asm) (by exact rfl) (by assumption) (by assumption) (by assumption) (by first | assumption | exact sz_up (by assumption) (by assumption) | exact sz_up (by assumption) (sz_up (by assumption) (by assumption)) | exact sz_up (by assumption) (sz_up (by assumption) (sz_up (by assumption) (by assumption)))) (by k_asm) (by exact rfl) (by exact rfl) (by ktr_room) (by ktr_units) ?_ ?_); rotate_left; intro e9 h9 tk9 D9 c9 fl9 up9 uq9 no9; rotate_left; intro r9 d9 D9 S9 T9 G9 l9 k90 k91 k92 k93 k94 k95 k96 k97 k98 k99 k910 u90 u91 u92 u93 u94 u95 u96 u98 u99 u910 h9 tk9 ok9 a9 b9 c9 ne9 F9 N9; tb_rel) | walk1 | (dsimp only; first | (k_here; (with_reducible show wpAny _ _ (leaving _ _) _ _ _); k_dflt contradiction) | (k_here; (with_reducible show wpAny _ _ (call (Value.ref 237) _) _ _ _); k_dflt (refine useRaw (x_raw _ _ _ _ _ _ (by kba_ints2) (by assumption)) (by k_asm) (by exact rfl) (by assumption) (by assumption) (by assumption) (by first | assumption | exact sz_up (by assumption) (by assumption) | exact sz_up (by assumption) (sz_up (by assumption) (by assumption)) | exact sz_up (by assumption) (sz_up (by assumption) (sz_up (by assumption) (by assumption)))) (by k_asm) (by exact rfl) (by exact rfl) (by ktr_room) (by ktr_units) ?_ ?_); rotate_left; intro e9 h9 tk9 D9 c9 fl9 up9 uq9 no9; rotate_left; intro r9 d9 D9 S9 T9 G9 l9 k90 k91 k92 k93 k94 k95 k96 k97 k98 k99 k910 u90 u91 u92 u93 u94 u95 u96 u98 u99 u910 h9 tk9 ok9 a9 b9 c9 ne9 F9 N9; tb_rel) | walk1) | (leave1; try dsimp only) | (with_reducible refine dABin ?_) | (with_reducible refine dAName ?_) | (with_reducible refine dAStore ?_) | (with_reducible refine dACmp ?_) | (with_reducible refine dATru ?_) | (with_reducible refine dASub ?_) | (with_reducible refine dSplNil ?_))
    refine dAny ?_
    (try k_fold)
    repeat' (first | (k_unfold; (try dsimp only)) | (k_end; wrow_close) | walk1 | (dsimp only; walk1) | (leave1; try dsimp only) | (with_reducible refine dABin ?_) | (with_reducible refine dAName ?_) | (with_reducible refine dAStore ?_) | (with_reducible refine dACmp ?_) | (with_reducible refine dATru ?_) | (with_reducible refine dASub ?_) | (with_reducible refine dSplNil ?_))
    rename Fr _ _ _ _ => F9
    rename News _ _ _ _ => N9
    rename KBw.bInts _ = dcidOf _ _ => a9
    rename KBw.bInts _ = scidOf _ => b9
    rename KBw.bInts _ = tokOf _ => c9
    rw [R3, R7, R8] at N9
    obtain rfl := bInts_inj (a9.trans (R4.trans eD.symm))
    exact ⟨_, _, _, _, _, _, _, _, _, _, _, _, _, _, _, _, _, _, _, _, _, _, _, _, _, _, _, _, _, ⟨fun h3 => bInts_inj (b9.trans ((R5.trans (if_neg h3)).trans eS.symm)), fun h0 => bInts_inj (c9.trans ((R6.trans (if_pos h0)).trans eT.symm))⟩, rfl, F9, newsTwo N9 (by k_mem) (by k_mem)⟩
  clear F9 N9
  obtain ⟨r, d, Sc, Tk, G, lv, k0, k1, k2, k3, k4, k5, k6, k7, k8, k9, k10, u0, u1, u2, u3, u4, u5, u6, u8, u9, u10, h9, tk9, ⟨hSc, hTk⟩, rfl, F9, N9⟩ := j
  (dsimp only [List.cons_append, List.nil_append, bmap, S] at F9)
  (try dsimp only)
  refine dCut (KJ a s.heap L' s [(S "is_good", .bool true), (S "data", .bytes Bk tk), (S "head", .bytes Bh th), (S "cut", .bytes Bc tc), (S "number", .int number tn), (S "payload", .bytes Bp tp), (S "token", .bytes Bt tt), (S "scid", .bytes Bs tsc), (S "dcid", .bytes Bd td), (S "size", .int size t3), (S "fixed", .bool fixed), (S "bits", .int bits t2), (S "form", .int form t1)] D (kindN form)) [_, _, _] ?_ (fun s₂ j => ?_)
  · skip
    refine dExecs (dAny ?_)
    (try k_fold)
    repeat' (first | (k_unfold; (try dsimp only)) | (k_end; wrow_close) | (k_here; (with_reducible show wpAny _ _ (subscriptTail _ _ (Value.ref _) (Value.int _ _)) _ _ _); k_dflt (refine kind4 (by k_asm) (by k_mem) (by assumption) ?_ (by with_unfolding_all rfl)); intro t9; tb_rel) | walk1 | (dsimp only; first | (k_here; (with_reducible show wpAny _ _ (subscriptTail _ _ (Value.ref _) (Value.int _ _)) _ _ _); k_dflt (refine kind4 (by k_asm) (by k_mem) (by assumption) ?_ (by with_unfolding_all rfl)); intro t9; tb_rel) | walk1) | (leave1; try dsimp only) | (with_reducible refine dABin ?_) | (with_reducible refine dAName ?_) | (with_reducible refine dAStore ?_) | (with_reducible refine dACmp ?_) | (with_reducible refine dATru ?_) | (with_reducible refine dASub ?_) | (with_reducible refine dSplNil ?_))
    refine dExecs (dAny ?_)
    (try k_fold)
    repeat' (first | (k_unfold; (try dsimp only)) | (k_end; wrow_close) | (k_here; (with_reducible show wpAny _ _ (compareOp CmpOp.NotEq (Value.ref _) (Value.ref _)) _ _ _); k_dflt (refine tup_ne (by k_asm) (by k_mem) (by k_mem) (by repeat' (first | exact SameAll.nil | exact eqAt_str _ _ _ | exact eqAt_bytes _ _ _ | exact eqAt_int _ _ _ | refine SameAll.cons ?_ ?_)) (by ktr_units) ?_)) | walk1 | (dsimp only; first | (k_here; (with_reducible show wpAny _ _ (compareOp CmpOp.NotEq (Value.ref _) (Value.ref _)) _ _ _); k_dflt (refine tup_ne (by k_asm) (by k_mem) (by k_mem) (by repeat' (first | exact SameAll.nil | exact eqAt_str _ _ _ | exact eqAt_bytes _ _ _ | exact eqAt_int _ _ _ | refine SameAll.cons ?_ ?_)) (by ktr_units) ?_)) | walk1) | (leave1; try dsimp only) | (with_reducible refine dABin ?_) | (with_reducible refine dAName ?_) | (with_reducible refine dAStore ?_) | (with_reducible refine dACmp ?_) | (with_reducible refine dATru ?_) | (with_reducible refine dASub ?_) | (with_reducible refine dSplNil ?_))
    have c4 : form = 0 ∨ (form ≠ 0 ∧ form ≠ 3) ∨ form = 3 := by omega
    rcases c4 with rfl | ⟨h0, h3⟩ | rfl
    · obtain rfl := hSc (by decide)
      obtain rfl := hTk rfl
      refine dExecs (dAny ?_)
      (try k_fold)
      repeat' (first | (k_unfold; (try dsimp only)) | (k_end; wrow_close) | (k_here; (with_reducible show wpAny _ _ (compareOp CmpOp.NotEq (Value.bytes _ _) (Value.bytes _ _)) _ _ _); k_dflt (refine ne_same ?_)) | walk1 | (dsimp only; first | (k_here; (with_reducible show wpAny _ _ (compareOp CmpOp.NotEq (Value.bytes _ _) (Value.bytes _ _)) _ _ _); k_dflt (refine ne_same ?_)) | walk1) | (leave1; try dsimp only) | (with_reducible refine dABin ?_) | (with_reducible refine dAName ?_) | (with_reducible refine dAStore ?_) | (with_reducible refine dACmp ?_) | (with_reducible refine dATru ?_) | (with_reducible refine dASub ?_) | (with_reducible refine dSplNil ?_))
      refine dAny ?_
      (try k_fold)
      repeat' (first | (k_unfold; (try dsimp only)) | (k_end; wrow_close) | walk1 | (dsimp only; walk1) | (leave1; try dsimp only) | (with_reducible refine dABin ?_) | (with_reducible refine dAName ?_) | (with_reducible refine dAStore ?_) | (with_reducible refine dACmp ?_) | (with_reducible refine dATru ?_) | (with_reducible refine dASub ?_) | (with_reducible refine dSplNil ?_))
      rename Fr _ _ _ _ => F9
      exact ⟨_, _, _, _, rfl, F9⟩
    · obtain rfl := hSc h3
      refine dExecs (dAny ?_)
      (try k_fold)
      repeat' (first | (k_unfold; (try dsimp only)) | (k_end; wrow_close) | (k_here; (with_reducible show wpAny _ _ (compareOp CmpOp.NotEq (Value.bytes _ _) (Value.bytes _ _)) _ _ _); k_dflt (refine ne_same ?_)) | (k_here; (with_reducible show wpAny _ _ (compareOp CmpOp.Eq (Value.int _ _) (Value.int _ _)) _ _ _); k_dflt (refine eq_int_ne (by assumption) ?_)) | walk1 | (dsimp only; first | (k_here; (with_reducible show wpAny _ _ (compareOp CmpOp.NotEq (Value.bytes _ _) (Value.bytes _ _)) _ _ _); k_dflt (refine ne_same ?_)) | (k_here; (with_reducible show wpAny _ _ (compareOp CmpOp.Eq (Value.int _ _) (Value.int _ _)) _ _ _); k_dflt (refine eq_int_ne (by assumption) ?_)) | walk1) | (leave1; try dsimp only) | (with_reducible refine dABin ?_) | (with_reducible refine dAName ?_) | (with_reducible refine dAStore ?_) | (with_reducible refine dACmp ?_) | (with_reducible refine dATru ?_) | (with_reducible refine dASub ?_) | (with_reducible refine dSplNil ?_))
      refine dAny ?_
      (try k_fold)
      repeat' (first | (k_unfold; (try dsimp only)) | (k_end; wrow_close) | walk1 | (dsimp only; walk1) | (leave1; try dsimp only) | (with_reducible refine dABin ?_) | (with_reducible refine dAName ?_) | (with_reducible refine dAStore ?_) | (with_reducible refine dACmp ?_) | (with_reducible refine dATru ?_) | (with_reducible refine dASub ?_) | (with_reducible refine dSplNil ?_))
      rename Fr _ _ _ _ => F9
      exact ⟨_, _, _, _, rfl, F9⟩
    · skip
      refine dExecs (dAny ?_)
      (try k_fold)
      repeat' (first | (k_unfold; (try dsimp only)) | (k_end; wrow_close) | walk1 | (dsimp only; walk1) | (leave1; try dsimp only) | (with_reducible refine dABin ?_) | (with_reducible refine dAName ?_) | (with_reducible refine dAStore ?_) | (with_reducible refine dACmp ?_) | (with_reducible refine dATru ?_) | (with_reducible refine dASub ?_) | (with_reducible refine dSplNil ?_))
      refine dAny ?_
      (try k_fold)
      repeat' (first | (k_unfold; (try dsimp only)) | (k_end; wrow_close) | walk1 | (dsimp only; walk1) | (leave1; try dsimp only) | (with_reducible refine dABin ?_) | (with_reducible refine dAName ?_) | (with_reducible refine dAStore ?_) | (with_reducible refine dACmp ?_) | (with_reducible refine dATru ?_) | (with_reducible refine dASub ?_) | (with_reducible refine dSplNil ?_))
      rename Fr _ _ _ _ => F9
      exact ⟨_, _, _, _, rfl, F9⟩
  clear F9 N9
  obtain ⟨tkd, rr, h9, tk9, rfl, F9⟩ := j
  (dsimp only [List.cons_append, List.nil_append, bmap, S] at F9)
  (try dsimp only)
  have N9 : News s.heap L' h9 [] := News.nil
  have naE : (naOf K (ds.length : Int)).toNat = hh.length := by rw [R7]; omega
  refine dCut (TJ a s.heap L' s [(S "kind", .str (kindN form) tkd), (S "raw", .ref rr), (S "is_good", .bool true), (S "data", .bytes Bk tk), (S "head", .bytes Bh th), (S "cut", .bytes Bc tc), (S "number", .int number tn), (S "payload", .bytes Bp tp), (S "token", .bytes Bt tt), (S "scid", .bytes Bs tsc), (S "dcid", .bytes Bd td), (S "size", .int size t3), (S "fixed", .bool fixed), (S "bits", .int bits t2), (S "form", .int form t1)] D bits (kindN form) number Bp) [_] ?_ (fun s₂ j => ?_)
  · skip
    refine dExecs (dAssign (dCallName ?_))
    repeat' (first | (k_unfold; (try dsimp only)) | (k_end; wrow_close) | walk1 | (dsimp only; walk1) | (leave1; try dsimp only) | (with_reducible refine dABin ?_) | (with_reducible refine dAName ?_) | (with_reducible refine dAStore ?_) | (with_reducible refine dACmp ?_) | (with_reducible refine dATru ?_) | (with_reducible refine dASub ?_) | (with_reducible refine dSplNil ?_))
    refine dCallWith (K := Mine.hd.heap_39 w.params) (by kernel_rfl) (dAny ?_)
    (try k_fold)
    repeat' (first | ((fail_if_success (with_reducible show wpAny _ _ (eval (PySem.Expr.IfExp _ _ _ _) _) _ _ _)); first | (k_unfold; (try dsimp only)) | (k_end; wrow_close) | walk1 | (dsimp only; walk1)))
    refine joinI (if number < 50 then number else number - 1) (by split <;> omega) (by split <;> omega) ?_ (fun n9 t9 tk9 en9 nlo9 nhi9 => ?_)
    · skip
      repeat' (first | (k_unfold; (try dsimp only)) | (k_end; wrow_close) | walk1 | (dsimp only; walk1) | (leave1; try dsimp only) | (with_reducible refine dABin ?_) | (with_reducible refine dAName ?_) | (with_reducible refine dAStore ?_) | (with_reducible refine dACmp ?_) | (with_reducible refine dATru ?_) | (with_reducible refine dASub ?_) | (with_reducible refine dSplNil ?_))
      all_goals exact ⟨_, _, by first | rw [if_pos (by assumption)] | rw [if_neg (by assumption)], rfl⟩
    have hn9 : n9 < 100 := by rw [en9]; split <;> omega
    repeat' (first | (k_unfold; (try dsimp only)) | (k_end; wrow_close) | walk1 | (dsimp only; walk1) | (leave1; try dsimp only) | (with_reducible refine dABin ?_) | (with_reducible refine dAName ?_) | (with_reducible refine dAStore ?_) | (with_reducible refine dACmp ?_) | (with_reducible refine dATru ?_) | (with_reducible refine dASub ?_) | (with_reducible refine dSplNil ?_))
    refine dUseRef (d_opened _ _ _ _ _ _ _ [107, 101, 121] K eK (by exact rfl) R1 hok (by omega) (by rw [R7]; omega) R8 (by rw [R7]; omega) n9 number (turned [107, 101, 121] number ps) nlo9 hn9 hnum.1 hnum.2 (by rw [naE]; exact O2) (by rw [naE, R7]; exact O3)) (by k_asm) (by k_asm) (by assumption) (by assumption) (by exact rfl) (by exact rfl) (by exact rfl) (by exact rfl) (by exact rfl) (by ktr_room) (by ktr_units) ?_
    intro v h5 tk5 hp F5 N5
    rw [naE, O5, O4, R3] at hp
    rcases hp with ⟨hb0, T', P', a', q', u', rfl, hT0, hP', ⟨v1, v2, v3, hT'⟩ | ⟨v1, v2, v3, v4, hT'⟩⟩ | ⟨hb0, t', rfl⟩
    · obtain rfl := bInts_inj (hP'.trans eP.symm)
      have N6 := newsAdd F9 News.nil hT' hT0
      clear N5
      tb_rel
      repeat' (first | (k_unfold; (try dsimp only)) | (k_end; wrow_close) | walk1 | (dsimp only; walk1) | (leave1; try dsimp only) | (with_reducible refine dABin ?_) | (with_reducible refine dAName ?_) | (with_reducible refine dAStore ?_) | (with_reducible refine dACmp ?_) | (with_reducible refine dATru ?_) | (with_reducible refine dASub ?_) | (with_reducible refine dSplNil ?_))
      refine dAny ?_
      (try k_fold)
      repeat' (first | (k_unfold; (try dsimp only)) | (k_end; wrow_close) | walk1 | (dsimp only; walk1) | (leave1; try dsimp only) | (with_reducible refine dABin ?_) | (with_reducible refine dAName ?_) | (with_reducible refine dAStore ?_) | (with_reducible refine dACmp ?_) | (with_reducible refine dATru ?_) | (with_reducible refine dASub ?_) | (with_reducible refine dSplNil ?_))
      rename Fr _ _ _ _ => F8
      rename News _ _ _ _ => N8
      exact ⟨_, _, _, rfl, F8, .inl ⟨hb0, _, _, _, _, rfl, .inl ⟨_, _, _, N8⟩⟩⟩
    · obtain rfl := bInts_inj (hP'.trans eP.symm)
      have N6 := newsAdd F9 News.nil hT' hT0
      clear N5
      tb_rel
      repeat' (first | (k_unfold; (try dsimp only)) | (k_end; wrow_close) | walk1 | (dsimp only; walk1) | (leave1; try dsimp only) | (with_reducible refine dABin ?_) | (with_reducible refine dAName ?_) | (with_reducible refine dAStore ?_) | (with_reducible refine dACmp ?_) | (with_reducible refine dATru ?_) | (with_reducible refine dASub ?_) | (with_reducible refine dSplNil ?_))
      refine dAny ?_
      (try k_fold)
      repeat' (first | (k_unfold; (try dsimp only)) | (k_end; wrow_close) | walk1 | (dsimp only; walk1) | (leave1; try dsimp only) | (with_reducible refine dABin ?_) | (with_reducible refine dAName ?_) | (with_reducible refine dAStore ?_) | (with_reducible refine dACmp ?_) | (with_reducible refine dATru ?_) | (with_reducible refine dASub ?_) | (with_reducible refine dSplNil ?_))
      rename Fr _ _ _ _ => F8
      rename News _ _ _ _ => N8
      exact ⟨_, _, _, rfl, F8, .inl ⟨hb0, _, _, _, _, rfl, .inr ⟨_, _, _, _, N8⟩⟩⟩
    · tb_rel
      repeat' (first | (k_unfold; (try dsimp only)) | (k_end; wrow_close) | walk1 | (dsimp only; walk1) | (leave1; try dsimp only) | (with_reducible refine dABin ?_) | (with_reducible refine dAName ?_) | (with_reducible refine dAStore ?_) | (with_reducible refine dACmp ?_) | (with_reducible refine dATru ?_) | (with_reducible refine dASub ?_) | (with_reducible refine dSplNil ?_))
      refine dAny ?_
      (try k_fold)
      repeat' (first | (k_unfold; (try dsimp only)) | (k_end; wrow_close) | walk1 | (dsimp only; walk1) | (leave1; try dsimp only) | (with_reducible refine dABin ?_) | (with_reducible refine dAName ?_) | (with_reducible refine dAStore ?_) | (with_reducible refine dACmp ?_) | (with_reducible refine dATru ?_) | (with_reducible refine dASub ?_) | (with_reducible refine dSplNil ?_))
      rename Fr _ _ _ _ => F8
      exact ⟨_, _, _, rfl, F8, .inr ⟨hb0, _, rfl⟩⟩
  clear F9 N9
  obtain ⟨tv, h9, tk9, rfl, F9, hv⟩ := j
  (dsimp only [List.cons_append, List.nil_append, bmap, S] at F9)
  (try dsimp only)
  rcases hv with ⟨hb0, T', a', q', u', rfl, ⟨v1, v2, v3, N9⟩ | ⟨v1, v2, v3, v4, N9⟩⟩ | ⟨hb0, t', rfl⟩
  · skip
    refine dExecs (dAny ?_)
    (try k_fold)
    repeat' (first | (k_unfold; (try dsimp only)) | (k_end; wrow_close) | walk1 | (dsimp only; walk1) | (leave1; try dsimp only) | (with_reducible refine dABin ?_) | (with_reducible refine dAName ?_) | (with_reducible refine dAStore ?_) | (with_reducible refine dACmp ?_) | (with_reducible refine dATru ?_) | (with_reducible refine dASub ?_) | (with_reducible refine dSplNil ?_))
    refine dExecs (dAny ?_)
    (try k_fold)
    repeat' (first | (k_unfold; (try dsimp only)) | (k_end; wrow_close) | (k_here; (with_reducible show wpAny _ _ (compareOp CmpOp.Eq (Value.ref _) (Value.ref _)) _ _ _); k_dflt (refine tup_eq (by k_asm) (by k_mem) (by k_mem) (by repeat' (first | exact SameAll.nil | exact eqAt_str _ _ _ | exact eqAt_bytes _ _ _ | exact eqAt_int _ _ _ | refine SameAll.cons ?_ ?_)) (by ktr_units) ?_)) | (k_here; (with_reducible show wpAny _ _ (subscriptTail _ _ (Value.ref _) (Value.ref _)) _ _ _); k_dflt (first | refine last2_slice (vs := [_, _, _, _]) (by k_asm) (by k_asm) (by k_mem) (by exact Nat.le_add_left 1 _) (by simp only [List.length_cons, List.length_nil]; decide) ?_ (by with_unfolding_all rfl) (by intro _; with_unfolding_all rfl) | refine last2_slice (vs := [_, _, _, _, _]) (by k_asm) (by k_asm) (by k_mem) (by exact Nat.le_add_left 1 _) (by simp only [List.length_cons, List.length_nil]; decide) ?_ (by with_unfolding_all rfl) (by intro _; with_unfolding_all rfl)); intro D9 h9 F9 N9; tb_rel) | (k_here; (with_reducible show wpAny _ _ (compareOp CmpOp.Eq (Value.str _ _) (Value.str _ _)) _ _ _); k_dflt (refine eq_str_same ?_)) | walk1 | (dsimp only; first | (k_here; (with_reducible show wpAny _ _ (compareOp CmpOp.Eq (Value.ref _) (Value.ref _)) _ _ _); k_dflt (refine tup_eq (by k_asm) (by k_mem) (by k_mem) (by repeat' (first | exact SameAll.nil | exact eqAt_str _ _ _ | exact eqAt_bytes _ _ _ | exact eqAt_int _ _ _ | refine SameAll.cons ?_ ?_)) (by ktr_units) ?_)) | (k_here; (with_reducible show wpAny _ _ (subscriptTail _ _ (Value.ref _) (Value.ref _)) _ _ _); k_dflt (first | refine last2_slice (vs := [_, _, _, _]) (by k_asm) (by k_asm) (by k_mem) (by exact Nat.le_add_left 1 _) (by simp only [List.length_cons, List.length_nil]; decide) ?_ (by with_unfolding_all rfl) (by intro _; with_unfolding_all rfl) | refine last2_slice (vs := [_, _, _, _, _]) (by k_asm) (by k_asm) (by k_mem) (by exact Nat.le_add_left 1 _) (by simp only [List.length_cons, List.length_nil]; decide) ?_ (by with_unfolding_all rfl) (by intro _; with_unfolding_all rfl)); intro D9 h9 F9 N9; tb_rel) | (k_here; (with_reducible show wpAny _ _ (compareOp CmpOp.Eq (Value.str _ _) (Value.str _ _)) _ _ _); k_dflt (refine eq_str_same ?_)) | walk1) | (leave1; try dsimp only) | (with_reducible refine dABin ?_) | (with_reducible refine dAName ?_) | (with_reducible refine dAStore ?_) | (with_reducible refine dACmp ?_) | (with_reducible refine dATru ?_) | (with_reducible refine dASub ?_) | (with_reducible refine dSplNil ?_))
    rename Fr _ _ _ _ => F9
    exact hret _ _ F9.keep
  · skip
    refine dExecs (dAny ?_)
    (try k_fold)
    repeat' (first | (k_unfold; (try dsimp only)) | (k_end; wrow_close) | walk1 | (dsimp only; walk1) | (leave1; try dsimp only) | (with_reducible refine dABin ?_) | (with_reducible refine dAName ?_) | (with_reducible refine dAStore ?_) | (with_reducible refine dACmp ?_) | (with_reducible refine dATru ?_) | (with_reducible refine dASub ?_) | (with_reducible refine dSplNil ?_))
    refine dExecs (dAny ?_)
    (try k_fold)
    repeat' (first | (k_unfold; (try dsimp only)) | (k_end; wrow_close) | (k_here; (with_reducible show wpAny _ _ (compareOp CmpOp.Eq (Value.ref _) (Value.ref _)) _ _ _); k_dflt (refine tup_eq (by k_asm) (by k_mem) (by k_mem) (by repeat' (first | exact SameAll.nil | exact eqAt_str _ _ _ | exact eqAt_bytes _ _ _ | exact eqAt_int _ _ _ | refine SameAll.cons ?_ ?_)) (by ktr_units) ?_)) | (k_here; (with_reducible show wpAny _ _ (subscriptTail _ _ (Value.ref _) (Value.ref _)) _ _ _); k_dflt (first | refine last2_slice (vs := [_, _, _, _]) (by k_asm) (by k_asm) (by k_mem) (by exact Nat.le_add_left 1 _) (by simp only [List.length_cons, List.length_nil]; decide) ?_ (by with_unfolding_all rfl) (by intro _; with_unfolding_all rfl) | refine last2_slice (vs := [_, _, _, _, _]) (by k_asm) (by k_asm) (by k_mem) (by exact Nat.le_add_left 1 _) (by simp only [List.length_cons, List.length_nil]; decide) ?_ (by with_unfolding_all rfl) (by intro _; with_unfolding_all rfl)); intro D9 h9 F9 N9; tb_rel) | (k_here; (with_reducible show wpAny _ _ (compareOp CmpOp.Eq (Value.str _ _) (Value.str _ _)) _ _ _); k_dflt (refine eq_str_same ?_)) | walk1 | (dsimp only; first | (k_here; (with_reducible show wpAny _ _ (compareOp CmpOp.Eq (Value.ref _) (Value.ref _)) _ _ _); k_dflt (refine tup_eq (by k_asm) (by k_mem) (by k_mem) (by repeat' (first | exact SameAll.nil | exact eqAt_str _ _ _ | exact eqAt_bytes _ _ _ | exact eqAt_int _ _ _ | refine SameAll.cons ?_ ?_)) (by ktr_units) ?_)) | (k_here; (with_reducible show wpAny _ _ (subscriptTail _ _ (Value.ref _) (Value.ref _)) _ _ _); k_dflt (first | refine last2_slice (vs := [_, _, _, _]) (by k_asm) (by k_asm) (by k_mem) (by exact Nat.le_add_left 1 _) (by simp only [List.length_cons, List.length_nil]; decide) ?_ (by with_unfolding_all rfl) (by intro _; with_unfolding_all rfl) | refine last2_slice (vs := [_, _, _, _, _]) (by k_asm) (by k_asm) (by k_mem) (by exact Nat.le_add_left 1 _) (by simp only [List.length_cons, List.length_nil]; decide) ?_ (by with_unfolding_all rfl) (by intro _; with_unfolding_all rfl)); intro D9 h9 F9 N9; tb_rel) | (k_here; (with_reducible show wpAny _ _ (compareOp CmpOp.Eq (Value.str _ _) (Value.str _ _)) _ _ _); k_dflt (refine eq_str_same ?_)) | walk1) | (leave1; try dsimp only) | (with_reducible refine dABin ?_) | (with_reducible refine dAName ?_) | (with_reducible refine dAStore ?_) | (with_reducible refine dACmp ?_) | (with_reducible refine dATru ?_) | (with_reducible refine dASub ?_) | (with_reducible refine dSplNil ?_))
    rename Fr _ _ _ _ => F9
    exact hret _ _ F9.keep
  · have N9 : News s.heap L' h9 [] := News.nil
    refine dExecs (dAny ?_)
    (try k_fold)
    repeat' (first | (k_unfold; (try dsimp only)) | (k_end; wrow_close) | walk1 | (dsimp only; walk1) | (leave1; try dsimp only) | (with_reducible refine dABin ?_) | (with_reducible refine dAName ?_) | (with_reducible refine dAStore ?_) | (with_reducible refine dACmp ?_) | (with_reducible refine dATru ?_) | (with_reducible refine dASub ?_) | (with_reducible refine dSplNil ?_))
    rename Fr _ _ _ _ => F9
    exact hret _ _ F9.keep
theorem law_holds : PySem.Challenge.rw_no0081_01.Holds := by
  w_on
  refine holds_law hd.said fun k1 => ?_
  refine holdsD (r := PySem.Challenge.rw_no0081_01.row) (q := hd.view_39) (loose := hd.loose) (Xt := hd.xt) (XP := XL hd.view_39 hd.lv) (Yf := hd.hook.obs) (Ya := hd.hook.val) (YP := hd.hook.says) (N := 5292) hd.left hd.hook.of hd.hook.keeps
    (fun s e => xl_of s (Bool.and_eq_true_iff.mp e).1) XL.keeps (by rfl) (by rfl) (by rfl) (fun s e => recFacts_of (Bool.and_eq_true_iff.mp e).2) (by rfl) k1 (by decide +kernel) ⟨rfl, rfl, rfl, rfl, rfl, by decide +kernel⟩ ?hw ?hc
  case hw => w_witness2
  case hc =>
  intro w s₀ s₁ mg mb G Y fa o pm cd doc dV kV ho hd0 hcd hD hmg hg args vals as hpre hlay hrd hwl hlo
  have KX := kIn_of Y
  refine Ground.open G ?_
  intro T B D TE TW
  have hfa : fa = 378 := by
    have e := mg_of (n := Str.ofString "law") (v := .ref 378) KX T.g (by kernel_rfl)
    have e2 := hmg.symm.trans e
    cases e2
    rfl
  subst hfa
  wrow_args hpre hlay hrd hwl hlo
  rename IntsAre _ _ => hI9
  rename Heap.IsList _ _ _ => hL9
  rename ¬ _ => hc9
  refine dCall (x_law _ _ _ hI9 ?_ _ _ s₁ _ (below_caller _) KX T hL9 ?_ ?_ ?_)
  · omega
  · decide +kernel
  · decide +kernel
  · intro h' tk' st
    refine ⟨.inl ⟨.bool true, .bool true, [], rfl, raisesW_false ?_, .bool true, postW_of (by wrow_shape) (by wtm_val) ?_, ?_⟩, .of_keep st, rfl, ?_⟩
    · wrow_none_raised
    · first | rfl | trace_state
    · exact unshared_nil
    · exact .of_eq hg
end
end Mine
theorem PySem.Challenge.cw_no0081_01_holds : PySem.Challenge.rw_no0081_01.Holds := by
  exact Mine.law_holds
