import PyProof.Rows.All
import Wide.All
import OpenK.AllK
import Wide.FinOn
import Lean
import PySem.Challenge.RW_qz0154_01
open PySem PySem.W PyProof.Rows
set_option Elab.async false
set_option maxRecDepth 100000
set_option maxHeartbeats 8000000
namespace Mine
section
noncomputable def decIds : List String := ["bytearray.__contains__", "bytearray.__mod__", "bytearray.__rmod__", "_struct.pack_into.held", "bytearray.find.held"] ++ Builtin.Bytes.decodersThatHold
noncomputable def dec : Code → Bool
  | .builtin id _ => decIds.contains id
  | _ => false
def NoDec (l : List (Code × Pos)) : Prop := ∀ c ∈ l, dec c.1 = false
def wpS {α : Type} (M : Model) (A : Around) (t : Sem α) (Q : α → Shared → Prop) (E : Value → Shared → Prop) (s : Shared) : Prop :=
  ∀ Γ p, Γ.In A → dec Γ.code = false → NoDec Γ.below → Sem.wp M Γ t (fun a _ s' => Q a s') (fun e _ s' => E e s') p s
def codeS (M : Model) (A : Around) (c : Code) (R : Result → Shared → Prop) (s : Shared) : Prop :=
  ∀ Γ p, Γ.code = c → Γ.Below A → NoDec Γ.below → wpCode M Γ R p s
section slay
variable {α β : Type} {M : Model} {A : Around} {E : Value → Shared → Prop} {s : Shared}
theorem wpS_any {t : Sem α} {Q : α → Shared → Prop} (h : wpAny M A t Q E s) : wpS M A t Q E s := fun Γ p hΓ _ _ => h Γ p hΓ
theorem codeS_any {c : Code} {R : Result → Shared → Prop} (h : codeAny M A c R s) : codeS M A c R s := fun Γ p hc hΓ _ => h Γ p hc hΓ
theorem wpS_mono {t : Sem α} {Q Q' : α → Shared → Prop} {E' : Value → Shared → Prop} (h : wpS M A t Q E s) (hQ : ∀ a s, Q a s → Q' a s) (hE : ∀ e s, E e s → E' e s) : wpS M A t Q' E' s :=
  fun Γ p hΓ h1 h2 => Sem.wp_mono M Γ t (fun a _ s => hQ a s) (fun e _ s => hE e s) p s (h Γ p hΓ h1 h2)
theorem wpS_bind {m : Sem α} {f : α → Sem β} {Q : β → Shared → Prop} (h : wpS M A m (fun a s' => wpS M A (f a) Q E s') E s) : wpS M A (m >>= f) Q E s := fun Γ p hΓ h1 h2 => by
  rw [Sem.wp_bind']
  exact Sem.wp_mono M Γ m (fun a p' s' h' => h' Γ p' hΓ h1 h2) (fun _ _ _ h' => h') p s (h Γ p hΓ h1 h2)
theorem wpS_bindAny {m : Sem α} {f : α → Sem β} {Q : β → Shared → Prop} (h : wpAny M A m (fun a s' => wpS M A (f a) Q E s') E s) : wpS M A (m >>= f) Q E s := wpS_bind (wpS_any h)
theorem wpS_pure {a : α} {Q : α → Shared → Prop} (h : Q a s) : wpS M A (pure a) Q E s := fun _ _ _ _ _ => h
theorem wpS_holding {vs : List Value} {m : Sem α} {Q : α → Shared → Prop} (h : wpS M A m Q E s) : wpS M A (holding vs m) Q E s :=
  fun Γ p hΓ h1 h2 => by rw [Sem.wp_holding]; exact h Γ p hΓ h1 h2
theorem wpS_keep {vs : List Value} {m : Sem α} {Q : α → Shared → Prop} (h : wpS M A m Q E s) : wpS M A (m.keep vs) Q E s :=
  fun Γ p hΓ h1 h2 => by rw [Sem.wp_keep]; exact h Γ p hΓ h1 h2
theorem wpS_onRaise {m : Sem α} {k : Value → Sem Unit} {Q : α → Shared → Prop} (h : wpS M A m Q (fun e s' => wpAny M A (k e) (fun _ s'' => E e s'') E s') s) : wpS M A (m.onRaise k) Q E s := fun Γ p hΓ h1 h2 => by
  rw [Sem.wp_onRaise]
  exact Sem.wp_mono M Γ m (fun _ _ _ h' => h') (fun e p' s' h' => h' Γ p' hΓ) p s (h Γ p hΓ h1 h2)
theorem noDec_enter {Γ : Ctx} {c : Code} {h : Option Value} {p : Pos} (h1 : dec Γ.code = false) (h2 : NoDec Γ.below) : NoDec (Γ.enter c h p).below := by
  intro x hx
  have : (Γ.enter c h p).below = (Γ.code, p) :: Γ.below := rfl
  rw [this] at hx
  rcases List.mem_cons.mp hx with rfl | hx
  · exact h1
  · exact h2 x hx
theorem wpS_run {c : Code} {h : Option Value} {Q : Flow → Shared → Prop}
    (hc : codeS M (A.mark h) c (fun r s' => match r with | .ok f => Q f s' | .error e => E e s') s) (hnb : h ≠ some byPass) : wpS M A (run c h) Q E s :=
  fun Γ p hΓ h1 h2 => by rw [Sem.wp_run]; exact hc _ p rfl (hΓ.enter c h p hnb) (noDec_enter h1 h2)
theorem wpS_runValue {c : Code} {Q : Value → Shared → Prop}
    (hc : codeS M A c (fun r s' => match r with | .ok (.ret v) => Q v s' | .ok _ => False | .error e => E e s') s) : wpS M A (runValue c) Q E s :=
  fun Γ p hΓ h1 h2 => by rw [Sem.wp_runValue]; exact hc _ p rfl (hΓ.enter c none p (by intro x; cases x)) (noDec_enter h1 h2)
theorem wpS_call {f : Value} {pos : List Value} {kw : List (Str × Value)} {Q : Value → Shared → Prop}
    (hc : codeS M A (.call f ⟨pos, kw⟩) (fun r s' => match r with | .ok (.ret v) => Q v s' | .ok _ => False | .error e => E e s') s) : wpS M A (call f pos kw) Q E s := wpS_runValue hc
theorem codeS_mono {c : Code} {R R' : Result → Shared → Prop} (h : codeS M A c R s) (hR : ∀ r s, R r s → R' r s) : codeS M A c R' s :=
  fun Γ p hc hΓ h2 => wpCode_mono hR (h Γ p hc hΓ h2)
theorem codeS_of_tree {c : Code} {R : Result → Shared → Prop} (hd : dec c = false)
    (h : wpS M (A.under c) (M.den c) (fun fin s' => match fin with | .done f => R (.ok f) s' | .again c' => c'.quiet = true ∧ codeS M A c' R s') (fun e s' => R (.error e) s') s) : codeS M A c R s := fun Γ p hc hΓ h2 => by
  rw [wpCode_iff_wp, hc]
  refine Sem.wp_mono M Γ _ (fun fin p' s' h' => ?_) (fun _ _ _ h' => h') p s (h Γ p (hc ▸ hΓ.in) (by rw [hc]; exact hd) h2)
  cases fin with
  | done f => exact h'
  | again c' => exact ⟨h'.1, h'.2 (Γ.goto c') p' rfl (hΓ.goto c') h2⟩
end slay
section slay2
variable {prog : Program} {w : World} {A : Around} {E : Value → Shared → Prop} {s : Shared} {env : Env}
theorem wpS_execs_nil {Q : Flow → Shared → Prop} (h : Q .next s) : wpS (model prog w) A (execs [] env) Q E s := wpS_pure h
theorem wpS_execs_cons {st : Stmt} {rest : List Stmt} {Q : Flow → Shared → Prop}
    (h : wpS (model prog w) A (exec st env) (fun f s' => match f with | .next => wpS (model prog w) A (execs rest env) Q E s' | f => Q f s') E s) : wpS (model prog w) A (execs (st :: rest) env) Q E s := fun Γ p hΓ h1 h2 => by
  rw [execs_cons, Sem.wp_bind']
  refine Sem.wp_mono _ Γ _ (fun f p' s' h' => ?_) (fun _ _ _ h' => h') _ _ (h Γ p hΓ h1 h2)
  cases f <;> first | exact h' Γ p' hΓ h1 h2 | exact h'
theorem wpS_execs_any {st : Stmt} {rest : List Stmt} {Q : Flow → Shared → Prop}
    (h : wpAny (model prog w) A (exec st env) (fun f s' => match f with | .next => wpS (model prog w) A (execs rest env) Q E s' | f => Q f s') E s) : wpS (model prog w) A (execs (st :: rest) env) Q E s := wpS_execs_cons (wpS_any h)
theorem wpS_If {test : PySem.Expr} {body orelse : List Stmt} {pos : Pos} {Q : Flow → Shared → Prop}
    (h : wpS (model prog w) A (isTrue test env (eval test env)) (fun b s₂ => if b then wpS (model prog w) A (execs body env) Q E s₂ else wpS (model prog w) A (execs orelse env) Q E s₂) E s) :
    wpS (model prog w) A (exec (.If test body orelse pos) env) Q E s := fun Γ p hΓ h1 h2 => by
  simp only [exec_If, Sem.wp_bind', Sem.wp_cmd_standAt]
  refine Sem.wp_mono _ Γ _ (fun b p₂ s₂ h₂ => ?_) (fun _ _ _ h' => h') _ _ (h Γ _ hΓ h1 h2)
  cases b <;> exact h₂ Γ p₂ hΓ h1 h2
theorem wpS_Expr {e : PySem.Expr} {pos : Pos} {Q : Flow → Shared → Prop} (h : wpS (model prog w) A (eval e env) (fun v s' => v.onHeap = false ∧ Q .next s') E s)
    (hi : interactive env = false := by rfl) (hs : swapsWith e none pos.line env = pure false := by rfl) : wpS (model prog w) A (exec (.Expr e pos) env) Q E s := by
  rw [exec_Expr env e pos hi hs]
  refine wpS_bindAny (wpAny_standAt (wpS_bind (wpS_mono h (fun v s' h' => ?_) fun _ _ x => x)))
  have hv : ∀ a, v ≠ .ref a := fun a hva => by subst hva; cases h'.1
  rw [dropValue_plain hv]
  exact wpS_pure h'.2
theorem wpS_Assign_Name {x : Str} {pos' : Pos} {value : PySem.Expr} {pos : Pos} {Q : Flow → Shared → Prop}
    (h : wpS (model prog w) A (eval value env) (fun v s₁ => wpAny (model prog w) A (storeName env x v) (fun _ => Q .next) E s₁) E s)
    (hs : swapsWith value (some (.Name x pos')) pos.line env = pure false := by rfl) : wpS (model prog w) A (exec (.Assign [.Name x pos'] value pos) env) Q E s := fun Γ p hΓ h1 h2 => by
  simp only [exec_Assign_Name env x pos' value pos hs, Sem.wp_bind', Sem.wp_cmd_standAt, Sem.wp_bindName, Sem.wp_pure']
  exact Sem.wp_mono _ Γ _ (fun v _ s₁ h₁ => h₁ Γ _ hΓ) (fun _ _ _ h' => h') _ _ (h Γ _ hΓ h1 h2)
theorem wpS_Assign_Subscript {o i value : PySem.Expr} {pos' pos : Pos} {Q : Flow → Shared → Prop}
    (h : wpS (model prog w) A (eval value env) (fun v s₁ => wpAny (model prog w) A (eval o env) (fun ov s₂ => wpAny (model prog w) A (eval i env) (fun iv s₃ =>
      wpS (model prog w) A (setItem ov iv v) (fun _ => Q .next) E s₃) E s₂) E s₁) E s)
    (hs : swapsWith value (some (.Subscript o i pos')) pos.line env = pure false := by rfl) : wpS (model prog w) A (exec (.Assign [.Subscript o i pos'] value pos) env) Q E s := fun Γ p hΓ h1 h2 => by
  simp only [exec_Assign_Subscript o i pos' value pos hs, assign_Subscript, Sem.wp_bind', Sem.wp_holding, Sem.wp_cmd_standAt, Sem.wp_release, Sem.wp_pure']
  exact Sem.wp_mono _ Γ _ (fun v p₁ s₁ h₁ => Sem.wp_mono _ Γ _ (fun ov p₂ s₂ h₂ => Sem.wp_mono _ Γ _ (fun iv _ s₃ h₃ => h₃ Γ _ hΓ h1 h2)
    (fun _ _ _ h' => h') _ _ (h₂ Γ p₂ hΓ)) (fun _ _ _ h' => h') _ _ (h₁ Γ p₁ hΓ)) (fun _ _ _ h' => h') _ _ (h Γ _ hΓ h1 h2)
theorem wpS_Return {e : PySem.Expr} {pos : Pos} {Q : Flow → Shared → Prop} (h : wpS (model prog w) A (eval e env) (fun v => Q (.ret v)) E s) :
    wpS (model prog w) A (exec (.Return (some e) pos) env) Q E s := fun Γ p hΓ h1 h2 => by
  simp only [exec_Return_some, Sem.wp_bind', Sem.wp_cmd_standAt, Sem.wp_pure']; exact h Γ _ hΓ h1 h2
theorem wpS_Compare1 {l r : PySem.Expr} {op : CmpOp} {pos : Pos} {Q : Value → Shared → Prop}
    (h : wpS (model prog w) A (eval l env) (fun a s₁ => wpAny (model prog w) A (eval r env) (fun b s₂ => wpAny (model prog w) A (compareOp op a b) Q E s₂) E s₁) E s)
    (hm : behindInMarks op r = false := by with_unfolding_all rfl) : wpS (model prog w) A (eval (.Compare l [op] [r] pos) env) Q E s := fun Γ p hΓ h1 h2 => by
  simp only [eval_Compare1, markedBehindIn_of_false hm, Sem.wp_bind', Sem.wp_holding, Sem.wp_cmd_standAt, Sem.wp_operate]
  exact Sem.wp_mono _ Γ _ (fun a p₁ s₁ h₁ => Sem.wp_mono _ Γ _ (fun b _ s₂ h₂ => h₂ Γ _ hΓ) (fun _ _ _ h' => h') _ _ (h₁ Γ p₁ hΓ)) (fun _ _ _ h' => h') _ _ (h Γ p hΓ h1 h2)
theorem wpS_isTrue_not {x whole pos} {Q : Bool → Shared → Prop} (h : wpS (model prog w) A (isTrue x env (eval x env)) (fun c s' => Q (!c) s') E s) :
    wpS (model prog w) A (isTrue (.UnaryOp .Not x pos) env whole) Q E s := by
  show wpS _ A (do return !(← isTrue x env (eval x env))) Q E s
  exact wpS_bind (wpS_mono h (fun c s' h' => wpS_pure h') fun _ _ x => x)
theorem wpS_isTrue_or {x rest pos whole} {Q : Bool → Shared → Prop}
    (h : wpS (model prog w) A (isTrue x env (eval x env)) (fun c s' => if c then Q true s' else wpAny (model prog w) A (isTrue (.BoolOp .Or rest pos) env whole) Q E s') E s) :
    wpS (model prog w) A (isTrue (.BoolOp .Or (x :: rest) pos) env whole) Q E s := by
  show wpS _ A (do
    match BoolOp.Or, ← isTrue x env (eval x env) with
    | .And, false => pure false
    | .Or, true => pure true
    | _, _ => allTrue .Or rest env) Q E s
  refine wpS_bind (wpS_mono h (fun c s' h' => ?_) fun _ _ x => x)
  cases c with
  | true => exact wpS_pure h'
  | false => exact wpS_any h'
end slay2
end
section
section shead
theorem gw {B : Prop} (h : ∀ G : Prop, (B → G) → G) : B := h B fun x => x
theorem thread_endsS {prog : Program} {w : World} {t : Sem Fin} {s : Shared} {R : Result → Shared → Prop} (hreg : s.asleep)
    (h : wpS (model prog w) callerA t (fun fin s' => ∃ f, fin = .done f ∧ (R (.ok f) s' ∧ leftWithCleanup s'.gens = false)) (fun e s' => R (.error e) s' ∧ leftWithCleanup s'.gens = false) s) :
    ∃ n r s' s'', runN (denote table) prog w n s ⟨t, .builtin "claim.caller" {}, default, []⟩ = .halted (outcomeOf r) s' ∧
      schedN (denote table) prog w n (.single s ⟨t, .builtin "claim.caller" {}, default, []⟩) = .halted (outcomeOf r) s' ∧ s'.forget = s''.forget ∧ R r s'' := by
  have hw : Sem.wp (model prog w) ⟨.builtin "claim.caller" {}, none, none, [], none⟩ t
      (Sem.finPost (model prog w) ⟨.builtin "claim.caller" {}, none, none, [], none⟩ (fun r s' => R r s' ∧ leftWithCleanup s'.gens = false))
      (fun e _ s' => R (.error e) s' ∧ leftWithCleanup s'.gens = false) default s := by
    refine Sem.wp_mono _ _ t (fun fin p' s' h' => ?_) (fun _ _ _ h' => h') default s (h _ default caller_in (by decide +kernel) (fun _ hc => nomatch hc))
    obtain ⟨f, rfl, hf⟩ := h'
    exact hf
  obtain ⟨n, r, s₁, s₂, hs, hn, hfo, hR⟩ := wp_halts_full (M := model prog w) (R := R) hreg hw
  exact ⟨n, r, s₂, s₁, hn, hs, hfo, hR⟩
theorem callFrom_of_specS {c : ClaimW} {tree : List Value → Sem Fin} {w : World} {s : Shared} {free : Addr → Prop} {gens : Prop} {kept : Heap → Prop} (hz : s.asleep) (hgens : s.gens = #[])
    (hspec : ∀ args, c.pre args = true → WData.layableAll args = true →
      ∀ ord : List DictEntry → List DictEntry, (∀ l, (ord l).Perm l) →
      ∃ vs s₁, layAllW c.records (classAt s.heap) w.params ord args s = some (vs, s₁) ∧
        wpS (model c.prog w) callerA (tree vs) (fun fin s' => ∃ f, fin = .done f ∧ (c.Ends s args vs s₁ (.ok f) s' ∧ s'.os = s.os ∧ AllBare s'.gens ∧ kept s'.heap))
          (fun e s' => c.Ends s args vs s₁ (.error e) s' ∧ s'.os = s.os ∧ AllBare s'.gens ∧ kept s'.heap) s₁) :
    c.CallFrom (fun vs => ⟨tree vs, .builtin "claim.caller" {}, default, []⟩) w free gens kept s := by
  intro args hpre hlay ord hord
  refine gw fun G kG => ?_
  obtain ⟨vs, s₁, hlaid, hcode⟩ := hspec args hpre hlay ord hord
  have hal := layAllW_rest _ _ _ hlaid
  obtain ⟨k, r, s', s'', hrun, hsched, hfo, hcase, hos, hkp⟩ := thread_endsS (prog := c.prog) (w := w) (t := tree vs) (s := s₁)
    (R := fun r s' => c.Ends s args vs s₁ r s' ∧ s'.os = s.os ∧ kept s'.heap)
    (Shared.asleep_of_life hal.2.2.2 hz)
    (wpS_mono hcode (by
      rintro fin s' ⟨f, e, h1, h2, h3, h4⟩
      exact ⟨f, e, ⟨h1, h2, h4⟩, leftWithCleanup_false_of_bare h3⟩) (by
      rintro e s' ⟨h1, h2, h3, h4⟩
      exact ⟨⟨h1, h2, h4⟩, leftWithCleanup_false_of_bare h3⟩))
  obtain ⟨eh, _, _, eo, _⟩ := Shared.forget_eq hfo
  have hcase := hcase.congr eh
  have hkp : kept s'.heap := by rw [eh]; exact hkp
  rw [← eo] at hos
  have hlife : s'.heap.life = s.heap.life := (runN_life _ _ _ hrun).trans hal.2.2.2
  refine kG ⟨vs, s₁, hlaid, k, _, s', hsched, ?_, (fun _ i x hx => by rw [hgens] at hx; simp at hx), hkp, by rw [hlife], Shared.rest_eq hos⟩
  clear kG
  refine gw fun G kG => ?_
  rcases hcase with ⟨v, rfl, d1, d2, d3, d4, d5⟩ | ⟨e, ob, cls, rfl, d1, d2, d3, d4, d5⟩
  · exact kG (.inl ⟨v, rfl, d1, d2, d3, fun b o y _ => d4 b o y, d5⟩)
  · exact kG (.inr ⟨e, ob, cls, rfl, d1, d2, d3, d4, fun b o y _ => d5 b o y⟩)
abbrev WalkS (q : Program) (loose : List Str) (XP : (Str → Option Value) → Heap → Prop) (YP : World → Heap → Prop) (r : RowW) (d : DefRec) (kwd : List (Str × PySem.Expr)) : Prop :=
  ∀ (w : World) (s₀ s₁ : Shared) (mg mb : Str → Option Value), Ground q loose r.records XP w s₀ mg mb s₁.heap → YP w s₁.heap → ∀ (a : Addr) (o : Obj) (pm cd doc dV kV : Value), s₁.heap.get? a = some o →
    o.data = .func { Calls.docDef d.name d.params d.body d.scope pm cd doc with defaults := dV, kwdefaults := kV } → s₁.heap.CodeRec cd d.name → Dflts mg s₁.heap d.params kwd dV kV → mg d.name = some (.ref a) → s₁.gens = #[] →
    ∀ (args : List WData) (vals : List Value) (as : List Addr), r.claim.pre args = true → WData.layableAll args = true → ReadsAllW r.records (classAt s₀.heap) s₁.heap vals args as → WellAll w.params s₁.heap vals args → (∀ a ∈ as, (a == sysModules) = false) →
      wpS (model r.prog w) callerA (call (.ref a) vals) (fun v s' => GoodWG r.claim (classAt s₀.heap) (ExcName.means s₀.heap) args s₁ (.ok (.ret v)) s')
        (fun e s' => GoodWG r.claim (classAt s₀.heap) (ExcName.means s₀.heap) args s₁ (.error e) s') s₁
theorem open_anyS {r : RowW} {tree : List Value → Sem Fin} {q : Program} {loose defs kps : List Str} {writes : Bool} {Xt : Shared → Bool} {XP : (Str → Option Value) → Heap → Prop} {α : Type} {Yf : Shared → α} {Ya : World → α} {YP : World → Heap → Prop} {N : Nat}
    (left : LeftO r.prog q loose Xt Yf Ya N) (hY : ∀ w s, Yf s = Ya w → YP w s.heap) (hYk : ∀ w h h', YP w h → (∀ b o, h.get? b = some o → h'.get? b = some o) → YP w h') (hX : ∀ s, Xt s = true → XP (s.heap.nsMap mainGlobals) s.heap) (hXk : ∀ mg h h', XP mg h → (∀ b o, h.get? b = some o → h'.get? b = some o) → XP mg h')
    (hRf : ∀ s, Xt s = true → RecFacts r.records s.heap) (hwr : (!writes || r.records.isEmpty) = true) (ok : (chainsOk q && opensWell r.prog && (frees r && r.within.isEmpty)) = true) (hb : r.prog.bare) (hw : r.promised)
    (ht : ∀ vs (w : World) (s : Shared) mg f (Q : Fin → Shared → Prop) (E : Value → Shared → Prop), s.heap.Ns mainGlobals mg → mg r.name = some f → wpS (model r.prog w) callerA (call f vs) (fun v s' => Q (.done (.ret v)) s') E s → wpS (model r.prog w) callerA (tree vs) Q E s)
    (pin : ∀ w s, s.heap.isNs mainGlobals = true → Ground q loose [] XP w s (s.heap.nsMap mainGlobals) (s.heap.nsMap builtinsNs) s.heap → ∀ n ∈ defs, isTheDefsW r.prog s.heap n)
    (call : ∀ (w : World) (s₀ s₁ : Shared) (mg mb : Str → Option Value), Ground q loose r.records XP w s₀ mg mb s₁.heap → YP w s₁.heap → ∀ (args : List WData) (vs : List Value) (as : List Addr),
      r.claim.pre args = true → WData.layableAll args = true → Laid r.records w s₀ s₁ args vs as → sysModules < s₀.heap.objs.size → ∃ f, mg r.name = some f ∧
        wpS (model r.prog w) callerA (call f vs) (fun v s' => GoodWG r.claim (classAt s₀.heap) (ExcName.means s₀.heap) args s₁ (.ok (.ret v)) s')
          (fun e s' => GoodWG r.claim (classAt s₀.heap) (ExcName.means s₀.heap) args s₁ (.error e) s') s₁) : r.claim.HoldsOpenBy (fun vs => ⟨tree vs, .builtin "claim.caller" {}, default, []⟩) defs kps writes := by
  obtain ⟨ok, k5⟩ := Bool.and_eq_true_iff.mp ok
  obtain ⟨hch, o1⟩ := Bool.and_eq_true_iff.mp ok
  obtain ⟨k5, k6⟩ := Bool.and_eq_true_iff.mp k5
  obtain ⟨hsame, hu, ha, hap, hm⟩ := frees_parts k5
  refine ⟨⟨hb, o1, by show r.makers.map _ = []; rw [hm]; rfl⟩, hw.witness, fun w => ⟨(left.behind hX hch w).1, fun s' hs' => ?_⟩⟩
  refine gw fun GG kG => ?_
  obtain ⟨s₀, hf, hg0, s, hT, hz, hgens, hg, G00, y⟩ := (left.behind (XP := fun mg h => XP mg h ∧ RecFacts r.records h) (fun s hs => ⟨hX s hs, hRf s hs⟩) hch w).2 s' hs'
  have G0 : Ground q loose [] XP w s (s.heap.nsMap mainGlobals) (s.heap.nsMap builtinsNs) s.heap := ⟨G00.T, G00.B, G00.D, G00.TE, G00.TD, G00.W, G00.X.1, G00.cls, G00.has, G00.apart, G00.once, G00.K⟩
  have RF := G00.X.2
  have hT' := hT
  refine kG ⟨s₀, hf, hg0, s, hT, pin w s hg G0, RF.1, RF.2.1, ?_⟩
  clear kG
  have hgens : s.gens = #[] := Array.eq_empty_of_size_eq_zero (beq_iff_eq.mp hgens)
  have G : Ground q loose r.records XP w s _ _ s.heap := RF.ground G0
  refine callFrom_of_specS (c := r.claim) hz hgens fun args hpre hlay ord hord => ?_
  refine gw fun GG kG => ?_
  obtain ⟨⟨vs, s₁⟩, hlaid⟩ := Option.isSome_iff_exists.mp (layAllW_isSome (P := w.params) (ord := ord) G.has args r.args s (pre_splitW hpre).1)
  have keeps := layAllW_keeps _ _ _ hlaid
  have hal := layAllW_rest _ _ _ hlaid
  obtain ⟨as, hrd, hin, hold⟩ := reads_layAllW hord _ _ _ hlaid hlay s₁.heap (fun _ _ e => e)
  have L : Laid r.records w s s₁ args vs as := ⟨⟨ord, hord, hlaid⟩, hrd, hin, hold, keeps, hal.1.trans hgens, hal.2.2.1⟩
  have G₁ := G.keeps hXk keeps
  obtain ⟨f, hf, h⟩ := call w s s₁ _ _ G₁ (hYk _ _ _ (hY w s y) keeps) args vs as hpre hlay L G.low
  have hi := ident_freeW hu ha hap
  have hwi : r.claim.within = [] := List.isEmpty_iff.mp k6
  exact kG ⟨vs, s₁, hlaid, ht vs w s₁ _ f _ _ G₁.T.g hf (wpS_mono h (fun v s' g => ⟨_, rfl, have z := g.laid (c := r.claim) hsame hwi hi L; ⟨z.1, z.2.1, z.2.2, fun q => ⟨namesKept_of hT' hg kps keeps g.2.1.old, noTable hwr q⟩⟩⟩) fun e s' g => have z := g.laid (c := r.claim) hsame hwi hi L; ⟨z.1, z.2.1, z.2.2, fun q => ⟨namesKept_of hT' hg kps keeps g.2.1.old, noTable hwr q⟩⟩)⟩
/-- the head of this claim: the walk is asked for in contexts without decoders only -/
theorem head_noDec (H : Hook) {r : OpenRow} {q : Program} {loose : List Str} {Xt : Shared → Bool} {XP : (Str → Option Value) → Heap → Prop} {d : DefRec} {kwd : List (Str × PySem.Expr)} {N : Nat}
    (left : LeftO r.prog q loose Xt H.obs H.val N)
    (hX : ∀ s, Xt s = true → XP (s.heap.nsMap mainGlobals) s.heap) (hXk : ∀ mg h h', XP mg h → (∀ b o, h.get? b = some o → h'.get? b = some o) → XP mg h')
    (hdef : defOf q r.name = some (d, kwd)) (hp : r.prog.theDef r.name = some (d.params, d.body, d.scope)) (hk : kwWritten? d.params.kwonlyargs d.params.kw_defaults = some kwd) (hRf : ∀ s, Xt s = true → RecFacts r.records s.heap) (hwr : (!r.writes || r.records.isEmpty) = true)
    (k1 : r.wellSaid = true) (ok : (chainsOk q && opensWell r.prog && (frees r.toRowW && r.within.isEmpty)) = true) (hb : r.prog.bare) (hw : r.toRowW.promised)
    (call : WalkS q loose XP H.says r.toRowW d kwd) : r.Holds := by
  refine ⟨k1, hw, open_anyS (r := r.toRowW) (tree := fun vs => do match ← nsGet mainNs r.name with
      | some f => do ret (← _root_.PySem.call f vs)
      | none => unsupported "claim.caller:no-such-global") left H.of H.keeps hX hXk hRf hwr ok hb hw
    (fun vs w s mg f Q E hg hf h => wpS_bindAny (wpAny_nsGet hg (by rw [hf]; exact wpS_bind (wpS_mono h (fun _ _ x => wpS_pure x) fun _ _ x => x))))
    (fun w s hg G n hn => ?_) fun w s₀ s₁ mg mb G Y args vs as hpre hlay L low => ?_⟩
  · obtain rfl : n = r.name := by split at hn <;> simp_all
    exact pinned_of_view hg G hdef hp hk
  · obtain ⟨a, o, pm, cd, doc, dV, kV, h1, h2, h3, h4, h5⟩ := G.fn hdef
    exact ⟨.ref a, h1, call w s₀ s₁ mg mb G Y a o pm cd doc dV kV h2 h3 h4 h5 (defOf_name hdef ▸ h1) L.gens args vs as hpre hlay L.reads L.well (L.low low)⟩
end shead
end
section
/-- the top's run over the heap as a tree -/
noncomputable def topRunT (st : SharedT → Thread → Option (SharedT × Thread)) (ok : Thread → Bool) : Nat → SharedT → Thread → Option SharedT
  | 0, _, _ => none
  | n + 1, s, t => match through t with
    | true => some s
    | false => match ok t with
      | false => none
      | true => match st s t with
        | some r => topRunT st ok n r.1 r.2
        | none => none
theorem topRunT_of {p : Program} {w : World} {m₀ : Nat} {ann : Option Value} (n : Nat) (s s' : SharedT) (t : Thread) (h : topRunT (stepT (denote treeTable) p w) (stepOk m₀ ann) n s t = some s') : topRun treeTable p w m₀ ann n s.abs t = some s'.abs := by
  induction n generalizing s t with
  | zero => cases h
  | succ n ih =>
    unfold topRunT at h
    unfold topRun
    cases h1 : through t with
    | true => rw [h1] at h; cases h; rfl
    | false =>
      rw [h1] at h
      cases h2 : stepOk m₀ ann t with
      | false => rw [h2] at h; cases h
      | true =>
        rw [h2] at h
        cases h3 : stepT (denote treeTable) p w s t with
        | none => rw [h3] at h; cases h
        | some r =>
          rw [h3] at h
          dsimp only at h ⊢
          rw [stepT_spec (s' := r.1) (t' := r.2) h3]
          exact ih _ _ h
noncomputable def treeOf (l : List Obj) : BT := (l.foldl (fun (a : BT × Nat) o => (a.1.ins a.2 o, a.2 + 1)) (BT.nil, 0)).1
noncomputable def fore2 {α β γ : Type _} (x : α × β × γ) : α × β := (x.1, x.2.1)
noncomputable def rest2 {α β γ : Type _} (x : α × β × γ) : γ := x.2.2
/-- the later half of the looks, by a run of its own: the kernel forgets between the two -/
noncomputable def RestRun (p q : Program) (loose : List Str) (Xt : Shared → Bool) (N : Nat) (H₀ : Params → Heap) (gs₀ : Array GenState) (d₀ : Drawn) (k₀ m₀ : Nat) (ann : Option Value) (life₀ : Life) : Prop :=
  ∀ w : World, (fun os => (topRunT (stepT (denote treeTable) p w) (stepOk m₀ ann) N ⟨treeOf (H₀ w.params).objs.toList, m₀, life₀, gs₀, d₀, k₀, os⟩ (topStub p)).map fun s =>
      rest2 (openSeen q loose (importedModules p.main.body) Xt true s.abs)) = fun _ => some (true, true, pinGoodD (drecsOf q), plainGoodE q (looseW q loose), plainGoodD q loose, wideGood q, clsGoodW q loose)
/-- the whole top in one run, two times: what it leaves is looked at where it ends -/
theorem left_of_run {p q : Program} {loose : List Str} {Xt : Shared → Bool} {α : Type} {Yf : Shared → α} {Ya : World → α} {N : Nat} {H₀ : Params → Heap} {gs₀ : Array GenState} {d₀ : Drawn} {k₀ m₀ : Nat} {ann : Option Value} {life₀ : Life}
    (hop : ∀ w : World, (fencedOpening treeTable p w N).map (fun s => (s.heap, s.gens, s.drawn, s.toks)) = some (H₀ w.params, gs₀, d₀, k₀))
    (hsz : ∀ w : World, ((H₀ w.params).isNs mainGlobals && gs₀.size == 0, (H₀ w.params).objs.size, (H₀ w.params).nsMap mainGlobals "__annotations__") = (true, m₀, ann))
    (htr : ∀ w : World, absHeap (treeOf (H₀ w.params).objs.toList) m₀ life₀ = H₀ w.params)
    (hrun : ∀ w : World, (fun os => (topRunT (stepT (denote treeTable) p w) (stepOk m₀ ann) N ⟨treeOf (H₀ w.params).objs.toList, m₀, life₀, gs₀, d₀, k₀, os⟩ (topStub p)).map fun s =>
      (((staticsOk (importedModules p.main.body) (H₀ w.params) s.abs.heap && namesBound p s.abs.heap && gensDone s.abs && laidKept (H₀ w.params) s.abs.heap), Yf s.abs), fore2 (openSeen q loose (importedModules p.main.body) Xt true s.abs))) = fun _ => some ((true, Ya w), (expectedOf q, bltViewBooted)))
    (hlk : RestRun p q loose Xt N H₀ gs₀ d₀ k₀ m₀ ann life₀) :
    LeftO p q loose Xt Yf Ya N := by
  intro w
  cases hf : fencedOpening treeTable p w N with
  | none => have := hop w; rw [hf] at this; cases this
  | some s =>
    have h1 := hop w
    rw [hf] at h1
    obtain ⟨h, gs, d, k, os⟩ := s
    have h5 := Option.some.inj h1
    obtain rfl : h = H₀ w.params := congrArg (·.1) h5
    obtain rfl : gs = gs₀ := congrArg (·.2.1) h5
    obtain rfl : d = d₀ := congrArg (·.2.2.1) h5
    obtain rfl : k = k₀ := congrArg (·.2.2.2) h5
    have h2 := hsz w
    have h3 := congrFun (hrun w) os
    have h6 := congrFun (hlk w) os
    (try dsimp only at h3 h6)
    cases hr : topRunT (stepT (denote treeTable) p w) (stepOk m₀ ann) N ⟨treeOf (H₀ w.params).objs.toList, m₀, life₀, gs, d, k, os⟩ (topStub p) with
    | none => rw [hr] at h3; cases h3
    | some t =>
      rw [hr] at h3 h6
      have h4 := Option.some.inj h3
      have e6 := congrArg (·.2) h4
      have e7 := Option.some.inj h6
      have e3 : openSeen q loose (importedModules p.main.body) Xt true t.abs = openGood q loose := Prod.ext (congrArg (·.1) e6) (Prod.ext (congrArg (·.2) e6) e7)
      have e1 := congrArg (·.1.1) h4
      have e2 := congrArg (·.1.2) h4
      have z1 := congrArg (·.1) h2
      have z2 := congrArg (·.2.1) h2
      have z3 := congrArg (·.2.2) h2
      dsimp only at e1 e2 z1 z2 z3
      have hr2 := topRunT_of _ _ _ _ hr
      simp only [SharedT.abs, htr w] at hr2
      have ht : topFrom treeTable p w N ⟨H₀ w.params, gs, d, k, os⟩ = some t.abs := by
        simp only [topFrom]
        rw [z1, z2, z3, hr2]
        simp only [Option.bind_some]
        exact (by rw [show (staticsOk (importedModules p.main.body) (H₀ w.params) t.abs.heap && namesBound p t.abs.heap && gensDone t.abs && laidKept (H₀ w.params) t.abs.heap) = true from e1] : (match staticsOk (importedModules p.main.body) (H₀ w.params) t.abs.heap && namesBound p t.abs.heap && gensDone t.abs && laidKept (H₀ w.params) t.abs.heap with | true => some t.abs | false => none) = some t.abs)
      show ((fencedOpening treeTable p w N).bind (topFrom treeTable p w N)).map _ = _
      rw [hf, Option.bind_some, ht]
      exact congrArg some (Prod.ext e3 e2)
noncomputable def hd.view_39 : Program := view PySem.Challenge.rw_qz0154_01.row.prog [0, 2, 3, 5, 6, 8, 9, 10, 11, 12, 13, 14, 15, 16, 17, 18, 19, 20, 21, 22, 23, 25, 26, 27, 28, 29, 30, 31, 33, 34, 35, 36, 37, 38, 39, 40, 41, 42, 43, 44, 45]
end
section
theorem holds_openX (H : Hook) {d : DefRec} {kwd : List (Str × PySem.Expr)}
    (left : LeftO PySem.Challenge.rw_qz0154_01.row.prog hd.view_39 [PySem.Str.ofString "GateError", PySem.Str.ofString "HashMap"] (fun s => xlAt hd.view_39 [] s && recOk (RowW.records (OpenRow.toRowW PySem.Challenge.rw_qz0154_01.row)) s) H.obs H.val 7266)
    (hdef : defOf hd.view_39 PySem.Challenge.rw_qz0154_01.row.name = some (d, kwd)) (hp : PySem.Challenge.rw_qz0154_01.row.prog.theDef PySem.Challenge.rw_qz0154_01.row.name = some (d.params, d.body, d.scope)) (hk : kwWritten? d.params.kwonlyargs d.params.kw_defaults = some kwd)
    (k1 : PySem.Challenge.rw_qz0154_01.row.wellSaid = true) (hw : PySem.Challenge.rw_qz0154_01.row.toRowW.promised)
    (call : WalkS hd.view_39 [PySem.Str.ofString "GateError", PySem.Str.ofString "HashMap"] (XL hd.view_39 []) H.says PySem.Challenge.rw_qz0154_01.row.toRowW d kwd) : PySem.Challenge.rw_qz0154_01.row.Holds :=
  head_noDec H left (fun s e => xl_of s (Bool.and_eq_true_iff.mp e).1) XL.keeps hdef hp hk (fun s e => recFacts_of (Bool.and_eq_true_iff.mp e).2)
    (by rfl) k1 (by decide +kernel) ⟨rfl, rfl, rfl, rfl, rfl, by decide +kernel⟩ hw call
theorem hd_rest : RestRun PySem.Challenge.rw_qz0154_01.row.prog hd.view_39 [PySem.Str.ofString "GateError", PySem.Str.ofString "HashMap"] (fun s => xlAt hd.view_39 [] s && recOk (RowW.records (OpenRow.toRowW PySem.Challenge.rw_qz0154_01.row)) s) 7266 boot_heap (Array.mk []) boot_drawn boot_toks 11 (some (Value.ref 6)) {} := by
  unfold RestRun hd.view_39
  rw [PySem.W.Fast.te10156331382660048174, PySem.W.Fast.te11892475500146522536, PySem.W.Fast.te6613529449190102663, PySem.W.Fast.te14364793385576792824, PySem.W.Fast.te4187177175401517315, PySem.W.Fast.te2368527892694137696]
  intro w
  kernel_rfl
theorem law_said : PySem.Challenge.rw_qz0154_01.wellSaid = true := by
  delta OpenLaw.wellSaid OpenRow.wellSaid OpenRow.partSaid looksOpen
  repeat' (with_reducible refine look_both ?_ ?_)
  all_goals decide +kernel
theorem kw_1 : True := by
  (k_with "M mine olaw" => (refine PySem.W.holds_law law_said fun said => ?_))
  trivial
theorem kw_2 : True := by
  (k_with "M mine ohead" => ((case e4 => first | assumption | decide +kernel); (case hl => (refine left_of_run (boot_open (by kernel_rfl) rfl (fun _ => by kernel_rfl)) (m₀ := 11) (ann := some (Value.ref 6)) (life₀ := {}) (fun w => by kernel_rfl) (fun w => by kernel_rfl) ?q_l1 ?q_l2; (case q_l1 => (unfold hd.view_39; rw [PySem.W.Fast.te10156331382660048174, PySem.W.Fast.te11892475500146522536, PySem.W.Fast.te6613529449190102663, PySem.W.Fast.te14364793385576792824, PySem.W.Fast.te4187177175401517315, PySem.W.Fast.te2368527892694137696]; intro w; kernel_rfl)); (case q_l2 => exact hd_rest)))))
  trivial
local macro_rules | `(tactic| o_law) => `(tactic| k_extra "M mine olaw")
local macro_rules | `(tactic| o_head $H) => `(tactic| (refine holds_openX $H ?hl (by rfl) (by rfl) (by rfl) ?e4 ?hw ?hc; k_extra "M mine ohead"))
open_top hd for PySem.Challenge.rw_qz0154_01
end
local macro_rules | `(tactic| walk_at $s:str) => `(tactic| k_extra $(Lean.Syntax.mkStrLit ("M " ++ s.getString)))
local macro_rules | `(tactic| k_room) => `(tactic| ktr_room)
local macro_rules | `(tactic| k_units) => `(tactic| ktr_units)
local macro_rules | `(tactic| k_mem) => `(tactic| walk_at "mine mem")
local macro_rules | `(tactic| k_updF) => `(tactic| walk_at "mine updF")
local macro_rules | `(tactic| passes_own) => `(tactic| assumption)
local macro_rules | `(tactic| ktr_room) => `(tactic| walk_at "mine room")
local macro_rules | `(tactic| ktr_units) => `(tactic| walk_at "mine room")
theorem kf_0 (w : World) : model PySem.Challenge.rw_qz0154_01.row.prog w = model PySem.Challenge.rw_qz0154_01.row.prog w ∧ hd.heap_1 w.params = hd.heap_1 w.params := by
  w_top off
  k_fill
  exact ⟨rfl, rfl⟩
section
section om
variable {a c d i j k l m n K R D D' : Nat} {x y z u v : Int} {p p2 p3 p4 p5 p6 : Prop}
theorem omN1 (h : n ≤ c) (q : Nat.ble c K = true) : n ≤ K := Nat.le_trans h (Nat.le_of_ble_eq_true q)
theorem omN2 (e : n = m) (h : m ≤ c) (q : Nat.ble c K = true) : n ≤ K := e ▸ omN1 h q
theorem omN2' (e : m = n) (h : m ≤ c) (q : Nat.ble c K = true) : n ≤ K := e ▸ omN1 h q
theorem omN3 (e : n = m) (e2 : m = k) (h : k ≤ c) (q : Nat.ble c K = true) : n ≤ K := omN2 (e.trans e2) h q
theorem omN4 (e : (n : Int) = x) (h : x ≤ y) (q : y ≤ (K : Int)) : n ≤ K := Int.ofNat_le.mp (Int.le_trans (Int.le_of_eq e) (Int.le_trans h q))
theorem omN5 (e : (n : Int) ≤ x) (h : x ≤ y) (q : y ≤ (K : Int)) : n ≤ K := Int.ofNat_le.mp (Int.le_trans e (Int.le_trans h q))
theorem omN6 (h : n ≤ c) (q : Nat.ble c K = true) : n - 1 ≤ K := Nat.le_trans (Nat.sub_le _ _) (omN1 h q)
theorem omN6e (e : n = m) (h : m ≤ c) (q : Nat.ble c K = true) : n - 1 ≤ K := e ▸ omN6 h q
theorem omN7 (h : m ≤ c) (q : Nat.ble c K = true) : min n m ≤ K := Nat.le_trans (Nat.min_le_right _ _) (omN1 h q)
theorem omN7e (e : m = k) (h : k ≤ c) (q : Nat.ble c K = true) : min n m ≤ K := e ▸ omN7 (e ▸ h) q
theorem omN8 (h : ¬ j < n) : n ≤ j := Nat.le_of_not_lt h
theorem omN8e (e : n = m) (h : ¬ j < m) : n ≤ j := e ▸ Nat.le_of_not_lt h
theorem omN9 (h : x ≤ y) (q : y ≤ (K : Int)) : x.toNat ≤ K := Int.toNat_le.mpr (Int.le_trans h q)
theorem omN9' (h : x < y) (q : y ≤ (K : Int) + 1) : x.toNat ≤ K := Int.toNat_le.mpr (Int.lt_add_one_iff.mp (Int.lt_of_lt_of_le h q))
theorem omN11 (h : ¬ n = 0) : 1 ≤ n := Nat.pos_of_ne_zero h
theorem omN12 (e : l = i) (h : ¬ j < l) (h0 : j - l = 0) : j = i := (Nat.le_antisymm (Nat.le_of_sub_eq_zero h0) (Nat.le_of_not_lt h)).trans e
theorem omN12' (e : i = l) (h : ¬ j < l) (h0 : j - l = 0) : j = i := omN12 e.symm h h0
theorem omN13 (h : i < n) : n + 1 - (i + 1) < n + 1 - i := Nat.sub_lt_sub_left (Nat.lt_succ_of_lt h) (Nat.lt_succ_self i)
theorem omN14 (h : i + (j + 1) = n) : i + 1 + j = n := by rw [Nat.add_assoc, Nat.add_comm 1 j]; exact h
theorem omN15 (h : i + (j + 1) = n) : i < n := h ▸ Nat.lt_add_of_pos_right (Nat.succ_pos j)
theorem omN16 (h : n < c) (q : Nat.ble c (K + 1) = true) : n ≤ K := Nat.le_of_lt_succ (Nat.lt_of_lt_of_le h (Nat.le_of_ble_eq_true q))
theorem omN17 (h : n + d < R) (q : Nat.ble c d = true) : n + c < R := Nat.lt_of_le_of_lt (Nat.add_le_add_left (Nat.le_of_ble_eq_true q) _) h
theorem omN18 (h : n + (d + k) < R) : n + k + d < R := by rw [Nat.add_assoc, Nat.add_comm k d]; exact h
theorem omN19 (hD : D ≤ D') (h : n + D' < R) : n + D < R := Nat.lt_of_le_of_lt (Nat.add_le_add_left hD _) h
theorem omN20 (h : i < n) : min i n = i := Nat.min_eq_left (Nat.le_of_lt h)
theorem omN21 (e : (n : Int) = x) (e2 : (m : Int) = x) : n = m := Int.ofNat.inj (e.trans e2.symm)
theorem omN22 (h : (n : Int) < (m : Int)) : n ≤ m := Nat.le_of_lt (Int.ofNat_lt.mp h)
theorem omN22' (h : (n : Int) < (m : Int)) : n < m := Int.ofNat_lt.mp h
theorem omN23 (h : (n : Int) < x) : n < x.toNat := Int.lt_toNat.mpr h
theorem omN24 (h : n < x.toNat) : (n : Int) < x := Int.lt_toNat.mp h
theorem omI1 (h : x ≤ y) (q : y ≤ z) : x ≤ z := Int.le_trans h q
theorem omI3 (h : y ≤ x) (q : z ≤ y) : z ≤ x := Int.le_trans q h
theorem omI4 (h : y ≤ x) (q : z < y) : z < x := Int.lt_of_lt_of_le q h
theorem omI5 (h : n ≤ c) (q : Nat.ble c 9223372036854775807 = true) : (n : Int) < 2 ^ 63 := Int.lt_of_le_of_lt (Int.ofNat_le.mpr (Nat.le_trans h (Nat.le_of_ble_eq_true q))) (by decide)
theorem omI5e (e : n = m) (h : m ≤ c) (q : Nat.ble c 9223372036854775807 = true) : (n : Int) < 2 ^ 63 := e ▸ omI5 h q
theorem omI6 (h : 0 ≤ x) : 0 + (x.toNat : Int) = x := by rw [Int.zero_add]; exact Int.toNat_of_nonneg h
theorem omI7 (h : x < y) (q : z + y ≤ u + 1) : z + x ≤ u := Int.lt_add_one_iff.mp (Int.lt_of_lt_of_le (Int.add_lt_add_left h z) q)
theorem omI8 (h : y ≤ x) (q : u ≤ z + y) : u ≤ z + x := Int.le_trans q (Int.add_le_add_left h z)
theorem omI9 (h : x ≤ y) (q : y < z) : x < z := Int.lt_of_le_of_lt h q
theorem omI10 (h : x < y) (q : y ≤ z) : x < z := Int.lt_of_lt_of_le h q
theorem omI11 (h : x < y) (q : y ≤ z + 1) : x ≤ z := Int.lt_add_one_iff.mp (Int.lt_of_lt_of_le h q)
theorem omI12 (h2 : z ≤ x + 1) (h : x ≤ y) (q : y + 1 ≤ u) : z ≤ u := Int.le_trans h2 (Int.le_trans (Int.add_le_add_right h 1) q)
theorem omI13 (h : y ≤ x + 1) (h2 : z ≤ y + 1) (q : 2 ≤ u) : z ≤ x + u := Int.le_trans h2 (Int.le_trans (Int.add_le_add_right h 1) (by rw [Int.add_assoc]; exact Int.add_le_add_left q x))
theorem omI14 (h : y ≤ x + (i : Int)) (h2 : z ≤ y + 1) : z ≤ x + ((i + 1 : Nat) : Int) := Int.le_trans h2 (Int.le_trans (Int.add_le_add_right h 1) (Int.le_of_eq (Int.add_assoc x (i : Int) 1)))
theorem omI15 (h2 : z ≤ x + v) (h : x ≤ y) : z ≤ y + v := Int.le_trans h2 (Int.add_le_add_right h v)
theorem omI16 (h : y ≤ x) (q : 0 < y + z) : 0 < x + z := Int.lt_of_lt_of_le q (Int.add_le_add_right h z)
theorem omI17 (h : x ≤ y) (q : y + z ≤ u) : x + z ≤ u := Int.le_trans (Int.add_le_add_right h z) q
theorem omI18 (h : 0 ≤ x) : max x 0 = x := Int.max_eq_left h
theorem omI19 (h : 0 ≤ x) (h2 : x < y) : max x 0 < y := by rw [omI18 h]; exact h2
theorem omX1 (h : a < d ∧ p) : a ≠ d := Nat.ne_of_lt h.1
theorem omX2 (h : p ∧ a < d ∧ p2) : a ≠ d := Nat.ne_of_lt h.2.1
theorem omX3 (h : p ∧ p2 ∧ a < d ∧ p3) : a ≠ d := Nat.ne_of_lt h.2.2.1
theorem omX4 (h : p ∧ p2 ∧ p3 ∧ a < d ∧ p4) : a ≠ d := Nat.ne_of_lt h.2.2.2.1
theorem omX5 (h : p ∧ p2 ∧ p3 ∧ p4 ∧ a < d ∧ p5) : a ≠ d := Nat.ne_of_lt h.2.2.2.2.1
theorem omX6 (h : p ∧ p2 ∧ p3 ∧ p4 ∧ p5 ∧ a < d ∧ p6) : a ≠ d := Nat.ne_of_lt h.2.2.2.2.2.1
theorem omY1 (h : a ≠ d ∧ p) : a ≠ d := h.1
theorem omY2 (h : p ∧ a ≠ d ∧ p2) : a ≠ d := h.2.1
theorem omY3 (h : p ∧ p2 ∧ a ≠ d ∧ p3) : a ≠ d := h.2.2.1
theorem omI20 (e : n = x.toNat) (h : y ≤ x) (q : 0 ≤ y) : (n : Int) = x := e ▸ Int.toNat_of_nonneg (Int.le_trans q h)
theorem omI21 (e : x = z) (q : ¬ z < y) : ¬ x < y := e ▸ q
theorem omI22 (e : x = z) (q : ¬ z = y) : ¬ x = y := e ▸ q
theorem omI23 (h : y ≤ x) (q : 0 ≤ y) : (x.toNat : Int) = x := Int.toNat_of_nonneg (Int.le_trans q h)
theorem omI24 (h : y ≤ x) (q : z < y) : ¬ x ≤ z := Int.not_le.mpr (Int.lt_of_lt_of_le q h)
theorem omI25 (h : y ≤ x) (q : z ≤ y) : ¬ x < z := Int.not_lt.mpr (Int.le_trans q h)
theorem omI26 (h : x ≤ y) (q : y ≤ z) : ¬ z < x := Int.not_lt.mpr (Int.le_trans h q)
theorem tn_lt (h0 : 0 ≤ x) (h : x < y) : x.toNat < y.toNat := Int.lt_toNat.mpr (by rw [Int.toNat_of_nonneg h0]; exact h)
theorem comp_cap (h : z ≤ y + (i : Int)) (hi : i < x.toNat) (hn : x ≤ u) (hc : y ≤ v) (q : v + u ≤ 1000) : z ≤ 1000 := Int.le_trans h (Int.le_trans (Int.add_le_add hc (Int.le_of_lt (Int.lt_of_lt_of_le (Int.lt_toNat.mp hi) hn))) q)
theorem comp_cap2 (h : z ≤ y + (x.toNat : Int)) (hn : x ≤ u) (h0 : 0 ≤ u) (hc : y ≤ v) (q : v + u ≤ 1000) : z ≤ 1000 := by omega
theorem cap_deed {w : Int} (h1 : y ≤ x + 2) (h : z ≤ y + (w.toNat : Int)) (hn : w ≤ 9) (h3 : u ≤ z + 1) : u ≤ x + 13 := by omega
theorem lt_step (h : x < y + 1) (k : ¬ x = y) : x < y := by omega
theorem kind_four (h3 : ¬ x < 3) (h8 : x < 8) (k6 : ¬ x = 6) (k5 : ¬ x = 5) (k7 : ¬ x = 7) : x < 5 := lt_step (lt_step (lt_step h8 k7) k6) k5
theorem cap9 (h1 : x < 8) : (9 + x).toNat ≤ 16 := Int.toNat_le.mpr (Int.lt_add_one_iff.mp (Int.add_lt_add_left h1 9))
theorem cap13 (h : n ≤ 16) : 5 + 13 * (n : Int) ≤ 299 := Int.le_trans (Int.add_le_add_left (Int.mul_le_mul_of_nonneg_left (Int.ofNat_le.mpr h) (by decide)) 5) (by decide)
theorem cap13n (h1 : x < 8) : 5 + 13 * (((9 + x).toNat : Nat) : Int) ≤ 299 := cap13 (cap9 h1)
theorem cap13i (hi : i < (9 + x).toNat) (h1 : x < 8) : 5 + 13 * (i : Int) ≤ 900 := Int.le_trans (cap13 (Nat.le_of_lt (Nat.lt_of_lt_of_le hi (cap9 h1)))) (by decide)
theorem cap13s (i : Nat) : 5 + 13 * (i : Int) + 13 ≤ 5 + 13 * ((i + 1 : Nat) : Int) := by omega
theorem snoc_keep {α : Type} {ys : List α} {y z : α} (h : ys[j]? = some z) : (ys ++ [y])[j]? = some z := by
  obtain ⟨q, _⟩ := List.getElem?_eq_some_iff.mp h
  rw [List.getElem?_append_left q]; exact h
theorem snoc_last {α : Type} {ys : List α} {y : α} (h : ys.length = i) : (ys ++ [y])[i]? = some y := h ▸ List.getElem?_concat_length
theorem snoc_get {α : Type} {R : Nat → α → Prop} {ys : List α} {y : α} (hl : ys.length = i) (h : ∀ j z, ys[j]? = some z → R j z) (hy : R i y) : ∀ j z, (ys ++ [y])[j]? = some z → R j z := fun j z e => by
  by_cases hj : j < ys.length
  · rw [List.getElem?_append_left hj] at e; exact h j z e
  · rw [List.getElem?_append_right (Nat.le_of_not_lt hj)] at e
    cases hk : j - ys.length with
    | zero =>
      rw [hk] at e
      obtain rfl := Option.some.inj e
      exact omN12 hl hj hk ▸ hy
    | succ k => rw [hk] at e; cases e
theorem omI27 (h : x ≤ (n : Int) - 1) (h2 : n ≤ c) (q : Nat.ble c 9223372036854775807 = true) : x < 2 ^ 63 := Int.lt_of_le_of_lt (Int.le_trans h (Int.sub_le_self _ (by decide))) (omI5 h2 q)
theorem omN25 (h : n + m + 1 < R) : n + 1 + m < R := by rw [Nat.add_right_comm]; exact h
theorem omN25' (h : n + (m + 1) < R) : n + 1 + m < R := omN25 h
theorem omN26 (h : n + m + 1 < R) : n < R := Nat.lt_of_le_of_lt (Nat.le_trans (Nat.le_add_right n m) (Nat.le_succ _)) h
theorem omN27 (e : n = m) (h : ¬ m < c) (q : Nat.ble 1 c = true) : 0 < n := e ▸ Nat.lt_of_lt_of_le (Nat.le_of_ble_eq_true q) (Nat.le_of_not_lt h)
theorem omN28 : i + (j + 1) = i + 1 + j := by rw [Nat.add_comm j 1, Nat.add_assoc]
theorem omI30 : x + ((i : Int) + 1) = x + 1 + (i : Int) := by rw [Int.add_assoc, Int.add_comm 1]
theorem omI29 : x + ((i + 1 : Nat) : Int) = x + 1 + (i : Int) := omI30
theorem omX7 (h : j < i) : ¬ (i : Int) = (j : Int) := fun e => Nat.ne_of_gt h (Int.ofNat.inj e)
theorem omF1 (e : x = y) (h : x = z ∧ p) (q : ¬ y = z) : False := q (e.symm.trans h.1)
theorem omF2 (h : x = y ∨ x = z) (e : x = u) (q1 : ¬ y = u) (q2 : ¬ z = u) : False := h.elim (fun a => q1 (a.symm.trans e)) fun a => q2 (a.symm.trans e)
theorem omF3 (h : x = y ∨ x = z) (e : u < x) (q1 : ¬ u < y) (q2 : ¬ u < z) : False := h.elim (fun a => q1 (a ▸ e)) fun a => q2 (a ▸ e)
theorem omF4 (h : x = y ∨ x = z) (e : x = u ∧ p) (q1 : ¬ y = u) (q2 : ¬ z = u) : False := omF2 h e.1 q1 q2
theorem omF5 (h : (n : Int) < 0) : False := Int.not_lt.mpr (Int.natCast_nonneg n) h
theorem omF6 (h : p ∧ (n : Int) < 0) : False := omF5 h.2
theorem omM1 (h : i < n) (e : n = m) : (i : Int) = ((min i m : Nat) : Int) := by rw [Nat.min_eq_left (e ▸ Nat.le_of_lt h)]
theorem int_five : ∀ d : Int, 0 ≤ d → d < 5 → d = 0 ∨ d = 1 ∨ d = 2 ∨ d = 3 ∨ d = 4 := fun d h0 h1 => by
  obtain ⟨k, rfl⟩ := Int.eq_ofNat_of_zero_le h0
  have hk : k < 5 := by omega
  have : ∀ k : Fin 5, ((k.1 : Nat) : Int) = 0 ∨ ((k.1 : Nat) : Int) = 1 ∨ ((k.1 : Nat) : Int) = 2 ∨ ((k.1 : Nat) : Int) = 3 ∨ ((k.1 : Nat) : Int) = 4 := by decide +kernel
  exact this ⟨k, hk⟩
theorem int_four {d : Int} (h0 : 0 ≤ d) (h1 : d ≤ 3) : d = 0 ∨ d = 1 ∨ d = 2 ∨ d = 3 := by
  rcases int_five d h0 (Int.lt_of_le_of_lt h1 (by decide)) with h | h | h | h | h
  · exact .inl h
  · exact .inr (.inl h)
  · exact .inr (.inr (.inl h))
  · exact .inr (.inr (.inr h))
  · rw [h] at h1; exact absurd h1 (by decide)
theorem one_four {d : Int} (h0 : 1 ≤ d) (h1 : d ≤ 4) : d = 1 ∨ d = 2 ∨ d = 3 ∨ d = 4 := by
  rcases int_five d (Int.le_trans (by decide) h0) (Int.lt_of_le_of_lt h1 (by decide)) with h | h
  · rw [h] at h0; exact absurd h0 (by decide)
  · exact h
end om
section
variable {dp D R a b c d e k : Nat}
theorem room0 (h : dp + D < R) : dp < R := Nat.lt_of_le_of_lt (Nat.le_add_right _ _) h
theorem room1 (h : dp + D < R) (q : Nat.ble k D = true) : dp + k < R := Nat.lt_of_le_of_lt (Nat.add_le_add_left (Nat.le_of_ble_eq_true q) _) h
theorem room2 (h : dp + D < R) (q : Nat.ble (a + k) D = true) : dp + a + k < R := Nat.add_assoc dp a k ▸ room1 h q
theorem room3 (h : dp + D < R) (q : Nat.ble (a + b + k) D = true) : dp + a + b + k < R := by rw [Nat.add_assoc dp a b]; exact room2 h q
theorem room4 (h : dp + D < R) (q : Nat.ble (a + b + c + k) D = true) : dp + a + b + c + k < R := by rw [Nat.add_assoc dp a b]; exact room3 h q
theorem room5 (h : dp + D < R) (q : Nat.ble (a + b + c + d + k) D = true) : dp + a + b + c + d + k < R := by rw [Nat.add_assoc dp a b]; exact room4 h q
theorem room6 (h : dp + D < R) (q : Nat.ble (a + b + c + d + e + k) D = true) : dp + a + b + c + d + e + k < R := by rw [Nat.add_assoc dp a b]; exact room5 h q
end
noncomputable abbrev P : Program := PySem.Challenge.rw_qz0154_01.row.prog
noncomputable abbrev VW : Program := hd.view_39
noncomputable abbrev LO : List Str := looseW hd.view_39 [Str.ofString "GateError", Str.ofString "HashMap"]
noncomputable abbrev KF (w : World) : Frag := hd.heap_1 w.params
section prims
variable {prog : Program} {w : World} {A : Around} {E : Value → Shared → Prop} {s : Shared} {h₀ h : Heap} {L D : Addr} {m : Str → Option Value} {news : List (Addr × Obj)} {g : Obj → List (Addr × Obj)} {vs : List Value} {ns : List Int} {n : Nat} {k : Int} {t : Tok}
theorem any_mem (k : Int) (ns : List Int) : ns.any (· == k) = decide (k ∈ ns) := by
  induction ns with
  | nil => simp
  | cons a r ih =>
    rw [List.any_cons, ih]
    by_cases h : a = k
    · subst h; simp
    · have h' : ¬ k = a := fun e => h e.symm
      simp [h, h']
theorem mi_in {Q : Value → Shared → Prop} (N : News h₀ L s.heap news) (hm : (D, W.listOf vs.toArray n) ∈ news) (hi : IntsAre vs ns) (h : Q (.bool (decide (k ∈ ns))) s) :
    wpAny (model prog w) A (compareOp .In (.int k t) (.ref D)) Q E s :=
  SeqInW.in_listW (isInt k) (fun y hy => eq_isInt k t hi y (by simpa using hy)) (PySem.IsL.isList (n := n) (N _ hm).1) (by rw [← Array.any_toList]; show Q (.bool (vs.any (isInt k))) s; rw [any_isInt k hi, any_mem k ns]; exact h)
theorem mi_notin {Q : Value → Shared → Prop} (N : News h₀ L s.heap news) (hm : (D, W.listOf vs.toArray n) ∈ news) (hi : IntsAre vs ns) (h : Q (.bool (!decide (k ∈ ns))) s) :
    wpAny (model prog w) A (compareOp .NotIn (.int k t) (.ref D)) Q E s :=
  SeqInW.notIn_listW (isInt k) (fun y hy => eq_isInt k t hi y (by simpa using hy)) (PySem.IsL.isList (n := n) (N _ hm).1) (by rw [← Array.any_toList]; show Q (.bool (!(vs.any (isInt k)))) s; rw [any_isInt k hi, any_mem k ns]; exact h)

theorem ints_erase {vs : List Value} {ns : List Int} (hi : IntsAre vs ns) (hk : k ∈ ns) : ∃ j, ∃ hj : j < vs.length, isInt k vs[j] = true ∧ (∀ i (hi : i < vs.length), i < j → isInt k vs[i] = false) ∧ IntsAre (vs.eraseIdx j) (ns.erase k) := by
  induction hi with
  | nil => cases hk
  | cons a u r ih =>
    by_cases e : a = k
    · subst e
      refine ⟨0, by simp, by simp [isInt], fun i _ h => absurd h (Nat.not_lt_zero _), ?_⟩
      simpa using r
    · have hk' := (List.mem_cons.mp hk).resolve_left (Ne.symm e)
      obtain ⟨j, hj, h1, h2, h3⟩ := ih hk'
      refine ⟨j + 1, Nat.succ_lt_succ hj, h1, fun i hi hlt => ?_, ?_⟩
      · cases i with
        | zero => simp [isInt, e]
        | succ i => exact h2 i (Nat.lt_of_succ_lt_succ hi) (Nat.lt_of_succ_lt_succ hlt)
      · rw [List.erase_cons_tail (by simp [e])]
        exact IntsAre.cons a u h3
theorem upd_news (U : UpdF D (W.listOf vs.toArray n) news g) (N : News h₀ L h news) (f : Array Value → Array Value) :
    ∃ n', News h₀ L (h.update D (Obj.mapSeq f)) (g (W.listOf (f vs.toArray) n')) := by
  obtain ⟨pre, post, rfl, hg, a, b⟩ := U.split
  refine ⟨if (f vs.toArray).size == vs.toArray.size then n else n + 1, ?_⟩
  rw [hg]
  exact ki_turn f N a b rfl rfl
theorem mi_remove {Q : Value → Shared → Prop} (F : Fr h₀ L s.heap m) (N : News h₀ L s.heap news) (hi : IntsAre vs ns) (hk : k ∈ ns) (U : UpdF D (W.listOf vs.toArray n) news g) (hz : ns.length ≤ 1000)
    (h : ∀ h' vs' n', Fr h₀ L h' m → News h₀ L h' (g (W.listOf vs'.toArray n')) → IntsAre vs' (ns.erase k) → Q .none { s with heap := h' }) :
    wpAny (model prog w) A (call (.builtin "list.remove") [.ref D, .int k t]) Q E s := by
  obtain ⟨j, hj, h1, h2, h3⟩ := ints_erase hi hk
  have hlen := hi.length
  have U' := U
  obtain ⟨pre, post, rfl, hg, a, b⟩ := U'.split
  have z := N (D, W.listOf vs.toArray n) (List.mem_append.mpr (.inr (.head _)))
  obtain ⟨n', N'⟩ := upd_news U N (fun xs => xs.eraseIdxIfInBounds j)
  refine call_meets PySem.F.slot_list_remove ⟨_, z.1, rfl⟩ PySem.F.entry_list_remove (PySem.F.args_list_remove_2 _ _)
    (MeetsSeq.list_remove D vs.toArray n (.int k t) (isInt k) (fun y hy => eq_isInt k t hi y (by simpa using hy)) j (by simpa using hj) (by simpa using h1) (fun i hi hlt => by simpa using h2 i (by simpa using hi) hlt) (by rw [List.size_toArray, sizeLine_eq]; omega))
    ⟨z.1, h _ (vs.eraseIdx j) n' (F.change (Heap.SameBut.update ..) z.2.1 z.2.2) ?_ h3⟩
  have e : vs.toArray.eraseIdxIfInBounds j = (vs.eraseIdx j).toArray := by simp
  rw [e] at N'; exact N'
theorem ints_snoc {vs : List Value} {ns : List Int} (h : IntsAre vs ns) (k : Int) (t : Tok) : IntsAre (vs ++ [.int k t]) (ns ++ [k]) := by
  induction h with
  | nil => exact .cons k t .nil
  | cons a u r ih => exact .cons a u ih
theorem mi_append {Q : Value → Shared → Prop} (F : Fr h₀ L s.heap m) (N : News h₀ L s.heap news) (hi : IntsAre vs ns) (U : UpdF D (W.listOf vs.toArray n) news g) (hz : ns.length ≤ 1000)
    (h : ∀ h' vs' n', Fr h₀ L h' m → News h₀ L h' (g (W.listOf vs'.toArray n')) → IntsAre vs' (ns ++ [k]) → Q .none { s with heap := h' }) :
    wpAny (model prog w) A (call (.builtin "list.append") [.ref D, .int k t]) Q E s := by
  have hlen := hi.length
  obtain ⟨pre, post, rfl, hg, a, b⟩ := U.split
  have z := N (D, W.listOf vs.toArray n) (List.mem_append.mpr (.inr (.head _)))
  refine append_at (hsz := by rw [List.size_toArray, sizeLine_eq]; omega) z.1 fun h' hs ho' => h h' (vs ++ [.int k t]) (n + 1) (F.change hs z.2.1 z.2.2) ?_ (ints_snoc hi k t)
  rw [hg]
  refine news_set N a b hs ?_
  rw [ho']; simp
end prims
abbrev By := Array UInt8
structure Tb where
  number : Int
  kw : Int
  vw : Int
  most : Int
  ks : List (Int × By)
  ord : List Int
  vals : List By
abbrev Led := List (Addr × Obj)
def Df (a b : Addr) : Prop := a ≠ b
theorem Df.out {a b : Addr} (h : Df a b) : a ≠ b := h
theorem Df.out' {a b : Addr} (h : Df a b) : b ≠ a := Ne.symm h
noncomputable abbrev mdOf (hh : Nat → Int) (tt : Nat → Tok) (σ : Tb) (V B K O : Addr) : List DictEntry :=
  [⟨hh 0, .str (Str.ofString "kind") (tt 0), .str (Str.ofString "lru") (tt 9)⟩,
   ⟨hh 1, .str (Str.ofString "number") (tt 1), .int σ.number (tt 10)⟩,
   ⟨hh 2, .str (Str.ofString "key_width") (tt 2), .int σ.kw (tt 11)⟩,
   ⟨hh 3, .str (Str.ofString "value_width") (tt 3), .int σ.vw (tt 12)⟩,
   ⟨hh 4, .str (Str.ofString "most") (tt 4), .int σ.most (tt 13)⟩,
   ⟨hh 5, .str (Str.ofString "values") (tt 5), .ref V⟩,
   ⟨hh 6, .str (Str.ofString "buckets") (tt 6), .ref B⟩,
   ⟨hh 7, .str (Str.ofString "key_by_slot") (tt 7), .ref K⟩,
   ⟨hh 8, .str (Str.ofString "order") (tt 8), .ref O⟩]
noncomputable def KRel : List (Int × Value) → List (Int × By) → Prop
  | [], [] => True
  | (i, v) :: r, (j, b) :: q => i = j ∧ (∃ t, v = .bytes b t) ∧ KRel r q
  | _, _ => False
noncomputable abbrev baObj (b : By) : Obj := { cls := .type "bytearray", data := .bytearray b 0 }
noncomputable def VRel : List (Int × Value) → Int → List By → Led → Prop
  | [], _, [], [] => True
  | (i, v) :: r, k, b :: q, (a, o) :: l => i = k ∧ v = .ref a ∧ o = baObj b ∧ VRel r (k + 1) q l
  | _, _, _, _ => False
noncomputable def BRel : List Addr → List (List Int) → Led → Prop
  | [], [], [] => True
  | x :: r, ns :: q, (a, o) :: l => x = a ∧ (∃ vs n, o = W.listOf (List.toArray vs) n ∧ IntsAre vs ns) ∧ BRel r q l
  | _, _, _ => False
noncomputable def hashL (l : List Int) : Int := l.foldl (fun f o => (Builtin.bitXor f o * 16777619) % 4294967296) 2166136261
noncomputable def hashF (b : By) : Int := hashL (KBw.bInts b)
noncomputable def hidx (b : By) (nb : Nat) : Nat := (Builtin.bitAnd (hashF b) ((nb : Int) - 1)).toNat
def BkInv (bls : List (List Int)) (ks : List (Int × By)) : Prop :=
  (∀ s b, (s, b) ∈ ks → ∃ l, bls[hidx b bls.length]? = some l ∧ s ∈ l) ∧
  (∀ (j : Nat) l, bls[j]? = some l → l.Nodup ∧ ∀ s ∈ l, ∃ b, (s, b) ∈ ks ∧ hidx b bls.length = j)
noncomputable def nbuck (most : Int) : Nat := if most ≤ 1 then 1 else if most ≤ 2 then 2 else 4
inductive TabIs (w : World) (M : Addr) (σ : Tb) : Led → Prop
  | mk {Md V B K O : Addr} {hh : Nat → Int} {tt : Nat → Tok} {n nB nO : Nat} {oV oK : Obj} {vO : List Value} {vkvs kkvs : List (Int × Value)} {bks : List Addr} {bls : List (List Int)} {tl baL bkL : Led}
    (hO : IntsAre vO σ.ord) (hK : oK.IsDictOf (intKind PySem.Challenge.rw_qz0154_01.row.prog w) kkvs) (rK : KRel kkvs σ.ks) (hV : oV.IsDictOf (intKind PySem.Challenge.rw_qz0154_01.row.prog w) vkvs) (rV : VRel vkvs 0 σ.vals baL)
    (rB : BRel bks bls bkL) (iB : BkInv bls σ.ks) (nb : bls.length = nbuck σ.most) (et : tl = baL ++ bkL) (ndT : (tl.map (·.1)).Nodup) (off : OwnOff tl [M, Md, V, B, K, O])
    (d1 : Df M Md) (d2 : Df M V) (d3 : Df M B) (d4 : Df M K) (d5 : Df M O) (d6 : Df Md V) (d7 : Df Md B) (d8 : Df Md K) (d9 : Df Md O) (d10 : Df V B) (d11 : Df V K) (d12 : Df V O) (d13 : Df B K) (d14 : Df B O) (d15 : Df K O)
    (lK : (K == sysModules) = false) (lV : (V == sysModules) = false) :
    TabIs w M σ ((M, instObj 502 Md) :: (Md, dictOf (mdOf hh tt σ V B K O) n) :: (V, oV) :: (B, W.listOf (bks.map Value.ref).toArray nB) :: (K, oK) :: (O, W.listOf vO.toArray nO) :: tl)

def Sp (w : World) (D U : Nat) (f : Addr) (vs : List Value) (foot : Led) (post : Value → Led → Prop) : Prop :=
  ∀ (mean : ExcName → Option Value) (mg mb : Str → Option Value) (dp un : Nat) (gd : Option (List Code)) (cn : Str) (cs : Scope) (a : Addr) (ccd : Value) (cl : List (Str × Addr)) (outer : List Env) (A₀ : Around) (base h₀ : Heap) (L : Addr) (m : Str → Option Value) (s : Shared) (Q E : Value → Shared → Prop) (rest : Led),
   Below A₀ base outer h₀ → Fr h₀ L s.heap m → (hd.heap_1 w.params).In h₀ → News h₀ L s.heap (foot ++ rest) → OwnOff rest (foot.map (·.1)) →
   Top hd.view_39 (looseW hd.view_39 [Str.ofString "GateError", Str.ofString "HashMap"]) mean mg mb h₀ → cs.kind = .function → dp + D < recursionLimit → un + U < cLine →
   (∀ v foot' h' tk', post v foot' → OwnOff rest (foot'.map (·.1)) → Fr h₀ L h' m → News h₀ L h' (foot' ++ rest) → Q v { s with heap := h', toks := tk' }) →
   wpAny (model PySem.Challenge.rw_qz0154_01.row.prog w) (ktrTop dp un gd cn cs L a ccd cl outer) (call (.ref f) vs) Q E s
def Into {α : Type} (P K : α → Shared → Prop) : Prop := ∀ y s', P y s' → K y s'
theorem own_app {a b : Led} {l : List Addr} (h : OwnOff a l) (k : OwnOff b l) : OwnOff (a ++ b) l := fun p hp => (List.mem_append.mp hp).elim (h p) (k p)
theorem own_sub {a : Led} {l l' : List Addr} (h : OwnOff a l) (k : ∀ x ∈ l', x ∈ l) : OwnOff a l' := fun p hp b hb => h p hp b (k b hb)
theorem own6 {M Md V B K O : Addr} {o1 o2 o3 o4 o5 o6 : Obj} {tl : Led} : ∀ x ∈ [M, Md, V, B, K, O], x ∈ List.map (fun x : Addr × Obj => x.1) ((M, o1) :: (Md, o2) :: (V, o3) :: (B, o4) :: (K, o5) :: (O, o6) :: tl) := by
  exact List.forall_mem_cons.mpr ⟨.head _, List.forall_mem_cons.mpr ⟨.tail _ (.head _), List.forall_mem_cons.mpr ⟨.tail _ (.tail _ (.head _)), List.forall_mem_cons.mpr ⟨.tail _ (.tail _ (.tail _ (.head _))), List.forall_mem_cons.mpr ⟨.tail _ (.tail _ (.tail _ (.tail _ (.head _)))), List.forall_mem_cons.mpr ⟨.tail _ (.tail _ (.tail _ (.tail _ (.tail _ (.head _))))), fun _ h => nomatch h⟩⟩⟩⟩⟩⟩
theorem lmem_l {a : Addr × Obj} {l r : List (Addr × Obj)} (h : a ∈ l) : List.Mem a (l ++ r) := List.mem_append_left _ h
theorem lmem_r {a : Addr × Obj} {l r : List (Addr × Obj)} (h : List.Mem a r) : List.Mem a (l ++ r) := List.mem_append_right _ h
section subs
variable {l l' L L' : List (Addr × Obj)} {a : Addr × Obj}
theorem sub_refl (l : List (Addr × Obj)) : ∀ p ∈ l, p ∈ l := fun _ h => h
theorem sub_nil : ∀ p ∈ ([] : List (Addr × Obj)), p ∈ L := fun _ h => nomatch h
theorem sub_cons (h : a ∈ L) (k : ∀ p ∈ l, p ∈ L) : ∀ p ∈ a :: l, p ∈ L := List.forall_mem_cons.mpr ⟨h, k⟩
theorem sub_app (h : ∀ p ∈ l, p ∈ L) (k : ∀ p ∈ l', p ∈ L) : ∀ p ∈ l ++ l', p ∈ L := List.forall_mem_append.mpr ⟨h, k⟩
theorem sub_tail (h : ∀ p ∈ l, p ∈ L) : ∀ p ∈ l, p ∈ a :: L := fun p hp => .tail _ (h p hp)
theorem sub_inl (h : ∀ p ∈ l, p ∈ L) : ∀ p ∈ l, p ∈ L ++ L' := fun p hp => List.mem_append_left _ (h p hp)
theorem sub_inr (h : ∀ p ∈ l, p ∈ L') : ∀ p ∈ l, p ∈ L ++ L' := fun p hp => List.mem_append_right _ (h p hp)
theorem news_sub {h₀ h : Heap} {A : Addr} (N : News h₀ A h L) (k : ∀ p ∈ l, p ∈ L) : News h₀ A h l := fun p hp => N p (k p hp)
end subs
theorem vrel_at (vkvs : List (Int × Value)) : ∀ (k : Int) (vals : List By) (l : Led), VRel vkvs k vals l → ∀ (i : Nat) (v : By), vals[i]? = some v → ∃ a, valueAt vkvs (k + i) = some (.ref a) ∧ (a, baObj v) ∈ l := by
  induction vkvs with
  | nil =>
    intro k vals l h i v e
    cases vals with
    | nil => simp at e
    | cons q r => cases l <;> exact h.elim
  | cons p r ih =>
    obtain ⟨j, u⟩ := p
    intro k vals l h i v e
    cases vals with
    | nil => cases l <;> exact h.elim
    | cons q r2 =>
      cases l with
      | nil => exact h.elim
      | cons x l =>
        obtain ⟨a, o⟩ := x
        obtain ⟨h1, h2, h3, h4⟩ := h
        subst h1 h2 h3
        cases i with
        | zero =>
          simp only [List.getElem?_cons_zero, Option.some.injEq] at e
          subst e
          exact ⟨a, by simp [valueAt], .head _⟩
        | succ i =>
          obtain ⟨a', a1, a2⟩ := ih (j + 1) r2 l h4 i v (by simpa using e)
          refine ⟨a', ?_, .tail _ a2⟩
          have hne : ¬ j = j + (i + 1 : Nat) := by omega
          unfold valueAt at a1 ⊢
          simp only [List.find?_cons, hne, decide_false]
          rw [show j + ((i + 1 : Nat) : Int) = j + 1 + (i : Int) by omega]
          exact a1
inductive ValsAt (w : World) (led : Led) (V : Addr) (vals : List By) : Prop
  | mk (oV : Obj) (vkvs : List (Int × Value)) (h1 : (V, oV) ∈ led) (h2 : oV.IsDictOf (intKind PySem.Challenge.rw_qz0154_01.row.prog w) vkvs) (h3 : (V == sysModules) = false) (h4 : ∀ (i : Nat) v, vals[i]? = some v → ∃ a, valueAt vkvs (i : Int) = some (.ref a) ∧ (a, baObj v) ∈ led)
inductive KeysAt (w : World) (led : Led) (K : Addr) (ks : List (Int × By)) : Prop
  | mk (oK : Obj) (kkvs : List (Int × Value)) (h1 : (K, oK) ∈ led) (h2 : oK.IsDictOf (intKind PySem.Challenge.rw_qz0154_01.row.prog w) kkvs) (h3 : (K == sysModules) = false) (h4 : KRel kkvs ks)
inductive OrdAt (led : Led) (O : Addr) (ord : List Int) : Prop
  | mk (vO : List Value) (nO : Nat) (h1 : (O, W.listOf (List.toArray vO) nO) ∈ led) (h2 : IntsAre vO ord)
inductive TInst (w : World) (M : Addr) (σ : Tb) (led : Led) : Prop
  | mk (Md V B K O : Addr) (hh : Nat → Int) (tt : Nat → Tok) (n : Nat) (h1 : (M, instObj 502 Md) ∈ led) (h2 : (Md, dictOf (mdOf hh tt σ V B K O) n) ∈ led) (h3 : ValsAt w led V σ.vals) (h4 : KeysAt w led K σ.ks) (h5 : OrdAt led O σ.ord)
theorem TabIs.inst {w : World} {M : Addr} {σ : Tb} {led : Led} (h : TabIs w M σ led) : TInst w M σ led := by
  cases h with
  | mk hO hK rK hV rV rB iB nb et ndT off d1 d2 d3 d4 d5 d6 d7 d8 d9 d10 d11 d12 d13 d14 d15 lK lV =>
    refine ⟨_, _, _, _, _, _, _, _, .head _, .tail _ (.head _), ⟨_, _, .tail _ (.tail _ (.head _)), hV, lV, fun i v hi => ?_⟩, ⟨_, _, .tail _ (.tail _ (.tail _ (.tail _ (.head _)))), hK, lK, rK⟩, ⟨_, _, .tail _ (.tail _ (.tail _ (.tail _ (.tail _ (.head _))))), hO⟩⟩
    obtain ⟨a, a1, a2⟩ := vrel_at _ _ _ _ rV i v hi
    refine ⟨a, by simpa using a1, ?_⟩
    subst et
    exact .tail _ (.tail _ (.tail _ (.tail _ (.tail _ (.tail _ (List.mem_append_left _ a2))))))
section
variable {w : World} {D U : Nat} {f : Addr} {vs : List Value} {led : Led} {post : Value → Led → Prop} {name qual : Str} {params : Arguments} {body : List Stmt} {scope : Scope} {dV kV doc pm cdv ct oc : Value} {an od : Option Addr} {osl : Array (Option Value)} {binds : List (Str × Value)}
def Leaves (h₀ : Heap) (L : Addr) (post : Value → Led → Prop) (rest : Led) (gS : Array GenState) (dS : Drawn) (oS : OsState) (Q : Flow → Shared → Prop) : Prop :=
  ∀ v foot' h' tk' {m' : Str → Option Value}, post v foot' → OwnOff rest (foot'.map (·.1)) → Fr h₀ L h' m' → News h₀ L h' (foot' ++ rest) → Q (.ret v) ⟨h', gS, dS, tk', oS⟩
def NextRet (Q : Flow → Shared → Prop) : Prop := ∀ s, Q (.ret .none) s → Q .next s
theorem next_ret {Q : Flow → Shared → Prop} {s : Shared} (h : NextRet Q) (k : Q (.ret .none) s) : Q .next s := h _ k
theorem bt_zip (e : bindArgs (fnOf name qual params body scope dV kV doc pm an cdv ct) ⟨vs, []⟩ = pure ((params.args.map (·.arg)).zip vs)) :
    ∀ s : Shared, (hd.heap_1 w.params).In s.heap → BindsTo s (fnOf name qual params body scope dV kV doc pm an cdv ct) ⟨vs, []⟩ ((params.args.map (·.arg)).zip vs) := fun _ _ => BindsTo.of_eq e
/-- a contract's proof behind the entry: the caller's frame is out of sight -/
theorem sp_enter
    (ho : (hd.heap_1 w.params).lookup f = some ⟨oc, od, .func (fnOf name qual params body scope dV kV doc pm an cdv ct), osl⟩) (hcd : codeIn (hd.heap_1 w.params) cdv qual = true)
    (hbind : ∀ s : Shared, (hd.heap_1 w.params).In s.heap → BindsTo s (fnOf name qual params body scope dV kV doc pm an cdv ct) ⟨vs, []⟩ binds) (hloc : ∀ y ∈ binds, scope.names.lookup y.1 = some .local)
    (hco : scope.isCoroutine = false) (hgen : scope.isGenerator = false) (hk : scope.kind = .function) (hcell : ∀ x ∈ scope.names, x.2 ≠ .cell)
    (H : ∀ (mean : ExcName → Option Value) (mg mb : Str → Option Value) (dp un : Nat) (gd : Option (List Code)) (outer : List Env) (A₀ : Around) (base h₀ : Heap) (L : Addr) (hS : Heap) (gS : Array GenState) (dS : Drawn) (kS : Nat) (oS : OsState) (Q : Flow → Shared → Prop) (E : Value → Shared → Prop) (rest : Led),
      Below A₀ base outer h₀ → Fr h₀ L hS (fun y => binds.reverse.lookup y) → (hd.heap_1 w.params).In h₀ → News h₀ L hS (led ++ rest) → OwnOff rest (led.map (·.1)) →
      Top hd.view_39 (looseW hd.view_39 [Str.ofString "GateError", Str.ofString "HashMap"]) mean mg mb h₀ → dp + D < recursionLimit → un + U < cLine → NextRet Q → Leaves h₀ L post rest gS dS oS Q → PassesOwn (model PySem.Challenge.rw_qz0154_01.row.prog w) (ktrTop dp un gd qual scope L f cdv [] outer) (envX qual scope L f cdv []) E →
      wpAny (model PySem.Challenge.rw_qz0154_01.row.prog w) (ktrTop dp un gd qual scope L f cdv [] outer) (execs body (envX qual scope L f cdv [])) Q E ⟨hS, gS, dS, kS, oS⟩) :
    Sp w (D + 1) (U + 3) f vs led post := by
  intro mean mg mb dp un gd cn cs a ccd cl outer A₀ base h₀ L m s Q E rest B F X N OR T hks hd hu hret
  refine wpAny_call (code_def B F X N T rfl rfl hks ho hcd (Nat.lt_of_le_of_lt (Nat.le_add_right _ _) hd) (hbind _ (X.keeps F.keep)) hloc (fun g L' h₁ FG F' N' B' X' T' => ?_) hco hgen hk hcell)
  exact H mean mg mb (dp + 1) (un + 3) gd (envX cn cs L a ccd cl :: outer) _ base g L' h₁ s.gens s.drawn (s.toks + binds.length) s.os _ _ rest B' F' X' N' OR T' (omN18 hd) (omN18 hu) (fun _ h => h)
    (fun v foot' h' tk' m' hp ho F2 N2 => leaveK_ F2 N2 fun kF kN => hret v foot' _ _ hp ho kF kN) (by passes_own)
/-- the same for a function with cells -/
theorem sp_enterC
    (ho : (hd.heap_1 w.params).lookup f = some ⟨oc, od, .func (fnOf name qual params body scope dV kV doc pm an cdv ct), osl⟩) (hcd : codeIn (hd.heap_1 w.params) cdv qual = true)
    (hbind : ∀ s : Shared, (hd.heap_1 w.params).In s.heap → BindsTo s (fnOf name qual params body scope dV kV doc pm an cdv ct) ⟨vs, []⟩ binds) (hkind : (binds.all fun y => scope.names.lookup y.1 == some .local || scope.names.lookup y.1 == some .cell) = true)
    (hnd : ((cellsFrom 0 scope.names []).map (·.1)).Nodup)
    (hco : scope.isCoroutine = false) (hgen : scope.isGenerator = false) (hk : scope.kind = .function)
    (H : ∀ (mean : ExcName → Option Value) (mg mb : Str → Option Value) (dp un : Nat) (gd : Option (List Code)) (outer : List Env) (A₀ : Around) (base h₀ : Heap) (L : Addr) (hS : Heap) (gS : Array GenState) (dS : Drawn) (kS : Nat) (oS : OsState) (Q : Flow → Shared → Prop) (E : Value → Shared → Prop) (rest cells : Led),
      Below A₀ base outer h₀ → Fr h₀ L hS (bindL (envX qual scope L f cdv (cellsFrom (L + 1) scope.names [])).kindOf binds fun _ => none) → (hd.heap_1 w.params).In h₀ → News h₀ L hS (cells ++ (led ++ rest)) →
      CellsAre (bindC (envX qual scope L f cdv (cellsFrom (L + 1) scope.names [])).kindOf binds fun _ => none) (cellsFrom (L + 1) scope.names []) cells → OwnOff rest (led.map (·.1)) →
      Top hd.view_39 (looseW hd.view_39 [Str.ofString "GateError", Str.ofString "HashMap"]) mean mg mb h₀ → dp + D < recursionLimit → un + U < cLine → (∀ p ∈ led ++ rest, p.1 < L) → NextRet Q → Leaves h₀ L post rest gS dS oS Q →
      PassesOwn (model PySem.Challenge.rw_qz0154_01.row.prog w) (ktrTop dp un gd qual scope L f cdv (cellsFrom (L + 1) scope.names []) outer) (envX qual scope L f cdv (cellsFrom (L + 1) scope.names [])) E →
      wpAny (model PySem.Challenge.rw_qz0154_01.row.prog w) (ktrTop dp un gd qual scope L f cdv (cellsFrom (L + 1) scope.names []) outer) (execs body (envX qual scope L f cdv (cellsFrom (L + 1) scope.names []))) Q E ⟨hS, gS, dS, kS, oS⟩) :
    Sp w (D + 1) (U + 3) f vs led post := by
  intro mean mg mb dp un gd cn cs a ccd cl outer A₀ base h₀ L m s Q E rest B F X N OR T hks hd hu hret
  refine wpAny_call (code_defC B F X N T rfl rfl hks ho hcd (Nat.lt_of_le_of_lt (Nat.le_add_right _ _) hd) (hbind _ (X.keeps F.keep)) hkind hnd (fun g L' h₁ tk cells FG F' N' Y B' X' T' l1 => ?_) hco hgen hk)
  exact H mean mg mb (dp + 1) (un + 3) gd (envX cn cs L a ccd cl :: outer) _ base g L' h₁ s.gens s.drawn tk s.os _ _ rest cells B' F' X' N' Y OR T' (omN18 hd) (omN18 hu) l1 (fun _ h => h)
    (fun v foot' h' tk' m' hp ho F2 N2 => leaveK_ F2 N2 fun kF kN => hret v foot' _ _ hp ho kF kN) (by passes_own)
end
end
local macro_rules | `(tactic| k_ne) => `(tactic| (refine neN ?_; first | exact Df.out (by assumption) | exact Df.out' (by assumption)))
theorem kw_3 : True := by
  (k_with "M mine room" => first | (refine' room0 ?q_rh; (case q_rh => assumption)) | (refine' room1 ?q_rh ?q_re; (case q_rh => assumption); (case q_re => exact rfl)) | (refine' room2 ?q_rh ?q_re; (case q_rh => assumption); (case q_re => exact rfl)) | (refine' room3 ?q_rh ?q_re; (case q_rh => assumption); (case q_re => exact rfl)) | (refine' room4 ?q_rh ?q_re; (case q_rh => assumption); (case q_re => exact rfl)) | (refine' room5 ?q_rh ?q_re; (case q_rh => assumption); (case q_re => exact rfl)) | (refine' room6 ?q_rh ?q_re; (case q_rh => assumption); (case q_re => exact rfl)))
  (k_with "M mine om" => first | exact Nat.le_of_ble_eq_true rfl | (refine' Nat.le_trans ?q_rh ?q_re; (case q_rh => assumption); (case q_re => exact Nat.le_of_ble_eq_true rfl)) | omega)
  (k_with "M mine mem" => first | ((with_reducible refine List.mem_append_left _ ?_); assumption) | ((with_reducible refine List.mem_append_right _ ?_); assumption) | ((with_reducible refine lmem_l ?_); assumption) | ((with_reducible refine lmem_r ?_); k_mem))
  (k_with "M mine one" => first | (k_unfold; (try dsimp only)) | walk1 | (dsimp only; walk1) | (dsimp only; k_unfold; (try dsimp only)) | (refine next_ret (by assumption) ?_) | fail "no step")
  (k_with "M mine df" => ((try dsimp only); (try k_fold)))
  (k_with "M compareOp In int ref" => (k_here; k_dflt (refine' mi_in ?q_N ?q_m ?q_i ?_; (case q_N => k_asm); (case q_m => k_mem); (case q_i => k_asm))))
  (k_with "M call builtin:list.remove" => (k_here; k_dflt (refine' mi_remove ?q_F ?q_N ?q_i ?q_k ?q_U ?q_z ?_; (case q_F => k_asm); (case q_N => k_asm); (case q_U => k_updF); (case q_i => k_asm); (case q_k => first | assumption | (simpa using ‹_›)); (case q_z => first | assumption | walk_at "mine om")); intro _ _ _ _ _ _))
  (k_with "M call builtin:list.append" => (k_here; k_dflt (refine' mi_append ?q_F ?q_N ?q_i ?q_U ?q_z ?_; (case q_F => k_asm); (case q_N => k_asm); (case q_U => k_updF); (case q_i => k_asm); (case q_z => first | assumption | omega | (simp only [List.length_erase]; split <;> omega))); intro _ _ _ _ _ _))
  (k_with "M mine steps" => repeat' walk_at "mine one")
  (k_with "M mine sub" => first | exact sub_refl _ | exact sub_nil | ((with_reducible refine sub_cons ?_ ?_); (· k_mem); walk_at "mine sub") | ((with_reducible refine sub_app ?_ ?_); (· walk_at "mine sub"); walk_at "mine sub") | ((with_reducible refine sub_tail ?_); walk_at "mine sub") | ((with_reducible refine sub_inl ?_); walk_at "mine sub") | ((with_reducible refine sub_inr ?_); walk_at "mine sub"))
  (k_with "M mine enter" => (refine' code_def ?q_k1 ?q_k2 ?q_k3 ?q_k4 ?q_k5 ?q_kA ?q_kF ?q_kK ?q_k6 ?q_k7 ?q_k8 ?q_k9 ?q_kB ?_ ?q_c2 ?q_c3 ?q_c4 ?q_c5; (case q_kA => exact rfl); (case q_kF => exact rfl); (case q_kK => first | assumption | exact rfl); (case q_k1 => k_asm); (case q_k2 => k_asm); (case q_k3 => k_asm); (case q_k4 => k_asm); (case q_k5 => k_asm); (case q_k6 => k_is); (case q_k7 => k_is); (case q_k8 => ktr_room); (case q_k9 => first | exact BindsTo.of_eq rfl | exact binds_K (by k_in) rfl (by k_is) rfl rfl rfl); (case q_c5 => decide); (case q_kB => exact locs rfl); (case q_c2 => exact rfl); (case q_c3 => exact rfl); (case q_c4 => exact rfl); k_whole; intro _ _ _ _ _ _ B9 _ _; (try dsimp only); (try k_lift B9); (try k_fold)))
  (k_with "M mine call" => ((case O => k_asm); (case B => k_asm); (case F => k_asm); (case X => k_asm); (case N => first | k_asm | (refine' news_sub (by assumption) ?_; walk_at "mine sub")); (case T => k_asm); (case hk => first | exact rfl | assumption); (case hd => ktr_room); (case hu => ktr_units)))
  (k_with "M mine toloop" => repeat' ((fail_if_success (with_reducible show wpAny _ _ (pyIter _) _ _ _)); walk_at "mine one"))
  (k_with "M mine enterC" => (refine' code_defC ?q_k1 ?q_k2 ?q_k3 ?q_k4 ?q_k5 ?q_kA ?q_kF ?q_kK ?q_k6 ?q_k7 ?q_k8 ?q_k9 ?q_kB ?q_kD ?_ ?q_c2 ?q_c3 ?q_c4; (case q_kA => exact rfl); (case q_kF => exact rfl); (case q_kK => first | assumption | exact rfl); (case q_k1 => k_asm); (case q_k2 => k_asm); (case q_k3 => k_asm); (case q_k4 => k_asm); (case q_k5 => k_asm); (case q_k6 => k_is); (case q_k7 => k_is); (case q_k8 => ktr_room); (case q_k9 => first | exact BindsTo.of_eq rfl | exact binds_K (by k_in) rfl (by k_is) rfl rfl rfl); (case q_kB => exact rfl); (case q_kD => decide +kernel); (case q_c2 => exact rfl); (case q_c3 => exact rfl); (case q_c4 => exact rfl); k_whole; intro _ _ _ _ _ _ _ N9 Y9 B9 _ _ l9; (try k_lt l9); k_cells Y9; (try dsimp only [List.cons_append, List.nil_append] at N9); (try dsimp only); (try k_lift B9); (try k_fold)))
  (k_with "M mine sp" => (k_dflt (refine' sp_enter ?q_6 ?q_7 ?q_9 ?q_B ?q_c2 ?q_c3 ?q_c4 ?q_c5 ?_; (case q_6 => k_is); (case q_7 => k_is); (case q_9 => first | exact bt_zip rfl | exact fun s X => binds_K X rfl (by k_is) rfl rfl rfl); (case q_c5 => decide); (case q_B => exact locs rfl); (case q_c2 => exact rfl); (case q_c3 => exact rfl); (case q_c4 => exact rfl))))
  (k_with "M mine spc" => (k_dflt (refine' sp_enterC ?q_6 ?q_7 ?q_9 ?q_B ?q_D ?q_c2 ?q_c3 ?q_c4 ?_; (case q_6 => k_is); (case q_7 => k_is); (case q_9 => first | exact bt_zip rfl | exact fun s X => binds_K X rfl (by k_is) rfl rfl rfl); (case q_B => exact rfl); (case q_D => decide +kernel); (case q_c2 => exact rfl); (case q_c3 => exact rfl); (case q_c4 => exact rfl))))
  (k_with "M mine om2" => with_reducible first | assumption | ((show (_ : Nat) ≤ _); first | exact omN1 (by assumption) (by first | with_reducible rfl | decide) | exact omN2 (by assumption) (by assumption) (by first | with_reducible rfl | decide) | exact omN4 (by assumption) (by assumption) (by first | with_reducible rfl | decide) | exact omN5 (by assumption) (by assumption) (by first | with_reducible rfl | decide) | exact omN8 (by assumption) | exact omN8e (by assumption) (by assumption) | exact omN6 (by assumption) (by first | with_reducible rfl | decide) | exact omN6e (by assumption) (by assumption) (by first | with_reducible rfl | decide) | exact omN7 (by assumption) (by first | with_reducible rfl | decide) | exact omN7e (by assumption) (by assumption) (by first | with_reducible rfl | decide) | exact omN9 (by assumption) (by first | with_reducible rfl | decide) | exact omN9' (by assumption) (by first | with_reducible rfl | decide) | exact omN16 (by assumption) (by first | with_reducible rfl | decide) | exact omN2' (by assumption) (by assumption) (by first | with_reducible rfl | decide) | exact omN3 (by assumption) (by assumption) (by assumption) (by first | with_reducible rfl | decide) | exact omN11 (by assumption) | exact omN22 (by assumption) | exact Nat.le_of_eq (Eq.symm (by assumption)) | exact Nat.le_of_eq (by assumption) | exact Nat.le_add_left _ _ | exact Nat.le_trans (by assumption) (by assumption) | exact omN15 (by assumption)) | ((show (_ : Int) ≤ _); first | exact Int.natCast_nonneg _ | exact omI1 (by assumption) (by first | with_reducible rfl | decide) | exact omI3 (by assumption) (by first | with_reducible rfl | decide) | exact omI7 (by assumption) (by first | with_reducible rfl | decide) | exact omI8 (by assumption) (by first | with_reducible rfl | decide) | exact omI11 (by assumption) (by first | with_reducible rfl | decide) | exact omI12 (by assumption) (by assumption) (by first | with_reducible rfl | decide) | exact omI13 (by assumption) (by assumption) (by first | with_reducible rfl | decide) | exact omI14 (by assumption) (by assumption) | exact omI15 (by assumption) (by assumption) | exact omI17 (by assumption) (by first | with_reducible rfl | decide) | exact Int.le_trans (by assumption) (by assumption)) | ((show (_ : Nat) < _); first | exact omN13 (by assumption) | exact omN15 (by assumption) | exact omN17 (by assumption) (by first | with_reducible rfl | decide) | exact omN18 (by assumption) | exact omN19 (by assumption) (by assumption) | exact omN25 (by assumption) | exact omN25' (by assumption) | exact omN26 (by assumption) | exact omN27 (by assumption) (by assumption) (by first | with_reducible rfl | decide) | exact omN22' (by assumption) | exact omN23 (by assumption) | exact Nat.sub_lt (by assumption) (by decide) | exact omN11 (by assumption)) | ((show (_ : Int) < _); first | exact omI4 (by assumption) (by first | with_reducible rfl | decide) | exact omI5 (by assumption) (by first | with_reducible rfl | decide) | exact omI5e (by assumption) (by assumption) (by first | with_reducible rfl | decide) | exact omI27 (by assumption) (by assumption) (by first | with_reducible rfl | decide) | exact omI9 (by assumption) (by first | with_reducible rfl | decide) | exact omI10 (by assumption) (by first | with_reducible rfl | decide) | exact omI16 (by assumption) (by first | with_reducible rfl | decide) | exact omI19 (by assumption) (by assumption) | exact omN24 (by assumption)) | ((show (_ : Nat) = _); first | exact omN12 (by assumption) (by assumption) (by assumption) | exact omN12' (by assumption) (by assumption) (by assumption) | exact omN14 (by assumption) | exact omN20 (by assumption) | exact omN21 (by assumption) (by assumption) | exact Nat.zero_add _ | exact omN28 | exact omN28.symm | exact Eq.trans (by assumption) (Eq.symm (by assumption)) | exact Eq.trans (by assumption) (by assumption)) | ((show (_ : Int) = _); first | exact Int.toNat_of_nonneg (by assumption) | exact omI6 (by assumption) | exact omI18 (by assumption) | exact omI20 (by assumption) (by assumption) (by decide) | exact omI23 (by assumption) (by decide) | exact omI29 | exact omI29.symm | exact omI30 | exact omI30.symm | exact omM1 (by assumption) (by assumption) | exact Eq.trans (by assumption) (Eq.symm (by assumption)) | exact Eq.trans (by assumption) (by assumption)) | ((show (_ : Nat) ≠ _); first | exact omX1 (by assumption) | exact omX2 (by assumption) | exact omX3 (by assumption) | exact omX4 (by assumption) | exact omX5 (by assumption) | exact omX6 (by assumption) | exact omY1 (by assumption) | exact omY2 (by assumption) | exact omY3 (by assumption) | exact Ne.symm (omX1 (by assumption)) | exact Ne.symm (omX2 (by assumption)) | exact Ne.symm (omX3 (by assumption)) | exact Ne.symm (omX4 (by assumption)) | exact Ne.symm (omX5 (by assumption)) | exact Ne.symm (omX6 (by assumption)) | exact Ne.symm (omY1 (by assumption)) | exact Ne.symm (omY2 (by assumption)) | exact Ne.symm (omY3 (by assumption))) | ((show False); first | exact omF5 (by assumption) | exact omF6 (by assumption) | exact omF1 (by assumption) (by assumption) (by decide) | exact omF2 (by assumption) (by assumption) (by decide) (by decide) | exact omF3 (by assumption) (by assumption) (by decide) (by decide) | exact omF4 (by assumption) (by assumption) (by decide) (by decide) | contradiction) | ((show ¬ _); first | exact omI21 (by assumption) (by decide) | exact omI22 (by assumption) (by decide) | exact omI24 (by assumption) (by decide) | exact omI25 (by assumption) (by decide) | exact omI26 (by assumption) (by decide) | exact omX7 (by assumption) | exact omX1 (by assumption) | exact omX2 (by assumption) | exact omX3 (by assumption) | exact omX4 (by assumption) | exact omX5 (by assumption) | exact omX6 (by assumption) | exact Ne.symm (omX1 (by assumption)) | exact Ne.symm (omX2 (by assumption)) | exact Ne.symm (omX3 (by assumption)) | exact Ne.symm (omX4 (by assumption)) | exact Ne.symm (omX5 (by assumption)) | exact Ne.symm (omX6 (by assumption))) | ((show _ ∨ _); first | exact int_four (by assumption) (by assumption) | exact one_four (by assumption) (by assumption) | exact int_five _ (by assumption) (by assumption)) | decide)
  trivial
section
section
variable {prog : Program} {w : World} {A : Around} {E : Value → Shared → Prop} {s : Shared} {K : Frag} {h₀ : Heap} {L a : Addr} {m mg mb : Str → Option Value} {cn : Str} {cs : Scope} {ccd : Value} {cl : List (Str × Addr)} {p : Program} {loose : List Str} {news : Led}
/-- a local name of a function's scope -/
def OkN (cs : Scope) (x : Str) : Prop := cs.kind = .function ∧ (envX (Str.ofString "") cs 0 0 .none []).kindOf x = some .local ∧ (x == Str.ofString "__debug__") = false
def OkG (cs : Scope) (x : Str) : Prop := cs.kind = .function ∧ (envX (Str.ofString "") cs 0 0 .none []).kindOf x = some .globalImplicit ∧ (x == Str.ofString "__debug__") = false
inductive ArgsN (m : Str → Option Value) (cs : Scope) : List PySem.Expr → List Value → Prop
  | nil : ArgsN m cs [] []
  | cons {x : Str} {q : Pos} {v : Value} {es : List PySem.Expr} {vs : List Value} (h : m x = some v) (k : OkN cs x) (r : ArgsN m cs es vs) : ArgsN m cs (.Name x q :: es) (v :: vs)
theorem ArgsN.run {es : List PySem.Expr} {vs : List Value} (H : ArgsN m cs es vs) (F : Fr h₀ L s.heap m) : ∀ {pos : Pos} {Q : List Value → Shared → Prop}, Q vs s →
    wpAny (model prog w) A (spliced (backTo pos (starEach es (envX cn cs L a ccd cl)))) Q E s := by
  induction H with
  | nil => exact fun h => args_nil h
  | cons h k _ ih => exact fun q => args_cons (nameX_L F h (ih q) k.1 k.2.1 k.2.2)
theorem ArgsN.plain {es : List PySem.Expr} {vs : List Value} (H : ArgsN m cs es vs) (env : Env) (pos : Pos) : (backTo pos (starEach es env)).any (·.1) = false := by
  induction H with
  | nil => rfl
  | cons _ _ _ ih => exact ih
theorem callWith_N {es : List PySem.Expr} {vs first : List Value} {f : Value} {pos : Pos} {Q : Value → Shared → Prop} (X : K.In h₀) (F : Fr h₀ L s.heap m) (hk : keepIn K f = true) (H : ArgsN m cs es vs) (h : wpAny (model prog w) A (call f (first ++ vs)) Q E s) :
    wpAny (model prog w) A (callWith pos f first (backTo pos (starEach es (envX cn cs L a ccd cl))) []) Q E s := by
  cases H with
  | nil => exact callWith_K0 (X.keeps F.keep) hk h
  | cons q k r => exact callWith_K X hk ((ArgsN.cons q k r).run F ⟨X.keeps F.keep, h⟩) rfl (r.plain _ _)
/-- a global function called with local names -/
theorem gcall {x : Str} {q pos : Pos} {es : List PySem.Expr} {vs : List Value} {f : Addr} {Q : Value → Shared → Prop} (X : K.In h₀) (F : Fr h₀ L s.heap m) (T : TopRead p loose mg mb h₀) (e : nsIn K mainGlobals x = some (some (.ref f))) (k : OkG cs x) (hk : keepIn K (.ref f) = true)
    (H : ArgsN m cs es vs) (h : wpAny (model prog w) A (call (.ref f) vs) Q E s) : wpAny (model prog w) A (eval (.Call (.Name x q) es [] pos) (envX cn cs L a ccd cl)) Q E s :=
  Call_Name rfl (nameX_K F X T e (callWith_N X F hk H h) k.1 k.2.1 k.2.2)
variable {C M Md : Addr} {es : List DictEntry} {n : Nat} {attr : Str}
/-- an attribute of an object that a local name holds -/
theorem self_at {x : Str} {xp pos : Pos} {mv : Option Value} {v : Value} {Q : Value → Shared → Prop} (F : Fr h₀ L s.heap m) (X : K.In h₀) (N : News h₀ L s.heap news) (h1 : m x = some (.ref M)) (k : OkN cs x) (hM : (M, instObj C Md) ∈ news) (hMd : (Md, dictOf es n) ∈ news)
    (hg : plainGet K C attr = true) (hh : hasDictIn K C = true) (ha : findIn K (.ref C) attr = some mv) (hn : noGet K mv = true) (hl : getL attr es = some (some v)) (hv : handedIn v = true) (h : Q v { s with toks := s.toks + 1 }) :
    wpAny (model prog w) A (eval (.Attribute (.Name x xp) attr pos) (envX cn cs L a ccd cl)) Q E s :=
  Attribute_Name_ (nameX_L F h1 (get_own F X (InstAt.of_news N hM hMd) hg hh ha hn hl hv h) k.1 k.2.1 k.2.2)
/-- a method of an object that a local name holds, called with local names -/
theorem mcall {x : Str} {xp pos : Pos} {pl : Sem Bool} {as : List PySem.Expr} {vs : List Value} {f : Addr} {Q : Value → Shared → Prop} (F : Fr h₀ L s.heap m) (X : K.In h₀) (N : News h₀ L s.heap news) (h1 : m x = some (.ref M)) (k : OkN cs x) (hM : (M, instObj C Md) ∈ news) (hMd : (Md, dictOf es n) ∈ news)
    (hg : plainGet K C attr = true) (hf : findIn K (.ref C) attr = some (some (.ref f))) (ht : isFn K (.ref f) = true) (hl : getL attr es = some none) (hk : keepIn K (.ref f) = true) (H : ArgsN m cs as vs) (h : wpAny (model prog w) A (call (.ref f) (.ref M :: vs)) Q E s) :
    wpAny (model prog w) A (eval (.Name x xp) (envX cn cs L a ccd cl)) (fun ov s₁ => wpAny (model prog w) A (getMethod ov attr pl) (fun fx s₂ => wpAny (model prog w) A (callWith pos fx.1 fx.2 (backTo pos (starEach as (envX cn cs L a ccd cl))) []) Q E s₂) E s₁) E s :=
  nameX_L F h1 (method_inst F X (InstAt.of_news N hM hMd) hg hf ht hl (callWith_N (first := [.ref M]) X F hk H h)) k.1 k.2.1 k.2.2
section
variable {x y : Str} {v u : Value} {f g k k2 : Int} {t₁ t₂ : Tok} {n n2 : Nat} {p1 p2 p3 p4 p5 p6 p7 : Pos} {whole : Sem Value} {Q : Bool → Shared → Prop}
/-- x == k and y < k2 on local names that hold ints, of which one is not so -/
theorem and_ff (F : Fr h₀ L s.heap m) (hx : m x = some v) (q : OkN cs x) (hy : m y = some u) (r : OkN cs y) (ev : v = .int f t₁) (eu : u = .int g t₂) (hn : ¬ (f = k ∧ g < k2)) (h : ∀ tk, Q false { s with toks := tk }) :
    wpAny (model prog w) A (isTrue (.BoolOp .And [.Compare (.Name x p1) [.Eq] [.Constant (.int k) n p2] p3, .Compare (.Name y p4) [.Lt] [.Constant (.int k2) n2 p5] p6] p7) (envX cn cs L a ccd cl) whole) Q E s := by
  subst ev eu
  refine isTrue_and (wpAny_isTrue_Compare1 (nameX_L F hx (wpAny_Constant_int (eq_int (wpAny_truthy_bool ?_))) q.1 q.2.1 q.2.2))
  by_cases e : f = k
  · rw [if_pos (by simp [e])]
    refine isTrue_and (wpAny_isTrue_Compare1 (nameX_L (s := { s with toks := s.toks + 1 }) F hy (wpAny_Constant_int (lt_int (wpAny_truthy_bool ?_))) r.1 r.2.1 r.2.2))
    rw [if_neg (by simpa using fun z => hn ⟨e, z⟩)]
    exact h _
  · rw [if_neg (by simpa using e)]
    exact h _
end
end
end
theorem kw_4 : True := by
  (k_with "M mine argn" => first | exact ArgsN.nil | (refine ArgsN.cons rfl ⟨rfl, rfl, rfl⟩ ?_; walk_at "mine argn"))
  (k_with "M eval Attribute Name" => (k_here; k_dflt (refine' self_at ?q_F ?q_X ?q_N ?q_h1 ?q_k ?q_hM ?q_hMd ?q_hg ?q_hh ?q_ha ?q_hn ?q_hl ?q_hv ?_; (case q_F => k_asm); (case q_X => k_asm); (case q_N => k_asm); (case q_h1 => exact rfl); (case q_k => exact ⟨rfl, rfl, rfl⟩); (case q_hM => k_mem); (case q_hMd => k_mem); (case q_hg => k_is); (case q_hh => k_is); (case q_ha => k_is); (case q_hn => k_is); (case q_hl => k_get); (case q_hv => k_handed))))
  (k_with "M eval Call Attribute" => (k_here; k_dflt (refine' MethodCall_ (mcall ?q_F ?q_X ?q_N ?q_h1 ?q_k ?q_hM ?q_hMd ?q_hg ?q_hf ?q_ht ?q_hl ?q_hk ?q_H ?_); (case q_F => k_asm); (case q_X => k_asm); (case q_N => k_asm); (case q_h1 => exact rfl); (case q_k => exact ⟨rfl, rfl, rfl⟩); (case q_hM => k_mem); (case q_hMd => k_mem); (case q_hg => k_is); (case q_hf => k_is); (case q_ht => k_is); (case q_hl => k_get); (case q_hk => k_is); (case q_H => walk_at "mine argn")); (try dsimp only [List.cons_append, List.nil_append])))
  (k_with "M isTrue BoolOp" => (k_here; (with_reducible show wpAny _ _ (isTrue (PySem.Expr.BoolOp BoolOp.And [PySem.Expr.Compare (PySem.Expr.Name _ _) [CmpOp.Eq] [PySem.Expr.Constant (Const.int _) _ _] _, PySem.Expr.Compare (PySem.Expr.Name _ _) [CmpOp.Lt] [PySem.Expr.Constant (Const.int _) _ _] _] _) _ _) _ _ _); k_dflt (refine' and_ff ?q_F ?q_h ?q_k ?q_h2 ?q_k2 ?q_e1 ?q_e2 ?q_n ?_; (case q_F => k_asm); (case q_h => rfl); (case q_h2 => rfl); (case q_k => exact ⟨rfl, rfl, rfl⟩); (case q_k2 => exact ⟨rfl, rfl, rfl⟩); (case q_e1 => rfl); (case q_e2 => rfl); (case q_n => omega)); intro _))
  trivial
section
section scall
variable {prog : Program} {w : World} {A : Around} {E : Value → Shared → Prop} {s : Shared} {env : Env}
theorem wpS_MethodCall {o : PySem.Expr} {name : Str} {apos pos : Pos} {args : List PySem.Expr} {pl : Sem Bool} {Q : Value → Shared → Prop}
    (h : wpAny (model prog w) A (eval o env) (fun ov s₁ => wpAny (model prog w) A (getMethod ov name pl) (fun fx s₂ => wpS (model prog w) A (callWith pos fx.1 fx.2 (backTo pos (starEach args env)) []) Q E s₂) E s₁) E s)
    (he : eval (.Call (.Attribute o name apos) args [] pos) env = (do
      let ov ← eval o env
      standAt apos.atName
      let (f, first) ← holding [ov] (getMethod ov name pl)
      callWith pos f first (backTo pos (starEach args env)) []) := by rfl) :
    wpS (model prog w) A (eval (.Call (.Attribute o name apos) args [] pos) env) Q E s := by
  rw [he]
  refine wpS_bindAny (wpAny_mono h (fun ov s₁ h₁ => wpS_bindAny (wpAny_standAt (wpS_bindAny (wpAny_holding (wpAny_mono h₁ (fun fx s₂ h₂ => ?_) fun _ _ x => x))))) fun _ _ x => x)
  exact h₂
theorem wpS_NameCall {func : PySem.Expr} {args : List PySem.Expr} {pos : Pos} {Q : Value → Shared → Prop}
    (h : wpAny (model prog w) A (eval func env) (fun f s₁ => wpS (model prog w) A (callWith pos f [] (backTo pos (starEach args env)) []) Q E s₁) E s)
    (he : eval (.Call func args [] pos) env = (do callWith pos (← eval func env) [] (backTo pos (starEach args env)) (backToKw pos (keywordEach [] env))) := by rfl) :
    wpS (model prog w) A (eval (.Call func args [] pos) env) Q E s := by
  rw [he]; exact wpS_bindAny h
theorem wpS_callWith_of {pos : Pos} {f : Value} {first : List Value} {Q : Value → Shared → Prop} {P : Heap → Prop} {args : List (Bool × Sem Value)} (hplain : args.any (·.1) = false)
    (hk : ∀ h, P h → ∃ k, (k = Keeper.frame ∨ k = Keeper.machine ∨ k = Keeper.boundFrame) ∧ Looks (model prog w) h (keeperOf f) k)
    (h : wpAny (model prog w) A (evalArgs f true args []) (fun a s₁ => P s₁.heap ∧ wpS (model prog w) A (call f (first ++ a.pos) a.kw) Q E s₁) E s) : wpS (model prog w) A (callWith pos f first args []) Q E s := by
  unfold callWith
  refine wpS_bindAny (wpAny_holding (wpAny_mono h (fun a s₁ h₁ => wpS_bindAny (wpAny_standAt ?_)) fun _ _ x => x))
  obtain ⟨k, hk', L⟩ := hk _ h₁.1
  have hp : (args.any (·.1) || (([] : List (Option Str × Sem Value)).any (·.1.isNone))) = false := by rw [hplain]; rfl
  simp only [hp]
  refine wpS_bindAny (L.here ?_)
  have tail : ∀ {t : Sem Value}, wpS (model prog w) A t Q E s₁ → wpS (model prog w) A (t >>= fun r => holding [r] point >>= fun _ => pure r) Q E s₁ :=
    fun ht => wpS_bind (wpS_mono ht (fun r s₂ hr => wpS_bindAny (wpAny_holding (wpAny_point (wpS_pure hr)))) fun _ _ x => x)
  have marked (mk : Value) : wpS (model prog w) A (callMarked mk f (first ++ a.pos) a.kw) Q E s₁ := by unfold callMarked; exact wpS_keep h₁.2
  rcases hk' with rfl | rfl | rfl <;> dsimp only <;> first | exact tail h₁.2 | (split <;> first | exact tail h₁.2 | exact tail (marked _))
theorem wpS_callWith_K {K : Frag} {h₀ : Heap} {pos : Pos} {f : Value} {first : List Value} {e : PySem.Expr} {rest : List PySem.Expr} {Q : Value → Shared → Prop} (_X : K.In h₀) (hk : keepIn K f = true)
    (h : wpAny (model prog w) A (spliced (backTo pos (starEach (e :: rest) env))) (fun vs s₁ => K.In s₁.heap ∧ wpS (model prog w) A (call f (first ++ vs)) Q E s₁) E s)
    (he : starEach (e :: rest) env = (false, eval e env) :: starEach rest env := by rfl) (hplain : (backTo pos (starEach rest env)).any (·.1) = false := by rfl) :
    wpS (model prog w) A (callWith pos f first (backTo pos (starEach (e :: rest) env)) []) Q E s := by
  rw [he] at h ⊢
  exact wpS_callWith_of (by show (false || (backTo pos (starEach rest env)).any (·.1)) = false; rw [hplain]; rfl) (keeps_K hk) (Calls.evalArgs_plain h)
theorem wpS_callWith_K0 {K : Frag} {pos : Pos} {f : Value} {first : List Value} {Q : Value → Shared → Prop} (X : K.In s.heap) (hk : keepIn K f = true) (h : wpS (model prog w) A (call f (first ++ [])) Q E s) :
    wpS (model prog w) A (callWith pos f first (backTo pos (starEach [] env)) []) Q E s :=
  wpS_callWith_of rfl (keeps_K hk) (evalArgs_nil3 ⟨X, h⟩)
theorem keeps_type {T : String} (h : Heap) (_ : True) : ∃ k, (k = Keeper.frame ∨ k = Keeper.machine ∨ k = Keeper.boundFrame) ∧ Looks (model prog w) h (keeperOf (.type T)) k :=
  ⟨.machine, .inr (.inl rfl), Looks.of_pure rfl⟩
theorem wpS_callWith_type {T : String} {pos : Pos} {e : PySem.Expr} {Q : Value → Shared → Prop}
    (h : wpAny (model prog w) A (eval e env) (fun v s₁ => wpS (model prog w) A (call (.type T) [v]) Q E s₁) E s)
    (he : starEach [e] env = [(false, eval e env)] := by rfl) :
    wpS (model prog w) A (callWith pos (.type T) [] (backTo pos (starEach [e] env)) []) Q E s := by
  rw [he]
  refine wpS_callWith_of (P := fun _ => True) rfl keeps_type (Calls.evalArgs_plain ?_)
  exact Calls.spliced_cons (wpAny_mono h (fun v s₁ h₁ => Calls.spliced_nil ⟨trivial, h₁⟩) fun _ _ x => x)

theorem codeS_func {R : Result → Shared → Prop} {body : List Stmt}
    (h : wpS (model prog w) (A.deeper env) (execs body env) (fun f s' => R (.ok (.ret (match f with | .ret v => v | _ => .none))) s')
      (fun e s' => wpAny (model prog w) (A.deeper env) (leaving env e) (fun _ s'' => R (.error e) s'') (fun e' s'' => R (.error e') s'') s') s) :
    codeS (model prog w) A (.func body env) R s := by
  refine codeS_of_tree rfl ?_
  show wpS _ (A.deeper env) (do point; match ← (execs body env).onRaise (leaving env) with | .ret v => ret v | _ => ret .none) _ _ s
  refine wpS_bindAny (wpAny_point (wpS_bind (wpS_onRaise (wpS_mono h (fun f s' h' => ?_) fun _ _ h' => h'))))
  cases f <;> exact wpS_pure h'
theorem codeS_call_function {R : Result → Shared → Prop} {a : Addr} {args : Args} {o : Obj} {fd : FuncData} {body : List Stmt} (hroom : A.depth < recursionLimit)
    (ho : s.heap.get? a = some o)
    (hd' : o.data = .func fd) (hco : fd.scope.isCoroutine = false) (hgen : fd.scope.isGenerator = false) (hbody : fd.body = .stmts body) (hcd : s.heap.CodeRec fd.code fd.qualname)
    (h : wpAny (model prog w) A.in1 (bindArgs fd args) (fun binds s₁ =>
      wpAny (model prog w) A.in1 (newFunctionEnv fd.scope fd.globals fd.closure binds (fd.qualname ++ ".<locals>.") (some a) fd.code none fd.builtins)
        (fun env s₂ => s₂.heap.NoLimit ∧ codeS (model prog w) A (.func body env) R s₂) (fun e s' => R (.error e) s') s₁) (fun e s' => R (.error e) s') s) :
    codeS (model prog w) A (.call (.ref a) args) R s := by
  refine codeS_of_tree rfl (wpS_any ?_)
  show wpAny _ A.in1 (callAny (.ref a) args) _ _ s
  simp only [callAny]
  refine wpAny_bind (wpAny_load ho ?_)
  obtain ⟨c, oc, vs, tq, hc, hoc, hdc, hq⟩ := hcd
  simp only [hd', callFunction, hco, hgen, hbody, hc]
  rw [hc] at h
  refine wpAny_bind (m := field (.ref c) 1) (wpAny_field hoc hdc hq (wpAny_bind (wpAny_pure ?_)))
  exact wpAny_bind (wpAny_mono h (fun binds s₁ h₁ => wpAny_bind (wpAny_mono h₁ (fun env s₂ h₂ => wpAny_bind (wpAny_enterFrame h₂.1 hroom
    (wpAny_pure (And.intro rfl h₂.2)))) fun _ _ h' => h')) fun _ _ h' => h')
theorem codeS_call_def {R : Result → Shared → Prop} {a : Addr} {o : Obj} {fd : FuncData} {body : List Stmt} {args : Args} {binds : List (Str × Value)}
    (hroom : A.depth < recursionLimit) (ho : s.heap.get? a = some o) (hdata : o.data = .func fd) (hlim : s.heap.NoLimit) (hcd : s.heap.CodeRec fd.code fd.qualname)
    (hbody : fd.body = .stmts body) (hbind : BindsTo s fd args binds)
    (hcell : ∀ x ∈ fd.scope.names, x.2 ≠ .cell) (hloc : ∀ x ∈ binds, fd.scope.names.lookup x.1 = some .local)
    (h : ∀ h₀, h₀.Ns s.heap.objs.size (fun x => binds.reverse.lookup x) → (∀ b o, s.heap.get? b = some o → h₀.get? b = some o) →
      wpS (model prog w) (A.deeper (callEnv fd s.heap.objs.size a)) (execs body (callEnv fd s.heap.objs.size a)) (fun f s' => R (.ok (.ret (match f with | .ret v => v | _ => .none))) s')
        (fun e s' => wpAny (model prog w) (A.deeper (callEnv fd s.heap.objs.size a)) (leaving (callEnv fd s.heap.objs.size a) e) (fun _ s'' => R (.error e) s'') (fun e' s'' => R (.error e') s'') s')
        { s with heap := h₀, toks := s.toks + binds.length })
    (hco : fd.scope.isCoroutine = false := by rfl) (hgen : fd.scope.isGenerator = false := by rfl) (hk : fd.scope.kind = .function := by rfl) :
    codeS (model prog w) A (.call (.ref a) args) R s := by
  refine codeS_call_function hroom ho hdata hco hgen hbody hcd (hbind _ _ _ _ ?_)
  refine wpAny_newFunctionEnv hcell hloc (fun h₀ hns₀ hsb₀ => ⟨hlim.fresh _ hsb₀, codeS_func (h h₀ hns₀ fun b o e => ?_)⟩) hk
  exact hsb₀.extBut b o (Nat.ne_of_lt (Heap.lt_size e)) (Heap.get?_push_of_some _ e)
end scall
section scall2
variable {prog : Program} {w : World} {A A₀ : Around} {s : Shared} {K : Frag} {L : Addr} {h₀ base : Heap} {m mg mb : Str → Option Value} {news : List (Addr × Obj)} {p : Program} {loose : List Str} {mean : ExcName → Option Value}
theorem codeS_def {env : Env} {outer : List Env} {R : Result → Shared → Prop} {name qual : Str} {params : Arguments} {body : List Stmt} {scope : Scope} {dV kV doc pm cdv ct oc : Value} {an od : Option Addr} {osl : Array (Option Value)} {f : Addr} {args : Args} {binds : List (Str × Value)}
    (B : Below A₀ base outer h₀) (F : Fr h₀ L s.heap m) (X₀ : K.In h₀) (N : News h₀ L s.heap news) (T : Top p loose mean mg mb h₀) (hA : A.frames = some (env :: outer)) (hf : env.frame = some L) (hke : env.scope.kind = .function)
    (ho : K.lookup f = some ⟨oc, od, .func (fnOf name qual params body scope dV kV doc pm an cdv ct), osl⟩) (hcd : codeIn K cdv qual = true) (hroom : A.depth < recursionLimit)
    (hbind : BindsTo s (fnOf name qual params body scope dV kV doc pm an cdv ct) args binds) (hloc : ∀ y ∈ binds, scope.names.lookup y.1 = some .local)
    (h : ∀ g L' h₁, Fr h₀ L g m → Fr g L' h₁ (fun y => binds.reverse.lookup y) → News g L' h₁ news → Below A base (env :: outer) g → K.In g → Top p loose mean mg mb g →
      wpS (model prog w) (A.deeper (envOf qual scope L' f cdv)) (execs body (envOf qual scope L' f cdv))
        (fun fl s' => LeaveK h₀ L m g R (match fl with | .ret v => v | _ => .none) s')
        (fun e s' => wpAny (model prog w) (A.deeper (envOf qual scope L' f cdv)) (leaving (envOf qual scope L' f cdv) e) (fun _ s'' => R (.error e) s'') (fun e' s'' => R (.error e') s'') s')
        { s with heap := h₁, toks := s.toks + binds.length })
    (hco : scope.isCoroutine = false) (hgen : scope.isGenerator = false) (hk : scope.kind = .function)
    (hcell : ∀ x ∈ scope.names, x.2 ≠ .cell) : codeS (model prog w) A (.call (.ref f) args) R s := by
  obtain ⟨FG, BG, st, lv⟩ := groundX (R := R) B F N hA hf hke
  refine codeS_call_def (fd := fnX name qual params body scope [] dV kV doc pm an cdv ct) (body := body) (binds := binds) hroom ((X₀.keeps F.keep) _ _ ho) rfl (T.nolimit.keeps F.keep) (codeRec_of (X₀.keeps F.keep) hcd) rfl hbind hcell hloc (fun h₁ hns hk₁ => ?_) hco hgen hk
  exact wpS_mono (h _ s.heap.objs.size h₁ FG ⟨hns, fun b o e => hk₁ b o (of_hideAll _ e), Nat.le_of_eq (hideAll_size _ _)⟩
    (fun p hp => ⟨hk₁ _ _ (N p hp).1, Nat.ne_of_lt (Heap.lt_size (N p hp).1), hideAll_none _ (List.mem_map_of_mem hp)⟩) BG (X₀.keeps st) (T.keeps st)) (fun fl s' hl => lv _ _ hl) fun _ _ y => y
end scall2
def SpS (w : World) (D U : Nat) (f : Addr) (vs : List Value) (foot : Led) (post : Value → Led → Prop) : Prop :=
  ∀ (mean : ExcName → Option Value) (mg mb : Str → Option Value) (dp un : Nat) (gd : Option (List Code)) (cn : Str) (cs : Scope) (a : Addr) (ccd : Value) (cl : List (Str × Addr)) (outer : List Env) (A₀ : Around) (base h₀ : Heap) (L : Addr) (m : Str → Option Value) (s : Shared) (Q E : Value → Shared → Prop) (rest : Led),
   Below A₀ base outer h₀ → Fr h₀ L s.heap m → (hd.heap_1 w.params).In h₀ → News h₀ L s.heap (foot ++ rest) → OwnOff rest (foot.map (·.1)) →
   Top hd.view_39 (looseW hd.view_39 [Str.ofString "GateError", Str.ofString "HashMap"]) mean mg mb h₀ → cs.kind = .function → dp + D < recursionLimit → un + U < cLine →
   (∀ v foot' h' tk', post v foot' → OwnOff rest (foot'.map (·.1)) → Fr h₀ L h' m → News h₀ L h' (foot' ++ rest) → Q v { s with heap := h', toks := tk' }) →
   wpS (model PySem.Challenge.rw_qz0154_01.row.prog w) (ktrTop dp un gd cn cs L a ccd cl outer) (call (.ref f) vs) Q E s
section
variable {w : World} {D U : Nat} {f : Addr} {vs : List Value} {led : Led} {post : Value → Led → Prop} {name qual : Str} {params : Arguments} {body : List Stmt} {scope : Scope} {dV kV doc pm cdv ct oc : Value} {an od : Option Addr} {osl : Array (Option Value)} {binds : List (Str × Value)}
theorem sps_enter
    (ho : (hd.heap_1 w.params).lookup f = some ⟨oc, od, .func (fnOf name qual params body scope dV kV doc pm an cdv ct), osl⟩) (hcd : codeIn (hd.heap_1 w.params) cdv qual = true)
    (hbind : ∀ s : Shared, (hd.heap_1 w.params).In s.heap → BindsTo s (fnOf name qual params body scope dV kV doc pm an cdv ct) ⟨vs, []⟩ binds) (hloc : ∀ y ∈ binds, scope.names.lookup y.1 = some .local)
    (hco : scope.isCoroutine = false) (hgen : scope.isGenerator = false) (hk : scope.kind = .function) (hcell : ∀ x ∈ scope.names, x.2 ≠ .cell)
    (H : ∀ (mean : ExcName → Option Value) (mg mb : Str → Option Value) (dp un : Nat) (gd : Option (List Code)) (outer : List Env) (A₀ : Around) (base h₀ : Heap) (L : Addr) (hS : Heap) (gS : Array GenState) (dS : Drawn) (kS : Nat) (oS : OsState) (Q : Flow → Shared → Prop) (E : Value → Shared → Prop) (rest : Led),
      Below A₀ base outer h₀ → Fr h₀ L hS (fun y => binds.reverse.lookup y) → (hd.heap_1 w.params).In h₀ → News h₀ L hS (led ++ rest) → OwnOff rest (led.map (·.1)) →
      Top hd.view_39 (looseW hd.view_39 [Str.ofString "GateError", Str.ofString "HashMap"]) mean mg mb h₀ → dp + D < recursionLimit → un + U < cLine → NextRet Q → Leaves h₀ L post rest gS dS oS Q → PassesOwn (model PySem.Challenge.rw_qz0154_01.row.prog w) (ktrTop dp un gd qual scope L f cdv [] outer) (envX qual scope L f cdv []) E →
      wpS (model PySem.Challenge.rw_qz0154_01.row.prog w) (ktrTop dp un gd qual scope L f cdv [] outer) (execs body (envX qual scope L f cdv [])) Q E ⟨hS, gS, dS, kS, oS⟩) :
    SpS w (D + 1) (U + 3) f vs led post := by
  intro mean mg mb dp un gd cn cs a ccd cl outer A₀ base h₀ L m s Q E rest B F X N OR T hks hd hu hret
  refine wpS_call (codeS_def B F X N T rfl rfl hks ho hcd (Nat.lt_of_le_of_lt (Nat.le_add_right _ _) hd) (hbind _ (X.keeps F.keep)) hloc (fun g L' h₁ FG F' N' B' X' T' => ?_) hco hgen hk hcell)
  exact H mean mg mb (dp + 1) (un + 3) gd (envX cn cs L a ccd cl :: outer) _ base g L' h₁ s.gens s.drawn (s.toks + binds.length) s.os _ _ rest B' F' X' N' OR T' (omN18 hd) (omN18 hu) (fun _ h => h)
    (fun v foot' h' tk' m' hp ho F2 N2 => leaveK_ F2 N2 fun kF kN => hret v foot' _ _ hp ho kF kN) (by passes_own)
end
end
theorem kw_5 : True := by
  (k_with "M mine enterS" => (refine' codeS_def ?q_k1 ?q_k2 ?q_k3 ?q_k4 ?q_k5 ?q_kA ?q_kF ?q_kK ?q_k6 ?q_k7 ?q_k8 ?q_k9 ?q_kB ?_ ?q_c2 ?q_c3 ?q_c4 ?q_c5; (case q_kA => exact rfl); (case q_kF => exact rfl); (case q_kK => first | assumption | exact rfl); (case q_k1 => k_asm); (case q_k2 => k_asm); (case q_k3 => k_asm); (case q_k4 => k_asm); (case q_k5 => k_asm); (case q_k6 => k_is); (case q_k7 => k_is); (case q_k8 => ktr_room); (case q_k9 => first | exact BindsTo.of_eq rfl | exact binds_K (by k_in) rfl (by k_is) rfl rfl rfl); (case q_c5 => decide); (case q_kB => exact locs rfl); (case q_c2 => exact rfl); (case q_c3 => exact rfl); (case q_c4 => exact rfl); k_whole; intro _ _ _ _ _ _ B9 _ _; (try dsimp only); (try k_lift B9); (try k_fold)))
  (k_with "M mine sps" => (k_dflt (refine' sps_enter ?q_6 ?q_7 ?q_9 ?q_B ?q_c2 ?q_c3 ?q_c4 ?q_c5 ?_; (case q_6 => k_is); (case q_7 => k_is); (case q_9 => first | exact bt_zip rfl | exact fun s X => binds_K X rfl (by k_is) rfl rfl rfl); (case q_c5 => decide); (case q_B => exact locs rfl); (case q_c2 => exact rfl); (case q_c3 => exact rfl); (case q_c4 => exact rfl))))
  trivial
section
section ba
theorem ba_mro : mroOf (.type "bytearray") = pure [.type "bytearray", .type "object"] := by rw [mroOf_type]; kernel_rfl
theorem ba_lookup_new : typeLookup (.type "bytearray") "__new__" = pure (some (.builtin "bytearray.__new__")) := by rw [typeLookup_type, builtinLookup_eq_fast]; kernel_rfl
theorem ba_slot_init : Slot "bytearray" "__init__" "bytearray.__init__" :=
  .of (owner := "bytearray") (n := "__init__") (by rw [typeLookup_type, builtinLookup_eq_fast]; kernel_rfl) (by decide +kernel) (by decide +kernel) (by decide +kernel)
    (by first | exact .inl (by decide +kernel) | exact .inr (by decide +kernel)) (by rw [isSubtype_type]; kernel_rfl)
theorem ba_called : TypeCalled "bytearray" "bytearray.__new__" "bytearray.__init__" :=
  ⟨by decide +kernel, by decide +kernel, ⟨_, _, ba_mro⟩, madeBy_type ba_mro ba_lookup_new (by decide +kernel), by decide +kernel, by rw [isSubtype_type]; kernel_rfl, ba_slot_init⟩
theorem ba_typeCall (a : Value) : checkTypeCall "bytearray" ⟨[a], []⟩ = pure () := by kernel_rfl
theorem ba_newCall (a : Value) : checkBuiltinCall "bytearray.__new__" ⟨[.type "bytearray", a], []⟩ = pure () := by kernel_rfl
theorem ba_entry_new : entryFor table "bytearray.__new__" = some Builtin.«list.__new__» := entryFor_alias (id' := "list.__new__") (by kernel_rfl) (by first | rfl | decide +kernel) (by decide +kernel) (by kernel_rfl)
theorem ba_entry_init : entryFor table "bytearray.__init__" = some Builtin.«bytearray.__init__» := by first | exact entryFor_of_fast (by kernel_rfl) | exact entryFor_of_tree (by kernel_rfl)
theorem ba_plain_new : plainId "bytearray.__new__" = true := by decide +kernel
theorem ba_sub : isSubtype (.type "bytearray") (.type "bytearray") = pure true := by rw [isSubtype_type]; kernel_rfl
set_option maxRecDepth 1000000 in
theorem ba_owner : ("bytearray.__new__".splitOn ".__new__").headD "" = "bytearray" := by simp +decide [String.splitOn, String.splitOnAux]
theorem ba_args (o a : Value) : argsOk "bytearray.__init__" ⟨[o, a], []⟩ := by unfold argsOk; kernel_rfl
theorem ba_bind (v : Value) : Builtin.Bytes.bindOptional "bytearray.__init__" "bytearray" ["source", "encoding", "errors"] [v] [] = pure [some v, none, none] := by kernel_rfl
theorem ba_release : typeLookup (.type "bytearray") "__release_buffer__" = pure (some (.builtin "bytearray.__release_buffer__")) := by rw [typeLookup_type, builtinLookup_eq_fast]; kernel_rfl
theorem ba_buffer : typeLookup (.type "bytearray") "__buffer__" = pure (some (.builtin "bytearray.__buffer__")) := by rw [typeLookup_type, builtinLookup_eq_fast]; kernel_rfl
theorem ba_index : typeLookup (.type "bytearray") "__index__" = pure none := by rw [typeLookup_type, builtinLookup_eq_fast]; kernel_rfl
theorem ba_bytes : typeLookup (.type "bytearray") "__bytes__" = pure none := by rw [typeLookup_type, builtinLookup_eq_fast]; kernel_rfl
theorem by_index : typeLookup (.type "bytes") "__index__" = pure none := by rw [typeLookup_type, builtinLookup_eq_fast]; kernel_rfl
theorem by_buffer : typeLookup (.type "bytes") "__buffer__" = pure (some (.builtin "bytes.__buffer__")) := by rw [typeLookup_type, builtinLookup_eq_fast]; kernel_rfl
theorem by_release : typeLookup (.type "bytes") "__release_buffer__" = pure none := by rw [typeLookup_type, builtinLookup_eq_fast]; kernel_rfl
theorem by_bytes : typeLookup (.type "bytes") "__bytes__" = pure (some (.builtin "bytes.__bytes__")) := by rw [typeLookup_type, builtinLookup_eq_fast]; kernel_rfl
section
variable {prog : Program} {w : World} {A : Around} {E : Value → Shared → Prop} {s : Shared}
theorem ba_new (a : Value) {Q₁ : Value → Shared → Prop} (h : Q₁ (.ref s.heap.objs.size) { s with heap := s.heap.push { cls := .type "bytearray", data := .bytearray #[] } }) :
    codeAny (model prog w) A (.call (.builtin "bytearray.__new__") ⟨[.type "bytearray", a], []⟩) (wants Q₁ E) s := by
  refine codeAny_of_tree ?_
  show wpAny _ A.in1 (do checkBuiltinCall "bytearray.__new__" ⟨[.type "bytearray", a], []⟩; again (.builtin "bytearray.__new__" ⟨[.type "bytearray", a], []⟩)) _ _ s
  refine wpAny_bind (wpAny_of_eq (ba_newCall a) (wpAny_pure ⟨plainId_quiet ba_plain_new _, codeAny_builtin_stack ba_entry_new rfl fun p st => ?_⟩))
  rw [Around.under_plainId ba_plain_new _]
  have hsub := ba_sub
  have hown := ba_owner
  obtain ⟨hp, g, d, tk, os⟩ := s
  simp only [hown]
  wp_walk
  exact h
end
end ba
end
section
section bas
variable {prog : Program} {w : World} {A : Around} {E : Value → Shared → Prop} {s : Shared}
theorem codeS_builtin {R : Result → Shared → Prop} {id : String} {args : Args} {b : Builtin} (hb : entryFor table id = some b) (hd : dec (.builtin id args) = false)
    (h : wpS (model prog w) (A.under (.builtin id args)) (b args)
      (fun fin s' => match fin with | .done f => R (.ok f) s' | .again c' => c'.quiet = true ∧ codeS (model prog w) A c' R s') (fun e s' => R (.error e) s') s) :
    codeS (model prog w) A (.builtin id args) R s := by
  refine codeS_of_tree hd ?_
  show wpS _ _ (match entryFor table id with | some b => b args | none => unsupported ((withoutEnding? id "#data").getD id)) _ _ s
  rw [hb]; exact h
theorem codeS_call_builtin {R : Result → Shared → Prop} {id : String} {args : Args} {b : Builtin} (hq : plainId id = true) (hb : entryFor table id = some b) (hd : dec (.builtin id args) = false)
    (h : wpAny (model prog w) A.in1 (checkBuiltinCall id args) (fun _ s₁ => wpS (model prog w) A.in1 (b args)
      (fun fin s' => match fin with | .done f => R (.ok f) s' | .again c' => c'.quiet = true ∧ codeS (model prog w) A c' R s') (fun e s' => R (.error e) s') s₁)
      (fun e s' => R (.error e) s') s) : codeS (model prog w) A (.call (.builtin id) args) R s := by
  refine codeS_of_tree rfl ?_
  show wpS _ A.in1 (do checkBuiltinCall id args; again (.builtin id args)) _ _ s
  refine wpS_bindAny (wpAny_mono h (fun _ s₁ h₁ => wpS_pure ⟨plainId_quiet hq args, codeS_builtin hb hd ?_⟩) fun _ _ x => x)
  rw [Around.under_plainId hq args]
  exact h₁
theorem ba_call {v : Value} {Q : Value → Shared → Prop}
    (hinit : wpS (model prog w) A.in1.in1 (Builtin.«bytearray.__init__» ⟨[.ref s.heap.objs.size, v], []⟩) (fun fin s' => fin = .done (.ret .none) ∧ Q (.ref s.heap.objs.size) s') E
      { s with heap := s.heap.push { cls := .type "bytearray", data := .bytearray #[] } }) :
    wpS (model prog w) A (call (.type "bytearray") [v]) Q E s := by
  obtain ⟨c, tl, hmro⟩ := ba_called.mro
  have hmade := ba_called.made
  have hsub := ba_called.sub
  have h1 := ba_called.notType
  have h2 := ba_called.canCreate
  have hct := ba_typeCall v
  refine wpS_call (codeS_of_tree rfl ?_)
  show wpS _ _ (callAny (.type "bytearray") _) _ _ _
  refine wpS_pure ⟨Code.quiet_builtin _ (by decide +kernel), codeS_builtin F.entry_type_call (by show decIds.contains "type.__call__" = false; decide +kernel) ?_⟩
  rw [Around.under_plain (weight_type_call_type "bytearray" [v] []) rfl]
  unfold Builtin.«type.__call__»
  simp only [h1, h2, hct, hmro, hmade, pure_bind, Bool.false_eq_true, if_false, List.isEmpty_cons]
  refine wpS_bindAny (wpAny_holding (wpAny_call (ba_new v ?_)))
  have hT : ({ s with heap := s.heap.push { cls := .type "bytearray", data := .bytearray #[] } } : Shared).TypeIs (.ref s.heap.objs.size) "bytearray" := ⟨_, Heap.get?_push_size _ rfl, rfl⟩
  refine wpS_bindAny (wpAny_isInstance hT ba_sub ?_)
  simp only [Bool.not_true, Bool.false_eq_true, if_false]
  refine wpS_bind (wpS_holding ?_)
  unfold callSpecial?
  refine wpS_bindAny (wpAny_specialOf hT ba_slot_init.lookup ?_)
  dsimp only
  refine wpS_holding ?_
  rw [ba_slot_init.bind, pure_bind]
  refine wpS_bind (wpS_call (codeS_call_builtin ba_slot_init.plain ba_entry_init (by show decIds.contains "bytearray.__init__" = false; decide +kernel) (ba_slot_init.check _ _ _ _ _ _ _ _ hT (ba_args _ _) ?_)))
  refine wpS_mono hinit (fun fin s' h' => ?_) fun _ _ x => x
  obtain ⟨rfl, hq⟩ := h'
  exact wpS_pure (wpS_pure hq)
end bas
end
section
section bainit
variable {prog : Program} {w : World} {A : Around} {E : Value → Shared → Prop} {s : Shared}
theorem wpS_exported {self : Value} {Q : Bool → Shared → Prop} (h : Q false s) : wpS (model prog w) A (Builtin.Bytes.exported self) Q E s := by
  intro Γ p hΓ h1 h2
  delta Builtin.Bytes.exported
  rw [Sem.wp_bind']
  show Sem.wp _ Γ stack _ _ p s
  unfold stack
  rw [Sem.wp_stack]
  rw [Sem.wp_pure, Sem.wp_pure']
  have key : ∀ f : Code × Pos → Bool, (∀ c, dec c.1 = false → f c = false) → Q (List.any ((Γ.code, p) :: Γ.below) f) s := fun f hf => by
    have : List.any ((Γ.code, p) :: Γ.below) f = false := List.any_eq_false.mpr (fun c hc => by
      rw [hf c (by rcases List.mem_cons.mp hc with rfl | hc; exact h1; exact h2 c hc)]; exact Bool.false_ne_true)
    rw [this]; exact h
  refine key _ ?_
  rintro ⟨code, q⟩ hc
  cases code with
  | builtin id args =>
    have nl : ∀ l, decIds.contains l = true → ¬ id = l := fun l hl e => Bool.false_ne_true ((show decIds.contains id = false from hc).symm.trans (e ▸ hl))
    delta Builtin.Bytes.exported.match_1
    refine (dif_neg (nl _ (by decide +kernel))).trans ((dif_neg (nl _ (by decide +kernel))).trans ((dif_neg (nl _ (by decide +kernel))).trans ((dif_neg (nl _ (by decide +kernel))).trans ((dif_neg (nl _ (by decide +kernel))).trans ?_))))
    obtain ⟨pos, kw⟩ := args
    cases pos with
    | nil => rfl
    | cons v t =>
      have : Builtin.Bytes.decodersThatHold.contains id = false := by
        have hc' : decIds.contains id = false := hc
        unfold decIds at hc'
        rw [List.contains_eq_any_beq, List.any_append, Bool.or_eq_false_iff] at hc'
        rw [List.contains_eq_any_beq]
        exact hc'.2
      show (Builtin.Bytes.sameRef v self && Builtin.Bytes.decodersThatHold.contains id) = false
      rw [this, Bool.and_false]
  | _ => rfl
theorem ba_ownRelease {v : Value} {Q : Bool → Shared → Prop} (hT : s.TypeIs v "bytearray") (h : Q false s) : wpAny (model prog w) A (Builtin.Bytes.ownRelease v) Q E s := by
  unfold Builtin.Bytes.ownRelease Builtin.Bytes.slotIsOwn
  refine wpAny_bind (wpAny_bind (wpAny_specialOf hT ba_release ?_))
  dsimp only
  rw [show ("bytearray.__release_buffer__".endsWith ("." ++ "__release_buffer__")) = true from by decide +kernel]
  simp only [Bool.not_true, Bool.false_eq_true, if_false]
  rw [show ("bytearray.__release_buffer__".dropRight ("__release_buffer__".length + 1)) = "bytearray" from by decide +kernel]
  exact wpAny_isInstance hT ba_sub (wpAny_pure h)
theorem by_ownRelease {v : Value} {Q : Bool → Shared → Prop} (hT : s.TypeIs v "bytes") (h : Q false s) : wpAny (model prog w) A (Builtin.Bytes.ownRelease v) Q E s := by
  unfold Builtin.Bytes.ownRelease Builtin.Bytes.slotIsOwn
  refine wpAny_bind (wpAny_bind (wpAny_specialOf hT by_release ?_))
  exact wpAny_pure (wpAny_pure h)
theorem ba_buf {id : String} {a : Addr} {b : Array UInt8} {n : Nat} {full : Bool} {Q : Option (Array UInt8) → Shared → Prop} (ho : s.heap.get? a = some { cls := .type "bytearray", data := .bytearray b n }) (h : Q (some b) s) :
    wpAny (model prog w) A (Builtin.Bytes.buffer? id (.ref a) full) Q E s := by
  have hT : s.TypeIs (.ref a) "bytearray" := ⟨_, ho, rfl⟩
  unfold Builtin.Bytes.buffer?
  refine wpAny_bind (wpAny_specialOf hT ba_buffer ?_)
  dsimp only
  unfold Builtin.Bytes.slotIsOwn
  refine wpAny_bind (wpAny_bind (wpAny_specialOf hT ba_buffer ?_))
  dsimp only
  rw [show ("bytearray.__buffer__".endsWith ("." ++ "__buffer__")) = true from by decide +kernel]
  simp only [Bool.not_true, Bool.false_eq_true, if_false]
  rw [show ("bytearray.__buffer__".dropRight ("__buffer__".length + 1)) = "bytearray" from by decide +kernel]
  refine wpAny_isInstance hT ba_sub ?_
  simp only [Bool.not_true, Bool.false_eq_true, if_false]
  refine wpAny_bind (wpAny_specialOf hT ba_buffer ?_)
  (try dsimp only)
  refine wpAny_bind (ba_ownRelease hT ?_)
  simp only [Bool.false_eq_true, if_false]
  unfold Builtin.Bytes.payload Builtin.Bytes.payload?
  refine wpAny_bind (wpAny_bind (wpAny_bind (wpAny_load ho (wpAny_pure ?_))))
  exact wpAny_pure (wpAny_pure h)
theorem by_sub : isSubtype (.type "bytes") (.type "bytes") = pure true := by rw [isSubtype_type]; kernel_rfl
theorem by_buf {id : String} {b : Array UInt8} {t : Tok} {full : Bool} {Q : Option (Array UInt8) → Shared → Prop} (h : Q (some b) s) :
    wpAny (model prog w) A (Builtin.Bytes.buffer? id (.bytes b t) full) Q E s := by
  have hT : s.TypeIs (.bytes b t) "bytes" := PySem.W.typeIs_bytes _ _ _
  unfold Builtin.Bytes.buffer?
  refine wpAny_bind (wpAny_specialOf hT by_buffer ?_)
  dsimp only
  unfold Builtin.Bytes.slotIsOwn
  refine wpAny_bind (wpAny_bind (wpAny_specialOf hT by_buffer ?_))
  dsimp only
  rw [show ("bytes.__buffer__".endsWith ("." ++ "__buffer__")) = true from by decide +kernel]
  simp only [Bool.not_true, Bool.false_eq_true, if_false]
  rw [show ("bytes.__buffer__".dropRight ("__buffer__".length + 1)) = "bytes" from by decide +kernel]
  refine wpAny_isInstance hT by_sub ?_
  simp only [Bool.not_true, Bool.false_eq_true, if_false]
  refine wpAny_bind (wpAny_specialOf hT by_buffer ?_)
  (try dsimp only)
  refine wpAny_bind (by_ownRelease hT ?_)
  simp only [Bool.false_eq_true, if_false]
  unfold Builtin.Bytes.payload Builtin.Bytes.payload?
  exact wpAny_bind (wpAny_bind (wpAny_pure (wpAny_pure (wpAny_pure h))))
theorem ba_write {a : Addr} {b : Array UInt8} {n : Nat} {f : Array UInt8 → Array UInt8} {Q : Unit → Shared → Prop} (ho : s.heap.get? a = some { cls := .type "bytearray", data := .bytearray b n }) (hz : (f b).size ≤ 1000)
    (h : ∀ h', Heap.SameBut a s.heap h' → h'.get? a = some { cls := .type "bytearray", data := .bytearray (f b) n } → Q () { s with heap := h' }) : wpAny (model prog w) A (Builtin.Bytes.write (.ref a) f) Q E s := by
  unfold Builtin.Bytes.write updateBytearray
  refine wpAny_bind (wpAny_load ho ?_)
  have hg : (s.heap.update a (Obj.mapBytearray f)).get? a = some { cls := .type "bytearray", data := .bytearray (f b) n } := Heap.get?_update_self _ ho rfl
  refine wpAny_bind (wpAny_update ho (wpAny_lookBehind hg ?_ (h _ (Heap.SameBut.update ..) hg)))
  show (if (f b).size > sizeLine then some "bytearray:memory" else none) = none
  rw [if_neg]
  rw [sizeLine_eq]; omega
theorem same_trans {a : Addr} {h h' h'' : Heap} (x : Heap.SameBut a h h') (y : Heap.SameBut a h' h'') : Heap.SameBut a h h'' := ⟨y.1.trans x.1, fun b hb => (y.2 b hb).trans (x.2 b hb)⟩
theorem ba_asStr {a : Addr} {b : Array UInt8} {n : Nat} {Q : Option Str → Shared → Prop} (ho : s.heap.get? a = some { cls := .type "bytearray", data := .bytearray b n }) (h : Q none s) : wpAny (model prog w) A (asStr? (.ref a)) Q E s := by
  unfold asStr?
  refine wpAny_bind (wpAny_load ho ?_)
  exact wpAny_pure h
theorem ba_init {a : Addr} {v : Value} {b : Array UInt8} {T : String} (hT₁ : s.TypeIs v T) (hni : typeLookup (.type T) "__index__" = pure none) (hns : ∀ (Q : Option Str → Shared → Prop) h', Heap.SameBut a s.heap h' → Q none { s with heap := h' } → wpAny (model prog w) A (asStr? v) Q E { s with heap := h' }) (ho : s.heap.get? a = some { cls := .type "bytearray", data := .bytearray #[] })
    (hbuf : ∀ (Q : Option (Array UInt8) → Shared → Prop) h', Heap.SameBut a s.heap h' → Q (some b) { s with heap := h' } → wpAny (model prog w) A (Builtin.Bytes.buffer? "bytearray.__init__" v true) Q E { s with heap := h' })
    (hty : ∀ h', Heap.SameBut a s.heap h' → ({ s with heap := h' } : Shared).TypeIs v T)
    (hz : b.size ≤ 1000) {Q : Shared → Prop} (h : ∀ h', Heap.SameBut a s.heap h' → h'.get? a = some { cls := .type "bytearray", data := .bytearray b } → Q { s with heap := h' }) :
    wpS (model prog w) A (Builtin.«bytearray.__init__» ⟨[.ref a, v], []⟩) (fun fin s' => fin = .done (.ret .none) ∧ Q s') E s := by
  have hT : s.TypeIs (.ref a) "bytearray" := ⟨_, ho, rfl⟩
  unfold Builtin.«bytearray.__init__»
  refine wpS_bindAny (ba_ownRelease hT ?_)
  rw [ba_bind, pure_bind]
  refine wpS_bindAny (wpAny_of_eq (a := ()) rfl ?_)
  refine wpS_bindAny (wpAny_of_eq (a := ()) rfl ?_)
  refine wpS_bind ?_
  unfold orM
  refine wpS_bind (wpS_exported ?_)
  show wpS _ _ (do let n ← Builtin.Bytes.exportsOf (.ref a); pure (decide (n > 0))) _ _ _
  unfold Builtin.Bytes.exportsOf
  refine wpS_bindAny (wpAny_bind (wpAny_load ho (wpAny_pure ?_)))
  refine wpS_pure ?_
  rw [if_neg (by decide)]
  refine wpS_bindAny (ba_write ho (by show (#[] : Array UInt8).size ≤ 1000; decide) fun h1 hs1 ho1 => ?_)
  refine wpS_bindAny (hns _ h1 hs1 ?_)
  refine wpS_bindAny (wpAny_of_eq (a := ()) rfl ?_)
  refine wpS_bindAny (wpAny_specialOf (hty h1 hs1) hni ?_)
  refine wpS_bindAny (hbuf _ h1 hs1 ?_)
  dsimp only
  refine wpS_bindAny (wpAny_rule ?_)
  refine wpS_bindAny (ba_write (f := fun _ => b) ho1 hz fun h2 hs2 ho2 => ?_)
  first
    | exact wpS_pure ⟨rfl, h h2 (same_trans hs1 hs2) ho2⟩
    | exact wpS_bind (wpS_pure (wpS_pure ⟨rfl, h h2 (same_trans hs1 hs2) ho2⟩))
end bainit
section banews
variable {prog : Program} {w : World} {A : Around} {E : Value → Shared → Prop} {s : Shared} {h₀ : Heap} {L : Addr} {m : Str → Option Value} {news : List (Addr × Obj)}
theorem ba_news {b : Array UInt8} {h' : Heap} (F : Fr h₀ L s.heap m) (N : News h₀ L s.heap news) (hs : Heap.SameBut s.heap.objs.size (s.heap.push { cls := .type "bytearray", data := .bytearray #[] }) h')
    (ho : h'.get? s.heap.objs.size = some { cls := .type "bytearray", data := .bytearray b }) :
    Fr h₀ L h' m ∧ News h₀ L h' ((s.heap.objs.size, ({ cls := .type "bytearray", data := .bytearray b } : Obj)) :: news) ∧ ∀ p ∈ news, p.1 < s.heap.objs.size := by
  have lt : ∀ p ∈ news, p.1 < s.heap.objs.size := fun p hp => Heap.lt_size (N p hp).1
  have N1 := N.push F { cls := .type "bytearray", data := .bytearray #[] }
  have z := N1 _ (.head _)
  refine ⟨(F.push _).change hs z.2.1 z.2.2, ?_, lt⟩
  exact news_set (pre := []) N1 (fun _ h => nomatch h) (fun p hp => Nat.ne_of_lt (lt p hp)) hs ho
theorem ba_of_bytes {b : Array UInt8} {t : Tok} {Q : Value → Shared → Prop} (F : Fr h₀ L s.heap m) (N : News h₀ L s.heap news) (hz : b.size ≤ 1000)
    (h : ∀ a h', Fr h₀ L h' m → News h₀ L h' ((a, ({ cls := .type "bytearray", data := .bytearray b } : Obj)) :: news) → (∀ p ∈ news, p.1 < a) → Q (.ref a) { s with heap := h' }) :
    wpS (model prog w) A (call (.type "bytearray") [.bytes b t]) Q E s := by
  refine ba_call (ba_init (T := "bytes") (b := b) (PySem.W.typeIs_bytes _ _ _) by_index (fun Q' h' _ hq => wpAny_pure hq) (Heap.get?_push_size _ rfl) (fun Q' h' _ hq => by_buf hq) (fun h' _ => PySem.W.typeIs_bytes _ _ _) hz fun h' hs ho => ?_)
  obtain ⟨F', N', lt⟩ := ba_news F N hs ho
  exact h _ h' F' N' lt
theorem ba_of_ba {x : Addr} {b : Array UInt8} {Q : Value → Shared → Prop} (F : Fr h₀ L s.heap m) (N : News h₀ L s.heap news) (hx : (x, ({ cls := .type "bytearray", data := .bytearray b } : Obj)) ∈ news) (hz : b.size ≤ 1000)
    (h : ∀ a h', Fr h₀ L h' m → News h₀ L h' ((a, ({ cls := .type "bytearray", data := .bytearray b } : Obj)) :: news) → (∀ p ∈ news, p.1 < a) → Q (.ref a) { s with heap := h' }) :
    wpS (model prog w) A (call (.type "bytearray") [.ref x]) Q E s := by
  have hlt : x < s.heap.objs.size := Heap.lt_size (N _ hx).1
  have keep : ∀ h', Heap.SameBut s.heap.objs.size (s.heap.push { cls := .type "bytearray", data := .bytearray #[] }) h' → h'.get? x = some { cls := .type "bytearray", data := .bytearray b } := fun h' hs =>
    (hs.2 x (Nat.ne_of_lt hlt)).trans (Heap.get?_push_of_some _ (N _ hx).1)
  have h0 : (s.heap.push { cls := .type "bytearray", data := .bytearray #[] }).get? x = some { cls := .type "bytearray", data := .bytearray b } := Heap.get?_push_of_some _ (N _ hx).1
  refine ba_call (ba_init (T := "bytearray") (b := b) (show Shared.TypeIs { s with heap := s.heap.push { cls := .type "bytearray", data := .bytearray #[] } } (.ref x) "bytearray" from ⟨_, h0, rfl⟩) ba_index (fun Q' h' hs hq => ba_asStr (keep h' hs) hq) (Heap.get?_push_size _ rfl) (fun Q' h' hs hq => ba_buf (keep h' hs) hq) (fun h' hs => ⟨_, keep h' hs, rfl⟩) hz fun h' hs ho => ?_)
  obtain ⟨F', N', lt⟩ := ba_news F N hs ho
  exact h _ h' F' N' lt
end banews
end
section
section baset
variable {prog : Program} {w : World} {A : Around} {E : Value → Shared → Prop} {s : Shared}
theorem ba_slot_set : Slot "bytearray" "__setitem__" "bytearray.__setitem__" :=
  .of (owner := "bytearray") (n := "__setitem__") (by rw [typeLookup_type, builtinLookup_eq_fast]; kernel_rfl) (by decide +kernel) (by decide +kernel) (by decide +kernel)
    (by first | exact .inl (by decide +kernel) | exact .inr (by decide +kernel)) (by rw [isSubtype_type]; kernel_rfl)
theorem ba_entry_set : entryFor table "bytearray.__setitem__" = some Builtin.«bytearray.__setitem__» := by first | exact entryFor_of_fast (by kernel_rfl) | exact entryFor_of_tree (by kernel_rfl)
theorem ba_args_set (o i a : Value) : argsOk "bytearray.__setitem__" ⟨[o, i, a], []⟩ := by unfold argsOk; kernel_rfl
theorem by_int : typeLookup (.type "bytes") "__int__" = pure none := by rw [typeLookup_type, builtinLookup_eq_fast]; kernel_rfl
theorem by_float : typeLookup (.type "bytes") "__float__" = pure none := by rw [typeLookup_type, builtinLookup_eq_fast]; kernel_rfl
theorem by_no_ba : isSubtype (.type "bytes") (.type "bytearray") = pure false := by rw [isSubtype_type]; kernel_rfl
theorem by_no_complex : isSubtype (.type "bytes") (.type "complex") = pure false := by rw [isSubtype_type]; kernel_rfl
noncomputable abbrev nSlice : Obj := { cls := .type "slice", data := .fields #[.none, .none, .none] }
theorem sliceParts_none {sl : Addr} {Q : Value × Value × Value → Shared → Prop} (hs : s.heap.get? sl = some nSlice) (h : Q (.none, .none, .none) s) : wpAny (model prog w) A (Builtin.Bytes.sliceParts (.ref sl)) Q E s := by
  unfold Builtin.Bytes.sliceParts
  refine wpAny_bind (wpAny_field hs rfl rfl ?_)
  refine wpAny_bind (wpAny_pure ?_)
  rw [if_neg (by decide)]
  refine wpAny_bind (wpAny_field hs rfl rfl ?_)
  refine wpAny_bind (wpAny_pure ?_)
  refine wpAny_bind (wpAny_field hs rfl rfl ?_)
  exact wpAny_bind (wpAny_pure (wpAny_pure h))
theorem ba_typeOf {x : Addr} {T : String} {Q : Value → Shared → Prop} (hT : s.TypeIs (.ref x) T) (h : Q (.type T) s) : wpAny (model prog w) A (typeOf (.ref x)) Q E s := by
  obtain ⟨o, ho, hc⟩ := hT
  unfold typeOf
  refine wpAny_bind (wpAny_load ho ?_)
  rw [hc]
  exact wpAny_pure h
theorem by_none {n : Str} {Q : Bool → Shared → Prop} {b : Array UInt8} {t : Tok} (hl : typeLookup (.type "bytes") n = pure none) (h : Q false s) : wpAny (model prog w) A (do return (← specialOf (.bytes b t) n).isSome) Q E s :=
  wpAny_bind (wpAny_specialOf (PySem.W.typeIs_bytes _ _ _) hl (wpAny_pure h))
theorem any_or {x y : Sem Bool} {Q : Bool → Shared → Prop} (h : wpAny (model prog w) A x (fun b s' => b = false ∧ wpAny (model prog w) A y Q E s') E s) : wpAny (model prog w) A (x <||> y) Q E s := by
  unfold orM
  refine wpAny_bind (wpAny_mono h (fun b s' h' => ?_) fun _ _ x => x)
  obtain ⟨rfl, h'⟩ := h'
  exact h'
theorem si_none (n : Nat) : sliceIndices .none .none .none n = pure (0, (n : Int), 1) := rfl
theorem seqKey_ba {a : Addr} {k : Value} {name : Str} {Q : Value → Shared → Prop} (hT : s.TypeIs (.ref a) "bytearray") (h : Q k s) : wpAny (model prog w) A (sequenceKey (.ref a) k name) Q E s := by
  unfold sequenceKey
  refine wpAny_bind ?_
  obtain ⟨o, ho, hc⟩ := hT
  show wpAny _ _ (typeOf (.ref a)) _ _ _
  unfold typeOf
  refine wpAny_bind (wpAny_load ho ?_)
  rw [hc]
  refine wpAny_pure ?_
  dsimp only
  rw [if_pos (by decide)]
  exact wpAny_pure h
theorem ba_setslice {a sl : Addr} {old b : Array UInt8} {t : Tok} {Q : Unit → Shared → Prop} (ho : s.heap.get? a = some { cls := .type "bytearray", data := .bytearray old }) (hs : s.heap.get? sl = some nSlice) (hsz : old.size = b.size) (hz : b.size ≤ 1000)
    (h : ∀ h' tk, (∀ x o, x ≠ a → s.heap.get? x = some o → h'.get? x = some o) → h'.get? a = some { cls := .type "bytearray", data := .bytearray b } → Q () { s with heap := h', toks := tk }) :
    wpS (model prog w) A (setItem (.ref a) (.ref sl) (.bytes b t)) Q E s := by
  have hT : s.TypeIs (.ref a) "bytearray" := ⟨_, ho, rfl⟩
  have hTs : s.TypeIs (.ref sl) "slice" := ⟨_, hs, rfl⟩
  have hTb : s.TypeIs (.bytes b t) "bytes" := PySem.W.typeIs_bytes _ _ _
  unfold setItem
  refine wpS_holding ?_
  refine wpS_bindAny (seqKey_ba hT ?_)
  refine wpS_bind ?_
  unfold callSpecial?
  refine wpS_bindAny (wpAny_specialOf hT ba_slot_set.lookup ?_)
  refine wpS_holding ?_
  rw [ba_slot_set.bind, pure_bind]
  refine wpS_bind (wpS_call (codeS_call_builtin ba_slot_set.plain ba_entry_set (by show decIds.contains "bytearray.__setitem__" = false; decide +kernel) (ba_slot_set.check _ _ _ _ _ _ _ _ hT (ba_args_set _ _ _) ?_)))
  show wpS _ A.in1 (Builtin.«bytearray.__setitem__» ⟨[.ref a, .ref sl, .bytes b t], []⟩) _ _ s
  unfold Builtin.«bytearray.__setitem__»
  unfold Builtin.Bytes.subscript?
  refine wpS_bindAny (wpAny_bind (wpAny_specialOf hTs slice_no_index ?_))
  refine wpAny_pure ?_
  refine wpS_bindAny (ba_typeOf hTs ?_)
  refine wpS_bindAny (sliceParts_none hs ?_)
  refine wpS_bindAny (wpAny_isInstance hTb by_no_ba ?_)
  refine wpS_bindAny (any_or (by_none by_index ⟨rfl, any_or (by_none by_int ⟨rfl, any_or (by_none by_float ⟨rfl, wpAny_isInstance hTb by_no_complex ?_⟩)⟩)⟩))
  refine wpS_bindAny (wpAny_pure ?_)
  refine wpS_bindAny (wpAny_rule ?_)
  have keep : ∀ h', Heap.SameBut s.heap.objs.size (s.heap.push { cls := .type "bytearray", data := .bytearray #[] }) h' → ∀ x o, s.heap.get? x = some o → h'.get? x = some o := fun h' hs' x o e =>
    (hs'.2 x (Nat.ne_of_lt (Heap.lt_size e))).trans (Heap.get?_push_of_some _ e)
  refine wpS_bind (ba_call (ba_init (T := "bytes") (b := b) (PySem.W.typeIs_bytes _ _ _) by_index (fun Q' h' _ hq => wpAny_pure hq) (Heap.get?_push_size _ rfl) (fun Q' h' _ hq => by_buf hq) (fun h' _ => PySem.W.typeIs_bytes _ _ _) hz fun h' hsb hn => ?_))
  refine wpS_bindAny (wpAny_holding (sliceParts_none (keep h' hsb _ _ hs) ?_))
  unfold Builtin.Bytes.payload Builtin.Bytes.payload?
  refine wpS_bindAny (wpAny_bind (wpAny_bind (wpAny_load hn (wpAny_pure ?_))))
  refine wpAny_pure ?_
  refine wpS_bindAny (wpAny_bind (wpAny_bind (wpAny_load (keep h' hsb _ _ ho) (wpAny_pure ?_))))
  refine wpAny_pure ?_
  refine wpS_bindAny (wpAny_of_eq (a := (0, (old.size : Int), 1)) rfl ?_)
  refine wpS_bindAny (wpAny_rule ?_)
  have hb1 : ((b.size : Int) != max 0 (old.size : Int) - 0) = false := by
    have : max 0 (old.size : Int) - 0 = (b.size : Int) := by rw [Int.max_eq_right (Int.natCast_nonneg _), Int.sub_zero, hsz]
    rw [this]; simp
  rw [if_neg (by rw [hb1]; exact Bool.false_ne_true)]
  have hf : old.extract 0 (0 : Int).toNat ++ b ++ old.extract (max 0 (old.size : Int)).toNat = b := by
    have h1 : (max 0 (old.size : Int)).toNat = old.size := by rw [Int.max_eq_right (Int.natCast_nonneg _)]; rfl
    rw [h1]
    apply Array.ext'
    simp
  refine wpS_bindAny (ba_write (f := fun b_1 => b_1.extract 0 (0 : Int).toNat ++ b ++ b_1.extract (max 0 (old.size : Int)).toNat) (keep h' hsb _ _ ho) (by show (old.extract 0 (0 : Int).toNat ++ b ++ old.extract (max 0 (old.size : Int)).toNat).size ≤ 1000; rw [hf]; exact hz) fun h2 hs2 ho2 => ?_)
  have hb2 : h2.get? a = some { cls := .type "bytearray", data := .bytearray b } := by
    rw [ho2]
    have : (old.extract 0 (0 : Int).toNat ++ b ++ old.extract (max 0 (old.size : Int)).toNat) = b := hf
    simp only [this]
  have fin := h h2 s.toks (fun x o hx e => (hs2.2 x hx).trans (keep h' hsb _ _ e)) hb2
  first
    | exact wpS_pure (wpS_pure (wpS_pure fin))
    | exact wpS_bind (wpS_pure (wpS_pure (wpS_pure fin)))
end baset
end
section
section xc
variable {prog : Program} {w : World} {A : Around} {E : Value → Shared → Prop} {R : Result → Shared → Prop} {h : Heap} {g : Array GenState} {d : Drawn} {t : Nat} {os : OsState}
variable {nm q : Str} {C N : Addr} {bs bm bmB : List Value} {hdct : Bool} {sn : List Str} {sub : List Value} {ab : Bool} {col : Option Bool} {dd : Option Addr} {k0 k1 k2 k3 k5 : Option Value} {B newId initId : String}
noncomputable abbrev excObj0 (C t : Addr) : Obj := { cls := .ref C, data := .fields #[.ref t, .none, .none, .none, .bool false, .none] }
noncomputable abbrev tupObj0 (vs : List Value) : Obj := { cls := .type "tuple", data := .seq vs.toArray }
/-- what an own exception class over own classes over the built-in B knows of its line -/
structure XcLine (C : Addr) (bm : List Value) (B : String) : Prop where
  hasB : (Value.ref C :: bm).contains (.type B) = true
  hasBase : (Value.ref C :: bm).contains (.type "BaseException") = true
  noAttr : (Value.ref C :: bm).contains (.type "AttributeError") = false
  noName : (Value.ref C :: bm).contains (.type "NameError") = false
theorem xc_new (F : ExcBaseFacts B newId initId bmB) (Y : XcLine C bm B) {rest : List Value} (hC : h.get? C = some (excClassObj nm q C N bs bm hdct sn sub ab col dd k0 k1 k2 k3 k5 newId)) (hrest : rest.length ≤ sizeLine)
    (hq : R (.ok (.ret (.ref (h.objs.size + 1)))) ⟨(h.push (tupObj0 rest)).push (excObj0 C h.objs.size), g, d, t, os⟩) :
    codeAny (model prog w) A (.call (.builtin newId) ⟨.ref C :: rest, []⟩) R ⟨h, g, d, t, os⟩ := by
  have hcB := Y.hasB
  have hcA := Y.noAttr
  have hcN := Y.noName
  have hstar := F.noStar
  have hends := F.ends
  refine codeAny_call_builtin_code (Code.quiet_builtin _ F.quiet) ?_
  have chk : ∀ (Q : Unit → Shared → Prop) (E' : Value → Shared → Prop) (A' : Around), Q () ⟨h, g, d, t, os⟩ → wpAny (model prog w) A' (checkBuiltinCall newId ⟨.ref C :: rest, []⟩) Q E' ⟨h, g, d, t, os⟩ := by
    intro Q E' A' hQ
    unfold checkBuiltinCall
    rw [F.newKind]
    dsimp only
    try rw [F.newSplit]
    try dsimp only
    try rw [F.newRow]
    try dsimp only
    repeat (first | refine wpAny_loadPart_at hC ?_ | (refine wpAny_isSubtype_exc hC ?_; rw [hcB]) | refine wpAny_staticBase_exc hC ?_ | refine wpAny_madeBy_exc hC ?_ | wp_step)
    exact hQ
  refine chk _ _ _ ?_
  refine codeAny_builtinAt F.entry ?_
  unfold Builtin.«BaseException.__new__»
  refine PySem.wpAt_bind ?_
  show PySem.wpAt _ _ _ (stack >>= _) _ _ _
  refine PySem.wpAt_bind (PySem.wpAt_stack fun p below => PySem.wpAt_of_wpAny ?_)
  wp_walk
  refine PySem.wpAt_of_wpAny ?_
  rw [F.owner]
  repeat (first | with_reducible refine wpAny_madeHere_exc F.canon hC ?_ | with_reducible refine wpAny_loadPart_at hC ?_ | (with_reducible refine wpAny_isSubtype_exc hC ?_; first | rw [hcB] | rw [hcA] | rw [hcN]) | wp_step)
  show R _ _
  rw [Heap.size_push]
  exact hq
theorem xc_make (F : ExcBaseFacts B newId initId bmB) (Y : XcLine C bm B) {rest : List Value} {fI : Addr} (hC : h.get? C = some (excClassObj nm q C N bs bm hdct sn sub ab col dd k0 k1 k2 k3 k5 newId)) (hrest : rest.length ≤ sizeLine)
    (hi : Looks (model prog w) h (typeLookup (.ref C) "__init__") (some (.ref fI))) (hb : ∀ self, Looks (model prog w) h (bindSpecial (.ref fI) self) (.ref fI, [self]))
    (hq : wpAny (model prog w) (A.under (.builtin "type.__call__" ⟨.ref C :: rest, []⟩)) (call (.ref fI) (.ref (h.objs.size + 1) :: rest)) (fun v s' => v = .none ∧ R (.ok (.ret (.ref (h.objs.size + 1)))) s') (fun x s' => R (.error x) s') ⟨(h.push (tupObj0 rest)).push (excObj0 C h.objs.size), g, d, t, os⟩) :
    codeAny (model prog w) A (.call (.ref C) ⟨rest, []⟩) R ⟨h, g, d, t, os⟩ := by
  have f1 := tc_lookup
  have f2 := tc_bind (.ref C)
  have hT : (⟨h, g, d, t, os⟩ : Shared).TypeIs (.ref C) "type" := ⟨_, hC, rfl⟩
  refine codeAny_of_tree ?_
  show wpAny _ _ (callAny (.ref C) _) _ _ _
  repeat (any_goals (first | assumption | with_reducible refine wpAny_loadPart_at hC ?_ | wp_step))
  refine ⟨rfl, ?_⟩
  refine codeAny_call_builtin_at (Code.quiet_builtin _ (by decide +kernel)) entry_typeCall (wpAny_check_type_call_sub hC ?_)
  repeat (first | with_reducible refine wpAny_loadPart_at hC ?_ | with_reducible refine wpAny_madeBy_exc hC ?_ | wp_step)
  refine xc_new F Y hC hrest ?_
  show wpAny _ _ _ _ _ ⟨(h.push (tupObj0 rest)).push (excObj0 C h.objs.size), g, d, t, os⟩
  have hC₁ := Heap.get?_push_of_some (excObj0 C h.objs.size) (Heap.get?_push_of_some (tupObj0 rest) hC)
  have k : ∀ b o, h.get? b = some o → ((h.push (tupObj0 rest)).push (excObj0 C h.objs.size)).get? b = some o := fun b o e => Heap.get?_push_of_some _ (Heap.get?_push_of_some _ e)
  have hget : ((h.push (tupObj0 rest)).push (excObj0 C h.objs.size)).get? (h.objs.size + 1) = some (excObj0 C h.objs.size) := by heap_get
  have hcC : (Value.ref C :: bm).contains (.ref C) = true := by simp
  have i1 := hi.keeps k
  have b1 := (hb (.ref (h.objs.size + 1))).keeps k
  unfold isInstance
  repeat (first | (with_reducible refine wpAny_loadPart_at hget ?_; dsimp only [excObj0]) | (with_reducible refine wpAny_isSubtype_exc hC₁ ?_; rw [hcC]) | wp_step)
  refine i1.at ?_
  dsimp only
  refine wpAny_holding (wpAny_bind (b1.at (wpAny_bind (wpAny_mono hq (fun v s' z => ?_) fun _ _ z => z))))
  obtain ⟨rfl, z⟩ := z
  exact wpAny_pure (wpAny_pure z)
end xc
section xs
open Builtin Builtin.ObjectAttr
theorem xcls_at {K : Frag} {h : Heap} {C : Addr} {cd : ClassData} (X : K.In h) (hc : clsIn K C = some cd) : ∃ c dd sl, h.get? C = some { cls := c, dict := dd, data := .cls cd, slots := sl } := by
  unfold clsIn at hc
  split at hc
  · rename_i c d cd' sl ho
    cases hc
    exact ⟨_, _, _, X _ _ ho⟩
  · cases hc
variable {prog : Program} {w : World} {A : Around} {E : Value → Shared → Prop} {s : Shared} {K : Frag} {h₀ : Heap} {L : Addr} {m : Str → Option Value} {news post : Led} {e t C : Addr} {cd : ClassData}
theorem xc_init {v : Value} {Q : Value → Shared → Prop} (F : Fr h₀ L s.heap m) (X₀ : K.In h₀) (N : News h₀ L s.heap ((e, excObj0 C t) :: post)) (hc : clsIn K C = some cd) (hs : mroIn K C (.type "Exception") = some true) (hne : ∀ p ∈ post, p.1 ≠ e)
    (h : ∀ t2 h', Fr h₀ L h' m → News h₀ L h' ((t2, tupObj0 [v]) :: (e, excObj0 C t2) :: post) → (∀ p ∈ (e, excObj0 C t2) :: post, p.1 < t2) → Q .none { s with heap := h' }) :
    wpAny (model prog w) A (call (.builtin "Exception.__init__") [.ref e, v]) Q E s := by
  have FX := PySem.F.excBase_Exception
  have X := X₀.keeps F.keep
  have he := (N _ (.head _)).1
  have hi : Looks (model prog w) s.heap (isInstance (.ref e) (.type "Exception")) true := ((Looks.ld (part := none) he).andThen .now).andThen (looks_mroIn X hs)
  obtain ⟨hh, g, d, tk, os⟩ := s
  obtain ⟨c0, dd0, sl0, hC⟩ := xcls_at X hc
  refine wpAny_call (codeAny_call_builtin FX.init.plain FX.initEntry ?_)
  have chk : ∀ (P : Unit → Shared → Prop) (E' : Value → Shared → Prop) (A' : Around), P () ⟨hh, g, d, tk, os⟩ → wpAny (model prog w) A' (checkBuiltinCall "Exception.__init__" ⟨[.ref e, v], []⟩) P E' ⟨hh, g, d, tk, os⟩ := by
    intro P E' A' hP
    simp only [checkBuiltinCall, FX.initKind, FX.initSplit, FX.initRow]
    refine wpAny_bind (hi.here ?_)
    repeat (first | with_reducible refine wpAny_load hC ?_ | with_reducible refine wpAny_onRaise ?_ | wp_step)
    exact hP
  refine chk _ _ _ ?_
  have N2 := N.push F (tupObj0 [v])
  have F2 := F.push (tupObj0 [v])
  obtain ⟨U1, U2⟩ := news_upd (pre := [(hh.objs.size, tupObj0 [v])]) (f := Obj.mapFields (·.setIfInBounds 0 (Value.ref hh.objs.size))) (o' := excObj0 C hh.objs.size) F2 N2
    (fun p hp => by rw [List.mem_singleton.mp hp]; exact Ne.symm (Nat.ne_of_lt (Heap.lt_size he))) hne rfl rfl
  have z := h _ _ U1 U2 (fun p hp => by
    rcases List.mem_cons.mp hp with rfl | hp
    · exact Heap.lt_size he
    · exact Heap.lt_size (N p (.tail _ hp)).1)
  unfold Builtin.«BaseException.__init__»
  wp_walk
  exact z
theorem xset_open {o : Obj} {name : Str} {v : Value} {Q : Unit → Shared → Prop} (F : Fr h₀ L s.heap m) (X₀ : K.In h₀) (N : News h₀ L s.heap ((e, o) :: post)) (ho : o.cls = .ref C) (hc : clsIn K C = some cd) (hm : cd.mro = [.ref C, .ref t, .type "Exception", .type "BaseException", .type "object"])
    (hset : findIn K (.ref C) "__setattr__" = some (some (.builtin "object.__setattr__"))) (hn : findIn K (.ref C) name = some none)
    (h : wpAny (model prog w) A.in1 (storeInOwnDict (.ref e) (.ref C) (.str name s.toks) name v false) (fun fin s' => match fin with | .done (.ret _) => Q () s' | _ => False) E { s with toks := s.toks + 1 }) :
    wpAny (model prog w) A (setAttr (.ref e) name v) Q E s := by
  have SF := PySem.F.store_Exception
  have X := X₀.keeps F.keep
  have he := (N _ (.head _)).1
  have T : Looks (model prog w) s.heap (typeOf (.ref e)) (.ref C) := (Looks.ld (part := none) he).andThen (by rw [ho]; exact .now)
  have hm' : Looks (model prog w) s.heap (mroOf (.ref C)) cd.mro := (looks_clsIn X hc).andThen .now
  have sub : Looks (model prog w) s.heap (isInstance (.ref e) (.type "object")) true := T.andThen (looks_mroIn X (by unfold mroIn; rw [hc, Option.bind_some, hm]; simp))
  refine wpAny_bind (wpAny_mkText (wpAny_bind (wpAny_bind (wpAny_bind (T _ _ _ _ (fun _ _ e => e) (looks_findIn X hset _ _ _ _ (fun _ _ e => e) (wpAny_holding ?_)))))))
  rw [PySem.F.store_object.slot.bind]
  refine wpAny_bind (wpAny_pure (wpAny_bind (wpAny_call (codeAny_mono (R := fun r s' => match r with | .ok (.ret _) => Q () s' | .ok _ => False | .error x => E x s') ?_ fun r s' z => ?_))))
  · refine codeAny_call_builtin SF.slot.plain SF.entry (@check_slot (model prog w) _ _ { s with toks := s.toks + 1 } "object.__setattr__" "object" "__setattr__" (.ref e) [.str name s.toks, v] [] _ SF.kind SF.split sub (SF.args (.ref e) (.str name s.toks) v) ?_)
    show wpAny _ _ (Builtin.«object.__setattr__» ⟨[.ref e, .str name s.toks, v], []⟩) _ _ _
    rw [osa_eq, refuse_eq]
    refine wpAny_bind (wpAny_bind (T _ _ _ _ (fun _ _ e => e) (wpAny_bind (hm' _ _ _ _ (fun _ _ e => e) ?_))))
    rw [hm, refuseLoop_ref, refuseLoop_ref, SF.passes]
    refine wpAny_pure (wpAny_bind (T _ _ _ _ (fun _ _ e => e) (wpAny_bind (looks_findIn X hn _ _ _ _ (fun _ _ e => e) (wpAny_bind (wpAny_pure ?_))))))
    refine wpAny_mono h (fun fin s' z => ?_) fun _ _ z => z
    rcases fin with (_ | _ | _ | _) | _ <;> first | exact z | exact z.elim
  · rcases r with e | (v | _ | _ | _) <;> first | exact z | exact wpAny_pure (wpAny_pure z) | exact z.elim
theorem put_one (name : Str) (H : Int) (key v : Value) : Obj.putName name H key v emptyDict = dictOf [⟨H, key, v⟩] 1 := rfl
theorem put_size {c : Value} {dd : Option Addr} {es : Array DictEntry} {n : Nat} {sl : Array (Option Value)} (name : Str) (H : Int) (key v : Value) :
    ∃ es' n', Obj.putName name H key v ⟨c, dd, .dict es n, sl⟩ = ⟨c, dd, .dict es' n', sl⟩ ∧ es'.size ≤ es.size + 1 := by
  rw [show @Obj.putName = @Obj.putNameByArray from Obj.putName_eq]
  unfold Obj.putNameByArray
  dsimp only
  split
  · exact ⟨_, _, rfl, by simp⟩
  · exact ⟨_, _, rfl, by simp⟩
/-- the dict of an object that has one: the store itself -/
theorem xset_store {d : Addr} {od : Obj} {es : List DictEntry} {n : Nat} {name : Str} {v : Value} {tk : Tok} {Q : Fin → Shared → Prop} (F : Fr h₀ L s.heap m) (N : News h₀ L s.heap ((d, od) :: post)) (hod : od = dictOf es n) (hes : es.length ≤ 5) (hk : es.any (·.refKey) = false) (hne : ∀ p ∈ post, p.1 ≠ d)
    (h : ∀ oD h', Fr h₀ L h' m → News h₀ L h' ((d, oD) :: post) → oD = Obj.putName name (PyData.keyHash w.params name) (.str name s.toks) v od → Q (.done (.ret .none)) { s with heap := h', toks := s.toks + 1 }) :
    wpAny (model prog w) A (storeInDict d (.str name tk) name v) Q E s := by
  subst hod
  obtain ⟨es', n', e1, e2⟩ := put_size (c := .type "dict") (dd := none) (es := es.toArray) (n := n) (sl := #[]) name (PyData.keyHash w.params name) (.str name s.toks) v
  obtain ⟨V1, V2⟩ := news_upd (pre := []) (f := Obj.putName name (PyData.keyHash w.params name) (.str name s.toks) v) (o' := ⟨.type "dict", none, .dict es' n', #[]⟩) F N (fun p hp => nomatch hp) hne e1 rfl
  have D := (N _ (.head _)).1
  have D' := (V2 _ (.head _)).1
  refine wpAny_bind (wpAny_pure (wpAny_bind ?_))
  unfold nsSet
  refine wpAny_bind (wpAny_bind (wpAny_askSetting (wpAny_pure (wpAny_bind (wpAny_mkText (wpAny_bind (wpAny_loadPart D ?_)))))))
  dsimp only
  rw [aRefKeyMayBeTheName_at, show es.toArray.any (·.refKey) = false from by rw [← Array.any_toList]; exact hk, Bool.and_false]
  refine wpAny_updatePart D ?_
  refine wpAny_bind (wpAny_lookBehind D' (pastItsLine_dict (by rw [sizeLine_eq]; simp at e2; omega)) ?_)
  exact wpAny_pure (h _ _ V1 V2 e1.symm)
theorem xset_first {o : Obj} {ws : Array Value} {name : Str} {v : Value} {Q : Unit → Shared → Prop} (F : Fr h₀ L s.heap m) (X₀ : K.In h₀) (N : News h₀ L s.heap ((e, o) :: post)) (ho : o.cls = .ref C) (hc : clsIn K C = some cd) (hd : cd.hasDict = true) (hm : cd.mro = [.ref C, .ref t, .type "Exception", .type "BaseException", .type "object"])
    (hset : findIn K (.ref C) "__setattr__" = some (some (.builtin "object.__setattr__"))) (hn : findIn K (.ref C) name = some none) (hnd : o.dict = none) (hf : o.data = .fields ws) (hne : ∀ p ∈ post, p.1 ≠ e)
    (h : ∀ dx H t1 h' tk', Fr h₀ L h' m → News h₀ L h' ((dx, dictOf [⟨H, .str name t1, v⟩] 1) :: (e, { o with dict := some dx }) :: post) → (∀ p ∈ (e, o) :: post, p.1 < dx) → Q () { s with heap := h', toks := tk' }) :
    wpAny (model prog w) A (setAttr (.ref e) name v) Q E s := by
  refine xset_open F X₀ N ho hc hm hset hn ?_
  have X := X₀.keeps F.keep
  have he := (N _ (.head _)).1
  obtain ⟨hh, g, d, tk, os⟩ := s
  dsimp only at he X F N h ⊢
  have N2 := N.push F (emptyDict)
  have F2 := F.push (emptyDict)
  obtain ⟨oc, od, oda, osl⟩ := o
  dsimp only at ho hnd hf
  subst ho hnd hf
  obtain ⟨U1, U2⟩ := news_upd (pre := [(hh.objs.size, emptyDict)]) (f := fun o => { o with dict := some hh.objs.size }) (o' := { cls := .ref C, dict := some hh.objs.size, data := .fields ws, slots := osl }) F2 N2
    (fun p hp => by rw [List.mem_singleton.mp hp]; exact Ne.symm (Nat.ne_of_lt (Heap.lt_size he))) hne rfl rfl
  have he2 := Heap.get?_push_of_some emptyDict he
  refine wpAny_bind (wpAny_pure (wpAny_bind (wpAny_bind (wpAny_loadPart he (wpAny_bind ((looks_clsIn X hc).here ?_))))))
  rw [hd]
  refine wpAny_bind (wpAny_alloc (wpAny_bind (wpAny_update he2 (wpAny_pure (a := some hh.objs.size) ?_))))
  refine xset_store (s := ⟨_, g, d, tk + 1, os⟩) (es := []) (n := 0) U1 U2 rfl (by decide) rfl (fun p hp => ?_) fun oD h' V1 V2 e => ?_
  · rcases List.mem_cons.mp hp with rfl | hp
    · exact Nat.ne_of_lt (Heap.lt_size he)
    · exact Nat.ne_of_lt (Heap.lt_size (N p (.tail _ hp)).1)
  · subst e
    exact h _ _ _ _ _ V1 V2 (fun p hp => Heap.lt_size (N p hp).1)
theorem xset_next {o od : Obj} {dx : Addr} {es : List DictEntry} {n : Nat} {name : Str} {v : Value} {Q : Unit → Shared → Prop} (F : Fr h₀ L s.heap m) (X₀ : K.In h₀) (N : News h₀ L s.heap ((dx, od) :: (e, o) :: post)) (ho : o.cls = .ref C) (hc : clsIn K C = some cd) (hd : cd.hasDict = true) (hm : cd.mro = [.ref C, .ref t, .type "Exception", .type "BaseException", .type "object"])
    (hset : findIn K (.ref C) "__setattr__" = some (some (.builtin "object.__setattr__"))) (hn : findIn K (.ref C) name = some none) (hnd : o.dict = some dx) (hod : od = dictOf es n) (hes : es.length ≤ 5) (hk : es.any (·.refKey) = false) (hne : ∀ p ∈ (e, o) :: post, p.1 ≠ dx)
    (h : ∀ oD h' tk', Fr h₀ L h' m → News h₀ L h' ((dx, oD) :: (e, o) :: post) → Q () { s with heap := h', toks := tk' }) :
    wpAny (model prog w) A (setAttr (.ref e) name v) Q E s := by
  refine xset_open F X₀ (news_sub N (fun p hp => List.mem_cons_of_mem _ hp)) ho hc hm hset hn ?_
  have X := X₀.keeps F.keep
  have he := (N _ (.tail _ (.head _))).1
  obtain ⟨oc, od', oda, osl⟩ := o
  dsimp only at ho hnd
  subst ho hnd
  refine wpAny_bind (wpAny_pure (wpAny_bind (wpAny_bind (wpAny_loadPart he (wpAny_bind (looks_clsIn X hc _ _ _ _ (fun _ _ e => e) ?_))))))
  rw [hd]
  refine wpAny_pure (a := some dx) ?_
  refine xset_store (s := { s with toks := s.toks + 1 }) F N hod hes hk hne fun oD h' V1 V2 _ => ?_
  exact h _ _ _ V1 V2
end xs
end
local macro_rules | `(tactic| omega) => `(tactic| walk_at "mine om2")
section
section byp
theorem in_bytes : typeLookup (.type "int") "__bytes__" = pure none := by rw [typeLookup_type, builtinLookup_eq_fast]; kernel_rfl
theorem in_index : typeLookup (.type "int") "__index__" = pure (some (.builtin "int.__index__")) := by rw [typeLookup_type, builtinLookup_eq_fast]; kernel_rfl
variable {prog : Program} {w : World} {A : Around} {E : Value → Shared → Prop} {s : Shared}
theorem call_bytes_bytes {b : Array UInt8} {t : Tok} {Q : Value → Shared → Prop} (h : Q (.bytes b t) s) : wpAny (model prog w) A (call (.type "bytes") [.bytes b t]) Q E s := by
  have hT : s.TypeIs (.bytes b t) "bytes" := PySem.W.typeIs_bytes _ _ _
  refine callType_codes (Q₁ := fun obj s₁ => s₁.TypeIs obj "bytes" ∧ Q obj s₁) F.bm_called (F.bm_typeCall _) F.entry_object_init ?_ fun obj s₁ h₁ => ?_
  · refine codeAny_of_tree ?_
    show wpAny _ A.in1.in1 (do checkBuiltinCall "bytes.__new__" ⟨[.type "bytes", .bytes b t], []⟩; again (.builtin "bytes.__new__" ⟨[.type "bytes", .bytes b t], []⟩)) _ _ s
    refine wpAny_bind (wpAny_of_eq (F.bm_newCall _) (wpAny_pure ⟨plainId_quiet F.bm_plain _, codeAny_builtin F.bm_entry ?_⟩))
    rw [Around.under_plainId F.bm_plain _]
    unfold Builtin.«bytes.__new__»
    refine wpAny_bind (wpAny_of_eq (a := true) rfl ?_)
    refine bm_if_false rfl ?_
    refine wpAny_bind (wpAny_of_eq F.bm_sub ?_)
    refine bm_if_false rfl ?_
    refine wpAny_bind (wpAny_of_eq (F.bm_bind _) ?_)
    refine wpAny_bind (wpAny_of_eq (a := ()) rfl ?_)
    refine wpAny_bind (wpAny_of_eq (a := ()) rfl ?_)
    refine bm_if_false rfl ?_
    refine wpAny_bind (wpAny_specialOf hT by_bytes ?_)
    dsimp only
    refine wpAny_bind (wpAny_rule ?_)
    refine wpAny_bind (wpAny_of_eq (a := Value.type "bytes") rfl ?_)
    refine bm_if_true (by decide) ?_
    exact wpAny_pure ⟨hT, h⟩
  · exact ⟨h₁.1, F.args_object_init_2 obj _, object_init_meets F.bm_called.init.lookup F.bm_called.made (by decide) prog w A.in1 _ s₁ ⟨h₁.1, rfl, h₁.2⟩⟩
theorem call_bytes_ba {a : Addr} {b : Array UInt8} {Q : Value → Shared → Prop} (ho : s.heap.get? a = some { cls := .type "bytearray", data := .bytearray b }) (hz : b.size ≤ 1000) (h : ∀ t, Q (.bytes b t) { s with toks := s.toks + 1 }) : wpAny (model prog w) A (call (.type "bytes") [.ref a]) Q E s := by
  have hT : s.TypeIs (.ref a) "bytearray" := ⟨_, ho, rfl⟩
  refine callType_codes (Q₁ := fun obj s₁ => s₁.TypeIs obj "bytes" ∧ Q obj s₁) F.bm_called (F.bm_typeCall _) F.entry_object_init ?_ fun obj s₁ h₁ => ?_
  · refine codeAny_of_tree ?_
    show wpAny _ A.in1.in1 (do checkBuiltinCall "bytes.__new__" ⟨[.type "bytes", .ref a], []⟩; again (.builtin "bytes.__new__" ⟨[.type "bytes", .ref a], []⟩)) _ _ s
    refine wpAny_bind (wpAny_of_eq (F.bm_newCall _) (wpAny_pure ⟨plainId_quiet F.bm_plain _, codeAny_builtin F.bm_entry ?_⟩))
    rw [Around.under_plainId F.bm_plain _]
    unfold Builtin.«bytes.__new__»
    refine wpAny_bind (wpAny_of_eq (a := true) rfl ?_)
    refine bm_if_false rfl ?_
    refine wpAny_bind (wpAny_of_eq F.bm_sub ?_)
    refine bm_if_false rfl ?_
    refine wpAny_bind (wpAny_of_eq (F.bm_bind _) ?_)
    refine wpAny_bind (wpAny_of_eq (a := ()) rfl ?_)
    refine wpAny_bind (wpAny_of_eq (a := ()) rfl ?_)
    refine bm_if_false rfl ?_
    refine wpAny_bind (wpAny_specialOf hT ba_bytes ?_)
    refine wpAny_bind (wpAny_bind (ba_asStr ho (wpAny_pure ?_)))
    refine bm_if_false rfl ?_
    refine wpAny_bind (wpAny_specialOf hT ba_index ?_)
    refine bm_if_true rfl ?_
    show wpAny _ _ (Builtin.Bytes.buffer? "bytes.__new__" (.ref a) true >>= _) _ _ _
    refine wpAny_bind (ba_buf ho ?_)
    dsimp only
    refine wpAny_bind (wpAny_rule ?_)
    refine wpAny_bind (wpAny_mkBytes (b := b) ?_ (by rw [sizeLine_eq]; omega))
    exact wpAny_pure ⟨PySem.W.typeIs_bytes _ _ _, h _⟩
  · exact ⟨h₁.1, F.args_object_init_2 obj _, object_init_meets F.bm_called.init.lookup F.bm_called.made (by decide) prog w A.in1 _ s₁ ⟨h₁.1, rfl, h₁.2⟩⟩
theorem call_bytes_int {n : Int} {t : Tok} {Q : Value → Shared → Prop} (h0 : 0 ≤ n) (h9 : n ≤ 1000) (h : ∀ t tk, Q (.bytes (Array.replicate n.toNat 0) t) { s with toks := tk }) : wpAny (model prog w) A (call (.type "bytes") [.int n t]) Q E s := by
  have hT : s.TypeIs (.int n t) "int" := typeIs_int _ _ _
  refine callType_codes (Q₁ := fun obj s₁ => s₁.TypeIs obj "bytes" ∧ Q obj s₁) F.bm_called (F.bm_typeCall _) F.entry_object_init ?_ fun obj s₁ h₁ => ?_
  · refine codeAny_of_tree ?_
    show wpAny _ A.in1.in1 (do checkBuiltinCall "bytes.__new__" ⟨[.type "bytes", .int n t], []⟩; again (.builtin "bytes.__new__" ⟨[.type "bytes", .int n t], []⟩)) _ _ s
    refine wpAny_bind (wpAny_of_eq (F.bm_newCall _) (wpAny_pure ⟨plainId_quiet F.bm_plain _, codeAny_builtin F.bm_entry ?_⟩))
    rw [Around.under_plainId F.bm_plain _]
    unfold Builtin.«bytes.__new__»
    refine wpAny_bind (wpAny_of_eq (a := true) rfl ?_)
    refine bm_if_false rfl ?_
    refine wpAny_bind (wpAny_of_eq F.bm_sub ?_)
    refine bm_if_false rfl ?_
    refine wpAny_bind (wpAny_of_eq (F.bm_bind _) ?_)
    refine wpAny_bind (wpAny_of_eq (a := ()) rfl ?_)
    refine wpAny_bind (wpAny_of_eq (a := ()) rfl ?_)
    refine bm_if_false rfl ?_
    refine wpAny_bind (wpAny_specialOf hT in_bytes ?_)
    refine wpAny_bind (wpAny_bind (wpAny_of_eq (a := none) rfl (wpAny_pure ?_)))
    refine bm_if_false rfl ?_
    refine wpAny_bind (wpAny_specialOf hT in_index ?_)
    refine bm_if_false rfl ?_
    refine wpAny_bind (wpAny_attempt (wpAny_of_eq (rfl : asIndex (.int n t) = pure n) ?_))
    dsimp only
    refine bm_if_false (by simp only [Bool.not_eq_false', Builtin.Bytes.fitsIndex]; simp; omega) ?_
    rw [if_neg (by omega), if_neg (by omega)]
    refine bm_if_false (by simp only [Builtin.Bytes.tooLong]; simp [sizeLine_eq]; omega) ?_
    refine wpAny_bind (wpAny_rule ?_)
    refine wpAny_bind (wpAny_mkBytes (b := Array.replicate n.toNat 0) ?_ (by rw [sizeLine_eq, Array.size_replicate]; omega))
    exact wpAny_pure ⟨PySem.W.typeIs_bytes _ _ _, h _ _⟩
  · exact ⟨h₁.1, F.args_object_init_2 obj _, object_init_meets F.bm_called.init.lookup F.bm_called.made (by decide) prog w A.in1 _ s₁ ⟨h₁.1, rfl, h₁.2⟩⟩
end byp
end
theorem kw_6 : True := by
  (k_with "M call type:bytes" => (k_here; (with_reducible show wpAny _ _ (call (Value.type _) [Value.bytes _ _]) _ _ _); k_dflt (refine' call_bytes_bytes ?_)))
  (k_with "M exec Raise some none" => (k_here; exfalso; omega))
  (k_with "M call builtin:len" => (k_here; (with_reducible show wpAny _ _ (call (Value.builtin "len") [Value.ref _]) _ _ _); k_dflt (refine' kst_len ?q_N ?q_m ?q_e ?q_z ?_; (case q_N => k_asm); (case q_m => k_mem); (case q_e => first | assumption | exact List.length_map _); (case q_z => walk_at "mine om"))))
  (k_with "M getItem ref int" => (k_here; k_dflt (refine' kdt_getItem (knd := PySem.intKind _ _) ?q_N ?q_m ?q_d (intKind_is _ _ _ _) ?q_v ?_; (case q_N => k_asm); (case q_m => k_mem); (case q_d => k_asm); (case q_v => k_asm))))
  trivial
section
theorem used_sp (w : World) (M : Addr) (σ : Tb) (led : Led) (hT : TabIs w M σ led) (sl : Int) (tk : Tok) (hz : σ.ord.length ≤ 1000) :
    Sp w 1 8 454 [.ref M, .int sl tk] led (fun v led' => v = .none ∧ TabIs w M { σ with ord := σ.ord.erase sl ++ [sl] } led') := by
  cases hT
  rename_i Md V Bk K O hh tt n nB nO oV oK vO vkvs kkvs bks bls tl baL bkL hO hK rK hV rV rB iB nb et ndT off d1 d2 d3 d4 d5 d6 d7 d8 d9 d10 d11 d12 d13 d14 d15 lK lV
  walk_at "mine sp"
  intro mean mg mb dp un gd outer A₀ base h₀ L hpS gS dS kS oS Q E rest B F X N OR T hd hu hnx hret hpo
  change News _ _ _ (_ :: _ :: _ :: _ :: _ :: _ :: (tl ++ rest)) at N
  have off2 : OwnOff (tl ++ rest) [M, Md, V, Bk, K, O] := own_app off (own_sub OR own6)
  walk_at "mine steps"
  · (refine' hret _ ((M, ?_) :: (Md, ?_) :: (V, ?_) :: (Bk, ?_) :: (K, ?_) :: (O, ?_) :: tl) _ _ ⟨?e7, ?t7⟩ ?o7 ?f7 ?n7; (case n7 => assumption); (case f7 => assumption); (case o7 => exact own_sub OR (fun x hx => hx)))
    · rfl
    exact TabIs.mk (by assumption) hK rK hV rV rB iB nb et ndT off d1 d2 d3 d4 d5 d6 d7 d8 d9 d10 d11 d12 d13 d14 d15 lK lV
  · (refine' hret _ ((M, ?_) :: (Md, ?_) :: (V, ?_) :: (Bk, ?_) :: (K, ?_) :: (O, ?_) :: tl) _ _ ⟨?e8, ?t8⟩ ?o8 ?f8 ?n8; (case n8 => assumption); (case f8 => assumption); (case o8 => exact own_sub OR (fun x hx => hx)))
    · rfl
    refine TabIs.mk ?_ hK rK hV rV rB iB nb et ndT off d1 d2 d3 d4 d5 d6 d7 d8 d9 d10 d11 d12 d13 d14 d15 lK lV
    rw [List.erase_of_not_mem (by assumption)]; assumption
end
section
theorem hash_step (pre : List Int) (f n : Int) (h : f = hashL pre ∧ 0 ≤ f ∧ f < 4294967296) : Builtin.bitAnd (Builtin.bitXor f n * 16777619) 4294967295 = hashL (pre ++ [n]) ∧ 0 ≤ Builtin.bitAnd (Builtin.bitXor f n * 16777619) 4294967295 ∧ Builtin.bitAnd (Builtin.bitXor f n * 16777619) 4294967295 < 4294967296 := by
  rw [bitAnd_m32]
  refine ⟨?_, Int.emod_nonneg _ (by decide), Int.emod_lt_of_pos _ (by decide)⟩
  rw [h.1]
  simp [hashL, List.foldl_append]
theorem hash_sp (w : World) (b : By) (tb : Tok) (hz : b.size ≤ 100) :
    Sp w 1 8 292 [.bytes b tb] [] (fun v led' => led' = [] ∧ ∃ t', v = .int (hashF b) t') := by
  k_with "pyIter bytes" => k_state (fun pre f => f = hashL pre ∧ 0 ≤ f ∧ f < 4294967296) "found"
  k_with "state" => exact hash_step _ _ _ ⟨by assumption, by assumption, by assumption⟩
  walk_at "mine sp"
  intro mean mg mb dp un gd outer A₀ base h₀ L hpS gS dS kS oS Q E rest B F X N OR T hd hu hnx hret hpo
  change News _ _ _ rest at N
  walk_at "mine steps"
  refine hret _ [] _ _ ⟨rfl, _, congrArg (fun x => Value.int x _) (by assumption)⟩ OR (by assumption) (by assumption)
section
variable {prog : Program} {w : World} {D U : Nat} {f : Addr} {vs : List Value} {post : Value → Prop} {mean : ExcName → Option Value} {mg mb : Str → Option Value} {dp un : Nat} {gd : Option (List Code)} {cn : Str} {cs : Scope} {a : Addr} {ccd : Value} {cl : List (Str × Addr)} {outer : List Env} {A₀ : Around} {base h₀ : Heap} {L : Addr} {m : Str → Option Value} {s : Shared} {Q E : Value → Shared → Prop} {led : Led}
theorem sp0_use {foot : Led} {pst : Value → Led → Prop} (C : Sp w D U f vs [] pst) (hp : ∀ v l, pst v l → l = [] ∧ post v) (B : Below A₀ base outer h₀) (F : Fr h₀ L s.heap m) (X : (hd.heap_1 w.params).In h₀) (N : News h₀ L s.heap led)
    (T : Top hd.view_39 (looseW hd.view_39 [Str.ofString "GateError", Str.ofString "HashMap"]) mean mg mb h₀) (hk : cs.kind = .function) (hd : dp + D < recursionLimit) (hu : un + U < cLine)
    (hret : ∀ v h' tk', post v → Fr h₀ L h' m → News h₀ L h' led → Q v { s with heap := h', toks := tk' }) :
    wpAny (model PySem.Challenge.rw_qz0154_01.row.prog w) (ktrTop dp un gd cn cs L a ccd cl outer) (call (.ref f) vs) Q E s :=
  C mean mg mb dp un gd cn cs a ccd cl outer A₀ base h₀ L m s Q E led B F X N (fun _ _ _ hb => nomatch hb) T hk hd hu fun v l h' tk' q _ F' N' => by
    obtain ⟨e, q'⟩ := hp v l q
    subst e
    exact hret v h' tk' q' F' N'
/-- a call whose answer is an int and whose foot is empty -/
theorem sp0_int {n : Int} (C : Sp w D U f vs [] (fun v l => l = [] ∧ ∃ t, v = .int n t)) (B : Below A₀ base outer h₀) (F : Fr h₀ L s.heap m) (X : (hd.heap_1 w.params).In h₀) (N : News h₀ L s.heap led)
    (T : Top hd.view_39 (looseW hd.view_39 [Str.ofString "GateError", Str.ofString "HashMap"]) mean mg mb h₀) (hk : cs.kind = .function) (hd : dp + D < recursionLimit) (hu : un + U < cLine)
    (hret : ∀ t h' tk', Fr h₀ L h' m → News h₀ L h' led → Q (.int n t) { s with heap := h', toks := tk' }) :
    wpAny (model PySem.Challenge.rw_qz0154_01.row.prog w) (ktrTop dp un gd cn cs L a ccd cl outer) (call (.ref f) vs) Q E s :=
  sp0_use (foot := []) C (fun _ _ h => h) B F X N T hk hd hu fun v h' tk' p F' N' => (match p with | ⟨t, e⟩ => e ▸ hret t h' tk' F' N')
theorem sp0_c {x : Value} (C : Sp w D U f vs [] (fun v l => l = [] ∧ v = x)) (B : Below A₀ base outer h₀) (F : Fr h₀ L s.heap m) (X : (hd.heap_1 w.params).In h₀) (N : News h₀ L s.heap led)
    (T : Top hd.view_39 (looseW hd.view_39 [Str.ofString "GateError", Str.ofString "HashMap"]) mean mg mb h₀) (hk : cs.kind = .function) (hd : dp + D < recursionLimit) (hu : un + U < cLine)
    (hret : ∀ h' tk', Fr h₀ L h' m → News h₀ L h' led → Q x { s with heap := h', toks := tk' }) :
    wpAny (model PySem.Challenge.rw_qz0154_01.row.prog w) (ktrTop dp un gd cn cs L a ccd cl outer) (call (.ref f) vs) Q E s :=
  sp0_use (foot := []) C (fun _ _ h => h) B F X N T hk hd hu fun v h' tk' p F' N' => p ▸ hret h' tk' F' N'
theorem sp_use {foot : Led} {post : Value → Led → Prop} {rest : Led} (C : Sp w D U f vs foot post) (B : Below A₀ base outer h₀) (F : Fr h₀ L s.heap m) (X : (Mine.hd.heap_1 w.params).In h₀) (N : News h₀ L s.heap (foot ++ rest)) (OR : OwnOff rest (foot.map (·.1)))
    (T : Top Mine.hd.view_39 (looseW Mine.hd.view_39 [Str.ofString "GateError", Str.ofString "HashMap"]) mean mg mb h₀) (hk : cs.kind = .function) (hd : dp + D < recursionLimit) (hu : un + U < cLine)
    (hret : ∀ v foot' h' tk', post v foot' → OwnOff rest (foot'.map (·.1)) → Fr h₀ L h' m → News h₀ L h' (foot' ++ rest) → Q v { s with heap := h', toks := tk' }) :
    wpAny (model PySem.Challenge.rw_qz0154_01.row.prog w) (ktrTop dp un gd cn cs L a ccd cl outer) (call (.ref f) vs) Q E s :=
  C mean mg mb dp un gd cn cs a ccd cl outer A₀ base h₀ L m s Q E rest B F X N OR T hk hd hu hret
theorem sp_keep {n : Int} {foot rest : Led} (C : Sp w D U f vs foot (fun v l => (∃ t, v = .int n t) ∧ l = foot)) (B : Below A₀ base outer h₀) (F : Fr h₀ L s.heap m) (X : (Mine.hd.heap_1 w.params).In h₀) (N : News h₀ L s.heap (foot ++ rest)) (OR : OwnOff rest (foot.map (·.1)))
    (T : Top Mine.hd.view_39 (looseW Mine.hd.view_39 [Str.ofString "GateError", Str.ofString "HashMap"]) mean mg mb h₀) (hk : cs.kind = .function) (hd : dp + D < recursionLimit) (hu : un + U < cLine)
    (hret : ∀ t h' tk', Fr h₀ L h' m → News h₀ L h' (foot ++ rest) → Q (.int n t) { s with heap := h', toks := tk' }) :
    wpAny (model PySem.Challenge.rw_qz0154_01.row.prog w) (ktrTop dp un gd cn cs L a ccd cl outer) (call (.ref f) vs) Q E s :=
  sp_use C B F X N OR T hk hd hu fun v l h' tk' p O' F' N' => (match p with | ⟨⟨t, e⟩, e2⟩ => e ▸ hret t h' tk' F' (e2 ▸ N'))
/-- a call whose answer is plain and whose foot is a table: what the table shows comes as hypotheses, not as one chain to take apart -/
theorem sp_tab {x : Value} {M : Addr} {σ : Tb} {foot rest : Led} (C : Sp w D U f vs foot (fun v led' => v = x ∧ TabIs w M σ led')) (B : Below A₀ base outer h₀) (F : Fr h₀ L s.heap m) (X : (Mine.hd.heap_1 w.params).In h₀) (N : News h₀ L s.heap (foot ++ rest)) (OR : OwnOff rest (foot.map (·.1)))
    (T : Top Mine.hd.view_39 (looseW Mine.hd.view_39 [Str.ofString "GateError", Str.ofString "HashMap"]) mean mg mb h₀) (hk : cs.kind = .function) (hd : dp + D < recursionLimit) (hu : un + U < cLine)
    (hret : ∀ (_ : Tok) (led' : Led) (h' : Heap) (tk' : Nat) (Md V B K O : Addr) (hh : Nat → Int) (tt : Nat → Tok) (n : Nat), (M, instObj 502 Md) ∈ led' → (Md, dictOf (mdOf hh tt σ V B K O) n) ∈ led' → ValsAt w led' V σ.vals → KeysAt w led' K σ.ks → OrdAt led' O σ.ord → TabIs w M σ led' → OwnOff rest (led'.map (·.1)) → Fr h₀ L h' m → News h₀ L h' (led' ++ rest) → Q x { s with heap := h', toks := tk' }) :
    wpAny (model PySem.Challenge.rw_qz0154_01.row.prog w) (ktrTop dp un gd cn cs L a ccd cl outer) (call (.ref f) vs) Q E s := sp_use C B F X N OR T hk hd hu fun v led' h' tk' p O' F' N' => p.1 ▸ (match p.2.inst with
    | .mk Md V B K O hh tt n h1 h2 h3 h4 h5 => hret 0 led' h' tk' Md V B K O hh tt n h1 h2 h3 h4 h5 p.2 O' F' N')
theorem sp_tabI {g : Tok → Value} {M : Addr} {σ : Tb} {foot rest : Led} (C : Sp w D U f vs foot (fun v led' => (∃ t, v = g t) ∧ TabIs w M σ led')) (B : Below A₀ base outer h₀) (F : Fr h₀ L s.heap m) (X : (Mine.hd.heap_1 w.params).In h₀) (N : News h₀ L s.heap (foot ++ rest)) (OR : OwnOff rest (foot.map (·.1)))
    (T : Top Mine.hd.view_39 (looseW Mine.hd.view_39 [Str.ofString "GateError", Str.ofString "HashMap"]) mean mg mb h₀) (hk : cs.kind = .function) (hd : dp + D < recursionLimit) (hu : un + U < cLine)
    (hret : ∀ (t9 : Tok) (led' : Led) (h' : Heap) (tk' : Nat) (Md V B K O : Addr) (hh : Nat → Int) (tt : Nat → Tok) (n : Nat), (M, instObj 502 Md) ∈ led' → (Md, dictOf (mdOf hh tt σ V B K O) n) ∈ led' → ValsAt w led' V σ.vals → KeysAt w led' K σ.ks → OrdAt led' O σ.ord → TabIs w M σ led' → OwnOff rest (led'.map (·.1)) → Fr h₀ L h' m → News h₀ L h' (led' ++ rest) → Q (g t9) { s with heap := h', toks := tk' }) :
    wpAny (model PySem.Challenge.rw_qz0154_01.row.prog w) (ktrTop dp un gd cn cs L a ccd cl outer) (call (.ref f) vs) Q E s := sp_use C B F X N OR T hk hd hu fun v led' h' tk' p O' F' N' => (match p.1, p.2.inst with
    | ⟨t, e⟩, .mk Md V B K O hh tt n h1 h2 h3 h4 h5 => e ▸ hret t led' h' tk' Md V B K O hh tt n h1 h2 h3 h4 h5 p.2 O' F' N')
end
end
theorem kw_7 : True := by
  (k_with "M call ref" => (k_here; (with_reducible show wpAny _ _ (call (Value.ref 292) _ _) _ _ _); k_dflt (refine' sp0_int (hash_sp _ _ _ ?q_z) ?B ?F ?X ?N ?T ?hk ?hd ?hu ?_; (case B => k_asm); (case F => k_asm); (case X => k_asm); (case N => k_asm); (case T => k_asm); (case hk => first | exact rfl | assumption); (case q_z => walk_at "mine om"); (case hd => ktr_room); (case hu => ktr_units)); intro _ _ _ _ _; walk_at "mine df"))
  trivial
section
theorem brel_len (bks : List Addr) : ∀ (bls : List (List Int)) (l : Led), BRel bks bls l → bks.length = bls.length := by
  induction bks with
  | nil =>
    intro bls l h
    cases bls with
    | nil => rfl
    | cons q r => cases l <;> exact h.elim
  | cons x r ih =>
    intro bls l h
    cases bls with
    | nil => cases l <;> exact h.elim
    | cons q r2 =>
      cases l with
      | nil => exact h.elim
      | cons p l =>
        obtain ⟨a, o⟩ := p
        have := ih r2 l h.2.2
        simp only [List.length_cons, this]
theorem brel_at (bks : List Addr) : ∀ (bls : List (List Int)) (l : Led), BRel bks bls l → ∀ (j : Nat) (q : List Int), bls[j]? = some q → ∃ x vs n, bks[j]? = some x ∧ (x, W.listOf (List.toArray vs) n) ∈ l ∧ IntsAre vs q := by
  induction bks with
  | nil =>
    intro bls l h j q e
    cases bls with
    | nil => simp at e
    | cons q r => cases l <;> exact h.elim
  | cons x r ih =>
    intro bls l h j q e
    cases bls with
    | nil => cases l <;> exact h.elim
    | cons q' r2 =>
      cases l with
      | nil => exact h.elim
      | cons p l =>
        obtain ⟨a, o⟩ := p
        obtain ⟨h1, ⟨vs, n, h2, h3⟩, h4⟩ := h
        cases j with
        | zero =>
          simp only [List.getElem?_cons_zero, Option.some.injEq] at e
          subst e
          exact ⟨a, vs, n, by simp [h1], by rw [h2]; exact .head _, h3⟩
        | succ j =>
          obtain ⟨y, vs, n, a1, a2, a3⟩ := ih r2 l h4 j q (by simpa using e)
          exact ⟨y, vs, n, by simpa using a1, .tail _ a2, a3⟩
theorem nbuck_pos (m : Int) : 1 ≤ nbuck m ∧ nbuck m ≤ 4 := by unfold nbuck; split <;> (try split) <;> omega
theorem hidx_lt (b : By) {n : Nat} (h : 1 ≤ n) : hidx b n < n ∧ 0 ≤ Builtin.bitAnd (hashF b) ((n : Int) - 1) ∧ Builtin.bitAnd (hashF b) ((n : Int) - 1) ≤ (n : Int) - 1 := by
  have h1 := bitAnd_range (hashF b) (y := (n : Int) - 1) (by omega)
  unfold hidx
  generalize Builtin.bitAnd (hashF b) ((n : Int) - 1) = z at h1 ⊢
  omega
section
variable {prog : Program} {w : World} {A : Around} {E : Value → Shared → Prop} {s : Shared} {h₀ h : Heap} {L D : Addr} {m : Str → Option Value} {news : List (Addr × Obj)}
theorem mi_bucket {value slice : PySem.Expr} {bks : List Addr} {n : Nat} {k : Int} {u : Tok} {x : Addr} {Q : Value → Shared → Prop} (N : News h₀ L s.heap news) (hm : (D, W.listOf (bks.map Value.ref).toArray n) ∈ news) (hx : bks[k.toNat]? = some x)
    (h0 : 0 ≤ k) (hf : k < 2 ^ 63) (h : Q (.ref x) s) (hs : subscripted slice false (.ref D) (.int k u) = operate [.ref D, .int k u] (getItem (.ref D) (.int k u))) :
    wpAny (model prog w) A (subscriptTail value slice (.ref D) (.int k u)) Q E s := by
  have hl : s.heap.IsList D (bks.map Value.ref).toArray := ⟨_, (N _ hm).1, rfl, n, rfl⟩
  exact tail_any hl.typeIs slot_list_getitem.lookup (wpAny_getItem_list hl h0 hf (by simp [hx]) h) hs
end
noncomputable def slotOf (ks : List (Int × By)) (b : By) : Option Int := (ks.find? (fun p => p.2 == b)).map (·.1)
theorem krel_keys (kkvs : List (Int × Value)) : ∀ ks : List (Int × By), KRel kkvs ks → kkvs.map (·.1) = ks.map (·.1) := by
  induction kkvs with
  | nil => intro ks h; cases ks with
    | nil => rfl
    | cons p r => exact h.elim
  | cons p r ih =>
    intro ks h
    cases ks with
    | nil => exact h.elim
    | cons q r2 => simp only [List.map_cons, ih r2 h.2.2, h.1]
theorem krel_val (kkvs : List (Int × Value)) : ∀ ks : List (Int × By), KRel kkvs ks → ∀ n : Int, (∃ k t, ks.find? (fun p => p.1 = n) = some (n, k) ∧ valueAt kkvs n = some (.bytes k t)) ∨ (ks.find? (fun p => p.1 = n) = none ∧ valueAt kkvs n = none) := by
  induction kkvs with
  | nil => intro ks h n; cases ks with
    | nil => exact .inr ⟨rfl, rfl⟩
    | cons p r => exact h.elim
  | cons p r ih =>
    obtain ⟨i, v⟩ := p
    intro ks h n
    cases ks with
    | nil => exact h.elim
    | cons q r2 =>
      obtain ⟨j, b⟩ := q
      obtain ⟨h1, ⟨t, h2⟩, h3⟩ := h
      by_cases e : i = n
      · have ej : j = n := h1 ▸ e
        subst ej
        exact .inl ⟨b, t, by simp, by simp [valueAt, e, h2]⟩
      · have ej : ¬ j = n := h1 ▸ e
        rcases ih r2 h3 n with ⟨k, t', a, c⟩ | ⟨a, c⟩
        · refine .inl ⟨k, t', by simp [ej, a], ?_⟩
          unfold valueAt at c ⊢
          simpa [e] using c
        · refine .inr ⟨by simp only [List.find?_cons, ej, decide_false]; exact a, ?_⟩
          unfold valueAt at c ⊢
          simpa [e] using c
theorem find_mem {ks : List (Int × By)} {n : Int} {k : By} (hm : (n, k) ∈ ks) (hn : (ks.map (·.1)).Nodup) : ks.find? (fun p => p.1 = n) = some (n, k) := by
  induction ks with
  | nil => cases hm
  | cons p r ih =>
    simp only [List.map_cons, List.nodup_cons] at hn
    rcases List.mem_cons.mp hm with e | hm
    · subst e; simp
    · have hne : ¬ p.1 = n := fun e => hn.1 (by rw [e]; exact List.mem_map.mpr ⟨_, hm, rfl⟩)
      simp only [List.find?_cons, hne, decide_false]
      exact ih hm hn.2
theorem krel_at {kkvs : List (Int × Value)} {ks : List (Int × By)} (h : KRel kkvs ks) {n : Int} {k : By} (hm : (n, k) ∈ ks) (hn : (kkvs.map (·.1)).Nodup) : ∃ t, valueAt kkvs n = some (.bytes k t) := by
  have e := find_mem hm (krel_keys _ _ h ▸ hn)
  rcases krel_val _ _ h n with ⟨k', t, a, c⟩ | ⟨a, c⟩
  · rw [e] at a; cases a; exact ⟨t, c⟩
  · rw [e] at a; cases a
theorem dict_nodup {prog : Program} {w : World} {o : Obj} {kvs : List (Int × Value)} (h : o.IsDictOf (intKind prog w) kvs) : (kvs.map (·.1)).Nodup := by
  obtain ⟨_, _, _, _, _, _, hn⟩ := h
  exact hn
section searching
variable {prog : Program} {w : World} {A : Around} {E : Value → Shared → Prop} {s : Shared} {env : Env} {h₀ : Heap} {x : Str} {body : List Stmt} {Q : Flow → Shared → Prop}
def SPost (h₀ : Heap) (L : Addr) (m : Str → Option Value) (led : Led) (s₁ : Shared) (Q : Flow → Shared → Prop) (P : Prop) (f : Flow) (s₂ : Shared) : Prop :=
  match f with
  | .ret v => Q (.ret v) s₂
  | .brk => Q .next s₂
  | _ => P ∧ ∃ h' tk', s₂ = { s₁ with heap := h', toks := tk' } ∧ Fr h₀ L h' m ∧ News h₀ L h' led
theorem spost_end {L : Addr} {m : Str → Option Value} {led : Led} {s₁ : Shared} {P : Prop} {h' : Heap} {tk' : Nat} (hp : P) (F : Fr h₀ L h' m) (N : News h₀ L h' led) :
    SPost h₀ L m led s₁ Q P .next { s₁ with heap := h', toks := tk' } := ⟨hp, h', tk', rfl, F, N⟩
theorem search_list {l : Addr} {vs : List Value} {ns : List Int} {nn : Nat} {m₀ : Str → Option Value} {led : Led} (P : List Int → Prop)
    (hh : A.handled = none) (hl : (l, W.listOf vs.toArray nn) ∈ led) (hi : IntsAre vs ns) (F : Fr h₀ env.locals s.heap m₀) (N : News h₀ env.locals s.heap led) (hp : P [])
    (turn : ∀ pre post n t h tk own, ns = pre ++ n :: post → n ∈ ns → P pre → Fr h₀ env.locals h (fun y => if y = x then some (.int n t) else m₀ y) → News h₀ env.locals h (led ++ own) →
      ∀ K9 : Flow → Shared → Prop, (∀ v s', Q (.ret v) s' → K9 (.ret v) s') → (∀ h' tk', P (pre ++ [n]) → Fr h₀ env.locals h' (fun y => if y = x then some (.int n t) else m₀ y) → News h₀ env.locals h' (led ++ own) → K9 .next { s with heap := h', toks := tk' }) → wpAny (model prog w) A (execs body env) K9 E { s with heap := h, toks := tk })
    (done : ∀ (u : Str → Option Value) h tk, P ns → Fr h₀ env.locals h (fun y => if y = x then u y else m₀ y) → News h₀ env.locals h led → Q .next { s with heap := h, toks := tk }) :
    wpAny (model prog w) A (pyIter (.ref l)) (fun it s₂ => LoopAtV prog w A h₀ env x body Q E it s₂) E s := by
  have em : ∀ (v : Str → Option Value) (u : Str → Option Value), (fun y => if y = x then v y else kstB (fun z => if ([] : List Str).contains z then u z else m₀ z) [] y) = fun y => if y = x then v y else m₀ y := by
    intro v u
    funext y
    by_cases hy : y = x
    · simp [hy]
    · rw [if_neg hy, if_neg hy]; rfl
  refine kst_listL (σ := Unit) (nn := nn) (fun _ => led) (fun _ => []) (fun _ => True) [] (fun pre _ => P pre) () hh (fun _ => hl) hi F N trivial (fun _ h => nomatch h) hp ?_ ?_
  · intro c pre post n t u h tk own e hm hoff _ hP F1 N1
    rw [em (fun _ => some (.int n t)) u] at F1
    refine wpAny_mono (turn pre post n t h tk own e hm hP F1 N1 (SPost h₀ env.locals _ (led ++ own) { s with heap := h, toks := tk } Q _) (fun _ _ q => q) (fun _ _ a b c => spost_end a b c)) (fun f s₂ h₂ => ?_) fun _ _ x => x
    have fin : (P (pre ++ [n]) ∧ ∃ h' tk', s₂ = { ({ s with heap := h, toks := tk } : Shared) with heap := h', toks := tk' } ∧ Fr h₀ env.locals h' (fun y => if y = x then some (.int n t) else m₀ y) ∧ News h₀ env.locals h' (led ++ own)) →
        InvEndN h₀ env.locals (KstS (fun _ : Unit => led) (fun _ => []) (fun _ => True) x [] m₀ (fun pre _ => P pre) (pre ++ [n])) own (((fun _ : Unit => led) ()).map (·.1)) { s with heap := h, toks := tk } s₂ := by
      rintro ⟨hp', h', tk', rfl, F', N'⟩
      exact kst_end () F' N' (fun p hp => List.mem_append_left _ hp) (fun p hp => List.mem_append_right _ hp) rfl trivial (fun _ h => nomatch h) (fun z hz _ _ => by simp [hz]) hp'
    cases f with
    | ret v => exact h₂
    | brk => exact h₂
    | next => exact fin h₂
    | cont => exact fin h₂
  · intro c u h tk _ hP F1 N1
    rw [em u u] at F1
    exact done u h tk hP F1 N1
end searching
theorem slotOf_mem {ks : List (Int × By)} {n : Int} {b : By} (hm : (n, b) ∈ ks) (hn : (ks.map (·.2)).Nodup) : slotOf ks b = some n := by
  unfold slotOf
  induction ks with
  | nil => cases hm
  | cons p r ih =>
    simp only [List.map_cons, List.nodup_cons] at hn
    rcases List.mem_cons.mp hm with e | hm
    · subst e; simp
    · have hne : (p.2 == b) = false := by
        rw [beq_eq_false_iff_ne]
        intro e
        exact hn.1 (List.mem_map.mpr ⟨_, hm, e.symm⟩)
      rw [List.find?_cons, hne]
      exact ih hm hn.2
theorem slotOf_none {ks : List (Int × By)} {b : By} (h : ∀ s k, (s, k) ∈ ks → k ≠ b) : slotOf ks b = none := by
  unfold slotOf
  rw [List.find?_eq_none.mpr]
  · rfl
  · rintro ⟨s, k⟩ hm
    simpa using h s k hm
theorem by_eq {a b : Array UInt8} (h : (a.toList == b.toList) = true) : a = b := Array.ext' (beq_iff_eq.mp h)
theorem by_ne {a b : Array UInt8} (h : (a.toList == b.toList) = false) : a ≠ b := fun e => by subst e; simp at h
end
theorem kw_8 : True := by
  (k_with "M subscriptTail" => (k_here; (with_reducible show wpAny _ _ (subscriptTail _ _ (Value.ref _) (Value.int (Builtin.bitAnd _ _) _)) _ _ _); (with_unfolding_all refine' mi_bucket ?q_N ?q_m ?q_x ?q_z ?q_f ?_ ?q_k6; (case q_N => k_asm); (case q_m => k_mem); (case q_x => assumption); (case q_z => walk_at "mine om"); (case q_f => walk_at "mine om"); (case q_k6 => with_unfolding_all rfl))))
  (k_with "M SPost" => ((with_reducible show SPost _ _ _ _ _ _ _ (Flow.ret _) _); dsimp only [SPost]))
  trivial
section
inductive TBuck (σ : Tb) (led : Led) (B : Addr) : Prop
  | mk (bks : List Addr) (bls : List (List Int)) (nB : Nat) (bkL : Led) (h1 : (B, W.listOf (List.map Value.ref bks).toArray nB) ∈ led) (h2 : BRel bks bls bkL) (h3 : ∀ p ∈ bkL, p ∈ led) (h4 : BkInv bls σ.ks) (h5 : bls.length = nbuck σ.most)
inductive TInstB (w : World) (M : Addr) (σ : Tb) (led : Led) : Prop
  | mk (Md V B K O : Addr) (hh : Nat → Int) (tt : Nat → Tok) (n : Nat) (h1 : (M, instObj 502 Md) ∈ led) (h2 : (Md, dictOf (mdOf hh tt σ V B K O) n) ∈ led) (h4 : KeysAt w led K σ.ks) (h6 : TBuck σ led B)
theorem TabIs.instB {w : World} {M : Addr} {σ : Tb} {led : Led} (h : TabIs w M σ led) : TInstB w M σ led := by
  cases h with
  | mk hO hK rK hV rV rB iB nb et ndT off d1 d2 d3 d4 d5 d6 d7 d8 d9 d10 d11 d12 d13 d14 d15 lK lV =>
    subst et
    exact ⟨_, _, _, _, _, _, _, _, .head _, .tail _ (.head _), ⟨_, _, .tail _ (.tail _ (.tail _ (.tail _ (.head _)))), hK, lK, rK⟩,
      ⟨_, _, _, _, .tail _ (.tail _ (.tail _ (.head _))), rB, fun p hp => .tail _ (.tail _ (.tail _ (.tail _ (.tail _ (.tail _ (List.mem_append_right _ hp)))))), iB, nb⟩⟩
theorem kw_9 : True := by
  (k_with "M mine tosubt" => repeat' ((fail_if_success (with_reducible show wpAny _ _ (subscriptTail (PySem.Expr.Name _ _) _ (Value.ref _) _) _ _ _)); walk_at "mine one"))
  trivial
theorem peer_sp (w : World) (M : Addr) (σ : Tb) (led : Led) (hT : TabIs w M σ led) (b : By) (tb : Tok) (hz : (b.size : Int) = σ.kw) (hz2 : b.size ≤ 100) (hn : (σ.ks.map (·.2)).Nodup) :
    Sp w 3 32 325 [.ref M, .bytes b tb] led (fun v led' => (match slotOf σ.ks b with | none => v = .none | some s => ∃ t, v = .int s t) ∧ TabIs w M σ led') := by
  obtain ⟨Md, V, Bk, K, O, hh, tt, n, hM, hMd, ⟨oK, kkvs, mK, hK, loK, rK⟩, ⟨bks, bls, nB, bkL, mB, rB, sB, iB, nb⟩⟩ := TabIs.instB hT
  have hlB : (bks.map Value.ref).length = nbuck σ.most := by rw [List.length_map, brel_len _ _ _ rB, nb]
  have hnb := nbuck_pos σ.most
  have hn4 := hnb.2
  have hix := hidx_lt b hnb.1
  have hix2 := hix.2.1
  have hix3 := hix.2.2
  have hex : ∃ q, bls[hidx b (nbuck σ.most)]? = some q := ⟨_, List.getElem?_eq_getElem (by rw [nb]; exact hix.1)⟩
  obtain ⟨q, hq⟩ := hex
  obtain ⟨x, vs, nx, hbx, hxm, hvs⟩ := brel_at _ _ _ rB _ _ hq
  have hbx' : bks[(Builtin.bitAnd (hashF b) ((nbuck σ.most : Int) - 1)).toNat]? = some x := hbx
  have hxt : (x, W.listOf vs.toArray nx) ∈ led := sB _ hxm
  have hnk := dict_nodup hK
  walk_at "mine sp"
  intro mean mg mb dp un gd outer A₀ base h₀ L hpS gS dS kS oS Q E rest B F X N OR T hd hu hnx hret hpo
  walk_at "mine steps"
  refine' search_list (nn := nx) (fun pre => ∀ s ∈ pre, ∀ k, (s, k) ∈ σ.ks → k ≠ b) (by rfl) ?hl hvs (by assumption) (by assumption) (fun _ h => nomatch h) ?turn ?done
  case hl => k_mem
  case turn =>
    intro pre post n t h1 tk1 own e1 hmem hP F1 N1 K9 hr9 hn9
    obtain ⟨kb, hkb, _⟩ := (iB.2 _ _ hq).2 n hmem
    obtain ⟨tkb, hv⟩ := krel_at rK hkb hnk
    (try k_fold)
    walk_at "mine tosubt"
    refine kda_item (knd := PySem.intKind PySem.Challenge.rw_qz0154_01.row.prog w) N1 (List.mem_append_left _ (.tail _ (List.mem_append_left _ mK))) hK (intKind_is _ _ _ _) hv ?_ (by with_unfolding_all rfl) (by intro _; with_unfolding_all rfl)
    walk_at "mine steps"
    · refine hr9 _ _ ?_
      refine' hret _ _ _ _ ⟨?e1, hT⟩ OR ?f1 ?n1
      case f1 => assumption
      case n1 => exact news_sub (by assumption) fun p hp => List.mem_append_left _ (.tail _ hp)
      rw [slotOf_mem (n := n) (by have hkk : kb = b := by_eq (by assumption)
                                  exact hkk ▸ hkb) hn]
      exact ⟨_, rfl⟩
    · refine hn9 _ _ ?_ (by assumption) (by assumption)
      intro s' hs' k hk'
      rcases List.mem_append.mp hs' with h9 | h9
      · exact hP s' h9 k hk'
      · have e9 := List.mem_singleton.mp h9
        subst e9
        have : k = kb := by
          have h1 := find_mem hk' (krel_keys _ _ rK ▸ hnk)
          have h2 := find_mem hkb (krel_keys _ _ rK ▸ hnk)
          rw [h1] at h2
          cases h2; rfl
        rw [this]
        exact by_ne (by assumption)
  case done =>
    intro u h1 tk1 hP F1 N1
    (try k_fold)
    walk_at "mine steps"
    refine' hret _ _ _ _ ⟨?e2, hT⟩ OR ?f2 ?n2
    case f2 => assumption
    case n2 => exact news_sub (by assumption) fun p hp => .tail _ hp
    rw [slotOf_none ?_]
    intro s' k hk' e9
    subst e9
    obtain ⟨l9, hl9, hs9⟩ := iB.1 s' k hk'
    rw [nb, hq] at hl9
    cases hl9
    exact hP s' hs9 k hk' rfl
theorem sp_mono {w : World} {D U : Nat} {f : Addr} {vs : List Value} {foot : Led} {p q : Value → Led → Prop} (C : Sp w D U f vs foot p) (h : ∀ v l, p v l → q v l) : Sp w D U f vs foot q :=
  fun mean mg mb dp un gd cn cs a ccd cl outer A₀ base h₀ L m s Q E rest B F X N O T hk hd hu hret =>
    C mean mg mb dp un gd cn cs a ccd cl outer A₀ base h₀ L m s Q E rest B F X N O T hk hd hu fun v l h' tk' z => hret v l h' tk' (h v l z)
theorem peer_none (w : World) (M : Addr) (σ : Tb) (led : Led) (hT : TabIs w M σ led) (b : By) (tb : Tok) (hz : (b.size : Int) = σ.kw) (hz2 : b.size ≤ 100) (hn : (σ.ks.map (·.2)).Nodup) (hS : slotOf σ.ks b = none) :
    Sp w 3 32 325 [.ref M, .bytes b tb] led (fun v led' => v = .none ∧ TabIs w M σ led') :=
  sp_mono (peer_sp w M σ led hT b tb hz hz2 hn) fun v l z => by rw [hS] at z; exact z
theorem peer_some (w : World) (M : Addr) (σ : Tb) (led : Led) (hT : TabIs w M σ led) (b : By) (tb : Tok) (hz : (b.size : Int) = σ.kw) (hz2 : b.size ≤ 100) (hn : (σ.ks.map (·.2)).Nodup) (sl : Int) (hS : slotOf σ.ks b = some sl) :
    Sp w 3 32 325 [.ref M, .bytes b tb] led (fun v led' => (∃ t, v = .int sl t) ∧ TabIs w M σ led') :=
  sp_mono (peer_sp w M σ led hT b tb hz hz2 hn) fun v l z => by rw [hS] at z; exact z
end
theorem kw_10 : True := by
  (k_with "M call ref" => (k_here; (with_reducible show wpAny _ _ (call (Value.ref 325) _ _) _ _ _); k_dflt ((first | refine' sp_tabI (peer_none _ _ _ _ ?q_hT _ _ ?q_z1 ?q_z2 ?q_z3 ?q_z4) ?B ?F ?X ?N ?O ?T ?hk ?hd ?hu ?_ | refine' sp_tab (peer_none _ _ _ _ ?q_hT _ _ ?q_z1 ?q_z2 ?q_z3 ?q_z4) ?B ?F ?X ?N ?O ?T ?hk ?hd ?hu ?_); (case q_hT => k_asm); (case q_z1 => first | assumption | walk_at "mine om" | exact rfl); (case q_z2 => first | assumption | walk_at "mine om" | exact rfl); (case q_z3 => first | assumption | walk_at "mine om" | exact rfl); (case q_z4 => first | assumption | walk_at "mine om" | exact rfl); walk_at "mine call"); intro _ _ _ _ _ _ _ _ _ _ _ _ _ _ _ _ _ _ _; walk_at "mine df"))
  (k_with "M call ref" => (k_here; (with_reducible show wpAny _ _ (call (Value.ref 325) _ _) _ _ _); k_dflt ((first | refine' sp_tabI (peer_some _ _ _ _ ?q_hT _ _ ?q_z1 ?q_z2 ?q_z3 _ ?q_z4) ?B ?F ?X ?N ?O ?T ?hk ?hd ?hu ?_ | refine' sp_tab (peer_some _ _ _ _ ?q_hT _ _ ?q_z1 ?q_z2 ?q_z3 _ ?q_z4) ?B ?F ?X ?N ?O ?T ?hk ?hd ?hu ?_); (case q_hT => k_asm); (case q_z1 => first | assumption | walk_at "mine om" | exact rfl); (case q_z2 => first | assumption | walk_at "mine om" | exact rfl); (case q_z3 => first | assumption | walk_at "mine om" | exact rfl); (case q_z4 => first | assumption | walk_at "mine om" | exact rfl); walk_at "mine call"); intro _ _ _ _ _ _ _ _ _ _ _ _ _ _ _ _ _ _ _; walk_at "mine df"))
  (k_with "M call ref" => (k_here; (with_reducible show wpAny _ _ (call (Value.ref 454) _ _) _ _ _); k_dflt ((first | refine' sp_tabI (used_sp _ _ _ _ ?q_hT _ _ ?q_z1) ?B ?F ?X ?N ?O ?T ?hk ?hd ?hu ?_ | refine' sp_tab (used_sp _ _ _ _ ?q_hT _ _ ?q_z1) ?B ?F ?X ?N ?O ?T ?hk ?hd ?hu ?_); (case q_hT => k_asm); (case q_z1 => first | assumption | walk_at "mine om" | exact rfl); walk_at "mine call"); intro _ _ _ _ _ _ _ _ _ _ _ _ _ _ _ _ _ _ _; walk_at "mine df"))
  trivial
section
theorem lookup_none (w : World) (M : Addr) (σ : Tb) (led : Led) (hT : TabIs w M σ led) (b : By) (tb : Tok) (hz : (b.size : Int) = σ.kw) (hz2 : b.size ≤ 100) (hn : (σ.ks.map (·.2)).Nodup) (hS : slotOf σ.ks b = none) :
    Sp w 4 40 333 [.ref M, .bytes b tb] led (fun v led' => v = .none ∧ TabIs w M σ led') := by
  obtain ⟨Md, V, Bk, K, O, hh, tt, n, hM, hMd, VA, KA, OA⟩ := TabIs.inst hT
  walk_at "mine sp"
  intro mean mg mb dp un gd outer A₀ base h₀ L hpS gS dS kS oS Q E rest B F X N OR T hd hu hnx hret hpo
  walk_at "mine steps"
  (refine' hret _ _ _ _ ⟨?e21, by assumption⟩ (by assumption) ?f21 ?n21; (case n21 => first | assumption | (refine' news_sub (by assumption) ?_; (try dsimp only [List.cons_append]); walk_at "mine sub")); (case f21 => assumption); (case e21 => first | exact rfl | exact ⟨_, rfl⟩))
theorem lookup_some (w : World) (M : Addr) (σ : Tb) (led : Led) (hT : TabIs w M σ led) (b : By) (tb : Tok) (hz : (b.size : Int) = σ.kw) (hz2 : b.size ≤ 100) (hn : (σ.ks.map (·.2)).Nodup) (sl : Int) (hS : slotOf σ.ks b = some sl) (hzo : σ.ord.length ≤ 1000) :
    Sp w 4 40 333 [.ref M, .bytes b tb] led (fun v led' => (∃ t, v = .int sl t) ∧ TabIs w M { σ with ord := σ.ord.erase sl ++ [sl] } led') := by
  obtain ⟨Md, V, Bk, K, O, hh, tt, n, hM, hMd, VA, KA, OA⟩ := TabIs.inst hT
  walk_at "mine sp"
  intro mean mg mb dp un gd outer A₀ base h₀ L hpS gS dS kS oS Q E rest B F X N OR T hd hu hnx hret hpo
  walk_at "mine steps"
  (refine' hret _ _ _ _ ⟨?e22, by assumption⟩ (by assumption) ?f22 ?n22; (case n22 => first | assumption | (refine' news_sub (by assumption) ?_; (try dsimp only [List.cons_append]); walk_at "mine sub")); (case f22 => assumption); (case e22 => first | exact rfl | exact ⟨_, rfl⟩))
end
section
section searching
variable {prog : Program} {w : World} {A : Around} {E : Value → Shared → Prop} {s : Shared} {env : Env} {h₀ : Heap} {x : Str} {body : List Stmt} {Q : Flow → Shared → Prop}
theorem search_range {r : Addr} {a₀ b₀ : Int} {t₀ u₀ v₀ : Tok} {n : Nat} {m₀ : Str → Option Value} {led : Led} (P : Nat → Prop)
    (hh : A.handled = none) (hr : IsRange s.heap r a₀ b₀ 1 t₀ u₀ v₀) (hsmall : Builtin.Range.small a₀ b₀ 1 = true) (hn : Builtin.Range.rangeSize a₀ b₀ 1 = (n : Int)) (F : Fr h₀ env.locals s.heap m₀) (N : News h₀ env.locals s.heap led) (hp : P 0)
    (turn : ∀ (j : Nat) t h tk own, j < n → P j → Fr h₀ env.locals h (fun y => if y = x then some (.int (a₀ + j) t) else m₀ y) → News h₀ env.locals h (led ++ own) →
      ∀ K9 : Flow → Shared → Prop, (∀ v s', Q (.ret v) s' → K9 (.ret v) s') → (∀ h' tk', P (j + 1) → Fr h₀ env.locals h' (fun y => if y = x then some (.int (a₀ + j) t) else m₀ y) → News h₀ env.locals h' (led ++ own) → K9 .next { s with heap := h', toks := tk' }) → wpAny (model prog w) A (execs body env) K9 E { s with heap := h, toks := tk })
    (done : ∀ (u : Str → Option Value) h tk, P n → Fr h₀ env.locals h (fun y => if y = x then u y else m₀ y) → News h₀ env.locals h led → Q .next { s with heap := h, toks := tk }) :
    wpAny (model prog w) A (pyIter (.ref r)) (fun it s₂ => LoopAtV prog w A h₀ env x body Q E it s₂) E s := by
  have em : ∀ (v : Str → Option Value) (u : Str → Option Value), (fun y => if y = x then v y else kstB (fun z => if ([] : List Str).contains z then u z else m₀ z) [] y) = fun y => if y = x then v y else m₀ y := by
    intro v u
    funext y
    by_cases hy : y = x
    · simp [hy]
    · rw [if_neg hy, if_neg hy]; rfl
  refine kst_range (σ := Unit) (fun _ => led) (fun _ => []) (fun _ => True) [] (fun pre _ => P pre.length) () hh hr hsmall hn F N trivial (fun _ h => nomatch h) hp ?_ ?_
  · intro c pre k t u h tk own e hlt hoff _ hP F1 N1
    subst e
    rw [em (fun _ => some (.int (a₀ + (pre.length : Int)) t)) u] at F1
    refine wpAny_mono (turn pre.length t h tk own hlt hP F1 N1 (SPost h₀ env.locals _ (led ++ own) { s with heap := h, toks := tk } Q _) (fun _ _ q => q) (fun _ _ a b c => spost_end a b c)) (fun f s₂ h₂ => ?_) fun _ _ x => x
    have fin : (P (pre.length + 1) ∧ ∃ h' tk', s₂ = { ({ s with heap := h, toks := tk } : Shared) with heap := h', toks := tk' } ∧ Fr h₀ env.locals h' (fun y => if y = x then some (.int (a₀ + (pre.length : Int)) t) else m₀ y) ∧ News h₀ env.locals h' (led ++ own)) →
        InvEndN h₀ env.locals (KstS (fun _ : Unit => led) (fun _ => []) (fun _ => True) x [] m₀ (fun pre _ => P pre.length) (pre ++ [a₀ + (pre.length : Int)])) own (((fun _ : Unit => led) ()).map (·.1)) { s with heap := h, toks := tk } s₂ := by
      rintro ⟨hp', h', tk', rfl, F', N'⟩
      exact kst_end () F' N' (fun p hp => List.mem_append_left _ hp) (fun p hp => List.mem_append_right _ hp) rfl trivial (fun _ h => nomatch h) (fun z hz _ _ => by simp [hz]) (by simpa using hp')
    cases f with
    | ret v => exact h₂
    | brk => exact h₂
    | next => exact fin h₂
    | cont => exact fin h₂
  · intro c u h tk _ hP F1 N1
    rw [em u u] at F1
    exact done u h tk (by simpa [rangeKs] using hP) F1 N1
theorem krel_isSome {kkvs : List (Int × Value)} {ks : List (Int × By)} (h : KRel kkvs ks) (n : Int) : (valueAt kkvs n).isSome = decide (n ∈ ks.map (·.1)) := by
  rcases krel_val _ _ h n with ⟨k, t, a, c⟩ | ⟨a, c⟩
  · rw [c, Option.isSome_some, eq_comm, decide_eq_true_iff]
    exact List.mem_map.mpr ⟨_, List.mem_of_find?_eq_some a, rfl⟩
  · rw [c, Option.isSome_none, eq_comm, decide_eq_false_iff_not]
    intro hm
    obtain ⟨p, hp, e⟩ := List.mem_map.mp hm
    exact absurd e (by simpa using List.find?_eq_none.mp a p hp)
variable {L : Addr} {news : Led}
theorem mi_dnotin {Q : Value → Shared → Prop} {d : Addr} {o : Obj} {kkvs : List (Int × Value)} {ks : List (Int × By)} {k : Int} {t : Tok} (N : News h₀ L s.heap news) (hd : o.IsDictOf (intKind prog w) kkvs) (hp : (d, o) ∈ news) (lo : (d == sysModules) = false) (r : KRel kkvs ks)
    (h : Q (.bool (!decide (k ∈ ks.map (·.1)))) { s with toks := s.toks + 1 }) : wpAny (model prog w) A (compareOp .NotIn (.int k t) (.ref d)) Q E s :=
  kdg_notin (knd := intKind prog w) N hp hd lo (intKind_is _ _ _ _) _ (krel_isSome r k) h
end searching
def Sm4 (x : Int) : Prop := 1 ≤ x ∧ x ≤ 4
theorem kw_11 : True := by
  (k_with "M compareOp NotIn int ref" => (k_here; k_dflt (refine' mi_dnotin ?q_N ?q_d ?q_m ?q_l ?q_r ?_; (case q_N => k_asm); (case q_m => k_mem); (case q_d => assumption); (case q_l => assumption); (case q_r => assumption))))
  trivial
theorem free_sp (w : World) (M : Addr) (σ : Tb) (led : Led) (hT : TabIs w M σ led) (h1 : Sm4 σ.most) :
    Sp w 2 16 354 [.ref M] led (fun v led' => (((∃ i t, v = .int i t ∧ 0 ≤ i ∧ i < σ.most ∧ i ∉ σ.ks.map (·.1) ∧ ∀ j, 0 ≤ j → j < i → j ∈ σ.ks.map (·.1))) ∨ (v = .none ∧ ∀ j, 0 ≤ j → j < σ.most → j ∈ σ.ks.map (·.1))) ∧ TabIs w M σ led') := by
  cases hT
  rename_i Md V Bk K O hh tt n nB nO oV oK vO vkvs kkvs bks bls tl baL bkL hO hK rK hV rV rB iB nb et ndT off d1 d2 d3 d4 d5 d6 d7 d8 d9 d10 d11 d12 d13 d14 d15 lK lV
  walk_at "mine sp"
  intro mean mg mb dp un gd outer A₀ base h₀ L hpS gS dS kS oS Q E rest B F X N OR T hd hu hnx hret hpo
  change News _ _ _ (_ :: _ :: _ :: _ :: _ :: _ :: (tl ++ rest)) at N
  have off2 : OwnOff (tl ++ rest) [M, Md, V, Bk, K, O] := own_app off (own_sub OR own6)
  walk_at "mine toloop"
  refine' search_range (n := σ.most.toNat) (fun q => ∀ j : Int, 0 ≤ j → j < q → j ∈ σ.ks.map (·.1)) (by rfl) (by assumption) ?sm ?sz (by assumption) (by assumption) (fun j a b => absurd b (by simpa using a)) ?turn ?done
  case sm => have := h1.1; have := h1.2; exact small_one (by omega) (by omega) (by omega) (by omega)
  case sz => have := h1.1; have := h1.2; simp [Builtin.Range.rangeSize]; omega
  case turn =>
    intro q t h9 tk1 own e1 hP F1 N1 K9 hr9 hn9
    (try dsimp only [List.cons_append] at N1)
    (try k_fold)
    walk_at "mine steps"
    · refine hn9 _ _ ?_ (by assumption) (by assumption)
      intro j j0 j1
      by_cases e : j = q
      · subst e
        have hh : (0 : Int) + (q : Int) ∈ σ.ks.map (·.1) := by first | assumption | exact Decidable.of_not_not (by assumption)
        simpa using hh
      · exact hP j j0 (by omega)
    · refine hr9 _ _ ?_
      (refine' hret _ ((M, ?_) :: (Md, ?_) :: (V, ?_) :: (Bk, ?_) :: (K, ?_) :: (O, ?_) :: tl) _ _ ⟨?e29, ?t29⟩ ?o29 ?f29 ?n29; (case n29 => (refine' news_sub (by assumption) ?_; (dsimp only [List.cons_append]); walk_at "mine sub")); (case f29 => assumption); (case o29 => exact own_sub OR (fun x hx => hx)))
      · refine .inl ⟨_, _, rfl, by omega, by omega, by assumption, fun j j0 j1 => hP j j0 (by omega)⟩
      · exact TabIs.mk hO hK rK hV rV rB iB nb et ndT off d1 d2 d3 d4 d5 d6 d7 d8 d9 d10 d11 d12 d13 d14 d15 lK lV
  case done =>
    intro u h9 tk1 hP F1 N1
    (try k_fold)
    walk_at "mine steps"
    (refine' hret _ ((M, ?_) :: (Md, ?_) :: (V, ?_) :: (Bk, ?_) :: (K, ?_) :: (O, ?_) :: tl) _ _ ⟨?e30, ?t30⟩ ?o30 ?f30 ?n30; (case n30 => (refine' news_sub (by assumption) ?_; (dsimp only [List.cons_append]); walk_at "mine sub")); (case f30 => assumption); (case o30 => exact own_sub OR (fun x hx => hx)))
    · exact .inr ⟨rfl, fun j j0 j1 => hP j j0 (by omega)⟩
    · exact TabIs.mk hO hK rK hV rV rB iB nb et ndT off d1 d2 d3 d4 d5 d6 d7 d8 d9 d10 d11 d12 d13 d14 d15 lK lV
theorem free_some (w : World) (M : Addr) (σ : Tb) (led : Led) (hT : TabIs w M σ led) (h1 : Sm4 σ.most) (i : Int) (hi : 0 ≤ i) (him : i < σ.most) (hni : i ∉ σ.ks.map (·.1)) (hb : ∀ j, 0 ≤ j → j < i → j ∈ σ.ks.map (·.1)) :
    Sp w 2 16 354 [.ref M] led (fun v led' => (∃ t, v = .int i t) ∧ TabIs w M σ led') :=
  sp_mono (free_sp w M σ led hT h1) fun v l ⟨z, z2⟩ => by
    refine ⟨?_, z2⟩
    rcases z with ⟨j, t, e, a, b, c, d⟩ | ⟨e, d⟩
    · have : j = i := by
        by_cases h : j < i
        · exact absurd (hb j a h) c
        · by_cases h' : i < j
          · exact absurd (d i hi h') hni
          · omega
      subst this
      exact ⟨t, e⟩
    · exact absurd (d i hi him) hni
theorem free_none (w : World) (M : Addr) (σ : Tb) (led : Led) (hT : TabIs w M σ led) (h1 : Sm4 σ.most) (hb : ∀ j, 0 ≤ j → j < σ.most → j ∈ σ.ks.map (·.1)) :
    Sp w 2 16 354 [.ref M] led (fun v led' => v = .none ∧ TabIs w M σ led') :=
  sp_mono (free_sp w M σ led hT h1) fun v l ⟨z, z2⟩ => by
    refine ⟨?_, z2⟩
    rcases z with ⟨j, t, e, a, b, c, d⟩ | ⟨e, d⟩
    · exact absurd (hb j a b) c
    · exact e
end
theorem kw_12 : True := by
  (k_with "M call ref" => (k_here; (with_reducible show wpAny _ _ (call (Value.ref 354) _ _) _ _ _); k_dflt ((first | refine' sp_tabI (free_some _ _ _ _ ?q_hT ?q_z5 _ ?q_z2 ?q_z3 ?q_z1 ?q_z4) ?B ?F ?X ?N ?O ?T ?hk ?hd ?hu ?_ | refine' sp_tab (free_some _ _ _ _ ?q_hT ?q_z5 _ ?q_z2 ?q_z3 ?q_z1 ?q_z4) ?B ?F ?X ?N ?O ?T ?hk ?hd ?hu ?_); (case q_hT => k_asm); (case q_z1 => first | assumption | walk_at "mine om" | exact rfl); (case q_z2 => first | assumption | walk_at "mine om" | exact rfl); (case q_z3 => first | assumption | walk_at "mine om" | exact rfl); (case q_z4 => first | assumption | walk_at "mine om" | exact rfl); (case q_z5 => first | assumption | walk_at "mine om" | exact rfl); walk_at "mine call"); intro _ _ _ _ _ _ _ _ _ _ _ _ _ _ _ _ _ _ _; walk_at "mine df"))
  (k_with "M call ref" => (k_here; (with_reducible show wpAny _ _ (call (Value.ref 354) _ _) _ _ _); k_dflt ((first | refine' sp_tabI (free_none _ _ _ _ ?q_hT ?q_z1 ?q_z2) ?B ?F ?X ?N ?O ?T ?hk ?hd ?hu ?_ | refine' sp_tab (free_none _ _ _ _ ?q_hT ?q_z1 ?q_z2) ?B ?F ?X ?N ?O ?T ?hk ?hd ?hu ?_); (case q_hT => k_asm); (case q_z1 => first | assumption | walk_at "mine om" | exact rfl); (case q_z2 => first | assumption | walk_at "mine om" | exact rfl); walk_at "mine call"); intro _ _ _ _ _ _ _ _ _ _ _ _ _ _ _ _ _ _ _; walk_at "mine df"))
  trivial
section
section updF
variable {d : Addr} {o : Obj}
theorem updF_appL {l r : Led} {g : Obj → Led} (h : UpdF d o l g) (k : ∀ p ∈ r, p.1 ≠ d) : UpdF d o (l ++ r) (fun o' => g o' ++ r) := by
  induction h with
  | head a => exact .head fun p hp => (List.mem_append.mp hp).elim (a p) (k p)
  | tail a _ ih => exact .tail a ih
theorem updF_appR {l r : Led} {g : Obj → Led} (k : ∀ p ∈ l, p.1 ≠ d) (h : UpdF d o r g) : UpdF d o (l ++ r) (fun o' => l ++ g o') := by
  induction l with
  | nil => exact h
  | cons p l ih => exact .tail (k p (.head _)) (ih fun q hq => k q (.tail _ hq))
end updF
theorem kw_13 : True := by
  (k_with "M mine updF" => first | ((with_reducible refine' updF_appL ?q_ua ?q_ub); (case q_ub => assumption); (case q_ua => k_updF)) | ((with_reducible refine' updF_appR ?q_ua ?q_ub); (case q_ua => assumption); (case q_ub => k_updF)) | (refine' UpdF.head ?q_ua; (case q_ua => first | assumption | k_all)))
  trivial
noncomputable abbrev ksDel (ks : List (Int × By)) (sl : Int) : List (Int × By) := ks.filter fun p => decide (p.1 ≠ sl)
theorem krel_without {kkvs : List (Int × Value)} (sl : Int) : ∀ {ks : List (Int × By)}, KRel kkvs ks → KRel (PySem.without kkvs sl) (ksDel ks sl) := by
  unfold PySem.without ksDel
  induction kkvs with
  | nil => intro ks h; cases ks with
    | nil => trivial
    | cons p r => exact h.elim
  | cons p r ih =>
    obtain ⟨i, v⟩ := p
    intro ks h
    cases ks with
    | nil => exact h.elim
    | cons q r2 =>
      obtain ⟨j, b⟩ := q
      obtain ⟨h1, h2, h3⟩ := h
      subst h1
      by_cases e : i = sl
      · simp only [List.filter_cons, e, ne_eq, not_true_eq_false, decide_false, Bool.false_eq_true, if_false]
        exact ih h3
      · simp only [List.filter_cons, e, ne_eq, not_false_eq_true, decide_true, if_true]
        exact ⟨rfl, h2, ih h3⟩
theorem krel_length {kkvs : List (Int × Value)} {ks : List (Int × By)} (h : KRel kkvs ks) : kkvs.length = ks.length := by
  have := congrArg List.length (krel_keys _ _ h)
  simpa using this
theorem brel_split (bks : List Addr) : ∀ (bls : List (List Int)) (l : Led), BRel bks bls l → ∀ (j : Nat) (q : List Int), bls[j]? = some q → ∃ l1 x vs n l2, l = l1 ++ (x, W.listOf (List.toArray vs) n) :: l2 ∧ bks[j]? = some x ∧ IntsAre vs q ∧ ∀ vs' q' n', IntsAre vs' q' → BRel bks (bls.set j q') (l1 ++ (x, W.listOf (List.toArray vs') n') :: l2) := by
  induction bks with
  | nil =>
    intro bls l h j q e
    cases bls with
    | nil => simp at e
    | cons q r => cases l <;> exact h.elim
  | cons x r ih =>
    intro bls l h j q e
    cases bls with
    | nil => cases l <;> exact h.elim
    | cons q' r2 =>
      cases l with
      | nil => exact h.elim
      | cons p l =>
        obtain ⟨a, o⟩ := p
        obtain ⟨h1, ⟨vs, n, h2, h3⟩, h4⟩ := h
        cases j with
        | zero =>
          simp only [List.getElem?_cons_zero, Option.some.injEq] at e
          subst e
          exact ⟨[], a, vs, n, l, by simp [h2], by simp [h1], h3, fun vs' q' n' hi => ⟨h1, ⟨vs', n', rfl, hi⟩, h4⟩⟩
        | succ j =>
          obtain ⟨l1, y, vs', n', l2, a1, a2, a3, a4⟩ := ih r2 l h4 j q (by simpa using e)
          exact ⟨(a, o) :: l1, y, vs', n', l2, by simp [a1], by simpa using a2, a3, fun vs' q' n'' hi => ⟨h1, ⟨vs, n, h2, h3⟩, a4 vs' q' n'' hi⟩⟩
theorem own_fst {a b : Led} {l : List Addr} (e : a.map (·.1) = b.map (·.1)) (h : OwnOff a l) : OwnOff b l := fun p hp c hc => by
  have : p.1 ∈ a.map (·.1) := e ▸ List.mem_map.mpr ⟨p, hp, rfl⟩
  obtain ⟨q, hq, e2⟩ := List.mem_map.mp this
  exact e2 ▸ h q hq c hc
theorem nodup_sub_len : ∀ (l m : List Int), l.Nodup → (∀ x ∈ l, x ∈ m) → l.length ≤ m.length
  | [], _, _, _ => by simp
  | a :: l, m, h, k => by
    rw [List.nodup_cons] at h
    have := nodup_sub_len l (m.erase a) h.2 fun x hx => by
      have : x ≠ a := fun e => h.1 (e ▸ hx)
      exact (List.mem_erase_of_ne this).mpr (k x (.tail _ hx))
    rw [List.length_erase_of_mem (k a (.head _))] at this
    have := List.length_pos_of_mem (k a (.head _))
    simp only [List.length_cons]; omega
theorem bk_len {bls : List (List Int)} {ks : List (Int × By)} {j : Nat} {q : List Int} (h : BkInv bls ks) (_ : (ks.map (·.1)).Nodup) (hq : bls[j]? = some q) (hz : ks.length ≤ 1000) : q.length ≤ 1000 := by
  obtain ⟨a, b⟩ := h.2 j q hq
  have := nodup_sub_len q (ks.map (·.1)) a fun x hx => by
    obtain ⟨k, hk, _⟩ := b x hx
    exact List.mem_map.mpr ⟨_, hk, rfl⟩
  rw [List.length_map] at this; omega
theorem bk_remove {bls : List (List Int)} {ks : List (Int × By)} {sl : Int} {k : By} {q : List Int} (h : BkInv bls ks) (hk : (sl, k) ∈ ks) (hn : (ks.map (·.1)).Nodup) (hq : bls[hidx k bls.length]? = some q) :
    BkInv (bls.set (hidx k bls.length) (q.erase sl)) (ksDel ks sl) := by
  have hqn := h.2 _ _ hq
  have hlt : hidx k bls.length < bls.length := by
    by_cases e : hidx k bls.length < bls.length
    · exact e
    · rw [List.getElem?_eq_none (by omega)] at hq; cases hq
  refine ⟨fun s b hs => ?_, fun j l hl => ?_⟩
  · rw [List.length_set]
    obtain ⟨hs1, hs2⟩ := List.mem_filter.mp hs
    have hne : s ≠ sl := by simpa using hs2
    obtain ⟨l, hl, hsl⟩ := h.1 s b hs1
    by_cases e : hidx k bls.length = hidx b bls.length
    · rw [← e, hq] at hl
      cases hl
      exact ⟨q.erase sl, by rw [← e]; simp [hlt], (List.mem_erase_of_ne hne).mpr hsl⟩
    · exact ⟨l, by rw [List.getElem?_set_ne e]; exact hl, hsl⟩
  · rw [List.length_set]
    by_cases e : hidx k bls.length = j
    · subst e
      rw [List.getElem?_set_self hlt] at hl
      cases hl
      refine ⟨hqn.1.erase sl, fun s hs => ?_⟩
      obtain ⟨b, hb, hi⟩ := hqn.2 s (List.mem_of_mem_erase hs)
      have hne : s ≠ sl := fun e => by subst e; exact absurd hs (by simpa using (List.Nodup.not_mem_erase hqn.1))
      exact ⟨b, List.mem_filter.mpr ⟨hb, by simpa using hne⟩, hi⟩
    · rw [List.getElem?_set_ne e] at hl
      obtain ⟨h1, h2⟩ := h.2 j l hl
      refine ⟨h1, fun s hs => ?_⟩
      obtain ⟨b, hb, hi⟩ := h2 s hs
      have hne : s ≠ sl := fun e2 => by
        subst e2
        have h3 := find_mem hk hn
        have h4 := find_mem hb hn
        rw [h3] at h4
        cases h4
        exact e hi
      exact ⟨b, List.mem_filter.mpr ⟨hb, by simpa using hne⟩, hi⟩
inductive NdAt (M Md V B K O x : Addr) (f : Obj → Led) (rest : Led) : Prop
  | mk (oR : ∀ p ∈ rest, p.1 ≠ x) (q1 : Df M x) (q2 : Df Md x) (q3 : Df V x) (q4 : Df B x) (q5 : Df K x) (q6 : Df O x) (sw : ∀ o, ((f o).map (·.1)).Nodup) (sf : ∀ o, OwnOff (f o) [M, Md, V, B, K, O]) (so : ∀ o m1 m2 m3 m4 m5 m6, OwnOff rest (((M, m1) :: (Md, m2) :: (V, m3) :: (B, m4) :: (K, m5) :: (O, m6) :: f o).map (·.1)))
theorem nd_at {M Md V B K O x : Addr} {f : Obj → Led} {rest : Led} {o m1 m2 m3 m4 m5 m6 : Obj} (hf : ∀ o, (x, o) ∈ f o) (he : ∀ o o', (f o).map (·.1) = (f o').map (·.1)) (ndT : ((f o).map (·.1)).Nodup) (off : OwnOff (f o) [M, Md, V, B, K, O])
    (OR : OwnOff rest (((M, m1) :: (Md, m2) :: (V, m3) :: (B, m4) :: (K, m5) :: (O, m6) :: f o).map (·.1))) : NdAt M Md V B K O x f rest := by
  have hx := off _ (hf o)
  exact ⟨fun p hp => OR p hp x (.tail _ (.tail _ (.tail _ (.tail _ (.tail _ (.tail _ (List.mem_map.mpr ⟨_, hf o, rfl⟩))))))), fun e => hx M (.head _) e.symm, fun e => hx Md (.tail _ (.head _)) e.symm, fun e => hx V (.tail _ (.tail _ (.head _))) e.symm, fun e => hx B (.tail _ (.tail _ (.tail _ (.head _)))) e.symm,
    fun e => hx K (.tail _ (.tail _ (.tail _ (.tail _ (.head _))))) e.symm, fun e => hx O (.tail _ (.tail _ (.tail _ (.tail _ (.tail _ (.head _)))))) e.symm, fun o' => he o o' ▸ ndT, fun o' => own_fst (he o o') off,
    fun o' _ _ _ _ _ _ => (show OwnOff rest (M :: Md :: V :: B :: K :: O :: (f o').map (·.1)) from he o o' ▸ OR)⟩
theorem nd_mid {x : Addr} {o : Obj} {l1 l2 : Led} (nd : ((l1 ++ (x, o) :: l2).map (·.1)).Nodup) : (∀ p ∈ l1, p.1 ≠ x) ∧ ∀ p ∈ l2, p.1 ≠ x := by
  simp only [List.map_append, List.map_cons, List.nodup_append, List.nodup_cons] at nd
  exact ⟨fun p hp => nd.2.2 p.1 (List.mem_map.mpr ⟨p, hp, rfl⟩) x (.head _), fun p hp e => nd.2.1.1 (e ▸ List.mem_map.mpr ⟨p, hp, rfl⟩)⟩
theorem nd_r {x : Addr} {o : Obj} {a l1 l2 : Led} (nd : ((a ++ (l1 ++ (x, o) :: l2)).map (·.1)).Nodup) : (∀ p ∈ a, p.1 ≠ x) ∧ (∀ p ∈ l1, p.1 ≠ x) ∧ ∀ p ∈ l2, p.1 ≠ x := by
  rw [List.map_append, List.nodup_append] at nd
  exact ⟨fun p hp => nd.2.2 p.1 (List.mem_map.mpr ⟨p, hp, rfl⟩) x (List.mem_map.mpr ⟨_, List.mem_append_right _ (.head _), rfl⟩), nd_mid nd.2.1⟩
theorem nd_l {x : Addr} {o : Obj} {a l1 l2 : Led} (nd : (((l1 ++ (x, o) :: l2) ++ a).map (·.1)).Nodup) : (∀ p ∈ a, p.1 ≠ x) ∧ (∀ p ∈ l1, p.1 ≠ x) ∧ ∀ p ∈ l2, p.1 ≠ x := by
  rw [List.map_append, List.nodup_append] at nd
  exact ⟨fun p hp e => nd.2.2 x (List.mem_map.mpr ⟨_, List.mem_append_right _ (.head _), rfl⟩) p.1 (List.mem_map.mpr ⟨p, hp, rfl⟩) e.symm, nd_mid nd.1⟩
theorem fst_r {x : Addr} {a l1 l2 : Led} (o o' : Obj) : (a ++ (l1 ++ (x, o) :: l2)).map (·.1) = (a ++ (l1 ++ (x, o') :: l2)).map (·.1) := by simp only [List.map_append, List.map_cons]
theorem fst_l {x : Addr} {a l1 l2 : Led} (o o' : Obj) : ((l1 ++ (x, o) :: l2) ++ a).map (·.1) = ((l1 ++ (x, o') :: l2) ++ a).map (·.1) := by simp only [List.map_append, List.map_cons]
theorem kw_14 : True := by
  (k_with "M call builtin:dict.pop" => (k_here; k_dflt (refine' kob_pop (knd := PySem.intKind _ _) (more := []) ?q_F ?q_N ?q_U ?q_d (intKind_is _ _ _ _) (.inl rfl) (by rfl) (PySem.F.args_dict_pop_2 _ _) ?q_l ?q_z ?_; (case q_F => k_asm); (case q_N => k_asm); (case q_U => k_updF); (case q_d => assumption); (case q_l => assumption); (case q_z => assumption)); intro _ _ _ _ _))
  trivial
theorem unlink_sp (w : World) (M : Addr) (σ : Tb) (led : Led) (hT : TabIs w M σ led) (sl : Int) (tk : Tok) (k : By) (hsk : (sl, k) ∈ σ.ks) (ho : sl ∈ σ.ord) (hz : σ.ord.length ≤ 1000) (hz2 : k.size ≤ 100) (hz3 : σ.ks.length ≤ 1000) :
    Sp w 4 40 475 [.ref M, .int sl tk] led (fun v led' => (∃ t, v = .bytes k t) ∧ TabIs w M { σ with ks := ksDel σ.ks sl, ord := σ.ord.erase sl } led') := by
  cases hT
  rename_i Md V Bk K O hh tt n nB nO oV oK vO vkvs kkvs bks bls tl baL bkL hO hK rK hV rV rB iB nb et ndT off d1 d2 d3 d4 d5 d6 d7 d8 d9 d10 d11 d12 d13 d14 d15 lK lV
  walk_at "mine sp"
  intro mean mg mb dp un gd outer A₀ base h₀ L hpS gS dS kS oS Q E rest B F X N OR T hd hu hnx hret hpo
  change News _ _ _ (_ :: _ :: _ :: _ :: _ :: _ :: (tl ++ rest)) at N
  have off2 : OwnOff (tl ++ rest) [M, Md, V, Bk, K, O] := own_app off (own_sub OR own6)
  have hnb := nbuck_pos σ.most
  have hn4 := hnb.2
  have hix := hidx_lt k hnb.1
  have hix2 := hix.2.1
  have hix3 := hix.2.2
  obtain ⟨q, hq, hsq⟩ := iB.1 sl k hsk
  have hlB : (bks.map Value.ref).length = nbuck σ.most := by rw [List.length_map, brel_len _ _ _ rB, nb]
  have hsz : kkvs.length ≤ sizeLine := by rw [krel_length rK, sizeLine_eq]; omega
  obtain ⟨tk', hval⟩ := krel_at rK hsk (dict_nodup hK)
  obtain ⟨l1, x, vs, nx, l2, rfl, hbx, hvs, hback⟩ := brel_split _ _ _ rB _ _ hq
  have iB' := bk_remove iB hsk (krel_keys _ _ rK ▸ dict_nodup hK) hq
  rw [nb] at hbx
  have hbx' : bks[(Builtin.bitAnd (hashF k) ((nbuck σ.most : Int) - 1)).toNat]? = some x := hbx
  subst et
  have hqz : q.length ≤ 1000 := bk_len iB (krel_keys _ _ rK ▸ dict_nodup hK) hq hz3
  obtain ⟨oB, o1, o2⟩ := nd_r ndT
  obtain ⟨oR, q1, q2, q3, q4, q5, q6, sw, sf, so⟩ := nd_at (x := x) (f := fun o => baL ++ (l1 ++ (x, o) :: l2)) (fun o => List.mem_append_right _ (List.mem_append_right _ (.head _))) fst_r ndT off OR
  have hxm : (x, W.listOf vs.toArray nx) ∈ baL ++ (l1 ++ (x, W.listOf vs.toArray nx) :: l2) := List.mem_append_right _ (List.mem_append_right _ (.head _))
  walk_at "mine steps"
  refine' hret _ ((M, ?_) :: (Md, ?_) :: (V, ?_) :: (Bk, ?_) :: (K, ?_) :: (O, ?_) :: (baL ++ (l1 ++ (x, ?_) :: l2))) _ _ ⟨⟨_, rfl⟩, ?t⟩ ?o ?f ?n
  case n => (dsimp only [List.cons_append]); assumption
  case f => assumption
  case o => exact so _ _ _ _ _ _ _
  case t =>
    refine TabIs.mk (bls := bls.set (hidx k bls.length) (q.erase sl)) ?_ ?_ (krel_without sl rK) hV rV (hback _ _ _ ?_) iB' (by rw [List.length_set]; exact nb) rfl (sw _) (sf _) d1 d2 d3 d4 d5 d6 d7 d8 d9 d10 d11 d12 d13 d14 d15 lK lV
    · assumption
    · assumption
    · assumption
end
theorem kw_15 : True := by
  (k_with "M call ref" => (k_here; (with_reducible show wpAny _ _ (call (Value.ref 475) _ _) _ _ _); k_dflt ((first | refine' sp_tabI (unlink_sp _ _ _ _ ?q_hT _ _ _ ?q_z1 ?q_z2 ?q_z3 ?q_z4 ?q_z5) ?B ?F ?X ?N ?O ?T ?hk ?hd ?hu ?_ | refine' sp_tab (unlink_sp _ _ _ _ ?q_hT _ _ _ ?q_z1 ?q_z2 ?q_z3 ?q_z4 ?q_z5) ?B ?F ?X ?N ?O ?T ?hk ?hd ?hu ?_); (case q_hT => k_asm); (case q_z1 => first | assumption | walk_at "mine om" | exact rfl); (case q_z2 => first | assumption | walk_at "mine om" | exact rfl); (case q_z3 => first | assumption | walk_at "mine om" | exact rfl); (case q_z4 => first | assumption | walk_at "mine om" | exact rfl); (case q_z5 => first | assumption | walk_at "mine om" | exact rfl); walk_at "mine call"); intro _ _ _ _ _ _ _ _ _ _ _ _ _ _ _ _ _ _ _; walk_at "mine df"))
  trivial
section
theorem delete_none (w : World) (M : Addr) (σ : Tb) (led : Led) (hT : TabIs w M σ led) (b : By) (tb : Tok) (hz : (b.size : Int) = σ.kw) (hz2 : b.size ≤ 100) (hn : (σ.ks.map (·.2)).Nodup) (hS : slotOf σ.ks b = none) :
    Sp w 6 60 390 [.ref M, .bytes b tb] led (fun v led' => (∃ t, v = .int (-2) t) ∧ TabIs w M σ led') := by
  obtain ⟨Md, V, Bk, K, O, hh, tt, n, hM, hMd, VA, KA, OA⟩ := TabIs.inst hT
  walk_at "mine sp"
  intro mean mg mb dp un gd outer A₀ base h₀ L hpS gS dS kS oS Q E rest B F X N OR T hd hu hnx hret hpo
  walk_at "mine steps"
  (refine' hret _ _ _ _ ⟨?e52, by assumption⟩ (by assumption) ?f52 ?n52; (case n52 => first | assumption | (refine' news_sub (by assumption) ?_; (try dsimp only [List.cons_append]); walk_at "mine sub")); (case f52 => assumption); (case e52 => first | exact rfl | exact ⟨_, rfl⟩))
theorem delete_some (w : World) (M : Addr) (σ : Tb) (led : Led) (hT : TabIs w M σ led) (b : By) (tb : Tok) (hz : (b.size : Int) = σ.kw) (hz2 : b.size ≤ 100) (hn : (σ.ks.map (·.2)).Nodup) (sl : Int) (hS : slotOf σ.ks b = some sl) (hsk : (sl, b) ∈ σ.ks) (ho : sl ∈ σ.ord) (hzo : σ.ord.length ≤ 1000) (hz3 : σ.ks.length ≤ 1000) :
    Sp w 6 60 390 [.ref M, .bytes b tb] led (fun v led' => (∃ t, v = .int 0 t) ∧ TabIs w M { σ with ks := ksDel σ.ks sl, ord := σ.ord.erase sl } led') := by
  obtain ⟨Md, V, Bk, K, O, hh, tt, n, hM, hMd, VA, KA, OA⟩ := TabIs.inst hT
  walk_at "mine sp"
  intro mean mg mb dp un gd outer A₀ base h₀ L hpS gS dS kS oS Q E rest B F X N OR T hd hu hnx hret hpo
  walk_at "mine steps"
  (refine' hret _ _ _ _ ⟨?e53, by assumption⟩ (by assumption) ?f53 ?n53; (case n53 => first | assumption | (refine' news_sub (by assumption) ?_; (try dsimp only [List.cons_append]); walk_at "mine sub")); (case f53 => assumption); (case e53 => first | exact rfl | exact ⟨_, rfl⟩))
theorem ints_get {vs : List Value} {ns : List Int} (h : IntsAre vs ns) : ∀ (j : Nat) {x : Int}, ns[j]? = some x → ∃ t, vs[j]? = some (.int x t) := by
  induction h with
  | nil => intro j x h; cases h
  | cons a u r ih =>
    intro j x h
    cases j with
    | zero => exact ⟨u, congrArg (fun o => o.map (Value.int · u)) h⟩
    | succ j => exact ih j h
section
variable {prog : Program} {w : World} {A : Around} {E : Value → Shared → Prop} {s : Shared} {h₀ h : Heap} {L D D2 : Addr} {m : Str → Option Value} {news : List (Addr × Obj)} {vs ws : List Value} {ns ms : List Int} {n n2 : Nat}
theorem mi_eqints {Q : Value → Shared → Prop} (N : News h₀ L s.heap news) (hm : (D, W.listOf vs.toArray n) ∈ news) (hi : IntsAre vs ns) (hm2 : (D2, W.listOf ws.toArray n2) ∈ news) (hi2 : IntsAre ws ms) (hu : A.units + 64 < cLine) (h : Q (.bool (decide (ns = ms))) s) :
    wpAny (model prog w) A (compareOp .Eq (.ref D) (.ref D2)) Q E s :=
  ke_eq_ints (PySem.IsL.isList (n := n) (N _ hm).1) (PySem.IsL.isList (n := n2) (N _ hm2).1) hi hi2 hu h
theorem mi_eqcons {Q : Value → Shared → Prop} {sl : Int} (N : News h₀ L s.heap news) (hm : (D, W.listOf vs.toArray n) ∈ news) (hi : IntsAre vs (sl :: ns)) (hm2 : (D2, W.listOf ws.toArray n2) ∈ news) (hi2 : IntsAre ws []) (hu : A.units + 64 < cLine) (h : Q (.bool false) s) :
    wpAny (model prog w) A (compareOp .Eq (.ref D) (.ref D2)) Q E s :=
  mi_eqints N hm hi hm2 hi2 hu (by simpa using h)
theorem mi_item {value slice : PySem.Expr} {k : Int} {u : Tok} {x : Int} {Q : Value → Shared → Prop} (N : News h₀ L s.heap news) (hm : (D, W.listOf vs.toArray n) ∈ news) (hi : IntsAre vs ns) (hx : ns[k.toNat]? = some x)
    (h0 : 0 ≤ k) (hf : k < 2 ^ 63) (h : ∀ t, Q (.int x t) s) (hs : subscripted slice false (.ref D) (.int k u) = operate [.ref D, .int k u] (getItem (.ref D) (.int k u))) :
    wpAny (model prog w) A (subscriptTail value slice (.ref D) (.int k u)) Q E s := by
  have hl : s.heap.IsList D vs.toArray := ⟨_, (N _ hm).1, rfl, n, rfl⟩
  obtain ⟨t, ht⟩ := ints_get hi k.toNat hx
  exact tail_any hl.typeIs slot_list_getitem.lookup (wpAny_getItem_list hl h0 hf (by simp [ht]) (h t)) hs
end
theorem kw_16 : True := by
  (k_with "M compareOp Eq ref ref" => (k_here; k_dflt (refine' mi_eqints ?q_N ?q_m ?q_i ?q_m2 ?q_i2 ?q_u ?_; (case q_N => k_asm); (case q_m => k_mem); (case q_i => assumption); (case q_m2 => k_mem); (case q_i2 => first | exact IntsAre.nil | assumption); (case q_u => ktr_units))))
  trivial
theorem kw_17 : True := by
  (k_with "M compareOp Eq ref ref" => (k_here; k_dflt (refine' mi_eqcons ?q_N ?q_m ?q_i ?q_m2 ?q_i2 ?q_u ?_; (case q_N => k_asm); (case q_m => k_mem); (case q_i => assumption); (case q_m2 => k_mem); (case q_i2 => exact IntsAre.nil); (case q_u => ktr_units))))
  trivial
theorem kw_18 : True := by
  (k_with "M subscriptTail" => (k_here; (with_reducible show wpAny _ _ (subscriptTail _ _ (Value.ref _) (Value.int 0 _)) _ _ _); (with_unfolding_all refine' mi_item ?q_N ?q_m ?q_i ?q_x ?q_z ?q_f ?_ ?q_k6; (case q_N => k_asm); (case q_m => k_mem); (case q_i => assumption); (case q_x => exact rfl); (case q_z => walk_at "mine om"); (case q_f => walk_at "mine om"); (case q_k6 => with_unfolding_all rfl)); intro _))
  trivial
theorem eldest_some (w : World) (M : Addr) (σ : Tb) (led : Led) (hT : TabIs w M σ led) (sl : Int) (r : List Int) (ho : σ.ord = sl :: r) :
    Sp w 2 120 468 [.ref M] led (fun v led' => (∃ t, v = .int sl t) ∧ TabIs w M σ led') := by
  cases hT
  rename_i Md V Bk K O hh tt n nB nO oV oK vO vkvs kkvs bks bls tl baL bkL hO hK rK hV rV rB iB nb et ndT off d1 d2 d3 d4 d5 d6 d7 d8 d9 d10 d11 d12 d13 d14 d15 lK lV
  walk_at "mine sp"
  intro mean mg mb dp un gd outer A₀ base h₀ L hpS gS dS kS oS Q E rest B F X N OR T hd hu hnx hret hpo
  change News _ _ _ (_ :: _ :: _ :: _ :: _ :: _ :: (tl ++ rest)) at N
  have off2 : OwnOff (tl ++ rest) [M, Md, V, Bk, K, O] := own_app off (own_sub OR own6)
  rw [ho] at hO
  walk_at "mine steps"
  · (refine' hret _ ((M, ?_) :: (Md, ?_) :: (V, ?_) :: (Bk, ?_) :: (K, ?_) :: (O, ?_) :: tl) _ _ ⟨?e51, ?t51⟩ ?o51 ?f51 ?n51; (case n51 => (refine' news_sub (by assumption) ?_; (dsimp only [List.cons_append]); walk_at "mine sub")); (case f51 => assumption); (case o51 => exact own_sub OR (fun x hx => hx)))
    · exact ⟨_, rfl⟩
    · exact TabIs.mk (by rw [ho]; exact hO) hK rK hV rV rB iB nb et ndT off d1 d2 d3 d4 d5 d6 d7 d8 d9 d10 d11 d12 d13 d14 d15 lK lV
theorem kw_19 : True := by
  (k_with "M call ref" => (k_here; (with_reducible show wpAny _ _ (call (Value.ref 468) _ _) _ _ _); k_dflt ((first | refine' sp_tabI (eldest_some _ _ _ _ ?q_hT _ _ ?q_z1) ?B ?F ?X ?N ?O ?T ?hk ?hd ?hu ?_ | refine' sp_tab (eldest_some _ _ _ _ ?q_hT _ _ ?q_z1) ?B ?F ?X ?N ?O ?T ?hk ?hd ?hu ?_); (case q_hT => k_asm); (case q_z1 => first | assumption | walk_at "mine om" | exact rfl); walk_at "mine call"); intro _ _ _ _ _ _ _ _ _ _ _ _ _ _ _ _ _ _ _; walk_at "mine df"))
  trivial
theorem room_free (w : World) (M : Addr) (σ : Tb) (led : Led) (hT : TabIs w M σ led) (h1 : Sm4 σ.most) (i : Int) (hi : 0 ≤ i) (him : i < σ.most) (hni : i ∉ σ.ks.map (·.1)) (hb : ∀ j, 0 ≤ j → j < i → j ∈ σ.ks.map (·.1)) :
    Sp w 6 150 461 [.ref M] led (fun v led' => (∃ t, v = .int i t) ∧ TabIs w M σ led') := by
  obtain ⟨Md, V, Bk, K, O, hh, tt, n, hM, hMd, VA, KA, OA⟩ := TabIs.inst hT
  walk_at "mine sp"
  intro mean mg mb dp un gd outer A₀ base h₀ L hpS gS dS kS oS Q E rest B F X N OR T hd hu hnx hret hpo
  walk_at "mine steps"
  (refine' hret _ _ _ _ ⟨?e54, by assumption⟩ (by assumption) ?f54 ?n54; (case n54 => first | assumption | (refine' news_sub (by assumption) ?_; (try dsimp only [List.cons_append]); walk_at "mine sub")); (case f54 => assumption); (case e54 => first | exact rfl | exact ⟨_, rfl⟩))
theorem room_full (w : World) (M : Addr) (σ : Tb) (led : Led) (hT : TabIs w M σ led) (h1 : Sm4 σ.most) (hb : ∀ j, 0 ≤ j → j < σ.most → j ∈ σ.ks.map (·.1)) (sl : Int) (r : List Int) (ho : σ.ord = sl :: r) (k : By) (hsk : (sl, k) ∈ σ.ks) (hm : sl ∈ σ.ord) (hz : σ.ord.length ≤ 1000) (hz2 : k.size ≤ 100) (hz3 : σ.ks.length ≤ 1000) :
    Sp w 6 150 461 [.ref M] led (fun v led' => (∃ t, v = .int sl t) ∧ TabIs w M { σ with ks := ksDel σ.ks sl, ord := σ.ord.erase sl } led') := by
  obtain ⟨Md, V, Bk, K, O, hh, tt, n, hM, hMd, VA, KA, OA⟩ := TabIs.inst hT
  walk_at "mine sp"
  intro mean mg mb dp un gd outer A₀ base h₀ L hpS gS dS kS oS Q E rest B F X N OR T hd hu hnx hret hpo
  walk_at "mine steps"
  (refine' hret _ _ _ _ ⟨?e55, by assumption⟩ (by assumption) ?f55 ?n55; (case n55 => first | assumption | (refine' news_sub (by assumption) ?_; (try dsimp only [List.cons_append]); walk_at "mine sub")); (case f55 => assumption); (case e55 => first | exact rfl | exact ⟨_, rfl⟩))
end
theorem kw_20 : True := by
  (k_with "M call ref" => (k_here; (with_reducible show wpAny _ _ (call (Value.ref 461) _ _) _ _ _); k_dflt ((first | refine' sp_tabI (room_free _ _ _ _ ?q_hT ?q_z5 _ ?q_z2 ?q_z3 ?q_z1 ?q_z4) ?B ?F ?X ?N ?O ?T ?hk ?hd ?hu ?_ | refine' sp_tab (room_free _ _ _ _ ?q_hT ?q_z5 _ ?q_z2 ?q_z3 ?q_z1 ?q_z4) ?B ?F ?X ?N ?O ?T ?hk ?hd ?hu ?_); (case q_hT => k_asm); (case q_z1 => first | assumption | walk_at "mine om" | exact rfl); (case q_z2 => first | assumption | walk_at "mine om" | exact rfl); (case q_z3 => first | assumption | walk_at "mine om" | exact rfl); (case q_z4 => first | assumption | walk_at "mine om" | exact rfl); (case q_z5 => first | assumption | walk_at "mine om" | exact rfl); walk_at "mine call"); intro _ _ _ _ _ _ _ _ _ _ _ _ _ _ _ _ _ _ _; walk_at "mine df"))
  (k_with "M call ref" => (k_here; (with_reducible show wpAny _ _ (call (Value.ref 461) _ _) _ _ _); k_dflt ((first | refine' sp_tabI (room_full _ _ _ _ ?q_hT ?q_z1 ?q_z2 _ _ ?q_z3 _ ?q_z4 ?q_z5 ?q_z6 ?q_z7 ?q_z8) ?B ?F ?X ?N ?O ?T ?hk ?hd ?hu ?_ | refine' sp_tab (room_full _ _ _ _ ?q_hT ?q_z1 ?q_z2 _ _ ?q_z3 _ ?q_z4 ?q_z5 ?q_z6 ?q_z7 ?q_z8) ?B ?F ?X ?N ?O ?T ?hk ?hd ?hu ?_); (case q_hT => k_asm); (case q_z1 => first | assumption | walk_at "mine om" | exact rfl); (case q_z2 => first | assumption | walk_at "mine om" | exact rfl); (case q_z3 => first | assumption | walk_at "mine om" | exact rfl); (case q_z4 => first | assumption | walk_at "mine om" | exact rfl); (case q_z5 => first | assumption | walk_at "mine om" | exact rfl); (case q_z6 => first | assumption | walk_at "mine om" | exact rfl); (case q_z7 => first | assumption | walk_at "mine om" | exact rfl); (case q_z8 => first | assumption | walk_at "mine om" | exact rfl); walk_at "mine call"); intro _ _ _ _ _ _ _ _ _ _ _ _ _ _ _ _ _ _ _; walk_at "mine df"))
  trivial
section
theorem upd_of_updF {d : Addr} {o o' : Obj} {l : Led} {g : Obj → Led} (h : UpdF d o l g) : Upd d o o' l (g o') := by
  induction h with
  | head a => exact .head a
  | tail a _ ih => exact .tail a ih
theorem mi_insert {prog : Program} {w : World} {A : Around} {E : Value → Shared → Prop} {s : Shared} {h₀ : Heap} {L D : Addr} {m : Str → Option Value} {news : List (Addr × Obj)} {g : Obj → List (Addr × Obj)} {vs : List Value} {ns : List Int} {n : Nat} {k : Int} {t u : Tok} {Q : Value → Shared → Prop} (F : Fr h₀ L s.heap m) (N : News h₀ L s.heap news) (hi : IntsAre vs ns) (U : UpdF D (W.listOf vs.toArray n) news g) (hz : ns.length ≤ 1000)
    (h : ∀ h' vs' n', Fr h₀ L h' m → News h₀ L h' (g (W.listOf vs'.toArray n')) → IntsAre vs' (k :: ns) → Q .none { s with heap := h' }) :
    wpAny (model prog w) A (call (.builtin "list.insert") [.ref D, .int 0 u, .int k t]) Q E s := by
  have hlen := hi.length
  refine kl_insert (l := .int k t :: vs) F N (by rfl) (by simp [kl_ins]) (upd_of_updF U) (by rw [sizeLine_eq]; simp; omega) fun h' F' N' => h h' _ _ F' N' (.cons k t hi)
theorem krel_stored {kkvs : List (Int × Value)} {ks : List (Int × By)} (h : KRel kkvs ks) {n : Int} (hn : n ∉ ks.map (·.1)) (b : By) (t : Tok) : KRel (PySem.stored kkvs n (.bytes b t)) (ks ++ [(n, b)]) := by
  have e : PySem.stored kkvs n (.bytes b t) = kkvs ++ [(n, .bytes b t)] := by
    unfold PySem.stored
    rw [if_neg]
    rw [← krel_keys _ _ h] at hn
    simpa using hn
  rw [e]
  clear e hn
  induction kkvs generalizing ks with
  | nil => cases ks with
    | nil => exact ⟨rfl, ⟨t, rfl⟩, trivial⟩
    | cons p r => exact h.elim
  | cons p r ih =>
    cases ks with
    | nil => exact h.elim
    | cons q r2 => exact ⟨h.1, h.2.1, ih h.2.2⟩
theorem bk_insert {bls : List (List Int)} {ks : List (Int × By)} {sl : Int} {k : By} {q : List Int} (h : BkInv bls ks) (hn : sl ∉ ks.map (·.1)) (hq : bls[hidx k bls.length]? = some q) :
    BkInv (bls.set (hidx k bls.length) (sl :: q)) (ks ++ [(sl, k)]) := by
  have hqn := h.2 _ _ hq
  have hlt : hidx k bls.length < bls.length := by
    by_cases e : hidx k bls.length < bls.length
    · exact e
    · rw [List.getElem?_eq_none (by omega)] at hq; cases hq
  refine ⟨fun s b hs => ?_, fun j l hl => ?_⟩
  · rw [List.length_set]
    rcases List.mem_append.mp hs with hs | hs
    · obtain ⟨l, hl, hsl⟩ := h.1 s b hs
      by_cases e : hidx k bls.length = hidx b bls.length
      · rw [← e, hq] at hl
        cases hl
        exact ⟨sl :: q, by rw [← e]; simp [hlt], .tail _ hsl⟩
      · exact ⟨l, by rw [List.getElem?_set_ne e]; exact hl, hsl⟩
    · have e : s = sl ∧ b = k := by simpa using hs
      rw [e.1, e.2]
      exact ⟨sl :: q, by simp [hlt], .head _⟩
  · rw [List.length_set]
    by_cases e : hidx k bls.length = j
    · subst e
      rw [List.getElem?_set_self hlt] at hl
      cases hl
      refine ⟨List.nodup_cons.mpr ⟨fun hs => ?_, hqn.1⟩, fun s hs => ?_⟩
      · obtain ⟨b, hb, _⟩ := hqn.2 sl hs
        exact hn (List.mem_map.mpr ⟨_, hb, rfl⟩)
      · rcases List.mem_cons.mp hs with e | hs
        · subst e; exact ⟨k, by simp, rfl⟩
        · obtain ⟨b, hb, hi⟩ := hqn.2 s hs
          exact ⟨b, List.mem_append_left _ hb, hi⟩
    · rw [List.getElem?_set_ne e] at hl
      obtain ⟨h1, h2⟩ := h.2 j l hl
      refine ⟨h1, fun s hs => ?_⟩
      obtain ⟨b, hb, hi⟩ := h2 s hs
      exact ⟨b, List.mem_append_left _ hb, hi⟩
theorem kw_21 : True := by
  (k_with "M setItem ref int" => (k_here; k_dflt (refine' kda_set (knd := PySem.intKind _ _) ?q_F ?q_N ?q_U ?q_d (intKind_is _ _ _ _) ?q_z ?_; (case q_F => k_asm); (case q_N => k_asm); (case q_U => k_updF); (case q_d => assumption); (case q_z => assumption)); intro _ _ _ N9 _; (try dsimp only at N9)))
  trivial
theorem kw_22 : True := by
  (k_with "M call builtin:list.insert" => (k_here; k_dflt (refine' mi_insert ?q_F ?q_N ?q_i ?q_U ?q_z ?_; (case q_F => k_asm); (case q_N => k_asm); (case q_U => k_updF); (case q_i => k_asm); (case q_z => assumption)); intro _ _ _ _ _ _))
  trivial
theorem link_sp (w : World) (M : Addr) (σ : Tb) (led : Led) (hT : TabIs w M σ led) (k : By) (tb : Tok) (sl : Int) (tk : Tok) (hsk : sl ∉ σ.ks.map (·.1)) (hz2 : k.size ≤ 100) (hz3 : σ.ks.length ≤ 900) :
    Sp w 4 40 376 [.ref M, .bytes k tb, .int sl tk] led (fun v led' => v = .none ∧ TabIs w M { σ with ks := σ.ks ++ [(sl, k)] } led') := by
  cases hT
  rename_i Md V Bk K O hh tt n nB nO oV oK vO vkvs kkvs bks bls tl baL bkL hO hK rK hV rV rB iB nb et ndT off d1 d2 d3 d4 d5 d6 d7 d8 d9 d10 d11 d12 d13 d14 d15 lK lV
  walk_at "mine sp"
  intro mean mg mb dp un gd outer A₀ base h₀ L hpS gS dS kS oS Q E rest B F X N OR T hd hu hnx hret hpo
  change News _ _ _ (_ :: _ :: _ :: _ :: _ :: _ :: (tl ++ rest)) at N
  have off2 : OwnOff (tl ++ rest) [M, Md, V, Bk, K, O] := own_app off (own_sub OR own6)
  have hnb := nbuck_pos σ.most
  have hn4 := hnb.2
  have hix := hidx_lt k hnb.1
  have hix2 := hix.2.1
  have hix3 := hix.2.2
  have hex : ∃ q, bls[hidx k bls.length]? = some q := ⟨_, List.getElem?_eq_getElem (by rw [nb]; exact hix.1)⟩
  obtain ⟨q, hq⟩ := hex
  have hlB : (bks.map Value.ref).length = nbuck σ.most := by rw [List.length_map, brel_len _ _ _ rB, nb]
  have hsz : kkvs.length ≤ sizeLine := by rw [krel_length rK, sizeLine_eq]; omega
  obtain ⟨l1, x, vs, nx, l2, rfl, hbx, hvs, hback⟩ := brel_split _ _ _ rB _ _ hq
  have iB' := bk_insert iB hsk hq
  have hqz : q.length ≤ 1000 := bk_len iB (krel_keys _ _ rK ▸ dict_nodup hK) hq (by omega)
  rw [nb] at hbx
  have hbx' : bks[(Builtin.bitAnd (hashF k) ((nbuck σ.most : Int) - 1)).toNat]? = some x := hbx
  subst et
  obtain ⟨oB, o1, o2⟩ := nd_r ndT
  obtain ⟨oR, q1, q2, q3, q4, q5, q6, sw, sf, so⟩ := nd_at (x := x) (f := fun o => baL ++ (l1 ++ (x, o) :: l2)) (fun o => List.mem_append_right _ (List.mem_append_right _ (.head _))) fst_r ndT off OR
  have hxm : (x, W.listOf vs.toArray nx) ∈ baL ++ (l1 ++ (x, W.listOf vs.toArray nx) :: l2) := List.mem_append_right _ (List.mem_append_right _ (.head _))
  walk_at "mine steps"
  refine' hret _ ((M, ?_) :: (Md, ?_) :: (V, ?_) :: (Bk, ?_) :: (K, ?_) :: (O, ?_) :: (baL ++ (l1 ++ (x, ?_) :: l2))) _ _ ⟨rfl, ?t⟩ ?o ?f ?n
  case n => (dsimp only [List.cons_append]); assumption
  case f => assumption
  case o => exact so _ _ _ _ _ _ _
  case t =>
    refine TabIs.mk (bls := bls.set (hidx k bls.length) (sl :: q)) hO ?_ (krel_stored rK hsk k tb) hV rV (hback _ _ _ ?_) iB' (by rw [List.length_set]; exact nb) rfl (sw _) (sf _) d1 d2 d3 d4 d5 d6 d7 d8 d9 d10 d11 d12 d13 d14 d15 lK lV
    · assumption
    · assumption
end
theorem kw_23 : True := by
  (k_with "M call ref" => (k_here; (with_reducible show wpAny _ _ (call (Value.ref 376) _ _) _ _ _); k_dflt ((first | refine' sp_tabI (link_sp _ _ _ _ ?q_hT _ _ _ _ ?q_z1 ?q_z2 ?q_z3) ?B ?F ?X ?N ?O ?T ?hk ?hd ?hu ?_ | refine' sp_tab (link_sp _ _ _ _ ?q_hT _ _ _ _ ?q_z1 ?q_z2 ?q_z3) ?B ?F ?X ?N ?O ?T ?hk ?hd ?hu ?_); (case q_hT => k_asm); (case q_z1 => first | assumption | walk_at "mine om" | exact rfl); (case q_z2 => first | assumption | walk_at "mine om" | exact rfl); (case q_z3 => first | assumption | walk_at "mine om" | exact rfl); walk_at "mine call"); intro _ _ _ _ _ _ _ _ _ _ _ _ _ _ _ _ _ _ _; walk_at "mine df"))
  trivial
section
theorem mi_bytes_ba {prog : Program} {w : World} {A : Around} {E : Value → Shared → Prop} {s : Shared} {h₀ : Heap} {L a : Addr} {news : Led} {b : By} {Q : Value → Shared → Prop} (N : News h₀ L s.heap news) (hm : (a, baObj b) ∈ news) (hz : b.size ≤ 1000) (h : ∀ t, Q (.bytes b t) { s with toks := s.toks + 1 }) :
    wpAny (model prog w) A (call (.type "bytes") [.ref a]) Q E s := call_bytes_ba (N _ hm).1 hz h
theorem kw_24 : True := by
  (k_with "M call type:bytes" => (k_here; (with_reducible show wpAny _ _ (call (Value.type _) [Value.ref _]) _ _ _); k_dflt (refine' mi_bytes_ba ?q_N ?q_m ?q_z ?_; (case q_N => k_asm); (case q_m => k_mem); (case q_z => assumption)); intro _))
  trivial
theorem mi_val {w : World} {A : Around} {E : Value → Shared → Prop} {s : Shared} {h₀ : Heap} {L V : Addr} {news led : Led} {vals : List By} {value slice : PySem.Expr} {k : Int} {u : Tok} {v : By} {Q : Value → Shared → Prop} (N : News h₀ L s.heap news) (VA : ValsAt w led V vals) (hin : ∀ p ∈ led, p ∈ news) (h0 : 0 ≤ k) (hv : vals[k.toNat]? = some v)
    (h : ∀ a, (a, baObj v) ∈ led → Q (.ref a) { s with toks := s.toks + 1 }) (hs : subscripted slice false (.ref V) (.int k u) = operate [.ref V, .int k u] (getItem (.ref V) (.int k u))) (hg : ∀ r, letTemporaryGo value (.ref V) r = pure ()) :
    wpAny (model PySem.Challenge.rw_qz0154_01.row.prog w) A (subscriptTail value slice (.ref V) (.int k u)) Q E s := by
  obtain ⟨oV, vkvs, m, hV, lo, f⟩ := VA
  obtain ⟨a, e, ha⟩ := f _ _ hv
  rw [show ((k.toNat : Nat) : Int) = k by omega] at e
  exact kda_item (knd := intKind PySem.Challenge.rw_qz0154_01.row.prog w) N (hin _ m) hV (intKind_is _ _ _ _) e (h a ha) hs hg
theorem kw_25 : True := by
  (k_with "M subscriptTail" => (k_here; (with_reducible show wpAny _ _ (subscriptTail _ _ (Value.ref _) (Value.int _ _)) _ _ _); (with_unfolding_all refine' mi_val ?q_N ?q_v ?q_i ?q_z ?q_x ?_ ?q_k6 ?q_k7; (case q_N => k_asm); (case q_v => assumption); (case q_i => walk_at "mine sub"); (case q_z => assumption); (case q_x => assumption); (case q_k6 => with_unfolding_all rfl); (case q_k7 => intro _; with_unfolding_all rfl)); intro _ _))
  trivial
theorem value_some (w : World) (M : Addr) (σ : Tb) (led : Led) (hT : TabIs w M σ led) (b : By) (tb : Tok) (hz : (b.size : Int) = σ.kw) (hz2 : b.size ≤ 100) (hn : (σ.ks.map (·.2)).Nodup) (sl : Int) (hS : slotOf σ.ks b = some sl) (h0 : 0 ≤ sl) (v : By) (hv : σ.vals[sl.toNat]? = some v) (hz3 : v.size ≤ 1000) :
    Sp w 5 60 203 [.ref M, .bytes b tb] led (fun u led' => (∃ t, u = .bytes v t) ∧ TabIs w M σ led') := by
  obtain ⟨Md, V, Bk, K, O, hh, tt, n, hM, hMd, VA, KA, OA⟩ := TabIs.inst hT
  walk_at "mine sp"
  intro mean mg mb dp un gd outer A₀ base h₀ L hpS gS dS kS oS Q E rest B F X N OR T hd hu hnx hret hpo
  walk_at "mine steps"
  (refine' hret _ _ _ _ ⟨?e62, by assumption⟩ (by assumption) ?f62 ?n62; (case n62 => first | assumption | (refine' news_sub (by assumption) ?_; (try dsimp only [List.cons_append]); walk_at "mine sub")); (case f62 => assumption); (case e62 => first | exact rfl | exact ⟨_, rfl⟩))
end
theorem kw_26 : True := by
  (k_with "M call ref" => (k_here; (with_reducible show wpAny _ _ (call (Value.ref 203) _ _) _ _ _); k_dflt ((first | refine' sp_tabI (value_some _ _ _ _ ?q_hT _ _ ?q_z1 ?q_z2 ?q_z3 _ ?q_z4 ?q_z5 _ ?q_z6 ?q_z7) ?B ?F ?X ?N ?O ?T ?hk ?hd ?hu ?_ | refine' sp_tab (value_some _ _ _ _ ?q_hT _ _ ?q_z1 ?q_z2 ?q_z3 _ ?q_z4 ?q_z5 _ ?q_z6 ?q_z7) ?B ?F ?X ?N ?O ?T ?hk ?hd ?hu ?_); (case q_hT => k_asm); (case q_z1 => first | assumption | walk_at "mine om" | exact rfl); (case q_z2 => first | assumption | walk_at "mine om" | exact rfl); (case q_z3 => first | assumption | walk_at "mine om" | exact rfl); (case q_z4 => first | assumption | walk_at "mine om" | exact rfl); (case q_z5 => first | assumption | walk_at "mine om" | exact rfl); (case q_z6 => first | assumption | walk_at "mine om" | exact rfl); (case q_z7 => first | assumption | walk_at "mine om" | exact rfl); walk_at "mine call"); intro _ _ _ _ _ _ _ _ _ _ _ _ _ _ _ _ _ _ _; walk_at "mine df"))
  trivial
section
section
variable {prog : Program} {w : World} {A : Around} {h₀ : Heap} {L : Addr} {m : Str → Option Value} {env : Env} {elt : PySem.Expr} {x : Str} {scope : Scope} {cl : List (Str × Addr)} {s : Shared} {S : List (Addr × Obj) → Prop} {P : Nat → Value → Prop} {Fin : List Value → List (Addr × Obj) → Prop} {news : List (Addr × Obj)}
theorem comp_inv {n : Nat} (Inv : Nat → List Value → Led → Prop) (h0 : Inv 0 [] news)
    (turn : ∀ i v ys led I oI C oC D m₂ h tk (E' : Value → Shared → Prop), i < n → P i v → Inv i ys led → LCg.NsObj oC m₂ → m₂ x = some v → Fr h₀ L h m → News h₀ L h ((I, oI) :: (C, oC) :: (D, LCg.lst ys) :: led) → LCg.Off3 I C D led → ((@Ne Nat I C) ∧ (@Ne Nat I D) ∧ (@Ne Nat C D)) →
      ∀ K9 : Value → Shared → Prop, Into (LCg.CompEnd h₀ L m { s with heap := h, toks := tk } I oI C oC D (LCg.lst ys) S (fun y led' => Inv (i + 1) (ys ++ [y]) led')) K9 → wpAny (model prog w) A (eval elt (compEnvC scope cl C env)) K9 E' { s with heap := h, toks := tk })
    (fin : ∀ ys led, Inv n ys led → Fin ys led) : LCg.CompRest prog w A h₀ L m env elt x scope cl s S P Fin n 0 [] news := by
  have key : ∀ (j i : Nat) (ys : List Value) (led : Led), i + j = n → Inv i ys led → LCg.CompRest prog w A h₀ L m env elt x scope cl s S P Fin j i ys led := by
    intro j
    induction j with
    | zero =>
      intro i ys led hi hy
      have e : i = n := by omega
      subst e
      exact LCg.CompRest.zero (fin ys led hy)
    | succ j ih =>
      intro i ys led hi hy
      refine LCg.CompRest.succ ?_
      intro v I oI C oC D m₂ h tk E' hv hC hx F N off ne
      refine wpAny_mono (turn i v ys led I oI C oC D m₂ h tk E' (by omega) hv hy hC hx F N off ne _ fun _ _ q => q) (fun y s₂ hq => ?_) fun _ _ e => e
      obtain ⟨h', tk', nw, e, F', N', off', hS, hn⟩ := hq
      exact ⟨h', tk', nw, e, F', N', off', hS, ih (i + 1) _ nw (by omega) hn⟩
  exact key n 0 [] news (by omega) h0
inductive CPost (h₀ : Heap) (L : Addr) (m : Str → Option Value) (led : Led) (s₁ : Shared) (R : Value → Prop) (y : Value) (s₂ : Shared) : Prop
  | mk (e1 : R y) (h' : _) (tk' : _) (e2 : s₂ = { s₁ with heap := h', toks := tk' }) (e3 : Fr h₀ L h' m) (e4 : News h₀ L h' led)
theorem cpost_end {h₀ : Heap} {L : Addr} {m : Str → Option Value} {led : Led} {s₁ : Shared} {R : Value → Prop} {y : Value} {h' : Heap} {tk' : Nat} (F : Fr h₀ L h' m) (N : News h₀ L h' led) (r : R y) : CPost h₀ L m led s₁ R y { s₁ with heap := h', toks := tk' } := ⟨r, h', tk', rfl, F, N⟩
theorem comp_pure {n : Nat} (R : Nat → Value → Prop)
    (turn : ∀ i v ys I oI C oC D m₂ h tk (E' : Value → Shared → Prop), i < n → P i v → LCg.NsObj oC m₂ → m₂ x = some v → Fr h₀ L h m → News h₀ L h ((I, oI) :: (C, oC) :: (D, LCg.lst ys) :: news) → LCg.Off3 I C D news → ((@Ne Nat I C) ∧ (@Ne Nat I D) ∧ (@Ne Nat C D)) →
      ∀ K9 : Value → Shared → Prop, Into (CPost h₀ L m ((I, oI) :: (C, oC) :: (D, LCg.lst ys) :: news) s (R i)) K9 → wpAny (model prog w) A (eval elt (compEnvC scope cl C env)) K9 E' { s with heap := h, toks := tk })
    (hS : S news) (fin : ∀ ys, ys.length = n → (∀ i y, ys[i]? = some y → R i y) → Fin ys news) : LCg.CompRest prog w A h₀ L m env elt x scope cl s S P Fin n 0 [] news := by
  refine comp_inv (fun i ys led => led = news ∧ ys.length = i ∧ ∀ j y, ys[j]? = some y → R j y) ⟨rfl, rfl, fun j y e => by simp at e⟩ ?_ fun ys led hy => ?_
  · rintro i v ys led I oI C oC D m₂ h tk E' hi hv ⟨rfl, hl, hy⟩ hC hx F N off ne K9 hK9
    refine wpAny_mono (turn i v ys I oI C oC D m₂ h tk E' hi hv hC hx F N off ne _ fun _ _ q => q) (fun y s₂ hq => ?_) fun _ _ e => e
    obtain ⟨hr, h', tk', rfl, F', N'⟩ := hq
    exact hK9 _ _ ⟨h', tk', led, rfl, F', N', off, hS, rfl, by simp [hl], snoc_get hl hy hr⟩
  · obtain ⟨rfl, hl, hy⟩ := hy
    exact fin ys hl hy
end
theorem kw_27 : True := by
  (k_with "M eval ListComp" => (k_here; k_dflt (refine LCg.ListComp_U (F₀ := by k_asm) (by first | rfl | with_unfolding_all rfl) (by decide) (by rfl) (by decide) (by rfl) ?_)))
  trivial
theorem kw_28 : True := by
  (k_with "M mine tosrc" => repeat' ((fail_if_success (with_reducible show LCg.CompSrc _ _ _ _ _ _ _ _ _ _ _ _ _ _)); walk_at "mine one"))
  trivial
end
section
inductive BsAre : List Value → List By → Prop
  | nil : BsAre [] []
  | cons {ys : List Value} {bs : List By} (b : By) (t : Tok) (r : BsAre ys bs) : BsAre (Value.bytes b t :: ys) (b :: bs)
theorem bsAre_of {bs : List By} : ∀ {ys : List Value}, ys.length = bs.length → (∀ (i : Nat) (y : Value), ys[i]? = some y → ∃ b t, bs[i]? = some b ∧ y = Value.bytes b t) → BsAre ys bs := by
  induction bs with
  | nil => intro ys h _; cases ys with
    | nil => exact .nil
    | cons y r => simp at h
  | cons b bs ih =>
    intro ys h k
    cases ys with
    | nil => simp at h
    | cons y r =>
      obtain ⟨b', t, e, e2⟩ := k 0 y rfl
      simp only [List.getElem?_cons_zero, Option.some.injEq] at e
      subst e e2
      exact .cons b t (ih (by simpa using h) fun i z hz => by simpa using k (i + 1) z (by simpa using hz))
theorem off1_mem {D : Addr} : ∀ {l : Led}, LCg.Off1 D l → ∀ p ∈ l, p.1 ≠ D
  | [], _, p, hp => nomatch hp
  | q :: l, h, p, hp => by
    rcases List.mem_cons.mp hp with e | hp
    · exact e ▸ h.1
    · exact off1_mem h.2 p hp
theorem own_at {r : Led} {l : List Addr} {a : Addr} (k : OwnOff r l) (h : a ∈ l) : ∀ p ∈ r, p.1 ≠ a := fun p hp => k p hp a h
theorem own_nil {r : Led} : OwnOff r [] := fun _ _ _ h => nomatch h
theorem own_cons {rest : Led} {D : Addr} {l : List Addr} (h : ∀ p ∈ rest, p.1 ≠ D) (k : OwnOff rest l) : OwnOff rest (D :: l) := fun p hp b hb => by
  rcases List.mem_cons.mp hb with e | hb
  · exact e ▸ h p hp
  · exact k p hp b hb
theorem mi_key {w : World} {A : Around} {E : Value → Shared → Prop} {s : Shared} {h₀ : Heap} {L K : Addr} {news led : Led} {ks : List (Int × By)} {value slice : PySem.Expr} {k : Int} {u : Tok} {b : By} {Q : Value → Shared → Prop} (N : News h₀ L s.heap news) (KA : KeysAt w led K ks) (hin : ∀ p ∈ led, p ∈ news) (hv : (k, b) ∈ ks)
    (h : ∀ t, Q (.bytes b t) { s with toks := s.toks + 1 }) (hs : subscripted slice false (.ref K) (.int k u) = operate [.ref K, .int k u] (getItem (.ref K) (.int k u))) (hg : ∀ r, letTemporaryGo value (.ref K) r = pure ()) :
    wpAny (model PySem.Challenge.rw_qz0154_01.row.prog w) A (subscriptTail value slice (.ref K) (.int k u)) Q E s := by
  obtain ⟨oK, kkvs, m, hK, lo, r⟩ := KA
  obtain ⟨t, e⟩ := krel_at r hv (dict_nodup hK)
  exact kda_item (knd := intKind PySem.Challenge.rw_qz0154_01.row.prog w) N (hin _ m) hK (intKind_is _ _ _ _) e (h t) hs hg
theorem kw_29 : True := by
  (k_with "M subscriptTail" => (k_here; (with_reducible show wpAny _ _ (subscriptTail _ _ (Value.ref _) (Value.int _ _)) _ _ _); (with_unfolding_all refine' mi_key ?q_N ?q_v ?q_i ?q_x ?_ ?q_k6 ?q_k7; (case q_N => k_asm); (case q_v => assumption); (case q_i => walk_at "mine sub"); (case q_x => assumption); (case q_k6 => with_unfolding_all rfl); (case q_k7 => intro _; with_unfolding_all rfl)); intro _))
  trivial
def NeAll (l : Led) (D : Addr) : Prop := ∀ p ∈ l, p.1 ≠ D
theorem byage_sp (w : World) (M : Addr) (σ : Tb) (led : Led) (hT : TabIs w M σ led) (rows : List (By × Int)) (ho : σ.ord = rows.map (·.2)) (hr : ∀ r ∈ rows, (r.2, r.1) ∈ σ.ks) (hz : rows.length ≤ 1000) :
    Sp w 3 120 480 [.ref M] led (fun v led' => ∃ D ys l, v = .ref D ∧ led' = (D, LCg.lst ys) :: l ∧ TabIs w M σ l ∧ BsAre ys (rows.map (·.1)) ∧ NeAll l D) := by
  obtain ⟨Md, V, Bk, K, O, hh, tt, n, hM, hMd, VA, KA, OA⟩ := TabIs.inst hT
  walk_at "mine spc"
  intro mean mg mb dp un gd outer A₀ base h₀ L hpS gS dS kS oS Q E rest cells B F X N Y OR T hd hu l1 hnx hret hpo
  (try dsimp only [List.cons_append] at N l1)
  (try k_lt l1)
  k_cells Y
  (try dsimp only [List.cons_append, List.nil_append] at N)
  have OA' := OA
  obtain ⟨vO, nO, hm, hi⟩ := OA'
  have hlen := hi.length
  walk_at "mine tosrc"
  refine' LCg.CompSrc.ledger (by rfl) (by k_asm) (by k_asm) ?m ?z ?_
  case m => k_mem
  case z => rw [sizeLine_eq]; simp only [List.size_toArray]; rw [hlen, ho]; simp; omega
  intro g1
  refine comp_pure (fun (i : Nat) (y : Value) => ∃ b t, (rows.map (·.1))[i]? = some b ∧ y = .bytes b t) ?turn ?S ?fin
  case S => exact .inr ⟨_, by k_mem, rfl, _, rfl⟩
  case turn =>
    intro i v ys I oI C oC D m₂ h9 tk E' hi9 hv hC hx F1 N1 off ne K9 hK9
    have hi0 : i < rows.length := by
      have := hlen; rw [ho] at this; simp at this; simp at hi9; omega
    have hrow := hr rows[i] (List.getElem_mem hi0)
    obtain ⟨t, ht⟩ := ints_get hi i (x := rows[i].2) (by rw [ho]; simp [hi0])
    have hv' : vO[i]? = some v := by simpa using hv
    rw [ht] at hv'
    cases hv'
    walk_at "mine steps"
    exact hK9 _ _ (cpost_end (by assumption) (by assumption) ⟨_, _, by simp [hi0], rfl⟩)
  case fin =>
    intro ys hl hy
    have hbs : BsAre ys (rows.map (·.1)) := bsAre_of (by rw [hl]; simp only [List.size_toArray]; rw [hlen, ho]; simp) hy
    walk_at "mine steps"
    refine' hret _ ((_, LCg.lst ys) :: led) _ _ ⟨_, ys, led, rfl, rfl, hT, hbs, ?ld⟩ ?o ?f ?n
    case ld =>
      rename _ ∧ LCg.Off1 _ _ => oo
      exact fun p hp => off1_mem oo.2 p (List.mem_append_left _ hp)
    case n => (refine' news_sub (by assumption) ?_; (dsimp only [List.cons_append]); walk_at "mine sub")
    case f => assumption
    case o =>
      rename _ ∧ LCg.Off1 _ _ => oo
      exact own_cons (fun p hp => off1_mem oo.2 p (List.mem_append_right _ hp)) OR
theorem own_tl {rest : Led} {p : Addr × Obj} {l : Led} (h : OwnOff rest ((p :: l).map (·.1))) : OwnOff rest (l.map (·.1)) := own_sub h fun x hx => List.mem_cons_of_mem _ hx
section
variable {w : World} {mean : ExcName → Option Value} {mg mb : Str → Option Value} {dp un : Nat} {gd : Option (List Code)} {cn : Str} {cs : Scope} {a : Addr} {ccd : Value} {cl : List (Str × Addr)} {outer : List Env} {A₀ : Around} {base h₀ : Heap} {L M : Addr} {m : Str → Option Value} {s : Shared} {Q E : Value → Shared → Prop} {led rest : Led} {σ : Tb} {rows : List (By × Int)} {oct : Int → By}
theorem byage_use (hT : TabIs w M σ led) (ho : σ.ord = rows.map (·.2)) (hr : ∀ r ∈ rows, (r.2, r.1) ∈ σ.ks) (hz : rows.length ≤ 1000) (B : Below A₀ base outer h₀) (F : Fr h₀ L s.heap m) (X : (Mine.hd.heap_1 w.params).In h₀) (N : News h₀ L s.heap (led ++ rest)) (OR : OwnOff rest (led.map (·.1)))
    (T : Top Mine.hd.view_39 (looseW Mine.hd.view_39 [Str.ofString "GateError", Str.ofString "HashMap"]) mean mg mb h₀) (hk : cs.kind = .function) (hd : dp + 3 < recursionLimit) (hu : un + 120 < cLine)
    (hret : ∀ (D : Addr) (ys : List Value) (l : Led) (h' : Heap) (tk' : Nat) (Md V B K O : Addr) (hh : Nat → Int) (tt : Nat → Tok) (n : Nat), (M, instObj 502 Md) ∈ l → (Md, dictOf (mdOf hh tt σ V B K O) n) ∈ l → ValsAt w l V σ.vals → KeysAt w l K σ.ks → OrdAt l O σ.ord → TabIs w M σ l → BsAre ys (rows.map (·.1)) → NeAll l D → OwnOff rest (l.map (·.1)) → Fr h₀ L h' m → News h₀ L h' ((D, LCg.lst ys) :: (l ++ rest)) → Q (.ref D) { s with heap := h', toks := tk' }) :
    wpAny (model PySem.Challenge.rw_qz0154_01.row.prog w) (ktrTop dp un gd cn cs L a ccd cl outer) (call (.ref 480) [.ref M]) Q E s := sp_use (byage_sp w M σ led hT rows ho hr hz) B F X N OR T hk hd hu fun v led' h' tk' p O' F' N' => by
  obtain ⟨D, ys, l, e1, e2, T9, S, ne⟩ := p
  subst e1 e2
  obtain ⟨Md, V, B, K, O, hh, tt, n, h1, h2, h3, h4, h5⟩ := TabIs.inst T9
  exact hret D ys l h' tk' Md V B K O hh tt n h1 h2 h3 h4 h5 T9 S ne (own_tl O') F' N'
end
end
theorem kw_30 : True := by
  (k_with "M call ref" => (k_here; (with_reducible show wpAny _ _ (call (Value.ref 480) _ _) _ _ _); k_dflt (refine' byage_use ?q_hT ?q_z1 ?q_z2 ?q_z3 ?B ?F ?X ?N ?O ?T ?hk ?hd ?hu ?_; (case q_hT => k_asm); (case q_z1 => assumption); (case q_z2 => assumption); (case q_z3 => assumption); walk_at "mine call"); intro _ _ _ _ _ _ _ _ _ _ _ _ _ _ _ _ _ _ _ _ _ _ _ _; walk_at "mine df"))
  trivial
section
section
variable {prog : Program} {w : World} {A : Around} {E : Value → Shared → Prop} {s : Shared} {h₀ : Heap} {L : Addr} {m : Str → Option Value} {env : Env}
def CompRest' (prog : Program) (w : World) (A : Around) (h₀ : Heap) (L : Addr) (m : Str → Option Value) (env : Env) (elt : PySem.Expr) (x : Str) (scope : Scope) (cl : List (Str × Addr)) (s : Shared) (S : Led → Prop) (P : Nat → Value → Prop) (Fin : List Value → Led → Prop) (n : Nat) (news : Led) : Prop :=
  LCg.CompRest prog w A h₀ L m env elt x scope cl s S P Fin n 0 [] news
inductive SrcW (prog : Program) (w : World) (A : Around) (h₀ : Heap) (L : Addr) (m : Str → Option Value) (env : Env) (elt : PySem.Expr) (x : Str) (scope : Scope) (cl : List (Str × Addr)) (Fin : Shared → List Value → List (Addr × Obj) → Prop) (xv : Value) (s₁ : Shared) : Prop
  | mk (I : Addr) (H : Heap) (fp : List Addr) (n : Nat) (P : Nat → Value → Prop) (St : Nat → Heap → Prop) (S : Led → Prop) (news : Led) (h1 : (∀ (Q : Value → Shared → Prop) (E : Value → Shared → Prop), Q (.ref I) { s₁ with heap := H } → wpAny (model prog w) A (pyIter xv) Q E s₁)) (h2 : Walks prog w A I fp [I] n P St) (h3 : n ≤ sizeLine) (h4 : (∀ i h, St i h → ∃ o, h.get? I = some o)) (h5 : (∀ i h h' o nw, St i h → h.get? I = some o → h'.get? I = some o → (∀ b o, h₀.get? b = some o → h'.get? b = some o) → News h₀ L h' nw → S nw → St i h')) (h6 : St 0 H) (h7 : (∀ b ∈ fp, b < H.objs.size)) (h8 : Fr h₀ L H m) (h9 : News h₀ L H news) (h10 : L ≠ I) (h11 : h₀.get? I = none) (h12 : (∀ p ∈ news, p.1 ≠ I)) (h13 : S news) (h14 : CompRest' prog w A h₀ L m env elt x scope cl { s₁ with heap := H } S P (Fin { s₁ with heap := H }) n news)
theorem ListComp_W {elt iter : PySem.Expr} {x : Str} {px : Pos} {scope : Scope} {cl : List (Str × Addr)} {pos : Pos} {Q : Value → Shared → Prop} (F₀ : Fr h₀ L s.heap m)
    (hclos : closureFor scope env = pure cl) (hcell : ∀ y ∈ scope.names, y.2 ≠ .cell) (hkind : scope.kind = .function)
    (hnames : ∀ y ∈ scope.names, y.2 = .local → scope.names.lookup y.1 = some .local) (hx : scope.names.lookup x = some .local)
    (h : wpAny (model prog w) A (eval iter env) (SrcW prog w A h₀ L m env elt x scope cl (fun s₂ => LCg.FinE h₀ L m s₂ Q)) E s)
    (hs : ∀ x, foldedSetIterable iter env x = pure x := by intro _; rfl) :
    wpAny (model prog w) A (eval (.ListComp elt [⟨.Name x px, iter, [], 0⟩] scope pos) env) Q E s := by
  rw [eval_ListComp]
  refine wpAny_comprehension_free (use := none) rfl hs hclos hkind hnames (wpAny_mono h (fun xv s₁ h₁ => ?_) fun _ _ e => e)
  obtain ⟨I, H, fp, n, P, St, S, news, hit, W, hsz, hIo, hSt, hst, hfp, F, N, hIL, hI₀, off, hS, R⟩ := h₁
  refine hit _ _ ?_
  refine LCg.block_U W hsz hIo hSt hcell hkind hx hst hfp F N hIL hI₀ off hS R ?_
  intro D C h tk m' ys news' F' N' o1 hn hC₀ hD₀ hCL hDL hCD offC fin
  refine ⟨m', hn, fun h'' hs'' => fin D h'' tk (F'.change hs'' hCL hC₀) (fun p hp => ?_) o1⟩
  refine ⟨hs''.extBut _ _ ?_ (N' p hp).1, (N' p hp).2⟩
  rcases List.mem_cons.mp hp with rfl | hp
  · exact Ne.symm hCD
  · exact offC p hp
theorem srcW_dict {K : Type} [DecidableEq K] {knd : KeyKind prog w K} {elt : PySem.Expr} {x : Str} {scope : Scope} {cl : List (Str × Addr)} {Fin : Shared → List Value → List (Addr × Obj) → Prop} {d : Addr} {od : Obj} {kvs : List (K × Value)} {news : Led}
    (hh : A.handled = none) (F : Fr h₀ L s.heap m) (N : News h₀ L s.heap news) (hd : od.IsDictOf knd kvs) (hm : (d, od) ∈ news) (lo : (d == sysModules) = false) (hsz : kvs.length ≤ sizeLine) (S : Led → Prop) (hS : S news) (hSd : ∀ nw, S nw → (d, od) ∈ nw)
    (R : ∀ g, LCg.CompRest prog w A h₀ L m env elt x scope cl { s with heap := g } S (fun i v => ∃ k x, kvs[i]? = some (k, x) ∧ knd.is k v = true) (Fin { s with heap := g }) kvs.length 0 [] news) :
    SrcW prog w A h₀ L m env elt x scope cl Fin (.ref d) s := by
  obtain ⟨es, ep, hc, hdat, hk, hp, hn⟩ := id hd
  have hDA : ∀ {h : Heap}, h.get? d = some od → h.DictAt knd d kvs ep := fun e => ⟨od, es, e, hc, hdat, hk, hp, hn⟩
  have hm₁ := hDA (N _ hm).1
  have hlt : d < s.heap.objs.size := hm₁.lt_size
  have up : ∀ b o, s.heap.get? b = some o → (s.heap.push { cls := .type "dict_keyiterator", data := .fields #[.ref d, .int 0 0, .int kvs.length 0, .int ep 0] }).get? b = some o := fun b o e => Heap.get?_push_of_some _ e
  refine ⟨s.heap.objs.size, _, _, kvs.length, _, _, S, news, fun Q E hq => wpAny_pyIter_dict lo hm₁ hq, Walks.dictKeys hh _ d (Nat.ne_of_lt hlt) kvs ep, hsz, fun i h st => ?_, fun i h h' o nw st e e' k N' hS' => ?_, ⟨⟨_, Heap.get?_push_size _ rfl, rfl, rfl⟩, hm₁.push _⟩, fun b hb => ?_, F.keeps up, N.grown up, Nat.ne_of_lt F.ns.lt, next_is_new F, fun p hp => Nat.ne_of_lt (Heap.lt_size (N p hp).1), hS, R _⟩
  · obtain ⟨o, e, _⟩ := st.1; exact ⟨o, e⟩
  · refine ⟨?_, hDA (N' _ (hSd _ hS')).1⟩
    obtain ⟨o', q, r⟩ := st.1; rw [e] at q; cases q; exact ⟨o, e', r⟩
  · show b < (s.heap.push _).objs.size
    rw [Heap.size_push]
    rcases List.mem_cons.mp hb with rfl | hb
    · exact Nat.lt_succ_self _
    · rw [List.mem_singleton.mp hb]; exact Nat.lt_succ_of_lt hlt
end
end
section
theorem bs_slot_lt : Slot "bytes" "__lt__" "bytes.__lt__" :=
  .of (owner := "bytes") (n := "__lt__") (by rw [typeLookup_type, builtinLookup_eq_fast]; kernel_rfl) (by decide +kernel) (by decide +kernel) (by decide +kernel)
    (by first | exact .inl (by decide +kernel) | exact .inr (by decide +kernel)) (by rw [isSubtype_type]; kernel_rfl)
theorem bs_entry_lt : entryFor table "bytes.__lt__" = some Builtin.«bytes.__lt__» := entryFor_of_tree (by kernel_rfl)
theorem bs_args_lt (a b : Value) : argsOk "bytes.__lt__" ⟨[a, b], []⟩ := by unfold argsOk; kernel_rfl
noncomputable def natsOf (b : By) : List Nat := b.toList.map UInt8.toNat
theorem natsOf_inj {a b : By} (h : natsOf a = natsOf b) : a = b := by
  unfold natsOf at h
  refine Array.ext' ?_
  have : ∀ l m : List UInt8, l.map UInt8.toNat = m.map UInt8.toNat → l = m := by
    intro l
    induction l with
    | nil => intro m h; cases m with
      | nil => rfl
      | cons y m => simp at h
    | cons x l ih => intro m h; cases m with
      | nil => simp at h
      | cons y m =>
        simp only [List.map_cons, List.cons.injEq] at h
        rw [UInt8.toNat_inj.mp h.1, ih m h.2]
  exact this _ _ h
theorem order_lt (a : List UInt8) : ∀ b : List UInt8, (Builtin.Bytes.order a b == .lt) = decide (a.map UInt8.toNat < b.map UInt8.toNat) := by
  induction a with
  | nil =>
    intro b
    cases b with
    | nil => decide
    | cons y b => simp [Builtin.Bytes.order]
  | cons x a ih =>
    intro b
    cases b with
    | nil => simp [Builtin.Bytes.order]
    | cons y b =>
      simp only [Builtin.Bytes.order, List.map_cons, List.cons_lt_cons_iff]
      by_cases h1 : x < y
      · have h1' : x.toNat < y.toNat := h1
        simp [h1, h1']
      · have h1' : ¬ x.toNat < y.toNat := h1
        by_cases h2 : x > y
        · have h2' : y.toNat < x.toNat := h2
          have h3 : ¬ x.toNat = y.toNat := by omega
          simp [h1, h2, h1', h3]
        · have h2' : ¬ y.toNat < x.toNat := h2
          have h3 : x.toNat = y.toNat := by omega
          simp [h1, h2, h1', h3, ih b]
@[reducible] noncomputable def bsKind : PyProof.Rows.KeyKind := { PyProof.Rows.strKind with
  keyOf := fun v => match v with | .bytes x _ => some (natsOf x) | _ => none
  dflt := [] }
section
variable {prog : Program} {w : World} {A : Around} {E : Value → Shared → Prop} {s : Shared}
theorem call_bytes_lt {a b : By} {t u : Tok} {Q : Value → Shared → Prop} (h : Q (.bool (decide (natsOf a < natsOf b))) s) :
    wpAny (model prog w) A (call (.builtin "bytes.__lt__") [.bytes a t, .bytes b u]) Q E s := by
  refine wpAny_call_entry bs_slot_lt (typeIs_bytes s a t) bs_entry_lt ?_ (bs_args_lt _ _)
  show wpAny _ _ (isInstance (.bytes b u) (.type "bytes") >>= fun r => _) _ _ s
  refine wpAny_bind (wpAny_isInstance (typeIs_bytes s b u) F.sub_bytes_bytes ?_)
  exact wpAny_pure ⟨_, rfl, by
    have e := order_lt a.toList b.toList
    show Q (.bool (Builtin.Bytes.order a.toList b.toList == .lt)) _
    rw [e]; exact h⟩
theorem oneLt_bytes {a b : By} {t u : Tok} {Q : Bool → Shared → Prop} (h : Q (decide (natsOf a < natsOf b)) s) : wpAny (model prog w) A (oneLt' true (.bytes a t) (.bytes b u)) Q E s := by
  rw [oneLt'_eq]
  simp only [if_true]
  refine wpAny_bind (wpAny_cRoomFor_byValue rfl ?_)
  refine wpAny_bind (wpAny_callSpecialIfBound?_slot (typeIs_bytes s a t) bs_slot_lt (call_bytes_lt ?_))
  exact wpAny_truthy_bool h
end
theorem bsKind_oneLt : bsKind.OneLt := by
  intro prog w A E s x y a b Q ha hb h
  cases x <;> simp only [bsKind, reduceCtorEq, Option.some.injEq] at ha
  cases y <;> simp only [bsKind, reduceCtorEq, Option.some.injEq] at hb
  cases ha; cases hb
  exact oneLt_bytes h

noncomputable def byVal : Value → By
  | .bytes b _ => b
  | _ => #[]
theorem BsAre.length {ys : List Value} {bs : List By} (h : BsAre ys bs) : ys.length = bs.length := by
  induction h with
  | nil => rfl
  | cons b t r ih => exact congrArg Nat.succ ih
theorem BsAre.all {ys : List Value} {bs : List By} (h : BsAre ys bs) : ∀ v, v ∈ ys → ∃ b t, v = Value.bytes b t := by
  induction h with
  | nil => exact fun _ h => nomatch h
  | cons b t r ih => exact List.forall_mem_cons.mpr ⟨⟨b, t, rfl⟩, ih⟩
theorem BsAre.vals {ys : List Value} {bs : List By} (h : BsAre ys bs) : ys.map byVal = bs := by
  induction h with
  | nil => rfl
  | cons b t r ih => rw [List.map_cons, ih]; rfl
theorem bsAre_map : ∀ (vs : List Value), (∀ v, v ∈ vs → ∃ b t, v = Value.bytes b t) → BsAre vs (vs.map byVal)
  | [], _ => .nil
  | v :: vs, h => by
    obtain ⟨x, t, rfl⟩ := h v (List.mem_cons_self ..)
    exact .cons x t (bsAre_map vs fun u hu => h u (List.mem_cons_of_mem _ hu))
theorem BsAre.keysOf {vs : List Value} {bs : List By} (hS : BsAre vs bs) : KeysOf bsKind (pairsOf vs) := by
  intro p hp
  rw [pairsOf_toList] at hp
  obtain ⟨x, t, e⟩ := hS.all _ (mem_zip_self hp).2
  exact ⟨natsOf x, by rw [e]⟩
theorem KK_bs {xs : Array Keyed} {i : Nat} (hi : i < xs.size) {x : By} {t : Tok} {q : Value} (hx : xs[i] = (.bytes x t, q)) : KK bsKind xs i = natsOf x := by
  unfold KK; rw [getElem?_pos xs i hi, hx]; rfl
theorem mapM_first_bs : ∀ {vs : List Value} {bs : List By}, BsAre vs bs → vs.mapM firstOfTuple' = pure (vs.map fun _ => none)
  | _, _, .nil => by simp
  | _, _, .cons x t h => by
    rw [List.mapM_cons, show firstOfTuple' (.bytes x t) = pure none from rfl, mapM_first_bs h]; simp
theorem mapM_typeOf_bs : ∀ {vs : List Value} {bs : List By}, BsAre vs bs → vs.mapM typeOf = pure (vs.map fun _ => Value.type "bytes")
  | _, _, .nil => by simp
  | _, _, .cons x t h => by
    rw [List.mapM_cons, mapM_typeOf_bs h]
    show (pure (Value.type "bytes") >>= fun b => pure _ >>= fun bs => pure (b :: bs)) = _
    simp
theorem keyKind_bs {v₁ v₂ : Value} {vs : List Value} {bs : List By} (hS : BsAre (v₁ :: v₂ :: vs) bs) : keyKind' (v₁ :: v₂ :: vs).toArray = pure oneType' := by
  rw [keyKind'_eq, List.mapM_toArray, mapM_first_bs hS]
  simp only [map_pure, pure_bind]
  rw [if_neg (by simp), if_neg (by simp)]
  rw [oneTypeOnly'_eq, List.mapM_toArray, mapM_typeOf_bs hS]
  simp only [map_pure, pure_bind]
  have hall : ((List.map (fun _ => Value.type "bytes") (v₁ :: v₂ :: vs)).toArray.all fun x => x == Value.type "bytes") = true := by
    simp only [List.all_toArray, List.all_map, List.all_eq_true]
    intro _ _
    rfl
  have h0 : (List.map (fun _ => Value.type "bytes") (v₁ :: v₂ :: vs)).toArray[0]? = some (Value.type "bytes") := by simp
  rw [h0]
  simp only [hall, if_true, pure_bind, Option.isSome_some]
def leB (a b : By) : Prop := ¬ natsOf b < natsOf a
theorem leB_anti {a b : By} (h : leB a b) (k : leB b a) : a = b := natsOf_inj (List.le_antisymm (List.not_lt.mp h) (List.not_lt.mp k))
theorem sorted_out_bs {vs : List Value} {bs : List By} (hS : BsAre vs bs) {xs : Array Keyed} (hp : xs.Perm (pairsOf vs)) (hs : SortedToK bsKind xs (pairsOf vs).size) :
    ∃ bs', BsAre (xs.map (·.2)).toList bs' ∧ bs'.Perm bs ∧ bs'.Pairwise leB := by
  have hl : xs.toList.Perm (vs.zip vs) := by rw [← pairsOf_toList]; exact Array.perm_iff_toList_perm.mp hp
  have hmem : ∀ p, p ∈ xs.toList → p.1 = p.2 ∧ p.1 ∈ vs := fun p hp' => mem_zip_self (hl.mem_iff.mp hp')
  refine ⟨xs.toList.map (fun p => byVal p.1), ?_, ?_, ?_⟩
  · have e : (xs.map (·.2)).toList = xs.toList.map (·.1) := by
      rw [Array.toList_map]; exact List.map_congr_left fun p hp' => (hmem p hp').1.symm
    rw [e]
    have h1 := bsAre_map (xs.toList.map (·.1)) (by
      intro v hv
      obtain ⟨p, hp', rfl⟩ := List.mem_map.mp hv
      exact hS.all _ (hmem p hp').2)
    rwa [List.map_map] at h1
  · have h1 := hl.map (fun p => byVal p.1)
    have e2 : (vs.zip vs).map (fun p => byVal p.1) = bs := by
      have : (vs.zip vs).map (fun p => byVal p.1) = ((vs.zip vs).map Prod.fst).map byVal := by rw [List.map_map]; rfl
      rw [this, List.map_fst_zip (Nat.le_refl _), hS.vals]
    rwa [e2] at h1
  · rw [List.pairwise_iff_getElem]
    intro i j hi hj hij
    have hi' : i < xs.size := by simpa using hi
    have hj' : j < xs.size := by simpa using hj
    have h1 := hs i j (Nat.le_of_lt hij) (by rw [← hp.size_eq]; exact hj')
    obtain ⟨x, t, ex⟩ := hS.all _ (hmem xs[i] (by simp)).2
    obtain ⟨y, u, ey⟩ := hS.all _ (hmem xs[j] (by simp)).2
    rw [KK_bs hi' (x := x) (t := t) (q := xs[i].2) (Prod.ext ex rfl), KK_bs hj' (x := y) (t := u) (q := xs[j].2) (Prod.ext ey rfl)] at h1
    change decide (natsOf y < natsOf x) = false at h1
    simp only [List.getElem_map, Array.getElem_toList]
    rw [show byVal xs[i].1 = x by rw [ex]; rfl, show byVal xs[j].1 = y by rw [ey]; rfl]
    simpa [leB] using h1
def LtAll (news : Led) (D : Addr) : Prop := ∀ p ∈ news, p.1 < D
theorem ltAll_of {news : Led} {D : Addr} (h : ∀ p ∈ news, p.1 < D) : LtAll news D := h
theorem mi_sorted {prog : Program} {w : World} {A : Around} {E : Value → Shared → Prop} {s : Shared} {h₀ : Heap} {L : Addr} {m : Str → Option Value} {news : List (Addr × Obj)} {l : Addr} {vs : List Value} {n : Nat} {bs : List By} {Q : Value → Shared → Prop}
    (F : Fr h₀ L s.heap m) (N : News h₀ L s.heap news) (hm : (l, W.listOf vs.toArray n) ∈ news) (hS : BsAre vs bs) (h64 : bs.length < 64)
    (h : ∀ (D : Addr) (h' : Heap) (vs' : List Value) (bs' : List By) (e : Nat), Fr h₀ L h' m → News h₀ L h' ((D, W.listOf vs'.toArray e) :: news) → (∀ p ∈ news, p.1 < D) → BsAre vs' bs' → bs'.Perm bs → bs'.Pairwise leB → Q (.ref D) { s with heap := h' }) :
    wpAny (model prog w) A (call (.builtin "sorted") [.ref l]) Q E s := by
  have hl : s.heap.IsList l vs.toArray := PySem.IsL.isList (n := n) (N _ hm).1
  refine sortedK bsKind_oneLt hl hS.keysOf (fun v₁ v₂ rest e => keyKind_bs (by rw [← e]; exact hS)) (by rw [hS.length]; exact h64) fun st' hp hs => ?_
  obtain ⟨bs', h1, h2, h3⟩ := sorted_out_bs hS hp hs
  obtain ⟨e, he⟩ := sortedAll_at s.heap vs ((arrOf st').map (·.2))
  exact h _ _ ((arrOf st').map (·.2)).toList bs' e (F.kept fun _ _ => sortedAll_old) (N.kept_cons F (fun _ _ => sortedAll_old) (Nat.le_succ _) he) (fun p hp => Nat.lt_succ_of_lt (Heap.lt_size (N p hp).1)) h1 h2 h3
theorem sorted_uniq (l : List By) : ∀ m : List By, l.Perm m → l.Pairwise leB → m.Pairwise leB → l = m := by
  induction l with
  | nil => intro m h _ _; exact h.nil_eq
  | cons a l ih =>
   intro m h h1 h2
   cases m with
   | nil => exact absurd h.symm.nil_eq (by simp)
   | cons b m =>
    have e : a = b := by
      rw [List.pairwise_cons] at h1 h2
      rcases List.mem_cons.mp (h.mem_iff.mp (.head l)) with e | hb
      · exact e
      · rcases List.mem_cons.mp (h.mem_iff.mpr (.head m)) with e | ha
        · exact e.symm
        · exact leB_anti (h1.1 b ha) (h2.1 a hb)
    subst e
    rw [ih m (List.Perm.cons_inv h) (List.pairwise_cons.mp h1).2 (List.pairwise_cons.mp h2).2]
end
theorem kw_31 : True := by
  (k_with "M call builtin:sorted" => (k_here; k_dflt (refine' mi_sorted ?q_F ?q_N ?q_m ?q_S ?q_z ?_; (case q_F => k_asm); (case q_N => k_asm); (case q_m => k_mem); (case q_S => assumption); (case q_z => assumption)); intro _ _ _ _ _ _ _ l1 _ _ _; (have l9 := ltAll_of l1); (try k_lt l1)))
  trivial
section
theorem krel_get {kkvs : List (Int × Value)} : ∀ {ks : List (Int × By)}, KRel kkvs ks → ∀ (i : Nat) {k : Int} {x : Value}, kkvs[i]? = some (k, x) → ∃ b, ks[i]? = some (k, b) := by
  induction kkvs with
  | nil => intro ks h i k x e; simp at e
  | cons p r ih =>
    obtain ⟨j, v⟩ := p
    intro ks h i k x e
    cases ks with
    | nil => exact h.elim
    | cons q r2 =>
      obtain ⟨j2, b2⟩ := q
      obtain ⟨h1, h2, h3⟩ := h
      cases i with
      | zero =>
        simp only [List.getElem?_cons_zero, Option.some.injEq, Prod.mk.injEq] at e
        exact ⟨b2, by simp [← h1, e.1]⟩
      | succ i => simpa using ih h3 i (by simpa using e)
theorem kw_32 : True := by
  (k_with "M eval ListComp" => (k_here; k_dflt (refine ListComp_W (F₀ := by k_asm) (by first | rfl | with_unfolding_all rfl) (by decide) (by rfl) (by decide) (by rfl) ?_)))
  trivial
theorem kw_33 : True := by
  (k_with "M mine tosrc" => repeat' ((fail_if_success (with_reducible show SrcW _ _ _ _ _ _ _ _ _ _ _ _ _ _)); walk_at "mine one"))
  trivial
theorem keys_sp (w : World) (M : Addr) (σ : Tb) (led : Led) (hT : TabIs w M σ led) (hz : σ.ks.length < 64) :
    Sp w 3 120 395 [.ref M] led (fun v led' => ∃ D ys bs e l, v = .ref D ∧ led' = (D, W.listOf (List.toArray ys) e) :: l ∧ TabIs w M σ l ∧ BsAre ys bs ∧ bs.Perm (σ.ks.map (·.2)) ∧ bs.Pairwise leB ∧ NeAll l D) := by
  obtain ⟨Md, V, Bk, K, O, hh, tt, n, hM, hMd, VA, KA, OA⟩ := TabIs.inst hT
  walk_at "mine spc"
  intro mean mg mb dp un gd outer A₀ base h₀ L hpS gS dS kS oS Q E rest cells B F X N Y OR T hd hu l1 hnx hret hpo
  (try dsimp only [List.cons_append] at N l1)
  (try k_lt l1)
  k_cells Y
  (try dsimp only [List.cons_append, List.nil_append] at N)
  have KA' := KA
  obtain ⟨oK, kkvs, hm, hK, lo, rK⟩ := KA'
  have hlen := krel_length rK
  walk_at "mine tosrc"
  refine srcW_dict (od := oK) (knd := PySem.intKind PySem.Challenge.rw_qz0154_01.row.prog w) (by rfl) (by k_asm) (by k_asm) hK ?m lo (by rw [sizeLine_eq]; omega) (fun nw => (K, oK) ∈ nw) ?m2 (fun nw h => h) ?_
  case m => k_mem
  case m2 => k_mem
  intro g1
  refine comp_pure (fun (i : Nat) (y : Value) => ∃ b t, (σ.ks.map (·.2))[i]? = some b ∧ y = .bytes b t) ?turn ?S ?fin
  case S => k_mem
  case turn =>
    intro i v ys I oI C oC D m₂ h9 tk E' hi9 hv hC hx F1 N1 off ne K9 hK9
    obtain ⟨k, x, hkx, hkv⟩ := hv
    obtain ⟨b, hb⟩ := krel_get rK i hkx
    have hkb : (k, b) ∈ σ.ks := List.mem_of_getElem? hb
    obtain ⟨t, rfl⟩ : ∃ t, v = .int k t := Value.isInt_shape hkv
    walk_at "mine steps"
    exact hK9 _ _ (cpost_end (by assumption) (by assumption) ⟨_, _, by simp [hb], rfl⟩)
  case fin =>
    intro ys hl hy
    have hbs : BsAre ys (σ.ks.map (·.2)) := bsAre_of (by rw [hl, hlen]; simp) hy
    have hz' : (σ.ks.map (·.2)).length < 64 := by simpa using hz
    walk_at "mine steps"
    rename BsAre _ _ => bS
    rename List.Perm _ _ => bP
    rename List.Pairwise _ _ => bW
    rename LtAll _ _ => lD
    refine' hret _ ((_, W.listOf (List.toArray _) _) :: led) _ _ ⟨_, _, _, _, led, rfl, rfl, hT, bS, bP, bW, ?ld⟩ ?o ?f ?n
    case n => (refine' news_sub (by assumption) ?_; (dsimp only [List.cons_append]); walk_at "mine sub")
    case f => assumption
    case ld => exact fun p hp => Nat.ne_of_lt (lD p (by simp [hp]))
    case o => exact own_cons (fun p hp => Nat.ne_of_lt (lD p (by simp [hp]))) OR
section
variable {w : World} {mean : ExcName → Option Value} {mg mb : Str → Option Value} {dp un : Nat} {gd : Option (List Code)} {cn : Str} {cs : Scope} {a : Addr} {ccd : Value} {cl : List (Str × Addr)} {outer : List Env} {A₀ : Around} {base h₀ : Heap} {L M : Addr} {m : Str → Option Value} {s : Shared} {Q E : Value → Shared → Prop} {led rest : Led} {σ : Tb} {rows : List (By × Int)} {oct : Int → By}
theorem keys_use (hT : TabIs w M σ led) (hz : σ.ks.length < 64) (B : Below A₀ base outer h₀) (F : Fr h₀ L s.heap m) (X : (Mine.hd.heap_1 w.params).In h₀) (N : News h₀ L s.heap (led ++ rest)) (OR : OwnOff rest (led.map (·.1)))
    (T : Top Mine.hd.view_39 (looseW Mine.hd.view_39 [Str.ofString "GateError", Str.ofString "HashMap"]) mean mg mb h₀) (hk : cs.kind = .function) (hd : dp + 3 < recursionLimit) (hu : un + 120 < cLine)
    (hret : ∀ (D : Addr) (ys : List Value) (bs : List By) (e : Nat) (l : Led) (h' : Heap) (tk' : Nat) (Md V B K O : Addr) (hh : Nat → Int) (tt : Nat → Tok) (n : Nat), (M, instObj 502 Md) ∈ l → (Md, dictOf (mdOf hh tt σ V B K O) n) ∈ l → ValsAt w l V σ.vals → KeysAt w l K σ.ks → OrdAt l O σ.ord → TabIs w M σ l → BsAre ys bs → bs.Perm (σ.ks.map (·.2)) → bs.Pairwise leB → NeAll l D → OwnOff rest (l.map (·.1)) → Fr h₀ L h' m → News h₀ L h' ((D, W.listOf (List.toArray ys) e) :: (l ++ rest)) → Q (.ref D) { s with heap := h', toks := tk' }) :
    wpAny (model PySem.Challenge.rw_qz0154_01.row.prog w) (ktrTop dp un gd cn cs L a ccd cl outer) (call (.ref 395) [.ref M]) Q E s := sp_use (keys_sp w M σ led hT hz) B F X N OR T hk hd hu fun v led' h' tk' p O' F' N' => by
  obtain ⟨D, ys, bs, e, l, e1, e2, T9, S, P, W, ne⟩ := p
  subst e1 e2
  obtain ⟨Md, V, B, K, O, hh, tt, n, h1, h2, h3, h4, h5⟩ := TabIs.inst T9
  exact hret D ys bs e l h' tk' Md V B K O hh tt n h1 h2 h3 h4 h5 T9 S P W ne (own_tl O') F' N'
end
end
theorem kz_keys : True := by
  k_with_none
  trivial
theorem kw_34 : True := by
  (k_with "M mine room" => first | (refine' room0 ?q_rh; (case q_rh => assumption)) | (refine' room1 ?q_rh ?q_re; (case q_rh => assumption); (case q_re => exact rfl)) | (refine' room2 ?q_rh ?q_re; (case q_rh => assumption); (case q_re => exact rfl)) | (refine' room3 ?q_rh ?q_re; (case q_rh => assumption); (case q_re => exact rfl)) | (refine' room4 ?q_rh ?q_re; (case q_rh => assumption); (case q_re => exact rfl)) | (refine' room5 ?q_rh ?q_re; (case q_rh => assumption); (case q_re => exact rfl)) | (refine' room6 ?q_rh ?q_re; (case q_rh => assumption); (case q_re => exact rfl)))
  (k_with "M mine om" => first | exact Nat.le_of_ble_eq_true rfl | (refine' Nat.le_trans ?q_rh ?q_re; (case q_rh => assumption); (case q_re => exact Nat.le_of_ble_eq_true rfl)) | omega)
  (k_with "M mine mem" => first | ((with_reducible refine List.mem_append_left _ ?_); assumption) | ((with_reducible refine List.mem_append_right _ ?_); assumption) | ((with_reducible refine lmem_l ?_); assumption) | ((with_reducible refine lmem_r ?_); k_mem))
  (k_with "M mine one" => first | (k_unfold; (try dsimp only)) | walk1 | (dsimp only; walk1) | (dsimp only; k_unfold; (try dsimp only)) | (refine next_ret (by assumption) ?_) | fail "no step")
  (k_with "M mine df" => ((try dsimp only); (try k_fold)))
  (k_with "M compareOp In int ref" => (k_here; k_dflt (refine' mi_in ?q_N ?q_m ?q_i ?_; (case q_N => k_asm); (case q_m => k_mem); (case q_i => k_asm))))
  (k_with "M call builtin:list.remove" => (k_here; k_dflt (refine' mi_remove ?q_F ?q_N ?q_i ?q_k ?q_U ?q_z ?_; (case q_F => k_asm); (case q_N => k_asm); (case q_U => k_updF); (case q_i => k_asm); (case q_k => first | assumption | (simpa using ‹_›)); (case q_z => first | assumption | walk_at "mine om")); intro _ _ _ _ _ _))
  (k_with "M call builtin:list.append" => (k_here; k_dflt (refine' mi_append ?q_F ?q_N ?q_i ?q_U ?q_z ?_; (case q_F => k_asm); (case q_N => k_asm); (case q_U => k_updF); (case q_i => k_asm); (case q_z => first | assumption | omega | (simp only [List.length_erase]; split <;> omega))); intro _ _ _ _ _ _))
  (k_with "M mine steps" => repeat' walk_at "mine one")
  (k_with "M mine sub" => first | exact sub_refl _ | exact sub_nil | ((with_reducible refine sub_cons ?_ ?_); (· k_mem); walk_at "mine sub") | ((with_reducible refine sub_app ?_ ?_); (· walk_at "mine sub"); walk_at "mine sub") | ((with_reducible refine sub_tail ?_); walk_at "mine sub") | ((with_reducible refine sub_inl ?_); walk_at "mine sub") | ((with_reducible refine sub_inr ?_); walk_at "mine sub"))
  (k_with "M mine enter" => (refine' code_def ?q_k1 ?q_k2 ?q_k3 ?q_k4 ?q_k5 ?q_kA ?q_kF ?q_kK ?q_k6 ?q_k7 ?q_k8 ?q_k9 ?q_kB ?_ ?q_c2 ?q_c3 ?q_c4 ?q_c5; (case q_kA => exact rfl); (case q_kF => exact rfl); (case q_kK => first | assumption | exact rfl); (case q_k1 => k_asm); (case q_k2 => k_asm); (case q_k3 => k_asm); (case q_k4 => k_asm); (case q_k5 => k_asm); (case q_k6 => k_is); (case q_k7 => k_is); (case q_k8 => ktr_room); (case q_k9 => first | exact BindsTo.of_eq rfl | exact binds_K (by k_in) rfl (by k_is) rfl rfl rfl); (case q_c5 => decide); (case q_kB => exact locs rfl); (case q_c2 => exact rfl); (case q_c3 => exact rfl); (case q_c4 => exact rfl); k_whole; intro _ _ _ _ _ _ B9 _ _; (try dsimp only); (try k_lift B9); (try k_fold)))
  (k_with "M mine call" => ((case O => k_asm); (case B => k_asm); (case F => k_asm); (case X => k_asm); (case N => first | k_asm | (refine' news_sub (by assumption) ?_; walk_at "mine sub")); (case T => k_asm); (case hk => first | exact rfl | assumption); (case hd => ktr_room); (case hu => ktr_units)))
  (k_with "M mine toloop" => repeat' ((fail_if_success (with_reducible show wpAny _ _ (pyIter _) _ _ _)); walk_at "mine one"))
  (k_with "M mine enterC" => (refine' code_defC ?q_k1 ?q_k2 ?q_k3 ?q_k4 ?q_k5 ?q_kA ?q_kF ?q_kK ?q_k6 ?q_k7 ?q_k8 ?q_k9 ?q_kB ?q_kD ?_ ?q_c2 ?q_c3 ?q_c4; (case q_kA => exact rfl); (case q_kF => exact rfl); (case q_kK => first | assumption | exact rfl); (case q_k1 => k_asm); (case q_k2 => k_asm); (case q_k3 => k_asm); (case q_k4 => k_asm); (case q_k5 => k_asm); (case q_k6 => k_is); (case q_k7 => k_is); (case q_k8 => ktr_room); (case q_k9 => first | exact BindsTo.of_eq rfl | exact binds_K (by k_in) rfl (by k_is) rfl rfl rfl); (case q_kB => exact rfl); (case q_kD => decide +kernel); (case q_c2 => exact rfl); (case q_c3 => exact rfl); (case q_c4 => exact rfl); k_whole; intro _ _ _ _ _ _ _ N9 Y9 B9 _ _ l9; (try k_lt l9); k_cells Y9; (try dsimp only [List.cons_append, List.nil_append] at N9); (try dsimp only); (try k_lift B9); (try k_fold)))
  (k_with "M mine sp" => (k_dflt (refine' sp_enter ?q_6 ?q_7 ?q_9 ?q_B ?q_c2 ?q_c3 ?q_c4 ?q_c5 ?_; (case q_6 => k_is); (case q_7 => k_is); (case q_9 => first | exact bt_zip rfl | exact fun s X => binds_K X rfl (by k_is) rfl rfl rfl); (case q_c5 => decide); (case q_B => exact locs rfl); (case q_c2 => exact rfl); (case q_c3 => exact rfl); (case q_c4 => exact rfl))))
  (k_with "M mine spc" => (k_dflt (refine' sp_enterC ?q_6 ?q_7 ?q_9 ?q_B ?q_D ?q_c2 ?q_c3 ?q_c4 ?_; (case q_6 => k_is); (case q_7 => k_is); (case q_9 => first | exact bt_zip rfl | exact fun s X => binds_K X rfl (by k_is) rfl rfl rfl); (case q_B => exact rfl); (case q_D => decide +kernel); (case q_c2 => exact rfl); (case q_c3 => exact rfl); (case q_c4 => exact rfl))))
  (k_with "M mine om2" => with_reducible first | assumption | ((show (_ : Nat) ≤ _); first | exact omN1 (by assumption) (by first | with_reducible rfl | decide) | exact omN2 (by assumption) (by assumption) (by first | with_reducible rfl | decide) | exact omN4 (by assumption) (by assumption) (by first | with_reducible rfl | decide) | exact omN5 (by assumption) (by assumption) (by first | with_reducible rfl | decide) | exact omN8 (by assumption) | exact omN8e (by assumption) (by assumption) | exact omN6 (by assumption) (by first | with_reducible rfl | decide) | exact omN6e (by assumption) (by assumption) (by first | with_reducible rfl | decide) | exact omN7 (by assumption) (by first | with_reducible rfl | decide) | exact omN7e (by assumption) (by assumption) (by first | with_reducible rfl | decide) | exact omN9 (by assumption) (by first | with_reducible rfl | decide) | exact omN9' (by assumption) (by first | with_reducible rfl | decide) | exact omN16 (by assumption) (by first | with_reducible rfl | decide) | exact omN2' (by assumption) (by assumption) (by first | with_reducible rfl | decide) | exact omN3 (by assumption) (by assumption) (by assumption) (by first | with_reducible rfl | decide) | exact omN11 (by assumption) | exact omN22 (by assumption) | exact Nat.le_of_eq (Eq.symm (by assumption)) | exact Nat.le_of_eq (by assumption) | exact Nat.le_add_left _ _ | exact Nat.le_trans (by assumption) (by assumption) | exact omN15 (by assumption)) | ((show (_ : Int) ≤ _); first | exact Int.natCast_nonneg _ | exact omI1 (by assumption) (by first | with_reducible rfl | decide) | exact omI3 (by assumption) (by first | with_reducible rfl | decide) | exact omI7 (by assumption) (by first | with_reducible rfl | decide) | exact omI8 (by assumption) (by first | with_reducible rfl | decide) | exact omI11 (by assumption) (by first | with_reducible rfl | decide) | exact omI12 (by assumption) (by assumption) (by first | with_reducible rfl | decide) | exact omI13 (by assumption) (by assumption) (by first | with_reducible rfl | decide) | exact omI14 (by assumption) (by assumption) | exact omI15 (by assumption) (by assumption) | exact omI17 (by assumption) (by first | with_reducible rfl | decide) | exact Int.le_trans (by assumption) (by assumption)) | ((show (_ : Nat) < _); first | exact omN13 (by assumption) | exact omN15 (by assumption) | exact omN17 (by assumption) (by first | with_reducible rfl | decide) | exact omN18 (by assumption) | exact omN19 (by assumption) (by assumption) | exact omN25 (by assumption) | exact omN25' (by assumption) | exact omN26 (by assumption) | exact omN27 (by assumption) (by assumption) (by first | with_reducible rfl | decide) | exact omN22' (by assumption) | exact omN23 (by assumption) | exact Nat.sub_lt (by assumption) (by decide) | exact omN11 (by assumption)) | ((show (_ : Int) < _); first | exact omI4 (by assumption) (by first | with_reducible rfl | decide) | exact omI5 (by assumption) (by first | with_reducible rfl | decide) | exact omI5e (by assumption) (by assumption) (by first | with_reducible rfl | decide) | exact omI27 (by assumption) (by assumption) (by first | with_reducible rfl | decide) | exact omI9 (by assumption) (by first | with_reducible rfl | decide) | exact omI10 (by assumption) (by first | with_reducible rfl | decide) | exact omI16 (by assumption) (by first | with_reducible rfl | decide) | exact omI19 (by assumption) (by assumption) | exact omN24 (by assumption)) | ((show (_ : Nat) = _); first | exact omN12 (by assumption) (by assumption) (by assumption) | exact omN12' (by assumption) (by assumption) (by assumption) | exact omN14 (by assumption) | exact omN20 (by assumption) | exact omN21 (by assumption) (by assumption) | exact Nat.zero_add _ | exact omN28 | exact omN28.symm | exact Eq.trans (by assumption) (Eq.symm (by assumption)) | exact Eq.trans (by assumption) (by assumption)) | ((show (_ : Int) = _); first | exact Int.toNat_of_nonneg (by assumption) | exact omI6 (by assumption) | exact omI18 (by assumption) | exact omI20 (by assumption) (by assumption) (by decide) | exact omI23 (by assumption) (by decide) | exact omI29 | exact omI29.symm | exact omI30 | exact omI30.symm | exact omM1 (by assumption) (by assumption) | exact Eq.trans (by assumption) (Eq.symm (by assumption)) | exact Eq.trans (by assumption) (by assumption)) | ((show (_ : Nat) ≠ _); first | exact omX1 (by assumption) | exact omX2 (by assumption) | exact omX3 (by assumption) | exact omX4 (by assumption) | exact omX5 (by assumption) | exact omX6 (by assumption) | exact omY1 (by assumption) | exact omY2 (by assumption) | exact omY3 (by assumption) | exact Ne.symm (omX1 (by assumption)) | exact Ne.symm (omX2 (by assumption)) | exact Ne.symm (omX3 (by assumption)) | exact Ne.symm (omX4 (by assumption)) | exact Ne.symm (omX5 (by assumption)) | exact Ne.symm (omX6 (by assumption)) | exact Ne.symm (omY1 (by assumption)) | exact Ne.symm (omY2 (by assumption)) | exact Ne.symm (omY3 (by assumption))) | ((show False); first | exact omF5 (by assumption) | exact omF6 (by assumption) | exact omF1 (by assumption) (by assumption) (by decide) | exact omF2 (by assumption) (by assumption) (by decide) (by decide) | exact omF3 (by assumption) (by assumption) (by decide) (by decide) | exact omF4 (by assumption) (by assumption) (by decide) (by decide) | contradiction) | ((show ¬ _); first | exact omI21 (by assumption) (by decide) | exact omI22 (by assumption) (by decide) | exact omI24 (by assumption) (by decide) | exact omI25 (by assumption) (by decide) | exact omI26 (by assumption) (by decide) | exact omX7 (by assumption) | exact omX1 (by assumption) | exact omX2 (by assumption) | exact omX3 (by assumption) | exact omX4 (by assumption) | exact omX5 (by assumption) | exact omX6 (by assumption) | exact Ne.symm (omX1 (by assumption)) | exact Ne.symm (omX2 (by assumption)) | exact Ne.symm (omX3 (by assumption)) | exact Ne.symm (omX4 (by assumption)) | exact Ne.symm (omX5 (by assumption)) | exact Ne.symm (omX6 (by assumption))) | ((show _ ∨ _); first | exact int_four (by assumption) (by assumption) | exact one_four (by assumption) (by assumption) | exact int_five _ (by assumption) (by assumption)) | decide)
  (k_with "M mine argn" => first | exact ArgsN.nil | (refine ArgsN.cons rfl ⟨rfl, rfl, rfl⟩ ?_; walk_at "mine argn"))
  (k_with "M eval Attribute Name" => (k_here; k_dflt (refine' self_at ?q_F ?q_X ?q_N ?q_h1 ?q_k ?q_hM ?q_hMd ?q_hg ?q_hh ?q_ha ?q_hn ?q_hl ?q_hv ?_; (case q_F => k_asm); (case q_X => k_asm); (case q_N => k_asm); (case q_h1 => exact rfl); (case q_k => exact ⟨rfl, rfl, rfl⟩); (case q_hM => k_mem); (case q_hMd => k_mem); (case q_hg => k_is); (case q_hh => k_is); (case q_ha => k_is); (case q_hn => k_is); (case q_hl => k_get); (case q_hv => k_handed))))
  (k_with "M eval Call Attribute" => (k_here; k_dflt (refine' MethodCall_ (mcall ?q_F ?q_X ?q_N ?q_h1 ?q_k ?q_hM ?q_hMd ?q_hg ?q_hf ?q_ht ?q_hl ?q_hk ?q_H ?_); (case q_F => k_asm); (case q_X => k_asm); (case q_N => k_asm); (case q_h1 => exact rfl); (case q_k => exact ⟨rfl, rfl, rfl⟩); (case q_hM => k_mem); (case q_hMd => k_mem); (case q_hg => k_is); (case q_hf => k_is); (case q_ht => k_is); (case q_hl => k_get); (case q_hk => k_is); (case q_H => walk_at "mine argn")); (try dsimp only [List.cons_append, List.nil_append])))
  (k_with "M isTrue BoolOp" => (k_here; (with_reducible show wpAny _ _ (isTrue (PySem.Expr.BoolOp BoolOp.And [PySem.Expr.Compare (PySem.Expr.Name _ _) [CmpOp.Eq] [PySem.Expr.Constant (Const.int _) _ _] _, PySem.Expr.Compare (PySem.Expr.Name _ _) [CmpOp.Lt] [PySem.Expr.Constant (Const.int _) _ _] _] _) _ _) _ _ _); k_dflt (refine' and_ff ?q_F ?q_h ?q_k ?q_h2 ?q_k2 ?q_e1 ?q_e2 ?q_n ?_; (case q_F => k_asm); (case q_h => rfl); (case q_h2 => rfl); (case q_k => exact ⟨rfl, rfl, rfl⟩); (case q_k2 => exact ⟨rfl, rfl, rfl⟩); (case q_e1 => rfl); (case q_e2 => rfl); (case q_n => omega)); intro _))
  (k_with "M mine enterS" => (refine' codeS_def ?q_k1 ?q_k2 ?q_k3 ?q_k4 ?q_k5 ?q_kA ?q_kF ?q_kK ?q_k6 ?q_k7 ?q_k8 ?q_k9 ?q_kB ?_ ?q_c2 ?q_c3 ?q_c4 ?q_c5; (case q_kA => exact rfl); (case q_kF => exact rfl); (case q_kK => first | assumption | exact rfl); (case q_k1 => k_asm); (case q_k2 => k_asm); (case q_k3 => k_asm); (case q_k4 => k_asm); (case q_k5 => k_asm); (case q_k6 => k_is); (case q_k7 => k_is); (case q_k8 => ktr_room); (case q_k9 => first | exact BindsTo.of_eq rfl | exact binds_K (by k_in) rfl (by k_is) rfl rfl rfl); (case q_c5 => decide); (case q_kB => exact locs rfl); (case q_c2 => exact rfl); (case q_c3 => exact rfl); (case q_c4 => exact rfl); k_whole; intro _ _ _ _ _ _ B9 _ _; (try dsimp only); (try k_lift B9); (try k_fold)))
  (k_with "M mine sps" => (k_dflt (refine' sps_enter ?q_6 ?q_7 ?q_9 ?q_B ?q_c2 ?q_c3 ?q_c4 ?q_c5 ?_; (case q_6 => k_is); (case q_7 => k_is); (case q_9 => first | exact bt_zip rfl | exact fun s X => binds_K X rfl (by k_is) rfl rfl rfl); (case q_c5 => decide); (case q_B => exact locs rfl); (case q_c2 => exact rfl); (case q_c3 => exact rfl); (case q_c4 => exact rfl))))
  (k_with "M call type:bytes" => (k_here; (with_reducible show wpAny _ _ (call (Value.type _) [Value.bytes _ _]) _ _ _); k_dflt (refine' call_bytes_bytes ?_)))
  (k_with "M exec Raise some none" => (k_here; exfalso; omega))
  (k_with "M call builtin:len" => (k_here; (with_reducible show wpAny _ _ (call (Value.builtin "len") [Value.ref _]) _ _ _); k_dflt (refine' kst_len ?q_N ?q_m ?q_e ?q_z ?_; (case q_N => k_asm); (case q_m => k_mem); (case q_e => first | assumption | exact List.length_map _); (case q_z => walk_at "mine om"))))
  (k_with "M getItem ref int" => (k_here; k_dflt (refine' kdt_getItem (knd := PySem.intKind _ _) ?q_N ?q_m ?q_d (intKind_is _ _ _ _) ?q_v ?_; (case q_N => k_asm); (case q_m => k_mem); (case q_d => k_asm); (case q_v => k_asm))))
  (k_with "M call ref" => (k_here; (with_reducible show wpAny _ _ (call (Value.ref 292) _ _) _ _ _); k_dflt (refine' sp0_int (hash_sp _ _ _ ?q_z) ?B ?F ?X ?N ?T ?hk ?hd ?hu ?_; (case B => k_asm); (case F => k_asm); (case X => k_asm); (case N => k_asm); (case T => k_asm); (case hk => first | exact rfl | assumption); (case q_z => walk_at "mine om"); (case hd => ktr_room); (case hu => ktr_units)); intro _ _ _ _ _; walk_at "mine df"))
  (k_with "M subscriptTail" => (k_here; (with_reducible show wpAny _ _ (subscriptTail _ _ (Value.ref _) (Value.int (Builtin.bitAnd _ _) _)) _ _ _); (with_unfolding_all refine' mi_bucket ?q_N ?q_m ?q_x ?q_z ?q_f ?_ ?q_k6; (case q_N => k_asm); (case q_m => k_mem); (case q_x => assumption); (case q_z => walk_at "mine om"); (case q_f => walk_at "mine om"); (case q_k6 => with_unfolding_all rfl))))
  (k_with "M SPost" => ((with_reducible show SPost _ _ _ _ _ _ _ (Flow.ret _) _); dsimp only [SPost]))
  (k_with "M call ref" => (k_here; (with_reducible show wpAny _ _ (call (Value.ref 325) _ _) _ _ _); k_dflt ((first | refine' sp_tabI (peer_none _ _ _ _ ?q_hT _ _ ?q_z1 ?q_z2 ?q_z3 ?q_z4) ?B ?F ?X ?N ?O ?T ?hk ?hd ?hu ?_ | refine' sp_tab (peer_none _ _ _ _ ?q_hT _ _ ?q_z1 ?q_z2 ?q_z3 ?q_z4) ?B ?F ?X ?N ?O ?T ?hk ?hd ?hu ?_); (case q_hT => k_asm); (case q_z1 => first | assumption | walk_at "mine om" | exact rfl); (case q_z2 => first | assumption | walk_at "mine om" | exact rfl); (case q_z3 => first | assumption | walk_at "mine om" | exact rfl); (case q_z4 => first | assumption | walk_at "mine om" | exact rfl); walk_at "mine call"); intro _ _ _ _ _ _ _ _ _ _ _ _ _ _ _ _ _ _ _; walk_at "mine df"))
  (k_with "M call ref" => (k_here; (with_reducible show wpAny _ _ (call (Value.ref 325) _ _) _ _ _); k_dflt ((first | refine' sp_tabI (peer_some _ _ _ _ ?q_hT _ _ ?q_z1 ?q_z2 ?q_z3 _ ?q_z4) ?B ?F ?X ?N ?O ?T ?hk ?hd ?hu ?_ | refine' sp_tab (peer_some _ _ _ _ ?q_hT _ _ ?q_z1 ?q_z2 ?q_z3 _ ?q_z4) ?B ?F ?X ?N ?O ?T ?hk ?hd ?hu ?_); (case q_hT => k_asm); (case q_z1 => first | assumption | walk_at "mine om" | exact rfl); (case q_z2 => first | assumption | walk_at "mine om" | exact rfl); (case q_z3 => first | assumption | walk_at "mine om" | exact rfl); (case q_z4 => first | assumption | walk_at "mine om" | exact rfl); walk_at "mine call"); intro _ _ _ _ _ _ _ _ _ _ _ _ _ _ _ _ _ _ _; walk_at "mine df"))
  (k_with "M call ref" => (k_here; (with_reducible show wpAny _ _ (call (Value.ref 454) _ _) _ _ _); k_dflt ((first | refine' sp_tabI (used_sp _ _ _ _ ?q_hT _ _ ?q_z1) ?B ?F ?X ?N ?O ?T ?hk ?hd ?hu ?_ | refine' sp_tab (used_sp _ _ _ _ ?q_hT _ _ ?q_z1) ?B ?F ?X ?N ?O ?T ?hk ?hd ?hu ?_); (case q_hT => k_asm); (case q_z1 => first | assumption | walk_at "mine om" | exact rfl); walk_at "mine call"); intro _ _ _ _ _ _ _ _ _ _ _ _ _ _ _ _ _ _ _; walk_at "mine df"))
  (k_with "M compareOp NotIn int ref" => (k_here; k_dflt (refine' mi_dnotin ?q_N ?q_d ?q_m ?q_l ?q_r ?_; (case q_N => k_asm); (case q_m => k_mem); (case q_d => assumption); (case q_l => assumption); (case q_r => assumption))))
  (k_with "M call ref" => (k_here; (with_reducible show wpAny _ _ (call (Value.ref 354) _ _) _ _ _); k_dflt ((first | refine' sp_tabI (free_some _ _ _ _ ?q_hT ?q_z5 _ ?q_z2 ?q_z3 ?q_z1 ?q_z4) ?B ?F ?X ?N ?O ?T ?hk ?hd ?hu ?_ | refine' sp_tab (free_some _ _ _ _ ?q_hT ?q_z5 _ ?q_z2 ?q_z3 ?q_z1 ?q_z4) ?B ?F ?X ?N ?O ?T ?hk ?hd ?hu ?_); (case q_hT => k_asm); (case q_z1 => first | assumption | walk_at "mine om" | exact rfl); (case q_z2 => first | assumption | walk_at "mine om" | exact rfl); (case q_z3 => first | assumption | walk_at "mine om" | exact rfl); (case q_z4 => first | assumption | walk_at "mine om" | exact rfl); (case q_z5 => first | assumption | walk_at "mine om" | exact rfl); walk_at "mine call"); intro _ _ _ _ _ _ _ _ _ _ _ _ _ _ _ _ _ _ _; walk_at "mine df"))
  (k_with "M call ref" => (k_here; (with_reducible show wpAny _ _ (call (Value.ref 354) _ _) _ _ _); k_dflt ((first | refine' sp_tabI (free_none _ _ _ _ ?q_hT ?q_z1 ?q_z2) ?B ?F ?X ?N ?O ?T ?hk ?hd ?hu ?_ | refine' sp_tab (free_none _ _ _ _ ?q_hT ?q_z1 ?q_z2) ?B ?F ?X ?N ?O ?T ?hk ?hd ?hu ?_); (case q_hT => k_asm); (case q_z1 => first | assumption | walk_at "mine om" | exact rfl); (case q_z2 => first | assumption | walk_at "mine om" | exact rfl); walk_at "mine call"); intro _ _ _ _ _ _ _ _ _ _ _ _ _ _ _ _ _ _ _; walk_at "mine df"))
  (k_with "M call ref" => (k_here; (with_reducible show wpAny _ _ (call (Value.ref 475) _ _) _ _ _); k_dflt ((first | refine' sp_tabI (unlink_sp _ _ _ _ ?q_hT _ _ _ ?q_z1 ?q_z2 ?q_z3 ?q_z4 ?q_z5) ?B ?F ?X ?N ?O ?T ?hk ?hd ?hu ?_ | refine' sp_tab (unlink_sp _ _ _ _ ?q_hT _ _ _ ?q_z1 ?q_z2 ?q_z3 ?q_z4 ?q_z5) ?B ?F ?X ?N ?O ?T ?hk ?hd ?hu ?_); (case q_hT => k_asm); (case q_z1 => first | assumption | walk_at "mine om" | exact rfl); (case q_z2 => first | assumption | walk_at "mine om" | exact rfl); (case q_z3 => first | assumption | walk_at "mine om" | exact rfl); (case q_z4 => first | assumption | walk_at "mine om" | exact rfl); (case q_z5 => first | assumption | walk_at "mine om" | exact rfl); walk_at "mine call"); intro _ _ _ _ _ _ _ _ _ _ _ _ _ _ _ _ _ _ _; walk_at "mine df"))
  (k_with "M mine updF" => first | ((with_reducible refine' updF_appL ?q_ua ?q_ub); (case q_ub => assumption); (case q_ua => k_updF)) | ((with_reducible refine' updF_appR ?q_ua ?q_ub); (case q_ua => assumption); (case q_ub => k_updF)) | (refine' UpdF.head ?q_ua; (case q_ua => first | assumption | k_all)))
  (k_with "M call builtin:dict.pop" => (k_here; k_dflt (refine' kob_pop (knd := PySem.intKind _ _) (more := []) ?q_F ?q_N ?q_U ?q_d (intKind_is _ _ _ _) (.inl rfl) (by rfl) (PySem.F.args_dict_pop_2 _ _) ?q_l ?q_z ?_; (case q_F => k_asm); (case q_N => k_asm); (case q_U => k_updF); (case q_d => assumption); (case q_l => assumption); (case q_z => assumption)); intro _ _ _ _ _))
  (k_with "M compareOp Eq ref ref" => (k_here; k_dflt (refine' mi_eqints ?q_N ?q_m ?q_i ?q_m2 ?q_i2 ?q_u ?_; (case q_N => k_asm); (case q_m => k_mem); (case q_i => assumption); (case q_m2 => k_mem); (case q_i2 => first | exact IntsAre.nil | assumption); (case q_u => ktr_units))))
  (k_with "M compareOp Eq ref ref" => (k_here; k_dflt (refine' mi_eqcons ?q_N ?q_m ?q_i ?q_m2 ?q_i2 ?q_u ?_; (case q_N => k_asm); (case q_m => k_mem); (case q_i => assumption); (case q_m2 => k_mem); (case q_i2 => exact IntsAre.nil); (case q_u => ktr_units))))
  (k_with "M subscriptTail" => (k_here; (with_reducible show wpAny _ _ (subscriptTail _ _ (Value.ref _) (Value.int 0 _)) _ _ _); (with_unfolding_all refine' mi_item ?q_N ?q_m ?q_i ?q_x ?q_z ?q_f ?_ ?q_k6; (case q_N => k_asm); (case q_m => k_mem); (case q_i => assumption); (case q_x => exact rfl); (case q_z => walk_at "mine om"); (case q_f => walk_at "mine om"); (case q_k6 => with_unfolding_all rfl)); intro _))
  (k_with "M call ref" => (k_here; (with_reducible show wpAny _ _ (call (Value.ref 468) _ _) _ _ _); k_dflt ((first | refine' sp_tabI (eldest_some _ _ _ _ ?q_hT _ _ ?q_z1) ?B ?F ?X ?N ?O ?T ?hk ?hd ?hu ?_ | refine' sp_tab (eldest_some _ _ _ _ ?q_hT _ _ ?q_z1) ?B ?F ?X ?N ?O ?T ?hk ?hd ?hu ?_); (case q_hT => k_asm); (case q_z1 => first | assumption | walk_at "mine om" | exact rfl); walk_at "mine call"); intro _ _ _ _ _ _ _ _ _ _ _ _ _ _ _ _ _ _ _; walk_at "mine df"))
  (k_with "M call ref" => (k_here; (with_reducible show wpAny _ _ (call (Value.ref 461) _ _) _ _ _); k_dflt ((first | refine' sp_tabI (room_free _ _ _ _ ?q_hT ?q_z5 _ ?q_z2 ?q_z3 ?q_z1 ?q_z4) ?B ?F ?X ?N ?O ?T ?hk ?hd ?hu ?_ | refine' sp_tab (room_free _ _ _ _ ?q_hT ?q_z5 _ ?q_z2 ?q_z3 ?q_z1 ?q_z4) ?B ?F ?X ?N ?O ?T ?hk ?hd ?hu ?_); (case q_hT => k_asm); (case q_z1 => first | assumption | walk_at "mine om" | exact rfl); (case q_z2 => first | assumption | walk_at "mine om" | exact rfl); (case q_z3 => first | assumption | walk_at "mine om" | exact rfl); (case q_z4 => first | assumption | walk_at "mine om" | exact rfl); (case q_z5 => first | assumption | walk_at "mine om" | exact rfl); walk_at "mine call"); intro _ _ _ _ _ _ _ _ _ _ _ _ _ _ _ _ _ _ _; walk_at "mine df"))
  (k_with "M call ref" => (k_here; (with_reducible show wpAny _ _ (call (Value.ref 461) _ _) _ _ _); k_dflt ((first | refine' sp_tabI (room_full _ _ _ _ ?q_hT ?q_z1 ?q_z2 _ _ ?q_z3 _ ?q_z4 ?q_z5 ?q_z6 ?q_z7 ?q_z8) ?B ?F ?X ?N ?O ?T ?hk ?hd ?hu ?_ | refine' sp_tab (room_full _ _ _ _ ?q_hT ?q_z1 ?q_z2 _ _ ?q_z3 _ ?q_z4 ?q_z5 ?q_z6 ?q_z7 ?q_z8) ?B ?F ?X ?N ?O ?T ?hk ?hd ?hu ?_); (case q_hT => k_asm); (case q_z1 => first | assumption | walk_at "mine om" | exact rfl); (case q_z2 => first | assumption | walk_at "mine om" | exact rfl); (case q_z3 => first | assumption | walk_at "mine om" | exact rfl); (case q_z4 => first | assumption | walk_at "mine om" | exact rfl); (case q_z5 => first | assumption | walk_at "mine om" | exact rfl); (case q_z6 => first | assumption | walk_at "mine om" | exact rfl); (case q_z7 => first | assumption | walk_at "mine om" | exact rfl); (case q_z8 => first | assumption | walk_at "mine om" | exact rfl); walk_at "mine call"); intro _ _ _ _ _ _ _ _ _ _ _ _ _ _ _ _ _ _ _; walk_at "mine df"))
  (k_with "M setItem ref int" => (k_here; k_dflt (refine' kda_set (knd := PySem.intKind _ _) ?q_F ?q_N ?q_U ?q_d (intKind_is _ _ _ _) ?q_z ?_; (case q_F => k_asm); (case q_N => k_asm); (case q_U => k_updF); (case q_d => assumption); (case q_z => assumption)); intro _ _ _ N9 _; (try dsimp only at N9)))
  (k_with "M call builtin:list.insert" => (k_here; k_dflt (refine' mi_insert ?q_F ?q_N ?q_i ?q_U ?q_z ?_; (case q_F => k_asm); (case q_N => k_asm); (case q_U => k_updF); (case q_i => k_asm); (case q_z => assumption)); intro _ _ _ _ _ _))
  (k_with "M call ref" => (k_here; (with_reducible show wpAny _ _ (call (Value.ref 376) _ _) _ _ _); k_dflt ((first | refine' sp_tabI (link_sp _ _ _ _ ?q_hT _ _ _ _ ?q_z1 ?q_z2 ?q_z3) ?B ?F ?X ?N ?O ?T ?hk ?hd ?hu ?_ | refine' sp_tab (link_sp _ _ _ _ ?q_hT _ _ _ _ ?q_z1 ?q_z2 ?q_z3) ?B ?F ?X ?N ?O ?T ?hk ?hd ?hu ?_); (case q_hT => k_asm); (case q_z1 => first | assumption | walk_at "mine om" | exact rfl); (case q_z2 => first | assumption | walk_at "mine om" | exact rfl); (case q_z3 => first | assumption | walk_at "mine om" | exact rfl); walk_at "mine call"); intro _ _ _ _ _ _ _ _ _ _ _ _ _ _ _ _ _ _ _; walk_at "mine df"))
  (k_with "M call type:bytes" => (k_here; (with_reducible show wpAny _ _ (call (Value.type _) [Value.ref _]) _ _ _); k_dflt (refine' mi_bytes_ba ?q_N ?q_m ?q_z ?_; (case q_N => k_asm); (case q_m => k_mem); (case q_z => assumption)); intro _))
  (k_with "M subscriptTail" => (k_here; (with_reducible show wpAny _ _ (subscriptTail _ _ (Value.ref _) (Value.int _ _)) _ _ _); (with_unfolding_all refine' mi_val ?q_N ?q_v ?q_i ?q_z ?q_x ?_ ?q_k6 ?q_k7; (case q_N => k_asm); (case q_v => assumption); (case q_i => walk_at "mine sub"); (case q_z => assumption); (case q_x => assumption); (case q_k6 => with_unfolding_all rfl); (case q_k7 => intro _; with_unfolding_all rfl)); intro _ _))
  (k_with "M call ref" => (k_here; (with_reducible show wpAny _ _ (call (Value.ref 203) _ _) _ _ _); k_dflt ((first | refine' sp_tabI (value_some _ _ _ _ ?q_hT _ _ ?q_z1 ?q_z2 ?q_z3 _ ?q_z4 ?q_z5 _ ?q_z6 ?q_z7) ?B ?F ?X ?N ?O ?T ?hk ?hd ?hu ?_ | refine' sp_tab (value_some _ _ _ _ ?q_hT _ _ ?q_z1 ?q_z2 ?q_z3 _ ?q_z4 ?q_z5 _ ?q_z6 ?q_z7) ?B ?F ?X ?N ?O ?T ?hk ?hd ?hu ?_); (case q_hT => k_asm); (case q_z1 => first | assumption | walk_at "mine om" | exact rfl); (case q_z2 => first | assumption | walk_at "mine om" | exact rfl); (case q_z3 => first | assumption | walk_at "mine om" | exact rfl); (case q_z4 => first | assumption | walk_at "mine om" | exact rfl); (case q_z5 => first | assumption | walk_at "mine om" | exact rfl); (case q_z6 => first | assumption | walk_at "mine om" | exact rfl); (case q_z7 => first | assumption | walk_at "mine om" | exact rfl); walk_at "mine call"); intro _ _ _ _ _ _ _ _ _ _ _ _ _ _ _ _ _ _ _; walk_at "mine df"))
  (k_with "M eval ListComp" => (k_here; k_dflt (refine LCg.ListComp_U (F₀ := by k_asm) (by first | rfl | with_unfolding_all rfl) (by decide) (by rfl) (by decide) (by rfl) ?_)))
  (k_with "M mine tosrc" => repeat' ((fail_if_success (with_reducible show LCg.CompSrc _ _ _ _ _ _ _ _ _ _ _ _ _ _)); walk_at "mine one"))
  (k_with "M subscriptTail" => (k_here; (with_reducible show wpAny _ _ (subscriptTail _ _ (Value.ref _) (Value.int _ _)) _ _ _); (with_unfolding_all refine' mi_key ?q_N ?q_v ?q_i ?q_x ?_ ?q_k6 ?q_k7; (case q_N => k_asm); (case q_v => assumption); (case q_i => walk_at "mine sub"); (case q_x => assumption); (case q_k6 => with_unfolding_all rfl); (case q_k7 => intro _; with_unfolding_all rfl)); intro _))
  (k_with "M call ref" => (k_here; (with_reducible show wpAny _ _ (call (Value.ref 480) _ _) _ _ _); k_dflt (refine' byage_use ?q_hT ?q_z1 ?q_z2 ?q_z3 ?B ?F ?X ?N ?O ?T ?hk ?hd ?hu ?_; (case q_hT => k_asm); (case q_z1 => assumption); (case q_z2 => assumption); (case q_z3 => assumption); walk_at "mine call"); intro _ _ _ _ _ _ _ _ _ _ _ _ _ _ _ _ _ _ _ _ _ _ _ _; walk_at "mine df"))
  (k_with "M call builtin:sorted" => (k_here; k_dflt (refine' mi_sorted ?q_F ?q_N ?q_m ?q_S ?q_z ?_; (case q_F => k_asm); (case q_N => k_asm); (case q_m => k_mem); (case q_S => assumption); (case q_z => assumption)); intro _ _ _ _ _ _ _ l1 _ _ _; (have l9 := ltAll_of l1); (try k_lt l1)))
  trivial
section
theorem mi_klen {w : World} {A : Around} {E : Value → Shared → Prop} {s : Shared} {h₀ : Heap} {L K : Addr} {news led : Led} {ks : List (Int × By)} {Q : Value → Shared → Prop} (N : News h₀ L s.heap news) (KA : KeysAt w led K ks) (hin : ∀ p ∈ led, p ∈ news) (hz : ks.length ≤ 1000)
    (h : ∀ t tk, Q (.int ks.length t) { s with toks := tk }) : wpAny (model PySem.Challenge.rw_qz0154_01.row.prog w) A (call (.builtin "len") [.ref K]) Q E s := by
  obtain ⟨oK, kkvs, m, hK, lo, r⟩ := KA
  have hl := krel_length r
  refine kda_len N (hin _ m) hK lo (by omega) ?_
  rw [hl]
  exact h _ _
theorem kw_35 : True := by
  (k_with "M call builtin:len" => (k_here; k_dflt (refine' mi_klen ?q_N ?q_v ?q_i ?q_z ?_; (case q_N => k_asm); (case q_v => assumption); (case q_i => walk_at "mine sub"); (case q_z => first | assumption | walk_at "mine om")); intro _ _))
  trivial
theorem count_sp (w : World) (M : Addr) (σ : Tb) (led : Led) (hT : TabIs w M σ led) (hz : σ.ks.length ≤ 1000) :
    Sp w 2 60 347 [.ref M] led (fun v led' => (∃ t, v = .int σ.ks.length t) ∧ TabIs w M σ led') := by
  obtain ⟨Md, V, Bk, K, O, hh, tt, n, hM, hMd, VA, KA, OA⟩ := TabIs.inst hT
  walk_at "mine sp"
  intro mean mg mb dp un gd outer A₀ base h₀ L hpS gS dS kS oS Q E rest B F X N OR T hd hu hnx hret hpo
  walk_at "mine steps"
  (refine' hret _ _ _ _ ⟨?e70, by assumption⟩ (by assumption) ?f70 ?n70; (case n70 => first | assumption | (refine' news_sub (by assumption) ?_; (try dsimp only [List.cons_append]); walk_at "mine sub")); (case f70 => assumption); (case e70 => first | exact rfl | exact ⟨_, rfl⟩))
end
theorem kw_36 : True := by
  (k_with "M call ref" => (k_here; (with_reducible show wpAny _ _ (call (Value.ref 347) _ _) _ _ _); k_dflt ((first | refine' sp_tabI (count_sp _ _ _ _ ?q_hT ?q_z1) ?B ?F ?X ?N ?O ?T ?hk ?hd ?hu ?_ | refine' sp_tab (count_sp _ _ _ _ ?q_hT ?q_z1) ?B ?F ?X ?N ?O ?T ?hk ?hd ?hu ?_); (case q_hT => k_asm); (case q_z1 => first | assumption | walk_at "mine om" | exact rfl); walk_at "mine call"); intro _ _ _ _ _ _ _ _ _ _ _ _ _ _ _ _ _ _ _; walk_at "mine df"))
  trivial
section
noncomputable abbrev tupO (xs : List Value) (n : Nat) : Obj := { cls := .type "tuple", data := .seq xs.toArray n }
noncomputable abbrev lstO (xs : List Value) (n : Nat) : Obj := { cls := .type "list", data := .seq xs.toArray n }
inductive DEq (news : Led) : Nat → Value → Value → Prop
  | refl (n : Nat) (v : Value) : DEq news n v v
  | int (n : Nat) (i : Int) (t u : Tok) : DEq news n (.int i t) (.int i u)
  | str (n : Nat) (x : Str) (t u : Tok) : DEq news n (.str x t) (.str x u)
  | bytes (n : Nat) (b : By) (t u : Tok) : DEq news n (.bytes b t) (.bytes b u)
  | tup {n na nb : Nat} {a b : Addr} {xs ys : List Value} (ha : (a, tupO xs na) ∈ news) (hb : (b, tupO ys nb) ∈ news) (hl : xs.length = ys.length) (h : ∀ (j : Nat) (x y : Value), xs[j]? = some x → ys[j]? = some y → DEq news n x y) : DEq news (n + 1) (.ref a) (.ref b)
  | lst {n na nb : Nat} {a b : Addr} {xs ys : List Value} (ha : (a, lstO xs na) ∈ news) (hb : (b, lstO ys nb) ∈ news) (hl : xs.length = ys.length) (h : ∀ (j : Nat) (x y : Value), xs[j]? = some x → ys[j]? = some y → DEq news n x y) : DEq news (n + 1) (.ref a) (.ref b)
theorem range_all_true (n : Nat) : (List.range n).all (fun _ => true) = true := by simp
theorem deq_at {news : Led} {n : Nat} {v u : Value} (h : DEq news n v u) : ∀ {A : Around} {s : Shared} {h₀ : Heap} {L : Addr}, News h₀ L s.heap news → A.units + n < cLine → SeqAt.EqAt A s v u true := by
  induction h with
  | refl n v => intro A s h₀ L N hu; exact SeqAt.EqAt.same v
  | int n i t u => intro A s h₀ L N hu prog w E Q hq; exact wpAny_eqBool_int (by simpa [range_all_true] using hq)
  | str n x t u => intro A s h₀ L N hu prog w E Q hq; exact wpAny_eqBool_str (by simpa [range_all_true] using hq)
  | bytes n b t u => intro A s h₀ L N hu prog w E Q hq; exact eqBool_bytes (by simpa [range_all_true] using hq)
  | @tup n na nb a b xs ys ha hb hl h ih =>
    intro A s h₀ L N hu
    by_cases e : a = b
    · subst e; exact SeqAt.EqAt.same _
    · refine SeqAt.EqAt.of_refs e ?_
      have := SeqAt.RcAt.tuples (A := A) (s := s) (l := a) (b := b) (items := xs.toArray) (items2 := ys.toArray) (e := fun _ => true) ⟨_, (N _ ha).1, rfl, na, rfl⟩ ⟨_, (N _ hb).1, rfl, nb, rfl⟩ (by omega)
        (fun j h1 h2 => ih j _ _ (by simp at h1; simp [h1]) (by simp at h2; simp [h2]) N (by show A.units + 1 + n < cLine; omega))
      simpa [hl, range_all_true] using this
  | @lst n na nb a b xs ys ha hb hl h ih =>
    intro A s h₀ L N hu
    by_cases e : a = b
    · subst e; exact SeqAt.EqAt.same _
    · refine SeqAt.EqAt.of_refs e ?_
      have := SeqAt.RcAt.lists (A := A) (s := s) (l := a) (b := b) (items := xs.toArray) (items2 := ys.toArray) (e := fun _ => true) ⟨_, (N _ ha).1, rfl, na, rfl⟩ ⟨_, (N _ hb).1, rfl, nb, rfl⟩ (by simpa using hl) (by omega)
        (fun j h1 h2 => ih j _ _ (by simp at h1; simp [h1]) (by simp at h2; simp [h2]) N (by show A.units + 1 + n < cLine; omega))
      simpa [range_all_true] using this
section
variable {prog : Program} {w : World} {A : Around} {E : Value → Shared → Prop} {s : Shared} {h₀ : Heap} {L : Addr} {news : Led} {n na nb : Nat} {a b : Addr} {xs ys : List Value} {Q : Value → Shared → Prop}
theorem eq_tups (N : News h₀ L s.heap news) (ha : (a, tupO xs na) ∈ news) (hb : (b, tupO ys nb) ∈ news) (hl : xs.length = ys.length) (h : ∀ (j : Nat) (x y : Value), xs[j]? = some x → ys[j]? = some y → DEq news n x y) (hu : A.units + n + 1 < cLine) (hq : Q (.bool true) s) :
    wpAny (model prog w) A (compareOp .Eq (.ref a) (.ref b)) Q E s :=
  SeqAt.eq_tupleAt (items := xs.toArray) (items2 := ys.toArray) (e := fun _ => true) ⟨_, (N _ ha).1, rfl, na, rfl⟩ ⟨_, (N _ hb).1, rfl, nb, rfl⟩ (by omega)
    (fun j h1 h2 => deq_at (h j _ _ (by simp at h1; simp [h1]) (by simp at h2; simp [h2])) N (by show A.units + 1 + n < cLine; omega)) (by simpa [hl, range_all_true] using hq)
theorem ne_tups (N : News h₀ L s.heap news) (ha : (a, tupO xs na) ∈ news) (hb : (b, tupO ys nb) ∈ news) (hl : xs.length = ys.length) (h : ∀ (j : Nat) (x y : Value), xs[j]? = some x → ys[j]? = some y → DEq news n x y) (hu : A.units + n + 1 < cLine) (hq : Q (.bool false) s) :
    wpAny (model prog w) A (compareOp .NotEq (.ref a) (.ref b)) Q E s :=
  SeqAt.RcNeAt.tuples (items := xs.toArray) (items2 := ys.toArray) (e := fun _ => true) ⟨_, (N _ ha).1, rfl, na, rfl⟩ ⟨_, (N _ hb).1, rfl, nb, rfl⟩ (by omega)
    (fun j h1 h2 => deq_at (h j _ _ (by simp at h1; simp [h1]) (by simp at h2; simp [h2])) N (by show A.units + 1 + n < cLine; omega)) prog w E Q (by simpa [hl, range_all_true] using hq)
theorem eq_lsts (N : News h₀ L s.heap news) (ha : (a, lstO xs na) ∈ news) (hb : (b, lstO ys nb) ∈ news) (hl : xs.length = ys.length) (h : ∀ (j : Nat) (x y : Value), xs[j]? = some x → ys[j]? = some y → DEq news n x y) (hu : A.units + n + 1 < cLine) (hq : Q (.bool true) s) :
    wpAny (model prog w) A (compareOp .Eq (.ref a) (.ref b)) Q E s :=
  SeqAt.eq_listAt (items := xs.toArray) (items2 := ys.toArray) (e := fun _ => true) ⟨_, (N _ ha).1, rfl, na, rfl⟩ ⟨_, (N _ hb).1, rfl, nb, rfl⟩ (by simpa using hl) (by omega)
    (fun j h1 h2 => deq_at (h j _ _ (by simp at h1; simp [h1]) (by simp at h2; simp [h2])) N (by show A.units + 1 + n < cLine; omega)) (by simpa [range_all_true] using hq)
theorem ne_lsts (N : News h₀ L s.heap news) (ha : (a, lstO xs na) ∈ news) (hb : (b, lstO ys nb) ∈ news) (hl : xs.length = ys.length) (h : ∀ (j : Nat) (x y : Value), xs[j]? = some x → ys[j]? = some y → DEq news n x y) (hu : A.units + n + 1 < cLine) (hq : Q (.bool false) s) :
    wpAny (model prog w) A (compareOp .NotEq (.ref a) (.ref b)) Q E s :=
  SeqAt.RcNeAt.lists (items := xs.toArray) (items2 := ys.toArray) (e := fun _ => true) ⟨_, (N _ ha).1, rfl, na, rfl⟩ ⟨_, (N _ hb).1, rfl, nb, rfl⟩ (by simpa using hl) (by omega)
    (fun j h1 h2 => deq_at (h j _ _ (by simp at h1; simp [h1]) (by simp at h2; simp [h2])) N (by show A.units + 1 + n < cLine; omega)) prog w E Q (by simpa [range_all_true] using hq)
end
end
section
def PA (ys : List Value) (prs : List (By × By)) (own : Led) : Prop := ys.length = prs.length ∧ ∀ (i : Nat) k v, prs[i]? = some (k, v) → ∃ T t u e, ys[i]? = some (Value.ref T) ∧ (T, tupO [Value.bytes k t, Value.bytes v u] e) ∈ own
theorem own_cell {g h' : Heap} {L' c : Addr} {o : Obj} {led rest : Led} (_ : News g L' h' ((c, o) :: (led ++ rest))) (l1 : ∀ p ∈ led ++ rest, p.1 < L') (hc : L' ≤ c) (OR : OwnOff rest (led.map (·.1))) : OwnOff ((c, o) :: rest) (led.map (·.1)) := by
  intro p hp b hb e
  rcases List.mem_cons.mp hp with e2 | hp
  · obtain ⟨q, hq, e3⟩ := List.mem_map.mp hb
    have := l1 q (List.mem_append_left _ hq)
    have e4 : c = b := by rw [← e, e2]
    have : q.1 < c := Nat.lt_of_lt_of_le this hc
    rw [e3, e4] at this
    exact absurd this (Nat.lt_irrefl _)
  · exact OR p hp b hb e
theorem off3_mem {I C D : Addr} {l : Led} (h : LCg.Off3 I C D l) : ∀ p ∈ l, p.1 ≠ I ∧ p.1 ≠ C ∧ p.1 ≠ D := LCg.Off3.mem h
theorem own3 {I C D : Addr} {oI oC oD : Obj} {l r : Led} (h : LCg.Off3 I C D (l ++ r)) (OR : OwnOff r (l.map (·.1))) : OwnOff ((I, oI) :: (C, oC) :: (D, oD) :: r) (l.map (·.1)) := by
  intro p hp b hb e
  obtain ⟨q, hq, e3⟩ := List.mem_map.mp hb
  have o := off3_mem h q (List.mem_append_left _ hq)
  rcases List.mem_cons.mp hp with e2 | hp
  · exact o.1 (by rw [e3, ← e, e2])
  rcases List.mem_cons.mp hp with e2 | hp
  · exact o.2.1 (by rw [e3, ← e, e2])
  rcases List.mem_cons.mp hp with e2 | hp
  · exact o.2.2 (by rw [e3, ← e, e2])
  · exact OR p hp b hb e
theorem pa_snoc {ys : List Value} {prs : List (By × By)} {own : Led} {T : Addr} {k v : By} {t u : Tok} {e : Nat} (h : PA ys prs own) : PA (ys ++ [.ref T]) (prs ++ [(k, v)]) ((T, tupO [.bytes k t, .bytes v u] e) :: own) := by
  exact ⟨by simp [h.1], fun i k' v' hi => snoc_get (R := fun i p => ∃ T' t u e', (ys ++ [Value.ref T])[i]? = some (Value.ref T') ∧ (T', tupO [Value.bytes p.1 t, Value.bytes p.2 u] e') ∈ (T, tupO [.bytes k _, .bytes v _] e) :: own) rfl (fun i p hp => by
    obtain ⟨T', t', u', e', a, b⟩ := h.2 i p.1 p.2 hp
    exact ⟨T', t', u', e', snoc_keep a, .tail _ b⟩) ⟨T, t, u, e, snoc_last h.1, .head _⟩ i (k', v') hi⟩
theorem bsAre_get {ys : List Value} {bs : List By} (h : BsAre ys bs) : ∀ (i : Nat) {y : Value}, ys[i]? = some y → ∃ b t, bs[i]? = some b ∧ y = Value.bytes b t := by
  induction h with
  | nil => intro i y h; cases h
  | cons b t r ih =>
    intro i y h
    cases i with
    | zero => exact ⟨b, t, rfl, (Option.some.inj h).symm⟩
    | succ i => exact ih i h
theorem swap_news {g h : Heap} {L D : Addr} {o : Obj} {l r : Led} (N : News g L h ((D, o) :: (l ++ r))) : News g L h (l ++ ((D, o) :: r)) := news_sub N (by walk_at "mine sub")
theorem own_more {g h' : Heap} {L D : Addr} {o : Obj} {l r : Led} (_ : News g L h' ((D, o) :: (l ++ r))) (h : ∀ p ∈ l, p.1 ≠ D) (k : OwnOff r (l.map (·.1))) : OwnOff ((D, o) :: r) (l.map (·.1)) := by
  intro p hp b hb e
  rcases List.mem_cons.mp hp with e2 | hp
  · obtain ⟨q, hq, e3⟩ := List.mem_map.mp hb
    exact h q hq (by rw [e3, ← e, e2])
  · exact k p hp b hb e
inductive PInv (w : World) (M : Addr) (σ : Tb) (prs : List (By × By)) (base : Led) (i : Nat) (ys : List Value) (led : Led) : Prop
  | mk (lt : _) (tup : _) (e1 : led = lt ++ (tup ++ base)) (e2 : TabIs w M σ lt) (e3 : OwnOff (tup ++ base) (lt.map (·.1))) (e4 : PA ys (prs.take i) tup) (e5 : OwnOff base (tup.map (·.1)))
theorem pinv0 {w : World} {M : Addr} {σ : Tb} {prs : List (By × By)} {base l : Led} (T : TabIs w M σ l) (O : OwnOff base (l.map (·.1))) : PInv w M σ prs base 0 [] (l ++ base) :=
  ⟨l, [], rfl, T, O, ⟨rfl, fun i k v e => by simp at e⟩, fun p _ b hb => nomatch hb⟩
theorem mi_tuple {prog : Program} {w : World} {A : Around} {E : Value → Shared → Prop} {s : Shared} {h₀ : Heap} {L l : Addr} {m : Str → Option Value} {news : Led} {vs : List Value} {n : Nat} {Q : Value → Shared → Prop} (F : Fr h₀ L s.heap m) (N : News h₀ L s.heap news) (hm : (l, lstO vs n) ∈ news) (hz : vs.length ≤ 1000)
    (h : ∀ D h', Fr h₀ L h' m → News h₀ L h' ((D, tupO vs 0) :: news) → (∀ p ∈ news, p.1 < D) → Q (.ref D) { s with heap := h' }) : wpAny (model prog w) A (call (.type "tuple") [.ref l]) Q E s :=
  kde_tupleOf (items := vs.toArray) F N (PySem.IsL.isList (n := n) (N _ hm).1) (by simp; omega) (by simp) h
theorem kw_37 : True := by
  (k_with "M call type:tuple" => (k_here; (with_reducible show wpAny _ _ (call (Value.type _) [Value.ref _]) _ _ _); k_dflt (refine' mi_tuple ?q_F ?q_N ?q_m ?q_z ?_; (case q_F => k_asm); (case q_N => k_asm); (case q_m => k_mem); (case q_z => first | assumption | walk_at "mine om")); intro _ _ _ _ l1; (have l9 := ltAll_of l1); (try k_lt l1)))
  trivial
theorem parts_end {w : World} {M : Addr} {σ : Tb} {prs : List (By × By)} {base : Led} {h₀ h' : Heap} {L I C D T : Addr} {m : Str → Option Value} {oI oC oD o : Obj} {lt0 lt tup : Led} {S : Led → Prop} {s₁ : Shared} {tk' i e : Nat} {ys : List Value} {k v : By} {t u : Tok} (F : Fr h₀ L h' m)
    (N : News h₀ L h' ((T, o) :: (lt ++ ((I, oI) :: (C, oC) :: (D, oD) :: (tup ++ base))))) (l1 : ∀ p ∈ lt ++ ((I, oI) :: (C, oC) :: (D, oD) :: (tup ++ base)), p.1 < T) (ho : o = tupO [.bytes k t, .bytes v u] e) (T7 : TabIs w M σ lt)
    (O : OwnOff ((I, oI) :: (C, oC) :: (D, oD) :: (tup ++ base)) (lt.map (·.1))) (off : LCg.Off3 I C D (lt0 ++ (tup ++ base))) (P : PA ys (prs.take i) tup) (OB : OwnOff base (tup.map (·.1))) (hpr : prs[i]? = some (k, v)) (hS : ∀ l, (∀ p ∈ base, p ∈ l) → S l) :
    LCg.CompEnd h₀ L m s₁ I oI C oC D oD S (fun y led' => PInv w M σ prs base (i + 1) (ys ++ [y]) led') (.ref T) { s₁ with heap := h', toks := tk' } := by
  subst ho
  have hT : ∀ p ∈ lt ++ (tup ++ base), p.1 < T := fun p hp => by
    rcases List.mem_append.mp hp with hp | hp
    · exact l1 p (List.mem_append_left _ hp)
    · exact l1 p (List.mem_append_right _ (.tail _ (.tail _ (.tail _ hp))))
  refine LCg.CompEnd.intro F N (lt ++ ((T, tupO [.bytes k t, .bytes v u] e) :: (tup ++ base))) ?_ ?_ (hS _ ?_) ⟨lt, _ :: tup, rfl, T7, ?_, ?_, ?_⟩
  · intro p hp
    rcases List.mem_cons.mp hp with rfl | hp
    · exact .tail _ (List.mem_append_right _ (.head _))
    rcases List.mem_cons.mp hp with rfl | hp
    · exact .tail _ (List.mem_append_right _ (.tail _ (.head _)))
    rcases List.mem_cons.mp hp with rfl | hp
    · exact .tail _ (List.mem_append_right _ (.tail _ (.tail _ (.head _))))
    rcases List.mem_append.mp hp with hp | hp
    · exact .tail _ (List.mem_append_left _ hp)
    rcases List.mem_cons.mp hp with rfl | hp
    · exact .head _
    · exact .tail _ (List.mem_append_right _ (.tail _ (.tail _ (.tail _ hp))))
  · refine LCg.Off3.of fun p hp => ?_
    rcases List.mem_append.mp hp with hp | hp
    · have hb : p.1 ∈ lt.map (·.1) := List.mem_map.mpr ⟨p, hp, rfl⟩
      exact ⟨fun e => O (I, oI) (.head _) _ hb e.symm, fun e => O (C, oC) (.tail _ (.head _)) _ hb e.symm, fun e => O (D, oD) (.tail _ (.tail _ (.head _))) _ hb e.symm⟩
    rcases List.mem_cons.mp hp with rfl | hp
    · exact ⟨fun e => absurd (l1 (I, oI) (List.mem_append_right _ (.head _))) (by show ¬ I < T; rw [show T = I from e]; exact Nat.lt_irrefl _), fun e => absurd (l1 (C, oC) (List.mem_append_right _ (.tail _ (.head _)))) (by show ¬ C < T; rw [show T = C from e]; exact Nat.lt_irrefl _), fun e => absurd (l1 (D, oD) (List.mem_append_right _ (.tail _ (.tail _ (.head _))))) (by show ¬ D < T; rw [show T = D from e]; exact Nat.lt_irrefl _)⟩
    · exact off3_mem off p (List.mem_append_right _ hp)
  · intro p hp
    exact List.mem_append_right _ (.tail _ (List.mem_append_right _ hp))
  · intro p hp b hb e2
    rcases List.mem_cons.mp hp with rfl | hp
    · obtain ⟨q, hq, e3⟩ := List.mem_map.mp hb
      have h1 := hT q (List.mem_append_left _ hq)
      rw [e3, ← e2] at h1
      exact absurd h1 (Nat.lt_irrefl _)
    · exact O p (.tail _ (.tail _ (.tail _ hp))) b hb e2
  · rw [List.take_add_one, hpr]
    exact pa_snoc P
  · exact own_cons (fun p hp => Nat.ne_of_lt (hT p (List.mem_append_right _ (List.mem_append_right _ hp)))) OB
theorem own_two {r : Led} {a b : List Addr} (h : OwnOff r a) (k : OwnOff r b) : OwnOff r (a ++ b) := fun p hp c hc => (List.mem_append.mp hc).elim (h p hp c) (k p hp c)
theorem parts_sp (w : World) (M : Addr) (σ : Tb) (led : Led) (hT : TabIs w M σ led) (rows : List (By × Int)) (oct : Int → By) (ho : σ.ord = rows.map (·.2)) (hr : ∀ r ∈ rows, (r.2, r.1) ∈ σ.ks) (hz : rows.length ≤ 1000) (hn : (σ.ks.map (·.2)).Nodup)
    (hk9 : ∀ r ∈ rows, (r.1.size : Int) = σ.kw ∧ r.1.size ≤ 100 ∧ slotOf σ.ks r.1 = some r.2 ∧ 0 ≤ r.2 ∧ σ.vals[r.2.toNat]? = some (oct r.2) ∧ (oct r.2).size ≤ 1000) :
    Sp w 7 200 485 [.ref M] led (fun v led' => ∃ T ys n own l, v = .ref T ∧ led' = (T, tupO ys n) :: (own ++ l) ∧ TabIs w M σ l ∧ PA ys (rows.map fun r => (r.1, oct r.2)) own) := by
  obtain ⟨Md, V, Bk, K, O, hh, tt, n, hM, hMd, VA, KA, OA⟩ := TabIs.inst hT
  walk_at "mine spc"
  intro mean mg mb dp un gd outer A₀ base h₀ L hpS gS dS kS oS Q E rest cells B F X N Y OR T hd hu l1 hnx hret hpo
  (try dsimp only [List.cons_append] at N l1)
  (try k_lt l1)
  k_cells Y
  (try dsimp only [List.cons_append, List.nil_append] at N)
  have OR1 := own_cell (by assumption) (by assumption) (Nat.le_add_right _ 1) OR
  walk_at "mine tosrc"
  rename BsAre _ _ => S9
  rename TabIs _ _ _ _ => T8
  rename OwnOff _ (List.map _ _) => O7
  have hlb := S9.length
  rw [List.length_map] at hlb
  rename News _ _ _ (_ :: (_ ++ _)) => N9
  rename NeAll _ _ => X9
  have N8 := swap_news N9
  have O6 := own_more N9 X9 O7
  refine' LCg.CompSrc.ledger (by rfl) (by k_asm) N8 ?m ?z ?_
  case m => k_mem
  case z => rw [sizeLine_eq]; simp only [List.size_toArray]; rw [hlb]; omega
  intro g1
  refine' comp_inv (PInv w M σ (rows.map fun r => (r.1, oct r.2)) _) ?h0 ?turn ?fin
  case h0 => exact pinv0 T8 O6
  case turn =>
    rintro i v ys led I oI C oC D m₂ h9 tk E' hi9 hv ⟨lt, tup, rfl, T7, O5, P5, OB⟩ hC hx F1 N1 off ne K9 hK9
    have hi0 : i < rows.length := by simpa [hlb] using hi9
    obtain ⟨b, t, hb, rfl⟩ := bsAre_get S9 i (by simpa using hv)
    obtain ⟨k1, k2, k3, k4, k5, k6⟩ := hk9 rows[i] (List.getElem_mem hi0)
    have hb' : rows[i].1 = b := by simpa [hi0] using hb
    rw [hb'] at k1 k2 k3
    have O4 := own3 (oI := oI) (oC := oC) (oD := LCg.lst ys) off O5
    have i9 := TabIs.inst T7
    obtain ⟨Md9, V9, B9, K9, Or9, hh9, tt9, n9, hM9, hMd9, VA9, KA9, OA9⟩ := i9
    walk_at "mine steps"
    refine hK9 _ _ (parts_end (e := 0) (by assumption) (by assumption) (by assumption) rfl (by assumption) (by assumption) off P5 OB (by simp [hi0, hb']) (fun l hl => .inr ⟨_, hl _ (.head _), rfl, _, rfl⟩))
  case fin =>
    rintro ys led ⟨lt, tup, rfl, T7, O5, P5, OB⟩
    have hys : ys.length ≤ 1000 := by rw [P5.1]; simp; omega
    walk_at "mine steps"
    refine' hret _ ((_, tupO ys 0) :: (tup ++ lt)) _ _ ⟨_, ys, 0, tup, lt, rfl, rfl, T7, ?pp1⟩ ?oo1 ?ff1 ?nn1
    case pp1 => rw [List.take_of_length_le (by simp [hlb])] at P5; exact P5
    case nn1 => (refine' news_sub (by assumption) ?_; (simp only [List.cons_append, List.append_assoc]); walk_at "mine sub")
    case ff1 => assumption
    case oo1 =>
      rename LtAll _ _ => lD
      refine own_cons (fun p hp => Nat.ne_of_lt (lD p (by simp [hp]))) ?_
      rw [List.map_append]
      refine own_two ?_ ?_
      · exact fun p hp => OB p (by simp [hp])
      · exact fun p hp => O5 p (by simp [hp])
theorem own_tl2 {rest a l : Led} (h : OwnOff rest ((a ++ l).map (·.1))) : OwnOff rest (l.map (·.1)) := own_sub h fun x hx => by rw [List.map_append]; exact List.mem_append_right _ hx
theorem own_all {rest l own : Led} {T : Addr} {o : Obj} (h : OwnOff rest ((own ++ l).map (·.1))) (k : ∀ p ∈ rest, p.1 ≠ T) : OwnOff rest (((T, o) :: (own ++ l)).map (·.1)) := own_cons k h
section
variable {w : World} {mean : ExcName → Option Value} {mg mb : Str → Option Value} {dp un : Nat} {gd : Option (List Code)} {cn : Str} {cs : Scope} {a : Addr} {ccd : Value} {cl : List (Str × Addr)} {outer : List Env} {A₀ : Around} {base h₀ : Heap} {L M : Addr} {m : Str → Option Value} {s : Shared} {Q E : Value → Shared → Prop} {led rest : Led} {σ : Tb} {rows : List (By × Int)} {oct : Int → By}
theorem parts_use (hT : TabIs w M σ led) (ho : σ.ord = rows.map (·.2)) (hr : ∀ r ∈ rows, (r.2, r.1) ∈ σ.ks) (hz : rows.length ≤ 1000) (hn : (σ.ks.map (·.2)).Nodup) (hk9 : ∀ r ∈ rows, (r.1.size : Int) = σ.kw ∧ r.1.size ≤ 100 ∧ slotOf σ.ks r.1 = some r.2 ∧ 0 ≤ r.2 ∧ σ.vals[r.2.toNat]? = some (oct r.2) ∧ (oct r.2).size ≤ 1000) (B : Below A₀ base outer h₀) (F : Fr h₀ L s.heap m) (X : (Mine.hd.heap_1 w.params).In h₀) (N : News h₀ L s.heap (led ++ rest)) (OR : OwnOff rest (led.map (·.1)))
    (T : Top Mine.hd.view_39 (looseW Mine.hd.view_39 [Str.ofString "GateError", Str.ofString "HashMap"]) mean mg mb h₀) (hk : cs.kind = .function) (hd : dp + 7 < recursionLimit) (hu : un + 200 < cLine)
    (hret : ∀ (D : Addr) (ys : List Value) (e : Nat) (own : Led) (l : Led) (h' : Heap) (tk' : Nat) (Md V B K O : Addr) (hh : Nat → Int) (tt : Nat → Tok) (n : Nat), (M, instObj 502 Md) ∈ l → (Md, dictOf (mdOf hh tt σ V B K O) n) ∈ l → ValsAt w l V σ.vals → KeysAt w l K σ.ks → OrdAt l O σ.ord → TabIs w M σ l → PA ys (rows.map fun r => (r.1, oct r.2)) own → OwnOff rest (l.map (·.1)) → OwnOff rest (((D, tupO ys e) :: (own ++ l)).map (·.1)) → Fr h₀ L h' m → News h₀ L h' ((D, tupO ys e) :: (own ++ (l ++ rest))) → Q (.ref D) { s with heap := h', toks := tk' }) :
    wpAny (model PySem.Challenge.rw_qz0154_01.row.prog w) (ktrTop dp un gd cn cs L a ccd cl outer) (call (.ref 485) [.ref M]) Q E s := sp_use (parts_sp w M σ led hT rows oct ho hr hz hn hk9) B F X N OR T hk hd hu fun v led' h' tk' p O' F' N' => by
  obtain ⟨D, ys, e, own, l, e1, e2, T9, S⟩ := p
  subst e1 e2
  obtain ⟨Md, V, B, K, O, hh, tt, n, h1, h2, h3, h4, h5⟩ := TabIs.inst T9
  exact hret D ys e own l h' tk' Md V B K O hh tt n h1 h2 h3 h4 h5 T9 S (own_tl2 (own_tl O')) O' F' (by simpa using N')
end
end
theorem kw_38 : True := by
  (k_with "M call ref" => (k_here; (with_reducible show wpAny _ _ (call (Value.ref 485) _ _) _ _ _); k_dflt (refine' parts_use ?q_hT ?q_z1 ?q_z2 ?q_z3 ?q_z4 ?q_z5 ?B ?F ?X ?N ?O ?T ?hk ?hd ?hu ?_; (case q_hT => k_asm); (case q_z1 => assumption); (case q_z2 => assumption); (case q_z3 => assumption); (case q_z4 => assumption); (case q_z5 => assumption); walk_at "mine call"); intro _ _ _ _ _ _ _ _ _ _ _ _ _ _ _ _ _ _ _ _ _ _ _ _ _ _; walk_at "mine df"))
  trivial
section
theorem pa_mono {ys : List Value} {prs : List (By × By)} {own own' : Led} (h : PA ys prs own) (k : ∀ p ∈ own, p ∈ own') : PA ys prs own' :=
  ⟨h.1, fun i a b e => by obtain ⟨T, t, u, e', h1, h2⟩ := h.2 i a b e; exact ⟨T, t, u, e', h1, k _ h2⟩⟩
theorem allLt_mem {D : Addr} : ∀ {l : Led}, AllLt D l → ∀ p ∈ l, p.1 < D := by
  intro l
  induction l with
  | nil => intro h p hp; cases hp
  | cons q l ih =>
    intro h p hp
    rcases List.mem_cons.mp hp with rfl | hp
    · exact h.1
    · exact ih h.2 p hp
theorem told_end {w : World} {M : Addr} {σ : Tb} {prs : List (By × By)} {g h : Heap} {L T2 T : Addr} {o : Obj} {ys : List Value} {m : Nat} {own l rest : Led} {t0 t1 t2 t3 t4 : Tok} (T9 : TabIs w M σ l) (S9 : PA ys prs own) (N : News g L h ((T2, o) :: (T, tupO ys m) :: (own ++ (l ++ rest))))
    (ho : o = tupO [.str (Str.ofString "lru") t0, .int σ.number t1, .int σ.kw t2, .int σ.vw t3, .int σ.most t4, .ref T] 0) (O9 : OwnOff rest (((T, tupO ys m) :: (own ++ l)).map (·.1))) (lD : AllLt T2 (own ++ (l ++ rest))) :
    ∃ led', (∃ T2' T ys n own l t0 t1 t2 t3 t4, Value.ref T2 = .ref T2' ∧ led' = own ++ l ∧ TabIs w M σ l ∧ PA ys prs own ∧ (T, tupO ys n) ∈ own ∧
      (T2', tupO [.str (Str.ofString "lru") t0, .int σ.number t1, .int σ.kw t2, .int σ.vw t3, .int σ.most t4, .ref T] 0) ∈ own) ∧ OwnOff rest (led'.map (·.1)) ∧ News g L h (led' ++ rest) := by
  subst ho
  refine ⟨(T2, tupO [.str (Str.ofString "lru") t0, .int σ.number t1, .int σ.kw t2, .int σ.vw t3, .int σ.most t4, .ref T] 0) :: (T, tupO ys m) :: (own ++ l), ⟨T2, T, ys, m, (T2, _) :: (T, tupO ys m) :: own, l, t0, t1, t2, t3, t4, rfl, rfl, T9, pa_mono S9 fun p hp => .tail _ (.tail _ hp), .tail _ (.head _), .head _⟩, ?_, ?_⟩
  · exact own_cons (fun p hp => Nat.ne_of_lt (allLt_mem lD p (by simp [hp]))) O9
  · exact news_sub N (by (try simp only [List.cons_append, List.append_assoc]); walk_at "mine sub")
theorem told_sp (w : World) (M : Addr) (σ : Tb) (led : Led) (hT : TabIs w M σ led) (rows : List (By × Int)) (oct : Int → By) (ho : σ.ord = rows.map (·.2)) (hr : ∀ r ∈ rows, (r.2, r.1) ∈ σ.ks) (hz : rows.length ≤ 1000) (hn : (σ.ks.map (·.2)).Nodup)
    (hk9 : ∀ r ∈ rows, (r.1.size : Int) = σ.kw ∧ r.1.size ≤ 100 ∧ slotOf σ.ks r.1 = some r.2 ∧ 0 ≤ r.2 ∧ σ.vals[r.2.toNat]? = some (oct r.2) ∧ (oct r.2).size ≤ 1000) :
    Sp w 8 250 271 [.ref M] led (fun v led' => ∃ T2 T ys n own l t0 t1 t2 t3 t4, v = .ref T2 ∧ led' = own ++ l ∧ TabIs w M σ l ∧ PA ys (rows.map fun r => (r.1, oct r.2)) own ∧ (T, tupO ys n) ∈ own ∧
      (T2, tupO [.str (Str.ofString "lru") t0, .int σ.number t1, .int σ.kw t2, .int σ.vw t3, .int σ.most t4, .ref T] 0) ∈ own) := by
  obtain ⟨Md, V, Bk, K, O, hh, tt, n, hM, hMd, VA, KA, OA⟩ := TabIs.inst hT
  walk_at "mine sp"
  intro mean mg mb dp un gd outer A₀ base h₀ L hpS gS dS kS oS Q E rest B F X N OR T hd hu hnx hret hpo
  walk_at "mine steps"
  rename PA _ _ _ => S9
  rename TabIs _ _ _ _ => T9
  rename OwnOff rest (List.map _ (_ :: (_ ++ _))) => O9
  rename _ < _ ∧ AllLt _ _ => lD
  rename News _ _ _ (_ :: _ :: (_ ++ (_ ++ rest))) => NN
  obtain ⟨led', a, b, c⟩ := told_end T9 S9 NN rfl O9 lD.2
  exact hret _ led' _ _ a b (by assumption) c
section
variable {w : World} {mean : ExcName → Option Value} {mg mb : Str → Option Value} {dp un : Nat} {gd : Option (List Code)} {cn : Str} {cs : Scope} {a : Addr} {ccd : Value} {cl : List (Str × Addr)} {outer : List Env} {A₀ : Around} {base h₀ : Heap} {L M : Addr} {m : Str → Option Value} {s : Shared} {Q E : Value → Shared → Prop} {led rest : Led} {σ : Tb} {rows : List (By × Int)} {oct : Int → By}
theorem told_use (hT : TabIs w M σ led) (ho : σ.ord = rows.map (·.2)) (hr : ∀ r ∈ rows, (r.2, r.1) ∈ σ.ks) (hz : rows.length ≤ 1000) (hn : (σ.ks.map (·.2)).Nodup) (hk9 : ∀ r ∈ rows, (r.1.size : Int) = σ.kw ∧ r.1.size ≤ 100 ∧ slotOf σ.ks r.1 = some r.2 ∧ 0 ≤ r.2 ∧ σ.vals[r.2.toNat]? = some (oct r.2) ∧ (oct r.2).size ≤ 1000) (B : Below A₀ base outer h₀) (F : Fr h₀ L s.heap m) (X : (Mine.hd.heap_1 w.params).In h₀) (N : News h₀ L s.heap (led ++ rest)) (OR : OwnOff rest (led.map (·.1)))
    (T : Top Mine.hd.view_39 (looseW Mine.hd.view_39 [Str.ofString "GateError", Str.ofString "HashMap"]) mean mg mb h₀) (hk : cs.kind = .function) (hd : dp + 8 < recursionLimit) (hu : un + 250 < cLine)
    (hret : ∀ (D D2 : Addr) (ys : List Value) (e : Nat) (own : Led) (t0 t1 t2 t3 t4 : Tok) (l : Led) (h' : Heap) (tk' : Nat) (Md V B K O : Addr) (hh : Nat → Int) (tt : Nat → Tok) (n : Nat), (M, instObj 502 Md) ∈ l → (Md, dictOf (mdOf hh tt σ V B K O) n) ∈ l → ValsAt w l V σ.vals → KeysAt w l K σ.ks → OrdAt l O σ.ord → TabIs w M σ l → PA ys (rows.map fun r => (r.1, oct r.2)) own → (D2, tupO ys e) ∈ own → (D, tupO [.str (Str.ofString "lru") t0, .int σ.number t1, .int σ.kw t2, .int σ.vw t3, .int σ.most t4, .ref D2] 0) ∈ own → OwnOff rest (l.map (·.1)) → Fr h₀ L h' m → News h₀ L h' (own ++ (l ++ rest)) → Q (.ref D) { s with heap := h', toks := tk' }) :
    wpAny (model PySem.Challenge.rw_qz0154_01.row.prog w) (ktrTop dp un gd cn cs L a ccd cl outer) (call (.ref 271) [.ref M]) Q E s := sp_use (told_sp w M σ led hT rows oct ho hr hz hn hk9) B F X N OR T hk hd hu fun v led' h' tk' p O' F' N' => by
  obtain ⟨D, D2, ys, e, own, l, t0, t1, t2, t3, t4, e1, e2, T9, S, m1, m2⟩ := p
  subst e1 e2
  obtain ⟨Md, V, B, K, O, hh, tt, n, h1, h2, h3, h4, h5⟩ := TabIs.inst T9
  exact hret D D2 ys e own t0 t1 t2 t3 t4 l h' tk' Md V B K O hh tt n h1 h2 h3 h4 h5 T9 S m1 m2 (own_tl2 O') F' (by simpa using N')
end
end
section
theorem vrel_split (vkvs : List (Int × Value)) : ∀ (k : Int) (vals : List By) (l : Led), VRel vkvs k vals l → ∀ (i : Nat) (v : By), vals[i]? = some v → ∃ l1 a l2, l = l1 ++ (a, baObj v) :: l2 ∧ valueAt vkvs (k + i) = some (.ref a) ∧ ∀ v', VRel vkvs k (vals.set i v') (l1 ++ (a, baObj v') :: l2) := by
  induction vkvs with
  | nil =>
    intro k vals l h i v e
    cases vals with
    | nil => simp at e
    | cons q r => cases l <;> exact h.elim
  | cons p r ih =>
    obtain ⟨j, u⟩ := p
    intro k vals l h i v e
    cases vals with
    | nil => cases l <;> exact h.elim
    | cons q r2 =>
      cases l with
      | nil => exact h.elim
      | cons x l =>
        obtain ⟨a, o⟩ := x
        obtain ⟨h1, h2, h3, h4⟩ := h
        subst h1 h2 h3
        cases i with
        | zero =>
          simp only [List.getElem?_cons_zero, Option.some.injEq] at e
          subst e
          exact ⟨[], a, l, rfl, by simp [valueAt], fun v' => ⟨rfl, rfl, rfl, h4⟩⟩
        | succ i =>
          obtain ⟨l1, a', l2, b1, b2, b3⟩ := ih (j + 1) r2 l h4 i v (by simpa using e)
          refine ⟨(a, baObj q) :: l1, a', l2, by rw [b1]; rfl, ?_, fun v' => ⟨rfl, rfl, rfl, b3 v'⟩⟩
          have hne : ¬ j = j + (i + 1 : Nat) := by omega
          unfold valueAt at b2 ⊢
          simp only [List.find?_cons, hne, decide_false]
          rw [show j + ((i + 1 : Nat) : Int) = j + 1 + (i : Int) by omega]
          exact b2
theorem vrel_length (vkvs : List (Int × Value)) : ∀ (k : Int) (vals : List By) (l : Led), VRel vkvs k vals l → vkvs.length = vals.length := by
  induction vkvs with
  | nil => intro k vals l h; cases vals with
    | nil => rfl
    | cons q r => cases l <;> exact h.elim
  | cons p r ih =>
    obtain ⟨j, u⟩ := p
    intro k vals l h
    cases vals with
    | nil => cases l <;> exact h.elim
    | cons q r2 =>
      cases l with
      | nil => exact h.elim
      | cons x l =>
        obtain ⟨a, o⟩ := x
        simp only [List.length_cons, ih (k + 1) r2 l h.2.2.2]
theorem vrel_none (vkvs : List (Int × Value)) : ∀ (k : Int) (vals : List By) (l : Led), VRel vkvs k vals l → ∀ n : Int, k + vals.length ≤ n → valueAt vkvs n = none ∧ (vkvs.any (fun kv => kv.1 = n)) = false := by
  induction vkvs with
  | nil => intro k vals l h n hn; exact ⟨rfl, rfl⟩
  | cons p r ih =>
    obtain ⟨j, u⟩ := p
    intro k vals l h n hn
    cases vals with
    | nil => cases l <;> exact h.elim
    | cons q r2 =>
      cases l with
      | nil => exact h.elim
      | cons x l =>
        obtain ⟨a, o⟩ := x
        obtain ⟨h1, h2, h3, h4⟩ := h
        simp only [List.length_cons] at hn
        have := ih (k + 1) r2 l h4 n (by push_cast at hn; omega)
        have hne : ¬ j = n := by push_cast at hn; omega
        refine ⟨?_, by simp only [List.any_cons, hne, decide_false, Bool.false_or]; exact this.2⟩
        have t := this.1
        unfold valueAt at t ⊢
        simp only [List.find?_cons, hne, decide_false]
        exact t
theorem vrel_snoc (vkvs : List (Int × Value)) : ∀ (k : Int) (vals : List By) (l : Led), VRel vkvs k vals l → ∀ (a : Addr) (b : By), VRel (vkvs ++ [(k + vals.length, .ref a)]) k (vals ++ [b]) (l ++ [(a, baObj b)]) := by
  induction vkvs with
  | nil =>
    intro k vals l h a b
    cases vals with
    | nil =>
      cases l with
      | nil => exact ⟨by simp, rfl, rfl, trivial⟩
      | cons x l => exact h.elim
    | cons q r => cases l <;> exact h.elim
  | cons p r ih =>
    obtain ⟨j, u⟩ := p
    intro k vals l h a b
    cases vals with
    | nil => cases l <;> exact h.elim
    | cons q r2 =>
      cases l with
      | nil => exact h.elim
      | cons x l =>
        obtain ⟨a', o⟩ := x
        obtain ⟨h1, h2, h3, h4⟩ := h
        refine ⟨h1, h2, h3, ?_⟩
        have := ih (k + 1) r2 l h4 a b
        rw [show k + ((q :: r2).length : Int) = k + 1 + (r2.length : Int) by simp only [List.length_cons]; push_cast; omega]
        exact this
theorem mi_setslice {prog : Program} {w : World} {A : Around} {E : Value → Shared → Prop} {s : Shared} {h₀ : Heap} {L a sl : Addr} {m : Str → Option Value} {news : Led} {g : Obj → Led} {old b : By} {t : Tok} {Q : Unit → Shared → Prop} (F : Fr h₀ L s.heap m) (N : News h₀ L s.heap news) (U : UpdF a (baObj old) news g) (hs : (sl, nSlice) ∈ news) (hsz : old.size = b.size) (hz : b.size ≤ 1000)
    (h : ∀ h' tk, Fr h₀ L h' m → News h₀ L h' (g (baObj b)) → Q () { s with heap := h', toks := tk }) : wpS (model prog w) A (setItem (.ref a) (.ref sl) (.bytes b t)) Q E s := by
  obtain ⟨pre, post, rfl, hg, x1, x2⟩ := U.split
  have hm := N (a, baObj old) (List.mem_append_right _ (.head _))
  refine ba_setslice hm.1 (N _ hs).1 hsz hz fun h' tk hk ho => h h' tk (LCg.fr_but F (I := a) (fun b o hb e => hk b o (by simpa using hb) e) (Ne.symm hm.2.1) hm.2.2) ?_
  rw [hg]
  intro p hp
  rcases List.mem_append.mp hp with hp | hp
  · have z := N p (List.mem_append_left _ hp)
    exact ⟨hk _ _ (x1 p hp) z.1, z.2⟩
  · rcases List.mem_cons.mp hp with rfl | hp
    · exact ⟨ho, hm.2⟩
    · have z := N p (List.mem_append_right _ (.tail _ hp))
      exact ⟨hk _ _ (x2 p hp) z.1, z.2⟩
theorem mi_setslice2 {prog : Program} {w : World} {A : Around} {E : Value → Shared → Prop} {s : Shared} {H h₀ : Heap} {L a : Addr} {m : Str → Option Value} {news : Led} {g : Obj → Led} {old b : By} {t : Tok} {Q : Unit → Shared → Prop} (F : Fr h₀ L H m) (N : News h₀ L H news) (U : UpdF a (baObj old) news g) (hsz : old.size = b.size) (hz : b.size ≤ 1000)
    (h : ∀ h' tk, Fr h₀ L h' m → News h₀ L h' (g (baObj b)) → Q () { s with heap := h', toks := tk }) : wpS (model prog w) A (setItem (.ref a) (.ref H.objs.size) (.bytes b t)) Q E { s with heap := H.push nSlice } := by
  obtain ⟨pre, post, rfl, hg, x1, x2⟩ := U.split
  have N2 : News h₀ L (H.push nSlice) ((H.objs.size, nSlice) :: (pre ++ (a, baObj old) :: post)) := N.push F nSlice
  have hne : H.objs.size ≠ a := fun e => absurd (Heap.lt_size (N (a, baObj old) (List.mem_append_right _ (.head _))).1) (by rw [← e]; exact Nat.lt_irrefl _)
  refine mi_setslice (s := { s with heap := H.push nSlice }) (F.push nSlice) N2 (UpdF.tail hne U) (.head _) hsz hz fun h' tk F' N' => h h' tk F' (news_sub N' fun p hp => .tail _ hp)
theorem kw_39 : True := by
  (k_with "M compareOp In int ref" => (k_here; k_dflt (refine' kda_in (knd := PySem.intKind _ _) ?q_N ?q_m ?q_d ?q_l (intKind_is _ _ _ _) _ ?q_e ?_; (case q_N => k_asm); (case q_m => k_mem); (case q_d => assumption); (case q_l => assumption); (case q_e => assumption))))
  trivial
theorem lay_old (w : World) (M : Addr) (σ : Tb) (led : Led) (hT : TabIs w M σ led) (sl : Int) (tk : Tok) (b : By) (tb : Tok) (h0 : 0 ≤ sl) (v0 : By) (hlt : σ.vals[sl.toNat]? = some v0) (hzz : v0.size = b.size) (hz : b.size ≤ 1000) :
    SpS w 2 60 238 [.ref M, .int sl tk, .bytes b tb] led (fun v led' => v = .none ∧ TabIs w M { σ with vals := σ.vals.set sl.toNat b } led') := by
  cases hT
  rename_i Md V Bk K O hh tt n nB nO oV oK vO vkvs kkvs bks bls tl baL bkL hO hK rK hV rV rB iB nb et ndT off d1 d2 d3 d4 d5 d6 d7 d8 d9 d10 d11 d12 d13 d14 d15 lK lV
  walk_at "mine sps"
  intro mean mg mb dp un gd outer A₀ base h₀ L hpS gS dS kS oS Q E rest B F X N OR T hd hu hnx hret hpo
  change News _ _ _ (_ :: _ :: _ :: _ :: _ :: _ :: (tl ++ rest)) at N
  have off2 : OwnOff (tl ++ rest) [M, Md, V, Bk, K, O] := own_app off (own_sub OR own6)
  obtain ⟨l1, x, l2, rfl, hvx, hback⟩ := vrel_split _ _ _ _ rV _ _ hlt
  rw [show (0 : Int) + (sl.toNat : Int) = sl by omega] at hvx
  have hsome : (valueAt vkvs sl).isSome = true := by rw [hvx]; rfl
  subst et
  obtain ⟨oB, o1, o2⟩ := nd_l ndT
  obtain ⟨oR, q1, q2, q3, q4, q5, q6, sw, sf, so⟩ := nd_at (x := x) (f := fun o => (l1 ++ (x, o) :: l2) ++ bkL) (fun o => List.mem_append_left _ (List.mem_append_right _ (.head _))) fst_l ndT off OR
  have hxm : (x, baObj v0) ∈ (l1 ++ (x, baObj v0) :: l2) ++ bkL := List.mem_append_left _ (List.mem_append_right _ (.head _))
  refine wpS_execs_cons (wpS_If (wpS_any ?_))
  walk_at "mine steps"
  (try dsimp only)
  refine wpS_execs_cons (wpS_Assign_Subscript (wpS_any ?_))
  walk_at "mine steps"
  refine' mi_setslice2 ?uF ?uN ?uU hzz hz ?_
  case uF => k_asm
  case uN => k_asm
  case uU => k_updF
  intro h8 tk8 F8 N8
  (try dsimp only at N8)
  refine wpS_execs_nil ?_
  (try dsimp only)
  refine wpS_execs_nil ?_
  (try dsimp only)
  walk_at "mine steps"
  refine' hret _ ((M, ?_) :: (Md, ?_) :: (V, ?_) :: (Bk, ?_) :: (K, ?_) :: (O, ?_) :: ((l1 ++ (x, ?_) :: l2) ++ bkL)) _ _ ⟨rfl, ?t⟩ ?o ?f ?n
  case n => (dsimp only [List.cons_append]); assumption
  case f => assumption
  case o => exact so _ _ _ _ _ _ _
  case t => exact TabIs.mk hO hK rK hV (hback b) rB iB nb rfl (sw _) (sf _) d1 d2 d3 d4 d5 d6 d7 d8 d9 d10 d11 d12 d13 d14 d15 lK lV
theorem kw_40 : True := by
  (k_with "M setItem ref int" => (k_here; k_dflt (refine' kda_set (knd := PySem.intKind _ _) ?q_F ?q_N ?q_U ?q_d (intKind_is _ _ _ _) ?q_z ?_; (case q_F => k_asm); (case q_N => k_asm); (case q_U => k_updF); (case q_d => assumption); (case q_z => assumption)); intro _ _ _ N9 _; (try dsimp only at N9)))
  trivial
theorem lay_new (w : World) (M : Addr) (σ : Tb) (led : Led) (hT : TabIs w M σ led) (sl : Int) (tk : Tok) (b : By) (tb : Tok) (h0 : sl = σ.vals.length) (hlen : σ.vals.length ≤ 1000) (hz : b.size ≤ 1000) :
    SpS w 2 60 238 [.ref M, .int sl tk, .bytes b tb] led (fun v led' => v = .none ∧ TabIs w M { σ with vals := σ.vals ++ [b] } led') := by
  cases hT
  rename_i Md V Bk K O hh tt n nB nO oV oK vO vkvs kkvs bks bls tl baL bkL hO hK rK hV rV rB iB nb et ndT off d1 d2 d3 d4 d5 d6 d7 d8 d9 d10 d11 d12 d13 d14 d15 lK lV
  walk_at "mine sps"
  intro mean mg mb dp un gd outer A₀ base h₀ L hpS gS dS kS oS Q E rest B F X N OR T hd hu hnx hret hpo
  change News _ _ _ (_ :: _ :: _ :: _ :: _ :: _ :: (tl ++ rest)) at N
  have off2 : OwnOff (tl ++ rest) [M, Md, V, Bk, K, O] := own_app off (own_sub OR own6)
  have hnone0 := vrel_none _ _ _ _ rV sl (by omega)
  have hnone : (valueAt vkvs sl).isSome = false := by rw [hnone0.1]; rfl
  have hst : ∀ v, PySem.stored vkvs sl v = vkvs ++ [(sl, v)] := fun v => by unfold PySem.stored; rw [if_neg]; rw [hnone0.2]; simp
  have hsz : vkvs.length ≤ sizeLine := by rw [vrel_length _ _ _ _ rV, sizeLine_eq]; omega
  refine wpS_execs_cons (wpS_If (wpS_any ?_))
  walk_at "mine steps"
  (try dsimp only)
  refine wpS_execs_cons (wpS_Assign_Subscript (wpS_NameCall ?_))
  walk_at "mine steps"
  (try dsimp only)
  refine wpS_callWith_type ?_
  walk_at "mine steps"
  (try dsimp only)
  refine' ba_of_bytes ?uF ?uN hz ?_
  case uF => k_asm
  case uN => k_asm
  intro x h8 F8 N8 l8
  have hlt := ltAll_of l8
  (try k_lt l8)
  walk_at "mine steps"
  refine wpS_any ?_
  walk_at "mine steps"
  refine wpS_execs_nil ?_
  (try dsimp only)
  refine wpS_execs_nil ?_
  (try dsimp only)
  walk_at "mine steps"
  have hx : ∀ p ∈ tl ++ rest, p.1 ≠ x := fun p hp => Nat.ne_of_lt (hlt p (by rcases List.mem_append.mp hp with h | h <;> simp [h]))
  have hx6 : ∀ c ∈ [M, Md, V, Bk, K, O], x ≠ c := List.forall_mem_cons.mpr ⟨Nat.ne_of_gt (hlt _ (.head _)), List.forall_mem_cons.mpr ⟨Nat.ne_of_gt (hlt _ (.tail _ (.head _))), List.forall_mem_cons.mpr ⟨Nat.ne_of_gt (hlt _ (.tail _ (.tail _ (.head _)))), List.forall_mem_cons.mpr ⟨Nat.ne_of_gt (hlt _ (.tail _ (.tail _ (.tail _ (.head _))))), List.forall_mem_cons.mpr ⟨Nat.ne_of_gt (hlt _ (.tail _ (.tail _ (.tail _ (.tail _ (.head _)))))), List.forall_mem_cons.mpr ⟨Nat.ne_of_gt (hlt _ (.tail _ (.tail _ (.tail _ (.tail _ (.tail _ (.head _))))))), fun _ h => nomatch h⟩⟩⟩⟩⟩⟩
  subst et
  refine' hret _ ((M, ?_) :: (Md, ?_) :: (V, ?_) :: (Bk, ?_) :: (K, ?_) :: (O, ?_) :: ((baL ++ [(x, baObj b)]) ++ bkL)) _ _ ⟨rfl, ?tA⟩ ?oA ?fA ?nA
  case nA => (refine' news_sub (by assumption) ?_; (simp only [List.cons_append, List.append_assoc, List.nil_append]); walk_at "mine sub")
  case fA => assumption
  case oA =>
    exact own_cons (own_at OR (.head _)) (own_cons (own_at OR (.tail _ (.head _))) (own_cons (own_at OR (.tail _ (.tail _ (.head _)))) (own_cons (own_at OR (.tail _ (.tail _ (.tail _ (.head _))))) (own_cons (own_at OR (.tail _ (.tail _ (.tail _ (.tail _ (.head _)))))) (own_cons (own_at OR (.tail _ (.tail _ (.tail _ (.tail _ (.tail _ (.head _))))))) (own_sub (own_cons (D := x) (fun p hp => hx p (List.mem_append_right _ hp)) (own_sub OR fun y hy => (.tail _ (.tail _ (.tail _ (.tail _ (.tail _ (.tail _ hy)))))))) fun y hy => by
      simp only [List.map_append, List.mem_append, List.map_cons, List.map_nil, List.mem_cons, List.not_mem_nil, or_false] at hy ⊢
      rcases hy with (h | h) | h <;> simp [h]))))))
  case tA =>
    have := vrel_snoc _ _ _ _ rV x b
    rw [show (0 : Int) + (σ.vals.length : Int) = sl by omega, ← hst] at this
    refine TabIs.mk hO hK rK (by assumption) this rB iB nb rfl ?_ ?_ d1 d2 d3 d4 d5 d6 d7 d8 d9 d10 d11 d12 d13 d14 d15 lK lV
    · have e : ((baL ++ [(x, baObj b)] ++ bkL).map (·.1)).Perm (x :: (baL ++ bkL).map (·.1)) := by
        simp only [List.map_append, List.map_cons, List.map_nil, List.append_assoc, List.singleton_append]
        exact List.perm_middle
      refine e.nodup_iff.mpr (List.nodup_cons.mpr ⟨fun hm => ?_, ndT⟩)
      obtain ⟨p, hp, e⟩ := List.mem_map.mp hm
      exact hx p (List.mem_append_left _ hp) e
    · intro p hp c hc
      rcases List.mem_append.mp hp with hp | hp
      · rcases List.mem_append.mp hp with hp | hp
        · exact off p (List.mem_append_left _ hp) c hc
        · have : p = (x, baObj b) := by simpa using hp
          subst this
          exact hx6 c hc
      · exact off p (List.mem_append_right _ hp) c hc
section
variable {w : World} {D U : Nat} {f : Addr} {vs : List Value} {mean : ExcName → Option Value} {mg mb : Str → Option Value} {dp un : Nat} {gd : Option (List Code)} {cn : Str} {cs : Scope} {a : Addr} {ccd : Value} {cl : List (Str × Addr)} {outer : List Env} {A₀ : Around} {base h₀ : Heap} {L : Addr} {m : Str → Option Value} {s : Shared} {Q E : Value → Shared → Prop}
theorem sps_use {foot : Led} {post : Value → Led → Prop} {rest : Led} (C : SpS w D U f vs foot post) (B : Below A₀ base outer h₀) (F : Fr h₀ L s.heap m) (X : (Mine.hd.heap_1 w.params).In h₀) (N : News h₀ L s.heap (foot ++ rest)) (OR : OwnOff rest (foot.map (·.1)))
    (T : Top Mine.hd.view_39 (looseW Mine.hd.view_39 [Str.ofString "GateError", Str.ofString "HashMap"]) mean mg mb h₀) (hk : cs.kind = .function) (hd : dp + D < recursionLimit) (hu : un + U < cLine)
    (hret : ∀ v foot' h' tk', post v foot' → OwnOff rest (foot'.map (·.1)) → Fr h₀ L h' m → News h₀ L h' (foot' ++ rest) → Q v { s with heap := h', toks := tk' }) :
    wpS (model PySem.Challenge.rw_qz0154_01.row.prog w) (ktrTop dp un gd cn cs L a ccd cl outer) (call (.ref f) vs) Q E s :=
  C mean mg mb dp un gd cn cs a ccd cl outer A₀ base h₀ L m s Q E rest B F X N OR T hk hd hu hret
theorem sp_copy {σ' : Tb} {led rest : Led} (C : Sp w D U f vs led (fun v led' => ∃ M2 l2, v = .ref M2 ∧ led' = l2 ++ led ∧ TabIs w M2 σ' l2 ∧ OwnOff led (l2.map (·.1)))) (B : Below A₀ base outer h₀) (F : Fr h₀ L s.heap m) (X : (Mine.hd.heap_1 w.params).In h₀) (N : News h₀ L s.heap (led ++ rest)) (OR : OwnOff rest (led.map (·.1)))
    (T : Top Mine.hd.view_39 (looseW Mine.hd.view_39 [Str.ofString "GateError", Str.ofString "HashMap"]) mean mg mb h₀) (hk : cs.kind = .function) (hd : dp + D < recursionLimit) (hu : un + U < cLine)
    (hret : ∀ M2 l2 h' tk', TabIs w M2 σ' l2 → OwnOff led (l2.map (·.1)) → OwnOff rest ((l2 ++ led).map (·.1)) → Fr h₀ L h' m → News h₀ L h' (l2 ++ (led ++ rest)) → Q (.ref M2) { s with heap := h', toks := tk' }) :
    wpAny (model PySem.Challenge.rw_qz0154_01.row.prog w) (ktrTop dp un gd cn cs L a ccd cl outer) (call (.ref f) vs) Q E s :=
  sp_use C B F X N OR T hk hd hu fun v l h' tk' p O' F' N' => by
    obtain ⟨M2, l2, rfl, rfl, T2, O2⟩ := p
    exact hret M2 l2 h' tk' T2 O2 O' F' (by rw [List.append_assoc] at N'; exact N')
theorem sps_copy {σ' : Tb} {led rest : Led} (C : SpS w D U f vs led (fun v led' => ∃ M2 l2, v = .ref M2 ∧ led' = l2 ++ led ∧ TabIs w M2 σ' l2 ∧ OwnOff led (l2.map (·.1)))) (B : Below A₀ base outer h₀) (F : Fr h₀ L s.heap m) (X : (Mine.hd.heap_1 w.params).In h₀) (N : News h₀ L s.heap (led ++ rest)) (OR : OwnOff rest (led.map (·.1)))
    (T : Top Mine.hd.view_39 (looseW Mine.hd.view_39 [Str.ofString "GateError", Str.ofString "HashMap"]) mean mg mb h₀) (hk : cs.kind = .function) (hd : dp + D < recursionLimit) (hu : un + U < cLine)
    (hret : ∀ M2 l2 h' tk', TabIs w M2 σ' l2 → OwnOff led (l2.map (·.1)) → OwnOff rest ((l2 ++ led).map (·.1)) → Fr h₀ L h' m → News h₀ L h' (l2 ++ (led ++ rest)) → Q (.ref M2) { s with heap := h', toks := tk' }) :
    wpS (model PySem.Challenge.rw_qz0154_01.row.prog w) (ktrTop dp un gd cn cs L a ccd cl outer) (call (.ref f) vs) Q E s :=
  sps_use C B F X N OR T hk hd hu fun v l h' tk' p O' F' N' => by
    obtain ⟨M2, l2, rfl, rfl, T2, O2⟩ := p
    exact hret M2 l2 h' tk' T2 O2 O' F' (by rw [List.append_assoc] at N'; exact N')
end
end
section
noncomputable def faV (f : Int) (there : Bool) : Int := if f = 0 then 0 else if f = 1 then (if there then -17 else 0) else if f = 2 then (if there then 0 else -2) else -22
theorem flags_sp (w : World) (f : Int) (tf : Tok) (there : Bool) (hf : f = 0 ∨ f = 1 ∨ f = 2 ∨ f = 3) :
    Sp w 1 40 285 [.int f tf, .bool there] [] (fun v l => l = [] ∧ ∃ t, v = .int (faV f there) t) := by
  rcases hf with rfl | rfl | rfl | rfl <;> cases there <;> walk_at "mine sp" <;> intro mean mg mb dp un gd outer A₀ base h₀ L hpS gS dS kS oS Q E rest B F X N OR T hd hu hnx hret hpo <;> walk_at "mine steps"
  all_goals exact hret _ [] _ _ ⟨rfl, _, rfl⟩ (fun _ _ _ hb => nomatch hb) (by assumption) (by first | assumption | exact news_sub (by assumption) (fun p hp => .tail _ hp))
theorem flags_is (w : World) (f : Int) (tf : Tok) (there : Bool) (r : Int) (hfa : faV f there = r) (hf : f = 0 ∨ f = 1 ∨ f = 2 ∨ f = 3) :
    Sp w 1 40 285 [.int f tf, .bool there] [] (fun v l => l = [] ∧ ∃ t, v = .int r t) := hfa ▸ flags_sp w f tf there hf
end
theorem kw_41 : True := by
  (k_with "M call ref" => (k_here; (with_reducible show wpAny _ _ (call (Value.ref 285) _ _) _ _ _); k_dflt (refine' sp0_int (flags_is _ _ _ _ _ ?q_z1 ?q_z2) ?B ?F ?X ?N ?T ?hk ?hd ?hu ?_; (case q_z1 => assumption); (case q_z2 => assumption); (case B => k_asm); (case F => k_asm); (case X => k_asm); (case N => k_asm); (case T => k_asm); (case hk => first | exact rfl | assumption); (case hd => ktr_room); (case hu => ktr_units)); intro _ _ _ _ _; walk_at "mine df"))
  trivial
section
theorem ckval_sp (w : World) (M : Addr) (σ : Tb) (led : Led) (hT : TabIs w M σ led) (o : By) (to : Tok) (hz : (o.size : Int) = σ.vw) (hz2 : o.size ≤ 1000) :
    Sp w 3 60 117 [.ref M, .bytes o to] led (fun v led' => (∃ t, v = .bytes o t) ∧ TabIs w M σ led') := by
  obtain ⟨Md, V, Bk, K, O, hh, tt, n, hM, hMd, VA, KA, OA⟩ := TabIs.inst hT
  walk_at "mine sp"
  intro mean mg mb dp un gd outer A₀ base h₀ L hpS gS dS kS oS Q E rest B F X N OR T hd hu hnx hret hpo
  walk_at "mine steps"
  (refine' hret _ _ _ _ ⟨?e82, by assumption⟩ (by assumption) ?f82 ?n82; (case n82 => first | assumption | (refine' news_sub (by assumption) ?_; (try dsimp only [List.cons_append]); walk_at "mine sub")); (case f82 => assumption); (case e82 => first | exact rfl | exact ⟨_, rfl⟩))
end
theorem kw_42 : True := by
  (k_with "M call ref" => (k_here; (with_reducible show wpAny _ _ (call (Value.ref 117) _ _) _ _ _); k_dflt ((first | refine' sp_tabI (ckval_sp _ _ _ _ ?q_hT _ _ ?q_z1 ?q_z2) ?B ?F ?X ?N ?O ?T ?hk ?hd ?hu ?_ | refine' sp_tab (ckval_sp _ _ _ _ ?q_hT _ _ ?q_z1 ?q_z2) ?B ?F ?X ?N ?O ?T ?hk ?hd ?hu ?_); (case q_hT => k_asm); (case q_z1 => first | assumption | walk_at "mine om" | exact rfl); (case q_z2 => first | assumption | walk_at "mine om" | exact rfl); walk_at "mine call"); intro _ _ _ _ _ _ _ _ _ _ _ _ _ _ _ _ _ _ _; walk_at "mine df"))
  trivial
section
theorem kw_43 : True := by
  (k_with "M ite" => (k_here; first | (refine ite_pos (by (try simp only [beq_iff_eq, bne_iff_ne, decide_eq_true_eq, ne_eq]); omega) ?_) | (refine ite_neg (by (try simp only [beq_iff_eq, bne_iff_ne, decide_eq_true_eq, ne_eq]); omega) ?_)))
  trivial
theorem upd_no (w : World) (M : Addr) (σ : Tb) (led : Led) (hT : TabIs w M σ led) (b : By) (tb : Tok) (o : By) (to tf : Tok) (hz : (b.size : Int) = σ.kw) (hz2 : b.size ≤ 100) (hn : (σ.ks.map (·.2)).Nodup) (hv : (o.size : Int) = σ.vw) (hv2 : o.size ≤ 1000) (fl r : Int) (hf : fl = 0 ∨ fl = 1 ∨ fl = 2 ∨ fl = 3) (hr : ¬ r = 0) (sl : Int) (there : Bool) (hS : slotOf σ.ks b = if there then some sl else none) (hfa : faV fl there = r) :
    Sp w 6 200 369 [.ref M, .bytes b tb, .bytes o to, .int fl tf] led (fun v led' => (∃ t, v = .int r t) ∧ TabIs w M σ led') := by
  obtain ⟨Md, V, Bk, K, O, hh, tt, n, hM, hMd, VA, KA, OA⟩ := TabIs.inst hT
  walk_at "mine sp"
  intro mean mg mb dp un gd outer A₀ base h₀ L hpS gS dS kS oS Q E rest B F X N OR T hd hu hnx hret hpo
  cases there
  · have hS1 : slotOf σ.ks b = none := hS
    walk_at "mine steps"
    (refine' hret _ _ _ _ ⟨?e87, by assumption⟩ (by assumption) ?f87 ?n87; (case n87 => first | assumption | (refine' news_sub (by assumption) ?_; (try dsimp only [List.cons_append]); walk_at "mine sub")); (case f87 => assumption); (case e87 => first | exact rfl | exact ⟨_, rfl⟩))
  · have hS1 : slotOf σ.ks b = some sl := hS
    walk_at "mine steps"
    (refine' hret _ _ _ _ ⟨?e88, by assumption⟩ (by assumption) ?f88 ?n88; (case n88 => first | assumption | (refine' news_sub (by assumption) ?_; (try dsimp only [List.cons_append]); walk_at "mine sub")); (case f88 => assumption); (case e88 => first | exact rfl | exact ⟨_, rfl⟩))
theorem upd_bad (w : World) (M : Addr) (σ : Tb) (led : Led) (hT : TabIs w M σ led) (b : By) (tb : Tok) (o : By) (to tf : Tok) (hz : (b.size : Int) = σ.kw) (hz2 : b.size ≤ 100) (hn : (σ.ks.map (·.2)).Nodup) (hv : (o.size : Int) = σ.vw) (hv2 : o.size ≤ 1000) (sl : Int) (hS : slotOf σ.ks b = none ∨ slotOf σ.ks b = some sl) :
    Sp w 6 200 369 [.ref M, .bytes b tb, .bytes o to, .int 3 tf] led (fun v led' => (∃ t, v = .int (-22) t) ∧ TabIs w M σ led') := by
  rcases hS with hS | hS
  · exact upd_no w M σ led hT b tb o to tf hz hz2 hn hv hv2 3 (-22) (by decide) (by decide) sl false hS rfl
  · exact upd_no w M σ led hT b tb o to tf hz hz2 hn hv hv2 3 (-22) (by decide) (by decide) sl true hS rfl
theorem upd_exist (w : World) (M : Addr) (σ : Tb) (led : Led) (hT : TabIs w M σ led) (b : By) (tb : Tok) (o : By) (to tf : Tok) (hz : (b.size : Int) = σ.kw) (hz2 : b.size ≤ 100) (hn : (σ.ks.map (·.2)).Nodup) (hv : (o.size : Int) = σ.vw) (hv2 : o.size ≤ 1000) (sl : Int) (hS : slotOf σ.ks b = some sl) :
    Sp w 6 200 369 [.ref M, .bytes b tb, .bytes o to, .int 1 tf] led (fun v led' => (∃ t, v = .int (-17) t) ∧ TabIs w M σ led') :=
  upd_no w M σ led hT b tb o to tf hz hz2 hn hv hv2 1 (-17) (by decide) (by decide) sl true hS rfl
theorem upd_absent (w : World) (M : Addr) (σ : Tb) (led : Led) (hT : TabIs w M σ led) (b : By) (tb : Tok) (o : By) (to tf : Tok) (hz : (b.size : Int) = σ.kw) (hz2 : b.size ≤ 100) (hn : (σ.ks.map (·.2)).Nodup) (hv : (o.size : Int) = σ.vw) (hv2 : o.size ≤ 1000) (hS : slotOf σ.ks b = none) :
    Sp w 6 200 369 [.ref M, .bytes b tb, .bytes o to, .int 2 tf] led (fun v led' => (∃ t, v = .int (-2) t) ∧ TabIs w M σ led') :=
  upd_no w M σ led hT b tb o to tf hz hz2 hn hv hv2 2 (-2) (by decide) (by decide) 0 false hS rfl
end
section
theorem updn_there (w : World) (M : Addr) (σ : Tb) (led : Led) (hT : TabIs w M σ led) (b : By) (tb : Tok) (o : By) (to tf : Tok) (fl : Int) (hf : fl = 0 ∨ fl = 1 ∨ fl = 2 ∨ fl = 3) (hfa : faV fl true = 0) (hz : (b.size : Int) = σ.kw) (hz2 : b.size ≤ 100) (hn : (σ.ks.map (·.2)).Nodup) (hv : (o.size : Int) = σ.vw) (hv2 : o.size ≤ 1000) (sl : Int) (hS : slotOf σ.ks b = some sl)
    (h0 : 0 ≤ sl) (v0 : By) (hlt : σ.vals[sl.toNat]? = some v0) (hzz : v0.size = o.size) (hzo : σ.ord.length ≤ 1000) :
    SpS w 6 200 369 [.ref M, .bytes b tb, .bytes o to, .int fl tf] led (fun v led' => (∃ t, v = .int 0 t) ∧ TabIs w M { σ with vals := σ.vals.set sl.toNat o, ord := σ.ord.erase sl ++ [sl] } led') := by
  obtain ⟨Md, V, Bk, K, O, hh, tt, n, hM, hMd, VA, KA, OA⟩ := TabIs.inst hT
  walk_at "mine sps"
  intro mean mg mb dp un gd outer A₀ base h₀ L hpS gS dS kS oS Q E rest B F X N OR T hd hu hnx hret hpo
  have hun : True := trivial
  · refine wpS_execs_any ?_
    walk_at "mine steps"
    (try dsimp only)
    refine wpS_execs_any ?_
    walk_at "mine steps"
    (try dsimp only)
    refine wpS_execs_any ?_
    walk_at "mine steps"
    (try dsimp only)
    refine wpS_execs_any ?_
    walk_at "mine steps"
    (try dsimp only)
    refine wpS_execs_cons (wpS_Expr (wpS_MethodCall ?_))
    walk_at "mine steps"
    (try dsimp only)
    refine' wpS_callWith_K (K := (Mine.hd.heap_1 w.params)) ?uX99 ?uk99 ?_
    case uX99 => assumption
    case uk99 => k_is
    walk_at "mine steps"
    refine' sps_use (lay_old _ _ _ _ ?hT _ _ _ _ ?z1 _ ?z2 ?z3 ?z4) ?B ?F ?X ?N ?O ?T ?hk ?hd ?hu ?_
    case hT => k_asm
    case z2 => exact hlt
    case z1 => assumption
    case z3 => assumption
    case z4 => assumption
    walk_at "mine call"
    intro v9 led9 h9 tk9 p9 O9 F9 N9
    obtain ⟨p9, T9⟩ := p9
    subst p9
    have i9 := TabIs.inst T9
    obtain ⟨Md9, V9, B9, K9, Or9, hh9, tt9, n9, hM9, hMd9, VA9, KA9, OA9⟩ := i9
    refine ⟨rfl, ?_⟩
    (try dsimp only)
    (try k_fold)
    refine wpS_execs_any ?_
    walk_at "mine steps"
    (try dsimp only)
    refine wpS_execs_any ?_
    walk_at "mine steps"
    (refine' hret _ _ _ _ ⟨?e103, by assumption⟩ (by assumption) ?f103 ?n103; (case n103 => first | assumption | (refine' news_sub (by assumption) ?_; (try dsimp only [List.cons_append]); walk_at "mine sub")); (case f103 => assumption); (case e103 => first | exact rfl | exact ⟨_, rfl⟩))

def RoomC (w : World) (M : Addr) (σ σ' : Tb) (sl : Int) : Prop := ∀ led, TabIs w M σ led → Sp w 6 150 461 [.ref M] led (fun v led' => (∃ t, v = .int sl t) ∧ TabIs w M σ' led')
def LayC (w : World) (M : Addr) (σ σ' : Tb) (sl : Int) (o : By) : Prop := ∀ led t u, TabIs w M σ led → SpS w 2 60 238 [.ref M, .int sl t, .bytes o u] led (fun v led' => v = .none ∧ TabIs w M σ' led')
theorem room_use {w : World} {M : Addr} {σ σ' : Tb} {sl : Int} {led : Led} (h : RoomC w M σ σ' sl) (hT : TabIs w M σ led) : Sp w 6 150 461 [.ref M] led (fun v led' => (∃ t, v = .int sl t) ∧ TabIs w M σ' led') := h led hT
theorem lay_use {w : World} {M : Addr} {σ σ' : Tb} {sl : Int} {o : By} {led : Led} {t u : Tok} (h : LayC w M σ σ' sl o) (hT : TabIs w M σ led) : SpS w 2 60 238 [.ref M, .int sl t, .bytes o u] led (fun v led' => v = .none ∧ TabIs w M σ' led') := h led t u hT
theorem kw_44 : True := by
  (k_with "M call ref" => (k_here; (with_reducible show wpAny _ _ (call (Value.ref 461) _ _) _ _ _); k_dflt ((first | refine' sp_tabI (room_use ?q_z1 ?q_hT) ?B ?F ?X ?N ?O ?T ?hk ?hd ?hu ?_ | refine' sp_tab (room_use ?q_z1 ?q_hT) ?B ?F ?X ?N ?O ?T ?hk ?hd ?hu ?_); (case q_hT => k_asm); (case q_z1 => first | assumption | walk_at "mine om" | exact rfl); walk_at "mine call"); intro _ _ _ _ _ _ _ _ _ _ _ _ _ _ _ _ _ _ _; walk_at "mine df"))
  trivial
theorem updn_new (w : World) (M : Addr) (σ σ1 σ2 : Tb) (led : Led) (hT : TabIs w M σ led) (b : By) (tb : Tok) (o : By) (to tf : Tok) (fl : Int) (hf : fl = 0 ∨ fl = 1 ∨ fl = 2 ∨ fl = 3) (hfa : faV fl false = 0) (hz : (b.size : Int) = σ.kw) (hz2 : b.size ≤ 100) (hn : (σ.ks.map (·.2)).Nodup) (hv : (o.size : Int) = σ.vw) (hv2 : o.size ≤ 1000) (hS : slotOf σ.ks b = none)
    (sl : Int) (hroom : RoomC w M σ σ1 sl) (hni : sl ∉ σ1.ks.map (·.1)) (hz3 : σ1.ks.length ≤ 900) (hlay : LayC w M { σ1 with ks := σ1.ks ++ [(sl, b)] } σ2 sl o) (hzo : σ2.ord.length ≤ 1000) :
    SpS w 8 400 369 [.ref M, .bytes b tb, .bytes o to, .int fl tf] led (fun v led' => (∃ t, v = .int 0 t) ∧ TabIs w M { σ2 with ord := σ2.ord.erase sl ++ [sl] } led') := by
  obtain ⟨Md, V, Bk, K, O, hh, tt, n, hM, hMd, VA, KA, OA⟩ := TabIs.inst hT
  walk_at "mine sps"
  intro mean mg mb dp un gd outer A₀ base h₀ L hpS gS dS kS oS Q E rest B F X N OR T hd hu hnx hret hpo
  have hun : True := trivial
  · refine wpS_execs_any ?_
    walk_at "mine steps"
    (try dsimp only)
    refine wpS_execs_any ?_
    walk_at "mine steps"
    (try dsimp only)
    refine wpS_execs_any ?_
    walk_at "mine steps"
    (try dsimp only)
    refine wpS_execs_any ?_
    walk_at "mine steps"
    (try dsimp only)
    refine wpS_execs_cons (wpS_Expr (wpS_MethodCall ?_))
    walk_at "mine steps"
    (try dsimp only)
    refine' wpS_callWith_K (K := (Mine.hd.heap_1 w.params)) ?uX100 ?uk100 ?_
    case uX100 => assumption
    case uk100 => k_is
    walk_at "mine steps"
    refine' sps_use (lay_use ?z1 ?hT) ?B ?F ?X ?N ?O ?T ?hk ?hd ?hu ?_
    case hT => k_asm
    case z1 => exact hlay
    walk_at "mine call"
    intro v9 led9 h9 tk9 p9 O9 F9 N9
    obtain ⟨p9, T9⟩ := p9
    subst p9
    have i9 := TabIs.inst T9
    obtain ⟨Md9, V9, B9, K9, Or9, hh9, tt9, n9, hM9, hMd9, VA9, KA9, OA9⟩ := i9
    refine ⟨rfl, ?_⟩
    (try dsimp only)
    (try k_fold)
    refine wpS_execs_any ?_
    walk_at "mine steps"
    (try dsimp only)
    refine wpS_execs_any ?_
    walk_at "mine steps"
    (refine' hret _ _ _ _ ⟨?e104, by assumption⟩ (by assumption) ?f104 ?n104; (case n104 => first | assumption | (refine' news_sub (by assumption) ?_; (try dsimp only [List.cons_append]); walk_at "mine sub")); (case f104 => assumption); (case e104 => first | exact rfl | exact ⟨_, rfl⟩))
end
section
theorem bcount_sp (w : World) (most : Int) (t : Tok) (h1 : 1 ≤ most) (h2 : most ≤ 4) :
    Sp w 2 20 299 [.int most t] [] (fun v led' => led' = [] ∧ ∃ t', v = .int (nbuck most) t') := by
  obtain h | h | h | h : most = 1 ∨ most = 2 ∨ most = 3 ∨ most = 4 := by omega
  all_goals (subst h)
  all_goals (walk_at "mine sp"; intro mean mg mb dp un gd outer A₀ base h₀ L hpS gS dS kS oS Q E rest B F X N OR T hd hu hnx hret hpo)
  all_goals (walk_at "mine steps")
  all_goals refine hret _ [] _ _ ⟨rfl, _, rfl⟩ OR (by assumption) (by assumption)
end
theorem kw_45 : True := by
  (k_with "M call ref" => (k_here; (with_reducible show wpAny _ _ (call (Value.ref 299) _ _) _ _ _); k_dflt (refine' sp0_int (bcount_sp _ _ _ ?q_z1 ?q_z2) ?B ?F ?X ?N ?T ?hk ?hd ?hu ?_; (case q_z1 => first | assumption | walk_at "mine om"); (case q_z2 => first | assumption | walk_at "mine om"); (case B => k_asm); (case F => k_asm); (case X => k_asm); (case N => k_asm); (case T => k_asm); (case hk => first | exact rfl | assumption); (case hd => ktr_room); (case hu => ktr_units)); intro _ _ _ _ _; walk_at "mine df"))
  trivial
section
theorem width_ok (vw most : Int) (h5 : 1 ≤ vw) (h6 : vw ≤ 9) (h7 : 1 ≤ most) (h8 : most ≤ 4) : ¬ (1048576 < ((vw + 7).fdiv 8 * 8 + 8) * (most + 1) * 1) := by
  rw [Int.fdiv_eq_ediv_of_nonneg _ (by decide), Int.mul_one]
  have h1 : (vw + 7) / 8 * 8 + 8 ≤ 24 := by omega
  have h2 : most + 1 ≤ 5 := by omega
  have := Int.mul_le_mul h1 h2 (by omega) (by decide)
  omega
theorem ckw_sp (w : World) (kw : Int) (tk t2 : Tok) (h3 : 1 ≤ kw) (h4 : kw ≤ 2) : Sp w 2 50 82 [.str (Str.ofString "lru") tk, .int kw t2] [] (fun v led' => led' = [] ∧ v = .none) := by
  walk_at "mine sp"
  intro mean mg mb dp un gd outer A₀ base h₀ L hpS gS dS kS oS Q E rest B F X N OR T hd hu hnx hret hpo
  change News _ _ _ rest at N
  walk_at "mine steps"
  refine hret _ [] _ _ ⟨rfl, rfl⟩ OR (by assumption) ?_
  refine' news_sub (by assumption) ?_
  dsimp only [List.nil_append]
  walk_at "mine sub"
theorem stride_sp (w : World) (vw : Int) (tk : Tok) (h5 : 1 ≤ vw) (h6 : vw ≤ 9) : Sp w 2 50 68 [.int vw tk] [] (fun v led' => led' = [] ∧ ∃ t, v = .int ((vw + 7).fdiv 8 * 8 + 8) t) := by
  walk_at "mine sp"
  intro mean mg mb dp un gd outer A₀ base h₀ L hpS gS dS kS oS Q E rest B F X N OR T hd hu hnx hret hpo
  change News _ _ _ rest at N
  walk_at "mine steps"
  exact hret _ [] _ _ ⟨rfl, _, rfl⟩ OR (by assumption) (by assumption)
theorem kw_46 : True := by
  (k_with "M call ref" => (k_here; (with_reducible show wpAny _ _ (call (Value.ref 82) _ _) _ _ _); k_dflt (refine' sp0_c (ckw_sp _ _ _ _ ?q_z1 ?q_z2) ?B ?F ?X ?N ?T ?hk ?hd ?hu ?_; (case q_z1 => assumption); (case q_z2 => assumption); (case B => k_asm); (case F => k_asm); (case X => k_asm); (case N => k_asm); (case T => k_asm); (case hk => first | exact rfl | assumption); (case hd => ktr_room); (case hu => ktr_units)); intro _ _ _ _; walk_at "mine df"))
  trivial
theorem kw_47 : True := by
  (k_with "M call ref" => (k_here; (with_reducible show wpAny _ _ (call (Value.ref 68) _ _) _ _ _); k_dflt (refine' sp0_int (stride_sp _ _ _ ?q_z1 ?q_z2) ?B ?F ?X ?N ?T ?hk ?hd ?hu ?_; (case q_z1 => assumption); (case q_z2 => assumption); (case B => k_asm); (case F => k_asm); (case X => k_asm); (case N => k_asm); (case T => k_asm); (case hk => first | exact rfl | assumption); (case hd => ktr_room); (case hu => ktr_units)); intro _ _ _ _ _; walk_at "mine df"))
  trivial
theorem cwidth_sp (w : World) (kw vw most : Int) (tk t2 t3 t4 : Tok) (h3 : 1 ≤ kw) (h4 : kw ≤ 2) (h5 : 1 ≤ vw) (h6 : vw ≤ 9) (h7 : 1 ≤ most) (h8 : most ≤ 4) :
    Sp w 4 100 89 [.str (Str.ofString "lru") tk, .int kw t2, .int vw t3, .int most t4] [] (fun v led' => led' = [] ∧ v = .none) := by
  walk_at "mine sp"
  intro mean mg mb dp un gd outer A₀ base h₀ L hpS gS dS kS oS Q E rest B F X N OR T hd hu hnx hret hpo
  change News _ _ _ rest at N
  walk_at "mine steps"
  · exfalso; exact width_ok vw most h5 h6 h7 h8 (by assumption)
  · refine hret _ [] _ _ ⟨rfl, rfl⟩ OR (by assumption) ?_
    refine' news_sub (by assumption) ?_
    dsimp only [List.nil_append]
    walk_at "mine sub"
end
theorem kw_48 : True := by
  (k_with "M call ref" => (k_here; (with_reducible show wpAny _ _ (call (Value.ref 89) _ _) _ _ _); k_dflt (refine' sp0_c (cwidth_sp _ _ _ _ _ _ _ _ ?q_z1 ?q_z2 ?q_z3 ?q_z4 ?q_z5 ?q_z6) ?B ?F ?X ?N ?T ?hk ?hd ?hu ?_; (case q_z1 => first | assumption | walk_at "mine om"); (case q_z2 => first | assumption | walk_at "mine om"); (case q_z3 => first | assumption | walk_at "mine om"); (case q_z4 => first | assumption | walk_at "mine om"); (case q_z5 => first | assumption | walk_at "mine om"); (case q_z6 => first | assumption | walk_at "mine om"); (case B => k_asm); (case F => k_asm); (case X => k_asm); (case N => k_asm); (case T => k_asm); (case hk => first | exact rfl | assumption); (case hd => ktr_room); (case hu => ktr_units)); intro _ _ _ _; walk_at "mine df"))
  trivial
section
theorem under_creation (dp un : Nat) (gd : Option (List Code)) (cn : Str) (cs : Scope) (L a : Addr) (ccd : Value) (cl : List (Str × Addr)) (outer : List Env) (C : Addr) (pos : List Value) :
    (ktrTop dp un gd cn cs L a ccd cl outer).under (Code.builtin "type.__call__" ⟨.ref C :: pos, []⟩) = ktrTop (dp + 1) (un + 1) gd cn cs L a ccd cl outer := by
  have h1 : (Code.builtin "type.__call__" ⟨.ref C :: pos, []⟩).isGuard = false := by show guardIds.contains "type.__call__" = false; decide +kernel
  have h2 : (Code.builtin "type.__call__" ⟨.ref C :: pos, []⟩).weight = 1 := by unfold Code.weight; rw [h1]; rfl
  have h3 : (Code.builtin "type.__call__" ⟨.ref C :: pos, []⟩).guards = [] := by unfold Code.guards; rw [h1]; rfl
  unfold Around.under
  rw [h2, h3]
  rfl
inductive BInv (base : Led) (i : Nat) (ys : List Value) (led : Led) : Prop
  | mk (bks : _) (bkL : _) (e1 : ys = bks.map Value.ref) (e2 : led = bkL ++ base) (e3 : BRel bks (List.replicate i []) bkL) (e4 : (bkL.map (·.1)).Nodup) (e5 : OwnOff bkL (base.map (·.1)))
theorem binv0 (base : Led) : BInv base 0 [] base := ⟨[], [], rfl, rfl, trivial, List.nodup_nil, fun _ h => nomatch h⟩
theorem brel_snoc {a : Addr} {o : Obj} {ns : List Int} (ho : ∃ vs n, o = W.listOf (List.toArray vs) n ∧ IntsAre vs ns) (bks : List Addr) : ∀ (q : List (List Int)) (l : Led), BRel bks q l → BRel (bks ++ [a]) (q ++ [ns]) (l ++ [(a, o)]) := by
  induction bks with
  | nil =>
    intro q l h
    cases q with
    | nil => cases l with
      | nil => exact ⟨rfl, ho, trivial⟩
      | cons p r => exact h.elim
    | cons p r => exact h.elim
  | cons x r ih =>
    intro q l h
    cases q with
    | nil => exact h.elim
    | cons n q => cases l with
      | nil => exact h.elim
      | cons p l => exact ⟨h.1, h.2.1, ih q l h.2.2⟩
theorem binv_end {base bkL : Led} {bks : List Addr} {h₀ h' : Heap} {L I C D T : Addr} {m : Str → Option Value} {oI oC oD o : Obj} {s₁ : Shared} {tk' i : Nat} {ys : List Value} (F : Fr h₀ L h' m)
    (N : News h₀ L h' ((T, o) :: ((I, oI) :: (C, oC) :: (D, oD) :: (bkL ++ base)))) (l1 : ∀ p ∈ (I, oI) :: (C, oC) :: (D, oD) :: (bkL ++ base), p.1 < T) (ho : ∃ vs n, o = W.listOf (List.toArray vs) n ∧ IntsAre vs []) (off : LCg.Off3 I C D (bkL ++ base))
    (e : ys = bks.map Value.ref) (R : BRel bks (List.replicate i []) bkL) (nd : (bkL.map (·.1)).Nodup) (ob : OwnOff bkL (base.map (·.1))) :
    LCg.CompEnd h₀ L m s₁ I oI C oC D oD (fun _ => True) (fun y led' => BInv base (i + 1) (ys ++ [y]) led') (.ref T) { s₁ with heap := h', toks := tk' } := by
  subst e
  refine LCg.CompEnd.intro F N ((bkL ++ [(T, o)]) ++ base) ?_ ?_ trivial ⟨bks ++ [T], _, by simp, rfl, ?_, ?_, ?_⟩
  · walk_at "mine sub"
  · refine LCg.Off3.of fun p hp => ?_
    simp only [List.mem_cons, List.mem_append, List.not_mem_nil, or_false] at hp
    rcases hp with (h | h) | h
    · exact off3_mem off p (List.mem_append_left _ h)
    · subst h
      exact ⟨Ne.symm (Nat.ne_of_lt (l1 _ (.head _))), Ne.symm (Nat.ne_of_lt (l1 _ (.tail _ (.head _)))), Ne.symm (Nat.ne_of_lt (l1 _ (.tail _ (.tail _ (.head _)))))⟩
    · exact off3_mem off p (List.mem_append_right _ h)
  · rw [List.replicate_succ']
    exact brel_snoc ho _ _ _ R
  · rw [List.map_append, List.nodup_append]
    refine ⟨nd, by simp, fun a ha b hb => ?_⟩
    simp only [List.map_cons, List.map_nil, List.mem_singleton] at hb
    subst hb
    obtain ⟨p, hp, rfl⟩ := List.mem_map.mp ha
    exact Nat.ne_of_lt (l1 p (.tail _ (.tail _ (.tail _ (List.mem_append_left _ hp)))))
  · intro p hp b hb
    simp only [List.mem_cons, List.mem_append, List.not_mem_nil, or_false] at hp
    rcases hp with h | h
    · exact ob p h b hb
    · subst h
      obtain ⟨q, hq, rfl⟩ := List.mem_map.mp hb
      exact Ne.symm (Nat.ne_of_lt (l1 q (.tail _ (.tail _ (.tail _ (List.mem_append_right _ hq))))))
theorem turn_lt {a b c : Addr × Obj} {l : Led} {T : Addr} (h : a.1 < T ∧ b.1 < T ∧ c.1 < T ∧ AllLt T l) : ∀ p ∈ a :: b :: c :: l, p.1 < T := fun p hp => by
  rcases List.mem_cons.mp hp with rfl | hp
  · exact h.1
  rcases List.mem_cons.mp hp with rfl | hp
  · exact h.2.1
  rcases List.mem_cons.mp hp with rfl | hp
  · exact h.2.2.1
  · exact allLt_mem h.2.2.2 p hp
theorem nb_small (most : Int) : Builtin.Range.small 0 (nbuck most : Int) 1 = true ∧ Builtin.Range.rangeSize 0 (nbuck most : Int) 1 = ((nbuck most : Nat) : Int) ∧ nbuck most ≤ sizeLine := by
  have h : nbuck most = 1 ∨ nbuck most = 2 ∨ nbuck most = 4 := by unfold nbuck; split <;> (try split) <;> simp
  rcases h with h | h | h <;> rw [h] <;> exact ⟨by decide +kernel, by decide +kernel, by rw [sizeLine_eq]; omega⟩
theorem new_reorder {h₀ h : Heap} {L : Addr} {d a b c : Addr × Obj} {l rest : Led} (N : News h₀ L h (d :: (l ++ a :: b :: c :: rest))) : News h₀ L h (a :: b :: c :: d :: (l ++ rest)) := news_sub N (by walk_at "mine sub")
theorem new_off {D : Addr} {a b c : Addr × Obj} {l rest : Led} (o : LCg.Off1 D (l ++ a :: b :: c :: rest)) : (a.1 ≠ D ∧ b.1 ≠ D ∧ c.1 ≠ D) ∧ ∀ p ∈ l ++ rest, p.1 ≠ D :=
  ⟨⟨off1_mem o a (List.mem_append_right _ (.head _)), off1_mem o b (List.mem_append_right _ (.tail _ (.head _))), off1_mem o c (List.mem_append_right _ (.tail _ (.tail _ (.head _))))⟩, fun p hp => off1_mem o p ((sub_app (sub_inl (sub_refl l)) (sub_inr (sub_tail (sub_tail (sub_tail (sub_refl rest)))))) p hp)⟩
theorem new_bk {D : Addr} {a b c : Addr × Obj} {l rest : Led} (ob : OwnOff l ((a :: b :: c :: rest).map (·.1))) (ha : ∀ p ∈ rest, p.1 ≠ a.1) (hb : ∀ p ∈ rest, p.1 ≠ b.1) (hc : ∀ p ∈ rest, p.1 ≠ c.1) (hD : ∀ p ∈ l ++ rest, p.1 ≠ D) : OwnOff (l ++ rest) [a.1, b.1, c.1, D] := by
  intro p hp x hx
  simp only [List.mem_cons, List.not_mem_nil, or_false] at hx
  rcases List.mem_append.mp hp with h | h
  · rcases hx with e | e | e | e <;> subst e
    · exact ob p h _ (by simp)
    · exact ob p h _ (by simp)
    · exact ob p h _ (by simp)
    · exact hD p hp
  · rcases hx with e | e | e | e <;> subst e
    · exact ha p h
    · exact hb p h
    · exact hc p h
    · exact hD p hp
theorem new_end {w : World} {x d V B K O : Addr} {oV oK : Obj} {number kw vw most : Int} {h0 h1 h2 h3 h4 h5 h6 h7 h8 : Int} {t0 t1 t2 t3 t4 t5 t6 t7 t8 s0 s1 s2 s3 s4 : Tok} {n nO nB : Nat} {bks : List Addr} {bkL rest : Led} {h₀ h' : Heap} {L : Addr}
    (N : News h₀ L h' ((O, W.listOf [].toArray nO) :: (K, oK) :: (V, oV) :: (x, instObj 502 d) :: (d, dictOf [⟨h0, .str (Str.ofString "kind") t0, .str (Str.ofString "lru") s0⟩, ⟨h1, .str (Str.ofString "number") t1, .int number s1⟩, ⟨h2, .str (Str.ofString "key_width") t2, .int kw s2⟩, ⟨h3, .str (Str.ofString "value_width") t3, .int vw s3⟩, ⟨h4, .str (Str.ofString "most") t4, .int most s4⟩, ⟨h5, .str (Str.ofString "values") t5, .ref V⟩, ⟨h6, .str (Str.ofString "buckets") t6, .ref B⟩, ⟨h7, .str (Str.ofString "key_by_slot") t7, .ref K⟩, ⟨h8, .str (Str.ofString "order") t8, .ref O⟩] n) :: (B, W.listOf (bks.map Value.ref).toArray nB) :: (bkL ++ rest)))
    (hK : oK.IsDictOf (intKind PySem.Challenge.rw_qz0154_01.row.prog w) []) (hV : oV.IsDictOf (intKind PySem.Challenge.rw_qz0154_01.row.prog w) []) (lK : (K == sysModules) = false) (lV : (V == sysModules) = false)
    (R : BRel bks (List.replicate (nbuck most) []) bkL) (nd : (bkL.map (·.1)).Nodup) (l2 : @LT.lt Nat _ d x) (aV : @LT.lt Nat _ x V ∧ @LT.lt Nat _ d V ∧ AllLt V rest) (q1 : V ≠ B) (q2 : x ≠ B) (q3 : d ≠ B)
    (aK : @LT.lt Nat _ V K ∧ @LT.lt Nat _ x K ∧ @LT.lt Nat _ d K ∧ @LT.lt Nat _ B K ∧ AllLt K (bkL ++ rest)) (aO : @LT.lt Nat _ K O ∧ @LT.lt Nat _ V O ∧ @LT.lt Nat _ x O ∧ @LT.lt Nat _ d O ∧ @LT.lt Nat _ B O ∧ AllLt O (bkL ++ rest))
    (bk : OwnOff (bkL ++ rest) [V, x, d, B]) (ob : OwnOff rest (bkL.map (·.1))) :
    ∃ foot, TabIs w x { number := number, kw := kw, vw := vw, most := most, ks := [], ord := [], vals := [] } foot ∧ OwnOff rest (foot.map (·.1)) ∧ News h₀ L h' (foot ++ rest) := by
  have hB : BkInv (List.replicate (nbuck most) []) [] := by
    refine ⟨fun s b h => (nomatch h), fun j l h => ?_⟩
    have : l = [] := List.eq_of_mem_replicate (List.mem_of_getElem? h)
    subst this
    exact ⟨List.nodup_nil, fun s h => nomatch h⟩
  have bkm : ∀ p ∈ bkL ++ rest, p.1 ≠ x ∧ p.1 ≠ d ∧ p.1 ≠ V ∧ p.1 ≠ B ∧ p.1 ≠ K ∧ p.1 ≠ O := fun p hp => ⟨bk p hp _ (by simp), bk p hp _ (by simp), bk p hp _ (by simp), bk p hp _ (by simp), Nat.ne_of_lt (allLt_mem aK.2.2.2.2 p hp), Nat.ne_of_lt (allLt_mem aO.2.2.2.2.2 p hp)⟩
  refine ⟨_, TabIs.mk (hh := fun i => [h0, h1, h2, h3, h4, h5, h6, h7, h8].getD i 0) (tt := fun i => [t0, t1, t2, t3, t4, t5, t6, t7, t8, s0, s1, s2, s3, s4].getD i 0) (n := n) (nB := nB) (nO := nO) (vO := []) (vkvs := []) (kkvs := []) (bks := bks) (bls := List.replicate (nbuck most) []) (baL := []) (bkL := bkL) (tl := bkL)
    IntsAre.nil hK trivial hV trivial R hB (by simp) rfl nd ?_ (Nat.ne_of_gt l2) (Nat.ne_of_lt aV.1) q2 (Nat.ne_of_lt aK.2.1) (Nat.ne_of_lt aO.2.2.1) (Nat.ne_of_lt aV.2.1) q3 (Nat.ne_of_lt aK.2.2.1) (Nat.ne_of_lt aO.2.2.2.1) q1 (Nat.ne_of_lt aK.1) (Nat.ne_of_lt aO.2.1) (Nat.ne_of_lt aK.2.2.2.1) (Nat.ne_of_lt aO.2.2.2.2.1) (Nat.ne_of_lt aO.1) lK lV, ?_, ?_⟩
  · exact own_cons (fun p hp => (bkm p (List.mem_append_left _ hp)).1) (own_cons (fun p hp => (bkm p (List.mem_append_left _ hp)).2.1) (own_cons (fun p hp => (bkm p (List.mem_append_left _ hp)).2.2.1) (own_cons (fun p hp => (bkm p (List.mem_append_left _ hp)).2.2.2.1) (own_cons (fun p hp => (bkm p (List.mem_append_left _ hp)).2.2.2.2.1) (own_cons (fun p hp => (bkm p (List.mem_append_left _ hp)).2.2.2.2.2) (own_nil))))))
  · exact own_cons (fun p hp => (bkm p (List.mem_append_right _ hp)).1) (own_cons (fun p hp => (bkm p (List.mem_append_right _ hp)).2.1) (own_cons (fun p hp => (bkm p (List.mem_append_right _ hp)).2.2.1) (own_cons (fun p hp => (bkm p (List.mem_append_right _ hp)).2.2.2.1) (own_cons (fun p hp => (bkm p (List.mem_append_right _ hp)).2.2.2.2.1) (own_cons (fun p hp => (bkm p (List.mem_append_right _ hp)).2.2.2.2.2) (ob))))))
  · exact news_sub N (by (try simp only [List.cons_append, List.append_assoc]); walk_at "mine sub")
theorem new_sp (w : World) (number kw vw most : Int) (tk t1 t2 t3 t4 : Tok) (h1 : 0 ≤ number) (h2 : number < 64) (h3 : 1 ≤ kw) (h4 : kw ≤ 2) (h5 : 1 ≤ vw) (h6 : vw ≤ 9) (h7 : 1 ≤ most) (h8 : most ≤ 4) :
    Sp w 9 200 502 [.str (Str.ofString "lru") tk, .int number t1, .int kw t2, .int vw t3, .int most t4] [] (fun v led' => ∃ M, v = .ref M ∧ TabIs w M { number := number, kw := kw, vw := vw, most := most, ks := [], ord := [], vals := [] } led') := by
  unfold Sp
  k_fill
  intro mean mg mb dp un gd cn cs a ccd cl outer A₀ base h₀ L m s Q E rest B F X N OR T hk hd hu hret
  dsimp only [List.nil_append] at N
  k_here
  k_dflt (refine' call_cls ?k1 ?k2 ?k3 ?k4 ?k5 ?k6 ?_; (case k1 => k_asm); (case k2 => k_asm); (case k3 => k_asm); (case k4 => k_is); (case k5 => k_is); (case k6 => k_is); k_whole)
  intro x' d' h' F' N' l1 l2
  (try k_lt l1)
  (try k_lt2 l2)
  (try k_sweep)
  rw [under_creation]
  walk_at "mine enter"
  walk_at "mine tosrc"
  rename IsRange _ _ _ _ _ _ _ _ => hrg
  refine' LCg.CompSrc.range (n := nbuck most) (by rfl) (by k_asm) (by k_asm) hrg ?hs ?hn ?hz ?_
  case hs => exact (nb_small most).1
  case hn => exact (nb_small most).2.1
  case hz => exact (nb_small most).2.2
  intro g1
  refine comp_inv (BInv _) (binv0 _) ?turn ?fin
  case turn =>
    intro i v ys led I oI C oC D m₂ h9 tk9 E9 hi9 hv I9 hC hx F1 N1 off ne K9 hK9
    obtain ⟨bks, bkL, e1, e2, R2, nd2, ob2⟩ := I9
    subst e2
    walk_at "mine steps"
    rename _ < _ ∧ _ < _ ∧ _ < _ ∧ AllLt _ _ => lT
    exact hK9 _ _ (binv_end (by assumption) (by assumption) (turn_lt lT) ⟨[], _, rfl, IntsAre.nil⟩ off e1 R2 nd2 ob2)
  case fin =>
    intro ys led I9
    obtain ⟨bks, bkL, e1, e2, R2, nd2, ob2⟩ := I9
    subst e1 e2
    unfold LCg.FinE
    intro D h9 tk9 F1 N1 o1
    dsimp only
    have N2 := new_reorder N1
    clear N1
    have of2 := new_off o1
    rename _ < _ ∧ _ < _ ∧ AllLt _ _ => lV
    have bk2 := new_bk ob2 (fun p hp => Nat.ne_of_lt (allLt_mem lV.2.2 p hp)) (fun p hp => Nat.ne_of_lt (Nat.lt_trans (l1 p hp) l2)) (fun p hp => Nat.ne_of_lt (l1 p hp)) of2.2
    obtain ⟨⟨q1, q2, q3⟩, q4⟩ := of2
    dsimp only at q1 q2 q3 bk2
    clear q4
    walk_at "mine steps"
    rename News _ _ _ (_ :: _ :: _ :: _ :: _) => N9
    rename _ < _ ∧ _ < _ ∧ _ < _ ∧ _ < _ ∧ AllLt _ _ => lK
    rename _ < _ ∧ _ < _ ∧ _ < _ ∧ _ < _ ∧ _ < _ ∧ AllLt _ _ => lO
    obtain ⟨foot, f1, f2, f3⟩ := new_end N9 (by assumption) (by assumption) (by assumption) (by assumption) R2 nd2 l2 lV q1 q2 q3 lK lO bk2 (fun p hp b hb e => by
      obtain ⟨q, hq, e2⟩ := List.mem_map.mp hb
      exact ob2 q hq p.1 (by simp only [List.map_cons, List.mem_cons]; exact .inr (.inr (.inr (List.mem_map.mpr ⟨p, hp, rfl⟩)))) (by rw [e2, e]))
    exact hret _ foot _ _ ⟨_, rfl, f1⟩ f2 (by assumption) f3
end
section
section
variable {M : Model} {A : Around} {E : Value → Shared → Prop} {s : Shared} {env : Env}
theorem codeS_loop {c : Code} {R : Result → Shared → Prop} (hd : dec c = false) (J : Nat → Shared → Prop)
    (turn : ∀ n s, J n s → wpS M (A.under c) (M.den c) (fun fin s' => match fin with
      | .done f => R (.ok f) s'
      | .again c' => (c' = c ∧ ∃ k, k < n ∧ J k s') ∨ (c'.quiet = true ∧ codeS M A c' R s')) (fun e s' => R (.error e) s') s) (hq : c.quiet = true)
    (n : Nat) (h : J n s) : codeS M A c R s := by
  induction n using Nat.strongRecOn generalizing s with
  | ind n ih =>
    refine codeS_of_tree hd (wpS_mono (turn n s h) (fun fin s' hf => ?_) fun _ _ x => x)
    cases fin with
    | done f => exact hf
    | again c' =>
      rcases hf with ⟨rfl, k, hk, hJ⟩ | hf
      · exact ⟨hq, ih k hk hJ⟩
      · exact hf
theorem wpS_noted {α : Type} {m : Sem α} {Q : α → Shared → Prop} (h : wpS M A m Q (notedBy M A env E) s) : wpS M A (m.onRaise fun x => do noteFrame x env; theTreesLotGoes x) Q E s :=
  wpS_onRaise (wpS_mono h (fun _ _ q => q) fun _ _ hx => wpAny_bind (wpAny_mono hx (fun _ _ e => wpAny_theTreesLotGoes e) fun _ _ e => e))
theorem wpS_runOwn {c : Code} {Q : Flow → Shared → Prop} (hc : codeS M (A.mark none) c (fun r s' => match r with | .ok f => Q f s' | .error e => cameBackBy M A env E e s') s) : wpS M A (runOwn c env none) Q E s := by
  unfold runOwn
  exact wpS_onRaise (wpS_run hc (by intro x; cases x))
end
section
variable {prog : Program} {w : World} {A : Around} {E : Value → Shared → Prop} {s : Shared} {env : Env}
theorem codeS_forLoop {R : Result → Shared → Prop} {target it body} (J : Nat → Shared → Prop)
    (turn : ∀ n s, J n s → wpAny (model prog w) A (pyNext it) (fun r s₁ => match r with
      | none => R (.ok .next) s₁
      | some v => wpAny (model prog w) A (assign target env v) (fun _ s₂ => wpS (model prog w) A (execs body env) (fun f s₃ => f = .next ∧ ∃ m, m < n ∧ J m s₃)
        (notedBy (model prog w) A env fun e s' => R (.error e) s') s₂) (notedBy (model prog w) A env fun e s' => R (.error e) s') s₁) (notedBy (model prog w) A env fun e s' => R (.error e) s') s)
    (n : Nat) (h : J n s) (ht : ∀ v, letOwnedTupleGo target it v = pure () := by intro _; rfl) : codeS (model prog w) A (.forLoop target it body [] env) R s := by
  refine codeS_loop rfl J (fun n s hJ => ?_) rfl n h
  show wpS _ _ ((forTurn target it body [] env).onRaise (fun x => do noteFrame x env; theTreesLotGoes x)) _ _ s
  refine wpS_noted ?_
  simp only [forTurn]
  refine wpS_bindAny (wpAny_standAt (wpS_bindAny (wpAny_onRaise (wpAny_mono (turn n s hJ) (fun r s₁ h₁ => ?_) fun _ _ x => wpAny_standAt x))))
  cases r with
  | none => exact wpS_pure (.inr ⟨rfl, codeS_any (codeAny_block (wpAny_execs_nil h₁))⟩)
  | some v =>
    refine wpS_bindAny (wpAny_of_eq (ht v) ?_)
    refine wpS_bindAny (wpAny_mono h₁ (fun _ s₂ h₂ => wpS_bind (wpS_mono h₂ (fun f s₃ h₃ => ?_) fun _ _ x => x)) fun _ _ x => x)
    obtain ⟨rfl, h₃⟩ := h₃
    exact wpS_pure (.inl ⟨rfl, h₃⟩)
theorem wpS_For {target iter body pos} {Q : Flow → Shared → Prop}
    (h : wpAny (model prog w) A (eval iter env) (fun x s₁ => wpAny (model prog w) A (pyIter x) (fun it s₂ =>
      codeS (model prog w) A (.forLoop target it body [] env) (fun r s' => match r with | .ok f => Q f s' | .error e => cameBackBy (model prog w) A env E e s') s₂) E s₁) E s)
    (hs : ∀ x, foldedSetIterable iter env x = pure x := by intro _; rfl) :
    wpS (model prog w) A (exec (.For target iter body [] pos) env) Q E s := by
  rw [exec_For]
  exact wpS_bindAny (wpAny_standAt (wpS_bindAny (wpAny_mono h (fun x s₁ h₁ => wpS_bindAny (wpAny_of_eq (hs x) (wpS_bindAny (wpAny_standAt (wpS_bindAny (wpAny_holding
    (wpAny_mono h₁ (fun it s₂ h₂ => wpS_runOwn h₂) fun _ _ x => x))))))) fun _ _ x => x)))
end
section
variable {prog : Program} {w : World} {A : Around} {E : Value → Shared → Prop} {s : Shared} {env : Env} {h₀ : Heap} {L : Addr} {m : Str → Option Value} {K : Type} [DecidableEq K] {knd : KeyKind prog w K}
inductive ForEnd (h₀ : Heap) (L : Addr) (s₁ : Shared) (I : Addr) (oI : Obj) (J : (Str → Option Value) → Led → Prop) (f : Flow) (s₂ : Shared) : Prop
  | mk (e1 : f = .next) (h' : _) (tk' : _) (m' : _) (led' : _) (e2 : s₂ = { s₁ with heap := h', toks := tk' }) (e3 : Fr h₀ L h' m') (e4 : News h₀ L h' ((I, oI) :: led')) (e5 : (∀ p ∈ led', p.1 ≠ I)) (e6 : J m' led')
def ForT (prog : Program) (w : World) (A : Around) (h₀ : Heap) (L : Addr) (env : Env) (x : Str) (body : List Stmt) (n : Nat) (P : Nat → Value → Prop) (J : Nat → (Str → Option Value) → Led → Prop) (s : Shared) : Prop :=
  ∀ i v I oI m' led h tk (E' : Value → Shared → Prop), i < n → P i v → J i m' led → Fr h₀ L h (fun y => if y = x then some v else m' y) → News h₀ L h ((I, oI) :: led) → (∀ p ∈ led, p.1 ≠ I) →
    ∀ K9 : Flow → Shared → Prop, Into (ForEnd h₀ L s I oI (J (i + 1))) K9 → wpS (model prog w) A (execs body env) K9 E' { s with heap := h, toks := tk }
inductive LoopS (s : Shared) (h₀ : Heap) (L I : Addr) (n : Nat) (It : Nat → Heap → Prop) (J : Nat → (Str → Option Value) → Led → Prop) : Nat → Shared → Prop
  | mk (i : Nat) (h' : Heap) (tk : Nat) (m' : Str → Option Value) (led : Led) (hi : i ≤ n) (hit : It i h') (F : Fr h₀ L h' m') (N : News h₀ L h' led) (off : ∀ p ∈ led, p.1 ≠ I) (hJ : J i m' led) : LoopS s h₀ L I n It J (n + 1 - i) { s with heap := h', toks := tk }
theorem forS_step {x : Str} {px : Pos} {body : List Stmt} {I : Addr} {oI : Obj} {n i tk : Nat} {It : Nat → Heap → Prop} {J : Nat → (Str → Option Value) → Led → Prop} {P : Nat → Value → Prop} {v : Value} {h₂ : Heap} {m' : Str → Option Value} {led : Led} {E' : Value → Shared → Prop} (hx : env.kindOf x = some .local)
    (hp : (env.scope.kind == .class || (env.scope.kind == .module && env.locals != env.globals)) = false) (hIL : I ≠ env.locals) (hI0 : h₀.get? I = none) (hlt : i < n) (hPv : P i v) (hJ : J i m' led) (F₂ : Fr h₀ env.locals h₂ m') (N₂ : News h₀ env.locals h₂ led) (hI₂ : h₂.get? I = some oI) (off : ∀ p ∈ led, p.1 ≠ I)
    (T : ForT prog w A h₀ env.locals env x body n P J s) (back : ∀ h₄ : Heap, h₄.get? I = some oI → It (i + 1) h₄) :
    wpAny (model prog w) A (assign (.Name x px) env v) (fun _ s₂ => wpS (model prog w) A (execs body env) (fun f s₃ => f = .next ∧ ∃ m, m < n + 1 - i ∧ LoopS s h₀ env.locals I n It J m s₃) E' s₂) E' { s with heap := h₂, toks := tk } := by
  refine wpAny_assign_Name (wpAny_storeName_local hx F₂.ns (fun h₃ hn₃ hs₃ => ?_) hp)
  have hL₀ : h₀.get? env.locals = none := Heap.get?_none_of_le F₂.above
  have F₃ : Fr h₀ env.locals h₃ (fun z => if z = x then some v else m' z) := ⟨hn₃, fun b o e => hs₃.extBut b o (fun q => by rw [q, hL₀] at e; cases e) (F₂.keep b o e), F₂.above⟩
  have N₃ : News h₀ env.locals h₃ ((I, oI) :: led) := List.forall_mem_cons.mpr ⟨⟨hs₃.extBut _ _ hIL hI₂, hIL, hI0⟩, fun p hp => ⟨hs₃.extBut _ _ (N₂ p hp).2.1 (N₂ p hp).1, (N₂ p hp).2⟩⟩
  refine wpS_mono (T i v _ oI m' led h₃ _ _ hlt hPv hJ F₃ N₃ off _ fun _ _ q => q) (fun f s₄ h₄ => ?_) fun _ _ q => q
  obtain ⟨rfl, h₄, tk₄, m₄, led₄, rfl, F₄, N₄, off₄, J₄⟩ := h₄
  exact ⟨rfl, _, omN13 hlt, LoopS.mk (i + 1) h₄ tk₄ m₄ led₄ hlt (back _ (N₄ _ (.head _)).1) F₄ (fun p hp => N₄ p (.tail _ hp)) off₄ J₄⟩
theorem forS_dict {x : Str} {px : Pos} {body : List Stmt} {d : Addr} {od : Obj} {kvs : List (K × Value)} {news : Led} {R : Result → Shared → Prop} (J : Nat → (Str → Option Value) → Led → Prop)
    (hh : A.handled = none) (F : Fr h₀ env.locals s.heap m) (N : News h₀ env.locals s.heap news) (hd : od.IsDictOf knd kvs) (hm : (d, od) ∈ news) (lo : (d == sysModules) = false) (hx : env.kindOf x = some .local)
    (hp : (env.scope.kind == .class || (env.scope.kind == .module && env.locals != env.globals)) = false)
    (hJ : ∀ i m' led, J i m' led → (d, od) ∈ led) (h0 : J 0 m news)
    (T : ForT prog w A h₀ env.locals env x body kvs.length (fun i v => ∃ k x, kvs[i]? = some (k, x) ∧ knd.is k v = true) J s)
    (fin : ∀ h tk m' led, J kvs.length m' led → Fr h₀ env.locals h m' → News h₀ env.locals h led → R (.ok .next) { s with heap := h, toks := tk }) :
    wpAny (model prog w) A (pyIter (.ref d)) (fun it s₂ => codeS (model prog w) A (.forLoop (.Name x px) it body [] env) R s₂) E s := by
  obtain ⟨es, ep, hc, hdat, hk, hpr, hn⟩ := id hd
  have hDA : ∀ {h : Heap}, h.get? d = some od → h.DictAt knd d kvs ep := fun e => ⟨od, es, e, hc, hdat, hk, hpr, hn⟩
  have hm₁ := hDA (N _ hm).1
  have hlt : d < s.heap.objs.size := hm₁.lt_size
  have up : ∀ b o, s.heap.get? b = some o → (s.heap.push { cls := .type "dict_keyiterator", data := .fields #[.ref d, .int 0 0, .int kvs.length 0, .int ep 0] }).get? b = some o := fun b o e => Heap.get?_push_of_some _ e
  refine wpAny_pyIter_dict lo hm₁ ?_
  have hIL : s.heap.objs.size ≠ env.locals := Ne.symm (Nat.ne_of_lt F.ns.lt)
  have hI0 : h₀.get? s.heap.objs.size = none := next_is_new F
  have W := Walks.dictKeys (prog := prog) (w := w) (A := A) (knd := knd) hh s.heap.objs.size d (Nat.ne_of_lt hlt) kvs ep
  refine codeS_forLoop (LoopS s h₀ env.locals s.heap.objs.size kvs.length (fun i h => h.IsKeyIter s.heap.objs.size d i kvs.length ep) J) ?_ (kvs.length + 1)
    (LoopS.mk 0 _ s.toks m news (Nat.zero_le _) ⟨_, Heap.get?_push_size _ rfl, rfl, rfl⟩ (F.keeps up) (N.grown up) (fun p hp => Nat.ne_of_lt (Heap.lt_size (N p hp).1)) h0)
  rintro k s' ⟨i, h', tk, m', led, hi, hit, F', N', off', hJi⟩
  by_cases hlt : i < kvs.length
  · refine W.item i _ _ _ hlt ⟨hit, hDA (N' _ (hJ _ _ _ hJi)).1⟩ fun v h₂ tk₂ hPv hst₂ hk₂ => ?_
    obtain ⟨oI, hI₂, rI⟩ := hst₂.1
    exact forS_step hx hp hIL hI0 hlt hPv hJi (LCg.fr_but F' hk₂ (Ne.symm hIL) hI0) (LCg.news_but N' hk₂ off') hI₂ off' T fun h₄ q => ⟨oI, q, rI⟩
  · obtain rfl : i = kvs.length := Nat.le_antisymm hi (Nat.not_lt.mp hlt)
    refine W.done _ _ _ ⟨hit, hDA (N' _ (hJ _ _ _ hJi)).1⟩ fun h₂ tk₂ hk₂ => ?_
    exact fin h₂ tk₂ m' led hJi (LCg.fr_but F' hk₂ (Ne.symm hIL) hI0) (LCg.news_but N' hk₂ off')
end
end
section
section
variable {w : World} {mean : ExcName → Option Value} {mg mb : Str → Option Value} {dp un : Nat} {gd : Option (List Code)} {cn : Str} {cs : Scope} {a : Addr} {ccd : Value} {cl : List (Str × Addr)} {outer : List Env} {A₀ : Around} {base h₀ : Heap} {L : Addr} {m : Str → Option Value} {s : Shared} {Q E : Value → Shared → Prop}
theorem new_use {number kw vw most : Int} {tk t1 t2 t3 t4 : Tok} {led : Led} (h1 : 0 ≤ number) (h2 : number < 64) (h3 : 1 ≤ kw) (h4 : kw ≤ 2) (h5 : 1 ≤ vw) (h6 : vw ≤ 9) (h7 : 1 ≤ most) (h8 : most ≤ 4) (B : Below A₀ base outer h₀) (F : Fr h₀ L s.heap m) (X : (Mine.hd.heap_1 w.params).In h₀) (N : News h₀ L s.heap led)
    (T : Top Mine.hd.view_39 (looseW Mine.hd.view_39 [Str.ofString "GateError", Str.ofString "HashMap"]) mean mg mb h₀) (hk : cs.kind = .function) (hd : dp + 9 < recursionLimit) (hu : un + 200 < cLine)
    (hret : ∀ M2 l2 h' tk', TabIs w M2 { number := number, kw := kw, vw := vw, most := most, ks := [], ord := [], vals := [] } l2 → OwnOff led (l2.map (·.1)) → Fr h₀ L h' m → News h₀ L h' (l2 ++ led) → Q (.ref M2) { s with heap := h', toks := tk' }) :
    wpAny (model PySem.Challenge.rw_qz0154_01.row.prog w) (ktrTop dp un gd cn cs L a ccd cl outer) (call (.ref 502) [.str (Str.ofString "lru") tk, .int number t1, .int kw t2, .int vw t3, .int most t4]) Q E s :=
  new_sp w number kw vw most tk t1 t2 t3 t4 h1 h2 h3 h4 h5 h6 h7 h8 mean mg mb dp un gd cn cs a ccd cl outer A₀ base h₀ L m s Q E led B F X N (fun _ _ _ hb => nomatch hb) T hk hd hu fun v l h' tk' q O F' N' => by
    obtain ⟨M2, rfl, q⟩ := q
    exact hret M2 l h' tk' q O F' N'
end
theorem kw_49 : True := by
  (k_with "M call ref" => (k_here; (with_reducible show wpAny _ _ (call (Value.ref 502) _ _) _ _ _); k_dflt (refine' new_use ?q_b1 ?q_b2 ?q_b3 ?q_b4 ?q_b5 ?q_b6 ?q_b7 ?q_b8 ?B ?F ?X ?N ?T ?hk ?hd ?hu ?_; (case q_b1 => assumption); (case q_b2 => assumption); (case q_b3 => assumption); (case q_b4 => assumption); (case q_b5 => assumption); (case q_b6 => assumption); (case q_b7 => assumption); (case q_b8 => assumption); (case B => k_asm); (case F => k_asm); (case X => k_asm); (case N => k_asm); (case T => k_asm); (case hk => first | exact rfl | assumption); (case hd => ktr_room); (case hu => ktr_units)); intro _ _ _ _ _ _ _ _; walk_at "mine df"))
  trivial
theorem twin_sp (w : World) (M : Addr) (σ : Tb) (led : Led) (hT : TabIs w M σ led) (h1 : 0 ≤ σ.number) (h2 : σ.number < 64) (h3 : 1 ≤ σ.kw) (h4 : σ.kw ≤ 2) (h5 : 1 ≤ σ.vw) (h6 : σ.vw ≤ 9) (h7 : 1 ≤ σ.most) (h8 : σ.most ≤ 4) :
    Sp w 12 220 492 [.ref M] led (fun v led' => ∃ M2 l2, v = .ref M2 ∧ led' = l2 ++ led ∧ TabIs w M2 { number := σ.number, kw := σ.kw, vw := σ.vw, most := σ.most, ks := [], ord := [], vals := [] } l2 ∧ OwnOff led (l2.map (·.1))) := by
  obtain ⟨Md, V, Bk, K, O, hh, tt, n, hM, hMd, VA, KA, OA⟩ := TabIs.inst hT
  walk_at "mine sp"
  intro mean mg mb dp un gd outer A₀ base h₀ L hpS gS dS kS oS Q E rest B F X N OR T hd hu hnx hret hpo
  walk_at "mine steps"
  rename TabIs _ _ _ _ => T9
  rename OwnOff _ (List.map _ _) => O9
  rename News _ _ _ (_ ++ (led ++ rest)) => N9
  refine hret _ (_ ++ led) _ _ ⟨_, _, rfl, rfl, T9, fun p hp => O9 p (List.mem_append_left _ hp)⟩ (fun p hp b hb => by rw [List.map_append] at hb; exact (List.mem_append.mp hb).elim (fun h => O9 p (List.mem_append_right _ hp) b h) (fun h => OR p hp b h)) (by assumption) (by rw [List.append_assoc]; exact N9)
end
section
theorem vrel_pos (vkvs : List (Int × Value)) : ∀ (k : Int) (vals : List By) (l : Led), VRel vkvs k vals l → ∀ (i : Nat) (p : Int × Value), vkvs[i]? = some p → ∃ a b, vals[i]? = some b ∧ p = (k + i, Value.ref a) ∧ valueAt vkvs (k + i) = some (.ref a) ∧ (a, baObj b) ∈ l := by
  induction vkvs with
  | nil => intro k vals l h i p e; simp at e
  | cons p r ih =>
    obtain ⟨j, u⟩ := p
    intro k vals l h i p e
    cases vals with
    | nil => cases l <;> exact h.elim
    | cons q r2 =>
      cases l with
      | nil => exact h.elim
      | cons x l =>
        obtain ⟨a, o⟩ := x
        obtain ⟨g1, g2, g3, g4⟩ := h
        subst g1 g2 g3
        cases i with
        | zero =>
          simp only [List.getElem?_cons_zero, Option.some.injEq] at e
          subst e
          exact ⟨a, q, rfl, by simp, by simp [valueAt], .head _⟩
        | succ i =>
          obtain ⟨a', b', a1, a2, a3, a4⟩ := ih (j + 1) r2 l g4 i p (by simpa using e)
          have hne : ¬ j = j + (i + 1 : Nat) := by omega
          refine ⟨a', b', by simpa using a1, ?_, ?_, .tail _ a4⟩
          · rw [a2]; congr 1; omega
          · unfold valueAt at a3 ⊢
            simp only [List.find?_cons, hne, decide_false]
            rw [show j + ((i + 1 : Nat) : Int) = j + 1 + (i : Int) by omega]
            exact a3
inductive TVals (w : World) (σ : Tb) (led : Led) (V : Addr) : Prop
  | mk (oV : Obj) (vkvs : List (Int × Value)) (h1 : (V, oV) ∈ led) (h2 : oV.IsDictOf (intKind PySem.Challenge.rw_qz0154_01.row.prog w) vkvs) (h3 : (V == sysModules) = false) (h4 : vkvs.length = σ.vals.length)
    (h5 : ∀ (i : Nat) p, vkvs[i]? = some p → ∃ a b, σ.vals[i]? = some b ∧ p = ((i : Int), .ref a) ∧ valueAt vkvs (i : Int) = some (.ref a) ∧ (a, baObj b) ∈ led)
inductive TInst2 (w : World) (M : Addr) (σ : Tb) (led : Led) : Prop
  | mk (Md V B K O : Addr) (hh : Nat → Int) (tt : Nat → Tok) (n : Nat) (h1 : (M, instObj 502 Md) ∈ led) (h2 : (Md, dictOf (mdOf hh tt σ V B K O) n) ∈ led) (h3 : TVals w σ led V) (h4 : KeysAt w led K σ.ks) (h5 : OrdAt led O σ.ord) (h6 : TBuck σ led B)
theorem TabIs.inst2 {w : World} {M : Addr} {σ : Tb} {led : Led} (h : TabIs w M σ led) : TInst2 w M σ led := by
  cases h with
  | mk hO hK rK hV rV rB iB nb et ndT off d1 d2 d3 d4 d5 d6 d7 d8 d9 d10 d11 d12 d13 d14 d15 lK lV =>
    subst et
    refine ⟨_, _, _, _, _, _, _, _, .head _, .tail _ (.head _), ⟨_, _, .tail _ (.tail _ (.head _)), hV, lV, vrel_length _ _ _ _ rV, fun i p hp => ?_⟩, ⟨_, _, .tail _ (.tail _ (.tail _ (.tail _ (.head _)))), hK, lK, rK⟩, ⟨_, _, .tail _ (.tail _ (.tail _ (.tail _ (.tail _ (.head _))))), hO⟩,
      ⟨_, _, _, _, .tail _ (.tail _ (.tail _ (.head _))), rB, fun p hp => .tail _ (.tail _ (.tail _ (.tail _ (.tail _ (.tail _ (List.mem_append_right _ hp)))))), iB, nb⟩⟩
    obtain ⟨a, b, e1, e2, e3, e4⟩ := vrel_pos _ _ _ _ rV i p hp
    refine ⟨a, b, e1, by simpa using e2, by simpa using e3, ?_⟩
    exact .tail _ (.tail _ (.tail _ (.tail _ (.tail _ (.tail _ (List.mem_append_left _ e4))))))
inductive TOpn (w : World) (M : Addr) (σ : Tb) (led : Led) : Prop
  | mk (Md V B K O : Addr) (hh : Nat → Int) (tt : Nat → Tok) (n nB nO : Nat) (oV oK : Obj) (vO : List Value) (vkvs kkvs : List (Int × Value)) (bks : List Addr) (bls : List (List Int)) (tl baL bkL : Led)
    (e : led = ((M, instObj 502 Md) :: (Md, dictOf (mdOf hh tt σ V B K O) n) :: (V, oV) :: (B, W.listOf (bks.map Value.ref).toArray nB) :: (K, oK) :: (O, W.listOf vO.toArray nO) :: tl))
    (h1 : IntsAre vO σ.ord) (h2 : oK.IsDictOf (intKind PySem.Challenge.rw_qz0154_01.row.prog w) kkvs) (h3 : KRel kkvs σ.ks) (h4 : oV.IsDictOf (intKind PySem.Challenge.rw_qz0154_01.row.prog w) vkvs) (h5 : VRel vkvs 0 σ.vals baL) (h6 : BRel bks bls bkL) (h7 : BkInv bls σ.ks)
    (h8 : bls.length = nbuck σ.most) (h9 : tl = baL ++ bkL) (h10 : (tl.map (·.1)).Nodup) (h11 : OwnOff tl [M, Md, V, B, K, O])
    (d1 : Df M Md) (d2 : Df M V) (d3 : Df M B) (d4 : Df M K) (d5 : Df M O) (d6 : Df Md V) (d7 : Df Md B) (d8 : Df Md K) (d9 : Df Md O) (d10 : Df V B) (d11 : Df V K) (d12 : Df V O) (d13 : Df B K) (d14 : Df B O) (d15 : Df K O) (l1 : (K == sysModules) = false) (l2 : (V == sysModules) = false)
theorem TabIs.opn {w : World} {M : Addr} {σ : Tb} {led : Led} (h : TabIs w M σ led) : TOpn w M σ led := by
  cases h with
  | mk hO hK rK hV rV rB iB nb et ndT off d1 d2 d3 d4 d5 d6 d7 d8 d9 d10 d11 d12 d13 d14 d15 lK lV =>
    exact ⟨_, _, _, _, _, _, _, _, _, _, _, _, _, _, _, _, _, _, _, _, rfl, hO, hK, rK, hV, rV, rB, iB, nb, et, ndT, off, d1, d2, d3, d4, d5, d6, d7, d8, d9, d10, d11, d12, d13, d14, d15, lK, lV⟩
theorem own_app2 {r a b : Led} (h : OwnOff r ((a ++ b).map (·.1))) (k : OwnOff b (a.map (·.1))) : OwnOff (b ++ r) (a.map (·.1)) := fun p hp => (List.mem_append.mp hp).elim (k p) (fun q x hx => h p q x (by rw [List.map_append]; exact List.mem_append_left _ hx))
section
variable {σ : Tb} {hh : Nat → Int} {tt : Nat → Tok} {V B K O X : Addr} {n : Nat} {h : Int} {t : Tok}
theorem put_values : (putL (Str.ofString "values") h (.str (Str.ofString "values") t) (.ref X) (mdOf hh tt σ V B K O), putN (Str.ofString "values") (mdOf hh tt σ V B K O) n) = (mdOf hh tt σ X B K O, n) := by rfl
theorem put_buckets : (putL (Str.ofString "buckets") h (.str (Str.ofString "buckets") t) (.ref X) (mdOf hh tt σ V B K O), putN (Str.ofString "buckets") (mdOf hh tt σ V B K O) n) = (mdOf hh tt σ V X K O, n) := by rfl
theorem put_order : (putL (Str.ofString "order") h (.str (Str.ofString "order") t) (.ref X) (mdOf hh tt σ V B K O), putN (Str.ofString "order") (mdOf hh tt σ V B K O) n) = (mdOf hh tt σ V B K X, n) := by rfl
end
theorem kw_50 : True := by
  (k_with "M setAttr ref" => (k_here; k_dflt (refine' set_dict ?q_k1 ?q_k2 ?q_k3 ?q_k4 ?q_k5 ?q_k6 ?q_k7 ?q_k8 ?q_k9 ?q_k10 ?q_k11 ?q_k12 ?q_k13 ?_; (case q_k1 => k_asm); (case q_k2 => k_asm); (case q_k3 => k_asm); (case q_k4 => k_inst); (case q_k5 => exact rfl); (case q_k6 => k_is); (case q_k7 => k_is); (case q_k8 => k_is); (case q_k9 => k_is); (case q_k10 => k_get); (case q_k11 => first | exact put_values | exact put_buckets | exact put_order); (case q_k12 => k_upd); (case q_k13 => exact Nat.le_of_ble_eq_true rfl)); intro _ _ _))
  trivial
theorem mc_close {w : World} {M9 Md9 V3 V9 B9 K9 O9 : Addr} {σ' : Tb} {o3 oV9 oK9 : Obj} {hh9 : Nat → Int} {tt9 : Nat → Tok} {n9 nB9 nO9 : Nat} {vO9 : List Value} {kkvs9 vkvs9 : List (Int × Value)} {bks9 : List Addr} {bls9 : List (List Int)} {tl9 baL9 bkL9 rest' : Led} {h₀ h : Heap} {L : Addr} (hv0 : σ'.vals = [])
    (N : News h₀ L h ((V3, o3) :: (M9, instObj 502 Md9) :: (Md9, dictOf (mdOf hh9 tt9 σ' V3 B9 K9 O9) n9) :: (V9, oV9) :: (B9, W.listOf (bks9.map Value.ref).toArray nB9) :: (K9, oK9) :: (O9, W.listOf vO9.toArray nO9) :: (tl9 ++ rest')))
    (l1 : M9 < V3 ∧ Md9 < V3 ∧ V9 < V3 ∧ B9 < V3 ∧ K9 < V3 ∧ O9 < V3 ∧ AllLt V3 (tl9 ++ rest')) (hi3 : o3.IsDictOf (intKind PySem.Challenge.rw_qz0154_01.row.prog w) []) (lo3 : (V3 == sysModules) = false)
    (hO : IntsAre vO9 σ'.ord) (hK : oK9.IsDictOf (intKind PySem.Challenge.rw_qz0154_01.row.prog w) kkvs9) (rK : KRel kkvs9 σ'.ks) (rV : VRel vkvs9 0 σ'.vals baL9) (rB : BRel bks9 bls9 bkL9) (iB : BkInv bls9 σ'.ks) (nb : bls9.length = nbuck σ'.most) (et : tl9 = baL9 ++ bkL9) (ndT : (tl9.map (·.1)).Nodup)
    (off : OwnOff tl9 [M9, Md9, V9, B9, K9, O9]) (d1 : Df M9 Md9) (d3 : Df M9 B9) (d4 : Df M9 K9) (d5 : Df M9 O9) (d7 : Df Md9 B9) (d8 : Df Md9 K9) (d9 : Df Md9 O9) (d13 : Df B9 K9) (d14 : Df B9 O9) (d15 : Df K9 O9) (lK : (K9 == sysModules) = false)
    (OR : OwnOff rest' (((M9, instObj 502 Md9) :: (Md9, dictOf (mdOf hh9 tt9 σ' V9 B9 K9 O9) n9) :: (V9, oV9) :: (B9, W.listOf (bks9.map Value.ref).toArray nB9) :: (K9, oK9) :: (O9, W.listOf vO9.toArray nO9) :: tl9).map (·.1))) :
    ∃ l2, TabIs w M9 σ' l2 ∧ OwnOff rest' (l2.map (·.1)) ∧ News h₀ L h (l2 ++ rest') := by
  have hba : baL9 = [] := by
    rw [hv0] at rV
    cases vkvs9 with
    | nil => cases baL9 with
      | nil => rfl
      | cons p r => exact rV.elim
    | cons p r => exact rV.elim
  subst hba
  have lt3 : ∀ p ∈ tl9 ++ rest', p.1 ≠ V3 := fun p hp => Nat.ne_of_lt (allLt_mem l1.2.2.2.2.2.2 p hp)
  refine ⟨_, TabIs.mk (vkvs := []) (baL := []) (bkL := bkL9) (V := V3) (n := n9) (nB := nB9) (nO := nO9) (hh := hh9) (tt := tt9) hO hK rK hi3 (by rw [hv0]; trivial) rB iB nb et ndT ?_ d1 (Nat.ne_of_lt l1.1) d3 d4 d5 (Nat.ne_of_lt l1.2.1) d7 d8 d9 (Nat.ne_of_gt l1.2.2.2.1) (Nat.ne_of_gt l1.2.2.2.2.1) (Nat.ne_of_gt l1.2.2.2.2.2.1) d13 d14 d15 lK lo3, ?_, ?_⟩
  · exact own_cons (own_at off (.head _)) (own_cons (own_at off (.tail _ (.head _))) (own_cons (fun p hp => lt3 p (List.mem_append_left _ hp)) (own_cons (own_at off (.tail _ (.tail _ (.tail _ (.head _))))) (own_cons (own_at off (.tail _ (.tail _ (.tail _ (.tail _ (.head _)))))) (own_cons (own_at off (.tail _ (.tail _ (.tail _ (.tail _ (.tail _ (.head _))))))) (own_nil))))))
  · exact own_cons (own_at OR (.head _)) (own_cons (own_at OR (.tail _ (.head _))) (own_cons (fun p hp => lt3 p (List.mem_append_right _ hp)) (own_cons (own_at OR (.tail _ (.tail _ (.tail _ (.head _))))) (own_cons (own_at OR (.tail _ (.tail _ (.tail _ (.tail _ (.head _)))))) (own_cons (own_at OR (.tail _ (.tail _ (.tail _ (.tail _ (.tail _ (.head _))))))) (own_sub OR fun x hx => (.tail _ (.tail _ (.tail _ (.tail _ (.tail _ (.tail _ hx))))))))))))
  · exact news_sub N (by (try simp only [List.cons_append, List.append_assoc]); walk_at "mine sub")
theorem tab_addval {w : World} {M Md V Bk K O x : Addr} {σ : Tb} {oV' oV oK : Obj} {hh : Nat → Int} {tt : Nat → Tok} {n nB nO : Nat} {vO : List Value} {kkvs vkvs : List (Int × Value)} {bks : List Addr} {bls : List (List Int)} {tl baL bkL rest' : Led} {k : Int} {b : By} (hk : k = (σ.vals.length : Int))
    (hV' : oV'.IsDictOf (intKind PySem.Challenge.rw_qz0154_01.row.prog w) (PySem.stored vkvs k (.ref x)))
    (hO : IntsAre vO σ.ord) (hK : oK.IsDictOf (intKind PySem.Challenge.rw_qz0154_01.row.prog w) kkvs) (rK : KRel kkvs σ.ks) (rV : VRel vkvs 0 σ.vals baL) (rB : BRel bks bls bkL) (iB : BkInv bls σ.ks) (nb : bls.length = nbuck σ.most) (et : tl = baL ++ bkL) (ndT : (tl.map (·.1)).Nodup) (off : OwnOff tl [M, Md, V, Bk, K, O])
    (d1 : Df M Md) (d2 : Df M V) (d3 : Df M Bk) (d4 : Df M K) (d5 : Df M O) (d6 : Df Md V) (d7 : Df Md Bk) (d8 : Df Md K) (d9 : Df Md O) (d10 : Df V Bk) (d11 : Df V K) (d12 : Df V O) (d13 : Df Bk K) (d14 : Df Bk O) (d15 : Df K O) (lK : (K == sysModules) = false) (lV : (V == sysModules) = false)
    (hx : M < x ∧ Md < x ∧ V < x ∧ Bk < x ∧ K < x ∧ O < x ∧ AllLt x (tl ++ rest'))
    (OR : OwnOff rest' (((M, instObj 502 Md) :: (Md, dictOf (mdOf hh tt σ V Bk K O) n) :: (V, oV) :: (Bk, W.listOf (bks.map Value.ref).toArray nB) :: (K, oK) :: (O, W.listOf vO.toArray nO) :: tl).map (·.1))) :
    ∃ l2, TabIs w M { σ with vals := σ.vals ++ [b] } l2 ∧ OwnOff rest' (l2.map (·.1)) ∧ ∀ p ∈ l2, p ∈ ((x, baObj b) :: (M, instObj 502 Md) :: (Md, dictOf (mdOf hh tt σ V Bk K O) n) :: (V, oV') :: (Bk, W.listOf (bks.map Value.ref).toArray nB) :: (K, oK) :: (O, W.listOf vO.toArray nO) :: tl : Led) := by
  subst et
  have hnone0 := vrel_none _ _ _ _ rV k (by omega)
  have hst : ∀ v, PySem.stored vkvs k v = vkvs ++ [(k, v)] := fun v => by unfold PySem.stored; rw [if_neg]; rw [hnone0.2]; simp
  have hxx : ∀ p ∈ (baL ++ bkL) ++ rest', p.1 ≠ x := fun p hp => Nat.ne_of_lt (allLt_mem hx.2.2.2.2.2.2 p hp)
  have this := vrel_snoc _ _ _ _ rV x b
  rw [show (0 : Int) + (σ.vals.length : Int) = k by omega, ← hst] at this
  refine ⟨((M, instObj 502 Md) :: (Md, dictOf (mdOf hh tt { σ with vals := σ.vals ++ [b] } V Bk K O) n) :: (V, oV') :: (Bk, W.listOf (bks.map Value.ref).toArray nB) :: (K, oK) :: (O, W.listOf vO.toArray nO) :: ((baL ++ [(x, baObj b)]) ++ bkL)), TabIs.mk hO hK rK hV' this rB iB nb rfl ?_ ?_ d1 d2 d3 d4 d5 d6 d7 d8 d9 d10 d11 d12 d13 d14 d15 lK lV, ?_, ?_⟩
  · have e : ((baL ++ [(x, baObj b)] ++ bkL).map (·.1)).Perm (x :: (baL ++ bkL).map (·.1)) := by
      simp only [List.map_append, List.map_cons, List.map_nil, List.append_assoc, List.singleton_append]
      exact List.perm_middle
    refine e.nodup_iff.mpr (List.nodup_cons.mpr ⟨fun hm => ?_, ndT⟩)
    obtain ⟨p, hp, e⟩ := List.mem_map.mp hm
    exact hxx p (List.mem_append_left _ hp) e
  · intro p hp c hc
    rcases List.mem_append.mp hp with hp | hp
    · rcases List.mem_append.mp hp with hp | hp
      · exact off p (List.mem_append_left _ hp) c hc
      · have : p = (x, baObj b) := by simpa using hp
        subst this
        exact ((List.forall_mem_cons.mpr ⟨Ne.symm (Nat.ne_of_lt hx.1), List.forall_mem_cons.mpr ⟨Ne.symm (Nat.ne_of_lt hx.2.1), List.forall_mem_cons.mpr ⟨Ne.symm (Nat.ne_of_lt hx.2.2.1), List.forall_mem_cons.mpr ⟨Ne.symm (Nat.ne_of_lt hx.2.2.2.1), List.forall_mem_cons.mpr ⟨Ne.symm (Nat.ne_of_lt hx.2.2.2.2.1), List.forall_mem_cons.mpr ⟨Ne.symm (Nat.ne_of_lt hx.2.2.2.2.2.1), fun _ h => nomatch h⟩⟩⟩⟩⟩⟩) : ∀ c ∈ [M, Md, V, Bk, K, O], x ≠ c) c hc
    · exact off p (List.mem_append_right _ hp) c hc
  · exact own_cons (own_at OR (.head _)) (own_cons (own_at OR (.tail _ (.head _))) (own_cons (own_at OR (.tail _ (.tail _ (.head _)))) (own_cons (own_at OR (.tail _ (.tail _ (.tail _ (.head _))))) (own_cons (own_at OR (.tail _ (.tail _ (.tail _ (.tail _ (.head _)))))) (own_cons (own_at OR (.tail _ (.tail _ (.tail _ (.tail _ (.tail _ (.head _))))))) (own_sub (own_cons (D := x) (fun p hp => hxx p (List.mem_append_right _ hp)) (own_sub OR fun y hy => (.tail _ (.tail _ (.tail _ (.tail _ (.tail _ (.tail _ hy)))))))) fun y hy => by
      simp only [List.map_append, List.mem_append, List.map_cons, List.map_nil, List.mem_cons, List.not_mem_nil, or_false] at hy ⊢
      rcases hy with (h | h) | h <;> simp [h]))))))
  · (try simp only [List.cons_append, List.append_assoc, List.nil_append]); walk_at "mine sub"
theorem fr_slot {h₀ h : Heap} {L : Addr} {m' : Str → Option Value} {v x y : Value} (F : Fr h₀ L h (fun z => if z = Str.ofString "slot" then some v else m' z)) (ms : m' (Str.ofString "self") = some x) (mo : m' (Str.ofString "other") = some y) :
    Fr h₀ L h (fun z => if z = Str.ofString "slot" then some v else if z = Str.ofString "other" then some y else if z = Str.ofString "self" then some x else m' z) := by
  have e : (fun z => if z = Str.ofString "slot" then some v else m' z) = (fun z => if z = Str.ofString "slot" then some v else if z = Str.ofString "other" then some y else if z = Str.ofString "self" then some x else m' z) := by
    funext z
    by_cases h1 : z = Str.ofString "slot"
    · rw [if_pos h1, if_pos h1]
    · rw [if_neg h1, if_neg h1]
      by_cases h2 : z = Str.ofString "other"
      · rw [if_pos h2, h2, mo]
      · rw [if_neg h2]
        by_cases h3 : z = Str.ofString "self"
        · rw [if_pos h3, h3, ms]
        · rw [if_neg h3]
  rw [← e]; exact F
theorem fr_so {h₀ h : Heap} {L : Addr} {m' : Str → Option Value} {x y : Value} (F : Fr h₀ L h m') (ms : m' (Str.ofString "self") = some x) (mo : m' (Str.ofString "other") = some y) :
    Fr h₀ L h (fun z => if z = Str.ofString "other" then some y else if z = Str.ofString "self" then some x else m' z) := by
  have e : m' = (fun z => if z = Str.ofString "other" then some y else if z = Str.ofString "self" then some x else m' z) := by
    funext z
    by_cases h2 : z = Str.ofString "other"
    · rw [if_pos h2, h2, mo]
    · rw [if_neg h2]
      by_cases h3 : z = Str.ofString "self"
      · rw [if_pos h3, h3, ms]
      · rw [if_neg h3]
  rw [← e]; exact F
theorem sub_appR {l a R : Led} (h : ∀ p ∈ l, p ∈ a) : ∀ p ∈ l ++ R, p ∈ a ++ R := fun p hp => (List.mem_append.mp hp).elim (fun q => List.mem_append_left _ (h p q)) (List.mem_append_right _)
theorem sub_ins {l l' : Led} {a b : Addr × Obj} (h : ∀ p ∈ l', p ∈ a :: l) : ∀ p ∈ b :: l', p ∈ a :: b :: l := List.forall_mem_cons.mpr ⟨.tail _ (.head _), fun p hp => (List.mem_cons.mp (h p hp)).elim (fun e => e ▸ .head _) fun q => .tail _ (.tail _ q)⟩
theorem off_ins {x I : Addr} {o : Obj} {l l' : Led} (h : ∀ p ∈ l', p ∈ (x, o) :: l) (hx : x ≠ I) (hl : ∀ p ∈ l, p.1 ≠ I) : ∀ p ∈ l', p.1 ≠ I := fun p hp => (List.mem_cons.mp (h p hp)).elim (fun e => e ▸ hx) (hl p)
theorem off_upd3 {I v : Addr} {a b : Addr × Obj} {o o' : Obj} {r : Led} (h : ∀ p ∈ a :: b :: (v, o) :: r, p.1 ≠ I) : ∀ p ∈ a :: b :: (v, o') :: r, p.1 ≠ I :=
  List.forall_mem_cons.mpr ⟨h _ (.head _), List.forall_mem_cons.mpr ⟨h _ (.tail _ (.head _)), List.forall_mem_cons.mpr ⟨h (v, o) (.tail _ (.tail _ (.head _))), fun q hq => h q (.tail _ (.tail _ (.tail _ hq)))⟩⟩⟩
theorem mapcopy_sp (w : World) (M : Addr) (σ : Tb) (led : Led) (hT : TabIs w M σ led) (h1 : 0 ≤ σ.number) (h2 : σ.number < 64) (h3 : 1 ≤ σ.kw) (h4 : σ.kw ≤ 2) (h5 : 1 ≤ σ.vw) (h6 : σ.vw ≤ 9) (h7 : 1 ≤ σ.most) (h8 : σ.most ≤ 4) (hz : σ.vals.length ≤ 100) (hzv : ∀ b ∈ σ.vals, b.size ≤ 1000) :
    SpS w 14 260 259 [.ref M] led (fun v led' => ∃ M2 l2, v = .ref M2 ∧ led' = l2 ++ led ∧ TabIs w M2 { σ with ks := [], ord := [] } l2 ∧ OwnOff led (l2.map (·.1))) := by
  k_with "call ref" => (k_here; (with_reducible show wpAny _ _ (call (Value.ref 492) _ _) _ _ _); k_dflt (refine' sp_copy (twin_sp _ _ _ _ ?hT ?z1 ?z2 ?z3 ?z4 ?z5 ?z6 ?z7 ?z8) ?B ?F ?X ?N ?O ?T ?hk ?hd ?hu ?_; (case hT => k_asm); (case z1 => assumption); (case z2 => assumption); (case z3 => assumption); (case z4 => assumption); (case z5 => assumption); (case z6 => assumption); (case z7 => assumption); (case z8 => assumption); walk_at "mine call"); intro M9 l9 h9 tk9 T9 O8 O9 F9 N9; (try dsimp only); (try k_fold))
  obtain ⟨Md, V, Bk, K, O, hh, tt, n, hM, hMd, VA, KA, OA, BA⟩ := TabIs.inst2 hT
  walk_at "mine sps"
  intro mean mg mb dp un gd outer A₀ base h₀ L hpS gS dS kS oS Q E rest B F X N OR T hd hu hnx hret hpo
  refine wpS_execs_any ?_
  walk_at "mine steps"
  (try dsimp only)
  have OR9 := O9
  rename News _ _ _ (l9 ++ (led ++ rest)) => N9
  obtain ⟨Md9, V9, Bk9, K9, Or9, hh9, tt9, n9, nB9, nO9, oV9, oK9, vO9, vkvs9, kkvs9, bks9, bls9, tl9, baL9, bkL9, e9, hO9, hK9, rK9, hV9, rV9, rB9, iB9, nb9, et9, ndT9, off9, d19, d29, d39, d49, d59, d69, d79, d89, d99, d109, d119, d129, d139, d149, d159, lK9, lV9⟩ := T9.opn
  have O9' := own_app2 OR9 O8
  subst e9
  have off29 := own_app off9 (own_sub O9' own6)
  dsimp only [List.cons_append] at N9
  refine wpS_execs_any ?_
  walk_at "mine steps"
  (try dsimp only)
  rename News _ _ _ (_ :: (M9, _) :: _) => N8
  rename _ < _ ∧ _ < _ ∧ _ < _ ∧ _ < _ ∧ _ < _ ∧ _ < _ ∧ AllLt _ _ => l8
  obtain ⟨l2, T2, O2, N2⟩ := mc_close rfl N8 l8 (by assumption) (by assumption) hO9 hK9 rK9 rV9 rB9 iB9 nb9 et9 ndT9 off9 d19 d39 d49 d59 d79 d89 d99 d139 d149 d159 lK9 O9'
  obtain ⟨oV, vkvs, mV, hV, loV, lenV, hVi⟩ := VA
  have VA0 : ValsAt w led V σ.vals := ⟨oV, vkvs, mV, hV, loV, fun j v hj => by
    have hlt : j < σ.vals.length := by
      by_cases q : j < σ.vals.length
      · exact q
      · rw [List.getElem?_eq_none (by omega)] at hj; cases hj
    obtain ⟨a, b, e1, e2, e3, e4⟩ := hVi j (vkvs[j]'(by omega)) (List.getElem?_eq_getElem (by omega))
    rw [hj] at e1
    cases e1
    exact ⟨a, e3, e4⟩⟩
  refine wpS_execs_cons (wpS_For ?_)
  walk_at "mine toloop"
  refine' forS_dict (knd := PySem.intKind PySem.Challenge.rw_qz0154_01.row.prog w) (od := oV) (kvs := vkvs) (fun i m' led' => ∃ l2, led' = l2 ++ (led ++ rest) ∧ TabIs w M9 { σ with ks := [], ord := [], vals := σ.vals.take i } l2 ∧ OwnOff (led ++ rest) (l2.map (·.1)) ∧ m' (Str.ofString "self") = some (.ref M) ∧ m' (Str.ofString "other") = some (.ref M9)) rfl ?F7 N2 hV ?hm7 loV ?hx7 ?hp7 ?hJ7 ?h07 ?T7 ?fin7
  case F7 => k_asm
  case hm7 => exact List.mem_append_right _ (List.mem_append_left _ mV)
  case hx7 => rfl
  case hp7 => rfl
  case hJ7 => rintro i m' led' ⟨l3, rfl, _⟩; exact List.mem_append_right _ (List.mem_append_left _ mV)
  case h07 => exact ⟨l2, rfl, T2, O2, rfl, rfl⟩
  case T7 =>
    intro i v I oI m' led' h7 tk7 E7 hi7 hv7 hJ7 F7 N7 off7 K9 hK9
    obtain ⟨kk, xx, hkx, hkv⟩ := hv7
    obtain ⟨l3, rfl, T3, O3, ms, mo⟩ := hJ7
    obtain ⟨a7, b7, hb7, hp7, hva, hma⟩ := hVi i _ hkx
    obtain ⟨rfl, rfl⟩ := Prod.mk.inj hp7
    obtain ⟨t7, rfl⟩ : ∃ t, v = .int (i : Int) t := Value.isInt_shape hkv
    have F8 := fr_slot F7 ms mo
    clear F7
    obtain ⟨Md3, V3, Bk3, K3, Or3, hh3, tt3, n3, nB3, nO3, oV3, oK3, vO3, vkvs3, kkvs3, bks3, bls3, tl3, baL3, bkL3, e3, hO3, hK3, rK3, hV3, rV3, rB3, iB3, nb3, et3, ndT3, off3, d13, d23, d33, d43, d53, d63, d73, d83, d93, d103, d113, d123, d133, d143, d153, lK3, lV3⟩ := T3.opn
    subst e3
    have off33 := own_app off3 (own_sub O3 own6)
    dsimp only [List.cons_append] at N7
    have hi0 : (0 : Int) ≤ (i : Int) := by omega
    have hb7' : σ.vals[((i : Int)).toNat]? = some b7 := by simpa using hb7
    have hs3 : vkvs3.length ≤ sizeLine := by rw [vrel_length _ _ _ _ rV3, List.length_take, sizeLine_eq]; omega
    have hI3 : Df I V3 := fun e => off7 (V3, oV3) (.tail _ (.tail _ (.head _))) e.symm
    have hzb : b7.size ≤ 1000 := hzv b7 (List.mem_of_getElem? hb7)
    refine wpS_execs_cons (wpS_Assign_Subscript (wpS_NameCall ?_))
    walk_at "mine steps"
    (try dsimp only)
    refine wpS_callWith_type ?_
    walk_at "mine steps"
    (try dsimp only)
    refine' ba_of_ba ?uF ?uN ?ux hzb ?_
    case uF => k_asm
    case uN => k_asm
    case ux => k_mem
    intro x h8 F8 N8 l8
    (try k_lt l8)
    walk_at "mine steps"
    refine wpS_any ?_
    walk_at "mine steps"
    refine wpS_execs_nil ?_
    (try dsimp only)
    rename Obj.IsDictOf _ _ (PySem.stored _ _ _) => hD9
    rename News _ _ _ (_ :: (I, _) :: _) => N10
    obtain ⟨l4, T4, O4, S4⟩ := tab_addval (σ := { σ with ks := [], ord := [], vals := σ.vals.take i }) (b := b7) (by simp only [List.length_take]; omega) hD9 hO3 hK3 rK3 rV3 rB3 iB3 nb3 et3 ndT3 off3 d13 d23 d33 d43 d53 d63 d73 d83 d93 d103 d113 d123 d133 d143 d153 lK3 lV3 l8.2 O3
    have e4 : σ.vals.take (i + 1) = σ.vals.take i ++ [b7] := by rw [List.take_add_one, hb7]; rfl
    have S5 := sub_appR (R := led ++ rest) S4
    exact hK9 _ _ ⟨rfl, _, _, _, l4 ++ (led ++ rest), rfl, by assumption, news_sub N10 (sub_ins S5), off_ins S5 (Ne.symm (Nat.ne_of_lt l8.1)) (off_upd3 off7), l4, rfl, by rw [e4]; exact T4, O4, rfl, rfl⟩
  case fin7 =>
    rintro h7 tk7 m' led' ⟨l3, rfl, T3, O3, ms, mo⟩ F7 N7
    have F8 := fr_so F7 ms mo
    clear F7
    (try dsimp only)
    refine wpS_execs_any ?_
    walk_at "mine steps"
    have e5 : σ.vals.take vkvs.length = σ.vals := List.take_of_length_le (by omega)
    rw [e5] at T3
    exact hret _ (l3 ++ led) _ _ ⟨M9, l3, rfl, rfl, T3, fun p hp => O3 p (List.mem_append_left _ hp)⟩ (fun p hp b hb => by rw [List.map_append] at hb; exact (List.mem_append.mp hb).elim (fun h => O3 p (List.mem_append_right _ hp) b h) (fun h => OR p hp b h)) (by assumption) (by rw [List.append_assoc]; assumption)
end
section
theorem mi_list {prog : Program} {w : World} {A : Around} {E : Value → Shared → Prop} {s : Shared} {h₀ : Heap} {L l : Addr} {m : Str → Option Value} {news : Led} {vs : List Value} {n : Nat} {Q : Value → Shared → Prop} (F : Fr h₀ L s.heap m) (N : News h₀ L s.heap news) (hm : (l, W.listOf vs.toArray n) ∈ news) (hz : vs.length ≤ 1000)
    (h : ∀ D h' c, Fr h₀ L h' m → News h₀ L h' ((D, W.listOf vs.toArray c) :: news) → (∀ p ∈ news, p.1 < D) → Q (.ref D) { s with heap := h' }) : wpAny (model prog w) A (call (.type "list") [.ref l]) Q E s := by
  refine call_list_seq l (T := "list") (.inl rfl) (N _ hm).1 rfl rfl (fun h' c hk hD => ?_) (by rw [List.size_toArray, sizeLine_eq]; omega)
  refine h _ h' c (F.keeps hk) (fun p hp => ?_) fun p hp => Heap.lt_size (N p hp).1
  rcases List.mem_cons.mp hp with rfl | hp
  · exact ⟨hD, Ne.symm (Nat.ne_of_lt F.ns.lt), next_is_new F⟩
  · exact ⟨hk _ _ (N p hp).1, (N p hp).2⟩
theorem kw_51 : True := by
  (k_with "M call type:list" => (k_here; (with_reducible show wpAny _ _ (call (Value.type _) [Value.ref _]) _ _ _); k_dflt (refine' mi_list ?q_F ?q_N ?q_m ?q_z ?_; (case q_F => k_asm); (case q_N => k_asm); (case q_m => k_mem); (case q_z => first | assumption | walk_at "mine om")); intro _ _ _ _ _ l1; (have l9 := ltAll_of l1); (try k_lt l1)))
  trivial
theorem nodup_take {ks : List (Int × By)} (h : (ks.map (·.1)).Nodup) {i : Nat} {k : Int} {b : By} (hi : ks[i]? = some (k, b)) : k ∉ (ks.take i).map (·.1) := by
  induction ks generalizing i with
  | nil => simp at hi
  | cons p r ih =>
    cases i with
    | zero => simp
    | succ i =>
      rw [List.take_succ_cons, List.map_cons, List.mem_cons]
      rw [List.map_cons, List.nodup_cons] at h
      have hi' : r[i]? = some (k, b) := by simpa using hi
      rintro (e | e)
      · exact h.1 (e ▸ List.mem_map.mpr ⟨_, List.mem_of_getElem? hi', rfl⟩)
      · exact ih h.2 hi' e
theorem nbuck_le (m : Int) : nbuck m ≤ 4 := by unfold nbuck; split <;> (try split) <;> omega
inductive BInv2 (bls : List (List Int)) (base : Led) (i : Nat) (ys : List Value) (led : Led) : Prop
  | mk (bks : _) (bkL : _) (e1 : ys = bks.map Value.ref) (e2 : led = bkL ++ base) (e3 : BRel bks (bls.take i) bkL) (e4 : (bkL.map (·.1)).Nodup) (e5 : OwnOff bkL (base.map (·.1)))
theorem binv20 (bls : List (List Int)) (base : Led) : BInv2 bls base 0 [] base := ⟨[], [], rfl, rfl, trivial, List.nodup_nil, fun _ h => (nomatch h)⟩
theorem nodup_len : ∀ {q l : List Int}, q.Nodup → (∀ x ∈ q, x ∈ l) → q.length ≤ l.length
  | [], _, _, _ => Nat.zero_le _
  | a :: r, l, h, hs => by
    have h' := List.nodup_cons.mp h
    have ha : a ∈ l := hs a (.head _)
    have := nodup_len (q := r) (l := l.erase a) h'.2 (fun x hx => (List.mem_erase_of_ne (by rintro rfl; exact h'.1 hx)).mpr (hs x (.tail _ hx)))
    rw [List.length_erase_of_mem ha] at this
    have hp : 0 < l.length := List.length_pos_of_mem ha
    simp only [List.length_cons]
    omega
theorem bk_len9 {bls : List (List Int)} {ks : List (Int × By)} (h : BkInv bls ks) {i : Nat} {q : List Int} (hq : bls[i]? = some q) : q.length ≤ ks.length := by
  obtain ⟨h1, h2⟩ := h.2 i q hq
  have := nodup_len (l := ks.map (·.1)) h1 (fun x hx => by obtain ⟨b, hb, _⟩ := h2 x hx; exact List.mem_map.mpr ⟨_, hb, rfl⟩)
  simpa using this
theorem binv2_end {base bkL : Led} {bks : List Addr} {bls : List (List Int)} {h₀ h' : Heap} {L I C D T : Addr} {m : Str → Option Value} {oI oC oD : Obj} {s₁ : Shared} {S : Led → Prop} {tk' i c : Nat} {ys vs : List Value} {q : List Int} (F : Fr h₀ L h' m)
    (N : News h₀ L h' ((T, W.listOf vs.toArray c) :: ((I, oI) :: (C, oC) :: (D, oD) :: (bkL ++ base)))) (l1 : LtAll ((I, oI) :: (C, oC) :: (D, oD) :: (bkL ++ base)) T) (hvs : IntsAre vs q) (hq : bls[i]? = some q) (off : LCg.Off3 I C D (bkL ++ base))
    (e : ys = bks.map Value.ref) (R : BRel bks (bls.take i) bkL) (nd : (bkL.map (·.1)).Nodup) (ob : OwnOff bkL (base.map (·.1))) (hS : ∀ l, (∀ p ∈ base, p ∈ l) → S l) :
    LCg.CompEnd h₀ L m s₁ I oI C oC D oD S (fun y led' => BInv2 bls base (i + 1) (ys ++ [y]) led') (.ref T) { s₁ with heap := h', toks := tk' } := by
  subst e
  refine LCg.CompEnd.intro F N ((bkL ++ [(T, W.listOf vs.toArray c)]) ++ base) ?_ ?_ (hS _ fun p hp => List.mem_append_right _ hp) ⟨bks ++ [T], _, by simp, rfl, ?_, ?_, ?_⟩
  · walk_at "mine sub"
  · refine LCg.Off3.of fun p hp => ?_
    simp only [List.mem_cons, List.mem_append, List.not_mem_nil, or_false] at hp
    rcases hp with (h | h) | h
    · exact off3_mem off p (List.mem_append_left _ h)
    · subst h
      exact ⟨Ne.symm (Nat.ne_of_lt (l1 _ (.head _))), Ne.symm (Nat.ne_of_lt (l1 _ (.tail _ (.head _)))), Ne.symm (Nat.ne_of_lt (l1 _ (.tail _ (.tail _ (.head _)))))⟩
    · exact off3_mem off p (List.mem_append_right _ h)
  · have e4 : bls.take (i + 1) = bls.take i ++ [q] := by rw [List.take_add_one, hq]; rfl
    rw [e4]
    exact brel_snoc ⟨_, _, rfl, hvs⟩ _ _ _ R
  · rw [List.map_append, List.nodup_append]
    refine ⟨nd, by simp, fun a ha b hb => ?_⟩
    simp only [List.map_cons, List.map_nil, List.mem_singleton] at hb
    subst hb
    obtain ⟨p, hp, rfl⟩ := List.mem_map.mp ha
    exact Nat.ne_of_lt (l1 p (.tail _ (.tail _ (.tail _ (List.mem_append_left _ hp)))))
  · intro p hp b hb
    simp only [List.mem_cons, List.mem_append, List.not_mem_nil, or_false] at hp
    rcases hp with h | h
    · exact ob p h b hb
    · subst h
      obtain ⟨q, hq, rfl⟩ := List.mem_map.mp hb
      exact Ne.symm (Nat.ne_of_lt (l1 q (.tail _ (.tail _ (.tail _ (List.mem_append_right _ hq))))))
theorem hc_reorder {h₀ h : Heap} {L : Addr} {d a1 a2 a3 a4 a5 a6 : Addr × Obj} {l r : Led} (N : News h₀ L h (d :: (l ++ a1 :: a2 :: a3 :: a4 :: a5 :: a6 :: r))) : News h₀ L h (a1 :: a2 :: a3 :: a4 :: a5 :: a6 :: d :: (l ++ r)) := news_sub N (by walk_at "mine sub")
theorem hc_off {M9 Md9 V9 K9 O9 B9 D : Addr} {o1 o2 o3 o4 o5 o6 : Obj} {l tl r : Led} (o : LCg.Off1 D (l ++ (M9, o1) :: (Md9, o2) :: (V9, o3) :: (B9, o4) :: (K9, o5) :: (O9, o6) :: (tl ++ r))) (ob : OwnOff l (((M9, o1) :: (Md9, o2) :: (V9, o3) :: (B9, o4) :: (K9, o5) :: (O9, o6) :: (tl ++ r)).map (·.1))) (of : OwnOff (tl ++ r) [M9, Md9, V9, B9, K9, O9]) :
    (Df M9 D ∧ Df Md9 D ∧ Df V9 D ∧ Df B9 D ∧ Df K9 D ∧ Df O9 D) ∧ OwnOff (l ++ (tl ++ r)) [M9, Md9, V9, B9, K9, O9, D] := by
  have z : ∀ p ∈ (l ++ (M9, o1) :: (Md9, o2) :: (V9, o3) :: (B9, o4) :: (K9, o5) :: (O9, o6) :: (tl ++ r)), p.1 ≠ D := fun p hp => off1_mem o p hp
  exact ⟨⟨z (M9, o1) (List.mem_append_right _ (.head _)), z (Md9, o2) (List.mem_append_right _ (.tail _ (.head _))), z (V9, o3) (List.mem_append_right _ (.tail _ (.tail _ (.head _)))), z (B9, o4) (List.mem_append_right _ (.tail _ (.tail _ (.tail _ (.head _))))), z (K9, o5) (List.mem_append_right _ (.tail _ (.tail _ (.tail _ (.tail _ (.head _)))))), z (O9, o6) (List.mem_append_right _ (.tail _ (.tail _ (.tail _ (.tail _ (.tail _ (.head _)))))))⟩, own_app (own_cons (own_at ob (.head _)) (own_cons (own_at ob (.tail _ (.head _))) (own_cons (own_at ob (.tail _ (.tail _ (.head _)))) (own_cons (own_at ob (.tail _ (.tail _ (.tail _ (.head _))))) (own_cons (own_at ob (.tail _ (.tail _ (.tail _ (.tail _ (.head _)))))) (own_cons (own_at ob (.tail _ (.tail _ (.tail _ (.tail _ (.tail _ (.head _))))))) (own_cons (fun p hp => z p (List.mem_append_left _ hp)) own_nil))))))) (own_cons (own_at of (.head _)) (own_cons (own_at of (.tail _ (.head _))) (own_cons (own_at of (.tail _ (.tail _ (.head _)))) (own_cons (own_at of (.tail _ (.tail _ (.tail _ (.head _))))) (own_cons (own_at of (.tail _ (.tail _ (.tail _ (.tail _ (.head _)))))) (own_cons (own_at of (.tail _ (.tail _ (.tail _ (.tail _ (.tail _ (.head _))))))) (own_cons (fun p hp => z p (List.mem_append_right _ (.tail _ (.tail _ (.tail _ (.tail _ (.tail _ (.tail _ hp)))))))) own_nil)))))))⟩
theorem hc_close {w : World} {M Md V Bk K O D : Addr} {σ' : Tb} {oV oK : Obj} {hh : Nat → Int} {tt : Nat → Tok} {n nB nO nD : Nat} {vO : List Value} {kkvs vkvs : List (Int × Value)} {bks bk2 : List Addr} {bls : List (List Int)} {tl baL bkL bkL2 rest' : Led} {h₀ h : Heap} {L : Addr}
    (N : News h₀ L h ((M, instObj 502 Md) :: (Md, dictOf (mdOf hh tt σ' V D K O) n) :: (V, oV) :: (Bk, W.listOf (bks.map Value.ref).toArray nB) :: (K, oK) :: (O, W.listOf vO.toArray nO) :: (D, W.listOf (bk2.map Value.ref).toArray nD) :: (bkL2 ++ (tl ++ rest'))))
    (hO : IntsAre vO σ'.ord) (hK : oK.IsDictOf (intKind PySem.Challenge.rw_qz0154_01.row.prog w) kkvs) (rK : KRel kkvs σ'.ks) (hV : oV.IsDictOf (intKind PySem.Challenge.rw_qz0154_01.row.prog w) vkvs) (rV : VRel vkvs 0 σ'.vals baL) (rB : BRel bk2 bls bkL2) (iB : BkInv bls σ'.ks) (nb : bls.length = nbuck σ'.most) (et : tl = baL ++ bkL)
    (ndT : (tl.map (·.1)).Nodup) (nd2 : (bkL2.map (·.1)).Nodup) (ob : ∀ p ∈ bkL2, ∀ q ∈ tl ++ rest', q.1 ≠ p.1) (of : OwnOff (bkL2 ++ (tl ++ rest')) [M, Md, V, Bk, K, O, D]) (e : Df M D ∧ Df Md D ∧ Df V D ∧ Df Bk D ∧ Df K D ∧ Df O D)
    (d1 : Df M Md) (d2 : Df M V) (d4 : Df M K) (d5 : Df M O) (d6 : Df Md V) (d8 : Df Md K) (d9 : Df Md O) (d11 : Df V K) (d12 : Df V O) (d15 : Df K O) (lK : (K == sysModules) = false) (lV : (V == sysModules) = false) (OR : ∀ p ∈ rest', ∀ b ∈ tl.map (·.1), p.1 ≠ b) :
    ∃ l2, TabIs w M σ' l2 ∧ OwnOff rest' (l2.map (·.1)) ∧ News h₀ L h (l2 ++ rest') := by
  subst et
  have of1 : OwnOff (bkL2 ++ ((baL ++ bkL) ++ rest')) [M, Md, V, D, K, O] := own_cons (own_at of (.head _)) (own_cons (own_at of (.tail _ (.head _))) (own_cons (own_at of (.tail _ (.tail _ (.head _)))) (own_cons (own_at of (.tail _ (.tail _ (.tail _ (.tail _ (.tail _ (.tail _ (.head _)))))))) (own_cons (own_at of (.tail _ (.tail _ (.tail _ (.tail _ (.head _)))))) (own_cons (own_at of (.tail _ (.tail _ (.tail _ (.tail _ (.tail _ (.head _))))))) (own_nil))))))
  refine ⟨_, TabIs.mk (B := D) (nB := nD) (n := n) (nO := nO) (hh := hh) (tt := tt) (baL := baL) (bkL := bkL2) (bks := bk2) hO hK rK hV rV rB iB nb rfl ?_ ?_ d1 d2 e.1 d4 d5 d6 e.2.1 d8 d9 e.2.2.1 d11 d12 (fun h => e.2.2.2.2.1 h.symm) (fun h => e.2.2.2.2.2 h.symm) d15 lK lV, ?_, ?_⟩
  · rw [List.map_append, List.nodup_append] at ndT ⊢
    refine ⟨ndT.1, nd2, fun a ha b hb => ?_⟩
    obtain ⟨p, hp, rfl⟩ := List.mem_map.mp ha
    obtain ⟨q, hq, rfl⟩ := List.mem_map.mp hb
    exact ob q hq p (List.mem_append_left _ (List.mem_append_left _ hp))
  · intro p hp b hb
    refine of1 p ?_ b hb
    rcases List.mem_append.mp hp with h | h
    · exact List.mem_append_right _ (List.mem_append_left _ (List.mem_append_left _ h))
    · exact List.mem_append_left _ h
  · have R1 : OwnOff rest' [M, Md, V, D, K, O] := fun p hp => of1 p (List.mem_append_right _ (List.mem_append_right _ hp))
    exact own_cons (own_at R1 (.head _)) (own_cons (own_at R1 (.tail _ (.head _))) (own_cons (own_at R1 (.tail _ (.tail _ (.head _)))) (own_cons (own_at R1 (.tail _ (.tail _ (.tail _ (.head _))))) (own_cons (own_at R1 (.tail _ (.tail _ (.tail _ (.tail _ (.head _)))))) (own_cons (own_at R1 (.tail _ (.tail _ (.tail _ (.tail _ (.tail _ (.head _))))))) (fun p hp b hb => by
      rw [List.map_append] at hb
      rcases List.mem_append.mp hb with h | h
      · exact OR p hp b (by rw [List.map_append]; exact List.mem_append_left _ h)
      · obtain ⟨q, hq, rfl⟩ := List.mem_map.mp h
        exact ob q hq p (List.mem_append_right _ hp)))))))
  · exact news_sub N (by (try simp only [List.cons_append, List.append_assoc]); walk_at "mine sub")
theorem kw_52 : True := by
  (k_with "M setAttr ref" => (k_here; k_dflt (refine' set_dict ?q_k1 ?q_k2 ?q_k3 ?q_k4 ?q_k5 ?q_k6 ?q_k7 ?q_k8 ?q_k9 ?q_k10 ?q_k11 ?q_k12 ?q_k13 ?_; (case q_k1 => k_asm); (case q_k2 => k_asm); (case q_k3 => k_asm); (case q_k4 => k_inst); (case q_k5 => exact rfl); (case q_k6 => k_is); (case q_k7 => k_is); (case q_k8 => k_is); (case q_k9 => k_is); (case q_k10 => k_get); (case q_k11 => first | exact put_values | exact put_buckets | exact put_order); (case q_k12 => k_upd); (case q_k13 => exact Nat.le_of_ble_eq_true rfl)); intro _ _ _))
  trivial
theorem hashcopy_sp (w : World) (M : Addr) (σ : Tb) (led : Led) (hT : TabIs w M σ led) (h1 : 0 ≤ σ.number) (h2 : σ.number < 64) (h3 : 1 ≤ σ.kw) (h4 : σ.kw ≤ 2) (h5 : 1 ≤ σ.vw) (h6 : σ.vw ≤ 9) (h7 : 1 ≤ σ.most) (h8 : σ.most ≤ 4) (hz : σ.vals.length ≤ 100) (hzv : ∀ b ∈ σ.vals, b.size ≤ 1000) (hzk : σ.ks.length ≤ 100) (hkn : (σ.ks.map (·.1)).Nodup) :
    SpS w 17 270 421 [.ref M] led (fun v led' => ∃ M2 l2, v = .ref M2 ∧ led' = l2 ++ led ∧ TabIs w M2 { σ with ord := [] } l2 ∧ OwnOff led (l2.map (·.1))) := by
  obtain ⟨Md, V, Bk, K, O, hh, tt, n, hM, hMd, VA, KA, OA, BA⟩ := TabIs.inst2 hT
  walk_at "mine sps"
  intro mean mg mb dp un gd outer A₀ base h₀ L hpS gS dS kS oS Q E rest B F X N OR T hd hu hnx hret hpo
  refine wpS_execs_cons (wpS_Assign_Name (wpS_MethodCall ?_))
  walk_at "mine steps"
  (try dsimp only)
  refine' wpS_callWith_K (K := (Mine.hd.heap_1 w.params)) ?uX ?uk ?_
  case uX => assumption
  case uk => k_is
  walk_at "mine steps"
  (try dsimp only)
  refine' sps_copy (mapcopy_sp _ _ _ _ ?hT9 ?z1 ?z2 ?z3 ?z4 ?z5 ?z6 ?z7 ?z8 ?z9 ?z10) ?B ?F ?X ?N ?O ?T ?hk ?hd ?hu ?_
  case hT9 => exact hT
  case z1 => assumption
  case z2 => assumption
  case z3 => assumption
  case z4 => assumption
  case z5 => assumption
  case z6 => assumption
  case z7 => assumption
  case z8 => assumption
  case z9 => assumption
  case z10 => assumption
  walk_at "mine call"
  intro M9 l9 h9 tk9 T9 O8 O9 F9 N9
  (try dsimp only)
  (try k_fold)
  walk_at "mine steps"
  (try dsimp only)
  have OR9 := O9
  rename News _ _ _ (l9 ++ (led ++ rest)) => N9
  obtain ⟨Md9, V9, Bk9, K9, Or9, hh9, tt9, n9, nB9, nO9, oV9, oK9, vO9, vkvs9, kkvs9, bks9, bls9, tl9, baL9, bkL9, e9, hO9, hK9, rK9, hV9, rV9, rB9, iB9, nb9, et9, ndT9, off9, d19, d29, d39, d49, d59, d69, d79, d89, d99, d109, d119, d129, d139, d149, d159, lK9, lV9⟩ := T9.opn
  have O9' := own_app2 OR9 O8
  subst e9
  have off29 := own_app off9 (own_sub O9' own6)
  dsimp only [List.cons_append] at N9
  obtain ⟨oK, kkvs, mK, hK, loK, rK⟩ := KA
  have lenK := krel_length rK
  have KA0 : KeysAt w led K σ.ks := ⟨oK, kkvs, mK, hK, loK, rK⟩
  refine wpS_execs_cons (wpS_For ?_)
  walk_at "mine toloop"
  refine' forS_dict (knd := PySem.intKind PySem.Challenge.rw_qz0154_01.row.prog w) (od := oK) (kvs := kkvs) (fun i m' led' => ∃ oK2 kk2, led' = ((M9, instObj 502 Md9) :: (Md9, dictOf (mdOf hh9 tt9 { σ with ks := [], ord := [] } V9 Bk9 K9 Or9) n9) :: (V9, oV9) :: (Bk9, W.listOf (List.map Value.ref bks9).toArray nB9) :: (K9, oK2) :: (Or9, W.listOf vO9.toArray nO9) :: (tl9 ++ (led ++ rest))) ∧ oK2.IsDictOf (PySem.intKind PySem.Challenge.rw_qz0154_01.row.prog w) kk2 ∧ KRel kk2 (σ.ks.take i) ∧ m' (Str.ofString "self") = some (.ref M) ∧ m' (Str.ofString "other") = some (.ref M9)) rfl ?F7 N9 hK ?hm7 loK ?hx7 ?hp7 ?hJ7 ?h07 ?T7 ?fin7
  case F7 => k_asm
  case hm7 => exact .tail _ (.tail _ (.tail _ (.tail _ (.tail _ (.tail _ (List.mem_append_right _ (List.mem_append_left _ mK)))))))
  case hx7 => rfl
  case hp7 => rfl
  case hJ7 => rintro i m' led' ⟨oK2, kk2, rfl, _⟩; exact .tail _ (.tail _ (.tail _ (.tail _ (.tail _ (.tail _ (List.mem_append_right _ (List.mem_append_left _ mK)))))))
  case h07 => exact ⟨oK9, kkvs9, rfl, hK9, rK9, rfl, rfl⟩
  case T7 =>
    intro i v I oI m' led' h7 tk7 E7 hi7 hv7 hJ7 F7 N7 off7 Kq hKq
    obtain ⟨kk, xx, hkx, hkv⟩ := hv7
    obtain ⟨oK2, kk2, rfl, hK2, rK2, ms, mo⟩ := hJ7
    obtain ⟨b7, hb7⟩ := krel_get rK i hkx
    have hkb : (kk, b7) ∈ σ.ks := List.mem_of_getElem? hb7
    obtain ⟨t7, rfl⟩ : ∃ t, v = .int kk t := Value.isInt_shape hkv
    have F8 := fr_slot F7 ms mo
    clear F7
    have hz2 : kk2.length ≤ sizeLine := by rw [krel_length rK2, List.length_take, sizeLine_eq]; omega
    have hni : kk ∉ (σ.ks.take i).map (·.1) := nodup_take hkn hb7
    have hIK : Df I K9 := fun e => off7 (K9, oK2) (by simp) e.symm
    refine wpS_any ?_
    walk_at "mine steps"
    rename Obj.IsDictOf _ _ (PySem.stored _ _ _) => hD9
    rename News _ _ _ ((I, _) :: _) => N10
    have e4 : σ.ks.take (i + 1) = σ.ks.take i ++ [(kk, b7)] := by rw [List.take_add_one, hb7]; rfl
    refine hKq _ _ ⟨rfl, _, _, _, _, rfl, by assumption, N10, List.forall_mem_cons.mpr ⟨off7 (_, _) (.head _), List.forall_mem_cons.mpr ⟨off7 (_, _) (.tail _ (.head _)), List.forall_mem_cons.mpr ⟨off7 (_, _) (.tail _ (.tail _ (.head _))), List.forall_mem_cons.mpr ⟨off7 (_, _) (.tail _ (.tail _ (.tail _ (.head _)))), List.forall_mem_cons.mpr ⟨off7 (K9, oK2) (.tail _ (.tail _ (.tail _ (.tail _ (.head _))))), List.forall_mem_cons.mpr ⟨off7 (_, _) (.tail _ (.tail _ (.tail _ (.tail _ (.tail _ (.head _)))))), fun p hp => off7 p (.tail _ (.tail _ (.tail _ (.tail _ (.tail _ (.tail _ hp))))))⟩⟩⟩⟩⟩⟩, _, _, rfl, hD9, by rw [e4]; exact krel_stored rK2 hni _ _, rfl, rfl⟩
  case fin7 =>
    rintro h7 tk7 m' led' ⟨oK2, kk2, rfl, hK2, rK2, ms, mo⟩ F7 N7
    have F8 := fr_so F7 ms mo
    clear F7
    (try dsimp only)
    obtain ⟨bks, bls, nB, bkL, mB, rB, sB, iB, nb⟩ := BA
    refine wpS_execs_any ?_
    walk_at "mine tosrc"
    have hlb := brel_len _ _ _ rB
    have hbz : bks.length ≤ 4 := by rw [hlb, nb]; exact nbuck_le _
    refine' LCg.CompSrc.ledger (its := (bks.map Value.ref).toArray) (by rfl) (by k_asm) (by k_asm) ?m9 ?z9 ?_
    case m9 => exact .tail _ (.tail _ (.tail _ (.tail _ (.tail _ (.tail _ (List.mem_append_right _ (List.mem_append_left _ mB)))))))
    case z9 => rw [sizeLine_eq]; simp; omega
    intro g9
    refine comp_inv (BInv2 bls _) (binv20 _ _) ?turn9 ?fin9
    case turn9 =>
      intro i v ys led9 I oI C oC D m₂ h8 tk8 E8 hi8 hv I8 hC hx F1 N1 off8 ne8 K9 hK9
      obtain ⟨bk2, bkL2, e1, e2, R2, nd2, ob2⟩ := I8
      subst e2
      have hv' : (bks.map Value.ref)[i]? = some v := by simpa using hv
      have hib : i < bls.length := by
        rw [← hlb]
        by_cases q : i < bks.length
        · exact q
        · rw [List.getElem?_eq_none (by simpa using Nat.not_lt.mp q)] at hv'; cases hv'
      obtain ⟨x, vs, n8, hx8, hm8, hi8'⟩ := brel_at _ _ _ rB i _ (List.getElem?_eq_getElem hib)
      rw [List.getElem?_map, hx8] at hv'
      simp only [Option.map_some, Option.some.injEq] at hv'
      subst hv'
      have hm9 := sB _ hm8
      have hz9 : vs.length ≤ 1000 := by rw [hi8'.length]; have := bk_len9 iB (List.getElem?_eq_getElem hib); omega
      walk_at "mine steps"
      rename LtAll _ _ => lT
      exact hK9 _ _ (binv2_end (by assumption) (by assumption) lT hi8' (List.getElem?_eq_getElem hib) off8 e1 R2 nd2 ob2 (fun l hl => .inr ⟨_, hl _ (.tail _ (.tail _ (.tail _ (.tail _ (.tail _ (.tail _ (List.mem_append_right _ (List.mem_append_left _ mB)))))))), rfl, _, rfl⟩))
    case fin9 =>
      intro ys led9 I8
      obtain ⟨bk2, bkL2, e1, e2, R2, nd2, ob2⟩ := I8
      subst e1 e2
      unfold LCg.FinE
      intro D h9 tk9 F1 N1 o1
      have N2 := hc_reorder N1
      have O2 := hc_off o1 ob2 off29
      obtain ⟨e9, of9⟩ := O2
      obtain ⟨e91, e92, e93, e94, e95, e96⟩ := e9
      clear N1 N7 o1
      dsimp only
      walk_at "mine steps"
      (try dsimp only)
      refine wpS_execs_any ?_
      walk_at "mine steps"
      rename News _ _ _ ((M9, _) :: _) => N10
      have ek : σ.ks.take kkvs.length = σ.ks := List.take_of_length_le (by omega)
      rw [ek] at rK2
      have el : bls.take (List.length (List.map Value.ref bks)) = bls := List.take_of_length_le (by rw [List.length_map]; omega)
      have R3 : BRel bk2 bls bkL2 := by rw [← el]; exact R2
      obtain ⟨l4, T4, O4, N4⟩ := hc_close (σ' := { σ with ord := [] }) N10 hO9 hK2 rK2 hV9 rV9 R3 iB nb et9 ndT9 nd2 (fun p hp q hq e => ob2 p hp q.1 (by simp only [List.map_cons, List.mem_cons]; exact .inr (.inr (.inr (.inr (.inr (.inr (List.mem_map.mpr ⟨q, hq, rfl⟩))))))) e.symm) of9 ⟨e91, e92, e93, e94, e95, e96⟩ d19 d29 d49 d59 d69 d89 d99 d119 d129 d159 lK9 lV9 (fun p hp b hb => O9' p hp b (by simp only [List.map_cons, List.mem_cons]; exact .inr (.inr (.inr (.inr (.inr (.inr hb)))))))
      exact hret _ (l4 ++ led) _ _ ⟨M9, l4, rfl, rfl, T4, fun p hp => O4 p (List.mem_append_left _ hp)⟩ (fun p hp b hb => by rw [List.map_append] at hb; exact (List.mem_append.mp hb).elim (fun h => O4 p (List.mem_append_right _ hp) b h) (fun h => OR p hp b h)) (by assumption) (by rw [List.append_assoc]; exact N4)
end
section
theorem lr_close {w : World} {M Md V Bk K O D : Addr} {σ σ' : Tb} {oV oK oO : Obj} {hh : Nat → Int} {tt : Nat → Tok} {n nB nD : Nat} {vD : List Value} {kkvs vkvs : List (Int × Value)} {bks : List Addr} {bls : List (List Int)} {tl baL bkL rest' : Led} {h₀ h : Heap} {L : Addr}
    (N : News h₀ L h ((D, W.listOf vD.toArray nD) :: (M, instObj 502 Md) :: (Md, dictOf (mdOf hh tt σ' V Bk K D) n) :: (V, oV) :: (Bk, W.listOf (bks.map Value.ref).toArray nB) :: (K, oK) :: (O, oO) :: (tl ++ rest')))
    (l1 : M < D ∧ Md < D ∧ V < D ∧ Bk < D ∧ K < D ∧ O < D ∧ AllLt D (tl ++ rest'))
    (e1 : σ.number = σ'.number) (e2 : σ.kw = σ'.kw) (e3 : σ.vw = σ'.vw) (e4 : σ.most = σ'.most) (hO : IntsAre vD σ.ord) (hK : oK.IsDictOf (intKind PySem.Challenge.rw_qz0154_01.row.prog w) kkvs) (rK : KRel kkvs σ.ks) (hV : oV.IsDictOf (intKind PySem.Challenge.rw_qz0154_01.row.prog w) vkvs) (rV : VRel vkvs 0 σ.vals baL) (rB : BRel bks bls bkL) (iB : BkInv bls σ.ks) (nb : bls.length = nbuck σ.most) (et : tl = baL ++ bkL)
    (ndT : (tl.map (·.1)).Nodup) (off : OwnOff tl [M, Md, V, Bk, K, O])
    (d1 : Df M Md) (d2 : Df M V) (d3 : Df M Bk) (d4 : Df M K) (d6 : Df Md V) (d7 : Df Md Bk) (d8 : Df Md K) (d10 : Df V Bk) (d11 : Df V K) (d13 : Df Bk K) (lK : (K == sysModules) = false) (lV : (V == sysModules) = false)
    (OR : ∀ p ∈ rest', ∀ b ∈ M :: Md :: V :: Bk :: K :: tl.map (·.1), p.1 ≠ b) :
    ∃ l2, TabIs w M σ l2 ∧ OwnOff rest' (l2.map (·.1)) ∧ News h₀ L h (l2 ++ rest') := by
  have em : mdOf hh tt σ' V Bk K D = mdOf hh tt σ V Bk K D := by unfold mdOf; rw [e1, e2, e3, e4]
  rw [em] at N
  have ltD : ∀ p ∈ tl ++ rest', p.1 ≠ D := fun p hp => Nat.ne_of_lt (allLt_mem l1.2.2.2.2.2.2 p hp)
  refine ⟨_, TabIs.mk (B := Bk) (nB := nB) (n := n) (nO := nD) (hh := hh) (tt := tt) (O := D) (vO := vD) (bks := bks) hO hK rK hV rV rB iB nb et ndT ?_ d1 d2 d3 d4 (Nat.ne_of_lt l1.1) d6 d7 d8 (Nat.ne_of_lt l1.2.1) d10 d11 (Nat.ne_of_lt l1.2.2.1) d13 (Nat.ne_of_lt l1.2.2.2.1) (Nat.ne_of_lt l1.2.2.2.2.1) lK lV, ?_, ?_⟩
  · exact own_cons (own_at off (.head _)) (own_cons (own_at off (.tail _ (.head _))) (own_cons (own_at off (.tail _ (.tail _ (.head _)))) (own_cons (own_at off (.tail _ (.tail _ (.tail _ (.head _))))) (own_cons (own_at off (.tail _ (.tail _ (.tail _ (.tail _ (.head _)))))) (own_cons (fun p hp => ltD p (List.mem_append_left _ hp)) (own_nil))))))
  · exact own_cons (own_at OR (.head _)) (own_cons (own_at OR (.tail _ (.head _))) (own_cons (own_at OR (.tail _ (.tail _ (.head _)))) (own_cons (own_at OR (.tail _ (.tail _ (.tail _ (.head _))))) (own_cons (own_at OR (.tail _ (.tail _ (.tail _ (.tail _ (.head _)))))) (own_cons (fun p hp => ltD p (List.mem_append_right _ hp)) (own_sub OR fun x hx => (.tail _ (.tail _ (.tail _ (.tail _ (.tail _ hx)))))))))))
  · exact news_sub N (by (try simp only [List.cons_append, List.append_assoc]); walk_at "mine sub")
theorem kw_53 : True := by
  (k_with "M call type:list" => (k_here; (with_reducible show wpAny _ _ (call (Value.type _) [Value.ref _]) _ _ _); k_dflt (refine' mi_list ?q_F ?q_N ?q_m ?q_z ?_; (case q_F => k_asm); (case q_N => k_asm); (case q_m => k_mem); (case q_z => first | assumption | walk_at "mine om")); intro _ _ _ _ _ l1; (have l9 := ltAll_of l1); (try k_lt l1)))
  trivial
theorem kw_54 : True := by
  (k_with "M setAttr ref" => (k_here; k_dflt (refine' set_dict ?q_k1 ?q_k2 ?q_k3 ?q_k4 ?q_k5 ?q_k6 ?q_k7 ?q_k8 ?q_k9 ?q_k10 ?q_k11 ?q_k12 ?q_k13 ?_; (case q_k1 => k_asm); (case q_k2 => k_asm); (case q_k3 => k_asm); (case q_k4 => k_inst); (case q_k5 => exact rfl); (case q_k6 => k_is); (case q_k7 => k_is); (case q_k8 => k_is); (case q_k9 => k_is); (case q_k10 => k_get); (case q_k11 => first | exact put_values | exact put_buckets | exact put_order); (case q_k12 => k_upd); (case q_k13 => exact Nat.le_of_ble_eq_true rfl)); intro _ _ _))
  trivial
theorem lrucopy_sp (w : World) (M : Addr) (σ : Tb) (led : Led) (hT : TabIs w M σ led) (h1 : 0 ≤ σ.number) (h2 : σ.number < 64) (h3 : 1 ≤ σ.kw) (h4 : σ.kw ≤ 2) (h5 : 1 ≤ σ.vw) (h6 : σ.vw ≤ 9) (h7 : 1 ≤ σ.most) (h8 : σ.most ≤ 4) (hz : σ.vals.length ≤ 100) (hzv : ∀ b ∈ σ.vals, b.size ≤ 1000) (hzk : σ.ks.length ≤ 100) (hkn : (σ.ks.map (·.1)).Nodup) (hzo : σ.ord.length ≤ 100) :
    SpS w 20 280 499 [.ref M] led (fun v led' => ∃ M2 l2, v = .ref M2 ∧ led' = l2 ++ led ∧ TabIs w M2 σ l2 ∧ OwnOff led (l2.map (·.1))) := by
  obtain ⟨Md, V, Bk, K, O, hh, tt, n, hM, hMd, VA, KA, OA, BA⟩ := TabIs.inst2 hT
  walk_at "mine sps"
  intro mean mg mb dp un gd outer A₀ base h₀ L hpS gS dS kS oS Q E rest B F X N OR T hd hu hnx hret hpo
  refine wpS_execs_cons (wpS_Assign_Name (wpS_MethodCall ?_))
  walk_at "mine steps"
  (try dsimp only)
  refine' wpS_callWith_K (K := (Mine.hd.heap_1 w.params)) ?uX ?uk ?_
  case uX => assumption
  case uk => k_is
  walk_at "mine steps"
  (try dsimp only)
  refine' sps_copy (hashcopy_sp _ _ _ _ ?hT9 ?z1 ?z2 ?z3 ?z4 ?z5 ?z6 ?z7 ?z8 ?z9 ?z10 ?z11 ?z12) ?B ?F ?X ?N ?O ?T ?hk ?hd ?hu ?_
  case hT9 => exact hT
  case z1 => assumption
  case z2 => assumption
  case z3 => assumption
  case z4 => assumption
  case z5 => assumption
  case z6 => assumption
  case z7 => assumption
  case z8 => assumption
  case z9 => assumption
  case z10 => assumption
  case z11 => assumption
  case z12 => assumption
  walk_at "mine call"
  intro M9 l9 h9 tk9 T9 O8 O9 F9 N9
  (try dsimp only)
  (try k_fold)
  walk_at "mine steps"
  (try dsimp only)
  have OR9 := O9
  rename News _ _ _ (l9 ++ (led ++ rest)) => N9
  obtain ⟨Md9, V9, Bk9, K9, Or9, hh9, tt9, n9, nB9, nO9, oV9, oK9, vO9, vkvs9, kkvs9, bks9, bls9, tl9, baL9, bkL9, e9, hO9, hK9, rK9, hV9, rV9, rB9, iB9, nb9, et9, ndT9, off9, d19, d29, d39, d49, d59, d69, d79, d89, d99, d109, d119, d129, d139, d149, d159, lK9, lV9⟩ := T9.opn
  have O9' := own_app2 OR9 O8
  subst e9
  have off29 := own_app off9 (own_sub O9' own6)
  dsimp only [List.cons_append] at N9
  obtain ⟨vO, nO, mO, hO⟩ := OA
  have hlO := hO.length
  have hzO : vO.length ≤ 1000 := by omega
  refine wpS_execs_any ?_
  walk_at "mine steps"
  (try dsimp only)
  refine wpS_execs_any ?_
  walk_at "mine steps"
  rename News _ _ _ (_ :: (M9, _) :: _) => N10
  rename _ < _ ∧ _ < _ ∧ _ < _ ∧ _ < _ ∧ _ < _ ∧ _ < _ ∧ AllLt _ _ => l8
  obtain ⟨l4, T4, O4, N4⟩ := lr_close (σ := σ) N10 l8 rfl rfl rfl rfl hO hK9 rK9 hV9 rV9 rB9 iB9 nb9 et9 ndT9 off9 d19 d29 d39 d49 d69 d79 d89 d109 d119 d139 lK9 lV9 (fun p hp b hb => O9' p hp b (by simp only [List.map_cons, List.mem_cons] at hb ⊢; rcases hb with h | h | h | h | h | h <;> simp [h]))
  exact hret _ (l4 ++ led) _ _ ⟨M9, l4, rfl, rfl, T4, fun p hp => O4 p (List.mem_append_left _ hp)⟩ (fun p hp b hb => by rw [List.map_append] at hb; exact (List.mem_append.mp hb).elim (fun h => O4 p (List.mem_append_right _ hp) b h) (fun h => OR p hp b h)) (by assumption) (by rw [List.append_assoc]; exact N4)
end
section
def PenIs (P : Addr) (c : Int) (led : Led) : Prop := ∃ n t0 t1 e, led = [(P, W.listOf [Value.int n t0, Value.int c t1].toArray e)] ∧ 0 ≤ n ∧ 0 ≤ c
theorem draw_sp (w : World) (P : Addr) (n c : Int) (t0 t1 : Tok) (e : Nat) (hn : 0 ≤ n) (hc : 0 ≤ c) (hc2 : c ≤ 1000) (many : Int) (t : Tok) (hm : 0 < many) (hm2 : many ≤ 256) :
    Sp w 2 20 518 [.ref P, .int many t] [(P, W.listOf [Value.int n t0, Value.int c t1].toArray e)] (fun v led' => ∃ d t', v = .int d t' ∧ 0 ≤ d ∧ d < many ∧ ∃ c', PenIs P c' led' ∧ c ≤ c' ∧ c' ≤ c + 1) := by
  k_with "binaryOp Pow int int" => (refine' pow_int_small (by decide) (by decide) ?kp1 ?_; (case kp1 => with_unfolding_all exact (show ((2038 * (c + 1) + 7013 : Int)).natAbs < 2 ^ 64 by omega)))
  walk_at "mine sp"
  intro mean mg mb dp un gd outer A₀ base h₀ L hpS gS dS kS oS Q E rest B F X N OR T hd hu hnx hret hpo
  dsimp only [List.cons_append, List.nil_append] at N
  walk_at "mine steps"
  · rename News _ _ _ (_ :: _) => N9
    have N8 : News _ _ _ ([(P, _)] ++ rest) := N9
    have hb : (0:Int) ≤ (2038 * (c + 1) + 7013) ^ 9 := Int.pow_nonneg (by omega)
    refine hret _ _ _ _ ⟨_, _, rfl, Int.fmod_nonneg_of_pos _ hm, Int.fmod_lt_of_pos _ hm, c + 1, ⟨_, _, _, _, rfl, Int.fdiv_nonneg hb (by omega), by omega⟩, by omega, by omega⟩ OR (by assumption) N8
  · rename News _ _ _ (_ :: _) => N9
    have N8 : News _ _ _ ([(P, _)] ++ rest) := N9
    refine hret _ _ _ _ ⟨_, _, rfl, Int.fmod_nonneg_of_pos _ hm, Int.fmod_lt_of_pos _ hm, c, ⟨_, _, _, _, rfl, Int.fdiv_nonneg hn (by omega), hc⟩, by omega, by omega⟩ OR (by assumption) N8
end
section
section
variable {prog : Program} {w : World} {A : Around} {E : Value → Shared → Prop} {s : Shared} {h₀ : Heap} {L : Addr} {m : Str → Option Value} {env : Env}
theorem compLoop_pt {elt ct iter : PySem.Expr} {elts : List PySem.Expr} {x1} {tp : Pos} {scope : Scope} {pos : Pos} {it acc : Value} {env : Env} {R : Result → Shared → Prop} (J : Nat → Shared → Prop)
    (turn : ∀ n s, J n s → wpAny (model prog w) A (pyNext it) (fun r s₁ => match r with
      | none => R (.ok .next) s₁
      | some v => wpAny (model prog w) A (letOwnedTupleGo (.Tuple elts x1 tp) it v) (fun _ s₂ => wpAny (model prog w) A (assign (.Tuple elts x1 tp) env v) (fun _ s₃ =>
          wpAny (model prog w) A (isTrue ct env (eval ct env)) (fun ok s₄ => if ok = true then wpAny (model prog w) A (eval elt env) (fun x s₅ =>
              wpAny (model prog w) A (call (.builtin "list.append") [acc, x]) (fun _ s₆ => ∃ k, k < n ∧ J k s₆) (notedBy (model prog w) A env fun e s' => R (.error e) s') s₅) (notedBy (model prog w) A env fun e s' => R (.error e) s') s₄
            else ∃ k, k < n ∧ J k s₄) (notedBy (model prog w) A env fun e s' => R (.error e) s') s₃)
          (notedBy (model prog w) A env fun e s' => R (.error e) s') s₂) (notedBy (model prog w) A env fun e s' => R (.error e) s') s₁) (notedBy (model prog w) A env fun e s' => R (.error e) s') s)
    (n : Nat) (h : J n s) : codeAny (model prog w) A (.compLoop (.ListComp elt [⟨.Tuple elts x1 tp, iter, [ct], 0⟩] scope pos) 0 it acc env) R s := by
  refine codeAny_loop rfl J (fun n s hJ => ?_) n h
  show wpAny _ A ((compTurn (.ListComp elt [⟨.Tuple elts x1 tp, iter, [ct], 0⟩] scope pos) 0 it acc env).onRaise (fun x => do noteFrame x env; theTreesLotGoes x)) _ _ s
  refine wpAny_noted ?_
  rw [compTurn_list]
  refine wpAny_bind (wpAny_standAt (wpAny_bind (wpAny_mono (turn n s hJ) (fun r s₁ h₁ => ?_) fun _ _ x => x)))
  cases r with
  | none => exact wpAny_pure h₁
  | some v =>
    refine wpAny_bind (wpAny_mono h₁ (fun _ s₂ h₂ => wpAny_bind (wpAny_mono h₂ (fun _ s₃ h₃ => wpAny_bind (wpAny_mono (wpAny_tests_one h₃) (fun ok s₄ h₄ => ?_) fun _ _ x => x)) fun _ _ x => x)) fun _ _ x => x)
    cases ok with
    | false => exact wpAny_pure ⟨rfl, h₄⟩
    | true => exact wpAny_bind (wpAny_bind (wpAny_mono h₄ (fun x s₅ h₅ => wpAny_bind (wpAny_mono h₅ (fun _ s₆ h₆ => wpAny_pure (wpAny_pure ⟨rfl, h₆⟩)) fun _ _ x => x)) fun _ _ x => x))
noncomputable def selN (b : Nat → Bool) (n : Nat) : List Int := ((List.range n).filter b).map Int.ofNat
theorem selN_succ (b : Nat → Bool) (n : Nat) : selN b (n + 1) = if b n = true then selN b n ++ [(n : Int)] else selN b n := by
  unfold selN
  rw [List.range_succ, List.filter_append, List.map_append]
  cases e : b n <;> simp [e]
theorem selN_len (b : Nat → Bool) (n : Nat) : (selN b n).length ≤ n := by
  unfold selN
  rw [List.length_map]
  exact Nat.le_trans (List.length_filter_le _ _) (by simp)
inductive CTest (h₀ : Heap) (L : Addr) (m : Str → Option Value) (led : Led) (s₁ : Shared) (b : Bool) (y : Bool) (s₂ : Shared) : Prop
  | mk (e1 : y = b) (h' : _) (tk' : _) (e2 : s₂ = { s₁ with heap := h', toks := tk' }) (e3 : Fr h₀ L h' m) (e4 : News h₀ L h' led)
theorem ctest_end {h₀ : Heap} {L : Addr} {m : Str → Option Value} {led : Led} {s₁ : Shared} {b c : Bool} {h' : Heap} {tk' : Nat} (F : Fr h₀ L h' m) (N : News h₀ L h' led) (r : c = b) : CTest h₀ L m led s₁ b c { s₁ with heap := h', toks := tk' } := ⟨r, h', tk', rfl, F, N⟩
structure EnumT (prog : Program) (w : World) (A : Around) (h₀ : Heap) (L : Addr) (m : Str → Option Value) (env : Env) (ct elt : PySem.Expr) (x x₂ : Str) (scope : Scope) (cl : List (Str × Addr)) (its : Array Value) (news : Led) (s : Shared) (bf : Nat → Bool) (Fin : List Value → Led → Prop) : Prop where
  test : ∀ (i : Nat) v t e oe it oi C oC D ys m₂ h tk (E' : Value → Shared → Prop), its[i]? = some v → LCg.NsObj oC m₂ → m₂ x = some (.int (i : Int) t) → m₂ x₂ = some v → Fr h₀ L h m → News h₀ L h ((e, oe) :: (it, oi) :: (C, oC) :: (D, LCg.lst ys) :: news) →
    ∀ K9 : Bool → Shared → Prop, Into (CTest h₀ L m ((e, oe) :: (it, oi) :: (C, oC) :: (D, LCg.lst ys) :: news) s (bf i)) K9 → wpAny (model prog w) A (isTrue ct (compEnvC scope cl C env) (eval ct (compEnvC scope cl C env))) K9 E' { s with heap := h, toks := tk }
  elt : ∀ (i : Nat) v t e oe it oi C oC D ys m₂ h tk (E' : Value → Shared → Prop), its[i]? = some v → LCg.NsObj oC m₂ → m₂ x = some (.int (i : Int) t) → m₂ x₂ = some v → Fr h₀ L h m → News h₀ L h ((e, oe) :: (it, oi) :: (C, oC) :: (D, LCg.lst ys) :: news) →
    ∀ K9 : Value → Shared → Prop, Into (CPost h₀ L m ((e, oe) :: (it, oi) :: (C, oC) :: (D, LCg.lst ys) :: news) s (fun y => ∃ t, y = .int (i : Int) t)) K9 → wpAny (model prog w) A (eval elt (compEnvC scope cl C env)) K9 E' { s with heap := h, toks := tk }
  fin : ∀ ys, IntsAre ys (selN bf its.size) → Fin ys news
inductive SrcE (prog : Program) (w : World) (A : Around) (h₀ : Heap) (L : Addr) (m : Str → Option Value) (env : Env) (ct elt : PySem.Expr) (x x₂ : Str) (scope : Scope) (cl : List (Str × Addr)) (Fin : Shared → List Value → Led → Prop) (xv : Value) (s₁ : Shared) : Prop
  | mk (e it l : Addr) (its : Array Value) (lo : Obj) (news : Led) (bf : Nat → Bool) (e1 : xv = .ref e) (e2 : A.handled = none) (e3 : IsEnum s₁.heap e it 0 .none) (e4 : s₁.heap.IsListIter it l 0) (e5 : (l, lo) ∈ news) (e6 : lo.cls = .type "list") (e7 : (∃ k, lo.data = .seq its k)) (e8 : its.size ≤ 1000) (e9 : e ≠ it) (e10 : Fr h₀ L s₁.heap m) (e11 : News h₀ L s₁.heap news) (e12 : (L ≠ e ∧ L ≠ it)) (e13 : (h₀.get? e = none ∧ h₀.get? it = none)) (e14 : (∀ p ∈ news, p.1 ≠ e ∧ p.1 ≠ it)) (e15 : EnumT prog w A h₀ L m env ct elt x x₂ scope cl its news s₁ bf (Fin s₁))
theorem fr_but2 {h h' : Heap} {a b : Addr} (F : Fr h₀ L h m) (hk : ∀ c o, c ∉ [a, b] → h.get? c = some o → h'.get? c = some o) (hL : L ≠ a ∧ L ≠ b) (hI : h₀.get? a = none ∧ h₀.get? b = none) : Fr h₀ L h' m :=
  ⟨F.ns.at' fun o e => hk L o (by simp [hL.1, hL.2]) e, fun c o e => hk c o (fun hm => by
    rcases List.mem_cons.mp hm with q | hm
    · rw [q, hI.1] at e; cases e
    · rw [List.mem_singleton.mp hm, hI.2] at e; cases e) (F.keep c o e), F.above⟩
theorem news_but2 {h h' : Heap} {a b : Addr} {news : Led} (N : News h₀ L h news) (hk : ∀ c o, c ∉ [a, b] → h.get? c = some o → h'.get? c = some o) (off : ∀ p ∈ news, p.1 ≠ a ∧ p.1 ≠ b) : News h₀ L h' news :=
  fun p hp => ⟨hk _ _ (by simp [(off p hp).1, (off p hp).2]) (N p hp).1, (N p hp).2⟩
inductive LoopE (s₂ : Shared) (h₀ : Heap) (L e it l D C : Addr) (m : Str → Option Value) (its : Array Value) (bf : Nat → Bool) (news : Led) : Nat → Shared → Prop
  | mk (h' : Heap) (tk i : Nat) (ys : List Value) (m' : Str → Option Value) (hi : i ≤ its.size) (hys : IntsAre ys (selN bf i)) (hE : ∃ old, IsEnum h' e it i old) (hI : h'.IsListIter it l i) (F : Fr h₀ L h' m) (hn : h'.Ns C m') (N : News h₀ L h' ((D, LCg.lst ys) :: news)) :
    LoopE s₂ h₀ L e it l D C m its bf news (its.size + 1 - i) { s₂ with heap := h', toks := tk }
theorem block_E {elt ct iter : PySem.Expr} {x x₂ : Str} {px px₂ tp : Pos} {tkk} {scope : Scope} {cl : List (Str × Addr)} {pos : Pos} {s₂ : Shared} {e it l : Addr} {its : Array Value} {lo : Obj} {news : Led} {bf : Nat → Bool} {Fin : List Value → Led → Prop} {RR : Value → Addr → Result → Shared → Prop}
    (hh : A.handled = none) (hE : IsEnum s₂.heap e it 0 .none) (hI : s₂.heap.IsListIter it l 0) (hm : (l, lo) ∈ news) (hc : lo.cls = .type "list") (hd : ∃ k, lo.data = .seq its k) (hsz : its.size ≤ 1000) (hei : e ≠ it)
    (hcell : ∀ y ∈ scope.names, y.2 ≠ .cell) (hkind : scope.kind = .function) (hx : scope.names.lookup x = some .local) (hx₂ : scope.names.lookup x₂ = some .local) (hxx : x ≠ x₂)
    (F : Fr h₀ L s₂.heap m) (N : News h₀ L s₂.heap news) (hL : L ≠ e ∧ L ≠ it) (h0 : h₀.get? e = none ∧ h₀.get? it = none) (off : ∀ p ∈ news, p.1 ≠ e ∧ p.1 ≠ it)
    (T : EnumT prog w A h₀ L m env ct elt x x₂ scope cl its news s₂ bf Fin)
    (hRR : ∀ D C h tk m' ys, Fr h₀ L h m → News h₀ L h ((D, LCg.lst ys) :: news) → LCg.Off1 D news → h.Ns C m' → h₀.get? C = none → h₀.get? D = none → C ≠ L → D ≠ L → C ≠ D → (∀ p ∈ news, p.1 ≠ C) → Fin ys news → RR (.ref D) C (.ok .next) { s₂ with heap := h, toks := tk }) :
    wpAny (model prog w) A (newList []) (fun acc s₃ => wpAny (model prog w) A (newFunctionEnv scope env.globals cl [] env.qual none .none (some env)) (fun cenv s₄ =>
      codeAny (model prog w) A (.compStart (.ListComp elt [⟨.Tuple [.Name x px, .Name x₂ px₂] tkk tp, iter, [ct], 0⟩] scope pos) 0 (.ref e) acc { cenv with scope := relabel scope env }) (RR acc cenv.locals) s₄) E s₃) E s₂ := by
  refine wpAny_newObj_type (wpAny_newFunctionEnv hcell (by intro y hy; simp at hy) (fun h₁ hns₁ hsb₁ => ?_) hkind)
  dsimp only at hns₁ hsb₁ ⊢
  generalize hH2 : s₂.heap.push { cls := .type "list", dict := none, data := .seq ([] : List Value).toArray } = H2 at hns₁ hsb₁ ⊢
  have hC : H2.objs.size = s₂.heap.objs.size + 1 := by rw [← hH2, Heap.size_push]
  have hDC : s₂.heap.objs.size ≠ H2.objs.size := by rw [hC]; exact Nat.ne_of_lt (Nat.lt_succ_self _)
  have below : ∀ b, b < s₂.heap.objs.size → b ≠ H2.objs.size ∧ b ≠ s₂.heap.objs.size := fun b hb => ⟨by rw [hC]; exact Nat.ne_of_lt (Nat.lt_succ_of_lt hb), Nat.ne_of_lt hb⟩
  have helt : e < s₂.heap.objs.size := Heap.lt_size hE
  have hilt : it < s₂.heap.objs.size := by obtain ⟨_, q, _⟩ := hI; exact Heap.lt_size q
  have old : ∀ b o, s₂.heap.get? b = some o → h₁.get? b = some o := fun b o q => hsb₁.extBut b o (below b (Heap.lt_size q)).1 (Heap.get?_push_of_some _ (hH2 ▸ Heap.get?_push_of_some _ q))
  have hacc : h₁.get? s₂.heap.objs.size = some (LCg.lst []) := hsb₁.extBut _ _ hDC (Heap.get?_push_of_some _ (hH2 ▸ Heap.get?_push_size _ rfl))
  have fresh : ∀ a, s₂.heap.objs.size ≤ a → s₂.heap.get? a = none := fun a ha => by
    cases q : s₂.heap.get? a with
    | none => rfl
    | some o' => exact absurd (Heap.lt_size q) (Nat.not_lt.mpr ha)
  have fresh₀ : ∀ a, s₂.heap.objs.size ≤ a → h₀.get? a = none := fun a ha => by
    cases q : h₀.get? a with
    | none => rfl
    | some o' => have := F.keep a o' q; rw [fresh a ha] at this; cases this
  have hD₀ : h₀.get? s₂.heap.objs.size = none := fresh₀ _ (Nat.le_refl _)
  have hC₀ : h₀.get? H2.objs.size = none := fresh₀ _ (by rw [hC]; exact Nat.le_succ _)
  have hLlt : L < s₂.heap.objs.size := F.ns.lt
  have hDL : s₂.heap.objs.size ≠ L := Ne.symm (below L hLlt).2
  have hCL : H2.objs.size ≠ L := Ne.symm (below L hLlt).1
  have hCe := (below e helt).1
  have hDe := (below e helt).2
  have hCi := (below it hilt).1
  have hDi := (below it hilt).2
  have offC : ∀ p ∈ news, p.1 ≠ H2.objs.size := fun p hp => (below _ (Heap.lt_size (N p hp).1)).1
  have offD : ∀ p ∈ news, p.1 ≠ s₂.heap.objs.size := fun p hp => (below _ (Heap.lt_size (N p hp).1)).2
  have offD1 : LCg.Off1 s₂.heap.objs.size news := LCg.Off3.one (I := s₂.heap.objs.size) (C := s₂.heap.objs.size) (LCg.Off3.of fun p hp => ⟨offD p hp, offD p hp, offD p hp⟩)
  have lst_of : ∀ {h}, News h₀ L h news → h.IsList l its := fun N => by obtain ⟨k, hk⟩ := hd; exact ⟨lo, (N _ hm).1, hc, k, hk⟩
  have Wt := WalksT.enumerate (prog := prog) (w := w) (A := A) hh e it l hei (off _ hm).1 (off _ hm).2 its
  have loop : ∀ s₃ : Shared, s₃ = { s₂ with heap := h₁, toks := s₂.toks + ([] : List (Str × Value)).length } →
      codeAny (model prog w) A (.compLoop (.ListComp elt [⟨.Tuple [.Name x px, .Name x₂ px₂] tkk tp, iter, [ct], 0⟩] scope pos) 0 (.ref e) (.ref s₂.heap.objs.size) (compEnvC scope cl H2.objs.size env))
        (RR (.ref s₂.heap.objs.size) H2.objs.size) s₃ := by
    rintro s₃ rfl
    refine compLoop_pt
      (LoopE s₂ h₀ L e it l s₂.heap.objs.size H2.objs.size m its bf news) ?_ (its.size + 1)
      (LoopE.mk h₁ _ 0 [] _ (Nat.zero_le _) IntsAre.nil ⟨_, old _ _ hE⟩ (hI.at fun o q => old _ o q) (F.keeps old) hns₁ fun p hp => ?_)
    · rintro k s' ⟨h', tk, i, ys, m', hi, hys, hE', hI', F', hn', N'⟩
      have N'' : News h₀ L h' news := fun p hp => N' p (.tail _ hp)
      have offN : ∀ p ∈ (s₂.heap.objs.size, LCg.lst ys) :: news, p.1 ≠ e ∧ p.1 ≠ it := List.forall_mem_cons.mpr ⟨⟨Ne.symm hDe, Ne.symm hDi⟩, off⟩
      have offCD : ∀ p ∈ (s₂.heap.objs.size, LCg.lst ys) :: news, p.1 ≠ H2.objs.size := List.forall_mem_cons.mpr ⟨hDC, offC⟩
      by_cases hlt : i < its.size
      · refine Wt.item i _ _ _ hlt ⟨hE', hI', lst_of N''⟩ fun tt vals h₂ tk₂ hPv hle ht hmid hk₂ => ?_
        obtain ⟨t, v, hv, rfl⟩ := hPv
        refine Wt.go _ _ _ i tt _ _ _ hmid fun h₃ hst₃ hk₃ => ?_
        have hTw := Wt.apart _ _ _ hmid
        have ht₃ : IsTup h₃ tt #[.int i t, v] := by obtain ⟨o, q, r⟩ := ht; exact ⟨o, hk₃ _ _ hTw q, r⟩
        have k3 : ∀ c o, c ∉ [e, it] → h'.get? c = some o → h₃.get? c = some o := fun c o hc q => hk₃ c o hc (hk₂ c o hc q)
        refine assign_Tuple_tuple hh ht₃ rfl rfl fun h₅ he => ?_
        have he' : ∀ b o, h₃.get? b = some o → h₅.get? b = some o := fun b o q => he b o (Nat.ne_of_lt (Heap.lt_size q)) q
        refine assignInOrder_cons (wpAny_assign_Name (wpAny_storeName_local (lookup_relabel_local hx) ((hn'.at' fun o q => k3 _ o (by simp [Ne.symm hCe, Ne.symm hCi]) q).at' fun o q => he' _ o q) (fun h₆ hn₆ hs₆ => ?_) (by simp [compEnvC, relabel, hkind])))
        refine assignInOrder_cons (wpAny_assign_Name (wpAny_storeName_local (lookup_relabel_local hx₂) hn₆ (fun h₇ hn₇ hs₇ => ?_) (by simp [compEnvC, relabel, hkind])))
        refine assignInOrder_nil ?_
        have old7 : ∀ b o, b ≠ H2.objs.size → h₃.get? b = some o → h₇.get? b = some o := fun b o hb q => hs₇.extBut b o hb (hs₆.extBut b o hb (he' b o q))
        refine gw fun G kG => ?_
        obtain ⟨⟨olde, hE₃⟩, ⟨oi, hI₃, hIr⟩, _⟩ := hst₃
        obtain ⟨oe, hE₃, hEr⟩ : ∃ oe, h₃.get? e = some oe ∧ ∀ h : Heap, h.get? e = some oe → ∃ old, IsEnum h e it ((i + 1 : Nat) : Int) old := ⟨_, hE₃, fun h q => ⟨_, q⟩⟩
        have hE₇ := old7 _ _ hCe hE₃
        have hI₇ := old7 _ _ hCi hI₃
        obtain ⟨oC, heC, hoC⟩ := LCg.ns_obj hn₇
        have F₇ : Fr h₀ L h₇ m := (((fr_but2 F' k3 hL h0).keeps he').change hs₆ hCL hC₀).change hs₇ hCL hC₀
        have N₃ := news_but2 N' k3 offN
        have N₇ : News h₀ L h₇ ((e, oe) :: (it, oi) :: (H2.objs.size, oC) :: (s₂.heap.objs.size, LCg.lst ys) :: news) :=
          List.forall_mem_cons.mpr ⟨⟨hE₇, Ne.symm hL.1, h0.1⟩, List.forall_mem_cons.mpr ⟨⟨hI₇, Ne.symm hL.2, h0.2⟩, List.forall_mem_cons.mpr ⟨⟨heC, hCL, hC₀⟩, fun p hp => ⟨old7 _ _ (offCD p hp) (N₃ p hp).1, (N₃ p hp).2⟩⟩⟩⟩
        refine kG ?_
        clear kG
        refine wpAny_mono (T.test i v t e oe it oi H2.objs.size oC s₂.heap.objs.size ys _ h₇ _ _ hv hoC (by simp [hxx]) (by simp) F₇ N₇ _ fun _ _ q => q) (fun ok s₄ h₄ => ?_) fun _ _ q => q
        obtain ⟨rfl, h₄, tk₄, rfl, F₄, N₄⟩ := h₄
        have back : ∀ {h₈ : Heap}, News h₀ L h₈ ((e, oe) :: (it, oi) :: (H2.objs.size, oC) :: (s₂.heap.objs.size, LCg.lst ys) :: news) → (∃ old, IsEnum h₈ e it ((i + 1 : Nat) : Int) old) ∧ h₈.IsListIter it l (i + 1) ∧ h₈.Ns H2.objs.size _ ∧ News h₀ L h₈ ((s₂.heap.objs.size, LCg.lst ys) :: news) := fun N₈ =>
          ⟨hEr _ (N₈ _ (.head _)).1, ⟨oi, (N₈ _ (.tail _ (.head _))).1, hIr⟩, hoC.ns (N₈ _ (.tail _ (.tail _ (.head _)))).1, fun p hp => N₈ p (.tail _ (.tail _ (.tail _ hp)))⟩
        cases hb : bf i with
        | false =>
          rw [if_neg (by simp)]
          obtain ⟨b1, b2, b3, b4⟩ := back N₄
          refine ⟨its.size + 1 - (i + 1), by omega, LoopE.mk h₄ tk₄ (i + 1) ys _ hlt ?_ b1 b2 F₄ b3 b4⟩
          rw [selN_succ, if_neg (by simp [hb])]; exact hys
        | true =>
          rw [if_pos rfl]
          refine wpAny_mono (T.elt i v t e oe it oi H2.objs.size oC s₂.heap.objs.size ys _ h₄ _ _ hv hoC (by simp [hxx]) (by simp) F₄ N₄ _ fun _ _ q => q) (fun y s₅ h₅ => ?_) fun _ _ q => q
          obtain ⟨⟨t', rfl⟩, h₅, tk₅, rfl, F₅, N₅⟩ := h₅
          obtain ⟨b1, b2, b3, b4⟩ := back N₅
          have zD := (b4 _ (.head _)).1
          refine append_at (hsz := by rw [List.size_toArray, hys.length, sizeLine_eq]; have := selN_len bf i; omega) zD fun h₆ hs₆ hD₆ => ?_
          refine ⟨its.size + 1 - (i + 1), by omega, LoopE.mk h₆ tk₅ (i + 1) (ys ++ [.int i t']) _ hlt ?_ ?_ (b2.at fun o q => hs₆.extBut _ o hDi q) (F₅.change hs₆ hDL hD₀) (b3.sameBut hs₆ (Ne.symm hDC)) fun p hp => ?_⟩
          · rw [selN_succ, if_pos hb]; exact ints_snoc hys _ _
          · obtain ⟨q, b1⟩ := b1
            exact ⟨q, hs₆.extBut _ _ hDe b1⟩
          · rcases List.mem_cons.mp hp with rfl | hp
            · exact ⟨hD₆.trans (congrArg some (LCg.lst_snoc ys _)), hDL, hD₀⟩
            · exact ⟨hs₆.extBut _ _ (offD p hp) (b4 p (.tail _ hp)).1, (b4 p (.tail _ hp)).2⟩
      · obtain rfl : i = its.size := Nat.le_antisymm hi (Nat.not_lt.mp hlt)
        refine Wt.done _ _ _ ⟨hE', hI', lst_of N''⟩ fun h₂ tk₂ hk₂ => ?_
        exact hRR _ _ h₂ tk₂ _ ys (fr_but2 F' hk₂ hL h0) (news_but2 N' hk₂ offN) offD1 (hn'.at' fun o q => hk₂ _ o (by simp [Ne.symm hCe, Ne.symm hCi]) q) hC₀ hD₀ hCL hDL (Ne.symm hDC) offC (T.fin ys hys)
    · rcases List.mem_cons.mp hp with rfl | hp
      · exact ⟨hacc, hDL, hD₀⟩
      · exact ⟨old _ _ (N p hp).1, (N p hp).2⟩
  exact codeAny_compStart_list (loop _ rfl) (wpAny_pyIter_enum (old _ _ hE) (loop _ rfl))
theorem Assign_ListComp_E {elt ct iter : PySem.Expr} {x x₂ y : Str} {px px₂ tp py : Pos} {tkk} {scope : Scope} {cl : List (Str × Addr)} {pos spos : Pos} {Q : Flow → Shared → Prop} (F₀ : Fr h₀ L s.heap m) (hLe : env.locals = L)
    (hsw : swapsWith (.ListComp elt [⟨.Tuple [.Name x px, .Name x₂ px₂] tkk tp, iter, [ct], 0⟩] scope pos) (some (.Name y py)) spos.line env = pure true)
    (hclos : closureFor scope env = pure cl) (hcell : ∀ z ∈ scope.names, z.2 ≠ .cell) (hkind : scope.kind = .function)
    (hnames : ∀ z ∈ scope.names, z.2 = .local → scope.names.lookup z.1 = some .local) (hx : scope.names.lookup x = some .local) (hx₂ : scope.names.lookup x₂ = some .local) (hxx : x ≠ x₂)
    (hy : env.kindOf y = some .local) (hp : (env.scope.kind == .class || (env.scope.kind == .module && env.locals != env.globals)) = false)
    (h : wpAny (model prog w) A (eval iter env) (SrcE prog w A h₀ L m env ct elt x x₂ scope cl (fun s₂ => LCg.FinA h₀ L m s₂ y Q)) E s)
    (hs : ∀ x, foldedSetIterable iter env x = pure x := by intro _; rfl) :
    wpAny (model prog w) A (exec (.Assign [.Name y py] (.ListComp elt [⟨.Tuple [.Name x px, .Name x₂ px₂] tkk tp, iter, [ct], 0⟩] scope pos) spos) env) Q E s := by
  subst hLe
  rw [exec_Assign_Name_used _ _ _ _ hsw]
  refine wpAny_bind (wpAny_standAt (wpAny_bind ?_))
  show wpAny _ A (do let _ ← comprehension (.ListComp elt [⟨.Tuple [.Name x px, .Name x₂ px₂] tkk tp, iter, [ct], 0⟩] scope pos) scope env _ (newList []) false (eval iter env) (some (assign (.Name y py) env))) _ _ s
  refine wpAny_bind (wpAny_mono (wpAny_comprehension_free (use := some (assign (.Name y py) env)) (Q := fun _ s' => Q .next s') rfl hs hclos hkind hnames
    (wpAny_mono h (fun xv s₁ h₁ => ?_) fun _ _ e => e)) (fun _ s' hq => wpAny_pure (wpAny_pure hq)) fun _ _ e => e)
  obtain ⟨e, it, l, its, lo, news, bf, rfl, hh, hE, hI, hm, hc, hd, hsz, hei, F, N, hL, h0, off, T⟩ := h₁
  refine wpAny_pyIter_enum hE ?_
  refine block_E hh hE hI hm hc hd hsz hei hcell hkind hx hx₂ hxx F N hL h0 off T ?_
  intro D C h' tk m' ys F' N' o1 hn hC₀ hD₀ hCL hDL hCD offC fin
  show wpAny _ A (assign (.Name y py) env (.ref D)) _ _ _
  refine wpAny_assign_Name (wpAny_storeName_local hy F'.ns (fun h₂ hn₂ hs₂ => ?_) hp)
  have hL₀ : h₀.get? env.locals = none := Heap.get?_none_of_le F'.above
  have F₂ : Fr h₀ env.locals h₂ (fun z => if z = y then some (.ref D) else m z) := ⟨hn₂, fun b o e => hs₂.extBut b o (fun q => by rw [q, hL₀] at e; cases e) (F'.keep b o e), F'.above⟩
  refine ⟨m', hn.sameBut hs₂ hCL, fun h'' hs'' => fin D h'' _ (F₂.change hs'' hCL hC₀) (fun p hp => ?_) o1⟩
  have z : h₂.get? p.1 = some p.2 := hs₂.extBut _ _ (N' p hp).2.1 (N' p hp).1
  refine ⟨hs''.extBut _ _ ?_ z, (N' p hp).2⟩
  rcases List.mem_cons.mp hp with rfl | hp
  · exact Ne.symm hCD
  · exact offC p hp
def EnumG (prog : Program) (w : World) (A : Around) (h₀ : Heap) (L : Addr) (m : Str → Option Value) (env : Env) (ct elt : PySem.Expr) (x x₂ : Str) (scope : Scope) (cl : List (Str × Addr)) (its : Array Value) (news : Led) (s : Shared) (Fin : List Value → Led → Prop) : Prop :=
  ∃ bf, EnumT prog w A h₀ L m env ct elt x x₂ scope cl its news s bf Fin
theorem mi_enum {ct elt : PySem.Expr} {x x₂ : Str} {scope : Scope} {cl : List (Str × Addr)} {Fin : Shared → List Value → Led → Prop} {l : Addr} {vs : List Value} {k : Nat} {news : Led}
    (hh : A.handled = none) (F : Fr h₀ L s.heap m) (N : News h₀ L s.heap news) (hm : (l, W.listOf vs.toArray k) ∈ news) (hz : vs.length ≤ 1000)
    (h : ∀ g, EnumG prog w A h₀ L m env ct elt x x₂ scope cl vs.toArray news { s with heap := g } (Fin { s with heap := g })) :
    wpAny (model prog w) A (call (.type "enumerate") [.ref l]) (SrcE prog w A h₀ L m env ct elt x x₂ scope cl Fin) E s := by
  have hl : s.heap.IsList l vs.toArray := ⟨_, (N _ hm).1, rfl, k, rfl⟩
  refine call_enumerate_list hl fun h' hE hI hsz hk => ?_
  obtain ⟨bf, T⟩ := h h'
  have hLs : L < s.heap.objs.size := F.ns.lt
  have fresh₀ : ∀ a, s.heap.objs.size ≤ a → h₀.get? a = none := fun a ha => by
    cases q : h₀.get? a with
    | none => rfl
    | some o' => exact absurd (Heap.lt_size (F.keep a o' q)) (Nat.not_lt.mpr ha)
  exact ⟨_, _, l, _, _, news, bf, rfl, hh, hE, hI, hm, rfl, ⟨k, rfl⟩, by simpa using hz, Nat.succ_ne_self _, F.keeps hk, N.grown hk, ⟨Nat.ne_of_lt (Nat.lt_succ_of_lt hLs), Nat.ne_of_lt hLs⟩, ⟨fresh₀ _ (Nat.le_succ _), fresh₀ _ (Nat.le_refl _)⟩,
    fun p hp => ⟨Nat.ne_of_lt (Nat.lt_succ_of_lt (Heap.lt_size (N p hp).1)), Nat.ne_of_lt (Heap.lt_size (N p hp).1)⟩, T⟩
end
end
theorem kw_55 : True := by
  (k_with "M exec Assign cons ListComp" => (k_here; k_dflt (refine Assign_ListComp_E (F₀ := by k_asm) (by rfl) (by with_unfolding_all rfl) (by with_unfolding_all rfl) (by decide) (by rfl) (by decide) (by rfl) (by rfl) (by decide) (by rfl) (by rfl) ?_)))
  (k_with "M call type:enumerate" => (k_here; k_dflt (refine' mi_enum ?q_h ?q_F ?q_N ?q_m ?q_z ?_; (case q_h => rfl); (case q_F => k_asm); (case q_N => k_asm); (case q_m => k_mem); (case q_z => assumption))))
  (k_with "M mine toenum" => repeat' ((fail_if_success (with_reducible show ∀ g, EnumG _ _ _ _ _ _ _ _ _ _ _ _ _ _ _ _ _)); walk_at "mine one"))
  trivial
section
structure Wd where
  number : Int
  kw : Int
  vw : Int
  most : Int
  rows : List (By × Int)
  vals : List By
noncomputable def wkv (ω : Wd) (M R D : Addr) (t0 t1 t2 t3 : Tok) : List (Str × Value) :=
  [(Str.ofString "most", .int ω.most t0), (Str.ofString "number", .int ω.number t1), (Str.ofString "key", .int ω.kw t2), (Str.ofString "value", .int ω.vw t3), (Str.ofString "map", .ref M), (Str.ofString "rows", .ref R), (Str.ofString "rooms", .ref D)]
section
variable {ω : Wd} {M R D : Addr} {t0 t1 t2 t3 : Tok}
theorem wkv_most : valueAt (wkv ω M R D t0 t1 t2 t3) (Str.ofString "most") = some (.int ω.most t0) := by rfl
theorem wkv_number : valueAt (wkv ω M R D t0 t1 t2 t3) (Str.ofString "number") = some (.int ω.number t1) := by rfl
theorem wkv_key : valueAt (wkv ω M R D t0 t1 t2 t3) (Str.ofString "key") = some (.int ω.kw t2) := by rfl
theorem wkv_value : valueAt (wkv ω M R D t0 t1 t2 t3) (Str.ofString "value") = some (.int ω.vw t3) := by rfl
theorem wkv_map : valueAt (wkv ω M R D t0 t1 t2 t3) (Str.ofString "map") = some (.ref M) := by rfl
theorem wkv_rows : valueAt (wkv ω M R D t0 t1 t2 t3) (Str.ofString "rows") = some (.ref R) := by rfl
theorem wkv_rooms : valueAt (wkv ω M R D t0 t1 t2 t3) (Str.ofString "rooms") = some (.ref D) := by rfl
theorem wkv_len : (wkv ω M R D t0 t1 t2 t3).length = 7 := by rfl
theorem wkv_setmap (M2 : Addr) : stored (wkv ω M R D t0 t1 t2 t3) (Str.ofString "map") (.ref M2) = wkv ω M2 R D t0 t1 t2 t3 := by rfl
end
def RowsAre (ys : List Value) (rows : List (By × Int)) (own : Led) : Prop := ys.length = rows.length ∧ ∀ (i : Nat) k n, rows[i]? = some (k, n) → ∃ T t u e, ys[i]? = some (Value.ref T) ∧ (T, tupO [Value.bytes k t, Value.int n u] e) ∈ own
def RmRel (dkvs : List (Int × Value)) (vals : List By) : Prop := dkvs.length = vals.length ∧ ∀ (i : Nat) b, vals[i]? = some b → ∃ t, dkvs[i]? = some ((i : Int), Value.bytes b t)
theorem rm_get? {dkvs : List (Int × Value)} {vals : List By} (h : RmRel dkvs vals) {i : Nat} {p : Int × Value} (hp : dkvs[i]? = some p) : p.1 = (i : Int) ∧ ∃ b t, vals[i]? = some b ∧ p.2 = Value.bytes b t := by
  have hlt : i < dkvs.length := by
    by_cases q : i < dkvs.length
    · exact q
    · rw [List.getElem?_eq_none (by omega)] at hp; cases hp
  have hlt2 : i < vals.length := by rw [← h.1]; exact hlt
  obtain ⟨t, e⟩ := h.2 i vals[i] (List.getElem?_eq_getElem hlt2)
  rw [e] at hp
  cases hp
  exact ⟨rfl, _, t, List.getElem?_eq_getElem hlt2, rfl⟩
theorem rm_key {dkvs : List (Int × Value)} {vals : List By} (h : RmRel dkvs vals) (n : Nat) : dkvs.any (fun kv => decide (kv.1 = (n : Int))) = decide (n < vals.length) := by
  rw [Bool.eq_iff_iff, List.any_eq_true, decide_eq_true_iff]
  constructor
  · rintro ⟨p, hp, e⟩
    obtain ⟨i, hi⟩ := List.getElem?_of_mem hp
    obtain ⟨e1, b, t, e2, _⟩ := rm_get? h hi
    simp only [decide_eq_true_eq] at e
    have : i = n := by omega
    subst this
    by_cases q : i < vals.length
    · exact q
    · rw [List.getElem?_eq_none (by omega)] at e2; cases e2
  · intro hn
    obtain ⟨t, e⟩ := h.2 n vals[n] (List.getElem?_eq_getElem hn)
    exact ⟨_, List.mem_of_getElem? e, by simp⟩
theorem rm_set {dkvs : List (Int × Value)} {vals : List By} (h : RmRel dkvs vals) {n : Nat} (hn : n < vals.length) (o : By) (t : Tok) : RmRel (PySem.stored dkvs (n : Int) (.bytes o t)) (vals.set n o) := by
  unfold PySem.stored
  rw [if_pos (by rw [rm_key h]; simpa using hn)]
  refine ⟨by simp [h.1], fun i b hb => ?_⟩
  rw [List.getElem?_map]
  by_cases q : i = n
  · subst q
    rw [List.getElem?_set_self hn] at hb
    cases hb
    obtain ⟨t', e⟩ := h.2 i _ (List.getElem?_eq_getElem hn)
    exact ⟨t, by rw [e]; simp⟩
  · rw [List.getElem?_set_ne (Ne.symm q)] at hb
    obtain ⟨t', e⟩ := h.2 i b hb
    refine ⟨t', ?_⟩
    rw [e]
    simp only [Option.map_some]
    rw [if_neg (by omega)]
theorem rm_snoc {dkvs : List (Int × Value)} {vals : List By} (h : RmRel dkvs vals) {n : Nat} (hn : n = vals.length) (o : By) (t : Tok) : RmRel (PySem.stored dkvs (n : Int) (.bytes o t)) (vals ++ [o]) := by
  unfold PySem.stored
  rw [if_neg (by rw [rm_key h]; simp; omega)]
  exact ⟨by simp [h.1], snoc_get hn.symm (fun i b hb => by
    obtain ⟨t', e⟩ := h.2 i b hb
    exact ⟨t', snoc_keep e⟩) ⟨t, snoc_last (h.1.trans hn.symm)⟩⟩
noncomputable def valsSet (vals : List By) (n : Nat) (o : By) : List By := if n < vals.length then vals.set n o else vals ++ [o]
theorem rm_store {dkvs : List (Int × Value)} {vals : List By} (h : RmRel dkvs vals) {n : Nat} (hn : n ≤ vals.length) (o : By) (t : Tok) : RmRel (PySem.stored dkvs (n : Int) (.bytes o t)) (valsSet vals n o) := by
  unfold valsSet
  split
  · exact rm_set h (by assumption) o t
  · exact rm_snoc h (by omega) o t
theorem rm_at {dkvs : List (Int × Value)} {vals : List By} (h : RmRel dkvs vals) {n : Nat} {b : By} (hb : vals[n]? = some b) : ∃ t, valueAt dkvs (n : Int) = some (Value.bytes b t) := by
  obtain ⟨t, e⟩ := h.2 n b hb
  refine ⟨t, ?_⟩
  have key : ∀ (l : List (Int × Value)) (s : Nat), (∀ (i : Nat) p, l[i]? = some p → p.1 = ((s + i : Nat) : Int)) → ∀ i p, l[i]? = some p → valueAt l ((s + i : Nat) : Int) = some p.2 := by
    intro l
    induction l with
    | nil => intro s _ i p hp; simp at hp
    | cons q r ih =>
      intro s hs i p hp
      cases i with
      | zero =>
        simp only [List.getElem?_cons_zero, Option.some.injEq] at hp
        subst hp
        have := hs 0 q rfl
        unfold valueAt
        simp [this]
      | succ i =>
        have h0 := hs 0 q rfl
        have := ih (s + 1) (fun i p hp => by have := hs (i + 1) p (by simpa using hp); rw [this]; congr 1; omega) i p (by simpa using hp)
        unfold valueAt at this ⊢
        rw [List.find?_cons_of_neg (by rw [h0]; simp; omega)]
        rw [show s + (i + 1) = s + 1 + i by omega]
        exact this
  have := key dkvs 0 (fun i p hp => by rw [(rm_get? h hp).1]; congr 1; omega) n _ e
  simpa using this
inductive WIs (w : World) (Wa M : Addr) (ω : Wd) : Led → Prop
  | mk {R D : Addr} {oW oD : Obj} {rs : List Value} {nR : Nat} {dkvs : List (Int × Value)} {tl : Led} {t0 t1 t2 t3 : Tok}
    (hW : oW.IsDictOf (strKind PySem.Challenge.rw_qz0154_01.row.prog w) (wkv ω M R D t0 t1 t2 t3)) (hR : RowsAre rs ω.rows tl) (hD : oD.IsDictOf (intKind PySem.Challenge.rw_qz0154_01.row.prog w) dkvs) (rD : RmRel dkvs ω.vals)
    (off : OwnOff tl [Wa, R, D]) (d1 : Df Wa R) (d2 : Df Wa D) (d3 : Df R D) (lW : (Wa == sysModules) = false) (lD : (D == sysModules) = false) :
    WIs w Wa M ω ((Wa, oW) :: (R, W.listOf rs.toArray nR) :: (D, oD) :: tl)
theorem own3w {Wa R D : Addr} {o1 o2 o3 : Obj} {tl : Led} : ∀ x ∈ [Wa, R, D], x ∈ List.map (fun x : Addr × Obj => x.1) ((Wa, o1) :: (R, o2) :: (D, o3) :: tl) := by
  exact List.forall_mem_cons.mpr ⟨.head _, List.forall_mem_cons.mpr ⟨.tail _ (.head _), List.forall_mem_cons.mpr ⟨.tail _ (.tail _ (.head _)), fun _ h => nomatch h⟩⟩⟩
section
variable {prog : Program} {w : World} {A : Around} {E : Value → Shared → Prop} {s : Shared} {h₀ : Heap} {L d : Addr} {m : Str → Option Value} {news : Led} {o : Obj} {kvs : List (Str × Value)} {k : Str} {u : Tok} {v : Value}
theorem mi_wget {value slice : PySem.Expr} {Q : Value → Shared → Prop} (N : News h₀ L s.heap news) (hp : (d, o) ∈ news) (hd : o.IsDictOf (PySem.strKind prog w) kvs) (hl : valueAt kvs k = some v) (h : ∀ tk, Q v { s with toks := tk })
    (hs : subscripted slice false (.ref d) (.str k u) = operate [.ref d, .str k u] (getItem (.ref d) (.str k u))) (hg : ∀ r, letTemporaryGo value (.ref d) r = pure ()) :
    wpAny (model prog w) A (subscriptTail value slice (.ref d) (.str k u)) Q E s := kda_item N hp hd (strKind_is _ _ _ _) hl (h _) hs hg
theorem mi_pop {items : List Value} {e : Nat} {l : Addr} {g : Obj → Led} {i : Int} {t : Tok} {j : Nat} {y : Value} {Q : Value → Shared → Prop} (F : Fr h₀ L s.heap m) (N : News h₀ L s.heap news) (U : UpdF l (W.listOf items.toArray e) news g) (hy : items[j]? = some y) (hj : (j : Int) = i) (hz : items.length ≤ 1000)
    (h : ∀ h' e', Fr h₀ L h' m → News h₀ L h' (g (W.listOf (items.eraseIdx j).toArray e')) → Q y { s with heap := h' }) :
    wpAny (model prog w) A (call (.builtin "list.pop") [.ref l, .int i t]) Q E s := by
  have U' := U
  have hjl : j < items.length := by
    by_cases q : j < items.length
    · exact q
    · rw [List.getElem?_eq_none (by omega)] at hy; cases hy
  obtain ⟨pre, post, rfl, hg, a, b⟩ := U'.split
  have z := N (l, W.listOf items.toArray e) (List.mem_append.mpr (.inr (.head _)))
  obtain ⟨n', N'⟩ := upd_news U N (fun xs => xs.eraseIdxIfInBounds j)
  have hfit : Builtin.List.listFitsIndex i = true := by subst hj; simp [Builtin.List.listFitsIndex]; omega
  have hk : seqIndex? i items.toArray.size = some j := by
    subst hj
    unfold seqIndex?
    have : ¬ ((j : Int) < 0) := by omega
    simp [this, hjl]
  refine call_meets PySem.F.slot_list_pop ⟨_, z.1, rfl⟩ PySem.F.entry_list_pop (PySem.F.args_list_pop_2 _ _)
    (MeetsSeq.list_pop_at l items.toArray e i t j y hfit hk (by simpa using hy) (by rw [List.size_toArray, sizeLine_eq]; omega))
    ⟨z.1, h _ n' (F.change (Heap.SameBut.update ..) z.2.1 z.2.2) ?_⟩
  have e2 : items.toArray.eraseIdxIfInBounds j = (items.eraseIdx j).toArray := by simp
  rw [e2] at N'; exact N'
theorem mi_append2 {items : List Value} {e : Nat} {l : Addr} {g : Obj → Led} {y : Value} {Q : Value → Shared → Prop} (F : Fr h₀ L s.heap m) (N : News h₀ L s.heap news) (U : UpdF l (W.listOf items.toArray e) news g) (hz : items.length ≤ 1000)
    (h : ∀ h' e', Fr h₀ L h' m → News h₀ L h' (g (W.listOf (items ++ [y]).toArray e')) → Q .none { s with heap := h' }) :
    wpAny (model prog w) A (call (.builtin "list.append") [.ref l, y]) Q E s := by
  obtain ⟨pre, post, rfl, hg, a, b⟩ := U.split
  have z := N (l, W.listOf items.toArray e) (List.mem_append.mpr (.inr (.head _)))
  refine append_at (hsz := by rw [List.size_toArray, sizeLine_eq]; omega) z.1 fun h' hs ho' => h h' (e + 1) (F.change hs z.2.1 z.2.2) ?_
  rw [hg]
  refine news_set N a b hs ?_
  rw [ho']; simp
end
theorem rows_erase {rs : List Value} {rows : List (By × Int)} {own : Led} (h : RowsAre rs rows own) (j : Nat) : RowsAre (rs.eraseIdx j) (rows.eraseIdx j) own := by
  refine ⟨by rw [List.length_eraseIdx, List.length_eraseIdx, h.1], fun i k n hi => ?_⟩
  rw [List.getElem?_eraseIdx] at hi
  rw [List.getElem?_eraseIdx]
  split at hi
  · rename_i q; rw [if_pos q]; exact h.2 i k n hi
  · rename_i q; rw [if_neg q]; exact h.2 (i + 1) k n hi
theorem rows_snoc {rs : List Value} {rows : List (By × Int)} {own own2 : Led} {T : Addr} {k : By} {n : Int} {t u : Tok} {e : Nat} (h : RowsAre rs rows own) (hs : ∀ p ∈ own, p ∈ own2) (hT : (T, tupO [Value.bytes k t, Value.int n u] e) ∈ own2) : RowsAre (rs ++ [.ref T]) (rows ++ [(k, n)]) own2 := by
  exact ⟨by simp [h.1], fun i k' n' hi => snoc_get (R := fun i p => ∃ T' t u e, (rs ++ [Value.ref T])[i]? = some (Value.ref T') ∧ (T', tupO [Value.bytes p.1 t, Value.int p.2 u] e) ∈ own2) rfl (fun i p hp => by
    obtain ⟨T', t', u', e', a, b⟩ := h.2 i p.1 p.2 hp
    exact ⟨T', t', u', e', snoc_keep a, hs _ b⟩) ⟨T, t, u, e, snoc_last h.1, hT⟩ i (k', n') hi⟩
theorem own_cell3 {g h' : Heap} {L' c a1 a2 a3 : Addr} {o o1 o2 o3 : Obj} {tl rest : Led} (N : News g L' h' ((c, o) :: (a1, o1) :: (a2, o2) :: (a3, o3) :: (tl ++ rest))) (l1 : a1 < L' ∧ a2 < L' ∧ a3 < L' ∧ AllLt L' (tl ++ rest)) (hc : L' ≤ c) (OR : OwnOff rest (((a1, o1) :: (a2, o2) :: (a3, o3) :: tl).map (·.1))) :
    OwnOff ((c, o) :: rest) (((a1, o1) :: (a2, o2) :: (a3, o3) :: tl).map (·.1)) :=
  own_cell (led := (a1, o1) :: (a2, o2) :: (a3, o3) :: tl) N (fun p hp => by
    rcases List.mem_cons.mp hp with rfl | hp
    · exact l1.1
    rcases List.mem_cons.mp hp with rfl | hp
    · exact l1.2.1
    rcases List.mem_cons.mp hp with rfl | hp
    · exact l1.2.2.1
    · exact allLt_mem l1.2.2.2 p hp) hc OR
end
theorem kw_56 : True := by
  (k_with "M subscriptTail" => (k_here; (with_reducible show wpAny _ _ (subscriptTail _ _ (Value.ref _) (Value.str _ _)) _ _ _); (with_unfolding_all refine' mi_wget ?q_N ?q_m ?q_d ?q_v ?_ ?q_k6 ?q_k7; (case q_N => k_asm); (case q_m => k_mem); (case q_d => assumption); (case q_v => first | with_reducible exact wkv_rows | with_reducible exact wkv_map | with_reducible exact wkv_rooms | with_reducible exact wkv_most | with_reducible exact wkv_key | with_reducible exact wkv_value | with_reducible exact wkv_number | exact wkv_rows | exact wkv_map | exact wkv_rooms | exact wkv_most | exact wkv_key | exact wkv_value | exact wkv_number); (case q_k6 => with_unfolding_all rfl); (case q_k7 => intro _; with_unfolding_all rfl)); intro _))
  (k_with "M ite" => (k_here; first | (refine ite_pos (by (try simp only [beq_iff_eq, bne_iff_ne, decide_eq_true_eq, ne_eq]); omega) ?_) | (refine ite_neg (by (try simp only [beq_iff_eq, bne_iff_ne, decide_eq_true_eq, ne_eq]); omega) ?_)))
  trivial
section
section
variable {prog : Program} {w : World} {A : Around} {E : Value → Shared → Prop} {s : Shared} {h₀ : Heap} {L D D2 : Addr} {m : Str → Option Value} {news : Led} {vs ws : List Value} {x : Int} {r : List Int} {n n2 : Nat} {Q : Value → Shared → Prop}
theorem mi_necons (N : News h₀ L s.heap news) (hm : (D, W.listOf vs.toArray n) ∈ news) (hi : IntsAre vs (x :: r)) (hm2 : (D2, W.listOf ws.toArray n2) ∈ news) (hi2 : IntsAre ws []) (hu : A.units + 64 < cLine) (h : Q (.bool true) s) :
    wpAny (model prog w) A (compareOp .NotEq (.ref D) (.ref D2)) Q E s :=
  ke_ne_ints (PySem.IsL.isList (n := n) (N _ hm).1) (PySem.IsL.isList (n := n2) (N _ hm2).1) hi hi2 hu (by simpa using h)
theorem mi_nenil (N : News h₀ L s.heap news) (hm : (D, W.listOf vs.toArray n) ∈ news) (hi : IntsAre vs []) (hm2 : (D2, W.listOf ws.toArray n2) ∈ news) (hi2 : IntsAre ws []) (hu : A.units + 64 < cLine) (h : Q (.bool false) s) :
    wpAny (model prog w) A (compareOp .NotEq (.ref D) (.ref D2)) Q E s :=
  ke_ne_ints (PySem.IsL.isList (n := n) (N _ hm).1) (PySem.IsL.isList (n := n2) (N _ hm2).1) hi hi2 hu (by simpa using h)
end
inductive RowAt (rows : List (By × Int)) (own : Led) (i : Nat) (v : Value) : Prop
  | mk (k : By) (n : Int) (T : Addr) (t u : Tok) (e : Nat) (h1 : rows[i]? = some (k, n)) (h2 : v = Value.ref T) (h3 : (T, tupO [Value.bytes k t, Value.int n u] e) ∈ own)
theorem rows_get {rs : List Value} {rows : List (By × Int)} {own : Led} (h : RowsAre rs rows own) {i : Nat} {v : Value} (hv : rs.toArray[i]? = some v) : RowAt rows own i v := by
  have hv' : rs[i]? = some v := by simpa using hv
  have hlt : i < rs.length := by
    by_cases q : i < rs.length
    · exact q
    · rw [List.getElem?_eq_none (by omega)] at hv'; cases hv'
  have hlt2 : i < rows.length := by rw [← h.1]; exact hlt
  obtain ⟨T, t, u, e, a, b⟩ := h.2 i rows[i].1 rows[i].2 (by rw [List.getElem?_eq_getElem hlt2])
  rw [hv'] at a
  cases a
  exact ⟨_, _, T, t, u, e, List.getElem?_eq_getElem hlt2, rfl, b⟩
noncomputable def spotF (rows : List (By × Int)) (key : By) : Int := (selN (fun i => decide ((rows[i]?).map (·.1) = some key)) rows.length).headD (-1)
theorem spot_sp (w : World) (Wa M : Addr) (ω : Wd) (led : Led) (hT : WIs w Wa M ω led) (key : By) (tk : Tok) (hz : ω.rows.length ≤ 100) (sp : Int) (hsp9 : spotF ω.rows key = sp) :
    Sp w 4 160 535 [.ref Wa, .bytes key tk] led (fun v led' => (∃ t, v = .int sp t) ∧ led' = led) := by
  subst hsp9
  cases hT
  rename_i R D oW oD rs nR dkvs tl t0 t1 t2 t3 hW hR hD rD off d1 d2 d3 lW lD
  walk_at "mine spc"
  intro mean mg mb dp un gd outer A₀ base h₀ L hpS gS dS kS oS Q E rest cells B F X N Y OR T hd hu l1 hnx hret hpo
  (try dsimp only [List.cons_append] at N l1)
  (try k_lt l1)
  k_cells Y
  (try dsimp only [List.cons_append, List.nil_append] at N)
  have off2 : OwnOff (tl ++ rest) [Wa, R, D] := own_app off (own_sub OR own3w)
  have hlr := hR.1
  have hz3 : rs.length ≤ 1000 := by omega
  walk_at "mine toenum"
  intro g1
  refine ⟨fun i => decide ((ω.rows[i]?).map (·.1) = some key), ?ctest, ?celt, ?cfin⟩
  case ctest =>
    intro i v t e oe it oi C oC D2 ys m₂ h9 tk9 E9 hv hC hx9 hy9 F1 N1 K9 hK9
    obtain ⟨k, n, T2, t2', u2, e2, hrow, rfl, hT2⟩ := rows_get hR hv
    walk_at "mine steps"
    exact hK9 _ _ (ctest_end (by assumption) (by assumption) (by rw [hrow, Bool.eq_iff_iff]; simp))
  case celt =>
    intro i v t e oe it oi C oC D2 ys m₂ h9 tk9 E9 hv hC hx9 hy9 F1 N1 K9 hK9
    walk_at "mine steps"
    exact hK9 _ _ (cpost_end (by assumption) (by assumption) ⟨_, rfl⟩)
  case cfin =>
    intro ys hys
    unfold LCg.FinA
    intro D2 h9 tk9 F1 N1 o1
    dsimp only
    have hsp : spotF ω.rows key = (selN (fun i => decide ((ω.rows[i]?).map (·.1) = some key)) rs.toArray.size).headD (-1) := by unfold spotF; rw [List.size_toArray, hlr]
    generalize selN (fun i => decide ((ω.rows[i]?).map (·.1) = some key)) rs.toArray.size = sel at hys hsp
    cases sel with
    | nil =>
      repeat' ((fail_if_success (with_reducible show wpAny _ _ (compareOp .NotEq _ _) _ _ _)); (first | (k_unfold; (try dsimp only)) | walk1 | (dsimp only; walk1) | (dsimp only; k_unfold; (try dsimp only)) | fail "no step"))
      refine' mi_nenil ?N ?m ?i ?m2 ?i2 ?u ?_
      case N => k_asm
      case m => k_mem
      case i => assumption
      case m2 => k_mem
      case i2 => exact IntsAre.nil
      case u => ktr_units
      walk_at "mine steps"
      (refine' hret _ _ _ _ ⟨?e125, rfl⟩ ?o125 ?f125 ?n125; (case n125 => (refine' news_sub (by assumption) ?_; (dsimp only [List.cons_append]); walk_at "mine sub")); (case f125 => assumption); (case o125 => exact OR))
      exact ⟨_, by rw [hsp]; rfl⟩
    | cons x r =>
      repeat' ((fail_if_success (with_reducible show wpAny _ _ (compareOp .NotEq _ _) _ _ _)); (first | (k_unfold; (try dsimp only)) | walk1 | (dsimp only; walk1) | (dsimp only; k_unfold; (try dsimp only)) | fail "no step"))
      refine' mi_necons ?N ?m ?i ?m2 ?i2 ?u ?_
      case N => k_asm
      case m => k_mem
      case i => assumption
      case m2 => k_mem
      case i2 => exact IntsAre.nil
      case u => ktr_units
      walk_at "mine steps"
      (refine' hret _ _ _ _ ⟨?e126, rfl⟩ ?o126 ?f126 ?n126; (case n126 => (refine' news_sub (by assumption) ?_; (dsimp only [List.cons_append]); walk_at "mine sub")); (case f126 => assumption); (case o126 => exact OR))
      exact ⟨_, by rw [hsp]; rfl⟩
end
theorem kw_57 : True := by
  (k_with "M call ref" => (k_here; (with_reducible show wpAny _ _ (call (Value.ref 535) _ _) _ _ _); k_dflt (refine' sp_keep (spot_sp _ _ _ _ _ ?q_hT _ _ ?q_z1 _ ?q_z2) ?B ?F ?X ?N ?O ?T ?hk ?hd ?hu ?_; (case q_hT => k_asm); (case q_z1 => first | assumption | walk_at "mine om"); (case q_z2 => assumption); walk_at "mine call"); intro _ _ _ _ N9; (try simp only [List.cons_append, List.append_assoc] at N9); walk_at "mine df"))
  (k_with "M call builtin:list.pop" => (k_here; (with_reducible show wpAny _ _ (call (Value.builtin "list.pop") [Value.ref _, Value.int _ _] _) _ _ _); k_dflt (refine' mi_pop ?q_F ?q_N ?q_U ?q_y ?q_j ?q_z ?_; (case q_F => k_asm); (case q_N => k_asm); (case q_U => k_updF); (case q_y => assumption); (case q_j => rfl); (case q_z => first | assumption | walk_at "mine om")); intro _ _ _ N9; (try dsimp only at N9)))
  (k_with "M call builtin:list.append" => (k_here; (with_reducible show wpAny _ _ (call (Value.builtin "list.append") [Value.ref _, Value.ref _] _) _ _ _); k_dflt (refine' mi_append2 ?q_F ?q_N ?q_U ?q_z ?_; (case q_F => k_asm); (case q_N => k_asm); (case q_U => k_updF); (case q_z => first | assumption | omega | (rw [List.length_eraseIdx]; split <;> omega))); intro _ _ _ N9; (try dsimp only at N9)))
  trivial
section
theorem looked_none (w : World) (Wa M : Addr) (ω : Wd) (led : Led) (hT : WIs w Wa M ω led) (key : By) (tk : Tok) (hz : ω.rows.length ≤ 100) (hsp : spotF ω.rows key = -1) :
    Sp w 6 200 547 [.ref Wa, .bytes key tk] led (fun v led' => v = .none ∧ WIs w Wa M ω led') := by
  have hT' := hT
  cases hT
  rename_i R D oW oD rs nR dkvs tl t0 t1 t2 t3 hW hR hD rD off d1 d2 d3 lW lD
  walk_at "mine sp"
  intro mean mg mb dp un gd outer A₀ base h₀ L hpS gS dS kS oS Q E rest B F X N OR T hd hu hnx hret hpo
  change News _ _ _ (_ :: _ :: _ :: (tl ++ rest)) at N
  have off2 : OwnOff (tl ++ rest) [Wa, R, D] := own_app off (own_sub OR own3w)
  walk_at "mine steps"
  (refine' hret _ _ _ _ ⟨?e134, WIs.mk hW hR hD rD off d1 d2 d3 lW lD⟩ ?o134 ?f134 ?n134; (case n134 => first | assumption | (refine' news_sub (by assumption) ?_; (dsimp only [List.cons_append]); walk_at "mine sub")); (case f134 => assumption); (case o134 => exact OR))
  rfl
theorem looked_some (w : World) (Wa M : Addr) (ω : Wd) (led : Led) (hT : WIs w Wa M ω led) (key : By) (tk : Tok) (hz : ω.rows.length ≤ 100) (i : Nat) (hsp : spotF ω.rows key = (i : Int)) (k : By) (n : Int) (hrow : ω.rows[i]? = some (k, n)) :
    Sp w 6 200 547 [.ref Wa, .bytes key tk] led (fun v led' => (∃ t, v = .int n t) ∧ WIs w Wa M { ω with rows := ω.rows.eraseIdx i ++ [(k, n)] } led') := by
  have hT' := hT
  cases hT
  rename_i R D oW oD rs nR dkvs tl t0 t1 t2 t3 hW hR hD rD off d1 d2 d3 lW lD
  walk_at "mine sp"
  intro mean mg mb dp un gd outer A₀ base h₀ L hpS gS dS kS oS Q E rest B F X N OR T hd hu hnx hret hpo
  change News _ _ _ (_ :: _ :: _ :: (tl ++ rest)) at N
  have off2 : OwnOff (tl ++ rest) [Wa, R, D] := own_app off (own_sub OR own3w)
  obtain ⟨T2, t2', u2, e2, hy, hT2⟩ := hR.2 i k n hrow
  have hlr := hR.1
  walk_at "mine steps"
  have hR' := rows_snoc (rows_erase hR i) (sub_refl _) hT2
  (refine' hret _ _ _ _ ⟨?e133, WIs.mk hW hR' hD rD off d1 d2 d3 lW lD⟩ ?o133 ?f133 ?n133; (case n133 => first | assumption | (refine' news_sub (by assumption) ?_; (dsimp only [List.cons_append]); walk_at "mine sub")); (case f133 => assumption); (case o133 => exact OR))
  exact ⟨_, rfl⟩
end
section
theorem deleted_none (w : World) (Wa M : Addr) (ω : Wd) (led : Led) (hT : WIs w Wa M ω led) (key : By) (tk : Tok) (hz : ω.rows.length ≤ 100) (hsp : spotF ω.rows key = -1) :
    Sp w 6 200 554 [.ref Wa, .bytes key tk] led (fun v led' => (∃ t, v = .int (-2) t) ∧ WIs w Wa M ω led') := by
  have hT' := hT
  cases hT
  rename_i R D oW oD rs nR dkvs tl t0 t1 t2 t3 hW hR hD rD off d1 d2 d3 lW lD
  walk_at "mine sp"
  intro mean mg mb dp un gd outer A₀ base h₀ L hpS gS dS kS oS Q E rest B F X N OR T hd hu hnx hret hpo
  change News _ _ _ (_ :: _ :: _ :: (tl ++ rest)) at N
  have off2 : OwnOff (tl ++ rest) [Wa, R, D] := own_app off (own_sub OR own3w)
  walk_at "mine steps"
  (refine' hret _ _ _ _ ⟨?e142, WIs.mk hW hR hD rD off d1 d2 d3 lW lD⟩ ?o142 ?f142 ?n142; (case n142 => first | assumption | (refine' news_sub (by assumption) ?_; (dsimp only [List.cons_append]); walk_at "mine sub")); (case f142 => assumption); (case o142 => exact OR))
  exact ⟨_, rfl⟩
theorem deleted_some (w : World) (Wa M : Addr) (ω : Wd) (led : Led) (hT : WIs w Wa M ω led) (key : By) (tk : Tok) (hz : ω.rows.length ≤ 100) (i : Nat) (hsp : spotF ω.rows key = (i : Int)) (k : By) (n : Int) (hrow : ω.rows[i]? = some (k, n)) :
    Sp w 6 200 554 [.ref Wa, .bytes key tk] led (fun v led' => (∃ t, v = .int 0 t) ∧ WIs w Wa M { ω with rows := ω.rows.eraseIdx i } led') := by
  have hT' := hT
  cases hT
  rename_i R D oW oD rs nR dkvs tl t0 t1 t2 t3 hW hR hD rD off d1 d2 d3 lW lD
  walk_at "mine sp"
  intro mean mg mb dp un gd outer A₀ base h₀ L hpS gS dS kS oS Q E rest B F X N OR T hd hu hnx hret hpo
  change News _ _ _ (_ :: _ :: _ :: (tl ++ rest)) at N
  have off2 : OwnOff (tl ++ rest) [Wa, R, D] := own_app off (own_sub OR own3w)
  obtain ⟨T2, t2', u2, e2, hy, hT2⟩ := hR.2 i k n hrow
  have hlr := hR.1
  walk_at "mine steps"
  have hR' := rows_erase hR i
  (refine' hret _ _ _ _ ⟨?e141, WIs.mk hW hR' hD rD off d1 d2 d3 lW lD⟩ ?o141 ?f141 ?n141; (case n141 => first | assumption | (refine' news_sub (by assumption) ?_; (dsimp only [List.cons_append]); walk_at "mine sub")); (case f141 => assumption); (case o141 => exact OR))
  exact ⟨_, rfl⟩
end
section
theorem wis_end {w : World} {Wa M R D T c : Addr} {ω ω' : Wd} {oW oD oR0 oD0 tup oc : Obj} {rs' : List Value} {nR' : Nat} {dkvs' : List (Int × Value)} {tl rest : Led} {t0 t1 t2 t3 : Tok} {h₀ h' : Heap} {L : Addr}
    (hW : oW.IsDictOf (strKind PySem.Challenge.rw_qz0154_01.row.prog w) (wkv ω M R D t0 t1 t2 t3)) (e1 : ω'.number = ω.number) (e2 : ω'.kw = ω.kw) (e3 : ω'.vw = ω.vw) (e4 : ω'.most = ω.most)
    (hD : oD.IsDictOf (intKind PySem.Challenge.rw_qz0154_01.row.prog w) dkvs') (rD : RmRel dkvs' ω'.vals)
    (off : OwnOff tl [Wa, R, D]) (d1 : Df Wa R) (d2 : Df Wa D) (d3 : Df R D) (lW : (Wa == sysModules) = false) (lD : (D == sysModules) = false) (OR : OwnOff rest (((Wa, oW) :: (R, oR0) :: (D, oD0) :: tl).map (·.1)))
    (N : News h₀ L h' ((T, tup) :: (Wa, oW) :: (R, W.listOf rs'.toArray nR') :: (D, oD) :: (tl ++ (c, oc) :: rest))) (l1 : Wa < T ∧ R < T ∧ D < T ∧ AllLt T (tl ++ (c, oc) :: rest)) (hR : RowsAre rs' ω'.rows ((T, tup) :: tl)) :
    ∃ foot', WIs w Wa M ω' foot' ∧ OwnOff rest (foot'.map (·.1)) ∧ News h₀ L h' (foot' ++ rest) := by
  have hW' : oW.IsDictOf (strKind PySem.Challenge.rw_qz0154_01.row.prog w) (wkv ω' M R D t0 t1 t2 t3) := by
    have : wkv ω' M R D t0 t1 t2 t3 = wkv ω M R D t0 t1 t2 t3 := by unfold wkv; rw [e1, e2, e3, e4]
    rw [this]; exact hW
  refine ⟨_, WIs.mk (nR := nR') hW' hR hD rD ?_ d1 d2 d3 lW lD, ?_, ?_⟩
  · intro p hp b hb
    rcases List.mem_cons.mp hp with rfl | hp
    · simp only [List.mem_cons, List.not_mem_nil, or_false] at hb
      rcases hb with h | h | h <;> subst h
      · exact Ne.symm (Nat.ne_of_lt l1.1)
      · exact Ne.symm (Nat.ne_of_lt l1.2.1)
      · exact Ne.symm (Nat.ne_of_lt l1.2.2.1)
    · exact off p hp b hb
  · exact own_cons (own_at OR (.head _)) (own_cons (own_at OR (.tail _ (.head _))) (own_cons (own_at OR (.tail _ (.tail _ (.head _)))) (own_cons (fun p hp => Nat.ne_of_lt (allLt_mem l1.2.2.2 p (List.mem_append_right _ (.tail _ hp)))) (own_sub OR fun x hx => (.tail _ (.tail _ (.tail _ hx)))))))
  · exact news_sub N (by (try simp only [List.cons_append, List.append_assoc]); walk_at "mine sub")
theorem updw_22 (w : World) (Wa M : Addr) (ω : Wd) (led : Led) (hT : WIs w Wa M ω led) (key oct : By) (tk t2 t3 : Tok) (hz : ω.rows.length ≤ 100) (sp : Int) (hsp : spotF ω.rows key = sp) :
    Sp w 6 300 540 [.ref Wa, .bytes key tk, .bytes oct t2, .int 3 t3] led (fun v led' => (∃ t, v = .int (-22) t) ∧ WIs w Wa M ω led') := by
  have hT' := hT
  cases hT
  rename_i R D oW oD rs nR dkvs tl t0 t1 t2 t3 hW hR hD rD off d1 d2 d3 lW lD
  walk_at "mine spc"
  intro mean mg mb dp un gd outer A₀ base h₀ L hpS gS dS kS oS Q E rest cells B F X N Y OR T hd hu l1 hnx hret hpo
  (try dsimp only [List.cons_append] at N l1)
  (try k_lt l1)
  k_cells Y
  (try dsimp only [List.cons_append, List.nil_append] at N)
  have off2 : OwnOff (tl ++ rest) [Wa, R, D] := own_app off (own_sub OR own3w)
  have hlr := hR.1
  have OR1 := own_cell3 (by assumption) (by assumption) (Nat.le_add_right _ 1) OR
  have off3 := own_app off (own_sub OR1 own3w)
  walk_at "mine steps"
  (refine' hret _ _ _ _ ⟨?e152, WIs.mk hW hR hD rD off d1 d2 d3 lW lD⟩ ?o152 ?f152 ?n152; (case n152 => first | assumption | (refine' news_sub (by assumption) ?_; (dsimp only [List.cons_append]); walk_at "mine sub")); (case f152 => assumption); (case o152 => exact OR))
  exact ⟨_, rfl⟩
theorem updw_17 (w : World) (Wa M : Addr) (ω : Wd) (led : Led) (hT : WIs w Wa M ω led) (key oct : By) (tk t2 t3 : Tok) (hz : ω.rows.length ≤ 100) (sp : Int) (hsp : spotF ω.rows key = sp) (h0 : 0 ≤ sp) :
    Sp w 6 300 540 [.ref Wa, .bytes key tk, .bytes oct t2, .int 1 t3] led (fun v led' => (∃ t, v = .int (-17) t) ∧ WIs w Wa M ω led') := by
  have hT' := hT
  cases hT
  rename_i R D oW oD rs nR dkvs tl t0 t1 t2 t3 hW hR hD rD off d1 d2 d3 lW lD
  walk_at "mine spc"
  intro mean mg mb dp un gd outer A₀ base h₀ L hpS gS dS kS oS Q E rest cells B F X N Y OR T hd hu l1 hnx hret hpo
  (try dsimp only [List.cons_append] at N l1)
  (try k_lt l1)
  k_cells Y
  (try dsimp only [List.cons_append, List.nil_append] at N)
  have off2 : OwnOff (tl ++ rest) [Wa, R, D] := own_app off (own_sub OR own3w)
  have hlr := hR.1
  have OR1 := own_cell3 (by assumption) (by assumption) (Nat.le_add_right _ 1) OR
  have off3 := own_app off (own_sub OR1 own3w)
  walk_at "mine steps"
  (refine' hret _ _ _ _ ⟨?e153, WIs.mk hW hR hD rD off d1 d2 d3 lW lD⟩ ?o153 ?f153 ?n153; (case n153 => first | assumption | (refine' news_sub (by assumption) ?_; (dsimp only [List.cons_append]); walk_at "mine sub")); (case f153 => assumption); (case o153 => exact OR))
  exact ⟨_, rfl⟩
theorem updw_2 (w : World) (Wa M : Addr) (ω : Wd) (led : Led) (hT : WIs w Wa M ω led) (key oct : By) (tk t2 t3 : Tok) (hz : ω.rows.length ≤ 100) (sp : Int) (hsp : spotF ω.rows key = sp) (h0 : sp < 0) :
    Sp w 6 300 540 [.ref Wa, .bytes key tk, .bytes oct t2, .int 2 t3] led (fun v led' => (∃ t, v = .int (-2) t) ∧ WIs w Wa M ω led') := by
  have hT' := hT
  cases hT
  rename_i R D oW oD rs nR dkvs tl t0 t1 t2 t3 hW hR hD rD off d1 d2 d3 lW lD
  walk_at "mine spc"
  intro mean mg mb dp un gd outer A₀ base h₀ L hpS gS dS kS oS Q E rest cells B F X N Y OR T hd hu l1 hnx hret hpo
  (try dsimp only [List.cons_append] at N l1)
  (try k_lt l1)
  k_cells Y
  (try dsimp only [List.cons_append, List.nil_append] at N)
  have off2 : OwnOff (tl ++ rest) [Wa, R, D] := own_app off (own_sub OR own3w)
  have hlr := hR.1
  have OR1 := own_cell3 (by assumption) (by assumption) (Nat.le_add_right _ 1) OR
  have off3 := own_app off (own_sub OR1 own3w)
  walk_at "mine steps"
  (refine' hret _ _ _ _ ⟨?e154, WIs.mk hW hR hD rD off d1 d2 d3 lW lD⟩ ?o154 ?f154 ?n154; (case n154 => first | assumption | (refine' news_sub (by assumption) ?_; (dsimp only [List.cons_append]); walk_at "mine sub")); (case f154 => assumption); (case o154 => exact OR))
  exact ⟨_, rfl⟩
end
section
section
variable {prog : Program} {w : World} {A : Around} {h₀ : Heap} {L : Addr} {m : Str → Option Value} {env : Env} {ct elt : PySem.Expr} {x : Str} {scope : Scope} {cl : List (Str × Addr)} {s : Shared} {S : Led → Prop} {Fin : List Value → Led → Prop} {news : Led}
theorem comp_testR {n : Nat} (bf : Nat → Bool)
    (test : ∀ (i : Nat) t I oI C oC D ys m₂ h tk (E' : Value → Shared → Prop), i < n → LCg.NsObj oC m₂ → m₂ x = some (.int (i : Int) t) → Fr h₀ L h m → News h₀ L h ((I, oI) :: (C, oC) :: (D, LCg.lst ys) :: news) →
      ∀ K9 : Bool → Shared → Prop, Into (CTest h₀ L m ((I, oI) :: (C, oC) :: (D, LCg.lst ys) :: news) s (bf i)) K9 → wpAny (model prog w) A (isTrue ct (compEnvC scope cl C env) (eval ct (compEnvC scope cl C env))) K9 E' { s with heap := h, toks := tk })
    (el : ∀ (i : Nat) t I oI C oC D ys m₂ h tk (E' : Value → Shared → Prop), i < n → LCg.NsObj oC m₂ → m₂ x = some (.int (i : Int) t) → Fr h₀ L h m → News h₀ L h ((I, oI) :: (C, oC) :: (D, LCg.lst ys) :: news) →
      ∀ K9 : Value → Shared → Prop, Into (CPost h₀ L m ((I, oI) :: (C, oC) :: (D, LCg.lst ys) :: news) s (fun y => ∃ t, y = .int (i : Int) t)) K9 → wpAny (model prog w) A (eval elt (compEnvC scope cl C env)) K9 E' { s with heap := h, toks := tk })
    (hS : S news) (fin : ∀ ys, IntsAre ys (selN bf n) → Fin ys news) : LCt.CompRestT prog w A h₀ L m env ct elt x scope cl s S (fun i v => ∃ t, v = .int (0 + (i : Int)) t) Fin n 0 [] news := by
  have key : ∀ (j i : Nat) (ys : List Value), i + j = n → IntsAre ys (selN bf i) → LCt.CompRestT prog w A h₀ L m env ct elt x scope cl s S (fun i v => ∃ t, v = .int (0 + (i : Int)) t) Fin j i ys news := by
    intro j
    induction j with
    | zero =>
      intro i ys hi hy
      have e : i = n := by omega
      subst e
      exact LCt.CompRestT.zero (fin ys hy)
    | succ j ih =>
      intro i ys hi hy
      refine LCt.CompRestT.succ ?_
      intro v I oI C oC D m₂ h tk E' hv hC hx F N off ne
      obtain ⟨t, rfl⟩ := hv
      rw [Int.zero_add] at hx
      refine wpAny_mono (test i t I oI C oC D ys m₂ h tk E' (by omega) hC hx F N _ fun _ _ q => q) (fun b s₂ hq => ?_) fun _ _ e => e
      obtain ⟨rfl, h', tk', rfl, F', N'⟩ := hq
      cases hb : bf i with
      | false =>
        rw [if_neg (by simp)]
        exact ⟨h', tk', news, rfl, F', N', off, hS, ih (i + 1) ys (by omega) (by rw [selN_succ, if_neg (by simp [hb])]; exact hy)⟩
      | true =>
        rw [if_pos rfl]
        refine wpAny_mono (el i t I oI C oC D ys m₂ h' tk' E' (by omega) hC hx F' N' _ fun _ _ q => q) (fun y s₂ hq => ?_) fun _ _ e => e
        obtain ⟨⟨t', rfl⟩, h2, tk2, rfl, F2, N2⟩ := hq
        exact ⟨h2, tk2, news, rfl, F2, N2, off, hS, ih (i + 1) _ (by omega) (by rw [selN_succ, if_pos hb]; exact ints_snoc hy _ _)⟩
  exact key n 0 [] (by omega) IntsAre.nil
end
theorem selN_first {bf : Nat → Bool} {i n : Nat} (hi : i < n) (hb : bf i = true) (hj : ∀ j, j < i → bf j = false) : ∃ r, selN bf n = (i : Int) :: r := by
  have h1 : ∀ k, k ≤ i → selN bf k = [] := by
    intro k
    induction k with
    | zero => intro _; rfl
    | succ k ih => intro hk; rw [selN_succ, if_neg (by simp [hj k (by omega)]), ih (by omega)]
  have h2 : ∀ k, i < k → ∃ r, selN bf k = (i : Int) :: r := by
    intro k
    induction k with
    | zero => intro h; omega
    | succ k ih =>
      intro hk
      rw [selN_succ]
      by_cases e : k = i
      · subst e
        rw [if_pos hb, h1 k (Nat.le_refl _)]
        exact ⟨[], rfl⟩
      · obtain ⟨r, hr⟩ := ih (by omega)
        rw [hr]
        split
        · exact ⟨r ++ [(k : Int)], rfl⟩
        · exact ⟨r, rfl⟩
  exact h2 n hi
end
theorem kw_58 : True := by
  (k_with "M eval ListComp" => (k_here; (with_reducible show wpAny _ _ (eval (PySem.Expr.ListComp _ [⟨_, _, [], _⟩] _ _) _) _ _ _); k_dflt (refine LCg.ListComp_U (F₀ := by k_asm) (by first | rfl | with_unfolding_all rfl) (by decide) (by rfl) (by decide) (by rfl) ?_)))
  (k_with "M eval ListComp" => (k_here; (with_reducible show wpAny _ _ (eval (PySem.Expr.ListComp _ [⟨_, _, _ :: _, _⟩] _ _) _) _ _ _); k_dflt (refine LCt.ListComp_T (F₀ := by k_asm) (by first | rfl | with_unfolding_all rfl) (by decide) (by rfl) (by decide) (by rfl) ?_)))
  (k_with "M mine tosrct" => repeat' ((fail_if_success (with_reducible show LCt.CompSrcT _ _ _ _ _ _ _ _ _ _ _ _ _ _ _)); walk_at "mine one"))
  trivial
section
theorem news_drop2 {h₀ h : Heap} {L : Addr} {a b : Addr × Obj} {l : Led} (N : News h₀ L h (a :: b :: l)) : News h₀ L h (a :: l) := news_sub N (by walk_at "mine sub")
theorem ints_of {ys : List Value} : ∀ {ns : List Int}, ys.length = ns.length → (∀ (j : Nat) y, ys[j]? = some y → ∃ k t, ns[j]? = some k ∧ y = .int k t) → IntsAre ys ns := by
  induction ys with
  | nil =>
    intro ns h _
    cases ns with
    | nil => exact .nil
    | cons a l => cases h
  | cons y r ih =>
    intro ns h k
    cases ns with
    | nil => cases h
    | cons n q =>
      obtain ⟨a, t, e1, e2⟩ := k 0 y rfl
      obtain rfl := Option.some.inj e1
      subst e2
      exact .cons _ _ (ih (Nat.succ.inj h) fun j y hj => k (j + 1) y hj)
theorem range_small {n : Int} (h0 : 0 ≤ n) (h1 : n ≤ 100) : Builtin.Range.small 0 n 1 = true ∧ Builtin.Range.rangeSize 0 n 1 = ((n.toNat : Nat) : Int) ∧ n.toNat ≤ sizeLine := by
  obtain ⟨k, rfl⟩ := Int.eq_ofNat_of_zero_le h0
  have hk : k < 101 := by omega
  have : ∀ k : Fin 101, Builtin.Range.small 0 (k.1 : Int) 1 = true ∧ Builtin.Range.rangeSize 0 (k.1 : Int) 1 = (((k.1 : Int).toNat : Nat) : Int) ∧ (k.1 : Int).toNat ≤ sizeLine := by decide +kernel
  exact this ⟨k, hk⟩
section
variable {prog : Program} {w : World} {A : Around} {E : Value → Shared → Prop} {s : Shared} {h₀ : Heap} {L a : Addr} {m : Str → Option Value} {cn : Str} {cs : Scope} {ccd : Value} {cl : List (Str × Addr)} {x y : Str} {v u : Value} {f g k k2 : Int} {t₁ t₂ : Tok} {n n2 : Nat} {p1 p2 p3 p4 p5 p6 p7 : Pos} {whole : Sem Value} {Q : Bool → Shared → Prop}
theorem and_fg (F : Fr h₀ L s.heap m) (hx : m x = some v) (q : OkN cs x) (hy : m y = some u) (r : OkN cs y) (ev : v = .int f t₁) (eu : u = .int g t₂) (hn : ¬ (f = k ∧ k2 ≤ g)) (h : ∀ tk, Q false { s with toks := tk }) :
    wpAny (model prog w) A (isTrue (.BoolOp .And [.Compare (.Name x p1) [.Eq] [.Constant (.int k) n p2] p3, .Compare (.Name y p4) [.GtE] [.Constant (.int k2) n2 p5] p6] p7) (envX cn cs L a ccd cl) whole) Q E s := by
  subst ev eu
  refine isTrue_and (wpAny_isTrue_Compare1 (nameX_L F hx (wpAny_Constant_int (eq_int (wpAny_truthy_bool ?_))) q.1 q.2.1 q.2.2))
  by_cases e : f = k
  · rw [if_pos (by simp [e])]
    refine isTrue_and (wpAny_isTrue_Compare1 (nameX_L (s := { s with toks := s.toks + 1 }) F hy (wpAny_Constant_int (ge_int (wpAny_truthy_bool ?_))) r.1 r.2.1 r.2.2))
    rw [if_neg (by simpa using fun z => hn ⟨e, z⟩)]
    exact h _
  · rw [if_neg (by simpa using e)]
    exact h _
end
theorem kw_59 : True := by
  (k_with "M isTrue BoolOp" => (k_here; (with_reducible show wpAny _ _ (isTrue (PySem.Expr.BoolOp BoolOp.And [PySem.Expr.Compare (PySem.Expr.Name _ _) [CmpOp.Eq] [PySem.Expr.Constant (Const.int _) _ _] _, PySem.Expr.Compare (PySem.Expr.Name _ _) [CmpOp.GtE] [PySem.Expr.Constant (Const.int _) _ _] _] _) _ _) _ _ _); k_dflt (refine' and_fg ?q_F ?q_h ?q_k ?q_h2 ?q_k2 ?q_e1 ?q_e2 ?q_n ?_; (case q_F => k_asm); (case q_h => rfl); (case q_h2 => rfl); (case q_k => exact ⟨rfl, rfl, rfl⟩); (case q_k2 => exact ⟨rfl, rfl, rfl⟩); (case q_e1 => rfl); (case q_e2 => rfl); (case q_n => assumption)); intro _))
  trivial
inductive UpdOk (ω : Wd) (sp : Int) : List (By × Int) → Nat → Prop
  | there (i : Nat) (hsp : sp = (i : Int)) (k : By) (n : Nat) (hrow : ω.rows[i]? = some (k, (n : Int))) : UpdOk ω sp (ω.rows.eraseIdx i) n
  | full (hsp : sp = -1) (hfl : (ω.rows.length : Int) = ω.most) (k : By) (n : Nat) (hrow : ω.rows[0]? = some (k, (n : Int))) : UpdOk ω sp (ω.rows.eraseIdx 0) n
  | free (hsp : sp = -1) (hfl : (ω.rows.length : Int) ≠ ω.most) (hm0 : 0 ≤ ω.most) (hm1 : ω.most ≤ 100) (n : Nat) (hnm : (n : Int) < ω.most) (hni : (n : Int) ∉ ω.rows.map (·.2)) (hlow : ∀ j : Nat, j < n → (j : Int) ∈ ω.rows.map (·.2)) : UpdOk ω sp ω.rows n
inductive UpdJ (h₀ : Heap) (L : Addr) (m : Str → Option Value) (Wa' : Addr × Obj) (R : Addr) (D' : Addr × Obj) (tl rest : Led) (rows' : List (By × Int)) (n : Nat) (s : Shared) (fl : Flow) (s' : Shared) : Prop
  | mk (e1 : fl = .next) (h' : Heap) (tk' : Nat) (rs' : List Value) (nR' : Nat) (t : Tok) (e2 : s' = { s with heap := h', toks := tk' }) (F : Fr h₀ L h' (fun y => if y = Str.ofString "slot" then some (.int (n : Int) t) else m y)) (N : News h₀ L h' (Wa' :: (R, W.listOf rs'.toArray nR') :: D' :: (tl ++ rest))) (hR : RowsAre rs' rows' tl)
theorem upd_join {M : PySem.Model} {A : Around} {E : Value → Shared → Prop} {s : Shared} {env : Env} {st : Stmt} {tail : List Stmt} {Q : Flow → Shared → Prop} {h₀ : Heap} {L : Addr} {m : Str → Option Value} {Wa' D' : Addr × Obj} {R : Addr} {oR : Obj} {tl rest : Led} (rows' : List (By × Int)) (n : Nat) (_ : Fr h₀ L s.heap m) (_ : News h₀ L s.heap (Wa' :: (R, oR) :: D' :: (tl ++ rest)))
    (h1 : ∀ K9 : Flow → Shared → Prop, Into (UpdJ h₀ L m Wa' R D' tl rest rows' n s) K9 → wpAny M A (exec st env) K9 E s)
    (h2 : ∀ h' tk' rs' nR' t, Fr h₀ L h' (fun y => if y = Str.ofString "slot" then some (.int (n : Int) t) else m y) → News h₀ L h' (Wa' :: (R, W.listOf (List.toArray rs') nR') :: D' :: (tl ++ rest)) → RowsAre rs' rows' tl → wpAny M A (execs tail env) Q E { s with heap := h', toks := tk' }) : wpAny M A (execs (st :: tail) env) Q E s := by
  refine wpAny_execs_cons (h1 _ fun fl s' j => ?_)
  obtain ⟨rfl, h', tk', rs', nR', t, rfl, F, N, hR⟩ := j
  exact h2 h' tk' rs' nR' t F N hR
theorem kw_60 : True := by
  (k_with "M mine toif" => repeat' ((fail_if_success (with_reducible show wpAny _ _ (execs (Stmt.If _ _ (_ :: _) _ :: _) _) _ _ _)); walk_at "mine one"))
  trivial
theorem updw_ok (w : World) (Wa M : Addr) (ω : Wd) (led : Led) (hT : WIs w Wa M ω led) (key oct : By) (tk t2 t3 : Tok) (hz : ω.rows.length ≤ 100) (f : Int) (c1 : ¬ 2 < f) (sp : Int) (hsp : spotF ω.rows key = sp) (c2 : ¬ (f = 1 ∧ 0 ≤ sp)) (c3 : ¬ (f = 2 ∧ sp < 0)) (rows' : List (By × Int)) (n : Nat) (H : UpdOk ω sp rows' n) (hn : n ≤ ω.vals.length) (hv : ω.vals.length ≤ 100) :
    Sp w 6 300 540 [.ref Wa, .bytes key tk, .bytes oct t2, .int f t3] led (fun v led' => (∃ t, v = .int 0 t) ∧ WIs w Wa M { ω with rows := rows' ++ [(key, (n : Int))], vals := valsSet ω.vals n oct } led') := by
  have hT' := hT
  cases hT
  rename_i R D oW oD rs nR dkvs tl t0 t1 t2 t3 hW hR hD rD off d1 d2 d3 lW lD
  walk_at "mine spc"
  intro mean mg mb dp un gd outer A₀ base h₀ L hpS gS dS kS oS Q E rest cells B F X N Y OR T hd hu l1 hnx hret hpo
  (try dsimp only [List.cons_append] at N l1)
  (try k_lt l1)
  k_cells Y
  (try dsimp only [List.cons_append, List.nil_append] at N)
  have off2 : OwnOff (tl ++ rest) [Wa, R, D] := own_app off (own_sub OR own3w)
  have hdl := rD.1
  have hdz : dkvs.length ≤ sizeLine := by rw [sizeLine_eq]; omega
  have hlr := hR.1
  have hlr9 : rs.length ≤ sizeLine := by rw [sizeLine_eq]; omega
  have OR1 := own_cell3 (by assumption) (by assumption) (Nat.le_add_right _ 1) OR
  have off3 := own_app off (own_sub OR1 own3w)
  have hrz : rows'.length ≤ 100 := by
    cases H with
    | there i _ k n _ => exact Nat.le_trans (List.length_eraseIdx_le ..) hz
    | full _ _ k n _ => exact Nat.le_trans (List.length_eraseIdx_le ..) hz
    | free => exact hz
  walk_at "mine toif"
  refine upd_join rows' n (by assumption) (by assumption) ?h1 ?h2
  case h2 =>
    intro h7 tk7 rs7 nR7 t7 F7 N7 hR7
    have hl7 := hR7.1
    walk_at "mine steps"
    rename News _ _ _ (_ :: (Wa, _) :: _) => N9
    rename _ < _ ∧ _ < _ ∧ _ < _ ∧ AllLt _ _ => l9
    rename Obj.IsDictOf _ _ (PySem.stored _ _ _) => hD9
    obtain ⟨foot, f1, f2, f3⟩ := wis_end (ω' := { ω with rows := rows' ++ [(key, (n : Int))], vals := valsSet ω.vals n oct }) hW rfl rfl rfl rfl hD9 (rm_store rD hn oct _) off d1 d2 d3 lW lD OR N9 l9 (rows_snoc hR7 (fun p hp => List.Mem.tail _ hp) (.head _))
    exact hret _ foot _ _ ⟨⟨_, rfl⟩, f1⟩ f2 (by assumption) f3
  case h1 =>
    intro K9 hK9
    cases H with
    | there i hsp9 k n hrow =>
      subst hsp9
      obtain ⟨T2, t2', u2, e2, hy, hT2⟩ := hR.2 i k n hrow
      walk_at "mine steps"
      exact hK9 _ _ ⟨rfl, _, _, _, _, _, rfl, by assumption, by assumption, rows_erase hR i⟩
    | full hsp9 hfl k n hrow =>
      obtain ⟨T2, t2', u2, e2, hy, hT2⟩ := hR.2 0 k n hrow
      walk_at "mine steps"
      exact hK9 _ _ ⟨rfl, _, _, _, _, _, rfl, by assumption, by assumption, rows_erase hR 0⟩
    | free hsp9 hfl hm0 hm1 n hnm hni hlow =>
      walk_at "mine tosrct"
      rename IsRange _ _ _ _ _ _ _ _ => hrg
      refine' LCt.CompSrcT.range (n := ω.most.toNat) (by rfl) (by k_asm) (by k_asm) hrg ?hs9 ?hn9 ?hz9 ?_
      case hs9 => exact (range_small hm0 hm1).1
      case hn9 => exact (range_small hm0 hm1).2.1
      case hz9 => exact (range_small hm0 hm1).2.2
      intro g1
      refine comp_testR (fun j => !decide ((j : Int) ∈ ω.rows.map (·.2))) ?test9 ?el9 ?S9 ?fin9
      case S9 => trivial
      case el9 =>
        intro i t I oI C oC D9 ys m₂ h9 tk9 E9 hi9 hC hx F1 N1 K8 hK8
        walk_at "mine steps"
        exact hK8 _ _ (cpost_end (by assumption) (by assumption) ⟨_, rfl⟩)
      case test9 =>
        intro i t I oI C oC D9 ys m₂ h9 tk9 E9 hi9 hC hx F1 N1 K8 hK8
        walk_at "mine tosrc"
        refine' LCg.CompSrc.ledger (its := rs.toArray) (by rfl) (by k_asm) (by k_asm) ?m9 ?z9 ?_
        case m9 => k_mem
        case z9 => simpa using hlr9
        intro g2
        refine comp_pure (fun (j : Nat) (y : Value) => ∃ k t, (ω.rows.map (·.2))[j]? = some k ∧ y = .int k t) ?turn8 ?S8 ?fin8
        case S8 => exact .inr ⟨_, by k_mem, rfl, _, rfl⟩
        case turn8 =>
          intro j v ys2 I2 oI2 C2 oC2 D2 m3 h8 tk8 E8 hj hv hC2 hx2 F2 N2 off2 ne2 K7 hK7
          obtain ⟨k, n2, T2, t2', u2, e2, hrow, rfl, hT2⟩ := rows_get hR hv
          walk_at "mine steps"
          exact hK7 _ _ (cpost_end (by assumption) (by assumption) ⟨_, _, by rw [List.getElem?_map, hrow]; rfl, rfl⟩)
        case fin8 =>
          intro ys2 hl2 hy2
          unfold LCg.FinE
          intro D2 h8 tk8 F2 N2 o2
          have hys : IntsAre ys2 (ω.rows.map (·.2)) := ints_of (by rw [hl2, List.size_toArray, hlr]; simp) hy2
          dsimp only
          walk_at "mine steps"
          exact hK8 _ _ (ctest_end (by assumption) (news_sub N2 fun p hp => .tail _ hp) (by rw [any_mem]))
      case fin9 =>
        intro ys hys
        obtain ⟨r9, hsel⟩ := selN_first (bf := fun j => !decide ((j : Int) ∈ ω.rows.map (·.2))) (i := n) (n := ω.most.toNat) (by omega) (by simpa using hni) (fun j hj => by simpa using hlow j hj)
        rw [hsel] at hys
        unfold LCg.FinE
        intro D2 h8 tk8 F2 N2 o2
        simp only [LCg.Off1] at o2
        dsimp only
        walk_at "mine steps"
        rename News _ _ _ (_ :: (Wa, _) :: _) => N9
        exact hK9 _ _ ⟨rfl, _, _, _, _, _, rfl, by assumption, news_sub N9 fun p hp => .tail _ hp, hR⟩
theorem updw_there (w : World) (Wa M : Addr) (ω : Wd) (led : Led) (hT : WIs w Wa M ω led) (key oct : By) (tk t2 t3 : Tok) (hz : ω.rows.length ≤ 100) (f : Int) (hf : f = 0 ∨ f = 2) (i : Nat) (hsp : spotF ω.rows key = (i : Int)) (k : By) (n : Nat) (hrow : ω.rows[i]? = some (k, (n : Int))) (hn : n ≤ ω.vals.length) (hv : ω.vals.length ≤ 100) :
    Sp w 6 300 540 [.ref Wa, .bytes key tk, .bytes oct t2, .int f t3] led (fun v led' => (∃ t, v = .int 0 t) ∧ WIs w Wa M { ω with rows := ω.rows.eraseIdx i ++ [(key, (n : Int))], vals := valsSet ω.vals n oct } led') :=
  updw_ok w Wa M ω led hT key oct tk t2 t3 hz f (fun h => omF3 hf h (by decide) (by decide)) _ hsp (fun h => omF4 hf h (by decide) (by decide)) (fun h => omF6 h) _ n (.there i rfl k n hrow) hn hv
theorem updw_full (w : World) (Wa M : Addr) (ω : Wd) (led : Led) (hT : WIs w Wa M ω led) (key oct : By) (tk t2 t3 : Tok) (hz : ω.rows.length ≤ 100) (f : Int) (hf : f = 0 ∨ f = 1) (hsp : spotF ω.rows key = -1) (hfl : (ω.rows.length : Int) = ω.most) (k : By) (n : Nat) (hrow : ω.rows[0]? = some (k, (n : Int))) (hn : n ≤ ω.vals.length) (hv : ω.vals.length ≤ 100) :
    Sp w 6 300 540 [.ref Wa, .bytes key tk, .bytes oct t2, .int f t3] led (fun v led' => (∃ t, v = .int 0 t) ∧ WIs w Wa M { ω with rows := ω.rows.eraseIdx 0 ++ [(key, (n : Int))], vals := valsSet ω.vals n oct } led') :=
  updw_ok w Wa M ω led hT key oct tk t2 t3 hz f (fun h => omF3 hf h (by decide) (by decide)) _ hsp (fun h => absurd h.2 (by decide)) (fun h => omF4 hf h (by decide) (by decide)) _ n (.full rfl hfl k n hrow) hn hv
theorem updw_free (w : World) (Wa M : Addr) (ω : Wd) (led : Led) (hT : WIs w Wa M ω led) (key oct : By) (tk t2 t3 : Tok) (hz : ω.rows.length ≤ 100) (f : Int) (hf : f = 0 ∨ f = 1) (hsp : spotF ω.rows key = -1) (hfl : (ω.rows.length : Int) ≠ ω.most) (hm0 : 0 ≤ ω.most) (hm1 : ω.most ≤ 100)
    (n : Nat) (hnm : (n : Int) < ω.most) (hni : (n : Int) ∉ ω.rows.map (·.2)) (hlow : ∀ j : Nat, j < n → (j : Int) ∈ ω.rows.map (·.2)) (hn : n ≤ ω.vals.length) (hv : ω.vals.length ≤ 100) :
    Sp w 6 300 540 [.ref Wa, .bytes key tk, .bytes oct t2, .int f t3] led (fun v led' => (∃ t, v = .int 0 t) ∧ WIs w Wa M { ω with rows := ω.rows ++ [(key, (n : Int))], vals := valsSet ω.vals n oct } led') :=
  updw_ok w Wa M ω led hT key oct tk t2 t3 hz f (fun h => omF3 hf h (by decide) (by decide)) _ hsp (fun h => absurd h.2 (by decide)) (fun h => omF4 hf h (by decide) (by decide)) _ n (.free rfl hfl hm0 hm1 n hnm hni hlow) hn hv
end
section
theorem lhash_step (pre : List Int) (f n : Int) (h : f = hashL pre) : (Builtin.bitXor f n * 16777619).fmod 4294967296 = hashL (pre ++ [n]) := by
  rw [h, Int.fmod_eq_emod_of_nonneg _ (by decide)]
  simp [hashL, List.foldl_append]
theorem lhash_sp (w : World) (b : By) (tb : Tok) (hz : b.size ≤ 100) :
    Sp w 1 8 578 [.bytes b tb] [] (fun v led' => led' = [] ∧ ∃ t', v = .int (hashF b) t') := by
  k_with "pyIter bytes" => k_state (fun pre f => f = hashL pre) "total"
  k_with "state" => exact lhash_step _ _ _ (by assumption)
  walk_at "mine sp"
  intro mean mg mb dp un gd outer A₀ base h₀ L hpS gS dS kS oS Q E rest B F X N OR T hd hu hnx hret hpo
  change News _ _ _ rest at N
  walk_at "mine steps"
  refine hret _ [] _ _ ⟨rfl, _, congrArg (fun x => Value.int x _) (by assumption)⟩ OR (by assumption) (by assumption)
end
section
def OctL (vs : List Value) (k : Nat) : Prop := vs.length = k ∧ ∀ (i : Nat) v, vs[i]? = some v → ∃ n t, v = Value.int n t ∧ 0 ≤ n ∧ n < 256
theorem octL_ints {vs : List Value} : (∀ (i : Nat) v, vs[i]? = some v → ∃ n t, v = Value.int n t ∧ 0 ≤ n ∧ n < 256) → ∃ ns, IntsAre vs ns ∧ ns.length = vs.length ∧ ∀ n ∈ ns, 0 ≤ n ∧ n < 256 := by
  induction vs with
  | nil => exact fun _ => ⟨[], .nil, rfl, fun _ h => (nomatch h)⟩
  | cons v r ih =>
    intro h
    obtain ⟨n, t, rfl, h1, h2⟩ := h 0 v rfl
    obtain ⟨ns, i1, i2, i3⟩ := ih fun i v hi => h (i + 1) v hi
    exact ⟨n :: ns, .cons n t i1, congrArg Nat.succ i2, List.forall_mem_cons.mpr ⟨⟨h1, h2⟩, i3⟩⟩
theorem mi_mkbytes {prog : Program} {w : World} {A : Around} {E : Value → Shared → Prop} {s : Shared} {h₀ : Heap} {L l : Addr} {m : Str → Option Value} {news : Led} {vs : List Value} {n k : Nat} {Q : Value → Shared → Prop} (F : Fr h₀ L s.heap m) (N : News h₀ L s.heap news) (hh : A.handled = none) (hm : (l, W.listOf vs.toArray n) ∈ news) (ho : OctL vs k) (hz : k ≤ 1000)
    (h : ∀ h' b t tk, b.size = k → Fr h₀ L h' m → News h₀ L h' news → Q (.bytes b t) { s with heap := h', toks := tk }) : wpAny (model prog w) A (call (.type "bytes") [.ref l]) Q E s := by
  obtain ⟨h1, h2⟩ := ho
  obtain ⟨ns, i1, i2, i3⟩ := octL_ints h2
  refine bytes_K F N (PySem.IsL.isList (n := n) (N _ hm).1) i1 i3 (by rw [sizeLine_eq]; omega) hh fun h' t tk F' N' _ => h h' _ t tk ?_ F' N'
  simp; omega
theorem kw_61 : True := by
  (k_with "M call type:bytes" => (k_here; (with_reducible show wpAny _ _ (call (Value.type _) [Value.ref _]) _ _ _); k_dflt (refine' mi_mkbytes ?q_F ?q_N ?q_h ?q_m ?q_o ?q_z ?_; (case q_F => k_asm); (case q_N => k_asm); (case q_h => rfl); (case q_m => k_mem); (case q_o => assumption); (case q_z => first | assumption | walk_at "mine om")); intro _ _ _ _ _ _ _))
  trivial
theorem lkey_sp (w : World) (Wa M : Addr) (ω : Wd) (led : Led) (hT : WIs w Wa M ω led) (number : Int) (tk : Tok) (h1 : 0 ≤ ω.kw) (h2 : ω.kw ≤ 100) :
    Sp w 4 100 530 [.ref Wa, .int number tk] led (fun v led' => led' = led ∧ ∃ b t, v = .bytes b t ∧ (b.size : Int) = ω.kw) := by
  cases hT
  rename_i R D oW oD rs nR dkvs tl t0 t1 t2 t3 hW hR hD rD off d1 d2 d3 lW lD
  walk_at "mine spc"
  intro mean mg mb dp un gd outer A₀ base h₀ L hpS gS dS kS oS Q E rest cells B F X N Y OR T hd hu l1 hnx hret hpo
  (try dsimp only [List.cons_append] at N l1)
  (try k_lt l1)
  k_cells Y
  (try dsimp only [List.cons_append, List.nil_append] at N)
  have off2 : OwnOff (tl ++ rest) [Wa, R, D] := own_app off (own_sub OR own3w)
  walk_at "mine tosrc"
  rename IsRange _ _ _ _ _ _ _ _ => hrg
  refine' LCg.CompSrc.range (n := ω.kw.toNat) (by rfl) (by k_asm) (by k_asm) hrg ?hs9 ?hn9 ?hz9 ?_
  case hs9 => exact (range_small h1 h2).1
  case hn9 => exact (range_small h1 h2).2.1
  case hz9 => exact (range_small h1 h2).2.2
  intro g1
  refine comp_pure (fun (i : Nat) (y : Value) => ∃ n t, y = .int n t ∧ 0 ≤ n ∧ n < 256) ?turn ?S ?fin
  case S => trivial
  case turn =>
    intro i v ys I oI C oC D m₂ h9 tk9 E9 hi9 hv hC hx F1 N1 off ne K9 hK9
    obtain ⟨t, rfl⟩ := hv
    walk_at "mine steps"
    exact hK9 _ _ (cpost_end (by assumption) (by assumption) ⟨_, _, rfl, Int.fmod_nonneg_of_pos _ (by decide), Int.fmod_lt_of_pos _ (by decide)⟩)
  case fin =>
    intro ys hl hy
    have ho : OctL ys ω.kw.toNat := ⟨hl, hy⟩
    have hz9 : ω.kw.toNat ≤ 1000 := by omega
    unfold LCg.FinE
    intro D2 h8 tk8 F2 N2 o2
    dsimp only
    walk_at "mine steps"
    refine hret _ _ _ _ ⟨rfl, _, _, rfl, by omega⟩ OR (by assumption) ?_
    refine' news_sub (by assumption) ?_
    dsimp only [List.cons_append]
    walk_at "mine sub"
section
variable {w : World} {mean : ExcName → Option Value} {mg mb : Str → Option Value} {dp un : Nat} {gd : Option (List Code)} {cn : Str} {cs : Scope} {a : Addr} {ccd : Value} {cl : List (Str × Addr)} {outer : List Env} {A₀ : Around} {base h₀ : Heap} {L P : Addr} {m : Str → Option Value} {s : Shared} {Q E : Value → Shared → Prop} {lp led rest : Led}
theorem lkey_go {Wa M : Addr} {ω : Wd} (hT : WIs w Wa M ω led) (number : Int) (tk : Tok) (h1 : 0 ≤ ω.kw) (h2 : ω.kw ≤ 100) (B : Below A₀ base outer h₀) (F : Fr h₀ L s.heap m) (X : (Mine.hd.heap_1 w.params).In h₀) (N : News h₀ L s.heap (led ++ rest)) (OR : OwnOff rest ((led).map (·.1)))
    (T : Top Mine.hd.view_39 (looseW Mine.hd.view_39 [Str.ofString "GateError", Str.ofString "HashMap"]) mean mg mb h₀) (hk : cs.kind = .function) (hd : dp + 4 < recursionLimit) (hu : un + 100 < cLine)
    (hret : ∀ b t h' tk', (Array.size b : Int) = ω.kw → Fr h₀ L h' m → News h₀ L h' (led ++ rest) → Q (.bytes b t) { s with heap := h', toks := tk' }) :
    wpAny (model PySem.Challenge.rw_qz0154_01.row.prog w) (ktrTop dp un gd cn cs L a ccd cl outer) (call (.ref 530) [.ref Wa, .int number tk]) Q E s :=
  sp_use (lkey_sp w Wa M ω led hT number tk h1 h2) B F X N OR T hk hd hu fun v l h' tk' p O' F' N' => (match p with | ⟨e, b, t, e2, z⟩ => e2 ▸ hret b t h' tk' z F' (e ▸ N'))
end
end
section
inductive TurnP (v : Value) (led : Led) (W : Value → Value → Prop) : Prop
  | mk (t : Addr) (ot : Obj) (v₁ v₂ : Value) (nt : Nat) (e1 : v = .ref t) (e2 : (t, ot) ∈ led) (e3 : ot.cls = .type "tuple") (e4 : ot.data = .seq #[v₁, v₂] nt) (T : W v₁ v₂)
theorem rows_turn {rs : List Value} {rows : List (By × Int)} {own led : Led} {i : Nat} {v : Value} {W : Value → Value → Prop} (h : RowsAre rs rows own) (hv : rs.toArray[i]? = some v) (hs : ∀ p ∈ own, p ∈ led) (k : ∀ b n t u, rows[i]? = some (b, n) → W (.bytes b t) (.int n u)) : TurnP v led W := by
  obtain ⟨b, n, T, t, u, e, h1, h2, h3⟩ := rows_get h hv
  exact ⟨T, _, _, _, e, h2, hs _ h3, rfl, rfl, k b n t u h1⟩
section
variable {prog : Program} {w : World} {A : Around} {h₀ : Heap} {L : Addr} {m : Str → Option Value} {env : Env} {elt : PySem.Expr} {x x₂ : Str} {scope : Scope} {cl : List (Str × Addr)} {s : Shared} {S : Led → Prop} {P : Nat → Value → Prop} {Fin : List Value → Led → Prop} {news : Led}
theorem compP_inv {n : Nat} (Inv : Nat → List Value → Led → Prop) (h0 : Inv 0 [] news)
    (turn : ∀ i v ys led, i < n → P i v → Inv i ys led → TurnP v led fun v₁ v₂ =>
      ∀ I oI C oC D m₂ h tk (E' : Value → Shared → Prop), LCg.NsObj oC m₂ → m₂ x = some v₁ → m₂ x₂ = some v₂ → Fr h₀ L h m → News h₀ L h ((I, oI) :: (C, oC) :: (D, LCg.lst ys) :: led) → LCg.Off3 I C D led → ((@Ne Nat I C) ∧ (@Ne Nat I D) ∧ (@Ne Nat C D)) →
      ∀ K9 : Value → Shared → Prop, Into (LCg.CompEnd h₀ L m { s with heap := h, toks := tk } I oI C oC D (LCg.lst ys) S (fun y led' => Inv (i + 1) (ys ++ [y]) led')) K9 → wpAny (model prog w) A (eval elt (compEnvC scope cl C env)) K9 E' { s with heap := h, toks := tk })
    (fin : ∀ ys led, Inv n ys led → Fin ys led) : LCp.CompRestP prog w A h₀ L m env elt x x₂ scope cl s S P Fin n 0 [] news := by
  have key : ∀ (j i : Nat) (ys : List Value) (led : Led), i + j = n → Inv i ys led → LCp.CompRestP prog w A h₀ L m env elt x x₂ scope cl s S P Fin j i ys led := by
    intro j
    induction j with
    | zero =>
      intro i ys led hi hy
      have e : i = n := by omega
      subst e
      exact LCp.CompRestP.zero (fin ys led hy)
    | succ j ih =>
      intro i ys led hi hy
      refine LCp.CompRestP.succ fun v hv => ?_
      obtain ⟨t, ot, v₁, v₂, nt, e1, e2, e3, e4, T⟩ := turn i v ys led (by omega) hv hy
      refine ⟨t, ot, v₁, v₂, nt, e1, e2, e3, e4, ?_⟩
      intro I oI C oC D m₂ h tk E' hC hx hx2 F N off ne
      refine wpAny_mono (T I oI C oC D m₂ h tk E' hC hx hx2 F N off ne _ fun _ _ q => q) (fun y s₂ hq => ?_) fun _ _ e => e
      obtain ⟨h', tk', nw, e, F', N', off', hS, hn⟩ := hq
      exact ⟨h', tk', nw, e, F', N', off', hS, ih (i + 1) _ nw (by omega) hn⟩
  exact key n 0 [] news (by omega) h0
theorem compP_pure {n : Nat} (R : Nat → Value → Prop)
    (turn : ∀ i v, i < n → P i v → TurnP v news fun v₁ v₂ =>
      ∀ ys I oI C oC D m₂ h tk (E' : Value → Shared → Prop), LCg.NsObj oC m₂ → m₂ x = some v₁ → m₂ x₂ = some v₂ → Fr h₀ L h m → News h₀ L h ((I, oI) :: (C, oC) :: (D, LCg.lst ys) :: news) → LCg.Off3 I C D news → ((@Ne Nat I C) ∧ (@Ne Nat I D) ∧ (@Ne Nat C D)) →
      ∀ K9 : Value → Shared → Prop, Into (CPost h₀ L m ((I, oI) :: (C, oC) :: (D, LCg.lst ys) :: news) s (R i)) K9 → wpAny (model prog w) A (eval elt (compEnvC scope cl C env)) K9 E' { s with heap := h, toks := tk })
    (hS : S news) (fin : ∀ ys, ys.length = n → (∀ i y, ys[i]? = some y → R i y) → Fin ys news) : LCp.CompRestP prog w A h₀ L m env elt x x₂ scope cl s S P Fin n 0 [] news := by
  refine compP_inv (fun i ys led => led = news ∧ ys.length = i ∧ ∀ j y, ys[j]? = some y → R j y) ⟨rfl, rfl, fun j y e => by simp at e⟩ ?_ fun ys led hy => ?_
  · rintro i v ys led hi hv ⟨rfl, hl, hy⟩
    obtain ⟨t, ot, v₁, v₂, nt, e1, e2, e3, e4, T⟩ := turn i v hi hv
    refine ⟨t, ot, v₁, v₂, nt, e1, e2, e3, e4, ?_⟩
    intro I oI C oC D m₂ h tk E' hC hx hx2 F N off ne K9 hK9
    refine wpAny_mono (T ys I oI C oC D m₂ h tk E' hC hx hx2 F N off ne _ fun _ _ q => q) (fun y s₂ hq => ?_) fun _ _ e => e
    obtain ⟨hr, h', tk', rfl, F', N'⟩ := hq
    exact hK9 _ _ ⟨h', tk', led, rfl, F', N', off, hS, rfl, by simp [hl], snoc_get hl hy hr⟩
  · obtain ⟨rfl, hl, hy⟩ := hy
    exact fin ys hl hy
end
inductive DInv (prs : List (By × By)) (base : Led) (i : Nat) (ys : List Value) (led : Led) : Prop
  | mk (tup : _) (e1 : led = tup ++ base) (e2 : PA ys (prs.take i) tup) (e3 : OwnOff base (tup.map (·.1)))
theorem dinv0 {prs : List (By × By)} {base : Led} : DInv prs base 0 [] base := ⟨[], rfl, ⟨rfl, fun i k v e => by simp at e⟩, fun p _ b hb => nomatch hb⟩
theorem due_end {prs : List (By × By)} {base : Led} {h₀ h' : Heap} {L I C D T : Addr} {m : Str → Option Value} {oI oC oD o : Obj} {tup : Led} {S : Led → Prop} {s₁ : Shared} {tk' i e : Nat} {ys : List Value} {k v : By} {t u : Tok} (F : Fr h₀ L h' m)
    (N : News h₀ L h' ((T, o) :: ((I, oI) :: (C, oC) :: (D, oD) :: (tup ++ base)))) (l1 : I < T ∧ C < T ∧ D < T ∧ AllLt T (tup ++ base)) (ho : o = tupO [.bytes k t, .bytes v u] e) (off : LCg.Off3 I C D (tup ++ base)) (P : PA ys (prs.take i) tup) (OB : OwnOff base (tup.map (·.1))) (hpr : prs[i]? = some (k, v)) (hS : ∀ l, (∀ p ∈ base, p ∈ l) → S l) :
    LCg.CompEnd h₀ L m s₁ I oI C oC D oD S (fun y led' => DInv prs base (i + 1) (ys ++ [y]) led') (.ref T) { s₁ with heap := h', toks := tk' } := by
  subst ho
  refine LCg.CompEnd.intro F N ((T, tupO [.bytes k t, .bytes v u] e) :: (tup ++ base)) ?_ ?_ (hS _ fun p hp => .tail _ (List.mem_append_right _ hp)) ⟨_ :: tup, rfl, ?_, ?_⟩
  · walk_at "mine sub"
  · refine LCg.Off3.of fun p hp => ?_
    rcases List.mem_cons.mp hp with rfl | hp
    · exact ⟨Ne.symm (Nat.ne_of_lt l1.1), Ne.symm (Nat.ne_of_lt l1.2.1), Ne.symm (Nat.ne_of_lt l1.2.2.1)⟩
    · exact off3_mem off p hp
  · rw [List.take_add_one, hpr]
    exact pa_snoc P
  · exact own_cons (fun p hp => Nat.ne_of_lt (allLt_mem l1.2.2.2 p (List.mem_append_right _ hp))) OB
end
section
section
variable {prog : Program} {w : World} {A : Around} {E : Value → Shared → Prop} {s : Shared} {h₀ : Heap} {L : Addr} {m : Str → Option Value} {env : Env}
structure PairT (prog : Program) (w : World) (A : Around) (h₀ : Heap) (L : Addr) (m : Str → Option Value) (env : Env) (elt : PySem.Expr) (x x₂ : Str) (scope : Scope) (cl : List (Str × Addr)) (its : Array Value) (news : Led) (s : Shared) (R : Nat → Value → Prop) (Fin : List Value → Led → Prop) : Prop where
  turn : ∀ (i : Nat) v, its[i]? = some v → TurnP v news fun v₁ v₂ =>
    ∀ I oI C oC D ys m₂ h tk (E' : Value → Shared → Prop), LCg.NsObj oC m₂ → m₂ x = some v₁ → m₂ x₂ = some v₂ → Fr h₀ L h m → News h₀ L h ((I, oI) :: (C, oC) :: (D, LCg.lst ys) :: news) →
      ∀ K9 : Value → Shared → Prop, Into (CPost h₀ L m ((I, oI) :: (C, oC) :: (D, LCg.lst ys) :: news) s (R i)) K9 → wpAny (model prog w) A (eval elt (compEnvC scope cl C env)) K9 E' { s with heap := h, toks := tk }
  fin : ∀ ys, ys.length = its.size → (∀ i y, ys[i]? = some y → R i y) → Fin ys news
inductive SrcPT (prog : Program) (w : World) (A : Around) (h₀ : Heap) (L : Addr) (m : Str → Option Value) (env : Env) (elt : PySem.Expr) (x x₂ : Str) (scope : Scope) (cl : List (Str × Addr)) (Fin : Shared → List Value → Led → Prop) (xv : Value) (s₁ : Shared) : Prop
  | mk (ax : Addr) (its : Array Value) (ao : Obj) (news : Led) (R : Nat → Value → Prop) (e1 : xv = .ref ax) (e2 : A.handled = none) (e3 : Fr h₀ L s₁.heap m) (e4 : News h₀ L s₁.heap news) (e5 : (ax, ao) ∈ news) (e6 : ao.cls = .type "tuple") (e7 : (∃ k, ao.data = .seq its k)) (e8 : its.size ≤ 1000) (e9 : ∀ g, PairT prog w A h₀ L m env elt x x₂ scope cl its news { s₁ with heap := g } R (Fin { s₁ with heap := g }))
inductive LoopP (s₁ : Shared) (h₀ : Heap) (L I ax D C : Addr) (m : Str → Option Value) (its : Array Value) (R : Nat → Value → Prop) (news : Led) : Nat → Shared → Prop
  | mk (h' : Heap) (tk i : Nat) (ys : List Value) (m' : Str → Option Value) (hi : i ≤ its.size) (hyl : ys.length = i) (hys : ∀ j y, ys[j]? = some y → R j y) (hI : h'.IsTupleIter I ax i) (F : Fr h₀ L h' m) (hn : h'.Ns C m') (N : News h₀ L h' ((D, LCg.lst ys) :: news)) :
    LoopP s₁ h₀ L I ax D C m its R news (its.size + 1 - i) { s₁ with heap := h', toks := tk }
theorem ListComp_PT {elt iter : PySem.Expr} {x x₂ : Str} {px px₂ tp : Pos} {tkk} {scope : Scope} {cl : List (Str × Addr)} {pos : Pos} {Q : Value → Shared → Prop} (_F₀ : Fr h₀ L s.heap m)
    (hclos : closureFor scope env = pure cl) (hcell : ∀ y ∈ scope.names, y.2 ≠ .cell) (hkind : scope.kind = .function)
    (hnames : ∀ y ∈ scope.names, y.2 = .local → scope.names.lookup y.1 = some .local) (hx : scope.names.lookup x = some .local) (hx₂ : scope.names.lookup x₂ = some .local) (hxx : x ≠ x₂)
    (h : wpAny (model prog w) A (eval iter env) (SrcPT prog w A h₀ L m env elt x x₂ scope cl (fun s₂ => LCg.FinE h₀ L m s₂ Q)) E s)
    (hs : ∀ x, foldedSetIterable iter env x = pure x := by intro _; rfl) :
    wpAny (model prog w) A (eval (.ListComp elt [⟨.Tuple [.Name x px, .Name x₂ px₂] tkk tp, iter, [], 0⟩] scope pos) env) Q E s := by
  rw [eval_ListComp]
  refine wpAny_comprehension_free (use := none) rfl hs hclos hkind hnames (wpAny_mono h (fun xv s₁ h₁ => ?_) fun _ _ e => e)
  obtain ⟨ax, its, ao, news, R, rfl, hh, F₁, N₁, hm, hc, hd, hsz, T₀⟩ := h₁
  have tup_of : ∀ {h : Heap}, News h₀ L h news → h.IsTuple ax its := fun N => by obtain ⟨k, hk⟩ := hd; exact ⟨ao, (N _ hm).1, hc, k, hk⟩
  have hlt : ax < s₁.heap.objs.size := Heap.lt_size (N₁ _ hm).1
  refine wpAny_pyIter_tuple (tup_of N₁) ?_
  have up : ∀ b o, s₁.heap.get? b = some o → (s₁.heap.push { cls := .type "tuple_iterator", data := .fields #[.ref ax, .int 0 0] }).get? b = some o := fun b o e => Heap.get?_push_of_some _ e
  have F := F₁.keeps up
  have N := N₁.grown up
  have hIL : L ≠ s₁.heap.objs.size := Nat.ne_of_lt F₁.ns.lt
  have hI₀ : h₀.get? s₁.heap.objs.size = none := next_is_new F₁
  have off : ∀ p ∈ news, p.1 ≠ s₁.heap.objs.size := fun p hp => Nat.ne_of_lt (Heap.lt_size (N₁ p hp).1)
  have hI0 : (s₁.heap.push { cls := .type "tuple_iterator", data := .fields #[.ref ax, .int 0 0] }).IsTupleIter s₁.heap.objs.size ax 0 := ⟨_, Heap.get?_push_size _ rfl, rfl, rfl⟩
  have T := T₀ (s₁.heap.push { cls := .type "tuple_iterator", data := .fields #[.ref ax, .int 0 0] })
  have hIlt : s₁.heap.objs.size < (s₁.heap.push { cls := .type "tuple_iterator", data := .fields #[.ref ax, .int 0 0] }).objs.size := by rw [Heap.size_push]; exact Nat.lt_succ_self _
  generalize hI : s₁.heap.objs.size = I at *
  generalize hH : s₁.heap.push { cls := .type "tuple_iterator", data := .fields #[.ref ax, .int 0 0] } = H at *
  refine wpAny_newObj_type (wpAny_newFunctionEnv hcell (by intro y hy; simp at hy) (fun h₁ hns₁ hsb₁ => ?_) hkind)
  dsimp only at hns₁ hsb₁ ⊢
  generalize hH2 : H.push { cls := .type "list", dict := none, data := .seq ([] : List Value).toArray } = H2 at hns₁ hsb₁ ⊢
  have hC : H2.objs.size = H.objs.size + 1 := by rw [← hH2, Heap.size_push]
  have hDC : H.objs.size ≠ H2.objs.size := by rw [hC]; exact Nat.ne_of_lt (Nat.lt_succ_self _)
  have below : ∀ b, b < H.objs.size → b ≠ H2.objs.size ∧ b ≠ H.objs.size := fun b hb => ⟨by rw [hC]; exact Nat.ne_of_lt (Nat.lt_succ_of_lt hb), Nat.ne_of_lt hb⟩
  have old : ∀ b o, H.get? b = some o → h₁.get? b = some o := fun b o q => hsb₁.extBut b o (below b (Heap.lt_size q)).1 (Heap.get?_push_of_some _ (hH2 ▸ Heap.get?_push_of_some _ q))
  have hacc : h₁.get? H.objs.size = some (LCg.lst []) := hsb₁.extBut _ _ hDC (Heap.get?_push_of_some _ (hH2 ▸ Heap.get?_push_size _ rfl))
  have fresh : ∀ a, H.objs.size ≤ a → H.get? a = none := fun a ha => by
    cases q : H.get? a with
    | none => rfl
    | some o' => exact absurd (Heap.lt_size q) (Nat.not_lt.mpr ha)
  have fresh₀ : ∀ a, H.objs.size ≤ a → h₀.get? a = none := fun a ha => by
    cases q : h₀.get? a with
    | none => rfl
    | some o' => have := F.keep a o' q; rw [fresh a ha] at this; cases this
  have hD₀ : h₀.get? H.objs.size = none := fresh₀ _ (Nat.le_refl _)
  have hC₀ : h₀.get? H2.objs.size = none := fresh₀ _ (by rw [hC]; exact Nat.le_succ _)
  have hLlt : L < H.objs.size := F.ns.lt
  have hDL : H.objs.size ≠ L := Ne.symm (below L hLlt).2
  have hCL : H2.objs.size ≠ L := Ne.symm (below L hLlt).1
  have hCI := (below I hIlt).1
  have hDI := (below I hIlt).2
  have offC : ∀ p ∈ news, p.1 ≠ H2.objs.size := fun p hp => (below _ (Heap.lt_size (N p hp).1)).1
  have offD : ∀ p ∈ news, p.1 ≠ H.objs.size := fun p hp => (below _ (Heap.lt_size (N p hp).1)).2
  have offD1 : LCg.Off1 H.objs.size news := LCg.Off3.one (I := H.objs.size) (C := H.objs.size) (LCg.Off3.of fun p hp => ⟨offD p hp, offD p hp, offD p hp⟩)
  have Wt := Walks.tuple (prog := prog) (w := w) (A := A) hh I ax (off _ hm) its
  have loop : ∀ s₃ : Shared, s₃ = { s₁ with heap := h₁, toks := s₁.toks + ([] : List (Str × Value)).length } →
      codeAny (model prog w) A (.compLoop (.ListComp elt [⟨.Tuple [.Name x px, .Name x₂ px₂] tkk tp, iter, [], 0⟩] scope pos) 0 (.ref I) (.ref H.objs.size) (compEnvC scope cl H2.objs.size env))
        (compPost (model prog w) A E none Q (.ref H.objs.size) H2.objs.size) s₃ := by
    rintro s₃ rfl
    refine LCp.codeAny_compLoop_pair
      (LoopP s₁ h₀ L I ax H.objs.size H2.objs.size m its R news) ?_ (its.size + 1)
      (LoopP.mk h₁ _ 0 [] _ (Nat.zero_le _) rfl (fun j y e => by simp at e) (let ⟨o, ho, r⟩ := hI0; ⟨o, old _ _ ho, r⟩) (F.keeps old) hns₁ fun p hp => ?_)
    · rintro k s' ⟨h', tk, i, ys, m', hi, hyl, hys, hI', F', hn', N'⟩
      have N'' : News h₀ L h' news := fun p hp => N' p (.tail _ hp)
      have offN : ∀ p ∈ (H.objs.size, LCg.lst ys) :: news, p.1 ≠ I := List.forall_mem_cons.mpr ⟨Ne.symm hDI, off⟩
      have offCD : ∀ p ∈ (H.objs.size, LCg.lst ys) :: news, p.1 ≠ H2.objs.size := List.forall_mem_cons.mpr ⟨hDC, offC⟩
      by_cases hlt : i < its.size
      · refine Wt.item i _ _ _ hlt ⟨hI', tup_of N''⟩ fun v h₂ tk₂ hPv hst₂ hk₂ => ?_
        obtain ⟨t, ot, v₁, v₂, nt, rfl, hmt, hct, hdt, T'⟩ := T.turn i v hPv
        have N₂ := LCg.news_but N' hk₂ offN
        have ht : IsTup h₂ t #[v₁, v₂] := ⟨ot, (N₂ _ (.tail _ hmt)).1, hct, nt, hdt⟩
        refine letGo_tupleiter hst₂.1 ?_
        refine assign_Tuple_tuple hh ht rfl rfl fun h₅ he => ?_
        have he' : ∀ b o, h₂.get? b = some o → h₅.get? b = some o := fun b o q => he b o (Nat.ne_of_lt (Heap.lt_size q)) q
        refine assignInOrder_cons (wpAny_assign_Name (wpAny_storeName_local (lookup_relabel_local hx) ((hn'.at' fun o q => hk₂ _ o (by simp [Ne.symm hCI]) q).at' fun o q => he' _ o q) (fun h₆ hn₆ hs₆ => ?_) (by simp [compEnvC, relabel, hkind])))
        refine assignInOrder_cons (wpAny_assign_Name (wpAny_storeName_local (lookup_relabel_local hx₂) hn₆ (fun h₇ hn₇ hs₇ => ?_) (by simp [compEnvC, relabel, hkind])))
        refine assignInOrder_nil ?_
        have old7 : ∀ b o, b ≠ H2.objs.size → h₂.get? b = some o → h₇.get? b = some o := fun b o hb q => hs₇.extBut b o hb (hs₆.extBut b o hb (he' b o q))
        refine gw fun G kG => ?_
        obtain ⟨oI, hI₂, hIr⟩ := hst₂.1
        have hI₇ := old7 _ _ hCI hI₂
        obtain ⟨oC, heC, hoC⟩ := LCg.ns_obj hn₇
        have F₇ : Fr h₀ L h₇ m := (((LCg.fr_but F' hk₂ hIL hI₀).keeps he').change hs₆ hCL hC₀).change hs₇ hCL hC₀
        have N₇ : News h₀ L h₇ ((I, oI) :: (H2.objs.size, oC) :: (H.objs.size, LCg.lst ys) :: news) :=
          List.forall_mem_cons.mpr ⟨⟨hI₇, Ne.symm hIL, hI₀⟩, List.forall_mem_cons.mpr ⟨⟨heC, hCL, hC₀⟩, fun p hp => ⟨old7 _ _ (offCD p hp) (N₂ p hp).1, (N₂ p hp).2⟩⟩⟩
        refine kG ?_
        clear kG
        refine wpAny_mono (T' I oI H2.objs.size oC H.objs.size ys _ h₇ _ _ hoC (by simp [hxx]) (by simp) F₇ N₇ _ fun _ _ q => q) (fun y s₅ h₅ => ?_) fun _ _ q => q
        obtain ⟨hRy, h₅, tk₅, rfl, F₅, N₅⟩ := h₅
        have zD := (N₅ _ (.tail _ (.tail _ (.head _)))).1
        refine append_at (hsz := by rw [List.size_toArray, hyl, sizeLine_eq]; omega) zD fun h₆ hs₆ hD₆ => ?_
        refine ⟨its.size + 1 - (i + 1), by omega, LoopP.mk h₆ tk₅ (i + 1) (ys ++ [y]) _ hlt (by simp [hyl]) (snoc_get hyl hys hRy) ⟨oI, hs₆.extBut _ _ hDI (N₅ _ (.head _)).1, hIr⟩ (F₅.change hs₆ hDL hD₀) ((hoC.ns (N₅ _ (.tail _ (.head _))).1).sameBut hs₆ (Ne.symm hDC)) fun p hp => ?_⟩
        · rcases List.mem_cons.mp hp with rfl | hp
          · exact ⟨hD₆.trans (congrArg some (LCg.lst_snoc ys _)), hDL, hD₀⟩
          · have z := N₅ p (.tail _ (.tail _ (.tail _ hp)))
            exact ⟨hs₆.extBut _ _ (offD p hp) z.1, z.2⟩
      · obtain rfl : i = its.size := Nat.le_antisymm hi (Nat.not_lt.mp hlt)
        refine Wt.done _ _ _ ⟨hI', tup_of N''⟩ fun h₂ tk₂ hk₂ => ?_
        have F₂ := LCg.fr_but F' hk₂ hIL hI₀
        have N₂ := LCg.news_but N' hk₂ offN
        have fin := T.fin ys hyl hys
        refine ⟨m', hn'.at' fun o q => hk₂ _ o (by simp [Ne.symm hCI]) q, fun h'' hs'' => fin _ h'' tk₂ (F₂.change hs'' hCL hC₀) (fun p hp => ?_) offD1⟩
        refine ⟨hs''.extBut _ _ ?_ (N₂ p hp).1, (N₂ p hp).2⟩
        rcases List.mem_cons.mp hp with rfl | hp
        · exact hDC
        · exact offC p hp
    · rcases List.mem_cons.mp hp with rfl | hp
      · exact ⟨hacc, hDL, hD₀⟩
      · exact ⟨old _ _ (N p hp).1, (N p hp).2⟩
  exact codeAny_compStart_list (loop _ rfl) (wpAny_pyIter_tupleiter ((let ⟨o, ho, r⟩ := hI0; ⟨o, old _ _ ho, r⟩)) (loop _ rfl))
end
inductive VInv (w : World) (M : Addr) (σ : Tb) (vs : List By) (base : Led) (i : Nat) (ys : List Value) (led : Led) : Prop
  | mk (l2 : _) (e1 : led = l2 ++ base) (e2 : TabIs w M σ l2) (e3 : OwnOff base (l2.map (·.1))) (e4 : ys.length = i) (e5 : ∀ (j : Nat) y, ys[j]? = some y → ∃ b t, vs[j]? = some b ∧ y = Value.bytes b t)
theorem vals_end {w : World} {M : Addr} {σ : Tb} {vs : List By} {base : Led} {h₀ h' : Heap} {L I C D : Addr} {m : Str → Option Value} {oI oC oD : Obj} {l0 l2 : Led} {S : Led → Prop} {s₁ : Shared} {tk' i : Nat} {ys : List Value} {v : By} {t : Tok} (F : Fr h₀ L h' m)
    (N : News h₀ L h' (l2 ++ ((I, oI) :: (C, oC) :: (D, oD) :: base))) (O : OwnOff ((I, oI) :: (C, oC) :: (D, oD) :: base) (l2.map (·.1))) (off : LCg.Off3 I C D (l0 ++ base)) (T7 : TabIs w M σ l2) (hS : ∀ l, (∀ p ∈ base, p ∈ l) → S l) (hy : ys.length = i ∧ ∀ (j : Nat) y, ys[j]? = some y → ∃ b t, vs[j]? = some b ∧ y = Value.bytes b t) (hv : vs[i]? = some v) :
    LCg.CompEnd h₀ L m s₁ I oI C oC D oD S (fun y led' => VInv w M σ vs base (i + 1) (ys ++ [y]) led') (.bytes v t) { s₁ with heap := h', toks := tk' } := by
  refine LCg.CompEnd.intro F N (l2 ++ base) ?_ ?_ (hS _ fun p hp => List.mem_append_right _ hp) ⟨l2, rfl, T7, fun p hp => O p (.tail _ (.tail _ (.tail _ hp))), by simp [hy.1], snoc_get hy.1 hy.2 ⟨v, t, hv, rfl⟩⟩
  · walk_at "mine sub"
  · refine LCg.Off3.of fun p hp => ?_
    rcases List.mem_append.mp hp with hp | hp
    · have hb : p.1 ∈ l2.map (·.1) := List.mem_map.mpr ⟨p, hp, rfl⟩
      exact ⟨fun e => O (I, oI) (.head _) _ hb e.symm, fun e => O (C, oC) (.tail _ (.head _)) _ hb e.symm, fun e => O (D, oD) (.tail _ (.tail _ (.head _))) _ hb e.symm⟩
    · exact off3_mem off p (List.mem_append_right _ hp)
end
section
section
variable {prog : Program} {w : World} {A : Around} {E : Value → Shared → Prop} {s : Shared} {h₀ : Heap} {L a : Addr} {m : Str → Option Value} {news : Led} {vs : List Value}
theorem small_list_sort {n : Nat} {P : PySem.Fin → Shared → Prop} (F : Fr h₀ L s.heap m) (N : News h₀ L s.heap news) (ho : s.heap.get? a = some (seqObj "list" vs.toArray n)) (haL : a ≠ L) (ha0 : h₀.get? a = none) (hna : ∀ p ∈ news, p.1 ≠ a) (h2 : vs.length < 2)
    (k : ∀ h' c, Fr h₀ L h' m → News h₀ L h' ((a, W.listOf vs.toArray c) :: news) → P (.done (.ret .none)) { s with heap := h' }) :
    wpAny (model prog w) A (Builtin.«list.sort» ⟨[.ref a], []⟩) P E s := by
  have s1 := Heap.SameBut.update s.heap a (Obj.mapSeq fun _ => (#[] : Array Value))
  obtain ⟨e1, ho1⟩ : ∃ e1, (s.heap.update a (Obj.mapSeq fun _ => (#[] : Array Value))).get? a = some (seqObj "list" #[] e1) := ⟨_, get?_update_seq ho fun _ => #[]⟩
  rw [list_sort_plain]
  refine wpAny_bind (listItems_at ho rfl ?_)
  refine wpAny_bind (listUpdate_at ho rfl ?_ (by rw [List.size_toArray, sizeLine_eq]; omega) (Nat.zero_le _))
  refine wpAny_bind (seqEpoch_at ho1 rfl ?_)
  refine wpAny_bind (wpAny_newTuple ?_ (by show vs.length ≤ _; rw [sizeLine_eq]; omega))
  refine wpAny_bind (wpAny_newList ?_ (Nat.zero_le _))
  refine wpAny_holding ?_
  show wpAny (model prog w) A _ P E { s with heap := ((s.heap.update a (Obj.mapSeq fun _ => (#[] : Array Value))).push (seqObj "tuple" vs.toArray 0)).push (seqObj "list" #[] 0) }
  dsimp only
  have hn2 : vs.toArray.size < 2 := by rw [List.size_toArray]; omega
  rw [if_pos hn2, if_pos hn2]
  refine wpAny_bind (wpAny_pure ?_)
  refine wpAny_bind (m := (pure () : StateT SortSt Sem Unit).run _) (wpAny_pure ?_)
  have hout : ((arrOf (SortSt.mk' general' (vs.toArray.zip vs.toArray) #[] 7 none)).map (fun x => x.snd)) = vs.toArray := by
    show ((vs.toArray.zip vs.toArray).map (fun x => x.snd)) = vs.toArray
    apply Array.toList_inj.mp
    simp [List.map_snd_zip]
  have F3 : Fr h₀ L (((s.heap.update a (Obj.mapSeq fun _ => (#[] : Array Value))).push (seqObj "tuple" vs.toArray 0)).push (seqObj "list" #[] 0)) m := ((kas_fr F s1 haL ha0).push _).push _
  have N2 : News h₀ L (((s.heap.update a (Obj.mapSeq fun _ => (#[] : Array Value))).push (seqObj "tuple" vs.toArray 0)).push (seqObj "list" #[] 0)) news :=
    (kas_news N s1 hna).grown fun b x e => Heap.get?_push_of_some _ (Heap.get?_push_of_some _ e)
  have ho3 := Heap.get?_push_of_some (seqObj "list" #[] 0) (Heap.get?_push_of_some (seqObj "tuple" vs.toArray 0) ho1)
  refine wpAny_bind (seqEpoch_at ho3 rfl ?_)
  dsimp only
  rw [hout]
  refine wpAny_bind (listUpdate_at ho3 rfl ?_ (Nat.zero_le _) (by rw [List.size_toArray, sizeLine_eq]; omega))
  have s2 := Heap.SameBut.update (((s.heap.update a (Obj.mapSeq fun _ => (#[] : Array Value))).push (seqObj "tuple" vs.toArray 0)).push (seqObj "list" #[] 0)) a (Obj.mapSeq fun _ => vs.toArray)
  obtain ⟨c2, hc2⟩ : ∃ c2, ((((s.heap.update a (Obj.mapSeq fun _ => (#[] : Array Value))).push (seqObj "tuple" vs.toArray 0)).push (seqObj "list" #[] 0)).update a (Obj.mapSeq fun _ => vs.toArray)).get? a = some (seqObj "list" vs.toArray c2) := ⟨_, get?_update_seq ho3 fun _ => vs.toArray⟩
  simp only [bne_self_eq_false, Bool.false_eq_true, if_false]
  refine wpAny_pure (k _ c2 (kas_fr F3 s2 haL ha0) fun p hp => ?_)
  rcases List.mem_cons.mp hp with rfl | hp
  · exact ⟨hc2, haL, ha0⟩
  · exact ⟨s2.extBut _ _ (hna p hp) (N2 p hp).1, (N2 p hp).2⟩
theorem small_sorted {l : Addr} {Q : Value → Shared → Prop} (F : Fr h₀ L s.heap m) (N : News h₀ L s.heap news) (hl : s.heap.IsList l vs.toArray) (h2 : vs.length < 2)
    (h : ∀ D c h', Fr h₀ L h' m → News h₀ L h' ((D, W.listOf vs.toArray c) :: news) → (∀ q ∈ news, q.1 < D) → Q (.ref D) { s with heap := h' }) :
    wpAny (model prog w) A (call (.builtin "sorted") [.ref l]) Q E s := by
  refine Calls.call_function_entry kind_sorted plain_sorted entry_sorted (args_sorted1 _) ?_
  unfold Builtin.«sorted»
  refine wpAny_bind (m := checkCount "sorted" 1 1 _) (wpAny_pure ?_)
  refine wpAny_bind (collect_list hl ?_ (by rw [sizeLine_eq]; omega))
  refine wpAny_bind (wpAny_newList ?_ (by rw [sizeLine_eq]; omega))
  have hsz : ((s.heap.push (seqObj "list" #[] 0)).update s.heap.objs.size (Obj.mapSeq (· ++ vs.toArray))).objs.size = s.heap.objs.size + 1 := by
    rw [Heap.size_update, size_push']
  have hoL : (((s.heap.push (seqObj "list" #[] 0)).update s.heap.objs.size (Obj.mapSeq (· ++ vs.toArray))).push (seqObj "list" vs.toArray 0)).get? (s.heap.objs.size + 1) = some (seqObj "list" vs.toArray 0) := by
    rw [← hsz]; exact Heap.get?_push_size _ rfl
  have keep : ∀ b o, s.heap.get? b = some o → (((s.heap.push (seqObj "list" #[] 0)).update s.heap.objs.size (Obj.mapSeq (· ++ vs.toArray))).push (seqObj "list" vs.toArray 0)).get? b = some o := fun b o q => by
    have hlt : b < s.heap.objs.size := Heap.lt_size q
    rw [Heap.get?_push_ne _ _ _ (by rw [hsz]; exact Nat.ne_of_lt (Nat.lt_succ_of_lt hlt)), Heap.get?_update_ne _ _ _ _ (Nat.ne_of_lt hlt), Heap.get?_push_ne _ _ _ (Nat.ne_of_lt hlt)]
    exact q
  have hL : L < s.heap.objs.size := F.ns.lt
  show wpAny _ _ _ _ _ { s with heap := ((s.heap.push (seqObj "list" #[] 0)).update s.heap.objs.size (Obj.mapSeq (· ++ vs.toArray))).push (seqObj "list" vs.toArray 0) }
  rw [hsz]
  refine wpAny_bind (wpAny_holding (wpAny_call_entry slot_list_sort ⟨_, hoL, rfl⟩ entry_list_sort ?body (args_list_sort _)))
  case body =>
    refine small_list_sort (s := { s with heap := ((s.heap.push (seqObj "list" #[] 0)).update s.heap.objs.size (Obj.mapSeq (· ++ vs.toArray))).push (seqObj "list" vs.toArray 0) })
      (F.kept keep) (N.grown keep) hoL (Nat.ne_of_gt (Nat.lt_succ_of_lt hL)) (Heap.get?_none_of_le (Nat.le_trans F.above (Nat.le_succ_of_le (Nat.le_of_lt hL))))
      (fun p hp => Nat.ne_of_lt (Nat.lt_succ_of_lt (Heap.lt_size (N p hp).1))) h2 fun h' c F' N' => ⟨_, rfl, wpAny_pure ⟨_, rfl, h _ c h' F' N' fun q hq => Nat.lt_succ_of_lt (Heap.lt_size (N q hq).1)⟩⟩
end
theorem kas_asc_inc {cmp : Nat → Nat → (Bool → Shared → Prop) → Shared → Prop} {n : Nat} {s : Shared} (hc : ∀ i j C, j < i → i < n → C false s → cmp i j C s) : ∀ (f k : Nat) (Q : Nat → Shared → Prop), k + f = n → 1 ≤ k → Q n s → (kas_asc (List.toArray (List.range n)) f k).kasWp cmp Q s
  | 0, k, Q, hk, _, h => by
    have e : k = n := by omega
    subst e
    exact h
  | f + 1, k, Q, hk, h1, h => by
    have e1 : (List.toArray (List.range n)).getD k 0 = k := by simp [Array.getD, show k < n by omega]
    have e2 : (List.toArray (List.range n)).getD (k - 1) 0 = k - 1 := by simp [Array.getD, show k - 1 < n by omega]
    show cmp ((List.toArray (List.range n)).getD k 0) ((List.toArray (List.range n)).getD (k - 1) 0) _ s
    rw [e1, e2]
    refine hc k (k - 1) _ (by omega) (by omega) ?_
    simp only [Bool.false_eq_true, if_false]
    exact kas_asc_inc hc f (k + 1) Q (by omega) (by omega) h
theorem kas_inc {cmp : Nat → Nat → (Bool → Shared → Prop) → Shared → Prop} {n : Nat} {G : Array Nat → Shared → Prop} {s : Shared} (hn : 2 ≤ n) (hc : ∀ i j C, j < i → i < n → C false s → cmp i j C s) (hG : G (List.toArray (List.range n)) s) : (kas_sort n).kasWp cmp G s := by
  unfold kas_sort
  rw [KasT.kasWp_bind]
  unfold kas_count
  rw [KasT.kasWp_bind]
  refine kas_asc_inc hc (n - 1) 1 _ (by omega) (by omega) ?_
  simp only [beq_self_eq_true, if_true]
  show KasT.kasWp cmp (if n < n then kas_bin (n - max n 1) (List.range n).toArray (max n 1) else KasT.ret (List.range n).toArray) G s
  rw [if_neg (by omega)]
  exact hG
def SlotT (vs : List Value) (bs : List By) (own : Led) : Prop := vs.length = bs.length ∧ ∀ (i : Nat) b, bs[i]? = some b → ∃ T t u e, vs[i]? = some (Value.ref T) ∧ (T, tupO [Value.int (i : Int) t, Value.bytes b u] e) ∈ own
theorem slotT_get {vs : List Value} {bs : List By} {own : Led} (h : SlotT vs bs own) {i : Nat} (hi : i < vs.length) : ∃ b T t u e, bs[i]? = some b ∧ vs[i]? = some (Value.ref T) ∧ (T, tupO [Value.int (i : Int) t, Value.bytes b u] e) ∈ own := by
  have hb : i < bs.length := by rw [← h.1]; exact hi
  obtain ⟨T, t, u, e, a, b⟩ := h.2 i bs[i] (List.getElem?_eq_getElem hb)
  exact ⟨_, T, t, u, e, List.getElem?_eq_getElem hb, a, b⟩
theorem katTups_of {h : Heap} : ∀ (vs : List Value) (j : Nat), (∀ (i : Nat), i < vs.length → ∃ T o t r n, vs[i]? = some (Value.ref T) ∧ h.get? T = some o ∧ o.cls = .type "tuple" ∧ o.data = .seq (List.toArray (Value.int ((j + i : Nat) : Int) t :: r)) n) → ∃ fs, KatTups h vs fs ∧ fs.length = vs.length ∧ ∀ v ∈ fs, ∃ i t, v = Value.int i t
  | [], _, _ => ⟨[], KatTups.nil, rfl, fun _ h => (nomatch h)⟩
  | v :: vs, j, H => by
    obtain ⟨T, o, t, r, n, e1, e2, e3, e4⟩ := H 0 (by simp)
    simp only [List.getElem?_cons_zero, Option.some.injEq] at e1
    subst e1
    obtain ⟨fs, f1, f2, f3⟩ := katTups_of vs (j + 1) fun i hi => by
      obtain ⟨T, o, t, r, n, e1, e2, e3, e4⟩ := H (i + 1) (by simp; omega)
      exact ⟨T, o, t, r, n, by simpa using e1, e2, e3, by rw [show j + 1 + i = j + (i + 1) by omega]; exact e4⟩
    exact ⟨Value.int ((j + 0 : Nat) : Int) t :: fs, KatTups.cons (f := Value.int ((j + 0 : Nat) : Int) t) e2 e3 e4 (by simp) f1, by simp [f2], fun v hv => (List.mem_cons.mp hv).elim (fun e => ⟨_, _, e⟩) (f3 v)⟩
theorem mi_sortslots {prog : Program} {w : World} {A : Around} {E : Value → Shared → Prop} {s : Shared} {h₀ : Heap} {L l : Addr} {m : Str → Option Value} {news : Led} {vs : List Value} {bs : List By} {n : Nat} {Q : Value → Shared → Prop} (F : Fr h₀ L s.heap m) (N : News h₀ L s.heap news) (hm : (l, W.listOf vs.toArray n) ∈ news) (hS : SlotT vs bs news) (h64 : vs.length < 64)
    (h : ∀ D c h', Fr h₀ L h' m → News h₀ L h' ((D, W.listOf vs.toArray c) :: news) → (∀ q ∈ news, q.1 < D) → Q (.ref D) { s with heap := h' }) :
    wpAny (model prog w) A (call (.builtin "sorted") [.ref l]) Q E s := by
  have hl : s.heap.IsList l vs.toArray := PySem.IsL.isList (n := n) (N _ hm).1
  by_cases h2 : vs.length < 2
  · exact small_sorted F N hl h2 h
  · refine kat_sorted F N hl (by omega) h64 fun D e1 h' F' N' lt => ?_
    have N'' : News h₀ L h' news := fun p hp => N' p (.tail _ hp)
    obtain ⟨fs, t1, t2, t3⟩ := katTups_of (h := h') vs 0 fun i hi => by
      obtain ⟨b, T, t, u, e, a1, a2, a3⟩ := slotT_get hS hi
      exact ⟨T, _, t, [Value.bytes b u], e, a2, (N'' _ a3).1, rfl, by simp⟩
    refine kat_kind (T := .type "int") t1 (by omega) (fun v hv => by obtain ⟨i, t, rfl⟩ := t3 v hv; exact Looks.of_pure rfl) (by decide) ?_
    refine kas_inc (by omega) (fun i j C hji hi hC => ?_) ?_
    · obtain ⟨b, T, t, u, e, a1, a2, a3⟩ := slotT_get hS hi
      obtain ⟨b', T', t', u', e', b1, b2, b3⟩ := slotT_get hS (Nat.lt_trans hji hi)
      show wpAny (model prog w) _ (keyLt' (tuples' true) (vs.getD i Value.none) (vs.getD j Value.none)) _ _ _
      rw [show vs.getD i Value.none = .ref T by simp [a2], show vs.getD j Value.none = .ref T' by simp [b2]]
      refine kat_lt (N'' _ a3).1 rfl (N'' _ b3).1 rfl ?_
      refine kat_cons (wpAny_eqBool_int ?_)
      rw [show (((i : Nat) : Int) == ((j : Nat) : Int)) = false by simp; omega]
      refine kat_no ?_
      refine oneLt_int ?_
      rw [show decide (((i : Nat) : Int) < ((j : Nat) : Int)) = false by simp; omega]
      exact hC
    · refine KasFin.intro F' N' (UpdF.head fun p hp => Nat.ne_of_lt (lt p hp)) fun h3 c F3 N3 => ?_
      have e : ((List.toArray (List.range vs.length)).toList.map fun i => vs.getD i Value.none) = vs := by
        apply List.ext_getElem
        · simp
        · intro i h1 h2
          simp [List.getElem?_eq_getElem h2]
      rw [e] at N3
      exact h D c h3 F3 N3 lt
end
section
theorem kdxOpen_all {lo : Addr} {news : Led} {C : List Value → Led → Prop} (all : List ((Tok → Value) × Value)) (h : ∀ vs tups, vs.length = all.length → (∀ (j : Nat) p, all[j]? = some p → ∃ a t, vs[j]? = some (Value.ref a) ∧ (a, tupO [p.1 t, p.2] 0) ∈ tups) → C vs tups) :
    ∀ (r ps0 : List ((Tok → Value) × Value)) (vs : List Value) (tups : Led), all = ps0 ++ r → vs.length = ps0.length → (∀ (j : Nat) p, ps0[j]? = some p → ∃ a t, vs[j]? = some (Value.ref a) ∧ (a, tupO [p.1 t, p.2] 0) ∈ tups) → KdxOpen lo news r vs tups C := by
  intro r
  induction r with
  | nil =>
    intro ps0 vs tups e hl hk
    rw [List.append_nil] at e
    subst e
    exact KdxOpen.nil (h vs tups hl hk)
  | cons q r ih =>
    intro ps0 vs tups e hl hk
    refine KdxOpen.cons fun a t _ _ _ => ?_
    exact ih (ps0 ++ [q]) _ _ (by rw [e]; simp) (by simp [hl]) (snoc_get rfl (fun j p hp => by
      obtain ⟨a', t', b1, b2⟩ := hk j p hp
      exact ⟨a', t', snoc_keep b1, .tail _ b2⟩) ⟨a, t, snoc_last hl, .head _⟩)
section
variable {prog : Program} {w : World} {A : Around} {E : Value → Shared → Prop} {s : Shared} {h₀ : Heap} {L : Addr} {m : Str → Option Value} {news : Led} {vs : List Value} {bs : List By}
theorem mi_lsort {D : Addr} {n : Nat} {Q : Value → Shared → Prop} (F : Fr h₀ L s.heap m) (N : News h₀ L s.heap ((D, W.listOf vs.toArray n) :: news)) (lt : ∀ p ∈ news, p.1 < D) (hS : SlotT vs bs news) (h64 : vs.length < 64)
    (h : ∀ c h', Fr h₀ L h' m → News h₀ L h' ((D, W.listOf vs.toArray c) :: news) → Q .none { s with heap := h' }) :
    wpAny (model prog w) A (call (.builtin "list.sort") [.ref D]) Q E s := by
  have hD := N _ (.head _)
  by_cases h2 : vs.length < 2
  · refine wpAny_call_entry slot_list_sort ⟨_, hD.1, rfl⟩ entry_list_sort ?_ (args_list_sort _)
    refine small_list_sort F (fun p hp => N p (.tail _ hp)) hD.1 hD.2.1 hD.2.2 (fun p hp => Nat.ne_of_lt (lt p hp)) h2 fun h' c F' N' => ⟨_, rfl, h c h' F' N'⟩
  · refine kat_lsort (vs := vs) F N (UpdF.head fun p hp => Nat.ne_of_lt (lt p hp)) rfl (by omega) h64 fun e1 h' F' N' => ?_
    have N'' : News h₀ L h' news := fun p hp => N' p (.tail _ hp)
    obtain ⟨fs, t1, t2, t3⟩ := katTups_of (h := h') vs 0 fun i hi => by
      obtain ⟨b, T, t, u, e, a1, a2, a3⟩ := slotT_get hS hi
      exact ⟨T, _, t, [Value.bytes b u], e, a2, (N'' _ a3).1, rfl, by simp⟩
    refine kat_kind (T := .type "int") t1 (by omega) (fun v hv => by obtain ⟨i, t, rfl⟩ := t3 v hv; exact Looks.of_pure rfl) (by decide) ?_
    refine kas_inc (by omega) (fun i j C hji hi hC => ?_) ?_
    · obtain ⟨b, T, t, u, e, a1, a2, a3⟩ := slotT_get hS hi
      obtain ⟨b', T', t', u', e', b1, b2, b3⟩ := slotT_get hS (Nat.lt_trans hji hi)
      show wpAny (model prog w) _ (keyLt' (tuples' true) (vs.getD i Value.none) (vs.getD j Value.none)) _ _ _
      rw [show vs.getD i Value.none = .ref T by simp [a2], show vs.getD j Value.none = .ref T' by simp [b2]]
      refine kat_lt (N'' _ a3).1 rfl (N'' _ b3).1 rfl ?_
      refine kat_cons (wpAny_eqBool_int ?_)
      rw [show (((i : Nat) : Int) == ((j : Nat) : Int)) = false by simp; omega]
      refine kat_no ?_
      refine oneLt_int ?_
      rw [show decide (((i : Nat) : Int) < ((j : Nat) : Int)) = false by simp; omega]
      exact hC
    · refine KasFin.intro F' N' (UpdF.head fun p hp => Nat.ne_of_lt (lt p hp)) fun h3 c F3 N3 => ?_
      have e : ((List.toArray (List.range vs.length)).toList.map fun i => vs.getD i Value.none) = vs := by
        apply List.ext_getElem
        · simp
        · intro i h1 h2
          simp [List.getElem?_eq_getElem h2]
      rw [e] at N3
      exact h c h3 F3 N3
theorem mi_sorteditems {v d : Addr} {od : Obj} {dkvs : List (Int × Value)} {vals : List By} {Q : Value → Shared → Prop} (hh : A.handled = none) (F : Fr h₀ L s.heap m) (N : News h₀ L s.heap news) (hvw : (v, { cls := .type "dict_items", data := .fields #[.ref d] }) ∈ news) (hmd : (d, od) ∈ news)
    (hod : od.IsDictOf (PySem.intKind prog w) dkvs) (hR : RmRel dkvs vals) (hz : vals.length < 64)
    (h : ∀ D vs c tups h' tk, SlotT vs vals tups → Fr h₀ L h' m → News h₀ L h' ((D, W.listOf vs.toArray c) :: (tups ++ news)) → Q (.ref D) { s with heap := h', toks := tk }) :
    wpAny (model prog w) A (call (.builtin "sorted") [.ref v]) Q E s := by
  refine kdx_sortedN (knd := PySem.intKind prog w) (enc := PyData.int) (ps := dkvs.map (fun p => (kyVal (PyData.int p.1), p.2))) hh F N hvw hmd hod (by rw [hR.1]; omega) (fun k v hk => by obtain ⟨t, rfl⟩ := Value.isInt_shape hk; exact ⟨t, rfl⟩) rfl fun lo hlo => ?_
  refine kdxOpen_all _ (fun vs tups hl hk => ?_) _ [] [] [] rfl rfl fun j p hp => by simp at hp
  intro B h' tk hB F' N'
  have hS : SlotT vs vals tups := by
    refine ⟨by rw [hl, List.nil_append, List.length_map, hR.1], fun i b hb => ?_⟩
    obtain ⟨t, ht⟩ := hR.2 i b hb
    obtain ⟨a, t', a1, a2⟩ := hk i (kyVal (PyData.int (i : Int)), Value.bytes b t) (by rw [List.nil_append, List.getElem?_map, ht]; rfl)
    exact ⟨a, t', t, 0, a1, a2⟩
  refine mi_lsort F' N' hB ⟨hS.1, fun i b hb => ?_⟩ (by rw [hS.1]; exact hz) fun c h3 F3 N3 => h B vs c tups h3 tk hS F3 N3
  obtain ⟨T, t, u, e, a, b⟩ := hS.2 i b hb
  exact ⟨T, t, u, e, a, List.mem_append_left _ b⟩
end
theorem slotT_mono {vs : List Value} {bs : List By} {a b : Led} (h : SlotT vs bs a) (k : ∀ p ∈ a, p ∈ b) : SlotT vs bs b := ⟨h.1, fun i c e => by obtain ⟨T, t, u, e', h1, h2⟩ := h.2 i c e; exact ⟨T, t, u, e', h1, k _ h2⟩⟩
theorem slot_deq {xs ys : List Value} {bs : List By} {news : Led} (h : SlotT xs bs news) (k : SlotT ys bs news) (n : Nat) : ∀ (j : Nat) (x y : Value), xs[j]? = some x → ys[j]? = some y → DEq news (n + 1) x y := by
  intro j x y hx hy
  have hj : j < xs.length := by
    by_cases q : j < xs.length
    · exact q
    · rw [List.getElem?_eq_none (by omega)] at hx; cases hx
  obtain ⟨b, T, t, u, e, a1, a2, a3⟩ := slotT_get h hj
  obtain ⟨T', t', u', e', b1, b2⟩ := k.2 j b a1
  rw [hx] at a2
  rw [hy] at b1
  cases a2
  cases b1
  refine DEq.tup a3 b2 rfl fun i x y hx hy => ?_
  match i with
  | 0 => simp at hx hy; subst hx hy; exact DEq.int _ _ _ _
  | 1 => simp at hx hy; subst hx hy; exact DEq.bytes _ _ _ _
  | i + 2 => simp at hx
inductive SInv (bs : List By) (base : Led) (i : Nat) (ys : List Value) (led : Led) : Prop
  | mk (tup : _) (e1 : led = tup ++ base) (e2 : SlotT ys (bs.take i) tup)
theorem sinv0 {bs : List By} {base : Led} : SInv bs base 0 [] base := ⟨[], rfl, rfl, fun i b e => by simp at e⟩
theorem slot_end {bs : List By} {base : Led} {h₀ h' : Heap} {L I C D T : Addr} {m : Str → Option Value} {oI oC oD o : Obj} {tup : Led} {S : Led → Prop} {s₁ : Shared} {tk' i e : Nat} {ys : List Value} {b : By} {t u : Tok} (F : Fr h₀ L h' m)
    (N : News h₀ L h' ((T, o) :: ((I, oI) :: (C, oC) :: (D, oD) :: (tup ++ base)))) (l1 : I < T ∧ C < T ∧ D < T ∧ AllLt T (tup ++ base)) (ho : o = tupO [.int (i : Int) t, .bytes b u] e) (off : LCg.Off3 I C D (tup ++ base)) (P : SlotT ys (bs.take i) tup) (hb : bs[i]? = some b) (hS : ∀ l, (∀ p ∈ base, p ∈ l) → S l) :
    LCg.CompEnd h₀ L m s₁ I oI C oC D oD S (fun y led' => SInv bs base (i + 1) (ys ++ [y]) led') (.ref T) { s₁ with heap := h', toks := tk' } := by
  subst ho
  have hib : i < bs.length := by
    by_cases q : i < bs.length
    · exact q
    · rw [List.getElem?_eq_none (by omega)] at hb; cases hb
  have hyl : ys.length = i := by rw [P.1, List.length_take]; omega
  refine LCg.CompEnd.intro F N ((T, tupO [.int (i : Int) t, .bytes b u] e) :: (tup ++ base)) ?_ ?_ (hS _ fun p hp => .tail _ (List.mem_append_right _ hp)) ⟨_ :: tup, rfl, ?_⟩
  · walk_at "mine sub"
  · refine LCg.Off3.of fun p hp => ?_
    rcases List.mem_cons.mp hp with rfl | hp
    · exact ⟨Ne.symm (Nat.ne_of_lt l1.1), Ne.symm (Nat.ne_of_lt l1.2.1), Ne.symm (Nat.ne_of_lt l1.2.2.1)⟩
    · exact off3_mem off p hp
  · have e4 : bs.take (i + 1) = bs.take i ++ [b] := by rw [List.take_add_one, hb]; rfl
    rw [e4]
    exact ⟨by simp only [List.length_append, P.1]; rfl, snoc_get (P.1.symm.trans hyl) (fun j c hc => by
      obtain ⟨T', t', u', e', h1, h2⟩ := P.2 j c hc
      exact ⟨T', t', u', e', snoc_keep h1, .tail _ h2⟩) ⟨T, t, u, e, snoc_last hyl, .head _⟩⟩
inductive TInst3 (w : World) (M : Addr) (σ : Tb) (led : Led) : Prop
  | mk (Md V B K O : Addr) (hh : Nat → Int) (tt : Nat → Tok) (n : Nat) (h1 : (M, instObj 502 Md) ∈ led) (h2 : (Md, dictOf (mdOf hh tt σ V B K O) n) ∈ led) (h3 : ValsAt w led V σ.vals) (h4 : KeysAt w led K σ.ks) (h5 : OrdAt led O σ.ord)
    (oV : Obj) (vkvs : List (Int × Value)) (g1 : (V, oV) ∈ led) (g2 : oV.IsDictOf (intKind PySem.Challenge.rw_qz0154_01.row.prog w) vkvs) (g3 : (V == sysModules) = false) (g4 : vkvs.length = σ.vals.length)
    (g5 : ∀ (i : Nat) p, vkvs[i]? = some p → ∃ a b, σ.vals[i]? = some b ∧ p = ((i : Int), .ref a) ∧ valueAt vkvs (i : Int) = some (.ref a) ∧ (a, baObj b) ∈ led)
theorem TabIs.inst3 {w : World} {M : Addr} {σ : Tb} {led : Led} (h : TabIs w M σ led) : TInst3 w M σ led := by
  obtain ⟨Md, V, B, K, O, hh, tt, n, hM, hMd, ⟨oV, vkvs, mV, hV, lo, hl, hp⟩, KA, OA, _⟩ := h.inst2
  refine ⟨Md, V, B, K, O, hh, tt, n, hM, hMd, ⟨oV, vkvs, mV, hV, lo, fun i v hv => ?_⟩, KA, OA, oV, vkvs, mV, hV, lo, hl, hp⟩
  have hlt : i < vkvs.length := by
    rw [hl]
    by_cases q : i < σ.vals.length
    · exact q
    · rw [List.getElem?_eq_none (by omega)] at hv; cases hv
  obtain ⟨a, b, e1, _, e3, e4⟩ := hp i vkvs[i] (List.getElem?_eq_getElem hlt)
  rw [hv] at e1
  cases e1
  exact ⟨a, e3, e4⟩
end
section
theorem mi_room {prog : Program} {w : World} {A : Around} {E : Value → Shared → Prop} {s : Shared} {h₀ : Heap} {L d : Addr} {news : Led} {o : Obj} {kvs : List (Int × Value)} {k : Int} {u : Tok} {v : Value} {value slice : PySem.Expr} {Q : Value → Shared → Prop} (N : News h₀ L s.heap news) (hp : (d, o) ∈ news) (hd : o.IsDictOf (PySem.intKind prog w) kvs) (hl : valueAt kvs k = some v) (h : ∀ tk, Q v { s with toks := tk })
    (hs : subscripted slice false (.ref d) (.int k u) = operate [.ref d, .int k u] (getItem (.ref d) (.int k u))) (hg : ∀ r, letTemporaryGo value (.ref d) r = pure ()) :
    wpAny (model prog w) A (subscriptTail value slice (.ref d) (.int k u)) Q E s := kda_item N hp hd (intKind_is _ _ _ _) hl (h _) hs hg
theorem kw_62 : True := by
  (k_with "M eval ListComp" => (k_here; (with_reducible show wpAny _ _ (eval (PySem.Expr.ListComp _ [⟨PySem.Expr.Tuple _ _ _, _, [], _⟩] _ _) _) _ _ _); k_dflt (refine LCp.ListComp_P (F₀ := by k_asm) (by first | rfl | with_unfolding_all rfl) (by decide) (by rfl) (by decide) (by rfl) (by rfl) (by decide) ?_)))
  trivial
theorem kw_63 : True := by
  (k_with "M mine topair" => repeat' ((fail_if_success (with_reducible show LCp.SrcLP _ _ _ _ _ _ _ _ _ _ _ _ _ _ _)); walk_at "mine one"))
  trivial
theorem kw_64 : True := by
  (k_with "M subscriptTail" => (k_here; (with_reducible show wpAny _ _ (subscriptTail _ _ (Value.ref _) (Value.int _ _)) _ _ _); (with_unfolding_all refine' mi_room ?q_N ?q_m ?q_d ?q_v ?_ ?q_k6 ?q_k7; (case q_N => k_asm); (case q_m => k_mem); (case q_d => assumption); (case q_v => assumption); (case q_k6 => with_unfolding_all rfl); (case q_k7 => intro _; with_unfolding_all rfl)); intro _))
  trivial
theorem kw_65 : True := by
  (k_with "M mine callR" => ((case B => k_asm); (case F => k_asm); (case X => k_asm); (case N => (refine' news_sub (by assumption) ?_; (try dsimp only [List.cons_append]); walk_at "mine sub")); (case T => k_asm); (case hk => first | exact rfl | assumption); (case hd => ktr_room); (case hu => ktr_units)))
  trivial
theorem kw_66 : True := by
  (k_with "M mine tone" => repeat' ((fail_if_success (with_reducible show wpAny _ _ (compareOp CmpOp.NotEq (Value.ref _) (Value.ref _)) _ _ _)); walk_at "mine one"))
  trivial
theorem pa_deq {ys ys' : List Value} {prs : List (By × By)} {own own' news : Led} (h : PA ys prs own) (h' : PA ys' prs own') (k : ∀ p ∈ own, p ∈ news) (k' : ∀ p ∈ own', p ∈ news) {n : Nat} : ∀ (j : Nat) (x y : Value), ys[j]? = some x → ys'[j]? = some y → DEq news (n + 1) x y := by
  intro j x y hx hy
  have hj : j < prs.length := by
    rw [← h.1]
    by_cases q : j < ys.length
    · exact q
    · rw [List.getElem?_eq_none (by omega)] at hx; cases hx
  obtain ⟨T, t, u, e, a1, a2⟩ := h.2 j prs[j].1 prs[j].2 (by rw [List.getElem?_eq_getElem hj])
  obtain ⟨T', t', u', e', b1, b2⟩ := h'.2 j prs[j].1 prs[j].2 (by rw [List.getElem?_eq_getElem hj])
  rw [hx] at a1
  rw [hy] at b1
  cases a1
  cases b1
  refine DEq.tup (k _ a2) (k' _ b2) rfl fun i x y hx hy => ?_
  match i with
  | 0 => simp at hx hy; subst hx hy; exact DEq.bytes _ _ _ _
  | 1 => simp at hx hy; subst hx hy; exact DEq.bytes _ _ _ _
  | i + 2 => simp at hx
theorem told_deq {news : Led} {n : Nat} {a b : Value} {l : Str} {i1 i2 i3 i4 j1 j2 j3 j4 : Int} {s0 s1 s2 s3 s4 u0 u1 u2 u3 u4 : Tok} (e1 : j1 = i1) (e2 : j2 = i2) (e3 : j3 = i3) (e4 : j4 = i4) (h : DEq news n a b) :
    ∀ (j : Nat) (x y : Value), [Value.str l s0, .int i1 s1, .int i2 s2, .int i3 s3, .int i4 s4, a][j]? = some x → [Value.str l u0, .int j1 u1, .int j2 u2, .int j3 u3, .int j4 u4, b][j]? = some y → DEq news n x y := by
  subst e1 e2 e3 e4
  intro j x y hx hy
  match j with
  | 0 => simp at hx hy; subst hx hy; exact DEq.str _ _ _ _
  | 1 => simp at hx hy; subst hx hy; exact DEq.int _ _ _ _
  | 2 => simp at hx hy; subst hx hy; exact DEq.int _ _ _ _
  | 3 => simp at hx hy; subst hx hy; exact DEq.int _ _ _ _
  | 4 => simp at hx hy; subst hx hy; exact DEq.int _ _ _ _
  | 5 => simp at hx hy; subst hx hy; exact h
  | j + 6 => simp at hx
theorem bs_deq {xs ys : List Value} {bs : List By} {news : Led} (h : BsAre xs bs) (k : BsAre ys bs) (n : Nat) : ∀ (j : Nat) (x y : Value), xs[j]? = some x → ys[j]? = some y → DEq news n x y := by
  intro j x y hx hy
  obtain ⟨b, t, e1, e2⟩ := bsAre_get h j hx
  obtain ⟨b', t', f1, f2⟩ := bsAre_get k j hy
  rw [e1] at f1
  cases f1
  subst e2 f2
  exact DEq.bytes _ _ _ _
theorem kw_67 : True := by
  (k_with "M mine topt" => repeat' ((fail_if_success (with_reducible show SrcPT _ _ _ _ _ _ _ _ _ _ _ _ _ _ _)); walk_at "mine one"))
  trivial
theorem pa_get {ys : List Value} {prs : List (By × By)} {own : Led} (h : PA ys prs own) {i : Nat} {v : Value} (hv : ys.toArray[i]? = some v) : ∃ k b T t u e, prs[i]? = some (k, b) ∧ v = Value.ref T ∧ (T, tupO [Value.bytes k t, Value.bytes b u] e) ∈ own := by
  have hv' : ys[i]? = some v := by simpa using hv
  have hlt : i < prs.length := by
    rw [← h.1]
    by_cases q : i < ys.length
    · exact q
    · rw [List.getElem?_eq_none (by omega)] at hv'; cases hv'
  obtain ⟨T, t, u, e, a, b⟩ := h.2 i prs[i].1 prs[i].2 (by rw [List.getElem?_eq_getElem hlt])
  rw [hv'] at a
  cases a
  exact ⟨_, _, T, t, u, e, List.getElem?_eq_getElem hlt, rfl, b⟩
theorem pa_turn {ys : List Value} {prs : List (By × By)} {own led : Led} {i : Nat} {v : Value} {W : Value → Value → Prop} (h : PA ys prs own) (hv : ys.toArray[i]? = some v) (hs : ∀ p ∈ own, p ∈ led) (k : ∀ b c t u, prs[i]? = some (b, c) → W (.bytes b t) (.bytes c u)) : TurnP v led W := by
  obtain ⟨b, c, T, t, u, e, h1, h2, h3⟩ := pa_get h hv
  exact ⟨T, _, _, _, e, h2, hs _ h3, rfl, rfl, k b c t u h1⟩
theorem kw_68 : True := by
  (k_with "M mine tosrcw" => repeat' ((fail_if_success (with_reducible show SrcW _ _ _ _ _ _ _ _ _ _ _ _ _ _)); walk_at "mine one"))
  trivial
theorem al_start {g h : Heap} {L L' D2 c1 c2 : Addr} {oD2 o1 o2 : Obj} {tup big : Led} (N : News g L h ((D2, oD2) :: (tup ++ (c1, o1) :: (c2, o2) :: big))) (of : LCg.Off1 D2 (tup ++ (c1, o1) :: (c2, o2) :: big)) (l1 : ∀ p ∈ big, p.1 < L') (h1 : L' ≤ c1) (h2 : L' ≤ c2) (OB : OwnOff ((c1, o1) :: (c2, o2) :: big) (tup.map (·.1))) :
    News g L h ((c1, o1) :: (c2, o2) :: (D2, oD2) :: (tup ++ big)) ∧ (Df c1 D2 ∧ Df c2 D2) ∧ OwnOff (tup ++ big) [c1, c2, D2] := by
  refine ⟨news_sub N (by walk_at "mine sub"), ⟨off1_mem of (c1, o1) (List.mem_append_right _ (.head _)), off1_mem of (c2, o2) (List.mem_append_right _ (.tail _ (.head _)))⟩, fun p hp b hb => ?_⟩
  · simp only [List.mem_cons, List.not_mem_nil, or_false] at hb
    rcases List.mem_append.mp hp with h | h
    · have hb' : p.1 ∈ tup.map (·.1) := List.mem_map.mpr ⟨p, h, rfl⟩
      rcases hb with e | e | e
      · exact fun q => OB (c1, o1) (.head _) _ hb' (by rw [← e, q])
      · exact fun q => OB (c2, o2) (.tail _ (.head _)) _ hb' (by rw [← e, q])
      · rw [e]; exact off1_mem of p (List.mem_append_left _ h)
    · have := l1 p h
      rcases hb with e | e | e
      · exact e ▸ Nat.ne_of_lt (Nat.lt_of_lt_of_le this h1)
      · exact e ▸ Nat.ne_of_lt (Nat.lt_of_lt_of_le this h2)
      · rw [e]; exact off1_mem of p (List.mem_append_right _ (.tail _ (.tail _ h)))
theorem al_ot {g h : Heap} {L A9 B9 D2 c1 c2 : Addr} {oA oB oD2 o1 o2 : Obj} {tup lt back : Led} {x y : Addr × Obj} {x1 x2 x3 : Prop} (N : News g L h ((A9, oA) :: (B9, oB) :: (c2, o2) :: (c1, o1) :: (D2, oD2) :: (tup ++ (lt ++ back)))) (lB : x1 ∧ x2 ∧ x3 ∧ AllLt B9 (tup ++ (lt ++ back)))
    (OC : OwnOff (tup ++ (lt ++ back)) [c2, c1, D2]) (OB : OwnOff (x :: y :: (lt ++ back)) (tup.map (·.1))) (DB : OwnOff back (lt.map (·.1))) : OwnOff ((B9, oB) :: (c2, o2) :: (c1, o1) :: (tup ++ back)) (lt.map (·.1)) := by
  intro p hp b hb
  obtain ⟨q, hq, rfl⟩ := List.mem_map.mp hb
  have hq2 : q ∈ tup ++ (lt ++ back) := List.mem_append_right _ (List.mem_append_left _ hq)
  simp only [List.mem_cons, List.mem_append] at hp
  rcases hp with h | h | h | h | h
  · subst h; exact Ne.symm (Nat.ne_of_lt (allLt_mem lB.2.2.2 q hq2))
  · subst h; exact Ne.symm (OC q hq2 _ (by simp))
  · subst h; exact Ne.symm (OC q hq2 _ (by simp))
  · exact Ne.symm (OB q (.tail _ (.tail _ (List.mem_append_left _ hq))) p.1 (List.mem_map.mpr ⟨p, h, rfl⟩))
  · exact DB p h _ hb
theorem own_cons0 {BB l tl : Led} {x1 x2 x3 : Addr × Obj} (O : OwnOff BB (l.map (·.1))) (m1 : x1 ∈ BB) (m2 : x2 ∈ BB) (m3 : x3 ∈ BB) (sl : ∀ p ∈ tl, p ∈ BB) : OwnOff (x1 :: x2 :: x3 :: tl) (l.map (·.1)) :=
  List.forall_mem_cons.mpr ⟨O _ m1, List.forall_mem_cons.mpr ⟨O _ m2, List.forall_mem_cons.mpr ⟨O _ m3, fun p hp => O p (sl p hp)⟩⟩⟩
inductive AlBase (h₀ : Heap) (L : Addr) (h : Heap) (lt : Led) (b c2 c1 x1 x2 x3 : Addr × Obj) (tup tl rest : Led) : Prop
  | mk (BB : Led) (N : News h₀ L h (lt ++ BB)) (O : OwnOff BB (lt.map (·.1))) (mb : b ∈ BB) (m2 : c2 ∈ BB) (m1 : c1 ∈ BB) (mx1 : x1 ∈ BB) (mx2 : x2 ∈ BB) (mx3 : x3 ∈ BB) (st : ∀ p ∈ tup, p ∈ BB) (sl : ∀ p ∈ tl, p ∈ BB) (sr : ∀ p ∈ rest, p ∈ BB)
theorem al_base {h₀ h : Heap} {L : Addr} {lt tup tl rest : Led} {a b c2 c1 d x1 x2 x3 : Addr × Obj} (N : News h₀ L h (a :: b :: c2 :: c1 :: d :: (tup ++ (lt ++ (x1 :: x2 :: x3 :: (tl ++ rest)))))) (O : OwnOff (b :: c2 :: c1 :: (tup ++ (x1 :: x2 :: x3 :: (tl ++ rest)))) (lt.map (·.1))) : AlBase h₀ L h lt b c2 c1 x1 x2 x3 tup tl rest :=
  ⟨b :: c2 :: c1 :: (tup ++ (x1 :: x2 :: x3 :: (tl ++ rest))), news_sub N (by walk_at "mine sub"), O, .head _, .tail _ (.head _), .tail _ (.tail _ (.head _)), .tail _ (.tail _ (.tail _ (List.mem_append_right _ (.head _)))), .tail _ (.tail _ (.tail _ (List.mem_append_right _ (.tail _ (.head _))))), .tail _ (.tail _ (.tail _ (List.mem_append_right _ (.tail _ (.tail _ (.head _)))))),
    fun p hp => .tail _ (.tail _ (.tail _ (List.mem_append_left _ hp))), fun p hp => .tail _ (.tail _ (.tail _ (List.mem_append_right _ (.tail _ (.tail _ (.tail _ (List.mem_append_left _ hp))))))), fun p hp => .tail _ (.tail _ (.tail _ (List.mem_append_right _ (.tail _ (.tail _ (.tail _ (List.mem_append_right _ hp)))))))⟩
theorem mem_rr {a : Addr × Obj} {l1 l2 r : Led} (h : a ∈ r) : a ∈ l1 ++ (l2 ++ r) := List.mem_append_right _ (List.mem_append_right _ h)
theorem kw_69 : True := by
  (k_with "M mine sub" => assumption)
  trivial
theorem kw_70 : True := by
  (k_with "M mine mem" => first | ((with_reducible refine mem_rr ?_); assumption) | ((with_reducible refine lmem_r ?_); assumption))
  trivial
theorem alike_sp (w : World) (Wa M : Addr) (σ : Tb) (ω : Wd) (lt lw : Led) (hT : TabIs w M σ lt) (hW9 : WIs w Wa M ω lw) (Dj : OwnOff lw (lt.map (·.1))) (oct : Int → By) (hz : ω.rows.length ≤ 40) (hvz : ω.vals.length ≤ 40)
    (e1 : ω.number = σ.number) (e2 : ω.kw = σ.kw) (e3 : ω.vw = σ.vw) (e4 : ω.most = σ.most) (ho : σ.ord = ω.rows.map (·.2)) (hr : ∀ r ∈ ω.rows, (r.2, r.1) ∈ σ.ks) (hn : (σ.ks.map (·.2)).Nodup) (hlk : σ.ks.length = ω.rows.length) (hpk : (σ.ks.map (·.2)).Perm (ω.rows.map (·.1))) (hvv : σ.vals = ω.vals)
    (hbs : ∀ b ∈ σ.vals, b.size ≤ 1000) (hk9 : ∀ r ∈ ω.rows, (r.1.size : Int) = σ.kw ∧ r.1.size ≤ 100 ∧ slotOf σ.ks r.1 = some r.2 ∧ 0 ≤ r.2 ∧ σ.vals[r.2.toNat]? = some (oct r.2) ∧ (oct r.2).size ≤ 1000) :
    Sp w 12 300 559 [.ref Wa] (lt ++ lw) (fun v led' => v = .bool true ∧ ∃ l2, led' = l2 ++ lw ∧ TabIs w M σ l2 ∧ OwnOff lw (l2.map (·.1))) := by
  cases hW9
  rename_i R D oW oD rs nR dkvs tl t0 t1 t2 t3 hW hR hD rD off d1 d2 d3 lW lD
  obtain ⟨Md, V, Bk, K, O, hh, tt, n, hM, hMd, VA, KA, OA⟩ := TabIs.inst hT
  walk_at "mine spc"
  intro mean mg mb dp un gd outer A₀ base h₀ L hpS gS dS kS oS Q E rest cells B F X N Y OR T hd hu l1 hnx hret hpo
  (try dsimp only [List.cons_append] at N l1)
  (try k_lt l1)
  k_cells Y
  (try dsimp only [List.cons_append, List.nil_append] at N)
  simp only [List.append_assoc, List.cons_append] at N l1
  walk_at "mine topair"
  have hlr := hR.1
  refine' LCp.SrcLP.ledger (its := rs.toArray) (by rfl) (by k_asm) (by k_asm) ?m9 ?z9 ?_
  case m9 => k_mem
  case z9 => rw [sizeLine_eq]; simp; omega
  intro g1
  refine compP_inv (DInv (ω.rows.map fun r => (r.1, oct r.2)) _) dinv0 ?turn1 ?fin1
  case turn1 =>
    intro i v ys led hi hv I9
    obtain ⟨tup, rfl, PA9, OB9⟩ := I9
    refine rows_turn hR hv (by walk_at "mine sub") fun k n t2' u2 hrow => ?_
    refine gw fun G kG => ?_
    obtain ⟨q1, q2, q3, q4, q5, q6⟩ := hk9 (k, n) (List.mem_of_getElem? hrow)
    rw [hvv] at q5
    obtain ⟨t7, hva⟩ := rm_at rD q5
    dsimp only at q4 q5 hva
    rw [Int.toNat_of_nonneg q4] at hva
    refine kG ?_
    clear kG
    intro I oI C oC D9 m₂ h9 tk9 E9 hC hx hx2 F1 N1 off9 ne9 K9 hK9
    walk_at "mine steps"
    rename _ < _ ∧ _ < _ ∧ _ < _ ∧ AllLt _ _ => lT
    exact hK9 _ _ (due_end (by assumption) (by assumption) lT rfl off9 PA9 OB9 (by rw [List.getElem?_map, hrow]; rfl) (fun l hl => .inr ⟨_, hl _ (.tail _ (.tail _ (List.mem_append_right _ (.tail _ (.head _))))), rfl, _, rfl⟩))
  case fin1 =>
    intro ys led I9
    obtain ⟨tup, rfl, PA9, OB9⟩ := I9
    have hlp := PA9.1
    have hzl : ys.length ≤ 1000 := by rw [hlp]; simp; omega
    unfold LCg.FinE
    intro D2 h8 tk8 F2 N2 o2
    dsimp only
    rename ∀ p ∈ lt ++ _, _ => l1
    obtain ⟨N3, ⟨q1, q2⟩, OC⟩ := al_start N2 o2 l1 (Nat.le_trans (Nat.le_add_right _ 1) (Nat.le_add_right _ 1)) (Nat.le_add_right _ 1) OB9
    clear N2
    have DB0 := own_app Dj (own_sub OR (l' := lt.map (·.1)) fun x hx => by rw [List.map_append]; exact List.mem_append_left _ hx)
    have DB : OwnOff ((Wa, oW) :: (R, W.listOf rs.toArray nR) :: (D, oD) :: (tl ++ rest)) (lt.map (·.1)) := DB0
    repeat' ((fail_if_success (with_reducible show wpAny _ _ (call (Value.ref 271) _ _) _ _ _)); (first | (k_unfold; (try dsimp only)) | walk1 | (dsimp only; walk1) | (dsimp only; k_unfold; (try dsimp only)) | fail "no step"))
    rename News _ _ _ (_ :: _ :: _ :: _ :: _ :: (tup ++ _)) => N4
    rename _ < _ ∧ _ < _ ∧ _ < _ ∧ AllLt _ _ => lB
    obtain ⟨BB, NB, OT, mb, m2, m1, mx1, mx2, mx3, st, sl, sr⟩ := al_base N4 (al_ot N4 lB OC OB9 DB)
    clear N4 lB OC
    refine' told_use (rows := ω.rows) (oct := oct) hT ho hr ?z1 hn hk9 ?B ?F ?X ?N ?O ?T ?hk ?hd ?hu ?_
    case z1 => omega
    case O => exact OT
    walk_at "mine callR"
    intro TT TP ys9 n9 own9 s0 s1 s2 s3 s4 l9 h9 tk9 Md9 V9 Bk9 K9 Or9 hh9 tt9 nn9 hM9 hMd9 VA9 KA9 OA9 T9 S9 m9 m8 OT2 F9 N9
    (try dsimp only)
    (try k_fold)
    walk_at "mine tone"
    have hpe : (ω.rows.map fun r => (r.1, oct r.2)).take rs.toArray.size = ω.rows.map fun r => (r.1, oct r.2) := List.take_of_length_le (by simp; omega)
    rw [hpe] at PA9
    refine' ne_tups (n := 3) ?N7 ?ha7 ?hb7 ?hl7 ?h7 ?u7 ?_
    case N7 => k_asm
    case ha7 => k_mem
    case hb7 => k_mem
    case hl7 => rfl
    case h7 =>
      refine' told_deq e1 e2 e3 e4 (DEq.tup (xs := ys9) (ys := ys) (na := n9) (nb := 0) ?p1 ?p2 ?p3 ?p4)
      case p1 => k_mem
      case p2 => k_mem
      case p3 => rw [S9.1, PA9.1]
      case p4 => exact pa_deq S9 PA9 (by walk_at "mine sub") (by walk_at "mine sub")
    case u7 => ktr_units
    clear OT DB hT hM hMd VA KA OA m9 m8 S9
    repeat' ((fail_if_success (with_reducible show wpAny _ _ (call (Value.ref 480) _ _) _ _ _)); (first | (k_unfold; (try dsimp only)) | walk1 | (dsimp only; walk1) | (dsimp only; k_unfold; (try dsimp only)) | fail "no step"))
    refine' byage_use (rows := ω.rows) T9 ho hr ?z2 ?B ?F ?X ?N ?O ?T ?hk ?hd ?hu ?_
    case z2 => omega
    case O => exact OT2
    walk_at "mine callR"
    clear T9 hM9 hMd9 VA9 KA9 OA9 OT2
    intro D8 ys8 l8 h8 tk8 Md9 V9 Bk9 K9 Or9 hh9 tt9 nn9 hM9 hMd9 VA9 KA9 OA9 T8 B8 X8 OT3 F8 N8
    (try dsimp only)
    (try k_fold)
    walk_at "mine topair"
    refine' LCp.SrcLP.ledger (its := rs.toArray) (by rfl) (by k_asm) (by k_asm) ?m9 ?z9 ?_
    case m9 => k_mem
    case z9 => rw [sizeLine_eq]; simp; omega
    intro g2
    refine compP_pure (fun (i : Nat) (y : Value) => ∃ b t, (ω.rows.map (·.1))[i]? = some b ∧ y = .bytes b t) ?turn2 ?S2 ?fin2
    case S2 => exact .inr ⟨_, by k_mem, rfl, _, rfl⟩
    case turn2 =>
      intro i v hi hv
      refine rows_turn hR hv (by walk_at "mine sub") fun k n t2' u2 hrow => ?_
      intro ys I oI C oC D9 m₂ h9 tk9 E9 hC hx hx2 F1 N1 off9 ne9 K9 hK9
      walk_at "mine steps"
      exact hK9 _ _ (cpost_end (by assumption) (by assumption) ⟨_, _, by rw [List.getElem?_map, hrow]; rfl, rfl⟩)
    case fin2 =>
      intro ys2 hl2 hy2
      have hB2 : BsAre ys2 (ω.rows.map (·.1)) := bsAre_of (by rw [hl2]; simp; omega) hy2
      unfold LCg.FinE
      intro D9 h9 tk9 F2 N2 o2
      dsimp only
      walk_at "mine tone"
      refine' ne_lsts (n := 3) ?N7 ?ha7 ?hb7 ?hl7 ?h7 ?u7 ?_
      case N7 => k_asm
      case ha7 => k_mem
      case hb7 => k_mem
      case hl7 => rw [B8.length, hB2.length]
      case h7 => exact bs_deq B8 hB2 3
      case u7 => ktr_units
      repeat' ((fail_if_success (with_reducible show wpAny _ _ (call (Value.ref 395) _ _) _ _ _)); (first | (k_unfold; (try dsimp only)) | walk1 | (dsimp only; walk1) | (dsimp only; k_unfold; (try dsimp only)) | fail "no step"))
      refine' keys_use T8 ?z2 ?B ?F ?X ?N ?O ?T ?hk ?hd ?hu ?_
      case z2 => omega
      case O => exact OT3
      walk_at "mine callR"
      clear T8 hM9 hMd9 VA9 KA9 OA9 OT3 N2 o2 N8
      intro D7 ys7 bs7 n7 l7 h7 tk7 Md9 V9 Bk9 K9 Or9 hh9 tt9 nn9 hM9 hMd9 VA9 KA9 OA9 T7 B7 P7 W7 X7 OT4 F7 N7
      (try dsimp only)
      (try k_fold)
      walk_at "mine topair"
      refine' LCp.SrcLP.ledger (its := rs.toArray) (by rfl) (by k_asm) (by k_asm) ?m9 ?z9 ?_
      case m9 => k_mem
      case z9 => rw [sizeLine_eq]; simp; omega
      intro g3
      refine compP_pure (fun (i : Nat) (y : Value) => ∃ b t, (ω.rows.map (·.1))[i]? = some b ∧ y = .bytes b t) ?turn3 ?S3 ?fin3
      case S3 => exact .inr ⟨_, by k_mem, rfl, _, rfl⟩
      case turn3 =>
        intro i v hi hv
        refine rows_turn hR hv (by walk_at "mine sub") fun k n t2' u2 hrow => ?_
        intro ys I oI C oC D9 m₂ h9 tk9 E9 hC hx hx2 F1 N1 off9 ne9 K9 hK9
        walk_at "mine steps"
        exact hK9 _ _ (cpost_end (by assumption) (by assumption) ⟨_, _, by rw [List.getElem?_map, hrow]; rfl, rfl⟩)
      case fin3 =>
        intro ys3 hl3 hy3
        have hB3 : BsAre ys3 (ω.rows.map (·.1)) := bsAre_of (by rw [hl3]; simp; omega) hy3
        have hz3 : (ω.rows.map (·.1)).length < 64 := by simp; omega
        unfold LCg.FinE
        intro D6 h6 tk6 F6 N6 o6
        dsimp only
        walk_at "mine tone"
        rename BsAre _ _ => hB4
        rename List.Perm _ _ => hP4
        rename List.Pairwise _ _ => hW4
        have huq := sorted_uniq _ _ (P7.trans (hpk.trans hP4.symm)) W7 hW4
        rw [← huq] at hB4
        refine' ne_lsts (n := 3) ?N7 ?ha7 ?hb7 ?hl7 ?h7 ?u7 ?_
        case N7 => k_asm
        case ha7 => k_mem
        case hb7 => k_mem
        case hl7 => rw [B7.length, hB4.length]
        case h7 => exact bs_deq B7 hB4 3
        case u7 => ktr_units
        repeat' ((fail_if_success (with_reducible show wpAny _ _ (call (Value.ref 347) _ _) _ _ _)); (first | (k_unfold; (try dsimp only)) | walk1 | (dsimp only; walk1) | (dsimp only; k_unfold; (try dsimp only)) | fail "no step"))
        refine' sp_tabI (count_sp _ _ _ _ T7 ?z2) ?B ?F ?X ?N ?O ?T ?hk ?hd ?hu ?_
        case z2 => omega
        case O => exact OT4
        walk_at "mine callR"
        clear T7 hM9 hMd9 VA9 KA9 OA9 OT4 N7
        intro t6 led6 h6 tk6 Md9 V9 Bk9 K9 Or9 hh9 tt9 nn9 hM9 hMd9 VA9 KA9 OA9 T6 OT5 F6 N6
        (try dsimp only)
        (try k_fold)
        walk_at "mine topair"
        refine' LCp.SrcLP.ledger (its := rs.toArray) (by rfl) (by k_asm) (by k_asm) ?m9 ?z9 ?_
        case m9 => k_mem
        case z9 => rw [sizeLine_eq]; simp; omega
        intro g4
        refine compP_inv (VInv w M σ (ω.rows.map fun r => oct r.2) _) ⟨_, rfl, T6, OT5, rfl, fun j y e => by simp at e⟩ ?turn4 ?fin4
        case turn4 =>
          intro i v ys led hi hv I9
          obtain ⟨l2, rfl, T2', OB2, hyl1, hyl2⟩ := I9
          have hyl := And.intro hyl1 hyl2
          clear T6 OT5 hM9 hMd9 VA9 KA9 OA9
          obtain ⟨Md9, V9, Bk9, K9, Or9, hh9, tt9, nn9, hM9, hMd9, VA9, KA9, OA9⟩ := TabIs.inst T2'
          refine rows_turn hR hv (by walk_at "mine sub") fun k n t2' u2 hrow => ?_
          refine gw fun G kG => ?_
          obtain ⟨q1, q2, q3, q4, q5, q6⟩ := hk9 (k, n) (List.mem_of_getElem? hrow)
          refine kG ?_
          clear kG
          intro I oI C oC D9 m₂ h9 tk9 E9 hC hx hx2 F1 N1 off9 ne9 K9 hK9
          have O3 := own3 (oI := oI) (oC := oC) (oD := LCg.lst ys) off9 OB2
          repeat' ((fail_if_success (with_reducible show wpAny _ _ (call (Value.ref 203) _ _) _ _ _)); (first | (k_unfold; (try dsimp only)) | walk1 | (dsimp only; walk1) | (dsimp only; k_unfold; (try dsimp only)) | fail "no step"))
          refine' sp_tabI (value_some _ _ _ _ T2' _ _ q1 q2 hn _ q3 q4 _ q5 q6) ?B ?F ?X ?N ?O ?T ?hk ?hd ?hu ?_
          case O => exact O3
          walk_at "mine callR"
          intro t6 led6 h6 tk6 _ _ _ _ _ _ _ _ _ _ _ _ _ T7 OT6 F6 N6
          exact hK9 _ _ (vals_end F6 N6 OT6 off9 T7 (fun l hl => .inr ⟨_, hl _ (by k_mem), rfl, _, rfl⟩) hyl (by rw [List.getElem?_map, hrow]; rfl))
        case fin4 =>
          intro ys4 led4 I4
          obtain ⟨l4, rfl, T4, OT6, hl4, hy4⟩ := I4
          have hB4 : BsAre ys4 (ω.rows.map fun r => oct r.2) := bsAre_of (by rw [hl4]; simp; omega) hy4
          unfold LCg.FinE
          intro D5 h5 tk5 F5 N5 o5
          dsimp only
          clear T6 hM9 hMd9 VA9 KA9 OA9
          obtain ⟨Md9, V9, Bk9, K9, Or9, hh9, tt9, nn9, hM9, hMd9, VA9, KA9, OA9, oV9, vkvs9, mV9, hV9, loV9, lenV9, hVi9⟩ := TabIs.inst3 T4
          repeat' ((fail_if_success (with_reducible show wpAny _ _ (eval (PySem.Expr.ListComp _ _ _ _) _) _ _ _)); (first | (k_unfold; (try dsimp only)) | walk1 | (dsimp only; walk1) | (dsimp only; k_unfold; (try dsimp only)) | fail "no step"))
          refine ListComp_PT (_F₀ := by k_asm) (by first | rfl | with_unfolding_all rfl) (by decide) (by rfl) (by decide) (by rfl) (by rfl) (by decide) ?_
          walk_at "mine topt"
          refine' ⟨_, ys.toArray, tupO ys 0, _, fun (i : Nat) (y : Value) => ∃ b t, (ω.rows.map fun r => oct r.2)[i]? = some b ∧ y = .bytes b t, rfl, rfl, by k_asm, by k_asm, ?m9, rfl, ⟨_, rfl⟩, ?z9, ?_⟩
          case m9 => k_mem
          case z9 => simpa using hzl
          intro g5
          refine ⟨?turn5, ?fin5⟩
          case turn5 =>
            intro i v hv
            refine pa_turn PA9 hv (by walk_at "mine sub") fun k b t2' u2 hrow => ?_
            intro I oI C oC D9 ys9 m₂ h9 tk9 E9 hC hx hx2 F1 N1 K9 hK9
            walk_at "mine steps"
            refine hK9 _ _ (cpost_end (by assumption) (by assumption) ⟨_, _, ?_, rfl⟩)
            rw [List.getElem?_map] at hrow ⊢
            cases e0 : ω.rows[i]? with
            | none => rw [e0] at hrow; cases hrow
            | some r => rw [e0] at hrow; simp only [Option.map_some, Option.some.injEq, Prod.mk.injEq] at hrow ⊢; exact hrow.2
          case fin5 =>
            intro ys5 hl5 hy5
            have hB5 : BsAre ys5 (ω.rows.map fun r => oct r.2) := bsAre_of (by rw [hl5, List.size_toArray, PA9.1]; simp) hy5
            unfold LCg.FinE
            intro D6 h6 tk6 F6 N6 o6
            dsimp only
            walk_at "mine tone"
            refine' ne_lsts (n := 3) ?N7 ?ha7 ?hb7 ?hl7 ?h7 ?u7 ?_
            case N7 => k_asm
            case ha7 => k_mem
            case hb7 => k_mem
            case hl7 => rw [hB4.length, hB5.length]
            case h7 => exact bs_deq hB4 hB5 3
            case u7 => ktr_units
            repeat' ((fail_if_success (with_reducible show wpAny _ _ (eval (PySem.Expr.ListComp _ _ _ _) _) _ _ _)); (first | (k_unfold; (try dsimp only)) | walk1 | (dsimp only; walk1) | (dsimp only; k_unfold; (try dsimp only)) | fail "no step"))
            refine ListComp_W (F₀ := by k_asm) (by first | rfl | with_unfolding_all rfl) (by decide) (by rfl) (by decide) (by rfl) ?_
            walk_at "mine tosrcw"
            refine srcW_dict (od := oV9) (kvs := vkvs9) (knd := PySem.intKind PySem.Challenge.rw_qz0154_01.row.prog w) (by rfl) (by k_asm) (by k_asm) hV9 ?m9 loV9 (by rw [sizeLine_eq, lenV9, hvv]; omega) (fun nw => (V9, oV9) ∈ nw) ?m8 (fun nw h => h) ?_
            case m9 => k_mem
            case m8 => k_mem
            intro g6
            refine comp_inv (SInv σ.vals _) sinv0 ?turn6 ?fin6
            case turn6 =>
              intro i v ys6 led6 I oI C oC D9 m₂ h9 tk9 E9 hi9 hv I9 hC hx F1 N1 off9 ne9 K9 hK9
              obtain ⟨tup6, rfl, S6⟩ := I9
              obtain ⟨kk, xx, hkx, hkv⟩ := hv
              obtain ⟨a6, b6, hb6, hp6, hva6, hma6⟩ := hVi9 i _ hkx
              obtain ⟨rfl, rfl⟩ := Prod.mk.inj hp6
              obtain ⟨t6, rfl⟩ : ∃ t, v = .int (i : Int) t := Value.isInt_shape hkv
              have hi0 : (0 : Int) ≤ (i : Int) := by omega
              have hb7 : σ.vals[((i : Int)).toNat]? = some b6 := by simpa using hb6
              have hbz : b6.size ≤ 1000 := hbs b6 (List.mem_of_getElem? hb6)
              walk_at "mine steps"
              rename _ < _ ∧ _ < _ ∧ _ < _ ∧ AllLt _ _ => lT
              exact hK9 _ _ (slot_end (by assumption) (by assumption) lT rfl off9 S6 hb6 (fun l hl => hl _ (by k_mem)))
            case fin6 =>
              intro ys6 led6 I9
              obtain ⟨tup6, rfl, S6⟩ := I9
              have S7 : SlotT ys6 σ.vals tup6 := by rw [lenV9, List.take_length] at S6; exact S6
              unfold LCg.FinE
              intro D8 h8 tk8 F8 N8 o8
              dsimp only
              repeat' ((fail_if_success (with_reducible show wpAny _ _ (call (Value.builtin "sorted") _ _) _ _ _)); (first | (k_unfold; (try dsimp only)) | walk1 | (dsimp only; walk1) | (dsimp only; k_unfold; (try dsimp only)) | fail "no step"))
              refine' mi_sortslots (bs := σ.vals) ?F ?N ?m ?S ?z ?_
              case F => k_asm
              case N => k_asm
              case m => k_mem
              case S => exact slotT_mono S7 (by walk_at "mine sub")
              case z => rw [S7.1, hvv]; omega
              intro D6 c6 h6 F6 N6 lt6
              have NX := news_sub N6 (sub_cons (show (D, oD) ∈ _ by k_mem) (sub_refl _))
              clear N6
              (try dsimp only)
              repeat' ((fail_if_success (with_reducible show wpAny _ _ (call (Value.builtin "dict.items") _ _) _ _ _)); (first | (k_unfold; (try dsimp only)) | walk1 | (dsimp only; walk1) | (dsimp only; k_unfold; (try dsimp only)) | fail "no step"))
              refine' kdx_view (knd := PySem.intKind PySem.Challenge.rw_qz0154_01.row.prog w) ?F ?N ?m hD lD ?_
              case F => k_asm
              case N => k_asm
              case m => k_mem
              intro D5 h5 F5 N5 lt5
              (try dsimp only)
              repeat' ((fail_if_success (with_reducible show wpAny _ _ (call (Value.builtin "sorted") _ _) _ _ _)); (first | (k_unfold; (try dsimp only)) | walk1 | (dsimp only; walk1) | (dsimp only; k_unfold; (try dsimp only)) | fail "no step"))
              refine' mi_sorteditems (dkvs := dkvs) (vals := ω.vals) ?hh ?F ?N ?m ?d hD rD ?z ?_
              case hh => rfl
              case F => k_asm
              case N => k_asm
              case m => k_mem
              case d => k_mem
              case z => omega
              intro D4 vs4 c4 tups4 h4 tk4 S4 F4 N4
              (try dsimp only)
              repeat' ((fail_if_success (with_reducible show wpAny _ _ (compareOp CmpOp.Eq (Value.ref _) (Value.ref _)) _ _ _)); (first | (k_unfold; (try dsimp only)) | walk1 | (dsimp only; walk1) | (dsimp only; k_unfold; (try dsimp only)) | fail "no step"))
              refine' eq_lsts (n := 3) ?N7 ?ha7 ?hb7 ?hl7 ?h7 ?u7 ?_
              case N7 => k_asm
              case ha7 => k_mem
              case hb7 => k_mem
              case hl7 => rw [S7.1, S4.1, hvv]
              case h7 => exact slot_deq (bs := σ.vals) (slotT_mono S7 (by walk_at "mine sub")) (slotT_mono (hvv ▸ S4) (by walk_at "mine sub")) 2
              case u7 => ktr_units
              walk_at "mine steps"
              refine' hret _ (l4 ++ _) _ _ ⟨rfl, l4, rfl, T4, ?oA⟩ ?oB (by assumption) ?nB
              case oA => exact own_cons0 OT6 mx1 mx2 mx3 sl
              case oB =>
                intro p hp b hb
                rw [List.map_append] at hb
                rcases List.mem_append.mp hb with h | h
                · exact OT6 p (sr p hp) b h
                · exact OR p hp b (by rw [List.map_append]; exact List.mem_append_right _ h)
              case nB =>
                refine' news_sub (by assumption) ?_
                simp only [List.append_assoc, List.cons_append]
                walk_at "mine sub"
end
section
section
variable {prog : Program} {w : World} {A : Around} {E : Value → Shared → Prop} {s : Shared} {h₀ h : Heap} {L D D2 : Addr} {m : Str → Option Value} {news : Led} {vs ws : List Value} {n n2 : Nat}
theorem mi_nelen {Q : Value → Shared → Prop} (N : News h₀ L s.heap news) (hm : (D, W.listOf vs.toArray n) ∈ news) (hm2 : (D2, W.listOf ws.toArray n2) ∈ news) (hne : vs.length ≠ ws.length) (hu : A.units < cLine) (h : Q (.bool true) s) :
    wpAny (model prog w) A (compareOp .NotEq (.ref D) (.ref D2)) Q E s :=
  PySem.SeqAt.RcNeAt.lists_lengths (items := vs.toArray) (items2 := ws.toArray) (PySem.IsL.isList (n := n) (N _ hm).1) (PySem.IsL.isList (n := n2) (N _ hm2).1) (by simpa using hne) hu _ _ _ _ h
theorem mi_listat {value slice : PySem.Expr} {k : Int} {u : Tok} {v : Value} {Q : Value → Shared → Prop} (N : News h₀ L s.heap news) (hm : (D, W.listOf vs.toArray n) ∈ news) (hx : vs[k.toNat]? = some v)
    (h0 : 0 ≤ k) (hf : k < 2 ^ 63) (h : Q v s) (hs : subscripted slice false (.ref D) (.int k u) = operate [.ref D, .int k u] (getItem (.ref D) (.int k u))) :
    wpAny (model prog w) A (subscriptTail value slice (.ref D) (.int k u)) Q E s := by
  have hl : s.heap.IsList D vs.toArray := ⟨_, (N _ hm).1, rfl, n, rfl⟩
  exact tail_any hl.typeIs slot_list_getitem.lookup (wpAny_getItem_list hl h0 hf (by simp [hx]) h) hs
end
theorem kw_71 : True := by
  (k_with "M subscriptTail" => (k_here; (with_reducible show wpAny _ _ (subscriptTail _ _ (Value.ref _) (Value.int 0 _)) _ _ _); (with_unfolding_all refine' mi_listat ?q_N ?q_m ?q_x ?q_z ?q_f ?_ ?q_k6; (case q_N => k_asm); (case q_m => k_mem); (case q_x => assumption); (case q_z => walk_at "mine om"); (case q_f => walk_at "mine om"); (case q_k6 => with_unfolding_all rfl))))
  trivial
theorem eldr_some (w : World) (Wa M : Addr) (σ : Tb) (ω : Wd) (lt lw : Led) (hT : TabIs w M σ lt) (hW9 : WIs w Wa M ω lw) (Dj : OwnOff lw (lt.map (·.1))) (k0 : By) (sl : Int) (rr : List (By × Int)) (hrows : ω.rows = (k0, sl) :: rr) (rs9 : List Int) (ho : σ.ord = sl :: rs9) (hz : ω.rows.length ≤ 40) :
    Sp w 12 300 566 [.ref Wa] (lt ++ lw) (fun v led' => v = .bool true ∧ ∃ l2, led' = l2 ++ lw ∧ TabIs w M σ l2 ∧ OwnOff lw (l2.map (·.1))) := by
  cases hW9
  rename_i R D oW oD rs nR dkvs tl t0 t1 t2 t3 hW hR hD rD off d1 d2 d3 lW lD
  obtain ⟨Md, V, Bk, K, O, hh, tt, n, hM, hMd, VA, KA, OA⟩ := TabIs.inst hT
  unfold Sp
  intro mean mg mb dp un gd cn cs a ccd cl outer A₀ base h₀ L m s Q E rest B F X N OR T hk hd hu hret
  simp only [List.append_assoc, List.cons_append] at N
  have DB0 := own_app Dj (own_sub OR (l' := lt.map (·.1)) fun x hx => by rw [List.map_append]; exact List.mem_append_left _ hx)
  have DB : OwnOff ((Wa, oW) :: (R, W.listOf rs.toArray nR) :: (D, oD) :: (tl ++ rest)) (lt.map (·.1)) := DB0
  refine wpAny_call ?_
  k_dflt walk_at "mine enter"
  repeat' ((fail_if_success (with_reducible show wpAny _ _ (call (Value.ref 468) _ _) _ _ _)); (first | (k_unfold; (try dsimp only)) | walk1 | (dsimp only; walk1) | (dsimp only; k_unfold; (try dsimp only)) | fail "no step"))
  refine' sp_use (eldest_some _ _ _ _ hT _ _ ho) ?B ?F ?X ?N ?O ?T ?hk ?hd ?hu ?_
  case O => exact DB
  walk_at "mine callR"
  intro v6 led6 h6 tk6 p6 OT5 F6 N6
  obtain ⟨⟨t6, e9⟩, T6⟩ := p6
  subst e9
  (try dsimp only)
  (try k_fold)
  have hlr := hR.1
  obtain ⟨T2, t2', u2, e2, hy, hT2⟩ := hR.2 0 k0 sl (by rw [hrows]; rfl)
  walk_at "mine tone"
  have hy' : rs[(0 : Int).toNat]? = some (Value.ref T2) := hy
  refine' mi_nelen ?N ?m ?m2 ?ne ?u ?_
  case N => k_asm
  case m => k_mem
  case m2 => k_mem
  case ne => rw [hlr, hrows]; simp
  case u => ktr_units
  walk_at "mine steps"
  rw [show (sl == sl) = true by simp]
  refine' hret _ (led6 ++ _) _ _ ⟨rfl, led6, rfl, T6, ?oA⟩ ?oB (by assumption) ?nB
  case oA => exact fun p hp => OT5 p ((sub_cons (.head _) (sub_cons (.tail _ (.head _)) (sub_cons (.tail _ (.tail _ (.head _))) fun p hp => .tail _ (.tail _ (.tail _ (List.mem_append_left _ hp)))))) p hp)
  case oB =>
    intro p hp b hb
    rw [List.map_append] at hb
    rcases List.mem_append.mp hb with h | h
    · exact OT5 p (.tail _ (.tail _ (.tail _ (List.mem_append_right _ hp)))) b h
    · exact OR p hp b (by rw [List.map_append]; exact List.mem_append_right _ h)
  case nB =>
    refine' news_sub (by assumption) ?_
    simp only [List.append_assoc, List.cons_append]
    walk_at "mine sub"
end
section
theorem news_swap {h₀ h : Heap} {L : Addr} {a b : Addr × Obj} {l : Led} (N : News h₀ L h (a :: b :: l)) : News h₀ L h (b :: a :: l) := fun p hp => N p (by
  rcases List.mem_cons.mp hp with h | hp
  · exact h ▸ .tail _ (.head _)
  · rcases List.mem_cons.mp hp with h | hp
    · exact h ▸ .head _
    · exact .tail _ (.tail _ hp))
theorem xk_in (w : World) : clsIn (hd.heap_1 w.params) 59 = some { name := Str.ofString "MapError", bases := [Value.ref 46], mro := [.ref 59, .ref 46, .type "Exception", .type "BaseException", .type "object"], ns := 58, qualname := Str.ofString "MapError" } := rfl
theorem xk_meta : typeOf (.type "Exception") = pure (.type "type") := by kernel_rfl
theorem ginit_sp (w : World) (e t : Addr) (sv : Str) (tq : Tok) (het : e ≠ t) :
    Sp w 3 40 36 [.ref e, .str sv tq] [(e, excObj0 59 t), (t, tupObj0 [.str sv tq])] (fun v led' => v = .none ∧ ∃ t2 d oD, led' = [(d, oD), (e, { excObj0 59 t2 with dict := some d }), (t2, tupObj0 [.str sv tq]), (t, tupObj0 [.str sv tq])]) := by
  k_fill
  have xk2 : findIn (hd.heap_1 w.params) (.ref 59) "__setattr__" = some (some (.builtin "object.__setattr__")) := by k_is
  have xk3 : findIn (hd.heap_1 w.params) (.ref 59) "what" = some none := by k_is
  have xk4 : findIn (hd.heap_1 w.params) (.ref 59) "at" = some none := by k_is
  have xk5 : mroIn (hd.heap_1 w.params) 59 (.type "Exception") = some true := by k_is
  walk_at "mine sp"
  intro mean mg mb dp un gd outer A₀ base h₀ L hpS gS dS kS oS Q E rest B F X N OR T hd hu hnx hret hpo
  dsimp only [List.cons_append, List.nil_append] at N
  have ne1 : ∀ p ∈ (t, tupObj0 [Value.str sv tq]) :: rest, p.1 ≠ e := fun p hp => by
    rcases List.mem_cons.mp hp with rfl | hp
    · exact Ne.symm het
    · exact OR p hp _ (.head _)
  repeat (first | (k_unfold; (try dsimp only)) | walk1 | (dsimp only; walk1) | (dsimp only; k_unfold; (try dsimp only)))
  k_here
  refine' method_type ?F ?X ?m (by decide +kernel) ?e ?h ?_
  case F => k_asm
  case X => k_asm
  case m => exact xk_meta
  case e => k_dflt k_is
  case h => k_handed
  repeat ((fail_if_success (with_reducible show wpAny _ _ (call (Value.builtin "Exception.__init__") _ _) _ _ _)); (first | (k_unfold; (try dsimp only)) | walk1 | (dsimp only; walk1) | (dsimp only; k_unfold; (try dsimp only)) | fail "no step"))
  refine' xc_init ?F ?X ?N (xk_in w) xk5 ne1 ?_
  case F => k_asm
  case X => k_asm
  case N => k_asm
  intro t2 h2 F2 N2 l2
  (try dsimp only)
  (try k_fold)
  repeat ((fail_if_success (with_reducible show wpAny _ _ (setAttr _ _ _) _ _ _)); (first | (k_unfold; (try dsimp only)) | walk1 | (dsimp only; walk1) | (dsimp only; k_unfold; (try dsimp only)) | fail "no step"))
  have N3 : News _ _ _ ((e, excObj0 59 t2) :: (t2, tupObj0 [Value.str sv tq]) :: (t, tupObj0 [Value.str sv tq]) :: rest) := news_swap N2
  refine' xset_first (t := 46) ?F ?X N3 rfl (xk_in w) rfl rfl xk2 xk3 rfl rfl ?ne ?_
  case F => k_asm
  case X => k_asm
  case ne =>
    intro p hp
    rcases List.mem_cons.mp hp with rfl | hp
    · exact Ne.symm (Nat.ne_of_lt (l2 _ (.head _)))
    · exact ne1 p hp
  intro dx H t1 h3 tk3 F3 N4 l3
  (try dsimp only)
  (try k_fold)
  repeat ((fail_if_success (with_reducible show wpAny _ _ (setAttr _ _ _) _ _ _)); (first | (k_unfold; (try dsimp only)) | walk1 | (dsimp only; walk1) | (dsimp only; k_unfold; (try dsimp only)) | fail "no step"))
  refine' xset_next (t := 46) ?F ?X N4 rfl (xk_in w) rfl rfl xk2 xk4 rfl rfl (by simp) rfl ?ne ?_
  case F => k_asm
  case X => k_asm
  case ne =>
    intro p hp
    rcases List.mem_cons.mp hp with rfl | hp
    · exact Nat.ne_of_lt (l3 (e, excObj0 59 t2) (.head _))
    · exact Nat.ne_of_lt (l3 p (.tail _ hp))
  intro oD h4 tk4 F4 N5
  (try dsimp only)
  (try k_fold)
  walk_at "mine steps"
  rename News h₀ L _ _ => kN
  refine hret _ [(dx, oD), (e, _), (t2, _), (t, _)] _ _ ⟨rfl, t2, dx, oD, rfl⟩ (fun p hp b hb => ?_) (by assumption) kN
  simp only [List.map_cons, List.map_nil, List.mem_cons, List.not_mem_nil, or_false] at hb
  rcases hb with h | h | h | h
  · subst h; exact Nat.ne_of_lt (l3 p (.tail _ (.tail _ (.tail _ hp))))
  · subst h; exact ne1 p (.tail _ hp)
  · subst h; exact Nat.ne_of_lt (l2 p (.tail _ (.tail _ hp)))
  · subst h; exact OR p hp _ (.tail _ (.head _))
theorem xk_obj (w : World) : ∃ hdct sn sub ab col dd k0 k1 k2 k3 k5, (hd.heap_1 w.params).lookup 59 = some (excClassObj "MapError" "MapError" 59 58 [.ref 46] [.ref 46, .type "Exception", .type "BaseException", .type "object"] hdct sn sub ab col dd k0 k1 k2 k3 k5 "Exception.__new__") := ⟨_, _, _, _, _, _, _, _, _, _, _, rfl⟩
theorem xk_line : XcLine 59 [.ref 46, .type "Exception", .type "BaseException", .type "object"] "Exception" where
  hasB := by simp
  hasBase := by simp
  noAttr := by simp
  noName := by simp
theorem under_creation1 (dp un : Nat) (gd : Option (List Code)) (cn : Str) (cs : Scope) (L a : Addr) (ccd : Value) (cl : List (Str × Addr)) (outer : List Env) (C : Addr) (pos : List Value) :
    (ktrTop dp un gd cn cs L a ccd cl outer).under (Code.builtin "type.__call__" ⟨.ref C :: pos, []⟩) = ktrTop (dp + 1) (un + 1) gd cn cs L a ccd cl outer := by
  have h1 : (Code.builtin "type.__call__" ⟨.ref C :: pos, []⟩).isGuard = false := by show guardIds.contains "type.__call__" = false; decide +kernel
  have h2 : (Code.builtin "type.__call__" ⟨.ref C :: pos, []⟩).weight = 1 := by unfold Code.weight; rw [h1]; rfl
  have h3 : (Code.builtin "type.__call__" ⟨.ref C :: pos, []⟩).guards = [] := by unfold Code.guards; rw [h1]; rfl
  unfold Around.under
  rw [h2, h3]
  rfl
def ExcLed (e : Addr) (led : Led) : Prop := ∃ t2 d oD t v, led = [(d, oD), (e, { excObj0 59 t2 with dict := some d }), (t2, tupObj0 [v]), (t, tupObj0 [v])]
theorem mkexc_sp (w : World) (sv : Str) (tq : Tok) : Sp w 6 90 59 [.str sv tq] [] (fun v led' => ∃ e, v = .ref e ∧ ExcLed e led') := by
  unfold Sp
  k_fill
  have xk1 : findIn (hd.heap_1 w.params) (.ref 59) "__init__" = some (some (.ref 36)) := by k_is
  have xk6 : typeIn (hd.heap_1 w.params) (.ref 36) = some (.type "function") := by k_is
  intro mean mg mb dp un gd cn cs a ccd cl outer A₀ base h₀ L m s Q E rest B F X N OR T hk hd hu hret
  dsimp only [List.nil_append] at N
  obtain ⟨hdct, sn, sub, ab, col, dd, k0, k1, k2, k3, k5, hl⟩ := xk_obj w
  have X1 := X.keeps F.keep
  obtain ⟨hh, g, d, tk, os⟩ := s
  refine wpAny_call (xc_make PySem.F.excBase_Exception xk_line (X1 _ _ hl) (by rw [sizeLine_eq]; simp) (looks_findIn X1 xk1) (fun self => bind_fn X1 self xk6) ?_)
  rw [under_creation1]
  have N2 := (N.push F (tupObj0 [.str sv tq])).push (F.push _) (excObj0 59 hh.objs.size)
  rw [Heap.size_push] at N2
  refine ginit_sp w _ _ sv tq (Nat.succ_ne_self _) mean mg mb (dp + 1) (un + 1) gd cn cs a ccd cl outer A₀ base h₀ L m _ _ _ rest B ((F.push _).push _) X N2 (fun p hp b hb => ?_) T hk (by omega) (by omega) fun v led' h' tk' q O F' N' => ?_
  · have := Heap.lt_size (N p hp).1
    simp only [List.map_cons, List.map_nil, List.mem_cons, List.not_mem_nil, or_false] at hb
    rcases hb with h | h
    · subst h; exact Nat.ne_of_lt (Nat.lt_succ_of_lt this)
    · subst h; exact Nat.ne_of_lt this
  · obtain ⟨rfl, t2, d2, oD, rfl⟩ := q
    exact ⟨rfl, hret _ _ _ _ ⟨_, rfl, t2, d2, oD, _, _, rfl⟩ O F' N'⟩
end
section
section xr
variable {prog : Program} {w : World} {A : Around} {E : Value → Shared → Prop} {s : Shared} {env : Env}
variable {nm q : Str} {C N : Addr} {bs bm : List Value} {hdct : Bool} {sn : List Str} {sub : List Value} {ab : Bool} {col : Option Bool} {dd : Option Addr} {k0 k1 k2 k3 k5 : Option Value} {newId : String}
noncomputable abbrev excObjD (C t d : Addr) : Obj := { cls := .ref C, dict := some d, data := .fields #[.ref t, .none, .none, .none, .bool false, .none] }
theorem xraise {call : PySem.Expr} {pos : Pos} {Q : Flow → Shared → Prop} (hbase : bm.contains (.type "BaseException") = true) (hh : A.handled = none)
    (h : wpAny (model prog w) A (eval call env) (fun v s₁ => ∃ e t d, v = .ref e ∧ s₁.heap.get? C = some (excClassObj nm q C N bs bm hdct sn sub ab col dd k0 k1 k2 k3 k5 newId) ∧ s₁.heap.get? e = some (excObjD C t d) ∧ E (.ref e) s₁) E s) :
    wpAny (model prog w) A (exec (.Raise (some call) none pos) env) Q E s := by
  have hcB : (Value.ref C :: bm).contains (.type "BaseException") = true := by rw [List.contains_cons, hbase, Bool.or_true]
  rw [arm_exec_Raise]
  refine wpAny_bind (wpAny_standAt ?_)
  simp only [evalOpt, Option.map]
  unfold raiseStmt
  refine wpAny_bind (wpAny_bind (wpAny_mono h (fun v s₁ h₁ => wpAny_bind (wpAny_standAt (wpAny_pure ?_))) fun _ _ x => x))
  obtain ⟨e, t, d, rfl, hC, he, hE⟩ := h₁
  obtain ⟨hp, g, dr, tk, os⟩ := s₁
  unfold excObjD at he
  repeat (first | with_reducible refine wpAny_loadPart_at he ?_ | with_reducible refine wpAny_loadPart_at hC ?_ | (with_reducible refine wpAny_isSubtype_exc hC ?_; rw [hcB]) | wp_step)
  exact wpAny_raiseNew_none hh hE
end xr
section xl
variable {M : Model} {A : Around} {E : Value → Shared → Prop} {s' : Shared} {base g : Heap} {outer : List Env} {L a e t d C : Addr} {m : Str → Option Value} {name : Str} {scope : Scope} {cd : Value} {Q : Unit → Shared → Prop} {news : Led} {vs : List Value}
theorem xleaveS (K : Below A base outer g) (F : Fr g L s'.heap m) (N : News g L s'.heap ((e, excObjD C t d) :: (t, tupObj0 vs) :: news)) (het : e ≠ t) (h1 : ∀ p ∈ news, p.1 ≠ e) (h2 : ∀ p ∈ news, p.1 ≠ t)
    (hQ : ∀ h' t, RaisedS base g outer e (.ref C) t vs news h' → g.UpToSlots h' → Q () { s' with heap := h' }) (hk : scope.kind = .function := by rfl) :
    wpAny M (A.deeper (envOf name scope L a cd)) (leaving (envOf name scope L a cd) (.ref e)) Q E s' := by
  have K' := K.push (name := name) (a := a) (cd := cd) F hk
  have ge : g.get? e = none := (N _ (.head _)).2.2
  have gt : g.get? t = none := (N _ (.tail _ (.head _))).2.2
  have he := (N _ (.head _)).1
  have ht := (N _ (.tail _ (.head _))).1
  have bf : ∀ {b : Addr}, g.get? b = none → base.get? b = none := fun q => fresh_of_stays K.stays q
  generalize hfs : (e :: t :: (envOf name scope L a cd :: outer).filterMap (·.frame)) = fs
  have hin : ∀ env ∈ (envOf name scope L a cd :: outer), ∀ b, env.frame = some b → b ∈ fs := fun env he b hb => by
    rw [← hfs]; exact .tail _ (.tail _ (List.mem_filterMap.mpr ⟨env, he, hb⟩))
  have hmem : ∀ b, b ∈ fs → b = e ∨ b = t ∨ b ∈ (envOf name scope L a cd :: outer).filterMap (·.frame) := fun b hb => by
    rw [← hfs] at hb
    rcases List.mem_cons.mp hb with h | hb
    · exact .inl h
    · rcases List.mem_cons.mp hb with h | hb
      · exact .inr (.inl h)
      · exact .inr (.inr hb)
  have st : base.StaysIn (hideAll s'.heap fs) := fun b o q => hideAll_get _ (K'.stays b o q) fun hm => by
    rcases hmem b hm with rfl | rfl | hm
    · rw [bf ge] at q; cases q
    · rw [bf gt] at q; cases q
    · rw [(K'.frames.mem hm).1] at q; cases q
  have sg : ∀ b o, g.get? b = some o → b ∉ outer.filterMap (·.frame) → (hideAll s'.heap fs).get? b = some o := fun b o q nm => hideAll_get _ (F.keep b o q) fun hm => by
    rcases hmem b hm with rfl | rfl | hm
    · rw [ge] at q; cases q
    · rw [gt] at q; cases q
    · rcases kts_mem hm with z | z
      · rw [z, kts_self F] at q; cases q
      · exact nm z
  have hl : ∀ q ∈ news, (hideAll s'.heap fs).get? q.1 = some q.2 ∧ g.get? q.1 = none ∧ base.get? q.1 = none := fun q hq => by
    have Nq := N q (.tail _ (.tail _ hq))
    refine ⟨hideAll_get _ Nq.1 fun hm => ?_, Nq.2.2, bf Nq.2.2⟩
    rcases hmem _ hm with h | h | hm
    · exact h1 q hq h
    · exact h2 q hq h
    obtain ⟨env, he, hf⟩ := List.mem_filterMap.mp hm
    rcases List.mem_cons.mp he with rfl | he
    · exact Nq.2.1 (Option.some.inj hf).symm
    · obtain ⟨o, ho, _⟩ := (K.frames.mem (List.mem_filterMap.mpr ⟨env, he, hf⟩)).2
      rw [Nq.2.2] at ho; cases ho
  have hen : (hideAll s'.heap fs).get? e = none := hideAll_none _ (by rw [← hfs]; exact .head _)
  have htn : (hideAll s'.heap fs).get? t = none := hideAll_none _ (by rw [← hfs]; exact .tail _ (.head _))
  refine wpAny_leaving_firstW (a0 := .ref t) K'.stack (funFrames_hide K'.frames hin) rfl he (fun b o q => of_hideAll _ q) hen rfl rfl rfl fun h' hL => ?_
  obtain ⟨k1, ⟨_, _, k2⟩, k3, k4⟩ := hL
  exact hQ h' t ⟨⟨_, st, sg, hl, ⟨k1, hen, k2, k3⟩, htn⟩, Heap.TupAt.of_slots ⟨_, _, ht, rfl, rfl⟩ k4⟩ ((Heap.UpToSlots.of_keeps F.keep).trans k4)
end xl
/-- a contract whose frame catches: the ground of the frames below turns (their slots alone) -/
def SpT (w : World) (D U : Nat) (f : Addr) (vs : List Value) (foot : Led) (post : Value → Led → Prop) : Prop :=
  ∀ (mean : ExcName → Option Value) (mg mb : Str → Option Value) (dp un : Nat) (gd : Option (List Code)) (cn : Str) (cs : Scope) (a : Addr) (ccd : Value) (cl : List (Str × Addr)) (outer : List Env) (A₀ : Around) (base h₀ : Heap) (L : Addr) (m : Str → Option Value) (s : Shared) (Q E : Value → Shared → Prop) (rest : Led),
   Below A₀ base outer h₀ → Fr h₀ L s.heap m → (hd.heap_1 w.params).In h₀ → News h₀ L s.heap (foot ++ rest) → OwnOff rest (foot.map (·.1)) →
   Top hd.view_39 (looseW hd.view_39 [Str.ofString "GateError", Str.ofString "HashMap"]) mean mg mb h₀ → (hd.heap_1 w.params).In base → Top hd.view_39 (looseW hd.view_39 [Str.ofString "GateError", Str.ofString "HashMap"]) mean mg mb base → KtsDicts (outer.filterMap (·.frame)) h₀ →
   cs.kind = .function → dp + D < recursionLimit → un + U < cLine →
   (∀ v foot' g' h' tk', post v foot' → OwnOff rest (foot'.map (·.1)) → KtsTurn (outer.filterMap (·.frame)) h₀ g' → Fr g' L h' m → News g' L h' (foot' ++ rest) → Q v { s with heap := h', toks := tk' }) →
   wpAny (model PySem.Challenge.rw_qz0154_01.row.prog w) (ktrTop dp un gd cn cs L a ccd cl outer) (call (.ref f) vs) Q E s
section xt
variable {prog : Program} {w : World} {A A₀ : Around} {s : Shared} {K : Frag} {L L' : Addr} {h₀ base h' g' : Heap} {m m' mg mb : Str → Option Value} {news news' : Led} {p : Program} {loose : List Str} {mean : ExcName → Option Value} {env : Env} {outer : List Env}
theorem turn_back (B : Below A₀ base outer h₀) (F : Fr h₀ L s.heap m) (N : News h₀ L s.heap news) (hf : env.frame = some L) (T' : KtsTurn ((env :: outer).filterMap (·.frame)) (hideAll s.heap (news.map (·.1))) g') (F' : Fr g' L' h' m') (N' : News g' L' h' news') :
    ∃ h₁, KtsTurn (outer.filterMap (·.frame)) h₀ h₁ ∧ Fr h₁ L h' m ∧ News h₁ L h' news' := by
  have nm : ∀ b o, h₀.get? b = some o → b ∉ news.map (·.1) := fun b o e q => by
    obtain ⟨p, hp, rfl⟩ := List.mem_map.mp q
    rw [(N p hp).2.2] at e; cases e
  have st : h₀.StaysIn (hideAll s.heap (news.map (·.1))) := fun b o e => hideAll_get _ (F.keep b o e) (nm b o e)
  have nself : h₀.get? L = none := kts_self F
  obtain ⟨oL, es, ep, hL, hLd, hLk, hLf⟩ := F.ns
  have nL : L ∉ news.map (·.1) := fun q => by
    obtain ⟨p, hp, e⟩ := List.mem_map.mp q
    exact (N p hp).2.1 e
  obtain ⟨sl, hs⟩ := T'.up (hideAll_get (news.map (·.1)) hL nL)
  have fsm : ∀ b, b ∈ (env :: outer).filterMap (·.frame) → b = L ∨ b ∈ outer.filterMap (·.frame) := fun b hb => by
    obtain ⟨e, he, hfe⟩ := List.mem_filterMap.mp hb
    rcases List.mem_cons.mp he with rfl | he
    · exact .inl (Option.some.inj (hfe.symm.trans hf))
    · exact .inr (List.mem_filterMap.mpr ⟨e, he, hfe⟩)
  obtain ⟨T₁, S₁⟩ := kts_turn_at (h := h') (fs := outer.filterMap (·.frame)) (g := h₀)
    (fun b hb => (B.frames.mem hb).2.imp fun o ho => ho.1)
    (fun b o e nmem => F'.keep b o (T'.other b o (st b o e) (fun q => by
      rcases fsm b q with z | z
      · rw [z, nself] at e; cases e
      · exact nmem z)))
    (fun b o e _ => (T'.up (st b o e)).imp fun sl' hs' => F'.keep _ _ hs')
  refine ⟨_, T₁, ⟨⟨_, es, ep, F'.keep _ _ hs, hLd, hLk, hLf⟩, S₁, by rw [T₁.size]; exact F.above⟩, fun p hp => ⟨(N' p hp).1, fun q => ?_, T₁.none_ _ ?_⟩⟩
  · have := (N' p hp).2.2; rw [q, hs] at this; cases this
  · cases q : h₀.get? p.1 with
    | none => rfl
    | some o =>
      obtain ⟨sl', hs'⟩ := T'.up (st _ _ q)
      have := (N' p hp).2.2
      rw [hs'] at this; cases this
theorem turn_nil {h₁ : Heap} (T : KtsTurn [] h₀ h₁) (F : Fr h₁ L h' m) (N : News h₁ L h' news) : Fr h₀ L h' m ∧ News h₀ L h' news :=
  ⟨⟨F.ns, fun b o e => F.keep b o (T.other b o e (fun q => nomatch q)), by rw [← T.size]; exact F.above⟩, fun p hp => ⟨(N p hp).1, (N p hp).2.1, by
    cases q : h₀.get? p.1 with
    | none => rfl
    | some o => have := T.other _ _ q (fun z => nomatch z); rw [(N p hp).2.2] at this; cases this⟩⟩
inductive LeaveT (fs fs0 : List Addr) (h₀ : Heap) (L : Addr) (m : Str → Option Value) (g : Heap) (R : Result → Shared → Prop) (v : Value) (s' : Shared) : Prop
  | mk (g' : _) (L' : _) (m' : _) (news' : _) (e1 : KtsTurn fs g g') (e2 : Fr g' L' s'.heap m') (e3 : News g' L' s'.heap news') (e4 : ∀ h₁, KtsTurn fs0 h₀ h₁ → Fr h₁ L s'.heap m → News h₁ L s'.heap news' → R (.ok (.ret v)) s')
theorem dicts_push (F : Fr h₀ L s.heap m) (N : News h₀ L s.heap news) (hf : env.frame = some L) (D : KtsDicts (outer.filterMap (·.frame)) h₀) : KtsDicts ((env :: outer).filterMap (·.frame)) (hideAll s.heap (news.map (·.1))) := by
  intro b hb
  obtain ⟨e, he, hfe⟩ := List.mem_filterMap.mp hb
  rcases List.mem_cons.mp he with rfl | he
  · obtain rfl : L = b := Option.some.inj (hf.symm.trans hfe)
    obtain ⟨oL, es, ep, hL, hLd, _⟩ := F.ns
    exact ⟨oL, es, ep, hideAll_get _ hL fun q => by
      obtain ⟨p, hp, e⟩ := List.mem_map.mp q
      exact (N p hp).2.1 e, hLd⟩
  · obtain ⟨o, es, n, ho, hd⟩ := D b (List.mem_filterMap.mpr ⟨e, he, hfe⟩)
    refine ⟨o, es, n, hideAll_get _ (F.keep _ _ ho) (fun q => ?_), hd⟩
    obtain ⟨p, hp, rfl⟩ := List.mem_map.mp q
    rw [(N p hp).2.2] at ho
    cases ho
variable {R : Result → Shared → Prop} {name qual : Str} {params : Arguments} {body : List Stmt} {scope : Scope} {dV kV doc pm cdv ct oc : Value} {an od : Option Addr} {osl : Array (Option Value)} {f : Addr} {args : Args} {binds : List (Str × Value)}
theorem code_defT (B : Below A₀ base outer h₀) (F : Fr h₀ L s.heap m) (X₀ : K.In h₀) (N : News h₀ L s.heap news) (T : Top p loose mean mg mb h₀) (D : KtsDicts (outer.filterMap (·.frame)) h₀) (hA : A.frames = some (env :: outer)) (hf : env.frame = some L) (hke : env.scope.kind = .function)
    (ho : K.lookup f = some ⟨oc, od, .func (fnOf name qual params body scope dV kV doc pm an cdv ct), osl⟩) (hcd : codeIn K cdv qual = true) (hroom : A.depth < recursionLimit)
    (hbind : BindsTo s (fnOf name qual params body scope dV kV doc pm an cdv ct) args binds) (hloc : ∀ y ∈ binds, scope.names.lookup y.1 = some .local)
    (h : ∀ g L' h₁, Fr h₀ L g m → Fr g L' h₁ (fun y => binds.reverse.lookup y) → News g L' h₁ news → Below A base (env :: outer) g → K.In g → Top p loose mean mg mb g → KtsDicts ((env :: outer).filterMap (·.frame)) g →
      wpAny (model prog w) (A.deeper (envOf qual scope L' f cdv)) (execs body (envOf qual scope L' f cdv))
        (fun fl s' => LeaveT ((env :: outer).filterMap (·.frame)) (outer.filterMap (·.frame)) h₀ L m g R (match fl with | .ret v => v | _ => .none) s')
        (fun e s' => wpAny (model prog w) (A.deeper (envOf qual scope L' f cdv)) (leaving (envOf qual scope L' f cdv) e) (fun _ s'' => R (.error e) s'') (fun e' s'' => R (.error e') s'') s')
        { s with heap := h₁, toks := s.toks + binds.length })
    (hco : scope.isCoroutine = false) (hgen : scope.isGenerator = false) (hk : scope.kind = .function) (hcell : ∀ x ∈ scope.names, x.2 ≠ .cell) : codeAny (model prog w) A (.call (.ref f) args) R s := by
  obtain ⟨FG, BG, st, _⟩ := groundX (R := R) B F N hA hf hke
  refine codeAny_call_def (fd := fnOf name qual params body scope dV kV doc pm an cdv ct) (body := body) (binds := binds) hroom ((X₀.keeps F.keep) _ _ ho) rfl (T.nolimit.keeps F.keep) (codeRec_of (X₀.keeps F.keep) hcd) rfl hbind hcell hloc (fun h₁ hns hk₁ => ?_) hco hgen hk
  refine wpAny_mono (h _ s.heap.objs.size h₁ FG ⟨hns, fun b o e => hk₁ b o (of_hideAll _ e), Nat.le_of_eq (hideAll_size _ _)⟩
    (fun p hp => ⟨hk₁ _ _ (N p hp).1, Nat.ne_of_lt (Heap.lt_size (N p hp).1), hideAll_none _ (List.mem_map_of_mem hp)⟩) BG (X₀.keeps st) (T.keeps st) (dicts_push F N hf D)) (fun fl s' hl => ?_) fun _ _ y => y
  obtain ⟨g', L', m', news', T', F', N', k⟩ := hl
  obtain ⟨h₁, T1, F1, N1⟩ := turn_back B F N hf T' F' N'
  exact k h₁ T1 F1 N1
theorem codeS_defCT (B : Below A₀ base [] h₀) (F : Fr h₀ L s.heap m) (X₀ : K.In h₀) (N : News h₀ L s.heap news) (T : Top p loose mean mg mb h₀) (hA : A.frames = some [env]) (hf : env.frame = some L) (hke : env.scope.kind = .function)
    (ho : K.lookup f = some ⟨oc, od, .func (fnOf name qual params body scope dV kV doc pm an cdv ct), osl⟩) (hcd : codeIn K cdv qual = true) (hroom : A.depth < recursionLimit)
    (hbind : BindsTo s (fnOf name qual params body scope dV kV doc pm an cdv ct) args binds) (hkind : (binds.all fun y => scope.names.lookup y.1 == some .local || scope.names.lookup y.1 == some .cell) = true)
    (hnd : ((cellsFrom 0 scope.names []).map (·.1)).Nodup)
    (h : ∀ g L' h₁ tk cells, Fr h₀ L g m → Fr g L' h₁ (bindL (envOfC qual scope L' f cdv).kindOf binds fun _ => none) → News g L' h₁ (cells ++ news) →
      CellsAre (bindC (envOfC qual scope L' f cdv).kindOf binds fun _ => none) (cellsFrom (L' + 1) scope.names []) cells → Below A base [env] g → K.In g → Top p loose mean mg mb g → KtsDicts ([env].filterMap (·.frame)) g → (∀ p ∈ news, p.1 < L') →
      wpS (model prog w) (A.deeper (envOfC qual scope L' f cdv)) (execs body (envOfC qual scope L' f cdv))
        (fun fl s' => LeaveT ([env].filterMap (·.frame)) [] h₀ L m g R (match fl with | .ret v => v | _ => .none) s')
        (fun e s' => wpAny (model prog w) (A.deeper (envOfC qual scope L' f cdv)) (leaving (envOfC qual scope L' f cdv) e) (fun _ s'' => R (.error e) s'') (fun e' s'' => R (.error e') s'') s')
        { s with heap := h₁, toks := tk })
    (hco : scope.isCoroutine = false) (hgen : scope.isGenerator = false) (hk : scope.kind = .function) : codeS (model prog w) A (.call (.ref f) args) R s := by
  obtain ⟨FG, BG, st, _⟩ := groundX (R := R) B F N hA hf hke
  refine codeS_call_function hroom ((X₀.keeps F.keep) _ _ ho) rfl hco hgen rfl (codeRec_of (X₀.keeps F.keep) hcd) (hbind _ _ _ _ ?_)
  refine wpAny_newFunctionEnv_cells hk (kindsX hkind _) fun env' he s' x => ?_
  subst he
  refine ⟨(T.nolimit.keeps F.keep).keeps x.toInCall.keep, codeS_func ?_⟩
  obtain ⟨h₁, tk, rfl, _⟩ := x.done
  have hk₁ := x.toInCall.keep
  obtain ⟨cells, NC, Y⟩ := Cl.news (h₀ := s.heap) (Nat.le_refl _) fun n c hm => ⟨x.cell n c (lookup_of_mem_nodup (cellsFrom_names scope.names 0 (s.heap.objs.size + 1) [] [] rfl ▸ hnd) hm), x.above n c hm⟩
  refine wpS_mono (h _ s.heap.objs.size h₁ tk cells FG ⟨x.toInCall.ns, fun b o e => hk₁ b o (of_hideAll _ e), Nat.le_of_eq (hideAll_size _ _)⟩ (fun p hp => ?_) Y BG (X₀.keeps st) (T.keeps st) (dicts_push F N hf ktsDicts_nil) (fun p hp => Heap.lt_size (N p hp).1)) (fun fl s' hl => ?_) fun _ _ y => y
  · rcases List.mem_append.mp hp with hp | hp
    · refine ⟨(NC p hp).1, (NC p hp).2.1, ?_⟩
      cases q : (hideAll s.heap (news.map (·.1))).get? p.1 with
      | none => rfl
      | some o => have := of_hideAll _ q; rw [(NC p hp).2.2] at this; cases this
    · exact ⟨hk₁ _ _ (N p hp).1, Nat.ne_of_lt (Heap.lt_size (N p hp).1), hideAll_none _ (List.mem_map_of_mem hp)⟩
  · obtain ⟨g', L', m', news', T', F', N', k⟩ := hl
    obtain ⟨h₁, T1, F1, N1⟩ := turn_back B F N hf T' F' N'
    exact k h₁ T1 F1 N1
end xt
end
theorem kw_72 : True := by
  (k_with "M mine enterT" => (refine' code_defT ?q_k1 ?q_k2 ?q_k3 ?q_k4 ?q_k5 ?q_kd ?q_kA ?q_kF ?q_kK ?q_k6 ?q_k7 ?q_k8 ?q_k9 ?q_kB ?_ ?q_c2 ?q_c3 ?q_c4 ?q_c5; (case q_kA => exact rfl); (case q_kF => exact rfl); (case q_kK => first | assumption | exact rfl); (case q_k1 => k_asm); (case q_k2 => k_asm); (case q_k3 => k_asm); (case q_k4 => k_asm); (case q_k5 => k_asm); (case q_kd => assumption); (case q_k6 => k_is); (case q_k7 => k_is); (case q_k8 => ktr_room); (case q_k9 => first | exact BindsTo.of_eq rfl | exact binds_K (by k_in) rfl (by k_is) rfl rfl rfl); (case q_c5 => decide); (case q_kB => exact locs rfl); (case q_c2 => exact rfl); (case q_c3 => exact rfl); (case q_c4 => exact rfl); k_whole; intro _ _ _ _ _ _ B9 _ _ _; (try dsimp only); (try k_lift B9); (try k_fold)))
  trivial
section
theorem eldr_none (w : World) (Wa M : Addr) (σ : Tb) (ω : Wd) (lt lw : Led) (hT : TabIs w M σ lt) (hW9 : WIs w Wa M ω lw) (Dj : OwnOff lw (lt.map (·.1))) (hrows : ω.rows = []) (ho : σ.ord = []) :
    SpT w 20 400 566 [.ref Wa] (lt ++ lw) (fun v led' => v = .bool true ∧ ∃ l2, led' = l2 ++ lw ∧ TabIs w M σ l2 ∧ OwnOff lw (l2.map (·.1))) := by
  unfold SpT
  k_fill
  intro mean mg mb dp un gd cn cs a ccd cl outer A₀ base h₀ L m s Q E rest B F X N OR T XB TB KD hk hd hu hret
  cases hW9
  rename_i R D oW oD rs nR dkvs tl t0 t1 t2 t3 hW hR hD rD off d1 d2 d3 lW lD
  simp only [List.append_assoc, List.cons_append] at N
  obtain ⟨Md, V, Bk, K, O, hh, tt, n, hM, hMd, VA, KA, OA⟩ := TabIs.inst hT
  obtain ⟨vO, nO, mO, iO⟩ := OA
  refine wpAny_call ?_
  k_dflt walk_at "mine enterT"
  repeat' ((fail_if_success (with_reducible show wpAny _ _ (call (Value.ref 468) _ _) _ _ _)); (first | (k_unfold; (try dsimp only)) | walk1 | (dsimp only; walk1) | (dsimp only; k_unfold; (try dsimp only)) | fail "no step"))
  refine wpAny_call ?_
  k_dflt walk_at "mine enter"
  repeat' ((fail_if_success (with_reducible show wpAny _ _ (exec (.Raise _ _ _) _) _ _ _)); (first | (k_unfold; (try dsimp only)) | walk1 | (dsimp only; walk1) | (dsimp only; k_unfold; (try dsimp only)) | fail "no step"))
  obtain ⟨hdct, sn, sub, ab, col, dd, k0, k1, k2, k3, k5, hl⟩ := xk_obj w
  refine xraise (C := 59) (nm := "MapError") (q := "MapError") (N := 58) (bs := [.ref 46]) (bm := [.ref 46, .type "Exception", .type "BaseException", .type "object"]) (hdct := hdct) (sn := sn) (sub := sub) (ab := ab) (col := col) (dd := dd) (k0 := k0) (k1 := k1) (k2 := k2) (k3 := k3) (k5 := k5) (newId := "Exception.__new__") (by simp) rfl ?_
  repeat' ((fail_if_success (with_reducible show wpAny _ _ (call (Value.ref 59) _ _) _ _ _)); (first | (k_unfold; (try dsimp only)) | walk1 | (dsimp only; walk1) | (dsimp only; k_unfold; (try dsimp only)) | fail "no step"))
  refine' sp_use (mkexc_sp w _ _) ?B ?F ?X ?N ?O ?T ?hk ?hd ?hu ?_
  case O => exact fun _ _ _ hb => nomatch hb
  walk_at "mine callR"
  intro v6 led6 h6 tk6 p6 OT5 F6 N6
  obtain ⟨e, rfl, t2, d, oE, tu, ve, rfl⟩ := p6
  (try dsimp only)
  (try k_fold)
  refine ⟨e, t2, d, rfl, X.keeps ?kF _ _ hl, (N6 _ (.tail _ (.head _))).1, ?_⟩
  case kF => exact fun b o q => Fr.keep (by assumption) b o (Fr.keep (by assumption) b o (Fr.keep (by assumption) b o q))
  repeat (k_unfold; (try dsimp only))
  have het : e ≠ t2 := fun q => by
    have z1 := (N6 (e, excObjD 59 t2 d) (.tail _ (.head _))).1
    have z2 := (N6 (t2, tupObj0 [ve]) (.tail _ (.tail _ (.head _)))).1
    dsimp only at z1 z2
    rw [q, z2] at z1
    cases z1
  refine' xleaveS (d := d) (t := t2) (vs := [ve]) (news := lt ++ (Wa, oW) :: (R, W.listOf rs.toArray nR) :: (D, oD) :: (tl ++ rest)) ?K ?F ?N het ?h1 ?h2 ?_
  case K => assumption
  case F => assumption
  case N => exact news_sub N6 (fun p hp => by
    rcases List.mem_cons.mp hp with h | hp
    · exact h ▸ .tail _ (.head _)
    · rcases List.mem_cons.mp hp with h | hp
      · exact h ▸ .tail _ (.tail _ (.head _))
      · exact .tail _ (.tail _ (.tail _ (.tail _ (.tail _ hp)))))
  case h1 => exact fun p hp => OT5 p (.tail _ hp) _ (.tail _ (.head _))
  case h2 => exact fun p hp => OT5 p (.tail _ hp) _ (.tail _ (.tail _ (.head _)))
  intro h7 t7 R7 U7
  (try dsimp only)
  refine' caught_SO0 (x := "MapError") (C := 59) R7 ?F ?K U7 XB TB ?D ?T0 ?ex ?q ?_
  case F => assumption
  case K => assumption
  case D => assumption
  case T0 => exact KtsTurn.refl
  case ex => k_is
  case q => kts_isx
  intro h8 g8 n8 T8 F8 N8 G8 Nl8 B8 X8 P8 D8
  (try k_lift B8)
  clear N8 G8
  (try dsimp only)
  (try k_fold)
  repeat' ((fail_if_success (with_reducible show wpAny _ _ (compareOp CmpOp.NotEq _ _) _ _ _)); (first | (k_unfold; (try dsimp only)) | walk1 | (dsimp only; walk1) | (dsimp only; k_unfold; (try dsimp only)) | fail "no step"))
  have hr0 : rs = [] := List.length_eq_zero_iff.mp (by rw [hR.1, hrows]; rfl)
  refine' ne_lsts (n := 1) (xs := rs) (ys := []) ?N ?ha ?hb ?hl ?hh ?hu ?_
  case N => k_asm
  case ha => k_mem
  case hb => k_mem
  case hl => rw [hr0]
  case hh => exact fun j x y hx hy => by simp at hy
  case hu => ktr_units
  repeat' (first | (k_unfold; (try dsimp only)) | walk1 | (dsimp only; walk1) | (dsimp only; k_unfold; (try dsimp only)))
  refine' ⟨_, _, _, lt ++ (Wa, oW) :: (R, W.listOf rs.toArray nR) :: (D, oD) :: (tl ++ rest), T8, ?F, ?N, fun h1 T1 F1 N1 => hret _ (lt ++ _) _ _ _ ⟨rfl, lt, rfl, hT, Dj⟩ OR T1 F1 (by simp only [List.append_assoc, List.cons_append]; exact N1)⟩
  case F => assumption
  case N =>
    refine' news_sub (by assumption) ?_
    (try simp only [List.append_assoc, List.cons_append])
    walk_at "mine sub"
end
section
theorem pick_sp (w : World) (P S : Addr) (n c : Int) (t0 t1 : Tok) (e e5 : Nat) (hn : 0 ≤ n) (hc : 0 ≤ c) (hc2 : c ≤ 1000) (vs : List Value) (hi : IntsAre vs [0, 0, 1, 2, 3]) (hPS : Df P S) :
    Sp w 5 60 525 [.ref P, .ref S] [(P, W.listOf [Value.int n t0, Value.int c t1].toArray e), (S, W.listOf vs.toArray e5)] (fun v led' => ∃ f t, v = .int f t ∧ 0 ≤ f ∧ f ≤ 3 ∧ ∃ c' l, PenIs P c' l ∧ c ≤ c' ∧ c' ≤ c + 1 ∧ led' = l) := by
  walk_at "mine sp"
  intro mean mg mb dp un gd outer A₀ base h₀ L hpS gS dS kS oS Q E rest B F X N OR T hd hu hnx hret hpo
  dsimp only [List.cons_append, List.nil_append] at N
  have hlv : vs.length = 5 := hi.length
  have OP : OwnOff ((S, W.listOf vs.toArray e5) :: rest) [P] := fun p hp b hb => by
    rw [List.mem_singleton.mp hb]
    rcases List.mem_cons.mp hp with rfl | hp
    · exact fun q => hPS q.symm
    · exact OR p hp P (by simp)
  repeat' ((fail_if_success (with_reducible show wpAny _ _ (call (Value.ref 518) _ _) _ _ _)); (first | (k_unfold; (try dsimp only)) | walk1 | (dsimp only; walk1) | (dsimp only; k_unfold; (try dsimp only)) | fail "no step"))
  refine' sp_use (draw_sp w P n c t0 t1 e hn hc hc2 _ _ ?z1 ?z2) ?B ?F ?X ?N ?O ?T ?hk ?hd ?hu ?_
  case O => exact OP
  case z1 => decide
  case z2 => decide
  walk_at "mine callR"
  intro v6 led6 h6 tk6 p6 OT5 F6 N6
  obtain ⟨d, t', rfl, d0, d1, c', hP, c1, c2⟩ := p6
  (try dsimp only)
  (try k_fold)
  obtain ⟨f, hf, hf0, hf3⟩ : ∃ f, ([0, 0, 1, 2, 3] : List Int)[d.toNat]? = some f ∧ 0 ≤ f ∧ f ≤ 3 := by
    have h : d = 0 ∨ d = 1 ∨ d = 2 ∨ d = 3 ∨ d = 4 := by simp at d1; omega
    rcases h with rfl | rfl | rfl | rfl | rfl
    · exact ⟨0, rfl, by decide, by decide⟩
    · exact ⟨0, rfl, by decide, by decide⟩
    · exact ⟨1, rfl, by decide, by decide⟩
    · exact ⟨2, rfl, by decide, by decide⟩
    · exact ⟨3, rfl, by decide, by decide⟩
  walk_at "mine steps"
  have ef : ([0, 0, 1, 2, 3] : List Int).getD d.toNat 0 = f := by rw [List.getD_eq_getElem?_getD, hf]; rfl
  rw [ef]
  refine hret _ led6 _ _ ⟨f, _, rfl, hf0, hf3, c', led6, hP, c1, c2, rfl⟩ (fun p hp => OT5 p (.tail _ hp)) (by assumption) ?_
  refine' news_sub (by assumption) ?_
  walk_at "mine sub"
end
section
structure GInv (σ : Tb) (ω : Wd) : Prop where
  n1 : ω.number = σ.number
  k1 : ω.kw = σ.kw
  v1 : ω.vw = σ.vw
  m1 : ω.most = σ.most
  b0 : 0 ≤ ω.number
  b1 : ω.number < 64
  b2 : 1 ≤ ω.kw
  b3 : ω.kw ≤ 2
  b4 : 1 ≤ ω.vw
  b5 : ω.vw ≤ 9
  b6 : 1 ≤ ω.most
  b7 : ω.most ≤ 4
  ho : σ.ord = ω.rows.map (·.2)
  hp : σ.ks.Perm (ω.rows.map fun r => (r.2, r.1))
  hd : (ω.rows.map (·.2)).Nodup
  hk : (ω.rows.map (·.1)).Nodup
  hs : ∀ r ∈ ω.rows, (r.1.size : Int) = ω.kw ∧ 0 ≤ r.2 ∧ r.2 < ω.most ∧ r.2 < ω.vals.length
  hv : σ.vals = ω.vals
  hz : ∀ b ∈ ω.vals, (b.size : Int) = ω.vw
  hl : (ω.vals.length : Int) ≤ ω.most
section
variable {σ : Tb} {ω : Wd} (G : GInv σ ω)
include G
theorem GInv.rlen : (ω.rows.length : Int) ≤ ω.most := by
  have h := nodup_len (q := ω.rows.map (·.2)) (l := (List.range ω.most.toNat).map Int.ofNat) G.hd (fun x hx => by
    obtain ⟨r, hr, rfl⟩ := List.mem_map.mp hx
    obtain ⟨_, h1, h2, _⟩ := G.hs r hr
    exact List.mem_map.mpr ⟨r.2.toNat, by simp; omega, by simp; omega⟩)
  simp at h
  have := G.b6
  omega
theorem GInv.klen : σ.ks.length = ω.rows.length := by rw [G.hp.length_eq, List.length_map]
theorem GInv.mem {s : Int} {b : By} : (s, b) ∈ σ.ks ↔ (b, s) ∈ ω.rows := by
  rw [G.hp.mem_iff, List.mem_map]
  constructor
  · rintro ⟨r, hr, e⟩
    obtain ⟨e1, e2⟩ := Prod.mk.inj e
    have : r = (b, s) := by rw [← e1, ← e2]
    exact this ▸ hr
  · intro h
    exact ⟨_, h, rfl⟩
theorem GInv.psnd : (σ.ks.map (·.2)).Perm (ω.rows.map (·.1)) := by
  have := G.hp.map (·.2)
  simpa [List.map_map, Function.comp_def] using this
theorem GInv.pfst : (σ.ks.map (·.1)).Perm (ω.rows.map (·.2)) := by
  have := G.hp.map (·.1)
  simpa [List.map_map, Function.comp_def] using this
theorem GInv.kn : (σ.ks.map (·.2)).Nodup := G.psnd.nodup_iff.mpr G.hk
theorem GInv.kf : (σ.ks.map (·.1)).Nodup := G.pfst.nodup_iff.mpr G.hd
theorem GInv.found {k : By} {n : Int} (h : (k, n) ∈ ω.rows) : slotOf σ.ks k = some n := slotOf_mem (G.mem.mpr h) G.kn
theorem GInv.lost {k : By} (h : k ∉ ω.rows.map (·.1)) : slotOf σ.ks k = none := slotOf_none fun s b hb e => h (List.mem_map.mpr ⟨_, G.mem.mp hb, e⟩)
theorem GInv.spot {k : By} {n : Int} {i : Nat} (h : ω.rows[i]? = some (k, n)) : spotF ω.rows k = (i : Int) := by
  have hi : i < ω.rows.length := by
    by_cases q : i < ω.rows.length
    · exact q
    · rw [List.getElem?_eq_none (by omega)] at h; cases h
  obtain ⟨r, e⟩ := selN_first (bf := fun j => decide ((ω.rows[j]?).map (·.1) = some k)) (n := ω.rows.length) hi (by simp [h]) (fun j hj => by
    rw [decide_eq_false_iff_not]
    intro e
    have hk := G.hk
    rw [List.nodup_iff_pairwise_ne, List.pairwise_iff_getElem] at hk
    have h1 : (ω.rows.map (·.1))[j]? = some k := by rw [List.getElem?_map]; exact e
    have h2 : (ω.rows.map (·.1))[i]? = some k := by rw [List.getElem?_map, h]; rfl
    have hj' : j < (ω.rows.map (·.1)).length := by simp; omega
    have hi' : i < (ω.rows.map (·.1)).length := by simpa using hi
    rw [List.getElem?_eq_getElem hj'] at h1
    rw [List.getElem?_eq_getElem hi'] at h2
    exact hk j i hj' hi' hj (by rw [Option.some.inj h1, Option.some.inj h2]))
  unfold spotF
  rw [e]
  rfl
theorem GInv.nospot {k : By} (h : k ∉ ω.rows.map (·.1)) : spotF ω.rows k = -1 := by
  have : ∀ n, selN (fun j => decide ((ω.rows[j]?).map (·.1) = some k)) n = [] := by
    intro n
    induction n with
    | zero => rfl
    | succ n ih =>
      rw [selN_succ, if_neg, ih]
      rw [decide_eq_true_iff]
      intro e
      refine h (List.mem_of_getElem? (i := n) ?_)
      rw [List.getElem?_map]; exact e
  unfold spotF
  rw [this]
  rfl
theorem GInv.val {r : By × Int} (h : r ∈ ω.rows) : ∃ b, ω.vals[r.2.toNat]? = some b ∧ (b.size : Int) = ω.vw := by
  obtain ⟨_, h1, _, h3⟩ := G.hs r h
  have hlt : r.2.toNat < ω.vals.length := by omega
  exact ⟨_, List.getElem?_eq_getElem hlt, G.hz _ (List.getElem_mem hlt)⟩
end
theorem erase_at {l : List Int} : l.Nodup → ∀ {i : Nat} {x : Int}, l[i]? = some x → l.erase x = l.eraseIdx i := by
  induction l with
  | nil => intro _ i x h; cases h
  | cons a l ih =>
    intro hn i x h
    cases i with
    | zero =>
      obtain rfl := Option.some.inj h
      simp
    | succ i =>
      have hn' := List.nodup_cons.mp hn
      have h' : l[i]? = some x := h
      have hne : a ≠ x := fun e => hn'.1 (e ▸ List.mem_of_getElem? h')
      rw [List.erase_cons_tail (by simpa using hne), List.eraseIdx_cons_succ, ih hn'.2 h']
theorem eraseIdx_map {α β : Type} (f : α → β) (l : List α) : ∀ i : Nat, (l.eraseIdx i).map f = (l.map f).eraseIdx i := by
  induction l with
  | nil => intro i; rfl
  | cons a l ih =>
    intro i
    cases i with
    | zero => rfl
    | succ i => exact congrArg (f a :: ·) (ih i)
theorem filter_at {l : List (By × Int)} : (l.map (·.2)).Nodup → ∀ {i : Nat} {k : By} {n : Int}, l[i]? = some (k, n) → l.filter (fun p => decide (p.2 ≠ n)) = l.eraseIdx i := by
  induction l with
  | nil => intro _ i k n h; cases h
  | cons a l ih =>
    intro hn i k n h
    rw [List.map_cons, List.nodup_cons] at hn
    cases i with
    | zero =>
      obtain rfl := Option.some.inj h
      rw [List.filter_cons_of_neg (by simp), List.eraseIdx_cons_zero]
      exact List.filter_eq_self.mpr fun p hp => by
        rw [decide_eq_true_iff]
        exact fun e => hn.1 (e ▸ List.mem_map.mpr ⟨p, hp, rfl⟩)
    | succ i =>
      have h' : l[i]? = some (k, n) := h
      have hne : a.2 ≠ n := fun e => hn.1 (e ▸ List.mem_map.mpr ⟨_, List.mem_of_getElem? h', rfl⟩)
      rw [List.filter_cons_of_pos (by simpa using hne), List.eraseIdx_cons_succ, ih hn.2 h']
section
variable {σ : Tb} {ω : Wd}
theorem tr_erase (G : GInv σ ω) {i : Nat} {k : By} {n : Int} (h : ω.rows[i]? = some (k, n)) : GInv { σ with ks := ksDel σ.ks n, ord := σ.ord.erase n } { ω with rows := ω.rows.eraseIdx i } := by
  refine ⟨G.n1, G.k1, G.v1, G.m1, G.b0, G.b1, G.b2, G.b3, G.b4, G.b5, G.b6, G.b7, ?_, ?_, ?_, ?_, fun r hr => G.hs r (List.mem_of_mem_eraseIdx hr), G.hv, G.hz, G.hl⟩
  · show σ.ord.erase n = _
    rw [G.ho, eraseIdx_map, erase_at G.hd (by rw [List.getElem?_map, h]; rfl)]
  · show (ksDel σ.ks n).Perm _
    have := G.hp.filter (fun p => decide (p.1 ≠ n))
    rw [List.filter_map] at this
    rw [← filter_at G.hd h]
    exact this
  · show ((ω.rows.eraseIdx i).map (·.2)).Nodup
    rw [eraseIdx_map]; exact G.hd.sublist (List.eraseIdx_sublist _ _)
  · show ((ω.rows.eraseIdx i).map (·.1)).Nodup
    rw [eraseIdx_map]; exact G.hk.sublist (List.eraseIdx_sublist _ _)
theorem valsSet_len {vals : List By} {n : Nat} {o : By} (hn : n ≤ vals.length) : n < (valsSet vals n o).length ∧ vals.length ≤ (valsSet vals n o).length ∧ (valsSet vals n o).length ≤ max vals.length (n + 1) := by
  unfold valsSet
  split <;> simp <;> omega
theorem valsSet_mem {vals : List By} {n : Nat} {o b : By} (h : b ∈ valsSet vals n o) : b = o ∨ b ∈ vals := by
  unfold valsSet at h
  split at h
  · rcases List.mem_or_eq_of_mem_set h with h | h
    · exact .inr h
    · exact .inl h
  · rcases List.mem_append.mp h with h | h
    · exact .inr h
    · exact .inl (by simpa using h)
theorem tr_new (G : GInv σ ω) {n : Nat} {k o : By} (hk : k ∉ ω.rows.map (·.1)) (hn : (n : Int) ∉ ω.rows.map (·.2)) (h1 : (n : Int) < ω.most) (h2 : n ≤ ω.vals.length) (hks : (k.size : Int) = ω.kw) (hos : (o.size : Int) = ω.vw) :
    GInv { σ with ks := σ.ks ++ [((n : Int), k)], ord := σ.ord ++ [(n : Int)], vals := valsSet σ.vals n o } { ω with rows := ω.rows ++ [(k, (n : Int))], vals := valsSet ω.vals n o } := by
  have hv := valsSet_len (o := o) h2
  refine ⟨G.n1, G.k1, G.v1, G.m1, G.b0, G.b1, G.b2, G.b3, G.b4, G.b5, G.b6, G.b7, ?_, ?_, ?_, ?_, fun r hr => ?_, ?_, fun b hb => ?_, ?_⟩
  · show σ.ord ++ [(n : Int)] = _
    rw [G.ho, List.map_append]; rfl
  · show (σ.ks ++ [((n : Int), k)]).Perm _
    rw [List.map_append]
    exact G.hp.append_right _
  · show ((ω.rows ++ [(k, (n : Int))]).map (·.2)).Nodup
    rw [List.map_append, List.nodup_append]
    exact ⟨G.hd, by simp, fun a ha b hb e => hn (by simp at hb; rw [← hb, ← e]; exact ha)⟩
  · show ((ω.rows ++ [(k, (n : Int))]).map (·.1)).Nodup
    rw [List.map_append, List.nodup_append]
    exact ⟨G.hk, by simp, fun a ha b hb e => hk (by simp at hb; rw [← hb, ← e]; exact ha)⟩
  · rcases List.mem_append.mp hr with h | h
    · obtain ⟨a1, a2, a3, a4⟩ := G.hs r h
      exact ⟨a1, a2, a3, by show r.2 < ((valsSet ω.vals n o).length : Int); omega⟩
    · have : r = (k, (n : Int)) := by simpa using h
      subst this
      exact ⟨hks, by show (0 : Int) ≤ n; omega, h1, by show (n : Int) < ((valsSet ω.vals n o).length : Int); omega⟩
  · show valsSet σ.vals n o = valsSet ω.vals n o
    rw [G.hv]
  · rcases valsSet_mem hb with h | h
    · rw [h]; exact hos
    · exact G.hz b h
  · show ((valsSet ω.vals n o).length : Int) ≤ ω.most
    have := G.hl
    omega
end
theorem perm_at {α : Type} {l : List α} : ∀ {i : Nat} {x : α}, l[i]? = some x → l.Perm (l.eraseIdx i ++ [x]) := by
  induction l with
  | nil => intro i x h; cases h
  | cons a l ih =>
    intro i x h
    cases i with
    | zero =>
      obtain rfl := Option.some.inj h
      exact (List.perm_append_singleton a l).symm
    | succ i => exact List.Perm.cons a (ih h)
theorem tr_touch {σ : Tb} {ω : Wd} (G : GInv σ ω) {i : Nat} {k : By} {n : Int} (h : ω.rows[i]? = some (k, n)) : GInv { σ with ord := σ.ord.erase n ++ [n] } { ω with rows := ω.rows.eraseIdx i ++ [(k, n)] } := by
  have hp := perm_at h
  refine ⟨G.n1, G.k1, G.v1, G.m1, G.b0, G.b1, G.b2, G.b3, G.b4, G.b5, G.b6, G.b7, ?_, G.hp.trans (hp.map _), (hp.map _).nodup_iff.mp G.hd, (hp.map _).nodup_iff.mp G.hk, fun r hr => G.hs r (hp.mem_iff.mpr hr), G.hv, G.hz, G.hl⟩
  show σ.ord.erase n ++ [n] = _
  rw [G.ho, List.map_append, eraseIdx_map, erase_at G.hd (by rw [List.getElem?_map, h]; rfl)]
  rfl
theorem tr_there {σ : Tb} {ω : Wd} (G : GInv σ ω) {i n : Nat} {k o : By} (h : ω.rows[i]? = some (k, (n : Int))) (ho : (o.size : Int) = ω.vw) :
    GInv { σ with vals := σ.vals.set n o, ord := σ.ord.erase (n : Int) ++ [(n : Int)] } { ω with rows := ω.rows.eraseIdx i ++ [(k, (n : Int))], vals := valsSet ω.vals n o } := by
  have G' := tr_touch G h
  have hn : n < ω.vals.length := by have := (G.hs _ (List.mem_of_getElem? h)).2.2.2; simpa using this
  have e : valsSet ω.vals n o = ω.vals.set n o := by unfold valsSet; rw [if_pos hn]
  rw [e]
  refine ⟨G'.n1, G'.k1, G'.v1, G'.m1, G'.b0, G'.b1, G'.b2, G'.b3, G'.b4, G'.b5, G'.b6, G'.b7, G'.ho, G'.hp, G'.hd, G'.hk, fun r hr => ?_, ?_, fun b hb => ?_, ?_⟩
  · obtain ⟨a1, a2, a3, a4⟩ := G'.hs r hr
    exact ⟨a1, a2, a3, by show r.2 < ((ω.vals.set n o).length : Int); rw [List.length_set]; exact a4⟩
  · show σ.vals.set n o = ω.vals.set n o
    rw [G.hv]
  · rcases List.mem_or_eq_of_mem_set hb with h | h
    · exact G.hz b h
    · rw [h]; exact ho
  · show ((ω.vals.set n o).length : Int) ≤ ω.most
    rw [List.length_set]; exact G.hl
theorem GInv.start {number kw vw most : Int} (h0 : 0 ≤ number) (h1 : number < 64) (h2 : 1 ≤ kw) (h3 : kw ≤ 2) (h4 : 1 ≤ vw) (h5 : vw ≤ 9) (h6 : 1 ≤ most) (h7 : most ≤ 4) :
    GInv { number := number, kw := kw, vw := vw, most := most, ks := [], ord := [], vals := [] } { number := number, kw := kw, vw := vw, most := most, rows := [], vals := [] } :=
  ⟨rfl, rfl, rfl, rfl, h0, h1, h2, h3, h4, h5, h6, h7, rfl, .nil, List.nodup_nil, List.nodup_nil, fun _ h => (nomatch h), rfl, fun _ h => (nomatch h), by simp; omega⟩
theorem GInv.free {σ : Tb} {ω : Wd} (G : GInv σ ω) (h : (ω.rows.length : Int) ≠ ω.most) : ∃ n : Nat, (n : Int) < ω.most ∧ (n : Int) ∉ ω.rows.map (·.2) ∧ (∀ j : Nat, j < n → (j : Int) ∈ ω.rows.map (·.2)) ∧ n ≤ ω.vals.length := by
  have hlen := G.rlen
  have hex : ∃ n : Nat, (n : Int) < ω.most ∧ (n : Int) ∉ ω.rows.map (·.2) := by
    apply Classical.byContradiction
    intro hno
    have hall : ∀ n : Nat, (n : Int) < ω.most → (n : Int) ∈ ω.rows.map (·.2) := fun n hn => Classical.byContradiction fun hc => hno ⟨n, hn, hc⟩
    have := nodup_len (q := (List.range ω.most.toNat).map Int.ofNat) (l := ω.rows.map (·.2)) (List.Pairwise.map _ (fun a b hab e => hab (Int.ofNat.inj e)) List.nodup_range) (fun x hx => by
      obtain ⟨j, hj, rfl⟩ := List.mem_map.mp hx
      have := List.mem_range.mp hj
      exact hall j (by omega))
    simp at this
    have := G.b6
    omega
  have hmin : ∀ m : Nat, (∃ n : Nat, n ≤ m ∧ (n : Int) < ω.most ∧ (n : Int) ∉ ω.rows.map (·.2)) → ∃ n : Nat, (n : Int) < ω.most ∧ (n : Int) ∉ ω.rows.map (·.2) ∧ ∀ j : Nat, j < n → (j : Int) ∈ ω.rows.map (·.2) := by
    intro m
    induction m with
    | zero =>
      rintro ⟨n, hn, h1, h2⟩
      have : n = 0 := by omega
      subst this
      exact ⟨0, h1, h2, fun j hj => absurd hj (Nat.not_lt_zero _)⟩
    | succ m ih =>
      rintro ⟨n, hn, h1, h2⟩
      by_cases q : ∃ n : Nat, n ≤ m ∧ (n : Int) < ω.most ∧ (n : Int) ∉ ω.rows.map (·.2)
      · exact ih q
      · refine ⟨n, h1, h2, fun j hj => Classical.byContradiction fun hc => q ⟨j, by omega, by omega, hc⟩⟩
  obtain ⟨n0, a1, a2⟩ := hex
  obtain ⟨n, h1, h2, h3⟩ := hmin n0 ⟨n0, Nat.le_refl _, a1, a2⟩
  refine ⟨n, h1, h2, h3, ?_⟩
  apply Classical.byContradiction
  intro hc
  have := h3 ω.vals.length (by omega)
  obtain ⟨r, hr, e⟩ := List.mem_map.mp this
  have := (G.hs r hr).2.2.2
  omega
end
section
theorem sps_of {w : World} {D U D' U' : Nat} {f : Addr} {vs : List Value} {foot : Led} {post : Value → Led → Prop} (C : Sp w D U f vs foot post) (hD : D ≤ D') (hU : U ≤ U') : SpS w D' U' f vs foot post :=
  fun mean mg mb dp un gd cn cs a ccd cl outer A₀ base h₀ L m s Q E rest B F X N OR T hk hd hu hret => wpS_any (C mean mg mb dp un gd cn cs a ccd cl outer A₀ base h₀ L m s Q E rest B F X N OR T hk (by omega) (by omega) hret)
theorem sps_mono {w : World} {D U D' U' : Nat} {f : Addr} {vs : List Value} {foot : Led} {post : Value → Led → Prop} (C : SpS w D U f vs foot post) (hD : D ≤ D') (hU : U ≤ U') : SpS w D' U' f vs foot post :=
  fun mean mg mb dp un gd cn cs a ccd cl outer A₀ base h₀ L m s Q E rest B F X N OR T hk hd hu hret => C mean mg mb dp un gd cn cs a ccd cl outer A₀ base h₀ L m s Q E rest B F X N OR T hk (by omega) (by omega) hret
theorem layC_of (w : World) (M : Addr) (σ : Tb) (n : Nat) (o : By) (hn : n ≤ σ.vals.length) (hl : σ.vals.length ≤ 1000) (ho : o.size ≤ 1000) (hz : ∀ b ∈ σ.vals, b.size = o.size) : LayC w M σ { σ with vals := valsSet σ.vals n o } (n : Int) o := by
  intro led t u hT
  by_cases h : n < σ.vals.length
  · have e : valsSet σ.vals n o = σ.vals.set ((n : Int)).toNat o := by unfold valsSet; rw [if_pos h]; rfl
    rw [e]
    exact lay_old w M σ led hT (n : Int) t o u (by omega) (σ.vals[n]) (by simp [h]) (hz _ (List.getElem_mem h)) ho
  · have e : valsSet σ.vals n o = σ.vals ++ [o] := by unfold valsSet; rw [if_neg h]
    rw [e]
    exact lay_new w M σ led hT (n : Int) t o u (by omega) hl ho
inductive UpdBoth (w : World) (σ : Tb) (ω : Wd) (key oct : By) (fl : Int) (a : Int) (σ' : Tb) (ω' : Wd) : Prop
  | mk (G : GInv σ' ω') (CT : (∀ M lt tb to tf, TabIs w M σ lt → SpS w 8 400 369 [.ref M, .bytes key tb, .bytes oct to, .int fl tf] lt (fun v l => (∃ t, v = .int a t) ∧ TabIs w M σ' l))) (CW : ∀ Wa M lw tb to tf, WIs w Wa M ω lw → Sp w 6 300 540 [.ref Wa, .bytes key tb, .bytes oct to, .int fl tf] lw (fun v l => (∃ t, v = .int a t) ∧ WIs w Wa M ω' l))
inductive UpdEx (w : World) (σ : Tb) (ω : Wd) (key oct : By) (fl : Int) : Prop
  | mk (a : Int) (σ' : Tb) (ω' : Wd) (h : UpdBoth w σ ω key oct fl a σ' ω')
theorem upd_new9 {w : World} {σ σ1 : Tb} {ω ω1 : Wd} {key oct : By} {fl : Int} (G : GInv σ ω) (G1 : GInv σ1 ω1) (hkn : key ∉ ω.rows.map (·.1)) (hk : (key.size : Int) = ω.kw) (ho : (oct.size : Int) = ω.vw) (hf : fl = 0 ∨ fl = 1) (n : Nat) (hsame : ω1.vals = ω.vals ∧ ω1.kw = ω.kw ∧ ω1.vw = ω.vw)
    (hroom : ∀ M, RoomC w M σ σ1 (n : Int)) (hk1 : key ∉ ω1.rows.map (·.1)) (hn1 : (n : Int) ∉ ω1.rows.map (·.2)) (hm : (n : Int) < ω1.most) (hnv : n ≤ ω1.vals.length)
    (hw : ∀ Wa M lw tb to tf, WIs w Wa M ω lw → Sp w 6 300 540 [.ref Wa, .bytes key tb, .bytes oct to, .int fl tf] lw (fun v l => (∃ t, v = .int 0 t) ∧ WIs w Wa M { ω1 with rows := ω1.rows ++ [(key, (n : Int))], vals := valsSet ω1.vals n oct } l)) :
    ∃ σ' ω', UpdBoth w σ ω key oct fl 0 σ' ω' := by
  have hb := G.b3
  have hb5 := G.b5
  have hb7 := G.b7
  have hl := G.hl
  have hl1 := G1.hl
  have hr1 := G1.rlen
  have hm1 := G1.b7
  have hord : (n : Int) ∉ σ1.ord := by rw [G1.ho]; exact hn1
  refine ⟨_, _, tr_new G1 hk1 hn1 hm hnv (by rw [hsame.2.1]; exact hk) (by rw [hsame.2.2]; exact ho), fun M lt tb to tf hT => ?_, hw⟩
  have hlay := layC_of w M { σ1 with ks := σ1.ks ++ [((n : Int), key)] } n oct (by show n ≤ σ1.vals.length; rw [G1.hv]; exact hnv) (by show σ1.vals.length ≤ 1000; rw [G1.hv]; omega) (by omega) (fun b hb => by
    have : b ∈ ω1.vals := by rw [← G1.hv]; exact hb
    have := G1.hz b this
    rw [hsame.2.2] at this
    omega)
  have C := updn_new w M σ σ1 _ lt hT key tb oct to tf fl (hf.elim .inl fun h => .inr (.inl h)) (by rcases hf with h | h <;> subst h <;> rfl) (by rw [← G.k1]; exact hk) (by omega) G.kn (by rw [← G.v1]; exact ho) (by omega) (G.lost hkn) (n : Int) (hroom M) (by intro h; exact hn1 (G1.pfst.mem_iff.mp h)) (by rw [G1.klen]; omega) hlay (by show σ1.ord.length ≤ 1000; rw [G1.ho, List.length_map]; omega)
  have e : σ1.ord.erase (n : Int) = σ1.ord := List.erase_of_not_mem hord
  dsimp only at C
  rw [e] at C
  exact C
theorem upd_step {w : World} {σ : Tb} {ω : Wd} (G : GInv σ ω) {key oct : By} (hk : (key.size : Int) = ω.kw) (ho : (oct.size : Int) = ω.vw) (fl : Int) (h0 : 0 ≤ fl) (h3 : fl ≤ 3) : UpdEx w σ ω key oct fl := by
  have hb := G.b3
  have hb5 := G.b5
  have hb7 := G.b7
  have hrl := G.rlen
  have hl := G.hl
  have hkσ : (key.size : Int) = σ.kw := by rw [← G.k1]; exact hk
  have hoσ : (oct.size : Int) = σ.vw := by rw [← G.v1]; exact ho
  have hf : fl = 0 ∨ fl = 1 ∨ fl = 2 ∨ fl = 3 := by omega
  by_cases hin : key ∈ ω.rows.map (·.1)
  · obtain ⟨r, hr, e⟩ := List.mem_map.mp hin
    obtain ⟨i, hi⟩ := List.getElem?_of_mem hr
    obtain ⟨k', n'⟩ := r
    dsimp only at e
    subst e
    obtain ⟨q1, q2, q3, q4⟩ := G.hs _ hr
    dsimp only at q2 q3 q4
    obtain ⟨n, rfl⟩ := Int.eq_ofNat_of_zero_le q2
    have hS := G.found hr
    have hsp := G.spot hi
    rcases hf with rfl | rfl | rfl | rfl
    · obtain ⟨b0, hb0, hb1⟩ := G.val hr
      refine ⟨0, _, _, tr_there G hi ho, fun M lt tb to tf hT => ?_, fun Wa M lw tb to tf hT => updw_there w Wa M ω lw hT k' oct tb to tf (by omega) 0 (.inl rfl) i hsp k' n hi (by omega) (by omega)⟩
      exact sps_mono (updn_there w M σ lt hT k' tb oct to tf 0 (.inl rfl) rfl hkσ (by omega) G.kn hoσ (by omega) (n : Int) hS (by omega) b0 (by rw [G.hv]; exact hb0) (by omega) (by rw [G.ho, List.length_map]; omega)) (by omega) (by omega)
    · exact ⟨-17, σ, ω, G, fun M lt tb to tf hT => sps_of (upd_exist w M σ lt hT k' tb oct to tf hkσ (by omega) G.kn hoσ (by omega) (n : Int) hS) (by omega) (by omega), fun Wa M lw tb to tf hT => updw_17 w Wa M ω lw hT k' oct tb to tf (by omega) _ hsp (by omega)⟩
    · obtain ⟨b0, hb0, hb1⟩ := G.val hr
      refine ⟨0, _, _, tr_there G hi ho, fun M lt tb to tf hT => ?_, fun Wa M lw tb to tf hT => updw_there w Wa M ω lw hT k' oct tb to tf (by omega) 2 (.inr rfl) i hsp k' n hi (by omega) (by omega)⟩
      exact sps_mono (updn_there w M σ lt hT k' tb oct to tf 2 (.inr (.inr (.inl rfl))) rfl hkσ (by omega) G.kn hoσ (by omega) (n : Int) hS (by omega) b0 (by rw [G.hv]; exact hb0) (by omega) (by rw [G.ho, List.length_map]; omega)) (by omega) (by omega)
    · exact ⟨-22, σ, ω, G, fun M lt tb to tf hT => sps_of (upd_bad w M σ lt hT k' tb oct to tf hkσ (by omega) G.kn hoσ (by omega) (n : Int) (.inr hS)) (by omega) (by omega), fun Wa M lw tb to tf hT => updw_22 w Wa M ω lw hT k' oct tb to tf (by omega) _ rfl⟩
  · have hS := G.lost hin
    have hsp := G.nospot hin
    have hnew : ∀ f : Int, f = 0 ∨ f = 1 → ∃ σ' ω', UpdBoth w σ ω key oct f 0 σ' ω' := by
      intro f hf
      by_cases hfull : (ω.rows.length : Int) = ω.most
      · obtain ⟨⟨k0, n0⟩, rr, hrows⟩ : ∃ r rr, ω.rows = r :: rr := by
          cases e : ω.rows with
          | nil => rw [e] at hfull; have := G.b6; simp at hfull; omega
          | cons r rr => exact ⟨r, rr, rfl⟩
        have h00 : ω.rows[0]? = some (k0, n0) := by rw [hrows]; rfl
        have hr0 : (k0, n0) ∈ ω.rows := List.mem_of_getElem? h00
        obtain ⟨q1, q2, q3, q4⟩ := G.hs _ hr0
        dsimp only at q2 q3 q4
        obtain ⟨n, rfl⟩ := Int.eq_ofNat_of_zero_le q2
        have G1 := tr_erase G h00
        have hall : ∀ j : Int, 0 ≤ j → j < σ.most → j ∈ σ.ks.map (·.1) := fun j j0 j1 => by
          apply Classical.byContradiction
          intro hc
          have hc' : j ∉ ω.rows.map (·.2) := fun h => hc (G.pfst.mem_iff.mpr h)
          have := nodup_len (q := j :: ω.rows.map (·.2)) (l := (List.range ω.most.toNat).map Int.ofNat) (List.nodup_cons.mpr ⟨hc', G.hd⟩) (fun x hx => by
            rcases List.mem_cons.mp hx with h | h
            · exact List.mem_map.mpr ⟨j.toNat, List.mem_range.mpr (tn_lt j0 (by rw [G.m1]; exact j1)), (Int.toNat_of_nonneg j0).trans h.symm⟩
            · obtain ⟨r, hr, rfl⟩ := List.mem_map.mp h
              obtain ⟨_, a1, a2, _⟩ := G.hs r hr
              exact List.mem_map.mpr ⟨r.2.toNat, List.mem_range.mpr (tn_lt a1 a2), Int.toNat_of_nonneg a1⟩)
          simp at this
          have := G.b6
          omega
        refine upd_new9 G G1 hin hk ho hf n ⟨rfl, rfl, rfl⟩ (fun M led hT => ?_) ?_ ?_ q3 (by show n ≤ ω.vals.length; omega) (fun Wa M lw tb to tf hT => updw_full w Wa M ω lw hT key oct tb to tf (by omega) f hf hsp hfull k0 n h00 (by omega) (by omega))
        · exact room_full w M σ led hT ⟨by rw [← G.m1]; exact G.b6, by rw [← G.m1]; exact G.b7⟩ hall (n : Int) (rr.map (·.2)) (by rw [G.ho, hrows]; rfl) k0 (G.mem.mpr hr0) (by rw [G.ho]; exact List.mem_map.mpr ⟨_, hr0, rfl⟩) (by rw [G.ho, List.length_map]; omega) (by dsimp only at q1; omega) (by rw [G.klen]; omega)
        · intro h
          obtain ⟨r, hr, e⟩ := List.mem_map.mp h
          exact hin (List.mem_map.mpr ⟨r, List.mem_of_mem_eraseIdx hr, e⟩)
        · show (n : Int) ∉ (ω.rows.eraseIdx 0).map (·.2)
          have := G.hd
          rw [hrows, List.map_cons, List.nodup_cons] at this
          rw [hrows, List.eraseIdx_cons_zero]
          exact this.1
      · obtain ⟨n, n1, n2, n3, n4⟩ := G.free hfull
        refine upd_new9 G G hin hk ho hf n ⟨rfl, rfl, rfl⟩ (fun M led hT => ?_) hin n2 n1 n4 (fun Wa M lw tb to tf hT => updw_free w Wa M ω lw hT key oct tb to tf (by omega) f hf hsp hfull (by have := G.b6; omega) (by omega) n n1 n2 n3 n4 (by omega))
        exact room_free w M σ led hT ⟨by rw [← G.m1]; exact G.b6, by rw [← G.m1]; exact G.b7⟩ (n : Int) (by omega) (by rw [← G.m1]; exact n1) (fun h => n2 (G.pfst.mem_iff.mp h)) (fun j j0 j1 => by
          obtain ⟨j', rfl⟩ := Int.eq_ofNat_of_zero_le j0
          exact G.pfst.mem_iff.mpr (n3 j' (by omega)))
    rcases hf with rfl | rfl | rfl | rfl
    · obtain ⟨σ', ω', h⟩ := hnew 0 (.inl rfl)
      exact ⟨0, σ', ω', h⟩
    · obtain ⟨σ', ω', h⟩ := hnew 1 (.inr rfl)
      exact ⟨0, σ', ω', h⟩
    · exact ⟨-2, σ, ω, G, fun M lt tb to tf hT => sps_of (upd_absent w M σ lt hT key tb oct to tf hkσ (by omega) G.kn hoσ (by omega) hS) (by omega) (by omega), fun Wa M lw tb to tf hT => updw_2 w Wa M ω lw hT key oct tb to tf (by omega) _ hsp (by omega)⟩
    · exact ⟨-22, σ, ω, G, fun M lt tb to tf hT => sps_of (upd_bad w M σ lt hT key tb oct to tf hkσ (by omega) G.kn hoσ (by omega) 0 (.inl hS)) (by omega) (by omega), fun Wa M lw tb to tf hT => updw_22 w Wa M ω lw hT key oct tb to tf (by omega) _ rfl⟩
inductive LookNone (w : World) (σ : Tb) (ω : Wd) (key : By) : Prop
  | mk (CT : (∀ M lt tb, TabIs w M σ lt → Sp w 4 40 333 [.ref M, .bytes key tb] lt (fun v l => v = .none ∧ TabIs w M σ l))) (CW : ∀ Wa M lw tb, WIs w Wa M ω lw → Sp w 6 200 547 [.ref Wa, .bytes key tb] lw (fun v l => v = .none ∧ WIs w Wa M ω l))
inductive LookSome (w : World) (σ : Tb) (ω : Wd) (key : By) (n : Int) (σ' : Tb) (ω' : Wd) : Prop
  | mk (G : GInv σ' ω') (CT : (∀ M lt tb, TabIs w M σ lt → Sp w 4 40 333 [.ref M, .bytes key tb] lt (fun v l => (∃ t, v = .int n t) ∧ TabIs w M σ' l))) (CW : ∀ Wa M lw tb, WIs w Wa M ω lw → Sp w 6 200 547 [.ref Wa, .bytes key tb] lw (fun v l => (∃ t, v = .int n t) ∧ WIs w Wa M ω' l))
inductive DelBoth (w : World) (σ : Tb) (ω : Wd) (key : By) (a : Int) (σ' : Tb) (ω' : Wd) : Prop
  | mk (G : GInv σ' ω') (CT : (∀ M lt tb, TabIs w M σ lt → Sp w 6 60 390 [.ref M, .bytes key tb] lt (fun v l => (∃ t, v = .int a t) ∧ TabIs w M σ' l))) (CW : ∀ Wa M lw tb, WIs w Wa M ω lw → Sp w 6 200 554 [.ref Wa, .bytes key tb] lw (fun v l => (∃ t, v = .int a t) ∧ WIs w Wa M ω' l))
inductive LookEx (w : World) (σ : Tb) (ω : Wd) (key : By) : Prop
  | none (h : LookNone w σ ω key)
  | some (n : Int) (σ' : Tb) (ω' : Wd) (h : LookSome w σ ω key n σ' ω')
inductive DelEx (w : World) (σ : Tb) (ω : Wd) (key : By) : Prop
  | mk (a : Int) (σ' : Tb) (ω' : Wd) (h : DelBoth w σ ω key a σ' ω')
theorem look_step {w : World} {σ : Tb} {ω : Wd} (G : GInv σ ω) {key : By} (hk : (key.size : Int) = ω.kw) : LookEx w σ ω key := by
  have hb := G.b3
  have hb7 := G.b7
  have hrl := G.rlen
  have hkσ : (key.size : Int) = σ.kw := by rw [← G.k1]; exact hk
  by_cases hin : key ∈ ω.rows.map (·.1)
  · obtain ⟨r, hr, e⟩ := List.mem_map.mp hin
    obtain ⟨i, hi⟩ := List.getElem?_of_mem hr
    obtain ⟨k', n⟩ := r
    dsimp only at e
    subst e
    exact LookEx.some n _ _ ⟨tr_touch G hi, fun M lt tb hT => lookup_some w M σ lt hT k' tb hkσ (by omega) G.kn n (G.found hr) (by rw [G.ho, List.length_map]; omega), fun Wa M lw tb hT => looked_some w Wa M ω lw hT k' tb (by omega) i (G.spot hi) k' n hi⟩
  · exact LookEx.none ⟨fun M lt tb hT => lookup_none w M σ lt hT key tb hkσ (by omega) G.kn (G.lost hin), fun Wa M lw tb hT => looked_none w Wa M ω lw hT key tb (by omega) (G.nospot hin)⟩
theorem del_step {w : World} {σ : Tb} {ω : Wd} (G : GInv σ ω) {key : By} (hk : (key.size : Int) = ω.kw) : DelEx w σ ω key := by
  have hb := G.b3
  have hb7 := G.b7
  have hrl := G.rlen
  have hkσ : (key.size : Int) = σ.kw := by rw [← G.k1]; exact hk
  by_cases hin : key ∈ ω.rows.map (·.1)
  · obtain ⟨r, hr, e⟩ := List.mem_map.mp hin
    obtain ⟨i, hi⟩ := List.getElem?_of_mem hr
    obtain ⟨k', n⟩ := r
    dsimp only at e
    subst e
    exact ⟨0, _, _, tr_erase G hi, fun M lt tb hT => delete_some w M σ lt hT k' tb hkσ (by omega) G.kn n (G.found hr) (G.mem.mpr hr) (by rw [G.ho]; exact List.mem_map.mpr ⟨_, hr, rfl⟩) (by rw [G.ho, List.length_map]; omega) (by rw [G.klen]; omega), fun Wa M lw tb hT => deleted_some w Wa M ω lw hT k' tb (by omega) i (G.spot hi) k' n hi⟩
  · exact ⟨-2, σ, ω, G, fun M lt tb hT => delete_none w M σ lt hT key tb hkσ (by omega) G.kn (G.lost hin), fun Wa M lw tb hT => deleted_none w Wa M ω lw hT key tb (by omega) (G.nospot hin)⟩
noncomputable def alikeOct (ω : Wd) (n : Int) : By := (ω.vals[n.toNat]?).getD #[]
theorem alike_step {w : World} {σ : Tb} {ω : Wd} (G : GInv σ ω) (Wa M : Addr) (lt lw : Led) (hT : TabIs w M σ lt) (hW : WIs w Wa M ω lw) (Dj : OwnOff lw (lt.map (·.1))) :
    Sp w 12 300 559 [.ref Wa] (lt ++ lw) (fun v led' => v = .bool true ∧ ∃ l2, led' = l2 ++ lw ∧ TabIs w M σ l2 ∧ OwnOff lw (l2.map (·.1))) := by
  have hb := G.b3
  have hb5 := G.b5
  have hb7 := G.b7
  have hrl := G.rlen
  have hl := G.hl
  refine alike_sp w Wa M σ ω lt lw hT hW Dj (alikeOct ω) (by omega) (by omega) G.n1 G.k1 G.v1 G.m1 G.ho (fun r hr => G.mem.mpr hr) G.kn G.klen G.psnd G.hv (fun b h => by rw [G.hv] at h; have := G.hz b h; omega) fun r hr => ?_
  obtain ⟨q1, q2, q3, q4⟩ := G.hs r hr
  obtain ⟨b, b1, b2⟩ := G.val hr
  have e : alikeOct ω r.2 = b := by unfold alikeOct; rw [b1]; rfl
  exact ⟨by rw [← G.k1]; exact q1, by omega, G.found hr, q2, by rw [e, G.hv]; exact b1, by rw [e]; omega⟩
theorem copy_step {w : World} {σ : Tb} {ω : Wd} (G : GInv σ ω) (M : Addr) (led : Led) (hT : TabIs w M σ led) :
    SpS w 20 280 499 [.ref M] led (fun v led' => ∃ M2 l2, v = .ref M2 ∧ led' = l2 ++ led ∧ TabIs w M2 σ l2 ∧ OwnOff led (l2.map (·.1))) := by
  have hb7 := G.b7
  have hrl := G.rlen
  have hl := G.hl
  have hb5 := G.b5
  exact lrucopy_sp w M σ led hT (by rw [← G.n1]; exact G.b0) (by rw [← G.n1]; exact G.b1) (by rw [← G.k1]; exact G.b2) (by rw [← G.k1]; exact G.b3) (by rw [← G.v1]; exact G.b4) (by rw [← G.v1]; exact G.b5) (by rw [← G.m1]; exact G.b6) (by rw [← G.m1]; exact G.b7)
    (by rw [G.hv]; omega) (fun b h => by rw [G.hv] at h; have := G.hz b h; omega) (by rw [G.klen]; omega) G.kf (by rw [G.ho, List.length_map]; omega)
end
section
inductive OInv (P : Addr) (c0 : Int) (base : Led) (i : Nat) (ys : List Value) (led : Led) : Prop
  | mk (c : _) (lp : _) (e1 : led = lp ++ base) (e2 : PenIs P c lp) (e3 : c0 ≤ c) (e4 : c ≤ c0 + i) (e5 : (ys.length = i ∧ ∀ (j : Nat) y, ys[j]? = some y → ∃ n t, y = Value.int n t ∧ 0 ≤ n ∧ n < 256)) (e6 : OwnOff base [P])
theorem penIs_addr {P : Addr} {c : Int} {lp : Led} (h : PenIs P c lp) : lp.map (·.1) = [P] := by obtain ⟨n, t0, t1, e, rfl, _⟩ := h; rfl
theorem oinv0 {P : Addr} {c : Int} {lp base : Led} (h : PenIs P c lp) (hO : OwnOff base [P]) : OInv P c base 0 [] (lp ++ base) := ⟨c, lp, rfl, h, Int.le_refl _, by omega, ⟨rfl, fun j y e => by simp at e⟩, hO⟩
theorem oct_end {P : Addr} {c0 c : Int} {base : Led} {h₀ h' : Heap} {L I C D : Addr} {m : Str → Option Value} {oI oC oD : Obj} {l0 lp : Led} {S : Led → Prop} {s₁ : Shared} {tk' i : Nat} {ys : List Value} {v : Int} {t : Tok} (F : Fr h₀ L h' m)
    (N : News h₀ L h' (lp ++ ((I, oI) :: (C, oC) :: (D, oD) :: base))) (O : OwnOff ((I, oI) :: (C, oC) :: (D, oD) :: base) (lp.map (·.1))) (off : LCg.Off3 I C D (l0 ++ base)) (hP : PenIs P c lp) (h0 : c0 ≤ c) (h1 : c ≤ c0 + (i + 1 : Nat)) (hS : ∀ l, S l) (hy : ys.length = i ∧ ∀ (j : Nat) y, ys[j]? = some y → ∃ n t, y = Value.int n t ∧ 0 ≤ n ∧ n < 256) (hv : 0 ≤ v ∧ v < 256) (hO : OwnOff base [P]) :
    LCg.CompEnd h₀ L m s₁ I oI C oC D oD S (fun y led' => OInv P c0 base (i + 1) (ys ++ [y]) led') (.int v t) { s₁ with heap := h', toks := tk' } := by
  refine LCg.CompEnd.intro F N (lp ++ base) ?_ ?_ (hS _) ⟨c, lp, rfl, hP, h0, h1, ⟨by simp [hy.1], snoc_get hy.1 hy.2 ⟨v, t, rfl, hv.1, hv.2⟩⟩, hO⟩
  · walk_at "mine sub"
  · refine LCg.Off3.of fun p hp => ?_
    rcases List.mem_append.mp hp with hp | hp
    · have hb : p.1 ∈ lp.map (·.1) := List.mem_map.mpr ⟨p, hp, rfl⟩
      exact ⟨fun e => O (I, oI) (.head _) _ hb e.symm, fun e => O (C, oC) (.tail _ (.head _)) _ hb e.symm, fun e => O (D, oD) (.tail _ (.tail _ (.head _))) _ hb e.symm⟩
    · exact off3_mem off p (List.mem_append_right _ hp)
theorem draw_use {w : World} {P : Addr} {c : Int} {lp : Led} (h : PenIs P c lp) (hc2 : c ≤ 1000) (many : Int) (t : Tok) (hm : 0 < many) (hm2 : many ≤ 256) :
    Sp w 2 20 518 [.ref P, .int many t] lp (fun v led' => ∃ d t', v = .int d t' ∧ 0 ≤ d ∧ d < many ∧ ∃ c', PenIs P c' led' ∧ c ≤ c' ∧ c' ≤ c + 1) := by
  obtain ⟨n, t0, t1, e, rfl, h1, h2⟩ := h
  exact draw_sp w P n c t0 t1 e h1 h2 hc2 many t hm hm2
section
variable {w : World} {mean : ExcName → Option Value} {mg mb : Str → Option Value} {dp un : Nat} {gd : Option (List Code)} {cn : Str} {cs : Scope} {a : Addr} {ccd : Value} {cl : List (Str × Addr)} {outer : List Env} {A₀ : Around} {base h₀ : Heap} {L P : Addr} {m : Str → Option Value} {s : Shared} {Q E : Value → Shared → Prop} {lp rest : Led}
theorem draw_go {c : Int} (h : PenIs P c lp) (hc2 : c ≤ 1000) (many : Int) (t : Tok) (hm : 0 < many) (hm2 : many ≤ 256) (B : Below A₀ base outer h₀) (F : Fr h₀ L s.heap m) (X : (Mine.hd.heap_1 w.params).In h₀) (N : News h₀ L s.heap (lp ++ rest)) (OR : OwnOff rest (lp.map (·.1)))
    (T : Top Mine.hd.view_39 (looseW Mine.hd.view_39 [Str.ofString "GateError", Str.ofString "HashMap"]) mean mg mb h₀) (hk : cs.kind = .function) (hd : dp + 2 < recursionLimit) (hu : un + 20 < cLine)
    (hret : ∀ d t' c' l h' tk', 0 ≤ d → d < many → PenIs P c' l → c ≤ c' → c' ≤ c + 1 → OwnOff rest (l.map (·.1)) → Fr h₀ L h' m → News h₀ L h' (l ++ rest) → Q (.int d t') { s with heap := h', toks := tk' }) :
    wpAny (model PySem.Challenge.rw_qz0154_01.row.prog w) (ktrTop dp un gd cn cs L a ccd cl outer) (call (.ref 518) [.ref P, .int many t]) Q E s :=
  sp_use (draw_use h hc2 many t hm hm2) B F X N OR T hk hd hu fun v l h' tk' p O' F' N' => by
    obtain ⟨d, t', e, d0, d1, c', p', c0, c1⟩ := p
    subst e
    exact hret d t' c' l h' tk' d0 d1 p' c0 c1 O' F' N'
end
end
section
end
theorem kw_73 : True := by
  (k_with "M mine enterSCT" => (refine' codeS_defCT ?q_k1 ?q_k2 ?q_k3 ?q_k4 ?q_k5 ?q_kA ?q_kF ?q_kK ?q_k6 ?q_k7 ?q_k8 ?q_k9 ?q_kB ?q_kD ?_ ?q_c2 ?q_c3 ?q_c4; (case q_kA => exact rfl); (case q_kF => exact rfl); (case q_kK => first | assumption | exact rfl); (case q_k1 => k_asm); (case q_k2 => k_asm); (case q_k3 => k_asm); (case q_k4 => k_asm); (case q_k5 => k_asm); (case q_k6 => k_is); (case q_k7 => k_is); (case q_k8 => ktr_room); (case q_k9 => first | exact BindsTo.of_eq rfl | exact binds_K (by k_in) rfl (by k_is) rfl rfl rfl); (case q_kB => exact rfl); (case q_kD => decide +kernel); (case q_c2 => exact rfl); (case q_c3 => exact rfl); (case q_c4 => exact rfl); k_whole; intro _ _ _ _ _ _ _ N9 Y9 B9 _ _ _ l9; (try k_lt l9); k_cells Y9; (try dsimp only [List.cons_append, List.nil_append] at N9); (try dsimp only); (try k_lift B9); (try k_fold)))
  (k_with "M mine spd" => (k_dflt (refine' spd_enter ?q_6 ?q_7 ?q_9 ?q_B ?q_D ?q_c2 ?q_c3 ?q_c4 ?_; (case q_6 => k_is); (case q_7 => k_is); (case q_9 => first | exact bt_zip rfl | exact fun s X => binds_K X rfl (by k_is) rfl rfl rfl); (case q_B => exact rfl); (case q_D => decide +kernel); (case q_c2 => exact rfl); (case q_c3 => exact rfl); (case q_c4 => exact rfl))))
  trivial
section
section byn
variable {prog : Program} {w : World} {A : Around} {E : Value → Shared → Prop} {s : Shared} {n : Int} {t : Tok}
theorem byn_nobytes : typeLookup (.type "int") "__bytes__" = pure none := by rw [typeLookup_type, builtinLookup_eq_fast]; kernel_rfl
theorem byn_index : typeLookup (.type "int") "__index__" = pure (some (.builtin "int.__index__")) := by rw [typeLookup_type, builtinLookup_eq_fast]; kernel_rfl
theorem byn_new {Q : Value → Shared → Prop} (h0 : 0 ≤ n) (h1 : n ≤ 1000)
    (hQ : ∀ t' k, Q (.bytes (Array.replicate n.toNat 0) t') { s with toks := k }) :
    codeAny (model prog w) A (.call (.builtin "bytes.__new__") ⟨[.type "bytes", .int n t], []⟩) (wants Q E) s := by
  refine codeAny_of_tree ?_
  show wpAny _ A.in1 (do checkBuiltinCall "bytes.__new__" ⟨[.type "bytes", .int n t], []⟩; again (.builtin "bytes.__new__" ⟨[.type "bytes", .int n t], []⟩)) _ _ s
  refine wpAny_bind (wpAny_of_eq (PySem.F.bm_newCall _) (wpAny_pure ⟨plainId_quiet PySem.F.bm_plain _, codeAny_builtin PySem.F.bm_entry ?_⟩))
  rw [Around.under_plainId PySem.F.bm_plain _]
  have hT : s.TypeIs (.int n t) "int" := by show typeOf (.int n t) = pure (.type "int"); rfl
  unfold Builtin.«bytes.__new__»
  refine wpAny_bind (wpAny_of_eq (a := true) rfl ?_)
  refine bm_if_false rfl ?_
  refine wpAny_bind (wpAny_of_eq PySem.F.bm_sub ?_)
  refine bm_if_false rfl ?_
  refine wpAny_bind (wpAny_of_eq (PySem.F.bm_bind _) ?_)
  refine wpAny_bind (wpAny_of_eq (a := ()) rfl ?_)
  refine wpAny_bind (wpAny_of_eq (a := ()) rfl ?_)
  refine bm_if_false rfl ?_
  refine wpAny_bind (wpAny_specialOf hT byn_nobytes ?_)
  refine wpAny_bind (wpAny_bind (wpAny_of_eq (a := none) rfl (wpAny_pure ?_)))
  refine bm_if_false rfl ?_
  refine wpAny_bind (wpAny_specialOf hT byn_index ?_)
  refine bm_if_false rfl ?_
  refine wpAny_bind (wpAny_of_eq (a := .ok n) rfl ?_)
  dsimp only
  refine bm_if_false (by simp only [Builtin.Bytes.fitsIndex, Bool.not_eq_false', Bool.and_eq_true, decide_eq_true_eq]; omega) ?_
  rw [if_neg (show ¬ n < 0 by omega), if_neg (show ¬ n > 2 ^ 63 - 34 by omega)]
  refine bm_if_false (by simp only [Builtin.Bytes.tooLong, decide_eq_false_iff_not]; rw [sizeLine_eq]; omega) ?_
  refine wpAny_bind (wpAny_rule (wpAny_bind (wpAny_mkBytes ?_ (by rw [Array.size_replicate, sizeLine_eq]; omega))))
  show wpAny _ _ (if (Value.type "bytes" == Value.type "bytes") = true then _ else _) _ _ _
  refine bm_if_true (by decide) ?_
  first
    | exact wpAny_pure (hQ _ _)
    | exact wpAny_bind (wpAny_pure (wpAny_pure (hQ _ _)))
theorem byn_call {Q : Value → Shared → Prop} (h0 : 0 ≤ n) (h1 : n ≤ 1000) (hQ : ∀ t' k, Q (.bytes (Array.replicate n.toNat 0) t') { s with toks := k }) :
    wpAny (model prog w) A (call (.type "bytes") [.int n t]) Q E s := by
  refine callType_codes (Q₁ := fun obj s₁ => s₁.TypeIs obj "bytes" ∧ Q obj s₁) PySem.F.bm_called (PySem.F.bm_typeCall _) PySem.F.entry_object_init
    (byn_new h0 h1 fun t' k => ⟨PySem.W.typeIs_bytes _ _ _, hQ t' k⟩) fun obj s₁ h₁ => ?_
  exact ⟨h₁.1, PySem.F.args_object_init_2 obj _, object_init_meets PySem.F.bm_called.init.lookup PySem.F.bm_called.made (by decide) prog w A.in1 _ s₁ ⟨h₁.1, rfl, h₁.2⟩⟩
end byn
end
section
theorem WIs.inst {w : World} {Wa M : Addr} {ω : Wd} {lw : Led} (h : WIs w Wa M ω lw) : ∃ oW R D t0 t1 t2 t3, (Wa, oW) ∈ lw ∧ oW.IsDictOf (strKind PySem.Challenge.rw_qz0154_01.row.prog w) (wkv ω M R D t0 t1 t2 t3) := by
  cases h with
  | mk hW hR hD rD off d1 d2 d3 lW lD => exact ⟨_, _, _, _, _, _, _, .head _, hW⟩
def SpD (w : World) (D U : Nat) (f : Addr) (vs : List Value) (foot : Led) (post : Value → Led → Prop) : Prop :=
  ∀ (mean : ExcName → Option Value) (mg mb : Str → Option Value) (dp un : Nat) (gd : Option (List Code)) (cn : Str) (cs : Scope) (a : Addr) (ccd : Value) (cl : List (Str × Addr)) (A₀ : Around) (base h₀ : Heap) (L : Addr) (m : Str → Option Value) (s : Shared) (Q E : Value → Shared → Prop) (rest : Led),
   Below A₀ base [] h₀ → Fr h₀ L s.heap m → (hd.heap_1 w.params).In h₀ → News h₀ L s.heap (foot ++ rest) → OwnOff rest (foot.map (·.1)) →
   Top hd.view_39 (looseW hd.view_39 [Str.ofString "GateError", Str.ofString "HashMap"]) mean mg mb h₀ → (hd.heap_1 w.params).In base → Top hd.view_39 (looseW hd.view_39 [Str.ofString "GateError", Str.ofString "HashMap"]) mean mg mb base → cs.kind = .function → dp + D < recursionLimit → un + U < cLine →
   (∀ v foot' h' tk', post v foot' → OwnOff rest (foot'.map (·.1)) → Fr h₀ L h' m → News h₀ L h' (foot' ++ rest) → Q v { s with heap := h', toks := tk' }) →
   wpS (model PySem.Challenge.rw_qz0154_01.row.prog w) (ktrTop dp un gd cn cs L a ccd cl []) (call (.ref f) vs) Q E s
section
variable {w : World} {mean : ExcName → Option Value} {mg mb : Str → Option Value} {dp un : Nat} {gd : Option (List Code)} {cn : Str} {cs : Scope} {a : Addr} {ccd : Value} {cl : List (Str × Addr)} {outer : List Env} {A₀ : Around} {base h₀ : Heap} {L : Addr} {m : Str → Option Value} {s : Shared} {Q E : Value → Shared → Prop} {D U : Nat} {f : Addr} {vs : List Value}
theorem spt_of {foot : Led} {post : Value → Led → Prop} (C : Sp w D U f vs foot post) : SpT w D U f vs foot post :=
  fun mean mg mb dp un gd cn cs a ccd cl outer A₀ base h₀ L m s Q E rest B F X N OR T _ _ _ hk hd hu hret =>
    C mean mg mb dp un gd cn cs a ccd cl outer A₀ base h₀ L m s Q E rest B F X N OR T hk hd hu fun v l h' tk' q O F' N' => hret v l h₀ h' tk' q O KtsTurn.refl F' N'
theorem spt_use {foot : Led} {post : Value → Led → Prop} {rest : Led} (C : SpT w D U f vs foot post) (XB : (Mine.hd.heap_1 w.params).In base) (TB : Top Mine.hd.view_39 (looseW Mine.hd.view_39 [Str.ofString "GateError", Str.ofString "HashMap"]) mean mg mb base) (KD : KtsDicts (outer.filterMap (·.frame)) h₀)
    (B : Below A₀ base outer h₀) (F : Fr h₀ L s.heap m) (X : (Mine.hd.heap_1 w.params).In h₀) (N : News h₀ L s.heap (foot ++ rest)) (OR : OwnOff rest (foot.map (·.1)))
    (T : Top Mine.hd.view_39 (looseW Mine.hd.view_39 [Str.ofString "GateError", Str.ofString "HashMap"]) mean mg mb h₀) (hk : cs.kind = .function) (hd : dp + D < recursionLimit) (hu : un + U < cLine)
    (hret : ∀ v foot' g' h' tk', post v foot' → OwnOff rest (foot'.map (·.1)) → KtsTurn (outer.filterMap (·.frame)) h₀ g' → Fr g' L h' m → News g' L h' (foot' ++ rest) → Q v { s with heap := h', toks := tk' }) :
    wpAny (model PySem.Challenge.rw_qz0154_01.row.prog w) (ktrTop dp un gd cn cs L a ccd cl outer) (call (.ref f) vs) Q E s :=
  C mean mg mb dp un gd cn cs a ccd cl outer A₀ base h₀ L m s Q E rest B F X N OR T XB TB KD hk hd hu hret
end
theorem leaveT_ {fs : List Addr} {h₀ g : Heap} {L L' : Addr} {m m' : Str → Option Value} {news' : Led} {R : Result → Shared → Prop} {v : Value} {s' : Shared} (F' : Fr g L' s'.heap m') (N' : News g L' s'.heap news')
    (k : Fr h₀ L s'.heap m → News h₀ L s'.heap news' → R (.ok (.ret v)) s') : LeaveT fs [] h₀ L m g R v s' :=
  ⟨g, L', m', news', KtsTurn.refl, F', N', fun _ T1 F1 N1 => have z := turn_nil T1 F1 N1; k z.1 z.2⟩
section
variable {w : World} {D U : Nat} {f : Addr} {vs : List Value} {led : Led} {post : Value → Led → Prop} {name qual : Str} {params : Arguments} {body : List Stmt} {scope : Scope} {dV kV doc pm cdv ct oc : Value} {an od : Option Addr} {osl : Array (Option Value)} {binds : List (Str × Value)}
def LeavesT (fs : List Addr) (h₀ : Heap) (post : Value → Led → Prop) (rest : Led) (gS : Array GenState) (dS : Drawn) (oS : OsState) (Q : Flow → Shared → Prop) : Prop :=
  ∀ v foot' g' L' h' tk' {m' : Str → Option Value}, post v foot' → OwnOff rest (foot'.map (·.1)) → KtsTurn fs h₀ g' → Fr g' L' h' m' → News g' L' h' (foot' ++ rest) → Q (.ret v) ⟨h', gS, dS, tk', oS⟩
theorem spd_enter
    (ho : (hd.heap_1 w.params).lookup f = some ⟨oc, od, .func (fnOf name qual params body scope dV kV doc pm an cdv ct), osl⟩) (hcd : codeIn (hd.heap_1 w.params) cdv qual = true)
    (hbind : ∀ s : Shared, (hd.heap_1 w.params).In s.heap → BindsTo s (fnOf name qual params body scope dV kV doc pm an cdv ct) ⟨vs, []⟩ binds) (hkind : (binds.all fun y => scope.names.lookup y.1 == some .local || scope.names.lookup y.1 == some .cell) = true)
    (hnd : ((cellsFrom 0 scope.names []).map (·.1)).Nodup)
    (hco : scope.isCoroutine = false) (hgen : scope.isGenerator = false) (hk : scope.kind = .function)
    (H : ∀ (mean : ExcName → Option Value) (mg mb : Str → Option Value) (dp un : Nat) (gd : Option (List Code)) (e0 : Env) (A₀ : Around) (base h₀ : Heap) (L : Addr) (hS : Heap) (gS : Array GenState) (dS : Drawn) (kS : Nat) (oS : OsState) (Q : Flow → Shared → Prop) (E : Value → Shared → Prop) (rest cells : Led),
      Below A₀ base [e0] h₀ → Fr h₀ L hS (bindL (envX qual scope L f cdv (cellsFrom (L + 1) scope.names [])).kindOf binds fun _ => none) → (hd.heap_1 w.params).In h₀ → News h₀ L hS (cells ++ (led ++ rest)) →
      CellsAre (bindC (envX qual scope L f cdv (cellsFrom (L + 1) scope.names [])).kindOf binds fun _ => none) (cellsFrom (L + 1) scope.names []) cells → OwnOff rest (led.map (·.1)) →
      Top hd.view_39 (looseW hd.view_39 [Str.ofString "GateError", Str.ofString "HashMap"]) mean mg mb h₀ → (hd.heap_1 w.params).In base → Top hd.view_39 (looseW hd.view_39 [Str.ofString "GateError", Str.ofString "HashMap"]) mean mg mb base → KtsDicts ([e0].filterMap (·.frame)) h₀ →
      dp + D < recursionLimit → un + U < cLine → (∀ p ∈ led ++ rest, p.1 < L) → LeavesT ([e0].filterMap (·.frame)) h₀ post rest gS dS oS Q →
      wpS (model PySem.Challenge.rw_qz0154_01.row.prog w) (ktrTop dp un gd qual scope L f cdv (cellsFrom (L + 1) scope.names []) [e0]) (execs body (envX qual scope L f cdv (cellsFrom (L + 1) scope.names []))) Q E ⟨hS, gS, dS, kS, oS⟩) :
    SpD w (D + 1) (U + 3) f vs led post := by
  intro mean mg mb dp un gd cn cs a ccd cl A₀ base h₀ L m s Q E rest B F X N OR T XB TB hks hd hu hret
  refine wpS_call (codeS_defCT B F X N T rfl rfl hks ho hcd (Nat.lt_of_le_of_lt (Nat.le_add_right _ _) hd) (hbind _ (X.keeps F.keep)) hkind hnd (fun g L' h₁ tk cells FG F' N' Y B' X' T' KD l1 => ?_) hco hgen hk)
  exact H mean mg mb (dp + 1) (un + 3) gd (envX cn cs L a ccd cl) _ base g L' h₁ s.gens s.drawn tk s.os _ _ rest cells B' F' X' N' Y OR T' XB TB KD (omN18 hd) (omN18 hu) l1
    (fun v foot' g' L2 h' tk' m' hp ho T2 F2 N2 => ⟨g', L2, m', foot' ++ rest, T2, F2, N2, fun h₂ T3 F3 N3 => have z := turn_nil T3 F3 N3; hret v foot' _ _ hp ho z.1 z.2⟩)
end
theorem deed_fin {P : Addr} {c : Int} {lp lt lw rest : Led} (hP : PenIs P c lp) (a : OwnOff (lt ++ (lp ++ rest)) (lw.map (·.1))) (b : OwnOff (lp ++ rest) (lt.map (·.1))) (d : OwnOff rest [P]) :
    OwnOff lw (lt.map (·.1)) ∧ OwnOff (lt ++ lw) [P] ∧ OwnOff rest ((lp ++ (lt ++ lw)).map (·.1)) := by
  have hp := penIs_addr hP
  have mp : ∃ q ∈ lp, q.1 = P := by
    have : P ∈ lp.map (·.1) := by rw [hp]; exact .head _
    obtain ⟨q, hq, e⟩ := List.mem_map.mp this
    exact ⟨q, hq, e⟩
  obtain ⟨q, hq, eq⟩ := mp
  refine ⟨fun p h x hx e => ?_, fun p h x hx e => ?_, fun p h x hx e => ?_⟩
  · obtain ⟨r, hr, rfl⟩ := List.mem_map.mp hx
    exact a r (List.mem_append_left _ hr) _ (List.mem_map.mpr ⟨p, h, rfl⟩) e.symm
  · rw [List.mem_singleton.mp hx, ← eq] at e
    rcases List.mem_append.mp h with h | h
    · exact b q (List.mem_append_left _ hq) _ (List.mem_map.mpr ⟨p, h, rfl⟩) e.symm
    · exact a q (List.mem_append_right _ (List.mem_append_left _ hq)) _ (List.mem_map.mpr ⟨p, h, rfl⟩) e.symm
  · rw [List.map_append, List.map_append] at hx
    rcases List.mem_append.mp hx with hx | hx
    · rw [hp] at hx; exact d p h x hx e
    rcases List.mem_append.mp hx with hx | hx
    · exact b p (List.mem_append_right _ h) x hx e
    · exact a p (List.mem_append_right _ (List.mem_append_right _ h)) x hx e
inductive DeedPost (w : World) (P Wa : Addr) (c : Int) (v : Value) (led' : Led) : Prop
  | mk (e1 : v = .bool true) (M' : _) (σ' : _) (ω' : _) (c' : _) (lp' : _) (lt' : _) (lw' : _) (e2 : led' = lp' ++ (lt' ++ lw')) (e3 : PenIs P c' lp') (e4 : c ≤ c') (e5 : c' ≤ c + 13) (e6 : TabIs w M' σ' lt') (e7 : WIs w Wa M' ω' lw') (e8 : GInv σ' ω') (e9 : OwnOff lw' (lt'.map (·.1))) (e10 : OwnOff (lt' ++ lw') [P])
theorem deed_own {g h' : Heap} {L' C P : Addr} {oC : Obj} {c : Int} {lp lt lw rest : Led} (_ : News g L' h' ((C, oC) :: (lp ++ (lt ++ (lw ++ rest))))) (l1 : ∀ p ∈ lp ++ (lt ++ (lw ++ rest)), p.1 < L') (hC : L' ≤ C) (hP : PenIs P c lp) (DP : OwnOff (lt ++ lw) [P]) (OR : OwnOff rest ((lp ++ (lt ++ lw)).map (·.1))) :
    OwnOff ((C, oC) :: (lt ++ (lw ++ rest))) (lp.map (·.1)) := by
  intro p hp b hb
  have hb' : b ∈ [P] := by rw [← penIs_addr hP]; exact hb
  obtain ⟨q, hq, rfl⟩ := List.mem_map.mp hb
  simp only [List.mem_cons, List.mem_append] at hp
  rcases hp with h | h | h | h
  · subst h; exact Ne.symm (Nat.ne_of_lt (Nat.lt_of_lt_of_le (l1 q (List.mem_append_left _ hq)) hC))
  · exact DP p (List.mem_append_left _ h) _ hb'
  · exact DP p (List.mem_append_right _ h) _ hb'
  · exact OR p h _ (by rw [List.map_append]; exact List.mem_append_left _ hb)
theorem news_tl {h₀ h : Heap} {L : Addr} {a : Addr × Obj} {l : Led} (N : News h₀ L h (a :: l)) : News h₀ L h l := fun p hp => N p (.tail _ hp)
theorem deed_ownw {g h' : Heap} {L' C P : Addr} {oC : Obj} {c : Int} {lp lp0 lt lw rest : Led} (_ : News g L' h' (lp ++ ((C, oC) :: (lt ++ (lw ++ rest))))) (l1 : ∀ p ∈ lp0 ++ (lt ++ (lw ++ rest)), p.1 < L') (hC : L' ≤ C) (hP : PenIs P c lp) (Dj : OwnOff lw (lt.map (·.1))) (DP : OwnOff (lt ++ lw) [P]) (OR : OwnOff rest ((lp0 ++ (lt ++ lw)).map (·.1))) :
    OwnOff (lp ++ ((C, oC) :: (lt ++ rest))) (lw.map (·.1)) := by
  intro p hp b hb
  obtain ⟨q, hq, rfl⟩ := List.mem_map.mp hb
  simp only [List.mem_cons, List.mem_append] at hp
  rcases hp with h | h | h | h
  · have : p.1 ∈ lp.map (·.1) := List.mem_map.mpr ⟨p, h, rfl⟩
    rw [penIs_addr hP] at this
    rw [List.mem_singleton.mp this]
    exact Ne.symm (DP q (List.mem_append_right _ hq) P (by simp))
  · subst h
    exact Ne.symm (Nat.ne_of_lt (Nat.lt_of_lt_of_le (l1 q (by simp [hq])) hC))
  · exact Ne.symm (Dj q hq _ (List.mem_map.mpr ⟨p, h, rfl⟩))
  · exact OR p h _ (by rw [List.map_append, List.map_append]; exact List.mem_append_right _ (List.mem_append_right _ hb))
theorem deed_ownt {g h' : Heap} {L' C P : Addr} {oC : Obj} {c : Int} {lp lp0 lt lw rest : Led} (_ : News g L' h' (lw ++ (lp ++ ((C, oC) :: (lt ++ rest))))) (l1 : ∀ p ∈ lp0 ++ (lt ++ (lw ++ rest)), p.1 < L') (hC : L' ≤ C) (hP : PenIs P c lp) (Dj : OwnOff lw (lt.map (·.1))) (DP : OwnOff (lt ++ lw) [P]) (OR : OwnOff rest ((lp0 ++ (lt ++ lw)).map (·.1))) :
    OwnOff (lw ++ (lp ++ ((C, oC) :: rest))) (lt.map (·.1)) := by
  intro p hp b hb
  obtain ⟨q, hq, rfl⟩ := List.mem_map.mp hb
  simp only [List.mem_cons, List.mem_append] at hp
  rcases hp with h | h | h | h
  · exact Dj p h _ hb
  · have : p.1 ∈ lp.map (·.1) := List.mem_map.mpr ⟨p, h, rfl⟩
    rw [penIs_addr hP] at this
    rw [List.mem_singleton.mp this]
    exact Ne.symm (DP q (List.mem_append_left _ hq) P (by simp))
  · subst h
    exact Ne.symm (Nat.ne_of_lt (Nat.lt_of_lt_of_le (l1 q (by simp [hq])) hC))
  · exact OR p h _ (by rw [List.map_append, List.map_append]; exact List.mem_append_right _ (List.mem_append_left _ hb))
theorem own_sw {lt lw r r' : Led} (a : OwnOff (lw ++ r) (lt.map (·.1))) (b : OwnOff r' (lw.map (·.1))) (hs : ∀ p ∈ r, p ∈ r') : OwnOff (lt ++ r) (lw.map (·.1)) := fun p hp x hx e => by
  rcases List.mem_append.mp hp with h | h
  · obtain ⟨q, hq, rfl⟩ := List.mem_map.mp hx
    exact a q (List.mem_append_left _ hq) _ (List.mem_map.mpr ⟨p, h, rfl⟩) e.symm
  · exact b p (hs p h) x hx e
theorem own_mono {l l' : Led} {as : List Addr} (a : OwnOff l as) (hs : ∀ p ∈ l', p ∈ l) : OwnOff l' as := fun p hp => a p (hs p hp)
theorem deed_all {w : World} {P Wa M' : Addr} {σ' : Tb} {ω' : Wd} {c c2 : Int} {x : Addr × Obj} {lp lp0 lt lw rest l0 : Led} (hP : PenIs P c2 lp) (hc0 : c ≤ c2) (hc1 : c2 ≤ c + 13) (T' : TabIs w M' σ' lt) (W' : WIs w Wa M' ω' lw) (G' : GInv σ' ω')
    (a : OwnOff (lt ++ (lp ++ (x :: rest))) (lw.map (·.1))) (b : OwnOff (lp ++ (x :: rest)) (lt.map (·.1))) (hP0 : PenIs P c lp0) (d : OwnOff rest ((lp0 ++ l0).map (·.1))) :
    DeedPost w P Wa c (.bool true) (lp ++ (lt ++ lw)) ∧ OwnOff rest ((lp ++ (lt ++ lw)).map (·.1)) := by
  have d' : OwnOff rest [P] := fun p hp y hy => d p hp y (by rw [List.map_append, penIs_addr hP0]; exact List.mem_append_left _ hy)
  obtain ⟨q1, q2, q3⟩ := deed_fin hP (own_mono a (fun p hp => by
    rcases List.mem_append.mp hp with h | h
    · exact List.mem_append_left _ h
    · rcases List.mem_append.mp h with h | h
      · exact List.mem_append_right _ (List.mem_append_left _ h)
      · exact List.mem_append_right _ (List.mem_append_right _ (.tail _ h)))) (own_mono b (fun p hp => by
    rcases List.mem_append.mp hp with h | h
    · exact List.mem_append_left _ h
    · exact List.mem_append_right _ (.tail _ h))) d'
  exact ⟨⟨rfl, M', σ', ω', c2, lp, lt, lw, rfl, hP, hc0, hc1, T', W', G', q1, q2⟩, q3⟩
theorem eld_step {w : World} {σ : Tb} {ω : Wd} (G : GInv σ ω) (Wa M : Addr) (lt lw : Led) (hT : TabIs w M σ lt) (hW : WIs w Wa M ω lw) (Dj : OwnOff lw (lt.map (·.1))) :
    SpT w 20 400 566 [.ref Wa] (lt ++ lw) (fun v led' => v = .bool true ∧ ∃ l2, led' = l2 ++ lw ∧ TabIs w M σ l2 ∧ OwnOff lw (l2.map (·.1))) := by
  have hrl := G.rlen
  have hb7 := G.b7
  have ho := G.ho
  cases hr : ω.rows with
  | nil => exact eldr_none w Wa M σ ω lt lw hT hW Dj hr (by rw [ho, hr]; rfl)
  | cons p r =>
    intro mean mg mb dp un gd cn cs a ccd cl outer A₀ base h₀ L m s Q E rest B F X N OR T XB TB KD hk hd hu hret
    exact spt_of (eldr_some w Wa M σ ω lt lw hT hW Dj p.1 p.2 r hr (r.map (·.2)) (by rw [ho, hr]; rfl) (by omega)) mean mg mb dp un gd cn cs a ccd cl outer A₀ base h₀ L m s Q E rest B F X N OR T XB TB KD hk (by omega) (by omega) hret
theorem own_l {l a b : Led} (h : OwnOff l ((a ++ b).map (·.1))) : OwnOff l (a.map (·.1)) := fun p hp x hx => h p hp x (by rw [List.map_append]; exact List.mem_append_left _ hx)
theorem own_r {l a b : Led} (h : OwnOff l ((a ++ b).map (·.1))) : OwnOff l (b.map (·.1)) := fun p hp x hx => h p hp x (by rw [List.map_append]; exact List.mem_append_right _ hx)
theorem oct_own {P I C D : Addr} {oI oC oD : Obj} {c : Int} {lp base : Led} (hP : PenIs P c lp) (off : LCg.Off3 I C D (lp ++ base)) (hO : OwnOff base [P]) : OwnOff ((I, oI) :: (C, oC) :: (D, oD) :: base) (lp.map (·.1)) := by
  intro p hp b hb
  have hb' := hb
  rw [penIs_addr hP] at hb'
  obtain ⟨q, hq, rfl⟩ := List.mem_map.mp hb
  have z := off3_mem off q (List.mem_append_left _ hq)
  rcases List.mem_cons.mp hp with h | hp
  · subst h; exact Ne.symm z.1
  rcases List.mem_cons.mp hp with h | hp
  · subst h; exact Ne.symm z.2.1
  rcases List.mem_cons.mp hp with h | hp
  · subst h; exact Ne.symm z.2.2
  · exact hO p hp _ hb'
theorem deed_rot {h₀ h : Heap} {L : Addr} {x : Addr × Obj} {lp lt lw rest : Led} (N : News h₀ L h (lw ++ (lp ++ (x :: (lt ++ rest))))) : News h₀ L h (lp ++ (x :: (lt ++ (lw ++ rest)))) := news_sub N (by walk_at "mine sub")
theorem deed_base {P : Addr} {c : Int} {lp base : Led} (O : OwnOff base (lp.map (·.1))) (hP : PenIs P c lp) : OwnOff base [P] := by rw [← penIs_addr hP]; exact O
theorem pick_use {w : World} {P S : Addr} {c : Int} {lp : Led} (h : PenIs P c lp) (hc2 : c ≤ 1000) (e5 : Nat) (vs : List Value) (hi : IntsAre vs [0, 0, 1, 2, 3]) (hPS : Df P S) :
    Sp w 5 60 525 [.ref P, .ref S] (lp ++ [(S, W.listOf vs.toArray e5)]) (fun v led' => ∃ f t, v = .int f t ∧ 0 ≤ f ∧ f ≤ 3 ∧ ∃ c' l, PenIs P c' l ∧ c ≤ c' ∧ c' ≤ c + 1 ∧ led' = l) := by
  obtain ⟨n, t0, t1, e, rfl, h1, h2⟩ := h
  exact pick_sp w P S n c t0 t1 e e5 h1 h2 hc2 vs hi hPS
section
variable {w : World} {mean : ExcName → Option Value} {mg mb : Str → Option Value} {dp un : Nat} {gd : Option (List Code)} {cn : Str} {cs : Scope} {a : Addr} {ccd : Value} {cl : List (Str × Addr)} {outer : List Env} {A₀ : Around} {base h₀ : Heap} {L P : Addr} {m : Str → Option Value} {s : Shared} {Q E : Value → Shared → Prop} {lp led rest : Led}
theorem pick_go {S : Addr} {c : Int} (h : PenIs P c lp) (hc2 : c ≤ 1000) (e5 : Nat) (vs : List Value) (hi : IntsAre vs [0, 0, 1, 2, 3]) (hPS : Df P S) (B : Below A₀ base outer h₀) (F : Fr h₀ L s.heap m) (X : (Mine.hd.heap_1 w.params).In h₀) (N : News h₀ L s.heap ((lp ++ [(S, W.listOf vs.toArray e5)]) ++ rest)) (OR : OwnOff rest (((lp ++ [(S, W.listOf vs.toArray e5)])).map (·.1)))
    (T : Top Mine.hd.view_39 (looseW Mine.hd.view_39 [Str.ofString "GateError", Str.ofString "HashMap"]) mean mg mb h₀) (hk : cs.kind = .function) (hd : dp + 5 < recursionLimit) (hu : un + 60 < cLine)
    (hret : ∀ f t c' l h' tk', 0 ≤ f → f ≤ 3 → PenIs P c' l → c ≤ c' → c' ≤ c + 1 → OwnOff rest (l.map (·.1)) → Fr h₀ L h' m → News h₀ L h' (l ++ rest) → Q (.int f t) { s with heap := h', toks := tk' }) :
    wpAny (model PySem.Challenge.rw_qz0154_01.row.prog w) (ktrTop dp un gd cn cs L a ccd cl outer) (call (.ref 525) [.ref P, .ref S]) Q E s :=
  sp_use (pick_use h hc2 e5 vs hi hPS) B F X N OR T hk hd hu fun v l h' tk' p O' F' N' => by
    obtain ⟨f, t, rfl, f0, f1, c', l2, p', c0, c1, rfl⟩ := p
    exact hret f t c' _ h' tk' f0 f1 p' c0 c1 O' F' N'
end
theorem pick_rot {h₀ h : Heap} {L : Addr} {s d : Addr × Obj} {lp r : Led} (N : News h₀ L h (s :: d :: (lp ++ r))) : News h₀ L h ((lp ++ [s]) ++ r) := news_sub N (by walk_at "mine sub")
theorem pick_own {P S : Addr} {o : Obj} {c : Int} {lp r : Led} (hP : PenIs P c lp) (hO : OwnOff r [P]) (l1 : AllLt S (lp ++ r)) : Df P S ∧ OwnOff r ((lp ++ [(S, o)]).map (·.1)) := by
  have mp : P ∈ lp.map (·.1) := by rw [penIs_addr hP]; exact .head _
  obtain ⟨q, hq, eq⟩ := List.mem_map.mp mp
  refine ⟨by rw [← eq]; exact Nat.ne_of_lt (allLt_mem l1 q (List.mem_append_left _ hq)), fun p hp b hb => ?_⟩
  rw [List.map_append, penIs_addr hP] at hb
  rcases List.mem_append.mp hb with hb | hb
  · exact hO p hp b hb
  · rw [List.mem_singleton.mp hb]
    exact Nat.ne_of_lt (allLt_mem l1 p (List.mem_append_right _ hp))
theorem deed_rot2 {h₀ h : Heap} {L : Addr} {x : Addr × Obj} {lp lt lw rest : Led} (N : News h₀ L h (lp ++ (x :: (lt ++ (lw ++ rest))))) : News h₀ L h (lw ++ (lp ++ (x :: (lt ++ rest)))) := news_sub N (by walk_at "mine sub")
theorem news_tl9 {h₀ h : Heap} {L : Addr} {x : Addr × Obj} {lp lt lw rest : Led} (N : News h₀ L h (lw ++ (lp ++ (x :: (lt ++ rest))))) : News h₀ L h (lp ++ (x :: (lt ++ (lw ++ rest)))) := deed_rot N
theorem sp_mono9 {w : World} {D U : Nat} {f : Addr} {vs : List Value} {foot : Led} {post post' : Value → Led → Prop} (C : Sp w D U f vs foot post) (h : ∀ v l, post v l → post' v l) : Sp w D U f vs foot post' :=
  fun mean mg mb dp un gd cn cs a ccd cl outer A₀ base h₀ L m s Q E rest B F X N OR T hk hd hu hret => C mean mg mb dp un gd cn cs a ccd cl outer A₀ base h₀ L m s Q E rest B F X N OR T hk hd hu fun v l h' tk' q => hret v l h' tk' (h v l q)
theorem setmap {w : World} {A : Around} {E : Value → Shared → Prop} {s : Shared} {h₀ : Heap} {L Wa M M2 : Addr} {m : Str → Option Value} {ω : Wd} {lw rest : Led} {tk : Tok} {Q : Unit → Shared → Prop} (hW : WIs w Wa M ω lw) (F : Fr h₀ L s.heap m) (N : News h₀ L s.heap (lw ++ rest)) (O : OwnOff rest (lw.map (·.1)))
    (h : ∀ lw' h', WIs w Wa M2 ω lw' → lw'.map (·.1) = lw.map (·.1) → Fr h₀ L h' m → News h₀ L h' (lw' ++ rest) → Q () { s with heap := h', toks := s.toks + 1 }) :
    wpAny (model PySem.Challenge.rw_qz0154_01.row.prog w) A (setItem (.ref Wa) (.str (Str.ofString "map") tk) (.ref M2)) Q E s := by
  cases hW with
  | mk hW hR hD rD off d1 d2 d3 lW lD =>
    dsimp only [List.cons_append] at N
    refine kda_set (knd := PySem.strKind _ _) F N (.head fun p hp => ?_) hW (strKind_is _ _ _ _) (by rw [wkv_len, sizeLine_eq]; omega) fun h' o' F' N' hd' => h ((Wa, o') :: _) h' (WIs.mk (M := M2) (oW := o') (wkv_setmap M2 ▸ hd') hR hD rD off d1 d2 d3 lW lD) rfl F' N'
    rcases List.mem_cons.mp hp with h | hp
    · subst h; exact d1.out'
    rcases List.mem_cons.mp hp with h | hp
    · subst h; exact d2.out'
    rcases List.mem_append.mp hp with hp | hp
    · exact off p hp _ (.head _)
    · exact O p hp _ (.head _)
inductive LookAny (w : World) (σ : Tb) (ω : Wd) (key : By) : Prop
  | mk (σ' : Tb) (ω' : Wd) (G : GInv σ' ω') (ek : ω'.kw = ω.kw) (ev : ω'.vw = ω.vw) (CL : ∀ M lt tb, TabIs w M σ lt → Sp w 4 40 333 [.ref M, .bytes key tb] lt (fun v l => v.onHeap = false ∧ TabIs w M σ' l))
theorem look_any {w : World} {σ : Tb} {ω : Wd} (G : GInv σ ω) {key : By} (hk : (key.size : Int) = ω.kw) : LookAny w σ ω key := by
  have hb := G.b3
  have hb7 := G.b7
  have hrl := G.rlen
  have hkσ : (key.size : Int) = σ.kw := by rw [← G.k1]; exact hk
  by_cases hin : key ∈ ω.rows.map (·.1)
  · obtain ⟨r, hr, e⟩ := List.mem_map.mp hin
    obtain ⟨i, hi⟩ := List.getElem?_of_mem hr
    obtain ⟨k', n⟩ := r
    dsimp only at e
    subst e
    exact ⟨_, _, tr_touch G hi, rfl, rfl, fun M lt tb hT => sp_mono9 (lookup_some w M σ lt hT k' tb hkσ (by omega) G.kn n (G.found hr) (by rw [G.ho, List.length_map]; omega)) fun v l q => ⟨by obtain ⟨⟨t, rfl⟩, _⟩ := q; rfl, q.2⟩⟩
  · exact ⟨σ, ω, G, rfl, rfl, fun M lt tb hT => sp_mono9 (lookup_none w M σ lt hT key tb hkσ (by omega) G.kn (G.lost hin)) fun v l q => ⟨by rw [q.1]; rfl, q.2⟩⟩
theorem deed_sub {lp lt rest : Led} {x : Addr × Obj} : ∀ p ∈ lp ++ (x :: rest), p ∈ lp ++ (x :: (lt ++ rest)) := by walk_at "mine sub"
section
variable {w : World} {mean : ExcName → Option Value} {mg mb : Str → Option Value} {dp un : Nat} {gd : Option (List Code)} {cn : Str} {cs : Scope} {a : Addr} {ccd : Value} {cl : List (Str × Addr)} {outer : List Env} {A₀ : Around} {base h₀ : Heap} {L : Addr} {m : Str → Option Value} {s : Shared} {Q E : Value → Shared → Prop} {D U : Nat} {f : Addr} {vs : List Value} {n : Int} {foot rest : Led} {P : Led → Prop}
theorem sp_intP (C : Sp w D U f vs foot (fun v l => (∃ t, v = .int n t) ∧ P l)) (B : Below A₀ base outer h₀) (F : Fr h₀ L s.heap m) (X : (Mine.hd.heap_1 w.params).In h₀) (N : News h₀ L s.heap (foot ++ rest)) (O : OwnOff rest (foot.map (·.1)))
    (T : Top Mine.hd.view_39 (looseW Mine.hd.view_39 [Str.ofString "GateError", Str.ofString "HashMap"]) mean mg mb h₀) (hk : cs.kind = .function) (hd : dp + D < recursionLimit) (hu : un + U < cLine)
    (hret : ∀ t foot' h' tk', P foot' → OwnOff rest (foot'.map (·.1)) → Fr h₀ L h' m → News h₀ L h' (foot' ++ rest) → Q (.int n t) { s with heap := h', toks := tk' }) :
    wpAny (model PySem.Challenge.rw_qz0154_01.row.prog w) (ktrTop dp un gd cn cs L a ccd cl outer) (call (.ref f) vs) Q E s :=
  sp_use C B F X N O T hk hd hu fun v l h' tk' q O' F' N' => by
    obtain ⟨⟨t, rfl⟩, p⟩ := q
    exact hret t l h' tk' p O' F' N'
theorem sp_valP {x : Value} (C : Sp w D U f vs foot (fun v l => v = x ∧ P l)) (B : Below A₀ base outer h₀) (F : Fr h₀ L s.heap m) (X : (Mine.hd.heap_1 w.params).In h₀) (N : News h₀ L s.heap (foot ++ rest)) (O : OwnOff rest (foot.map (·.1)))
    (T : Top Mine.hd.view_39 (looseW Mine.hd.view_39 [Str.ofString "GateError", Str.ofString "HashMap"]) mean mg mb h₀) (hk : cs.kind = .function) (hd : dp + D < recursionLimit) (hu : un + U < cLine)
    (hret : ∀ foot' h' tk', P foot' → OwnOff rest (foot'.map (·.1)) → Fr h₀ L h' m → News h₀ L h' (foot' ++ rest) → Q x { s with heap := h', toks := tk' }) :
    wpAny (model PySem.Challenge.rw_qz0154_01.row.prog w) (ktrTop dp un gd cn cs L a ccd cl outer) (call (.ref f) vs) Q E s :=
  sp_use C B F X N O T hk hd hu fun v l h' tk' q O' F' N' => by
    obtain ⟨rfl, p⟩ := q
    exact hret l h' tk' p O' F' N'
theorem sps_intP (C : SpS w D U f vs foot (fun v l => (∃ t, v = .int n t) ∧ P l)) (B : Below A₀ base outer h₀) (F : Fr h₀ L s.heap m) (X : (Mine.hd.heap_1 w.params).In h₀) (N : News h₀ L s.heap (foot ++ rest)) (O : OwnOff rest (foot.map (·.1)))
    (T : Top Mine.hd.view_39 (looseW Mine.hd.view_39 [Str.ofString "GateError", Str.ofString "HashMap"]) mean mg mb h₀) (hk : cs.kind = .function) (hd : dp + D < recursionLimit) (hu : un + U < cLine)
    (hret : ∀ t foot' h' tk', P foot' → OwnOff rest (foot'.map (·.1)) → Fr h₀ L h' m → News h₀ L h' (foot' ++ rest) → Q (.int n t) { s with heap := h', toks := tk' }) :
    wpS (model PySem.Challenge.rw_qz0154_01.row.prog w) (ktrTop dp un gd cn cs L a ccd cl outer) (call (.ref f) vs) Q E s :=
  sps_use C B F X N O T hk hd hu fun v l h' tk' q O' F' N' => by
    obtain ⟨⟨t, rfl⟩, p⟩ := q
    exact hret t l h' tk' p O' F' N'
end
theorem own_eqA {l l' : Led} {as : List Addr} (e : l'.map (·.1) = l.map (·.1)) (h : OwnOff l as) : OwnOff l' as := fun p hp b hb => by
  have : p.1 ∈ l.map (·.1) := e ▸ List.mem_map.mpr ⟨p, hp, rfl⟩
  obtain ⟨q, hq, eq⟩ := List.mem_map.mp this
  exact eq ▸ h q hq b hb
theorem copy_own {lt l2 lw lw' r : Led} (O2 : OwnOff lt (l2.map (·.1))) (OT : OwnOff (lw ++ r) ((l2 ++ lt).map (·.1))) (e : lw'.map (·.1) = lw.map (·.1)) : OwnOff (l2 ++ (lw' ++ r)) (lt.map (·.1)) := fun p hp x hx q => by
  rcases List.mem_append.mp hp with h | h
  · obtain ⟨y, hy, rfl⟩ := List.mem_map.mp hx
    exact O2 y hy _ (List.mem_map.mpr ⟨p, h, rfl⟩) q.symm
  rcases List.mem_append.mp h with h | h
  · exact own_eqA e (own_mono (own_r OT) (fun p hp => List.mem_append_left _ hp)) p h x hx q
  · exact own_r OT p (List.mem_append_right _ h) x hx q
end
section
theorem deed_sp (w : World) (P Wa M : Addr) (σ : Tb) (ω : Wd) (c : Int) (lp lt lw : Led) (hP : PenIs P c lp) (hT : TabIs w M σ lt) (hW : WIs w Wa M ω lw) (G : GInv σ ω) (Dj : OwnOff lw (lt.map (·.1))) (DP : OwnOff (lt ++ lw) [P]) (hc : c ≤ 900) :
    SpD w 30 600 571 [.ref P, .ref Wa] (lp ++ (lt ++ lw)) (DeedPost w P Wa c) := by
  obtain ⟨oW, Rw, Dw, t0, t1, t2, t3, mW, hW9⟩ := hW.inst
  obtain ⟨Md, V, Bk, K, O, hh, tt, n, hM, hMd, VA, KA, OA⟩ := TabIs.inst hT
  k_fill
  walk_at "mine spd"
  intro mean mg mb dp un gd e0 A₀ base h₀ L hpS gS dS kS oS Q E rest cells B F X N Y OR T XB TB KD hd hu l1 hret
  simp only [List.append_assoc] at N l1
  (try k_lt l1)
  k_cells Y
  (try dsimp only [List.cons_append, List.nil_append] at N)
  rename ∀ p ∈ lp ++ _, _ => l1
  rename News _ _ _ (_ :: (lp ++ _)) => N1
  have OP : OwnOff (_ :: (lt ++ (lw ++ rest))) (lp.map (·.1)) := deed_own N1 l1 (Nat.le_add_right _ 1) hP DP OR
  refine wpS_execs_any ?_
  repeat' ((fail_if_success (with_reducible show wpAny _ _ (call (Value.ref 518) _ _) _ _ _)); (first | (k_unfold; (try dsimp only)) | walk1 | (dsimp only; walk1) | (dsimp only; k_unfold; (try dsimp only)) | fail "no step"))
  refine' draw_go hP (by omega) 8 _ (by decide) (by decide) ?B ?F ?X ?N ?O ?T ?hk ?hd ?hu ?_
  case O => exact OP
  walk_at "mine callR"
  intro kind tk2 c1 lp1 h1 tk1 kd0 kd1 hP1 c10 c11 OP1 F1 N2
  clear OP
  (try dsimp only)
  (try k_fold)
  repeat' ((fail_if_success (with_reducible show wpAny _ _ (call (Value.ref 518) _ _) _ _ _)); (first | (k_unfold; (try dsimp only)) | walk1 | (dsimp only; walk1) | (dsimp only; k_unfold; (try dsimp only)) | fail "no step"))
  have b7 := G.b7
  have b6 := G.b6
  refine' draw_go hP1 (by omega) _ _ ?z1 ?z2 ?B ?F ?X ?N ?O ?T ?hk ?hd ?hu ?_
  case O => exact OP1
  case z1 => omega
  case z2 => omega
  walk_at "mine callR"
  intro number tk3 c2 lp2 h2 tk2 nd0 nd1 hP2 c20 c21 OP2 F2 N3
  clear OP1 hP1 N2 F1
  (try dsimp only)
  (try k_fold)
  walk_at "mine steps"
  (try dsimp only)
  refine wpS_execs_any ?_
  repeat' ((fail_if_success (with_reducible show wpAny _ _ (call (Value.ref 530) _ _) _ _ _)); (first | (k_unfold; (try dsimp only)) | walk1 | (dsimp only; walk1) | (dsimp only; k_unfold; (try dsimp only)) | fail "no step"))
  rename News _ _ _ (_ :: (lp2 ++ _)) => N4
  have OW := deed_ownw (news_tl N4) l1 (Nat.le_add_right _ 1) hP2 Dj DP OR
  refine' lkey_go hW _ _ ?z1 ?z2 ?B ?F ?X ?N ?O ?T ?hk ?hd ?hu ?_
  case O => exact OW
  case z1 => have := G.b2; omega
  case z2 => have := G.b3; omega
  walk_at "mine callR"
  intro key tk5 h3 tk4 hks F3 N5
  have OW3 := OW
  (try dsimp only)
  (try k_fold)
  walk_at "mine steps"
  (try dsimp only)
  have hc2 : c2 ≤ 902 := omI12 c21 (omI12 c11 hc (by decide) : c1 ≤ 901) (by decide)
  have kc : c ≤ c2 := Int.le_trans c10 c20
  have kb : c2 ≤ c + 2 := omI13 c11 c21 (by decide)
  have kb2 : c2 ≤ c + 13 := omI13 c11 c21 (by decide)
  clear c10 c11 c20 c21
  by_cases k3 : kind < 3
  · refine wpS_execs_cons (wpS_If (wpS_any ?_))
    walk_at "mine steps"
    (try dsimp only)
    refine wpS_execs_any ?_
    walk_at "mine tosrc"
    rename IsRange _ _ _ _ _ _ _ _ => hrg
    rename News _ _ _ (lw ++ _) => N6
    have hb4 := G.b4
    have hb5 := G.b5
    have hrs := range_small (n := ω.vw) (by omega) (by omega)
    have NB : News _ _ _ (lp2 ++ (_ :: (lt ++ (lw ++ rest)))) := deed_rot N6
    have OB := deed_base OP2 hP2
    refine' LCg.CompSrc.range (n := ω.vw.toNat) (by rfl) (by k_asm) NB hrg hrs.1 hrs.2.1 hrs.2.2 ?_
    intro g1
    refine comp_inv (OInv P c2 _) (oinv0 hP2 OB) ?turn ?fin
    case turn =>
      intro i v ys led I oI C oC D m₂ h9 tk9 E9 hi9 hv I9 hC hx F1 N1 off ne K9 hK9
      obtain ⟨c9, lp9, rfl, hP9, c90, c91, hy9, hO9⟩ := I9
      repeat' ((fail_if_success (with_reducible show wpAny _ _ (call (Value.ref 518) _ _) _ _ _)); (first | (k_unfold; (try dsimp only)) | walk1 | (dsimp only; walk1) | (dsimp only; k_unfold; (try dsimp only)) | fail "no step"))
      refine' draw_go hP9 (comp_cap c91 hi9 hb5 hc2 (by decide)) 256 _ (by decide) (by decide) ?B ?F ?X ?N ?O ?T ?hk ?hd ?hu ?_
      case O => exact oct_own (oI := oI) (oC := oC) (oD := LCg.lst ys) hP9 off hO9
      walk_at "mine callR"
      intro d8 t8 c8 lp8 h8 tk8 d80 d81 hP8 c80 c81 O8 F8 N8
      (try dsimp only)
      exact hK9 _ _ (oct_end F8 N8 O8 off hP8 (Int.le_trans c90 c80) (omI14 c91 c81) (fun _ => trivial) hy9 ⟨d80, d81⟩ hO9)
    case fin =>
      intro ys led I9
      obtain ⟨c9, lp9, rfl, hP9, c90, c91, hy9, hO9⟩ := I9
      have ho : OctL ys ω.vw.toNat := hy9
      have hz9 : ω.vw.toNat ≤ 1000 := by omega
      unfold LCg.FinE
      intro D2 h8 tk8 F2 N7 o2
      dsimp only
      repeat' ((fail_if_success (with_reducible show wpAny _ _ (call (Value.type "bytes") _ _) _ _ _)); (first | (k_unfold; (try dsimp only)) | walk1 | (dsimp only; walk1) | (dsimp only; k_unfold; (try dsimp only)) | fail "no step"))
      refine' mi_mkbytes ?F ?N ?h ?m ho ?z ?_
      case F => k_asm
      case N => k_asm
      case h => rfl
      case m => k_mem
      case z => omega
      intro h10 oct t10 tk10 hoz F10 N10
      (try dsimp only)
      (try k_fold)
      walk_at "mine steps"
      (try dsimp only)
      refine wpS_execs_any ?_
      repeat' ((fail_if_success (with_reducible show wpAny _ _ (call (Value.ref 525) _ _) _ _ _)); (first | (k_unfold; (try dsimp only)) | walk1 | (dsimp only; walk1) | (dsimp only; k_unfold; (try dsimp only)) | fail "no step"))
      rename News _ _ _ ((_, W.listOf _ _) :: _) => N11
      rename _ < _ ∧ AllLt _ _ => lS
      have pk := fun o => pick_own (o := o) hP9 hO9 lS.2
      refine' pick_go hP9 (comp_cap2 c91 hb5 (by decide) hc2 (by decide)) _ _ (.cons 0 _ (.cons 0 _ (.cons 1 _ (.cons 2 _ (.cons 3 _ .nil))))) (pk (baObj #[])).1 ?B ?F ?X (pick_rot N11) (pk _).2 ?T ?hk ?hd ?hu ?_
      case B => k_asm
      case F => k_asm
      case X => k_asm
      case T => k_asm
      case hk => first | exact rfl | assumption
      case hd => ktr_room
      case hu => ktr_units
      intro fl t11 c11 l11 h11 tk11 fl0 fl3 hP11 c110 c111 O11 F11 N12
      (try dsimp only)
      (try k_fold)
      walk_at "mine steps"
      (try dsimp only)
      rename News _ _ _ (l11 ++ _) => N13
      have NT := deed_rot2 N13
      have OT := deed_ownt NT l1 (Nat.le_add_right _ 1) hP11 Dj DP OR
      have OW3 := deed_ownw (news_tl9 NT) l1 (Nat.le_add_right _ 1) hP11 Dj DP OR
      have hP2 := hP11
      have kc9 : c ≤ c11 := Int.le_trans kc (Int.le_trans c90 c110)
      have kb9 : c11 ≤ c + 13 := cap_deed kb c91 hb5 c111
      refine wpS_execs_cons (wpS_Return (wpS_Compare1 (wpS_MethodCall ?_)))
      walk_at "mine steps"
      (try dsimp only)
      refine' wpS_callWith_K (K := (Mine.hd.heap_1 w.params)) ?uX ?uk ?_
      case uX => assumption
      case uk => k_is
      walk_at "mine steps"
      obtain ⟨au, σ', ω', G', CT, CW⟩ := upd_step (w := w) G hks (oct := oct) (by omega) fl fl0 fl3
      refine' sps_intP (CT M lt _ _ _ hT) ?B ?F ?X ?N OT ?T ?hk ?hd ?hu ?_
      walk_at "mine callR"
      intro tk7 lt4 h4 tk6 T4 OT4 F4 N7
      (try dsimp only)
      (try k_fold)
      repeat' ((fail_if_success (with_reducible show wpAny _ _ (call (Value.ref 540) _ _) _ _ _)); (first | (k_unfold; (try dsimp only)) | walk1 | (dsimp only; walk1) | (dsimp only; k_unfold; (try dsimp only)) | fail "no step"))
      refine' sp_intP (CW Wa M lw _ _ _ hW) ?B ?F ?X ?N ?O ?T ?hk ?hd ?hu ?_
      case O => exact own_sw OT4 OW3 deed_sub
      walk_at "mine callR"
      intro tk9 lw5 h5 tk8 W5 OW5 F5 N8
      (try dsimp only)
      (try k_fold)
      walk_at "mine steps"
      rw [show (au == au) = true by simp]
      have z := deed_all hP2 (by omega) (by omega) T4 W5 G' OW5 (own_mono OT4 (fun p hp => List.mem_append_right _ hp)) hP OR
      refine' hret _ _ _ _ _ _ z.1 z.2 KtsTurn.refl (by assumption) ?_
      refine' news_sub (by assumption) ?_
      simp only [List.append_assoc]
      walk_at "mine sub"
  by_cases k6 : kind = 6
  · refine wpS_execs_any ?_
    walk_at "mine steps"
    (try dsimp only)
    refine wpS_execs_any ?_
    walk_at "mine steps"
    (try dsimp only)
    refine wpS_execs_any ?_
    walk_at "mine steps"
    (try dsimp only)
    refine wpS_execs_cons (wpS_If (wpS_any ?_))
    walk_at "mine steps"
    (try dsimp only)
    refine wpS_execs_cons (wpS_Assign_Subscript (wpS_MethodCall ?_))
    walk_at "mine steps"
    (try dsimp only)
    refine' wpS_callWith_K0 (K := (Mine.hd.heap_1 w.params)) ?uX ?uk ?_
    case uX => k_in
    case uk => k_is
    refine' sps_copy (copy_step G M lt hT) ?B ?F ?X ?N ?O ?T ?hk ?hd ?hu ?_
    case O => exact deed_ownt (deed_rot2 (deed_rot (by assumption))) l1 (Nat.le_add_right _ 1) hP2 Dj DP OR
    walk_at "mine callR"
    intro M2 l2 h4 tk6 T2 O2 OT4 F4 N7
    (try dsimp only)
    (try k_fold)
    walk_at "mine steps"
    (try dsimp only)
    refine wpS_any ?_
    have OS : OwnOff ((l2 ++ lt) ++ (lp2 ++ (_ :: rest))) (lw.map (·.1)) := own_sw OT4 OW3 deed_sub
    refine' setmap (M2 := M2) (rest := (l2 ++ lt) ++ (lp2 ++ (_ :: rest))) hW ?F ?N OS ?_
    case F => k_asm
    case N =>
      refine' news_sub N7 ?_
      simp only [List.append_assoc]
      walk_at "mine sub"
    intro lw5 h5 W5 eA F5 N8
    obtain ⟨oW', Rw', Dw', t0', t1', t2', t3', mW', hW9'⟩ := W5.inst
    (try dsimp only)
    obtain ⟨σ1, ω1, G1, ekw, evw, CL⟩ := look_any (w := w) G hks
    refine wpS_execs_cons (wpS_Expr (wpS_any ?_))
    repeat' ((fail_if_success (with_reducible show wpAny _ _ (call (Value.ref 333) _ _) _ _ _)); (first | (k_unfold; (try dsimp only)) | walk1 | (dsimp only; walk1) | (dsimp only; k_unfold; (try dsimp only)) | fail "no step"))
    refine' sp_use (CL M lt _ hT) ?B ?F ?X ?N ?O ?T ?hk ?hd ?hu ?_
    case O => exact copy_own O2 OT4 eA
    walk_at "mine callR"
    intro v6 lt6 h6 tk8 p6 OT6 F6 N9
    obtain ⟨hv6, T6⟩ := p6
    (try dsimp only)
    refine ⟨hv6, ?_⟩
    obtain ⟨Md6, V6, B6, K6, Or6, hh6, tt6, n6, hM6, hMd6, VA6, KA6, OA6⟩ := TabIs.inst T6
    refine wpS_execs_cons (wpS_Expr (wpS_MethodCall ?_))
    walk_at "mine steps"
    (try dsimp only)
    refine' wpS_callWith_K (K := (Mine.hd.heap_1 w.params)) ?uX ?uk ?_
    case uX => assumption
    case uk => k_is
    repeat' ((fail_if_success (with_reducible show wpAny _ _ (call (Value.type "bytes") _ _) _ _ _)); (first | (k_unfold; (try dsimp only)) | walk1 | (dsimp only; walk1) | (dsimp only; k_unfold; (try dsimp only)) | fail "no step"))
    have hb4 := G.b4
    have hb5 := G.b5
    refine byn_call (by omega) (by omega) fun t7 k7 => ?_
    (try dsimp only)
    (try k_fold)
    walk_at "mine steps"
    obtain ⟨au, σ2, ω2, G2, CT, _⟩ := upd_step (w := w) G1 (key := key) (oct := Array.replicate ω.vw.toNat 0) (hks.trans ekw.symm) (by rw [Array.size_replicate, evw]; omega) 0 (by decide) (by decide)
    refine' sps_intP (CT M lt6 _ _ _ T6) ?B ?F ?X ?N ?O ?T ?hk ?hd ?hu ?_
    case O => exact OT6
    walk_at "mine callR"
    intro tk10 lt7 h7 tk9 T7 OT7 F7 N10
    (try dsimp only)
    refine ⟨rfl, ?_⟩
    refine wpS_execs_any ?_
    walk_at "mine steps"
    have z := deed_all hP2 (by omega) (by omega) T2 W5 G (eA ▸ own_mono OS (fun p hp => by
      rcases List.mem_append.mp hp with h | h
      · exact List.mem_append_left _ (List.mem_append_left _ h)
      · exact List.mem_append_right _ h)) (own_mono (own_l OT4) (fun p hp => List.mem_append_right _ hp)) hP OR
    refine' hret _ _ _ _ _ _ z.1 z.2 KtsTurn.refl (by assumption) ?_
    refine' news_sub (by assumption) ?_
    simp only [List.append_assoc]
    walk_at "mine sub"
  refine wpS_any ?_
  by_cases k5 : kind = 5
  ·
    repeat' ((fail_if_success (with_reducible show wpAny _ _ (call (Value.ref 390) _ _) _ _ _)); (first | (k_unfold; (try dsimp only)) | walk1 | (dsimp only; walk1) | (dsimp only; k_unfold; (try dsimp only)) | fail "no step"))
    obtain ⟨ad, σ', ω', G', CT, CW⟩ := del_step (w := w) G hks
    rename News _ _ _ (lw ++ _) => N6
    have OT := deed_ownt N6 l1 (Nat.le_add_right _ 1) hP2 Dj DP OR
    refine' sp_intP (CT M lt _ hT) ?B ?F ?X ?N ?O ?T ?hk ?hd ?hu ?_
    case O => exact OT
    walk_at "mine callR"
    intro tk7 lt4 h4 tk6 T4 OT4 F4 N7
    (try dsimp only)
    (try k_fold)
    repeat' ((fail_if_success (with_reducible show wpAny _ _ (call (Value.ref 554) _ _) _ _ _)); (first | (k_unfold; (try dsimp only)) | walk1 | (dsimp only; walk1) | (dsimp only; k_unfold; (try dsimp only)) | fail "no step"))
    refine' sp_intP (CW Wa M lw _ hW) ?B ?F ?X ?N ?O ?T ?hk ?hd ?hu ?_
    case O => exact own_sw OT4 OW3 deed_sub
    walk_at "mine callR"
    intro tk9 lw5 h5 tk8 W5 OW5 F5 N8
    (try dsimp only)
    (try k_fold)
    walk_at "mine steps"
    rw [show (ad == ad) = true by simp]
    have z := deed_all hP2 (by omega) (by omega) T4 W5 G' OW5 (own_mono OT4 (fun p hp => List.mem_append_right _ hp)) hP OR
    refine' hret _ _ _ _ _ _ z.1 z.2 KtsTurn.refl (by assumption) ?_
    refine' news_sub (by assumption) ?_
    simp only [List.append_assoc]
    walk_at "mine sub"
  by_cases k7 : kind = 7
  ·
    repeat' ((fail_if_success (with_reducible show wpAny _ _ (call (Value.ref 566) _ _) _ _ _)); (first | (k_unfold; (try dsimp only)) | walk1 | (dsimp only; walk1) | (dsimp only; k_unfold; (try dsimp only)) | fail "no step"))
    rename News _ _ _ (lw ++ _) => N6
    have OT := deed_ownt N6 l1 (Nat.le_add_right _ 1) hP2 Dj DP OR
    have OE : OwnOff (lp2 ++ (_ :: rest)) ((lt ++ lw).map (·.1)) := fun p hp x hx => by
      rw [List.map_append] at hx
      rcases List.mem_append.mp hx with hx | hx
      · exact OT p (List.mem_append_right _ hp) x hx
      · exact OW3 p (by
          rcases List.mem_append.mp hp with h | h
          · exact List.mem_append_left _ h
          · rcases List.mem_cons.mp h with h | h
            · exact List.mem_append_right _ (h ▸ .head _)
            · exact List.mem_append_right _ (.tail _ (List.mem_append_right _ h))) x hx
    refine' spt_use (eld_step G Wa M lt lw hT hW Dj) XB TB ?KD ?B ?F ?X ?N ?O ?T ?hk ?hd ?hu ?_
    case KD => assumption
    case O => exact OE
    walk_at "mine callR"
    intro v4 led4 g4 h4 tk6 p4 OT4 T9 F4 N7
    obtain ⟨rfl, l2, rfl, T4, Dj4⟩ := p4
    have z := deed_all hP2 (by omega) (by omega) T4 hW G (own_sw (own_app Dj4 (own_l OT4)) (own_r OT4) (fun p h => h)) (own_l OT4) hP OR
    refine' hret _ _ _ _ _ _ z.1 z.2 T9 F4 ?_
    refine' news_sub N7 ?_
    simp only [List.append_assoc]
    walk_at "mine sub"
  · have k4 : kind < 5 := kind_four k3 kd1 k6 k5 k7
    rcases look_step (w := w) G hks with ⟨CT, CW⟩ | ⟨nd, σ', ω', G', CT, CW⟩
    ·
      repeat' ((fail_if_success (with_reducible show wpAny _ _ (call (Value.ref 333) _ _) _ _ _)); (first | (k_unfold; (try dsimp only)) | walk1 | (dsimp only; walk1) | (dsimp only; k_unfold; (try dsimp only)) | fail "no step"))
      rename News _ _ _ (lw ++ _) => N6
      have OT := deed_ownt N6 l1 (Nat.le_add_right _ 1) hP2 Dj DP OR
      refine' sp_valP (CT M lt _ hT) ?B ?F ?X ?N ?O ?T ?hk ?hd ?hu ?_
      case O => exact OT
      walk_at "mine callR"
      intro lt4 h4 tk6 T4 OT4 F4 N7
      (try dsimp only)
      (try k_fold)
      repeat' ((fail_if_success (with_reducible show wpAny _ _ (call (Value.ref 547) _ _) _ _ _)); (first | (k_unfold; (try dsimp only)) | walk1 | (dsimp only; walk1) | (dsimp only; k_unfold; (try dsimp only)) | fail "no step"))
      refine' sp_valP (CW Wa M lw _ hW) ?B ?F ?X ?N ?O ?T ?hk ?hd ?hu ?_
      case O => exact own_sw OT4 OW3 deed_sub
      walk_at "mine callR"
      intro lw5 h5 tk8 W5 OW5 F5 N8
      (try dsimp only)
      (try k_fold)
      walk_at "mine steps"
      have G' := G
      have z := deed_all hP2 (by omega) (by omega) T4 W5 G' OW5 (own_mono OT4 (fun p hp => List.mem_append_right _ hp)) hP OR
      refine' hret _ _ _ _ _ _ z.1 z.2 KtsTurn.refl (by assumption) ?_
      refine' news_sub (by assumption) ?_
      simp only [List.append_assoc]
      walk_at "mine sub"
    ·
      repeat' ((fail_if_success (with_reducible show wpAny _ _ (call (Value.ref 333) _ _) _ _ _)); (first | (k_unfold; (try dsimp only)) | walk1 | (dsimp only; walk1) | (dsimp only; k_unfold; (try dsimp only)) | fail "no step"))
      rename News _ _ _ (lw ++ _) => N6
      have OT := deed_ownt N6 l1 (Nat.le_add_right _ 1) hP2 Dj DP OR
      refine' sp_intP (CT M lt _ hT) ?B ?F ?X ?N ?O ?T ?hk ?hd ?hu ?_
      case O => exact OT
      walk_at "mine callR"
      intro tk7 lt4 h4 tk6 T4 OT4 F4 N7
      (try dsimp only)
      (try k_fold)
      repeat' ((fail_if_success (with_reducible show wpAny _ _ (call (Value.ref 547) _ _) _ _ _)); (first | (k_unfold; (try dsimp only)) | walk1 | (dsimp only; walk1) | (dsimp only; k_unfold; (try dsimp only)) | fail "no step"))
      refine' sp_intP (CW Wa M lw _ hW) ?B ?F ?X ?N ?O ?T ?hk ?hd ?hu ?_
      case O => exact own_sw OT4 OW3 deed_sub
      walk_at "mine callR"
      intro tk9 lw5 h5 tk8 W5 OW5 F5 N8
      (try dsimp only)
      (try k_fold)
      walk_at "mine steps"
      rw [show (nd == nd) = true by simp]
      have z := deed_all hP2 (by omega) (by omega) T4 W5 G' OW5 (own_mono OT4 (fun p hp => List.mem_append_right _ hp)) hP OR
      refine' hret _ _ _ _ _ _ z.1 z.2 KtsTurn.refl (by assumption) ?_
      refine' news_sub (by assumption) ?_
      simp only [List.append_assoc]
      walk_at "mine sub"
end
section
theorem isList_keep {h h' : Heap} {l : Addr} {it : Array Value} (x : h.IsList l it) (k : ∀ b o, h.get? b = some o → h'.get? b = some o) : h'.IsList l it := by
  obtain ⟨o, e, r⟩ := x
  exact ⟨o, k _ _ e, r⟩
def SpL (w : World) (l : Addr) (vs : List Value) : Prop :=
  ∀ (mean : ExcName → Option Value) (mg mb : Str → Option Value) (dp un : Nat) (gd : Option (List Code)) (cn : Str) (cs : Scope) (a : Addr) (ccd : Value) (cl : List (Str × Addr)) (outer : List Env) (A₀ : Around) (base h₀ : Heap) (L : Addr) (m : Str → Option Value) (s : Shared) (Q E : Value → Shared → Prop) (led : Led),
   Below A₀ base outer h₀ → Fr h₀ L s.heap m → (hd.heap_1 w.params).In h₀ → News h₀ L s.heap led →
   Top hd.view_39 (looseW hd.view_39 [Str.ofString "GateError", Str.ofString "HashMap"]) mean mg mb h₀ → h₀.IsList l vs.toArray → cs.kind = .function → dp + 3 < recursionLimit → un + 60 < cLine →
   (∀ P lp h' tk', PenIs P 0 lp → OwnOff led (lp.map (·.1)) → Fr h₀ L h' m → News h₀ L h' (lp ++ led) → Q (.ref P) { s with heap := h', toks := tk' }) →
   wpAny (model PySem.Challenge.rw_qz0154_01.row.prog w) (ktrTop dp un gd cn cs L a ccd cl outer) (call (.ref 511) [.ref l]) Q E s
theorem pen_step {n x k : Int} (h : 0 ≤ n) (hk : 0 < k) : 0 ≤ n * 1019 + Int.fmod x k := by
  have := Int.fmod_nonneg_of_pos x hk
  omega
theorem gtk {M : Model} {A : Around} {α : Type} {t : Sem α} {Q : α → Shared → Prop} {E : Value → Shared → Prop} {h : Heap} {g : Array GenState} {d : Drawn} {o : OsState} {a b : Nat} (H : ∀ tk, wpAny M A t Q E ⟨h, g, d, tk, o⟩) : wpAny M A t Q E ⟨h, g, d, a + b, o⟩ := H _
theorem pen_sp (w : World) (l : Addr) (vs : List Value) (ns : List Int) (hi : IntsAre vs ns) (hlen : ns.length ≤ 63) : SpL w l vs := by
  k_with "state" => (first | omega | exact pen_step (by assumption) (Int.pow_pos (by decide)))
  k_with "M execs cons" => (k_here; with_reducible refine' gtk ?_; intro tk)
  k_with "M execs nil" => (k_here; with_reducible refine' gtk ?_; intro tk)
  k_with "M InvEndN" => (k_dflt kst_close)
  unfold SpL
  k_fill
  intro mean mg mb dp un gd cn cs a ccd cl outer A₀ base h₀ L m s Q E led B F X N T hl hk hd hu hret
  refine wpAny_call ?_
  k_dflt walk_at "mine enter"
  rename Fr h₀ L _ m => FG
  have hl' := isList_keep hl FG.keep
  clear hl
  repeat' ((fail_if_success (with_reducible show wpAny _ _ (exec (Stmt.For _ _ _ _ _) _) _ _ _)); (first | (k_unfold; (try dsimp only)) | walk1 | (dsimp only; walk1) | (dsimp only; k_unfold; (try dsimp only)) | fail "no step"))
  k_here
  rename Fr _ _ _ _ => lF'
  with_unfolding_all refine' For_invVF lF' ?k1 ?k2 ?_
  case k1 => exact rfl
  case k2 => exact rfl
  walk_at "mine toloop"
  k_state (fun pre n => 0 ≤ n) "number"
  walk_at "mine steps"
  rename News h₀ L _ ((_, W.listOf _ _) :: _ :: led) => kN
  rename _ < _ ∧ AllLt _ led => l9
  exact hret _ [_] _ _ ⟨_, _, _, _, rfl, by assumption, Int.le_refl _⟩ (fun p hp b hb => by rw [List.mem_singleton.mp hb]; exact Nat.ne_of_lt (allLt_mem l9.2 p hp)) (by assumption) (news_sub kN fun p hp => by
      rcases List.mem_cons.mp hp with h | h
      · exact h ▸ .head _
      · exact .tail _ (.tail _ h))
end
section
section
variable {prog : Program} {w : World} {A : Around} {E : Value → Shared → Prop} {s : Shared} {env : Env} {h₀ : Heap} {L : Addr} {m : Str → Option Value}
theorem forS_range {x : Str} {px : Pos} {body : List Stmt} {r : Addr} {b : Int} {n : Nat} {t u v : Tok} {news : Led} {R : Result → Shared → Prop} (J : Nat → (Str → Option Value) → Led → Prop)
    (hh : A.handled = none) (F : Fr h₀ env.locals s.heap m) (N : News h₀ env.locals s.heap news) (hr : IsRange s.heap r 0 b 1 t u v) (hsm : Builtin.Range.small 0 b 1 = true) (hn : Builtin.Range.rangeSize 0 b 1 = ((n : Nat) : Int)) (hx : env.kindOf x = some .local)
    (hp : (env.scope.kind == .class || (env.scope.kind == .module && env.locals != env.globals)) = false) (h0 : J 0 m news)
    (T : ForT prog w A h₀ env.locals env x body n (fun i v => ∃ t, v = .int (0 + (i : Int)) t) J s)
    (fin : ∀ h tk m' led, J n m' led → Fr h₀ env.locals h m' → News h₀ env.locals h led → R (.ok .next) { s with heap := h, toks := tk }) :
    wpAny (model prog w) A (pyIter (.ref r)) (fun it s₂ => codeS (model prog w) A (.forLoop (.Name x px) it body [] env) R s₂) E s := by
  have up : ∀ b' o, s.heap.get? b' = some o → (s.heap.push { cls := .type "range_iterator", data := .fields #[rawInt 0, rawInt (Builtin.Range.rangeSize 0 b 1), rawInt 1] }).get? b' = some o := fun b o e => Heap.get?_push_of_some _ e
  refine wpAny_pyIter_range hr hsm ?_
  have hIL : s.heap.objs.size ≠ env.locals := Ne.symm (Nat.ne_of_lt F.ns.lt)
  have hI0 : h₀.get? s.heap.objs.size = none := next_is_new F
  have W := LCg.range_walks (prog := prog) (w := w) (A := A) (I := s.heap.objs.size) hh 0 n
  refine codeS_forLoop (LoopS s h₀ env.locals s.heap.objs.size n (fun i h => IsRangeIter h s.heap.objs.size (0 + (i : Nat) * 1) ((n : Int) - (i : Nat)) 1) J) ?_ (n + 1)
    (LoopS.mk 0 _ s.toks m news (Nat.zero_le _) (by rw [hn]; show IsRangeIter _ _ _ _ _; simpa using Heap.get?_push_size _ rfl) (F.keeps up) (N.grown up) (fun p hp => Nat.ne_of_lt (Heap.lt_size (N p hp).1)) h0)
  rintro k s' ⟨i, h', tk, m', led, hi, hit, F', N', off', hJi⟩
  by_cases hlt : i < n
  · refine W.item i _ _ _ hlt hit fun v h₂ tk₂ hPv hst₂ hk₂ => ?_
    exact forS_step hx hp hIL hI0 hlt hPv hJi (LCg.fr_but F' hk₂ (Ne.symm hIL) hI0) (LCg.news_but N' hk₂ off') (show h₂.get? s.heap.objs.size = some _ from hst₂) off' T fun h₄ q => q
  · obtain rfl : i = n := Nat.le_antisymm hi (Nat.not_lt.mp hlt)
    refine W.done _ _ _ hit fun h₂ tk₂ hk₂ => ?_
    exact fin h₂ tk₂ m' led hJi (LCg.fr_but F' hk₂ (Ne.symm hIL) hI0) (LCg.news_but N' hk₂ off')
end
section
variable {prog : Program} {w : World} {s : Shared} {K : Frag} {p : Program} {loose : List Str} {mean : ExcName → Option Value} {mg mb : Str → Option Value}
variable {R : Result → Shared → Prop} {name qual : Str} {params : Arguments} {body : List Stmt} {scope : Scope} {dV kV doc pm cdv ct oc : Value} {an od : Option Addr} {osl : Array (Option Value)} {f : Addr} {args : Args} {binds : List (Str × Value)}
theorem codeS_root (X₀ : K.In s.heap) (T : Top p loose mean mg mb s.heap)
    (ho : K.lookup f = some ⟨oc, od, .func (fnOf name qual params body scope dV kV doc pm an cdv ct), osl⟩) (hcd : codeIn K cdv qual = true)
    (hbind : BindsTo s (fnOf name qual params body scope dV kV doc pm an cdv ct) args binds) (hkind : (binds.all fun y => scope.names.lookup y.1 == some .local || scope.names.lookup y.1 == some .cell) = true)
    (hnd : ((cellsFrom 0 scope.names []).map (·.1)).Nodup)
    (h : ∀ L' h₁ tk cells (Q : Flow → Shared → Prop) (E : Value → Shared → Prop), Fr s.heap L' h₁ (bindL (envOfC qual scope L' f cdv).kindOf binds fun _ => none) → News s.heap L' h₁ (cells ++ []) →
      CellsAre (bindC (envOfC qual scope L' f cdv).kindOf binds fun _ => none) (cellsFrom (L' + 1) scope.names []) cells → (∀ v s', R (.ok (.ret v)) s' → Q (.ret v) s') →
      wpS (model prog w) (callerA.deeper (envOfC qual scope L' f cdv)) (execs body (envOfC qual scope L' f cdv)) Q E { s with heap := h₁, toks := tk })
    (hco : scope.isCoroutine = false) (hgen : scope.isGenerator = false) (hk : scope.kind = .function) : codeS (model prog w) callerA (.call (.ref f) args) R s := by
  refine codeS_call_function (by decide +kernel) (X₀ _ _ ho) rfl hco hgen rfl (codeRec_of X₀ hcd) (hbind _ _ _ _ ?_)
  refine wpAny_newFunctionEnv_cells hk (kindsX hkind _) fun env' he s' x => ?_
  subst he
  refine ⟨T.nolimit.keeps x.toInCall.keep, codeS_func ?_⟩
  obtain ⟨h₁, tk, rfl, _⟩ := x.done
  have hk₁ := x.toInCall.keep
  obtain ⟨cells, NC, Y⟩ := Cl.news (h₀ := s.heap) (Nat.le_refl _) fun n c hm => ⟨x.cell n c (lookup_of_mem_nodup (cellsFrom_names scope.names 0 (s.heap.objs.size + 1) [] [] rfl ▸ hnd) hm), x.above n c hm⟩
  exact h s.heap.objs.size h₁ tk cells _ _ ⟨x.toInCall.ns, hk₁, Nat.le_refl _⟩ (fun p hp => NC p (by simpa using hp)) Y (fun _ _ h => h)
end
section
variable {w : World} {mean : ExcName → Option Value} {mg mb : Str → Option Value} {dp un : Nat} {gd : Option (List Code)} {cn : Str} {cs : Scope} {a : Addr} {ccd : Value} {cl : List (Str × Addr)} {outer : List Env} {A₀ : Around} {base h₀ : Heap} {L : Addr} {m : Str → Option Value} {s : Shared} {Q E : Value → Shared → Prop}
theorem pen_use {l : Addr} {vs : List Value} {led : Led} (C : SpL w l vs) (hl : h₀.IsList l vs.toArray) (B : Below A₀ base outer h₀) (F : Fr h₀ L s.heap m) (X : (Mine.hd.heap_1 w.params).In h₀) (N : News h₀ L s.heap led)
    (T : Top Mine.hd.view_39 (looseW Mine.hd.view_39 [Str.ofString "GateError", Str.ofString "HashMap"]) mean mg mb h₀) (hk : cs.kind = .function) (hd : dp + 3 < recursionLimit) (hu : un + 60 < cLine)
    (hret : ∀ P lp h' tk', PenIs P 0 lp → OwnOff led (lp.map (·.1)) → Fr h₀ L h' m → News h₀ L h' (lp ++ led) → Q (.ref P) { s with heap := h', toks := tk' }) :
    wpAny (model PySem.Challenge.rw_qz0154_01.row.prog w) (ktrTop dp un gd cn cs L a ccd cl outer) (call (.ref 511) [.ref l]) Q E s :=
  C mean mg mb dp un gd cn cs a ccd cl outer A₀ base h₀ L m s Q E led B F X N T hl hk hd hu hret
end
theorem storeC_F {M : Model} {A : Around} {E : Value → Shared → Prop} {s : Shared} {h₀ : Heap} {L c : Addr} {m : Str → Option Value} {env : Env} {x : Str} {v : Value} {post : Led} {o : Obj} {v₀ : Option Value} {Q : Unit → Shared → Prop} (F : Fr h₀ L s.heap m) (N : News h₀ L s.heap ((c, o) :: post)) (hne : ∀ p ∈ post, p.1 ≠ c) (hd : o.data = .cell v₀)
    (h : ∀ h' o', Fr h₀ L h' m → News h₀ L h' ((c, o') :: post) → o'.data = .cell (some v) → Q () { s with heap := h' })
    (hc : env.cells.lookup x = some c) (hk : env.scope.kind = .function) (hx : env.kindOf x = some .cell) : wpAny M A (storeName env x v) Q E s := by
  have hmem := N (c, o) (.head _)
  refine wpAny_storeName_cell hk hx hc ⟨o, hmem.1, hd⟩ fun h' hv hs => ?_
  obtain ⟨o', ho', hd'⟩ := hv
  refine h h' o' ⟨F.ns.sameBut hs (Ne.symm hmem.2.1), fun b ob e => (hs.2 b (fun q => ?_)).trans (F.keep b ob e), F.above⟩ (fun p hp => ?_) hd'
  · rw [q, hmem.2.2] at e; cases e
  · rcases List.mem_cons.mp hp with rfl | hp
    · exact ⟨ho', hmem.2⟩
    · exact ⟨(hs.2 _ (hne p hp)).trans (N p (.tail _ hp)).1, (N p (.tail _ hp)).2⟩
theorem news_flip {h₀ h : Heap} {L : Addr} {x : Addr × Obj} {lp : Led} (N : News h₀ L h (lp ++ [x])) : News h₀ L h (x :: lp) := news_sub N (by walk_at "mine sub")
theorem penP {P : Addr} {c : Int} {lp : Led} (hP : PenIs P c lp) : ∃ o, lp = [(P, o)] := by obtain ⟨n, t0, t1, e, rfl, _⟩ := hP; exact ⟨_, rfl⟩
theorem off2P {P C d : Addr} {oC o : Obj} {c : Int} {lp : Led} (hP : PenIs P c lp) (hC : C ≠ P) (hd : AllLt d lp) : OwnOff [(d, o), (C, oC)] (lp.map (·.1)) := by
  obtain ⟨oP, rfl⟩ := penP hP
  intro p hp b hb
  rw [List.mem_singleton.mp hb]
  have hlt := allLt_mem hd _ (.head _)
  rcases List.mem_cons.mp hp with h | hp
  · subst h; exact Ne.symm (Nat.ne_of_lt hlt)
  · rw [List.mem_singleton.mp hp]; exact hC
theorem allLt_pen {P d : Addr} {c c' : Int} {lp lp' : Led} (hP : PenIs P c lp) (hP' : PenIs P c' lp') (h : AllLt d lp) : AllLt d lp' := by
  obtain ⟨oP, rfl⟩ := penP hP
  obtain ⟨oP', rfl⟩ := penP hP'
  exact ⟨h.1, trivial⟩
theorem news_dc {h₀ h : Heap} {L : Addr} {x y : Addr × Obj} {lp : Led} (N : News h₀ L h (lp ++ [x, y])) : News h₀ L h (x :: y :: lp) := news_sub N (by walk_at "mine sub")
theorem news_cd {h₀ h : Heap} {L : Addr} {x y : Addr × Obj} {lp : Led} (N : News h₀ L h (x :: y :: lp)) : News h₀ L h (lp ++ [x, y]) := news_sub N (by walk_at "mine sub")
noncomputable def wk4 (a b c d : Value) : List (Str × Value) := [(Str.ofString "most", a), (Str.ofString "number", b), (Str.ofString "key", c), (Str.ofString "value", d)]
section
variable {a b c d : Value}
theorem wk4_most : valueAt (wk4 a b c d) (Str.ofString "most") = some a := by rfl
theorem wk4_number : valueAt (wk4 a b c d) (Str.ofString "number") = some b := by rfl
theorem wk4_key : valueAt (wk4 a b c d) (Str.ofString "key") = some c := by rfl
theorem wk4_value : valueAt (wk4 a b c d) (Str.ofString "value") = some d := by rfl
theorem wk4_wkv (ω : Wd) (M R D : Addr) (t0 t1 t2 t3 : Tok) : PySem.stored (PySem.stored (PySem.stored (wk4 (.int ω.most t0) (.int ω.number t1) (.int ω.kw t2) (.int ω.vw t3)) (Str.ofString "map") (.ref M)) (Str.ofString "rows") (.ref R)) (Str.ofString "rooms") (.ref D) = wkv ω M R D t0 t1 t2 t3 := by rfl
end
theorem set_head {prog : Program} {w : World} {A : Around} {E : Value → Shared → Prop} {s : Shared} {h₀ : Heap} {L d : Addr} {m : Str → Option Value} {o : Obj} {kvs : List (Str × Value)} {post : Led} {k : Str} {tk : Tok} {v : Value} {Q : Unit → Shared → Prop} (F : Fr h₀ L s.heap m) (N : News h₀ L s.heap ((d, o) :: post)) (hne : ∀ p ∈ post, p.1 ≠ d) (hd : o.IsDictOf (PySem.strKind prog w) kvs) (hz : kvs.length ≤ 100)
    (h : ∀ h' o', Fr h₀ L h' m → News h₀ L h' ((d, o') :: post) → o'.IsDictOf (PySem.strKind prog w) (PySem.stored kvs k v) → Q () { s with heap := h', toks := s.toks + 1 }) : wpAny (model prog w) A (setItem (.ref d) (.str k tk) v) Q E s :=
  kda_set (knd := PySem.strKind _ _) F N (.head hne) hd (strKind_is _ _ _ _) (by rw [sizeLine_eq]; omega) h
theorem law_ne {C d : Addr} {oC o : Obj} {lp lt : Led} (l : @LT.lt Nat _ C d ∧ AllLt d lp) (O : OwnOff ((d, o) :: (C, oC) :: lp) (lt.map (·.1))) : ∀ p ∈ (C, oC) :: (lp ++ lt), p.1 ≠ d := fun p hp => by
  rcases List.mem_cons.mp hp with h | hp
  · rw [h]; exact Nat.ne_of_lt l.1
  rcases List.mem_append.mp hp with h | h
  · exact Nat.ne_of_lt (allLt_mem l.2 p h)
  · exact fun e => O _ (.head _) _ (List.mem_map.mpr ⟨p, h, rfl⟩) e.symm
theorem law_news {h₀ h : Heap} {L : Addr} {x y : Addr × Obj} {lp lt : Led} (N : News h₀ L h (lt ++ (x :: y :: lp))) : News h₀ L h (x :: y :: (lp ++ lt)) := news_sub N (by walk_at "mine sub")
inductive LawSt (w : World) (P Wa : Addr) (k : Int) (led : Led) : Prop
  | mk (M : _) (σ : _) (ω : _) (c : _) (lp : _) (lt : _) (lw : _) (e1 : led = lp ++ (lt ++ lw)) (e2 : PenIs P c lp) (e3 : c ≤ k) (e4 : TabIs w M σ lt) (e5 : WIs w Wa M ω lw) (e6 : GInv σ ω) (e7 : OwnOff lw (lt.map (·.1))) (e8 : OwnOff (lt ++ lw) [P])
theorem law_alike {w : World} {P Wa : Addr} {k : Int} {led : Led} (LS : LawSt w P Wa k led) : Sp w 12 300 559 [.ref Wa] led (fun v led' => v = .bool true ∧ LawSt w P Wa k led') := by
  obtain ⟨M, σ, ω, c, lp, lt, lw, rfl, hP, hc, T, W, G, Dj, DP⟩ := LS
  intro mean mg mb dp un gd cn cs a ccd cl outer A₀ base h₀ L m s Q E rest B F X N OR TT hk hd hu hret
  have hp := penIs_addr hP
  obtain ⟨oP, rfl⟩ := penP hP
  refine alike_step G Wa M lt lw T W Dj mean mg mb dp un gd cn cs a ccd cl outer A₀ base h₀ L m s Q E ((P, oP) :: rest) B F X (news_sub N fun p hp => ?_) (fun p hp b hb => ?_) TT hk hd hu fun v l h' tk' q O F' N' => ?_
  · simp only [List.mem_append, List.mem_cons, List.not_mem_nil, or_false] at hp ⊢
    rcases hp with (h | h) | h | h
    · exact .inl (.inr (.inl h))
    · exact .inl (.inr (.inr h))
    · exact .inl (.inl h)
    · exact .inr h
  · rcases List.mem_cons.mp hp with h | h
    · subst h
      obtain ⟨q, hq, rfl⟩ := List.mem_map.mp hb
      exact Ne.symm (DP q hq P (.head _))
    · exact OR p h b (by rw [List.map_append]; exact List.mem_append_right _ hb)
  · obtain ⟨rfl, l2, rfl, T2, Dj2⟩ := q
    have DP2 : OwnOff (l2 ++ lw) [P] := fun p hp b hb e => by
      rw [List.mem_singleton.mp hb] at e
      exact O _ (.head _) _ (List.mem_map.mpr ⟨p, hp, rfl⟩) e.symm
    refine hret _ ([(P, oP)] ++ (l2 ++ lw)) _ _ ⟨rfl, M, σ, ω, c, _, l2, lw, rfl, hP, hc, T2, W, G, Dj2, DP2⟩ (fun p hp b hb => ?_) F' (news_sub N' fun p hp => ?_)
    · rw [List.map_append] at hb
      rcases List.mem_append.mp hb with h | h
      · exact OR p hp b (by rw [List.map_append]; exact List.mem_append_left _ h)
      · exact O p (.tail _ hp) b h
    · simp only [List.mem_append, List.mem_cons, List.not_mem_nil, or_false] at hp ⊢
      rcases hp with (h | h | h) | h
      · exact .inr (.inl h)
      · exact .inl (.inl h)
      · exact .inl (.inr h)
      · exact .inr (.inr h)
theorem law_deed {w : World} {P Wa : Addr} {k : Int} {led : Led} (LS : LawSt w P Wa k led) (hk9 : k ≤ 900) : SpD w 30 600 571 [.ref P, .ref Wa] led (fun v led' => v = .bool true ∧ LawSt w P Wa (k + 13) led') := by
  obtain ⟨M, σ, ω, c, lp, lt, lw, rfl, hP, hc, T, W, G, Dj, DP⟩ := LS
  intro mean mg mb dp un gd cn cs a ccd cl A₀ base h₀ L m s Q E rest B F X N OR TT XB TB hk hd hu hret
  refine deed_sp w P Wa M σ ω c lp lt lw hP T W G Dj DP (by omega) mean mg mb dp un gd cn cs a ccd cl A₀ base h₀ L m s Q E rest B F X N OR TT XB TB hk hd hu fun v l h' tk' q O F' N' => ?_
  obtain ⟨rfl, M', σ', ω', c', lp', lt', lw', rfl, hP', hc0, hc1, T', W', G', Dj', DP'⟩ := q
  exact hret _ _ _ _ ⟨rfl, M', σ', ω', c', lp', lt', lw', rfl, hP', by omega, T', W', G', Dj', DP'⟩ O F' N'
theorem law_draw {w : World} {P Wa : Addr} {k : Int} {led : Led} (LS : LawSt w P Wa k led) (hk9 : k ≤ 900) (many : Int) (t : Tok) (hm : 0 < many) (hm2 : many ≤ 256) :
    Sp w 2 20 518 [.ref P, .int many t] led (fun v led' => ∃ d t', v = .int d t' ∧ 0 ≤ d ∧ d < many ∧ LawSt w P Wa (k + 1) led') := by
  obtain ⟨M, σ, ω, c, lp, lt, lw, rfl, hP, hc, T, W, G, Dj, DP⟩ := LS
  intro mean mg mb dp un gd cn cs a ccd cl outer A₀ base h₀ L m s Q E rest B F X N OR TT hk hd hu hret
  obtain ⟨oP, rfl⟩ := penP hP
  refine draw_use hP (by omega) many t hm hm2 mean mg mb dp un gd cn cs a ccd cl outer A₀ base h₀ L m s Q E ((lt ++ lw) ++ rest) B F X (by simpa using N) (fun p hp b hb => ?_) TT hk hd hu fun v l h' tk' q O F' N' => ?_
  · rcases List.mem_append.mp hp with h | h
    · exact DP p h b hb
    · exact OR p h b (by rw [List.map_append]; exact List.mem_append_left _ hb)
  · obtain ⟨d, t', rfl, d0, d1, c', hP', c0, c1⟩ := q
    refine hret _ (l ++ (lt ++ lw)) _ _ ⟨d, t', rfl, d0, d1, M, σ, ω, c', l, lt, lw, rfl, hP', by omega, T, W, G, Dj, DP⟩ (fun p hp b hb => ?_) F' (by simpa using N')
    rw [List.map_append] at hb
    rcases List.mem_append.mp hb with h | h
    · exact O p (List.mem_append_right _ hp) b h
    · exact OR p hp b (by rw [List.map_append]; exact List.mem_append_right _ h)
theorem law_start {w : World} {P Wa M R D C : Addr} {o9 oD oC o6 : Obj} {nR : Nat} {c number kw vw most : Int} {t0 t1 t2 t3 : Tok} {lp lt : Led} {h₀ h : Heap} {L : Addr} (hP : PenIs P c lp) (hc : c ≤ 4) (T : TabIs w M { number := number, kw := kw, vw := vw, most := most, ks := [], ord := [], vals := [] } lt)
    (N : News h₀ L h ((Wa, o9) :: (D, oD) :: (R, W.listOf [].toArray nR) :: (C, oC) :: (lp ++ lt))) (hd : o9.IsDictOf (strKind PySem.Challenge.rw_qz0154_01.row.prog w) (PySem.stored (PySem.stored (PySem.stored (wk4 (.int most t0) (.int number t1) (.int kw t2) (.int vw t3)) (Str.ofString "map") (.ref M)) (Str.ofString "rows") (.ref R)) (Str.ofString "rooms") (.ref D)))
    (hI : oD.IsDictOf (intKind PySem.Challenge.rw_qz0154_01.row.prog w) []) (lW : (Wa == sysModules) = false) (lD : (D == sysModules) = false)
    (h0 : 0 ≤ number) (h1 : number < 64) (h2 : 1 ≤ kw) (h3 : kw ≤ 2) (h4 : 1 ≤ vw) (h5 : vw ≤ 9) (h6 : 1 ≤ most) (h7 : most ≤ 4)
    (lW9 : @LT.lt Nat _ C Wa ∧ AllLt Wa lp) (O6 : OwnOff ((Wa, o6) :: (C, oC) :: lp) (lt.map (·.1))) (lR : @LT.lt Nat _ Wa R ∧ @LT.lt Nat _ C R ∧ AllLt R (lp ++ lt)) (lDD : @LT.lt Nat _ R D ∧ @LT.lt Nat _ Wa D ∧ @LT.lt Nat _ C D ∧ AllLt D (lp ++ lt)) (hCP : C ≠ P) :
    ∃ led, LawSt w P Wa 4 led ∧ News h₀ L h (led ++ [(C, oC)]) ∧ OwnOff [(C, oC)] (led.map (·.1)) := by
  obtain ⟨oP, rfl⟩ := penP hP
  have pW : P < Wa := allLt_mem lW9.2 _ (.head _)
  have pR : P < R := allLt_mem lR.2.2 _ (List.mem_append_left _ (.head _))
  have pD : P < D := allLt_mem lDD.2.2.2 _ (List.mem_append_left _ (.head _))
  have tR : ∀ q ∈ lt, q.1 < R := fun q hq => allLt_mem lR.2.2 _ (List.mem_append_right _ hq)
  have tD : ∀ q ∈ lt, q.1 < D := fun q hq => allLt_mem lDD.2.2.2 _ (List.mem_append_right _ hq)
  have tW : ∀ q ∈ lt, q.1 ≠ Wa := fun q hq e => O6 _ (.head _) _ (List.mem_map.mpr ⟨q, hq, rfl⟩) e.symm
  have tC : ∀ q ∈ lt, q.1 ≠ C := fun q hq e => O6 _ (.tail _ (.head _)) _ (List.mem_map.mpr ⟨q, hq, rfl⟩) e.symm
  have tP : ∀ q ∈ lt, q.1 ≠ P := fun q hq e => O6 _ (.tail _ (.tail _ (.head _))) _ (List.mem_map.mpr ⟨q, hq, rfl⟩) e.symm
  refine ⟨[(P, oP)] ++ (lt ++ [(Wa, o9), (R, W.listOf [].toArray nR), (D, oD)]), ⟨M, _, { number := number, kw := kw, vw := vw, most := most, rows := [], vals := [] }, c, _, lt, _, rfl, hP, hc, T,
    WIs.mk (ω := { number := number, kw := kw, vw := vw, most := most, rows := [], vals := [] }) (rs := []) (dkvs := []) (tl := []) (wk4_wkv { number := number, kw := kw, vw := vw, most := most, rows := [], vals := [] } M R D t0 t1 t2 t3 ▸ hd) ⟨rfl, fun i k n e => by simp at e⟩ hI ⟨rfl, fun i b e => by simp at e⟩ (fun p hp => nomatch hp)
      (Nat.ne_of_lt lR.1) (Nat.ne_of_lt lDD.2.1) (Nat.ne_of_lt lDD.1) lW lD, GInv.start h0 h1 h2 h3 h4 h5 h6 h7, ?_, ?_⟩, ?_, ?_⟩
  · intro p hp b hb
    obtain ⟨q, hq, rfl⟩ := List.mem_map.mp hb
    simp only [List.mem_cons, List.not_mem_nil, or_false] at hp
    rcases hp with h | h | h <;> subst h
    · exact Ne.symm (tW q hq)
    · exact Ne.symm (Nat.ne_of_lt (tR q hq))
    · exact Ne.symm (Nat.ne_of_lt (tD q hq))
  · intro p hp b hb
    rw [List.mem_singleton.mp hb]
    rcases List.mem_append.mp hp with h | h
    · exact tP p h
    simp only [List.mem_cons, List.not_mem_nil, or_false] at h
    rcases h with h | h | h <;> subst h
    · exact Ne.symm (Nat.ne_of_lt pW)
    · exact Ne.symm (Nat.ne_of_lt pR)
    · exact Ne.symm (Nat.ne_of_lt pD)
  · exact news_sub N (by (try simp only [List.cons_append, List.append_assoc]); walk_at "mine sub")
  · intro p hp b hb
    rw [List.mem_singleton.mp hp]
    obtain ⟨q, hq, rfl⟩ := List.mem_map.mp hb
    simp only [List.mem_cons, List.mem_append, List.not_mem_nil, or_false] at hq
    rcases hq with h | h | h | h | h
    · subst h; exact hCP
    · exact Ne.symm (tC q h)
    · subst h; exact Nat.ne_of_lt lW9.1
    · subst h; exact Nat.ne_of_lt lR.2.1
    · subst h; exact Nat.ne_of_lt lDD.2.2.1
theorem law_rot {h₀ h : Heap} {L : Addr} {t x r y z : Addr × Obj} {l : Led} (N : News h₀ L h (t :: x :: r :: y :: z :: l)) : News h₀ L h (y :: x :: r :: z :: l) := news_sub N (by walk_at "mine sub")
theorem law_ne8 {D R Wa : Addr} {oD oR : Obj} {post : Led} (h1 : @LT.lt Nat _ Wa D) (h2 : @LT.lt Nat _ Wa R) (h3 : ∀ p ∈ post, p.1 ≠ Wa) : ∀ p ∈ (D, oD) :: (R, oR) :: post, p.1 ≠ Wa :=
  List.forall_mem_cons.mpr ⟨Ne.symm (Nat.ne_of_lt h1), List.forall_mem_cons.mpr ⟨Ne.symm (Nat.ne_of_lt h2), h3⟩⟩
theorem wpS_isTrue_call {prog : Program} {w : World} {A : Around} {E : Value → Shared → Prop} {s : Shared} {env : Env} {f : PySem.Expr} {args : List PySem.Expr} {kws : List Keyword} {pos : Pos} {whole : Sem Value} {Q : Bool → Shared → Prop}
    (h : wpS (model prog w) A whole (fun v s' => wpAny (model prog w) A (truthy v) Q E s') E s) : wpS (model prog w) A (isTrue (.Call f args kws pos) env whole) Q E s := by
  show wpS _ A (do let v ← whole; standAt pos; holding [v] (truthy v)) Q E s
  exact wpS_bind (wpS_mono h (fun v s' h' => wpS_bindAny (wpAny_standAt (wpS_any (wpAny_holding h')))) fun _ _ x => x)
def LawJ (w : World) (P Wa : Addr) (x : Addr × Obj) (m0 : Str → Option Value) (i : Nat) (m' : Str → Option Value) (led : Led) : Prop :=
  (∀ y, y ≠ Str.ofString "turn" → m' y = m0 y) ∧ ∃ led0, led = x :: led0 ∧ LawSt w P Wa (5 + 13 * (i : Int)) led0 ∧ OwnOff [x] (led0.map (·.1))
theorem lawJ_map {w : World} {P Wa : Addr} {x : Addr × Obj} {m0 m' : Str → Option Value} {i : Nat} {led : Led} {v : Value} (J : LawJ w P Wa x m0 i m' led) : (fun y => if y = Str.ofString "turn" then some v else m' y) = (fun y => if y = Str.ofString "turn" then some v else m0 y) := by
  funext y
  split
  · rfl
  · exact J.1 y ‹_›
theorem lawSt_le {w : World} {P Wa : Addr} {k k' : Int} {led : Led} (h : LawSt w P Wa k led) (hk : k ≤ k') : LawSt w P Wa k' led := by
  obtain ⟨M, σ, ω, c, lp, lt, lw, e, hP, hc, r1, r2, r3, r4, r5⟩ := h
  exact ⟨M, σ, ω, c, lp, lt, lw, e, hP, by omega, r1, r2, r3, r4, r5⟩
theorem news_unflip {h₀ h : Heap} {L : Addr} {x : Addr × Obj} {lp : Led} (N : News h₀ L h (x :: lp)) : News h₀ L h (lp ++ [x]) := news_sub N (by walk_at "mine sub")
section
variable {w : World} {mean : ExcName → Option Value} {mg mb : Str → Option Value} {dp un : Nat} {gd : Option (List Code)} {cn : Str} {cs : Scope} {a : Addr} {ccd : Value} {cl : List (Str × Addr)} {A₀ : Around} {base h₀ : Heap} {L : Addr} {m : Str → Option Value} {s : Shared} {Q E : Value → Shared → Prop} {D U : Nat} {f : Addr} {vs : List Value}
theorem spd_valP {foot : Led} {P : Led → Prop} {x : Value} {rest : Led} (C : SpD w D U f vs foot (fun v l => v = x ∧ P l)) (XB : (Mine.hd.heap_1 w.params).In base) (TB : Top Mine.hd.view_39 (looseW Mine.hd.view_39 [Str.ofString "GateError", Str.ofString "HashMap"]) mean mg mb base)
    (B : Below A₀ base [] h₀) (F : Fr h₀ L s.heap m) (X : (Mine.hd.heap_1 w.params).In h₀) (N : News h₀ L s.heap (foot ++ rest)) (OR : OwnOff rest (foot.map (·.1)))
    (T : Top Mine.hd.view_39 (looseW Mine.hd.view_39 [Str.ofString "GateError", Str.ofString "HashMap"]) mean mg mb h₀) (hk : cs.kind = .function) (hd : dp + D < recursionLimit) (hu : un + U < cLine)
    (hret : ∀ foot' h' tk', P foot' → OwnOff rest (foot'.map (·.1)) → Fr h₀ L h' m → News h₀ L h' (foot' ++ rest) → Q x { s with heap := h', toks := tk' }) :
    wpS (model PySem.Challenge.rw_qz0154_01.row.prog w) (ktrTop dp un gd cn cs L a ccd cl []) (call (.ref f) vs) Q E s :=
  C mean mg mb dp un gd cn cs a ccd cl A₀ base h₀ L m s Q E rest B F X N OR T XB TB hk hd hu fun v l h' tk' q O' F' N' => by
    obtain ⟨rfl, p⟩ := q
    exact hret l h' tk' p O' F' N'
end
theorem loop_off {C I : Addr} {oI oC : Obj} {led : Led} (h1 : ∀ p ∈ led, p.1 ≠ I) (h2 : OwnOff [(C, oC)] (led.map (·.1))) : OwnOff [(I, oI), (C, oC)] (led.map (·.1)) := fun p hp b hb => by
  rcases List.mem_cons.mp hp with h | h
  · subst h
    obtain ⟨q, hq, rfl⟩ := List.mem_map.mp hb
    exact Ne.symm (h1 q hq)
  · exact h2 p h b hb
theorem loop_back {C I : Addr} {oI oC : Obj} {led : Led} (h : OwnOff [(I, oI), (C, oC)] (led.map (·.1))) (hC : C ≠ I) : (∀ p ∈ (C, oC) :: led, p.1 ≠ I) ∧ OwnOff [(C, oC)] (led.map (·.1)) :=
  ⟨List.forall_mem_cons.mpr ⟨hC, fun p hp e => h _ (.head _) _ (List.mem_map.mpr ⟨p, hp, rfl⟩) e.symm⟩, fun p hp b hb => h p (.tail _ hp) b hb⟩
theorem law_for {w : World} {A : Around} {E : Value → Shared → Prop} {s : Shared} {env : Env} {h₀ : Heap} {m : Str → Option Value} {px : Pos} {body : List Stmt} {r P Wa : Addr} {x : Addr × Obj} {b : Int} {n : Nat} {t u v : Tok} {led : Led} {R : Result → Shared → Prop} (LS : LawSt w P Wa 5 led) (OC : OwnOff [x] (led.map (·.1)))
    (hh : A.handled = none) (F : Fr h₀ env.locals s.heap m) (N : News h₀ env.locals s.heap (x :: led)) (hr : IsRange s.heap r 0 b 1 t u v) (hsm : Builtin.Range.small 0 b 1 = true) (hn : Builtin.Range.rangeSize 0 b 1 = ((n : Nat) : Int)) (hx : env.kindOf (Str.ofString "turn") = some .local)
    (hp : (env.scope.kind == .class || (env.scope.kind == .module && env.locals != env.globals)) = false)
    (T : ForT PySem.Challenge.rw_qz0154_01.row.prog w A h₀ env.locals env (Str.ofString "turn") body n (fun i v => ∃ t, v = .int (0 + (i : Int)) t) (LawJ w P Wa x m) s)
    (fin : ∀ h tk m' led', LawJ w P Wa x m n m' led' → Fr h₀ env.locals h m' → News h₀ env.locals h led' → R (.ok .next) { s with heap := h, toks := tk }) :
    wpAny (model PySem.Challenge.rw_qz0154_01.row.prog w) A (pyIter (.ref r)) (fun it s₂ => codeS (model PySem.Challenge.rw_qz0154_01.row.prog w) A (.forLoop (.Name (Str.ofString "turn") px) it body [] env) R s₂) E s :=
  forS_range (LawJ w P Wa x m) hh F N hr hsm hn hx hp ⟨fun _ _ => rfl, led, rfl, LS, OC⟩ T fin
theorem law_bring {h₀ h : Heap} {L : Addr} {x : Addr × Obj} {lp r : Led} (N : News h₀ L h (x :: (lp ++ r))) : News h₀ L h (lp ++ (x :: r)) := news_sub N (by walk_at "mine sub")
theorem law_base {P : Addr} {c : Int} {x : Addr × Obj} {lp lt lw : Led} (hP : PenIs P c lp) (OC : OwnOff [x] ((lp ++ (lt ++ lw)).map (·.1))) (DP : OwnOff (lt ++ lw) [P]) : OwnOff (x :: (lt ++ lw)) [P] := fun p hp b hb => by
  obtain ⟨oP, rfl⟩ := penP hP
  rw [List.mem_singleton.mp hb]
  rcases List.mem_cons.mp hp with h | h
  · subst h; exact OC _ (.head _) _ (.head _)
  · exact DP p h P (.head _)
section
variable {w : World} {mean : ExcName → Option Value} {mg mb : Str → Option Value} {dp un : Nat} {gd : Option (List Code)} {cn : Str} {cs : Scope} {a : Addr} {ccd : Value} {cl : List (Str × Addr)} {outer : List Env} {A₀ : Around} {base h₀ : Heap} {L P : Addr} {m : Str → Option Value} {s : Shared} {Q E : Value → Shared → Prop} {lp led rest : Led}
theorem law_draw_go {Wa : Addr} {k : Int} (LS : LawSt w P Wa k led) (hk9 : k ≤ 900) (many : Int) (t : Tok) (hm : 0 < many) (hm2 : many ≤ 256) (B : Below A₀ base outer h₀) (F : Fr h₀ L s.heap m) (X : (Mine.hd.heap_1 w.params).In h₀) (N : News h₀ L s.heap (led ++ rest)) (OR : OwnOff rest ((led).map (·.1)))
    (T : Top Mine.hd.view_39 (looseW Mine.hd.view_39 [Str.ofString "GateError", Str.ofString "HashMap"]) mean mg mb h₀) (hk : cs.kind = .function) (hd : dp + 2 < recursionLimit) (hu : un + 20 < cLine)
    (hret : ∀ d t' l h' tk', 0 ≤ d → d < many → LawSt w P Wa (k + 1) l → OwnOff rest (l.map (·.1)) → Fr h₀ L h' m → News h₀ L h' (l ++ rest) → Q (.int d t') { s with heap := h', toks := tk' }) :
    wpAny (model PySem.Challenge.rw_qz0154_01.row.prog w) (ktrTop dp un gd cn cs L a ccd cl outer) (call (.ref 518) [.ref P, .int many t]) Q E s :=
  sp_use (law_draw LS hk9 many t hm hm2) B F X N OR T hk hd hu fun v l h' tk' p O' F' N' => (match p with | ⟨d, t', e, d0, d1, LS'⟩ => e ▸ hret d t' l h' tk' d0 d1 LS' O' F' N')
end
end
section
theorem kw_74 : True := by
  (k_with "M subscriptTail" => (k_here; (with_reducible show wpAny _ _ (subscriptTail _ _ (Value.ref _) (Value.str _ _)) _ _ _); (with_unfolding_all refine' mi_wget ?q_N ?q_m ?q_d ?q_v ?_ ?q_k6 ?q_k7; (case q_N => k_asm); (case q_m => k_mem); (case q_d => assumption); (case q_v => first | exact wk4_most | exact wk4_number | exact wk4_key | exact wk4_value); (case q_k6 => with_unfolding_all rfl); (case q_k7 => intro _; with_unfolding_all rfl)); intro _))
  trivial
def LawC (w : World) : Prop :=
  ∀ (mean : ExcName → Option Value) (mg mb : Str → Option Value) (s : Shared) (l : Addr) (vs : List Value) (ns : List Int) (R : Result → Shared → Prop),
   (hd.heap_1 w.params).In s.heap → Top hd.view_39 (looseW hd.view_39 [Str.ofString "GateError", Str.ofString "HashMap"]) mean mg mb s.heap → s.heap.IsList l vs.toArray → IntsAre vs ns → ns.length ≤ 63 →
   (∀ L m h' tk', Fr s.heap L h' m → R (.ok (.ret (.bool true))) { s with heap := h', toks := tk' }) →
   codeS (model PySem.Challenge.rw_qz0154_01.row.prog w) callerA (.call (.ref 583) ⟨[.ref l], []⟩) R s
theorem law_sp (w : World) : LawC w := by
  unfold LawC
  k_fill
  intro mean mg mb s l vs ns R X T hl hi hlen hret
  k_dflt (refine' codeS_root ?k3 ?k5 ?k6 ?k7 ?k9 ?kB ?kD ?_ ?c2 ?c3 ?c4; (case k3 => assumption); (case k5 => assumption); (case k6 => k_is); (case k7 => k_is); (case k9 => first | exact BindsTo.of_eq rfl | exact binds_K (by k_in) rfl (by k_is) rfl rfl rfl); (case kB => exact rfl); (case kD => decide +kernel); (case c2 => exact rfl); (case c3 => exact rfl); (case c4 => exact rfl); k_whole)
  intro L' h' tk' cells' Q' E' F' N' Y' hq
  k_cells Y'
  (try simp only [List.cons_append, List.nil_append, List.append_nil] at N')
  (try dsimp only)
  have B0 := below_caller s.heap
  (try k_lift B0)
  refine wpS_execs_any ?_
  repeat' ((fail_if_success (with_reducible show wpAny _ _ (call (Value.ref 511) _ _) _ _ _)); (first | (k_unfold; (try dsimp only)) | walk1 | (dsimp only; walk1) | (dsimp only; k_unfold; (try dsimp only)) | fail "no step"))
  refine' pen_use (pen_sp w l vs ns hi hlen) hl ?B ?F ?X ?N ?T ?hk ?hd ?hu ?_
  case B => k_asm
  case F => k_asm
  case X => k_asm
  case N => k_asm
  case T => k_asm
  case hk => first | exact rfl | assumption
  case hd => ktr_room
  case hu => ktr_units
  intro P lp h1 tk1 hP O1 F1 N1
  (try dsimp only)
  (try k_fold)
  refine' storeC_F (v₀ := none) ?F (news_flip N1) ?ne ?d ?_ rfl rfl rfl
  case F => k_asm
  case ne => exact fun p hp e => O1 _ (.head _) p.1 (List.mem_map.mpr ⟨p, hp, rfl⟩) e.symm
  case d => k_asm
  intro h2 oC F2 N2 dC
  (try dsimp only)
  refine wpS_execs_any ?_
  have hCP : L' + 1 ≠ P := fun e => by
    obtain ⟨oP, e2⟩ := penP hP
    exact O1 _ (.head _) P (by rw [e2]; exact .head _) e
  repeat' ((fail_if_success (with_reducible show wpAny _ _ (call (Value.ref 518) _ _) _ _ _)); (first | (k_unfold; (try dsimp only)) | walk1 | (dsimp only; walk1) | (dsimp only; k_unfold; (try dsimp only)) | fail "no step"))
  rename Addr => Wa
  rename _ < _ ∧ AllLt _ lp => lD0
  have hP0 := hP
  obtain ⟨lp0, elp⟩ : ∃ l, l = lp := ⟨_, rfl⟩
  subst elp
  repeat' ((fail_if_success (with_reducible show wpAny _ _ (call (Value.ref 518) _ _) _ _ _)); (first | (k_unfold; (try dsimp only)) | walk1 | (dsimp only; walk1) | (dsimp only; k_unfold; (try dsimp only)) | fail "no step"))
  rename News _ _ _ (_ :: _ :: lp0) => NDa
  refine' draw_go hP0 (by decide) 4 _ (by decide) (by decide) ?B ?F ?X (news_cd NDa) (off2P hP0 hCP lD0.2) ?T ?hk ?hd ?hu ?_
  case B => k_asm
  case F => k_asm
  case X => k_asm
  case T => k_asm
  case hk => first | exact rfl | assumption
  case hd => ktr_room
  case hu => ktr_units
  intro r1 tD c1 lp1 hD1 tkD r10 r11 hP1 c10 c11 O1 FD ND
  have lD1 := And.intro lD0.1 (allLt_pen hP0 hP1 lD0.2)
  have ND2 := news_dc ND
  clear ND
  (try dsimp only)
  (try k_fold)
  repeat' ((fail_if_success (with_reducible show wpAny _ _ (call (Value.ref 518) _ _) _ _ _)); (first | (k_unfold; (try dsimp only)) | walk1 | (dsimp only; walk1) | (dsimp only; k_unfold; (try dsimp only)) | fail "no step"))
  rename News _ _ _ (_ :: _ :: lp1) => NDa
  refine' draw_go hP1 (omI1 c11 (by decide)) 64 _ (by decide) (by decide) ?B ?F ?X (news_cd NDa) (off2P hP1 hCP lD1.2) ?T ?hk ?hd ?hu ?_
  case B => k_asm
  case F => k_asm
  case X => k_asm
  case T => k_asm
  case hk => first | exact rfl | assumption
  case hd => ktr_room
  case hu => ktr_units
  intro r2 tD c2 lp2 hD2 tkD r20 r21 hP2 c20 c21 O2 FD ND
  have lD2 := And.intro lD1.1 (allLt_pen hP1 hP2 lD1.2)
  have ND2 := news_dc ND
  clear ND
  (try dsimp only)
  (try k_fold)
  repeat' ((fail_if_success (with_reducible show wpAny _ _ (call (Value.ref 518) _ _) _ _ _)); (first | (k_unfold; (try dsimp only)) | walk1 | (dsimp only; walk1) | (dsimp only; k_unfold; (try dsimp only)) | fail "no step"))
  rename News _ _ _ (_ :: _ :: lp2) => NDa
  refine' draw_go hP2 (omI12 c21 c11 (by decide)) 2 _ (by decide) (by decide) ?B ?F ?X (news_cd NDa) (off2P hP2 hCP lD2.2) ?T ?hk ?hd ?hu ?_
  case B => k_asm
  case F => k_asm
  case X => k_asm
  case T => k_asm
  case hk => first | exact rfl | assumption
  case hd => ktr_room
  case hu => ktr_units
  intro r3 tD c3 lp3 hD3 tkD r30 r31 hP3 c30 c31 O3 FD ND
  have lD3 := And.intro lD2.1 (allLt_pen hP2 hP3 lD2.2)
  have ND2 := news_dc ND
  clear ND
  (try dsimp only)
  (try k_fold)
  repeat' ((fail_if_success (with_reducible show wpAny _ _ (call (Value.ref 518) _ _) _ _ _)); (first | (k_unfold; (try dsimp only)) | walk1 | (dsimp only; walk1) | (dsimp only; k_unfold; (try dsimp only)) | fail "no step"))
  rename News _ _ _ (_ :: _ :: lp3) => NDa
  refine' draw_go hP3 (omI12 c31 (omI12 c21 c11 (Int.le_refl _)) (by decide)) 9 _ (by decide) (by decide) ?B ?F ?X (news_cd NDa) (off2P hP3 hCP lD3.2) ?T ?hk ?hd ?hu ?_
  case B => k_asm
  case F => k_asm
  case X => k_asm
  case T => k_asm
  case hk => first | exact rfl | assumption
  case hd => ktr_room
  case hu => ktr_units
  intro r4 tD c4 lp4 hD4 tkD r40 r41 hP4 c40 c41 O4 FD ND
  have lD4 := And.intro lD3.1 (allLt_pen hP3 hP4 lD3.2)
  have ND2 := news_dc ND
  clear ND
  (try dsimp only)
  (try k_fold)
  walk_at "mine steps"
  (try dsimp only)
  rename Obj.IsDictOf _ _ (strPairs _) => hdS
  rename News _ _ _ (_ :: _ :: lp4) => N5
  have hd4 := (show Obj.IsDictOf _ _ (wk4 _ _ _ _) from hdS)
  clear hdS
  refine wpS_execs_any ?_
  repeat' ((fail_if_success (with_reducible show wpAny _ _ (call (Value.ref 502) _ _) _ _ _)); (first | (k_unfold; (try dsimp only)) | walk1 | (dsimp only; walk1) | (dsimp only; k_unfold; (try dsimp only)) | fail "no step"))
  refine' new_use ?b1 ?b2 ?b3 ?b4 ?b5 ?b6 ?b7 ?b8 ?B ?F ?X N5 ?T ?hk ?hd ?hu ?_
  case b1 => omega
  case b2 => omega
  case b3 => omega
  case b4 => omega
  case b5 => omega
  case b6 => omega
  case b7 => omega
  case b8 => omega
  case B => k_asm
  case F => k_asm
  case X => k_asm
  case T => k_asm
  case hk => first | exact rfl | assumption
  case hd => ktr_room
  case hu => ktr_units
  intro M lt h6 tk6 T6 O6 F6 N6
  (try dsimp only)
  (try k_fold)
  repeat' ((fail_if_success (with_reducible show wpAny _ _ (setItem _ _ _) _ _ _)); (first | (k_unfold; (try dsimp only)) | walk1 | (dsimp only; walk1) | (dsimp only; k_unfold; (try dsimp only)) | fail "no step"))
  have ne7 := law_ne lD4 O6
  refine' set_head ?F (law_news N6) ne7 hd4 (by show 4 ≤ 100; decide) ?_
  case F => k_asm
  intro h7 o7 F7 N7 hd7
  (try dsimp only)
  refine wpS_execs_any ?_
  repeat' ((fail_if_success (with_reducible show wpAny _ _ (setItem _ _ _) _ _ _)); (first | (k_unfold; (try dsimp only)) | walk1 | (dsimp only; walk1) | (dsimp only; k_unfold; (try dsimp only)) | fail "no step"))
  rename News _ _ _ (_ :: _ :: _ :: _ :: _ :: (lp4 ++ lt)) => N8
  rename Obj.IsDictOf (intKind _ _) _ [] => hdI
  rename _ < _ ∧ _ < _ ∧ _ < _ ∧ AllLt _ (lp4 ++ lt) => lDD
  rename _ < _ ∧ _ < _ ∧ AllLt _ (lp4 ++ lt) => lRR
  refine' set_head ?F (law_rot N8) (law_ne8 lDD.2.1 lRR.1 ne7) hd7 (by show 5 ≤ 100; decide) ?_
  case F => k_asm
  intro h8 o8 F8 N9 hd8
  (try dsimp only)
  repeat' ((fail_if_success (with_reducible show wpAny _ _ (setItem _ _ _) _ _ _)); (first | (k_unfold; (try dsimp only)) | walk1 | (dsimp only; walk1) | (dsimp only; k_unfold; (try dsimp only)) | fail "no step"))
  refine' set_head ?F N9 (law_ne8 lDD.2.1 lRR.1 ne7) hd8 (by show 6 ≤ 100; decide) ?_
  case F => k_asm
  intro h9 o9 F9 N10 hd9
  (try dsimp only)
  obtain ⟨led, LS, N11, OC⟩ := law_start hP4 (omI12 c41 (omI12 c31 (omI12 c21 c11 (Int.le_refl _)) (Int.le_refl _)) (by decide)) T6 N10 hd9 hdI (by assumption) (by assumption) (by omega) (by omega) (by omega) (by omega) (by omega) (by omega) (by omega) (by omega) lD4 O6 lRR lDD hCP
  have N12 := news_flip N11
  walk_at "mine steps"
  refine wpS_execs_any ?_
  repeat' ((fail_if_success (with_reducible show wpAny _ _ (call (Value.ref 559) _ _) _ _ _)); (first | (k_unfold; (try dsimp only)) | walk1 | (dsimp only; walk1) | (dsimp only; k_unfold; (try dsimp only)) | fail "no step"))
  refine' sp_valP (law_alike LS) ?B ?F ?X N11 OC ?T ?hk ?hd ?hu ?_
  case B => k_asm
  case F => k_asm
  case X => k_asm
  case T => k_asm
  case hk => first | exact rfl | assumption
  case hd => ktr_room
  case hu => ktr_units
  intro led2 h12 tk12 LS2 OC2 F12 N13
  have N14 := news_flip N13
  (try dsimp only)
  (try k_fold)
  walk_at "mine steps"
  refine wpS_execs_cons (wpS_For ?_)
  repeat' ((fail_if_success (with_reducible show wpAny _ _ (call (Value.ref 518) _ _) _ _ _)); (first | (k_unfold; (try dsimp only)) | walk1 | (dsimp only; walk1) | (dsimp only; k_unfold; (try dsimp only)) | fail "no step"))
  refine' law_draw_go LS2 (by omega) 8 _ (by decide) (by decide) ?B ?F ?X N13 OC2 ?T ?hk ?hd ?hu ?_
  case B => k_asm
  case F => k_asm
  case X => k_asm
  case T => k_asm
  case hk => first | exact rfl | assumption
  case hd => ktr_room
  case hu => ktr_units
  intro r5 t5 led3 h13 tk13 r50 r51 LS3 OC3 F13 N15
  have N16 := news_flip N15
  (try dsimp only)
  (try k_fold)
  walk_at "mine toloop"
  rename IsRange _ _ _ _ _ _ _ _ => hrg
  have hrs := range_small (n := 9 + r5) (by omega) (by omega)
  refine' law_for (n := (9 + r5).toNat) LS3 OC3 rfl ?F ?N hrg hrs.1 hrs.2.1 rfl rfl ?T ?fin
  case F => assumption
  case N => assumption
  case T =>
    intro i v I oI m' ledq h14 tk14 E14 hiq hv HJ F14 N17 neI K9 hK9
    obtain ⟨t14, rfl⟩ := hv
    rw [lawJ_map HJ] at F14
    obtain ⟨hm14, led0, rfl, LS4, OC4⟩ := HJ
    obtain ⟨nCI, neI2⟩ := List.forall_mem_cons.mp neI
    have OI := loop_off (oI := oI) neI2 OC4
    refine wpS_execs_cons (wpS_If (wpS_isTrue_or (wpS_isTrue_not (wpS_isTrue_call (wpS_NameCall ?_)))))
    walk_at "mine steps"
    (try dsimp only)
    refine' wpS_callWith_K (K := (Mine.hd.heap_1 w.params)) ?uX ?uk ?_
    case uX => assumption
    case uk => k_is
    walk_at "mine steps"
    refine' spd_valP (law_deed LS4 (cap13i hiq r51)) X T ?B ?F ?X (news_cd N17) OI ?T ?hk ?hd ?hu ?_
    case B => k_asm
    case F => k_asm
    case X => k_asm
    case T => k_asm
    case hk => first | exact rfl | assumption
    case hd => ktr_room
    case hu => ktr_units
    intro led5 h15 tk15 LS5 O15 F15 N18
    have N19 := news_dc N18
    (try dsimp only)
    (try k_fold)
    repeat' ((fail_if_success (with_reducible show wpAny _ _ (call (Value.ref 559) _ _) _ _ _)); (first | (k_unfold; (try dsimp only)) | walk1 | (dsimp only; walk1) | (dsimp only; k_unfold; (try dsimp only)) | fail "no step"))
    refine' sp_valP (law_alike LS5) ?B ?F ?X N18 O15 ?T ?hk ?hd ?hu ?_
    case B => k_asm
    case F => k_asm
    case X => k_asm
    case T => k_asm
    case hk => first | exact rfl | assumption
    case hd => ktr_room
    case hu => ktr_units
    intro led6 h16 tk16 LS6 O16 F16 N20
    have N21 := news_dc N20
    (try dsimp only)
    (try k_fold)
    walk_at "mine steps"
    have lb := loop_back O16 nCI
    refine wpS_execs_nil ?_
    (try dsimp only)
    refine wpS_execs_nil ?_
    exact hK9 _ _ ⟨rfl, _, _, _, _, rfl, by assumption, N21, lb.1, fun y hy => if_neg hy, led6, rfl, lawSt_le LS6 (cap13s i), lb.2⟩
  case fin =>
    intro h17 tk17 m17 led17 HJ F17 N22
    obtain ⟨hm17, led7, rfl, LS7, OC7⟩ := HJ
    dsimp only
    refine wpS_execs_any ?_
    repeat' ((fail_if_success (with_reducible show wpAny _ _ (call (Value.ref 518) _ _) _ _ _)); (first | (k_unfold; (try dsimp only)) | walk1 | (dsimp only; walk1) | (dsimp only; k_unfold; (try dsimp only)) | fail "no step"))
    refine' law_draw_go LS7 (Int.le_trans (cap13n r51) (by decide)) 5 _ (by decide) (by decide) ?B ?F ?X (news_unflip N22) OC7 ?T ?hk ?hd ?hu ?_
    case B => k_asm
    case F => k_asm
    case X => k_asm
    case T => k_asm
    case hk => first | exact rfl | assumption
    case hd => ktr_room
    case hu => ktr_units
    intro r6 t6 led8 h18 tk18 r60 r61 LS8 OC8 F18 N23
    obtain ⟨M8, σ8, ω8, c8, lp8, lt8, lw8, rfl, hP8, hc8, T8, W8, G8, Dj8, DP8⟩ := LS8
    have hc300 : c8 ≤ 300 := omI12 hc8 (cap13n r51) (by decide)
    have N24 := news_flip N23
    (try dsimp only)
    (try k_fold)
    walk_at "mine tosrc"
    rename IsRange _ _ _ _ _ _ _ _ => hrg8
    have hrs8 := range_small (n := r6) (by omega) (by omega)
    rename News _ _ _ (_ :: (lp8 ++ _)) => N25
    have NB := law_bring N25
    have OB := law_base hP8 OC8 DP8
    refine' LCg.CompSrc.range (n := r6.toNat) (by rfl) (by k_asm) NB hrg8 hrs8.1 hrs8.2.1 hrs8.2.2 ?_
    intro g1
    refine comp_inv (OInv P c8 _) (oinv0 hP8 OB) ?turn ?fin
    case turn =>
      intro i v ys led I oI C oC D m₂ h9 tk9 E9 hi9 hv I9 hC hx F1 N1 off ne K9 hK9
      obtain ⟨c9, lp9, rfl, hP9, c90, c91, hy9, hO9⟩ := I9
      repeat' ((fail_if_success (with_reducible show wpAny _ _ (call (Value.ref 518) _ _) _ _ _)); (first | (k_unfold; (try dsimp only)) | walk1 | (dsimp only; walk1) | (dsimp only; k_unfold; (try dsimp only)) | fail "no step"))
      refine' draw_go hP9 (comp_cap c91 hi9 (Int.le_of_lt r61) hc300 (by decide)) 256 _ (by decide) (by decide) ?B ?F ?X ?N ?O ?T ?hk ?hd ?hu ?_
      case O => exact oct_own (oI := oI) (oC := oC) (oD := LCg.lst ys) hP9 off hO9
      walk_at "mine callR"
      intro d8 t8 c8 lp8 h8 tk8 d80 d81 hP8 c80 c81 O8 F8 N8
      (try dsimp only)
      exact hK9 _ _ (oct_end F8 N8 O8 off hP8 (Int.le_trans c90 c80) (omI14 c91 c81) (fun _ => trivial) hy9 ⟨d80, d81⟩ hO9)
    case fin =>
      intro ys led I9
      obtain ⟨c9, lp9, rfl, hP9, c90, c91, hy9, hO9⟩ := I9
      have ho : OctL ys r6.toNat := hy9
      have hz9 : r6.toNat ≤ 100 := by omega
      unfold LCg.FinE
      intro D2 h8 tk8 F2 N7 o2
      dsimp only
      repeat' ((fail_if_success (with_reducible show wpAny _ _ (call (Value.type "bytes") _ _) _ _ _)); (first | (k_unfold; (try dsimp only)) | walk1 | (dsimp only; walk1) | (dsimp only; k_unfold; (try dsimp only)) | fail "no step"))
      refine' mi_mkbytes ?F ?N ?h ?m ho ?z ?_
      case F => k_asm
      case N => k_asm
      case h => rfl
      case m => k_mem
      case z => omega
      intro h10 oct t10 tk10 hoz F10 N10
      (try dsimp only)
      (try k_fold)
      walk_at "mine steps"
      (try dsimp only)
      refine wpS_execs_any ?_
      repeat' ((fail_if_success (with_reducible show wpAny _ _ (call (Value.ref 578) _ _) _ _ _)); (first | (k_unfold; (try dsimp only)) | walk1 | (dsimp only; walk1) | (dsimp only; k_unfold; (try dsimp only)) | fail "no step"))
      refine' sp0_use (foot := []) (lhash_sp w _ _ ?z) (fun _ _ h => h) ?B ?F ?X ?N ?T ?hk ?hd ?hu ?_
      case z => omega
      case N => k_asm
      case B => k_asm
      case F => k_asm
      case X => k_asm
      case T => k_asm
      case hk => first | exact rfl | assumption
      case hd => ktr_room
      case hu => ktr_units
      intro v19 h19 tk19 p19 F19 N26
      obtain ⟨t19, rfl⟩ := p19
      (try dsimp only)
      (try k_fold)
      walk_at "mine steps"
      rw [show (hashF oct == hashF oct) = true by simp]
      exact hq _ _ (hret _ _ _ _ F19)
end
section
theorem root_holds : PySem.Challenge.rw_qz0154_01.Holds := by
  refine hd ?_
  k_fill
  intro w s₀ s₁ mg mb G Y fa o pm cd doc dV kV ho hd hcd hD hmg hg args vals as hpre hlay hrd hwl hlo
  have KX := kIn_of Y
  have k583 : nsIn (Mine.hd.heap_1 w.params) mainGlobals (Str.ofString "law") = some (some (.ref 583)) := by k_is
  have X := (Ground.X G).1
  have V := (Ground.X G).2
  try w_nolog (first | (have GL := glob_more (Ground.glob G (by first | k_qdec | decide +kernel) (by first | k_qdec | decide +kernel)) V) | (have GL := glob_more (Ground.glob G (by decide +kernel)) V))
  refine Ground.open G ?_
  intro T B D TE TW
  try (refine guard_noD D (by decide +kernel) ?_; clear D)
  obtain ⟨_, _, M⟩ := bmod_of_top T
  have TA := at_of_top T
  try (obtain ⟨_, _, he, B0⟩ := based_of_top T rfl hmg ho hd; have he' : cd = _ := he; subst he'; clear he)
  have ea : fa = 583 := by
    have z := (mg_of KX T.g k583).symm.trans hmg
    injection z with z
    injection z with z
    exact z.symm
  subst ea
  clear hmg
  wrow_args hpre hlay hrd hwl hlo
  rename List Int => ns
  have hlen : ns.length ≤ 63 := by omega
  refine wpS_call (law_sp _ _ mg mb s₁ _ _ ns _ KX T (by assumption) (by assumption) hlen fun L m h' tk' F9 => ?_)
  dsimp only
  refine GoodW.toG ?_
  refine goodW_bool F9 hg ?hn ?hp
  case hn => exact fun cls => by first | rfl | (cases cls <;> rfl) | kernel_rfl
  case hp => first | rfl | kernel_rfl
end
end Mine
theorem PySem.Challenge.cw_qz0154_01_holds : PySem.Challenge.rw_qz0154_01.Holds :=
  Mine.root_holds
