import PyProof.Rows.All
import Wide.All
import OpenK.AllK
import Wide.FinOn
import PySem.Challenge.RW_sj0163_01
open PySem PySem.W PySem.Calls PySem.Spec PyProof.Rows
set_option Elab.async false
set_option linter.all false
set_option maxRecDepth 100000
set_option maxHeartbeats 8000000
namespace Mine
theorem lb9 {n m : Nat} (h : Nat.ble n m = true) : n ≤ m := Nat.le_of_ble_eq_true h
noncomputable def decC : Code → Bool
 | .builtin id _ => Builtin.Bytes.decodersThatHold.contains id
 | _ => false
noncomputable def ClB (l : List (Code × Pos)) : Prop := ∀ x ∈ l, decC x.1 = false
noncomputable def wpG {α : Type} (M : Model) (A : Around) (t : Sem α) (Q : α → Shared → Prop) (E : Value → Shared → Prop) (s : Shared) : Prop :=
 ∀ Γ p, Γ.In A → decC Γ.code = false → ClB Γ.below → Sem.wp M Γ t (fun a _ s' => Q a s') (fun e _ s' => E e s') p s
noncomputable def codeG (M : Model) (A : Around) (c : Code) (R : Result → Shared → Prop) (s : Shared) : Prop :=
 ∀ Γ p, Γ.code = c → Γ.Below A → ClB Γ.below → wpCode M Γ R p s
section
variable {α β : Type} {M : Model} {A : Around} {E : Value → Shared → Prop} {s : Shared}
theorem wpG_of {t : Sem α} {Q : α → Shared → Prop} (h : wpAny M A t Q E s) : wpG M A t Q E s := fun Γ p hΓ _ _ => h Γ p hΓ
theorem wpG_pure {a : α} {Q : α → Shared → Prop} (h : Q a s) : wpG M A (pure a) Q E s := fun _ _ _ _ _ => h
theorem wpG_mono {t : Sem α} {Q Q' : α → Shared → Prop} {E' : Value → Shared → Prop} (h : wpG M A t Q E s)
  (hQ : ∀ a s, Q a s → Q' a s) (hE : ∀ e s, E e s → E' e s) : wpG M A t Q' E' s :=
 fun Γ p hΓ h1 h2 => Sem.wp_mono M Γ t (fun a _ s => hQ a s) (fun e _ s => hE e s) p s (h Γ p hΓ h1 h2)
theorem wpG_bind {m : Sem α} {f : α → Sem β} {Q : β → Shared → Prop} (h : wpG M A m (fun a s' => wpG M A (f a) Q E s') E s) :
  wpG M A (m >>= f) Q E s := fun Γ p hΓ h1 h2 => by
 rw [Sem.wp_bind']
 exact Sem.wp_mono M Γ m (fun a p' s' h' => h' Γ p' hΓ h1 h2) (fun _ _ _ h' => h') p s (h Γ p hΓ h1 h2)
theorem wpG_step {m : Sem α} {f : α → Sem β} {Q : β → Shared → Prop} (h : wpAny M A m (fun a s' => wpG M A (f a) Q E s') E s) :
  wpG M A (m >>= f) Q E s := wpG_bind (wpG_of h)
theorem wpG_holding {vs : List Value} {m : Sem α} {Q : α → Shared → Prop} (h : wpG M A m Q E s) : wpG M A (holding vs m) Q E s :=
 fun Γ p hΓ h1 h2 => by rw [Sem.wp_holding]; exact h Γ p hΓ h1 h2
theorem ClB.enter {Γ : PySem.Ctx} {c : Code} {h : Option Value} {p : Pos} (h1 : decC Γ.code = false) (h2 : ClB Γ.below) : ClB (Γ.enter c h p).below := fun x hx => by
 rcases List.mem_cons.mp hx with rfl | hx
 ·exact h1
 ·exact h2 x hx
theorem wpG_run {c : Code} {h : Option Value} {Q : Flow → Shared → Prop}
  (hc : codeG M (A.mark h) c (fun r s' => match r with | .ok f => Q f s' | .error e => E e s') s) (hnb : h ≠ some byPass := by intro x; cases x) :
  wpG M A (run c h) Q E s :=
 fun Γ p hΓ h1 h2 => by rw [Sem.wp_run]; exact hc _ p rfl (hΓ.enter c h p hnb) (ClB.enter h1 h2)
theorem wpG_runValue {c : Code} {Q : Value → Shared → Prop}
  (hc : codeG M A c (fun r s' => match r with | .ok (.ret v) => Q v s' | .ok _ => False | .error e => E e s') s) :
  wpG M A (runValue c) Q E s := fun Γ p hΓ h1 h2 => by rw [Sem.wp_runValue]; exact hc _ p rfl (hΓ.enter c none p (by intro x; cases x)) (ClB.enter h1 h2)
theorem wpG_call {f : Value} {pos : List Value} {kw : List (Str × Value)} {Q : Value → Shared → Prop}
  (hc : codeG M A (.call f ⟨pos, kw⟩) (fun r s' => match r with | .ok (.ret v) => Q v s' | .ok _ => False | .error e => E e s') s) :
  wpG M A (call f pos kw) Q E s := wpG_runValue hc
theorem codeG_mono {c : Code} {R R' : Result → Shared → Prop} (h : codeG M A c R s) (hR : ∀ r s, R r s → R' r s) : codeG M A c R' s :=
 fun Γ p hc hΓ hb => wpCode_mono hR (h Γ p hc hΓ hb)
theorem codeG_of {c : Code} {R : Result → Shared → Prop} (h : codeAny M A c R s) : codeG M A c R s := fun Γ p hc hΓ _ => h Γ p hc hΓ
theorem codeG_of_tree {c : Code} {R : Result → Shared → Prop} (hd : decC c = false)
  (h : wpG M (A.under c) (M.den c) (fun fin s' => match fin with | .done f => R (.ok f) s' | .again c' => c'.quiet = true ∧ codeG M A c' R s')
   (fun e s' => R (.error e) s') s) : codeG M A c R s := fun Γ p hc hΓ hb => by
 rw [wpCode_iff_wp, hc]
 refine Sem.wp_mono M Γ _ (fun fin p' s' h' => ?_) (fun _ _ _ h' => h') p s (h Γ p (hc ▸ hΓ.in) (hc ▸ hd) hb)
 cases fin with
 | done f => exact h'
 | again c' => exact ⟨h'.1, h'.2 (Γ.goto c') p' rfl (hΓ.goto c') hb⟩
end
section
variable {prog : Program} {w : World} {A : Around} {E : Value → Shared → Prop} {s : Shared}
theorem wpG_execs_cons {st : Stmt} {rest : List Stmt} {env : Env} {Q : Flow → Shared → Prop}
  (h : wpG (model prog w) A (exec st env) (fun fl s' => match fl with | .next => wpG (model prog w) A (execs rest env) Q E s' | f => Q f s') E s) : wpG (model prog w) A (execs (st :: rest) env) Q E s := by
 rw [execs]
 refine wpG_bind (wpG_mono h (fun fl s' h' => ?_) fun _ _ x => x)
 cases fl <;> first | exact h' | exact wpG_pure h'
theorem execs_pre_at {env : Env} {Q : Flow → Shared → Prop} {rest : List Stmt} {Γ : PySem.Ctx} (hΓ : Γ.In A) (h1 : decC Γ.code = false) (h2 : ClB Γ.below) : ∀ (pre : List Stmt) (p : Pos) (s : Shared),
  Sem.wp (model prog w) Γ (execs pre env) (fun fl _ s' => match fl with | .next => wpG (model prog w) A (execs rest env) Q E s' | f => Q f s') (fun e _ s' => E e s') p s →
  Sem.wp (model prog w) Γ (execs (pre ++ rest) env) (fun fl _ s' => Q fl s') (fun e _ s' => E e s') p s
 | [], p, s, h => by
  rw [execs] at h
  exact h Γ p hΓ h1 h2
 | st :: pre, p, s, h => by
  rw [execs, Sem.wp_bind'] at h
  show Sem.wp _ Γ (execs (st :: (pre ++ rest)) env) _ _ p s
  rw [execs, Sem.wp_bind']
  refine Sem.wp_mono _ Γ _ (fun fl p' s' h' => ?_) (fun _ _ _ x => x) p s h
  cases fl with
  | next => exact execs_pre_at hΓ h1 h2 pre p' s' h'
  | _ => exact h'
theorem wpG_pre {env : Env} {Q : Flow → Shared → Prop} (pre : List Stmt) {rest : List Stmt}
  (h : wpAny (model prog w) A (execs pre env) (fun fl s' => match fl with | .next => wpG (model prog w) A (execs rest env) Q E s' | f => Q f s') E s) : wpG (model prog w) A (execs (pre ++ rest) env) Q E s :=
 fun Γ p hΓ h1 h2 => execs_pre_at hΓ h1 h2 pre p s (h Γ p hΓ)
theorem exec_If (test : PySem.Expr) (body orelse : List Stmt) (pos : Pos) (env : Env) : exec (.If test body orelse pos) env = (do
  standAt pos
  if ← isTrue test env (eval test env) then execs body env else execs orelse env) := by with_unfolding_all rfl
theorem wpG_If {test : PySem.Expr} {body orelse : List Stmt} {pos : Pos} {env : Env} {Q : Flow → Shared → Prop}
  (h : wpG (model prog w) A (isTrue test env (eval test env)) (fun b s' => if b then wpG (model prog w) A (execs body env) Q E s' else wpG (model prog w) A (execs orelse env) Q E s') E s) :
  wpG (model prog w) A (exec (.If test body orelse pos) env) Q E s := by
 rw [exec_If]
 refine wpG_step (wpAny_standAt (wpG_bind (wpG_mono h (fun b s' h' => ?_) fun _ _ x => x)))
 cases b <;> exact h'
theorem codeG_func {body : List Stmt} {env : Env} {R : Result → Shared → Prop}
  (h : wpG (model prog w) (A.deeper env) (execs body env) (fun f s' => R (.ok (.ret (match f with | .ret v => v | _ => .none))) s') (fun _ _ => False) s) :
  codeG (model prog w) A (.func body env) R s := by
 refine codeG_of_tree rfl ?_
 show wpG _ (A.deeper env) (do point; match ← (execs body env).onRaise (leaving env) with | .ret v => ret v | _ => ret .none) _ _ s
 refine wpG_step (wpAny_point (wpG_bind ?_))
 intro Γ p hΓ h1 h2
 rw [Sem.wp_onRaise]
 refine Sem.wp_mono _ Γ _ (fun f p' s' h' => ?_) (fun _ _ _ h' => h'.elim) p s (h Γ p hΓ h1 h2)
 cases f <;> exact wpG_pure h'
theorem codeG_call_function {a : Addr} {args : Args} {o : Obj} {fd : FuncData} {body : List Stmt} {R : Result → Shared → Prop} (hroom : A.depth < recursionLimit)
  (ho : s.heap.get? a = some o)
  (hd' : o.data = .func fd) (hco : fd.scope.isCoroutine = false) (hgen : fd.scope.isGenerator = false) (hbody : fd.body = .stmts body) (hcd : s.heap.CodeRec fd.code fd.qualname)
  (h : wpAny (model prog w) A.in1 (bindArgs fd args) (fun binds s₁ =>
   wpAny (model prog w) A.in1 (newFunctionEnv fd.scope fd.globals fd.closure binds (fd.qualname ++ ".<locals>.") (some a) fd.code none fd.builtins)
    (fun env s₂ => s₂.heap.NoLimit ∧ codeG (model prog w) A (.func body env) R s₂) (fun e s' => R (.error e) s') s₁) (fun e s' => R (.error e) s') s) :
  codeG (model prog w) A (.call (.ref a) args) R s := by
 refine codeG_of_tree rfl ?_
 show wpG _ A.in1 (callAny (.ref a) args) _ _ s
 simp only [callAny]
 refine wpG_of ?_
 refine wpAny_bind (wpAny_load ho ?_)
 obtain ⟨c, oc, vs, tq, hc, hoc, hdc, hq⟩ := hcd
 simp only [hd', callFunction, hco, hgen, hbody, hc]
 rw [hc] at h
 refine wpAny_bind (m := field (.ref c) 1) (wpAny_field hoc hdc hq (wpAny_bind (wpAny_pure ?_)))
 exact wpAny_bind (wpAny_mono h (fun binds s₁ h₁ => wpAny_bind (wpAny_mono h₁ (fun env s₂ h₂ => wpAny_bind (wpAny_enterFrame h₂.1 hroom
  (wpAny_pure (And.intro rfl h₂.2)))) fun _ _ h' => h')) fun _ _ h' => h')
theorem codeG_call_def {R : Result → Shared → Prop} {a : Addr} {o : Obj} {fd : FuncData} {body : List Stmt} {args : Args} {binds : List (Str × Value)}
  (hroom : A.depth < recursionLimit) (ho : s.heap.get? a = some o) (hdata : o.data = .func fd) (hlim : s.heap.NoLimit) (hcd : s.heap.CodeRec fd.code fd.qualname)
  (hbody : fd.body = .stmts body) (hbind : BindsTo s fd args binds)
  (hcell : ∀ x ∈ fd.scope.names, x.2 ≠ .cell) (hloc : ∀ x ∈ binds, fd.scope.names.lookup x.1 = some .local)
  (h : ∀ h₀, h₀.Ns s.heap.objs.size (fun x => binds.reverse.lookup x) → (∀ b o, s.heap.get? b = some o → h₀.get? b = some o) →
   wpG (model prog w) (A.deeper (callEnv fd s.heap.objs.size a)) (execs body (callEnv fd s.heap.objs.size a)) (fun f s' => R (.ok (.ret (match f with | .ret v => v | _ => .none))) s') (fun _ _ => False)
    { s with heap := h₀, toks := s.toks + binds.length })
  (hco : fd.scope.isCoroutine = false) (hgen : fd.scope.isGenerator = false) (hk : fd.scope.kind = .function) :
  codeG (model prog w) A (.call (.ref a) args) R s := by
 refine codeG_call_function hroom ho hdata hco hgen hbody hcd (hbind _ _ _ _ ?_)
 refine wpAny_newFunctionEnv hcell hloc (fun h₀ hns₀ hsb₀ => ⟨hlim.fresh _ hsb₀, codeG_func (h h₀ hns₀ fun b o e => ?_)⟩) hk
 exact hsb₀.extBut b o (Nat.ne_of_lt (Heap.lt_size e)) (Heap.get?_push_of_some _ e)
end
noncomputable abbrev WalkG (q : Program) (loose : List Str) (XP : (Str → Option Value) → Heap → Prop) (YP : World → Heap → Prop) (r : RowW) (d : DefRec) (kwd : List (Str × PySem.Expr)) : Prop :=
 ∀ (w : World) (s₀ s₁ : Shared) (mg mb : Str → Option Value), Ground q loose r.records XP w s₀ mg mb s₁.heap → YP w s₁.heap → ∀ (a : Addr) (o : Obj) (pm cd doc dV kV : Value), s₁.heap.get? a = some o →
  o.data = .func { docDef d.name d.params d.body d.scope pm cd doc with defaults := dV, kwdefaults := kV } → s₁.heap.CodeRec cd d.name → Dflts mg s₁.heap d.params kwd dV kV → mg d.name = some (.ref a) → s₁.gens = #[] →
  ∀ (args : List WData) (vals : List Value) (as : List Addr), r.claim.pre args = true → WData.layableAll args = true → ReadsAllW r.records (classAt s₀.heap) s₁.heap vals args as → WellAll w.params s₁.heap vals args → (∀ a ∈ as, (a == sysModules) = false) →
   codeG (model r.prog w) callerA (.call (.ref a) ⟨vals, []⟩) (GoodWG r.claim (classAt s₀.heap) (ExcName.means s₀.heap) args s₁) s₁
theorem goodG_ret {c : ClaimW} {cl : Str → Option Addr} {mean : ExcName → Option Value} {args : List WData} {s₁ s' : Shared} {fl : Flow} (g : GoodWG c cl mean args s₁ (.ok fl) s') : ∃ v, fl = .ret v := by
 obtain ⟨⟨v, _, _, e, _⟩ | ⟨_, _, _, e, _⟩, _⟩ := g
 ·cases e; exact ⟨v, rfl⟩
 ·cases e
inductive Ex4 {α β γ δ : Type} (P : α → β → γ → δ → Prop) : Prop
 | mk (a : α) (b : β) (c : γ) (d : δ) (h : P a b c d) : Ex4 P
theorem ex4 {α β γ δ : Type} {P : α → β → γ → δ → Prop} : (∃ a b c d, P a b c d) → Ex4 P := fun ⟨a, b, c, d, h⟩ => ⟨a, b, c, d, h⟩
theorem and6 {A B C D E F G : Prop} (h : A ∧ B ∧ C ∧ D ∧ E ∧ F) (k : A → B → C → D → E → F → G) : G := k h.1 h.2.1 h.2.2.1 h.2.2.2.1 h.2.2.2.2.1 h.2.2.2.2.2
theorem ex7 {α β γ δ ε ζ η : Type} {P : α → β → γ → δ → ε → ζ → η → Prop} {Z : Prop} : (∃ a b c d e f g, P a b c d e f g) → (∀ a b c d e f g, P a b c d e f g → Z) → Z := fun ⟨a, b, c, d, e, f, g, h⟩ k => k a b c d e f g h
theorem exLeft {α β : Type} {A B : α → Prop} {C D E F G H : α → β → Prop} {Z : Prop} : (∃ a, A a ∧ B a ∧ ∃ b, C a b ∧ D a b ∧ E a b ∧ F a b ∧ G a b ∧ H a b) → (∀ a b, A a → B a → C a b → D a b → E a b → F a b → G a b → H a b → Z) → Z :=
 fun ⟨a, p, q, b, c, d, e, f, g, h⟩ k => k a b p q c d e f g h
theorem endsG {c : ClaimW} {tree : List Value → Sem Fin} {w : World} {s : Shared} {free : Addr → Prop} {gens : Prop} {kept : Heap → Prop} (hz : s.asleep) (hgens : s.gens = #[])
  (hspec : ∀ args, c.pre args = true → WData.layableAll args = true → ∀ ord : List DictEntry → List DictEntry, (∀ l, (ord l).Perm l) →
   ∃ vs s₁, layAllW c.records (classAt s.heap) w.params ord args s = some (vs, s₁) ∧
    wpG (model c.prog w) callerA (tree vs) (fun fin s' => ∃ f, fin = .done f ∧ (c.Ends s args vs s₁ (.ok f) s' ∧ s'.os = s.os ∧ AllBare s'.gens ∧ kept s'.heap))
     (fun e s' => c.Ends s args vs s₁ (.error e) s' ∧ s'.os = s.os ∧ AllBare s'.gens ∧ kept s'.heap) s₁) :
  c.CallFrom (fun vs => ⟨tree vs, .builtin "claim.caller" {}, default, []⟩) w free gens kept s := by
 intro args hpre hlay ord hord
 obtain ⟨vs, s₁, hlaid, hcode⟩ := hspec args hpre hlay ord hord
 have hal := layAllW_rest _ _ _ hlaid
 have run : Sem.wp (model c.prog w) ⟨.builtin "claim.caller" {}, none, none, [], none⟩ (tree vs)
   (Sem.finPost (model c.prog w) ⟨.builtin "claim.caller" {}, none, none, [], none⟩ fun r s' => (c.Ends s args vs s₁ r s' ∧ s'.os = s.os ∧ kept s'.heap) ∧ leftWithCleanup s'.gens = false)
   (fun e _ s' => (c.Ends s args vs s₁ (.error e) s' ∧ s'.os = s.os ∧ kept s'.heap) ∧ leftWithCleanup s'.gens = false) default s₁ := by
  refine Sem.wp_mono _ _ _ (fun fin p s' h => ?_) (fun e p s' h => ⟨⟨h.1, h.2.1, h.2.2.2⟩, leftWithCleanup_false_of_bare h.2.2.1⟩) default s₁ (hcode ⟨.builtin "claim.caller" {}, none, none, [], none⟩ default caller_in (by decide +kernel) (fun x hx => nomatch hx))
  obtain ⟨f, rfl, q⟩ := h
  exact ⟨⟨q.1, q.2.1, q.2.2.2⟩, leftWithCleanup_false_of_bare q.2.2.1⟩
 obtain ⟨k, r, s'', s', hh⟩ := ex4 (wp_halts_full (M := model c.prog w) (R := fun r s' => c.Ends s args vs s₁ r s' ∧ s'.os = s.os ∧ kept s'.heap) (Shared.asleep_of_life hal.2.2.2 hz) run)
 refine and6 hh fun hsched hrun hfo hcase hos hkp => ?_
 obtain ⟨eh, _, _, eo, _⟩ := Shared.forget_eq hfo
 have hcase := hcase.congr eh
 have hkp : kept s'.heap := eh ▸ hkp
 rw [← eo] at hos
 have hlife : s'.heap.life = s.heap.life := (runN_life _ _ _ hrun).trans hal.2.2.2
 refine ⟨vs, s₁, hlaid, k, _, s', hsched, ?_, (fun _ i x hx => by rw [hgens] at hx; simp at hx), hkp, by rw [hlife], Shared.rest_eq hos⟩
 rcases hcase with ⟨v, rfl, q⟩ | ⟨e, ob, cls, rfl, q⟩
 ·exact .inl ⟨v, rfl, q.1, q.2.1, q.2.2.1, fun b o y _ => q.2.2.2.1 b o y, q.2.2.2.2⟩
 ·exact .inr ⟨e, ob, cls, rfl, q.1, q.2.1, q.2.2.1, q.2.2.2.1, fun b o y _ => q.2.2.2.2 b o y⟩
theorem openG {r : OpenRow} {q : Program} {loose : List Str} {Xt : Shared → Bool} {XP : (Str → Option Value) → Heap → Prop} {α : Type} {Yf : Shared → α} {Ya : World → α} {YP : World → Heap → Prop} {d : DefRec} {kwd : List (Str × PySem.Expr)} {N : Nat}
  (left : LeftO r.prog q loose Xt Yf Ya N) (hY : ∀ w s, Yf s = Ya w → YP w s.heap) (hYk : ∀ w h h', YP w h → (∀ b o, h.get? b = some o → h'.get? b = some o) → YP w h')
  (hX : ∀ s, Xt s = true → XP (s.heap.nsMap mainGlobals) s.heap) (hXk : ∀ mg h h', XP mg h → (∀ b o, h.get? b = some o → h'.get? b = some o) → XP mg h')
  (hdef : defOf q r.name = some (d, kwd)) (hp : r.prog.theDef r.name = some (d.params, d.body, d.scope)) (hk : kwWritten? d.params.kwonlyargs d.params.kw_defaults = some kwd) (hRf : ∀ s, Xt s = true → RecFacts r.records s.heap) (hwr : (!r.writes || r.records.isEmpty) = true)
  (k1 : r.wellSaid = true) (ok : (chainsOk q && opensWell r.prog && (frees r.toRowW && r.within.isEmpty)) = true) (hb : r.prog.bare) (hw : r.toRowW.promised)
  (call : Mine.WalkG q loose XP YP r.toRowW d kwd) : r.Holds := by
 refine ⟨k1, hw, ?_⟩
 obtain ⟨ok, k5⟩ := Bool.and_eq_true_iff.mp ok
 obtain ⟨hch, o1⟩ := Bool.and_eq_true_iff.mp ok
 obtain ⟨k5, k6⟩ := Bool.and_eq_true_iff.mp k5
 obtain ⟨hsame, hu, ha, hap, hm⟩ := frees_parts k5
 refine ⟨⟨hb, o1, by show r.toRowW.makers.map _ = []; rw [hm]; rfl⟩, hw.witness, fun w => ⟨(left.behind hX hch w).1, fun s' hs' => ?_⟩⟩
 refine exLeft ((left.behind (XP := fun mg h => XP mg h ∧ RecFacts r.records h) (fun s hs => ⟨hX s hs, hRf s hs⟩) hch w).2 s' hs') fun s₀ s hf hg0 hT hz hgens hg G00 y => ?_
 have G0 : Ground q loose [] XP w s (s.heap.nsMap mainGlobals) (s.heap.nsMap builtinsNs) s.heap := ⟨G00.T, G00.B, G00.D, G00.TE, G00.TD, G00.W, G00.X.1, G00.cls, G00.has, G00.apart, G00.once, G00.K⟩
 have RF := G00.X.2
 refine ⟨s₀, hf, hg0, s, hT, fun n hn => ?_, RF.1, RF.2.1, ?_⟩
 ·obtain rfl : n = r.name := by split at hn <;> simp_all
  exact pinned_of_view hg G0 hdef hp hk
 have hgens : s.gens = #[] := Array.eq_empty_of_size_eq_zero (beq_iff_eq.mp hgens)
 have G : Ground q loose r.records XP w s _ _ s.heap := RF.ground G0
 refine Mine.endsG (c := r.toRowW.claim) hz hgens fun args hpre hlay ord hord => ?_
 obtain ⟨⟨vs, s₁⟩, hlaid⟩ := Option.isSome_iff_exists.mp (layAllW_isSome (P := w.params) (ord := ord) G.has args r.args s (pre_splitW (r := r.toRowW) hpre).1)
 have keeps := layAllW_keeps _ _ _ hlaid
 have hal := layAllW_rest _ _ _ hlaid
 obtain ⟨as, hrd, hin, hold⟩ := reads_layAllW hord _ _ _ hlaid hlay s₁.heap (fun _ _ e => e)
 have L : Laid r.records w s s₁ args vs as := ⟨⟨ord, hord, hlaid⟩, hrd, hin, hold, keeps, hal.1.trans hgens, hal.2.2.1⟩
 have G₁ := G.keeps hXk keeps
 refine ex7 (G₁.fn hdef) fun a o pm cd doc dV kV ⟨h1, h2, h3, h4, h5⟩ => ?_
 have h := call w s s₁ _ _ G₁ (hYk _ _ _ (hY w s y) keeps) a o pm cd doc dV kV h2 h3 h4 h5 (defOf_name hdef ▸ h1) L.gens args vs as hpre hlay L.reads L.well (L.low G.low)
 have hi := ident_freeW hu ha hap
 have hwi : r.toRowW.claim.within = [] := List.isEmpty_iff.mp k6
 refine ⟨vs, s₁, hlaid, ?_⟩
 have fin : ∀ res s', GoodWG r.toRowW.claim (classAt s.heap) (ExcName.means s.heap) args s₁ res s' → r.toRowW.claim.Ends s args vs s₁ res s' ∧ s'.os = s.os ∧ AllBare s'.gens ∧
   (r.writes = true → namesKept r.toRowW.claim.prog r.keeps s.heap s'.heap ∧ ∀ x ∈ r.toRowW.claim.records, ∀ a, classAt s.heap x.1 = some a → recordClass s'.heap a x.1 (x.2.map (·.1)) = true) := by
  intro res s' g
  have z := g.laid (c := r.toRowW.claim) hsame hwi hi L
  exact ⟨z.1, z.2.1, z.2.2, fun q => ⟨namesKept_of hT hg _ keeps g.2.1.old, noTable hwr q⟩⟩
 refine Mine.wpG_step (wpAny_nsGet G₁.T.g ?_)
 rw [h1]
 refine Mine.wpG_bind (Mine.wpG_call (Q := fun v s' => Mine.wpG _ _ (PySem.ret v) _ _ s') (Mine.codeG_mono h fun res s' g => ?_))
 cases res with
 | error e => exact fin _ _ g
 | ok fl =>
  obtain ⟨v, rfl⟩ := Mine.goodG_ret g
  exact Mine.wpG_pure ⟨_, rfl, fin _ _ g⟩
noncomputable def runT (stp : SharedT → Thread → Option (SharedT × Thread)) (n₀ : Nat) (ann : Option Value) (ok : Nat → Option Value → Thread → Bool) : Nat → SharedT → Thread → Option SharedT
 | 0, _, _ => none
 | n + 1, s, t => match through t with
  | true => some s
  | false => match ok n₀ ann t with
   | false => none
   | true => match stp s t with
    | some (s', t') => runT stp n₀ ann ok n s' t'
    | none => none
theorem runT_of {tb : String → Option Builtin} {p : Program} {w : World} {n₀ : Nat} {ann : Option Value} : ∀ {n : Nat} {s s' : SharedT} {t : Thread}, runT (stepT (denote tb) p w) n₀ ann stepOk n s t = some s' → topRun tb p w n₀ ann n s.abs t = some s'.abs
 | 0, _, _, _, h => by cases h
 | n + 1, s, s', t, h => by
  unfold runT at h
  unfold topRun
  cases he : through t with
  | true => rw [he] at h; cases h; rfl
  | false =>
   rw [he] at h
   cases hk : stepOk n₀ ann t with
   | false => rw [hk] at h; cases h
   | true =>
    rw [hk] at h
    cases hs : stepT (denote tb) p w s t with
    | none => rw [hs] at h; cases h
    | some r => obtain ⟨s₂, t₂⟩ := r; rw [hs] at h; rw [stepT_spec hs]; exact runT_of h
noncomputable def treeOf : Nat → BT → List Obj → BT
 | _, t, [] => t
 | n, t, o :: l => treeOf (n + 1) (t.ins n o) l
noncomputable def bootT (w : World) (os : OsState) : SharedT := ⟨treeOf 0 .nil (boot_heap w.params).objs.toList, 11, (boot_heap w.params).life, Array.mk [], boot_drawn, boot_toks, os⟩
theorem boot_abs (w : World) (os : OsState) : (bootT w os).abs = ⟨boot_heap w.params, Array.mk [], boot_drawn, boot_toks, os⟩ := rfl
theorem left_of_run {p q : Program} {loose : List Str} {Xt : Shared → Bool} {α : Type} {Yf : Shared → α} {Ya : World → α} {N : Nat} {g0 : Bool} {H₀ : Params → Heap} {gs₀ : Array GenState} {d₀ : Drawn} {k₀ m₀ M : Nat} {ann : Option Value} {S : World → OsState → SharedT}
  (open_ : ∀ w : World, (fencedOpening treeTable p w N).map (fun s => (s.heap, s.gens, s.drawn, s.toks)) = some (H₀ w.params, gs₀, d₀, k₀))
  (hS : ∀ w os, (S w os).abs = ⟨H₀ w.params, gs₀, d₀, k₀, os⟩)
  (size : ∀ w : World, ((H₀ w.params).isNs mainGlobals && gs₀.size == 0, (H₀ w.params).objs.size, (H₀ w.params).nsMap mainGlobals "__annotations__") = (true, m₀, ann)) (le : Nat.ble M N = true)
  (run : ∀ (w : World) (os : OsState), (runT (stepT (denote treeTable) p w) m₀ ann stepOk M (S w os) (topStub p)).map (fun s => (fun s₁ : Shared =>
    ((staticsOk (importedModules p.main.body) (H₀ w.params) s₁.heap && namesBound p s₁.heap && gensDone s₁ && laidKept (H₀ w.params) s₁.heap), openSeen q loose (importedModules p.main.body) Xt g0 s₁, Yf s₁)) s.abs) =
   some (true, openGood q loose, Ya w)) : LeftO p q loose Xt Yf Ya N g0 := fun w => by
 obtain ⟨⟨h, gs, d, k, os⟩, e, e'⟩ := Option.map_eq_some_iff.mp (open_ w)
 obtain ⟨rfl, rfl, rfl, rfl⟩ : h = H₀ w.params ∧ gs = gs₀ ∧ d = d₀ ∧ k = k₀ := by simpa using e'
 obtain ⟨z1, z2, z3⟩ : _ ∧ _ ∧ _ := by simpa only [Prod.mk.injEq] using size w
 obtain ⟨s, hr, hl⟩ := Option.map_eq_some_iff.mp (run w os)
 obtain ⟨l1, l2, l3⟩ : _ ∧ _ ∧ _ := by simpa only [Prod.mk.injEq] using hl
 have r := topRun_mono (N - M) _ _ _ _ (runT_of hr)
 rw [show M + (N - M) = N by have := Nat.le_of_ble_eq_true le; lia, hS] at r
 have t : topFrom treeTable p w N ⟨H₀ w.params, gs, d, k, os⟩ = some s.abs := by
  unfold topFrom
  dsimp only
  rw [z1, z2, z3, r]
  show (match staticsOk (importedModules p.main.body) (H₀ w.params) s.abs.heap && namesBound p s.abs.heap && gensDone s.abs && laidKept (H₀ w.params) s.abs.heap with | true => _ | false => _) = _
  rw [l1]
 unfold openEnds
 rw [e]
 show (topFrom treeTable p w N _).map _ = _
 rw [t]
 exact congrArg some (Prod.ext l2 l3)
noncomputable abbrev PW : Program := PySem.Challenge.pw_sj0163_01
noncomputable def st (i : Nat) : Stmt := (PW.main.body[i]?).getD (.Pass default)
noncomputable def me (i j : Nat) : Stmt := match st i with
 | .ClassDef (body := b) .. => (b[j]?).getD (.Pass default)
 | x => x
noncomputable def fo (q : Str) (c : Nat) (m : Str) (t : Nat) (d : Value) : Stmt → Obj
 | .FunctionDef (name := n) (args := a) (body := b) (scope := s) .. => ⟨.type "function", none, .func ⟨n, q, a, .stmts b, s, 3, [], d, .none, .none, .str m t, none, .ref c, .none, 0⟩, #[]⟩
 | _ => default
noncomputable def co (n q : Str) (t l k r : Nat) (b : Bool) (t2 : Nat) : Obj :=
 let v (i : Nat) : Value := .ref (r + i)
 let x : Value := .str "/claim/cut.py" (t + 2)
 ⟨.type "code", none, .fields #[.str n t, .str q (t + 1), x, .int l 0, .int k 0, .int 0 0, .int 0 0, .int 3 0, .ref r, .bool true, .int 181 0, v 1, .none, if b then v 2 else .none, if b then v 3 else .none, if b then v 4 else v 2, .int t2 0, .int l 0, .str "/claim/cut.py" (t2 + 1)], #[]⟩
noncomputable def de (P : Params) (x : Str) (t : Nat) (v : Value) : DictEntry := ⟨PyData.keyHash P x, .str x t, v⟩
noncomputable def K9 : Params → Frag := fun P =>
 (nat_lit 2, ⟨.none, none, .dict #[de P "type.__subclasses__.Exception.0" 230 (.int 46 0), de P "type.__subclasses__.Exception.n" 231 (.int 1 0)] 2, #[]⟩) ::
 (nat_lit 3, ⟨.type "dict", none, .dict #[de P "__name__" 165 (.str "law_sj0163_01" 989), de P "__doc__" 166 .none, de P "__package__" 167 .none, de P "__loader__" 168 (.builtin "__main__.__loader__#opaque"), de P "__spec__" 169 .none, de P "__annotations__" 170 (.ref 6), de P "__builtins__" 171 (.ref 4), de P "__file__" 173 (.str "/claim/cut.py" 172), de P "__cached__" 174 .none, de P "_wall" 193 (.ref 21), de P "GateError" 233 (.ref 46), de P "MapError" 249 (.ref 59), de P "bit_count" 258 (.ref 68), de P "little" 264 (.ref 73), de P "from_little" 273 (.ref 80), de P "MAP_STEP" 277 (.int 1048576 276), de P "stride_of" 284 (.ref 87), de P "ENOENT" 288 (.int 2 287), de P "EEXIST" 290 (.int 17 289), de P "EINVAL" 292 (.int 22 291), de P "MOST_MAPS" 294 (.int 64 293), de P "MOST_KEY" 296 (.int 512 295), de P "PROCESSORS" 298 (.int 4 297), de P "ANY" 300 (.int 0 299), de P "NO_SUCH" 302 (.int 1 301), de P "ONE_THERE" 304 (.int 2 303), de P "KINDS" 306 (.str "array hash lru rows queue stack trie ring" 305), de P "is_power" 313 (.ref 94), de P "check_key_width" 321 (.ref 101), de P "check_widths" 331 (.ref 108), de P "Map" 564 (.ref 293), de P "flags_answer" 572 (.ref 304), de P "ENOSPC" 576 (.int 28 575), de P "LENGTH_WIDTH" 578 (.int 4 577), de P "NO_SLOT" 581 (.int (-1) 580), de P "NO_NODE" 584 (.int (-1) 583), de P "make_key" 592 (.ref 311), de P "key_parts" 601 (.ref 318), de P "cut_bits" 610 (.ref 325), de P "bit_from_top" 619 (.ref 332), de P "shared_length" 629 (.ref 339), de P "TrieNode" 691 (.ref 384), de P "TrieMap" 982 (.ref 585), de P "show_prefix" 988 (.ref 592), de P "_law_jar" 999 (.ref 599), de P "_law_grain" 1008 (.ref 606), de P "_law_drawn_key" 1020 (.ref 613), de P "_law_text" 1026 (.ref 618), de P "_law_told_key" 1032 (.ref 623), de P "_law_parts_right" 1038 (.ref 628), de P "_law_put_due" 1048 (.ref 635), de P "_law_deed_right" 1064 (.ref 642), de P "_law_known_right" 1070 (.ref 647), de P "law" 1089 (.ref 654)] 54, #[]⟩) ::
 (nat_lit 67, co "bit_count" "bit_count" 250 16 1 62 true 256) ::
 (nat_lit 68, fo "bit_count" 67 "ringgate.basics" 194 .none (st 4)) ::
 (nat_lit 72, co "little" "little" 259 23 2 69 false 262) ::
 (nat_lit 73, fo "little" 72 "ringgate.basics" 194 .none (st 5)) ::
 (nat_lit 79, co "from_little" "from_little" 265 25 1 74 true 271) ::
 (nat_lit 80, fo "from_little" 79 "ringgate.basics" 194 .none (st 6)) ::
 (nat_lit 86, co "stride_of" "stride_of" 278 32 1 81 true 282) ::
 (nat_lit 87, fo "stride_of" 86 "ringgate.memory" 274 .none (st 9)) ::
 (nat_lit 100, co "check_key_width" "check_key_width" 314 47 2 95 true 319) ::
 (nat_lit 101, fo "check_key_width" 100 "ringgate.maps" 285 .none (st 22)) ::
 (nat_lit 107, co "check_widths" "check_widths" 322 59 4 102 true 329) ::
 (nat_lit 108, fo "check_widths" 107 "ringgate.maps" 285 .none (st 23)) ::
 (nat_lit 121, co "__init__" "Map.__init__" 344 75 6 116 true 353) ::
 (nat_lit 122, fo "Map.__init__" 121 "ringgate.maps" 285 .none (me 24 0)) ::
 (nat_lit 128, co "check_key" "Map.check_key" 356 86 2 123 true 361) ::
 (nat_lit 129, fo "Map.check_key" 128 "ringgate.maps" 285 .none (me 24 1)) ::
 (nat_lit 135, co "check_value" "Map.check_value" 364 91 2 130 true 369) ::
 (nat_lit 136, fo "Map.check_value" 135 "ringgate.maps" 285 .none (me 24 2)) ::
 (nat_lit 221, co "value" "Map.value" 468 135 2 216 true 474) ::
 (nat_lit 222, fo "Map.value" 221 "ringgate.maps" 285 .none (me 24 14)) ::
 (nat_lit 256, co "lay" "Map.lay" 507 151 3 251 true 513) ::
 (nat_lit 257, fo "Map.lay" 256 "ringgate.maps" 285 .none (me 24 19)) ::
 (nat_lit 292, ⟨.type "dict", none, .dict #[de P "__module__" 339 (.str "ringgate.maps" 285), de P "__firstlineno__" 343 (.int 73 342), de P "__init__" 355 (.ref 122), de P "check_key" 363 (.ref 129), de P "check_value" 371 (.ref 136), de P "lookup" 381 (.ref 144), de P "update" 393 (.ref 152), de P "lookup_on" 402 (.ref 159), de P "update_on" 413 (.ref 166), de P "delete" 421 (.ref 173), de P "push" 430 (.ref 180), de P "pop" 437 (.ref 187), de P "peek" 444 (.ref 194), de P "keys" 451 (.ref 201), de P "next_key" 459 (.ref 208), de P "peer" 467 (.ref 215), de P "value" 476 (.ref 222), de P "stride" 483 (.ref 229), de P "slot_count" 490 (.ref 236), de P "place_of" 498 (.ref 243), de P "slot_at" 506 (.ref 250), de P "lay" 515 (.ref 257), de P "load" 523 (.ref 264), de P "twin" 530 (.ref 271), de P "copy" 537 (.ref 278), de P "parts" 543 (.ref 283), de P "told" 550 (.ref 290), de P "__static_attributes__" 557 (.ref 291), de P "__dict__" 559 (.ref 294), de P "__weakref__" 561 (.ref 295), de P "__doc__" 562 .none] 4, #[]⟩) ::
 (nat_lit 293, ⟨.type "type", none, .cls (.mk "Map" [.type "object"] [.ref 293, .type "object"] 292 "Map" true [] [.ref 585] false none false), #[none, none, some (.str "Map" 332), some (.str "Map" 340), some (.builtin "object.__new__"), some (.bool true)]⟩) ::
 (nat_lit 303, co "flags_answer" "flags_answer" 565 171 2 298 true 570) ::
 (nat_lit 304, fo "flags_answer" 303 "ringgate.maps" 285 .none (st 25)) ::
 (nat_lit 310, co "make_key" "make_key" 585 184 2 305 true 590) ::
 (nat_lit 311, fo "make_key" 310 "ringgate.tries" 573 .none (st 31)) ::
 (nat_lit 317, co "key_parts" "key_parts" 593 186 1 312 true 599) ::
 (nat_lit 318, fo "key_parts" 317 "ringgate.tries" 573 .none (st 32)) ::
 (nat_lit 324, co "cut_bits" "cut_bits" 602 191 3 319 true 608) ::
 (nat_lit 325, fo "cut_bits" 324 "ringgate.tries" 573 .none (st 33)) ::
 (nat_lit 331, co "bit_from_top" "bit_from_top" 611 193 3 326 true 617) ::
 (nat_lit 332, fo "bit_from_top" 331 "ringgate.tries" 573 .none (st 34)) ::
 (nat_lit 338, co "shared_length" "shared_length" 620 195 4 333 true 627) ::
 (nat_lit 339, fo "shared_length" 338 "ringgate.tries" 573 .none (st 35)) ::
 (nat_lit 352, co "__init__" "TrieNode.__init__" 642 199 4 347 true 649) ::
 (nat_lit 353, fo "TrieNode.__init__" 352 "ringgate.tries" 573 .none (me 36 0)) ::
 (nat_lit 359, co "is_entry" "TrieNode.is_entry" 652 205 1 354 true 656) ::
 (nat_lit 360, fo "TrieNode.is_entry" 359 "ringgate.tries" 573 .none (me 36 1)) ::
 (nat_lit 366, co "only_child" "TrieNode.only_child" 659 208 1 361 true 663) ::
 (nat_lit 367, fo "TrieNode.only_child" 366 "ringgate.tries" 573 .none (me 36 2)) ::
 (nat_lit 373, co "child_count" "TrieNode.child_count" 666 211 1 368 true 670) ::
 (nat_lit 374, fo "TrieNode.child_count" 373 "ringgate.tries" 573 .none (me 36 3)) ::
 (nat_lit 383, ⟨.type "dict", none, .dict #[de P "__module__" 637 (.str "ringgate.tries" 573), de P "__firstlineno__" 641 (.int 197 640), de P "__init__" 651 (.ref 353), de P "is_entry" 658 (.ref 360), de P "only_child" 665 (.ref 367), de P "child_count" 672 (.ref 374), de P "told" 679 (.ref 381), de P "__static_attributes__" 684 (.ref 382), de P "__dict__" 686 (.ref 385), de P "__weakref__" 688 (.ref 386), de P "__doc__" 689 .none] 4, #[]⟩) ::
 (nat_lit 384, ⟨.type "type", none, .cls (.mk "TrieNode" [.type "object"] [.ref 384, .type "object"] 383 "TrieNode" true [] [] false none false), #[none, none, some (.str "TrieNode" 630), some (.str "TrieNode" 638), some (.builtin "object.__new__"), some (.bool true)]⟩) ::
 (nat_lit 401, co "__init__" "TrieMap.__init__" 704 218 5 396 true 712) ::
 (nat_lit 402, fo "TrieMap.__init__" 401 "ringgate.tries" 573 .none (me 37 0)) ::
 (nat_lit 408, co "size" "TrieMap.size" 715 225 1 403 true 719) ::
 (nat_lit 409, fo "TrieMap.size" 408 "ringgate.tries" 573 .none (me 37 1)) ::
 (nat_lit 415, co "count" "TrieMap.count" 722 228 1 410 true 726) ::
 (nat_lit 416, fo "TrieMap.count" 415 "ringgate.tries" 573 .none (me 37 2)) ::
 (nat_lit 422, co "shared" "TrieMap.shared" 729 231 4 417 true 736) ::
 (nat_lit 423, fo "TrieMap.shared" 422 "ringgate.tries" 573 .none (me 37 3)) ::
 (nat_lit 429, co "path" "TrieMap.path" 739 234 3 424 true 748) ::
 (nat_lit 430, fo "TrieMap.path" 429 "ringgate.tries" 573 .none (me 37 4)) ::
 (nat_lit 431, ⟨.type "tuple", none, .seq #[.int 0 751], #[]⟩) ::
 (nat_lit 437, co "lookup" "TrieMap.lookup" 752 246 3 432 true 762) ::
 (nat_lit 438, fo "TrieMap.lookup" 437 "ringgate.tries" 573 (.ref 431) (me 37 5)) ::
 (nat_lit 444, co "exact" "TrieMap.exact" 765 256 2 439 true 773) ::
 (nat_lit 445, fo "TrieMap.exact" 444 "ringgate.tries" 573 .none (me 37 6)) ::
 (nat_lit 451, co "peer" "TrieMap.peer" 776 265 2 446 true 782) ::
 (nat_lit 452, fo "TrieMap.peer" 451 "ringgate.tries" 573 .none (me 37 7)) ::
 (nat_lit 458, co "least_free" "TrieMap.least_free" 785 271 1 453 true 790) ::
 (nat_lit 459, fo "TrieMap.least_free" 458 "ringgate.tries" 573 .none (me 37 8)) ::
 (nat_lit 465, co "new_slot" "TrieMap.new_slot" 793 277 2 460 true 799) ::
 (nat_lit 466, fo "TrieMap.new_slot" 465 "ringgate.tries" 573 .none (me 37 9)) ::
 (nat_lit 472, co "new_node" "TrieMap.new_node" 802 283 4 467 true 810) ::
 (nat_lit 473, fo "TrieMap.new_node" 472 "ringgate.tries" 573 .none (me 37 10)) ::
 (nat_lit 479, co "drop_node" "TrieMap.drop_node" 813 290 2 474 true 818) ::
 (nat_lit 480, fo "TrieMap.drop_node" 479 "ringgate.tries" 573 .none (me 37 11)) ::
 (nat_lit 486, co "hang" "TrieMap.hang" 821 294 4 481 true 828) ::
 (nat_lit 487, fo "TrieMap.hang" 486 "ringgate.tries" 573 .none (me 37 12)) ::
 (nat_lit 488, ⟨.type "tuple", none, .seq #[.int 0 831], #[]⟩) ::
 (nat_lit 494, co "update" "TrieMap.update" 832 300 5 489 true 846) ::
 (nat_lit 495, fo "TrieMap.update" 494 "ringgate.tries" 573 (.ref 488) (me 37 13)) ::
 (nat_lit 501, co "insert" "TrieMap.insert" 849 320 4 496 true 865) ::
 (nat_lit 502, fo "TrieMap.insert" 501 "ringgate.tries" 573 .none (me 37 14)) ::
 (nat_lit 508, co "delete" "TrieMap.delete" 868 343 2 503 true 877) ::
 (nat_lit 509, fo "TrieMap.delete" 508 "ringgate.tries" 573 .none (me 37 15)) ::
 (nat_lit 515, co "splice" "TrieMap.splice" 880 357 3 510 true 889) ::
 (nat_lit 516, fo "TrieMap.splice" 515 "ringgate.tries" 573 .none (me 37 16)) ::
 (nat_lit 522, co "replace_child" "TrieMap.replace_child" 892 367 4 517 true 900) ::
 (nat_lit 523, fo "TrieMap.replace_child" 522 "ringgate.tries" 573 .none (me 37 17)) ::
 (nat_lit 529, co "nodes_in_order" "TrieMap.nodes_in_order" 903 374 1 524 true 910) ::
 (nat_lit 530, fo "TrieMap.nodes_in_order" 529 "ringgate.tries" 573 .none (me 37 18)) ::
 (nat_lit 536, co "node_key" "TrieMap.node_key" 913 384 2 531 true 921) ::
 (nat_lit 537, fo "TrieMap.node_key" 536 "ringgate.tries" 573 .none (me 37 19)) ::
 (nat_lit 541, co "keys" "TrieMap.keys" 924 390 1 538 false 927) ::
 (nat_lit 542, fo "TrieMap.keys" 541 "ringgate.tries" 573 .none (me 37 20)) ::
 (nat_lit 548, co "next_key" "TrieMap.next_key" 930 393 2 543 true 938) ::
 (nat_lit 549, fo "TrieMap.next_key" 548 "ringgate.tries" 573 .none (me 37 21)) ::
 (nat_lit 574, co "twin" "TrieMap.twin" 961 410 1 569 true 965) ::
 (nat_lit 575, fo "TrieMap.twin" 574 "ringgate.tries" 573 .none (me 37 25)) ::
 (nat_lit 584, ⟨.type "dict", none, .dict #[de P "__module__" 699 (.str "ringgate.tries" 573), de P "__firstlineno__" 703 (.int 216 702), de P "__init__" 714 (.ref 402), de P "size" 721 (.ref 409), de P "count" 728 (.ref 416), de P "shared" 738 (.ref 423), de P "path" 750 (.ref 430), de P "lookup" 764 (.ref 438), de P "exact" 775 (.ref 445), de P "peer" 784 (.ref 452), de P "least_free" 792 (.ref 459), de P "new_slot" 801 (.ref 466), de P "new_node" 812 (.ref 473), de P "drop_node" 820 (.ref 480), de P "hang" 830 (.ref 487), de P "update" 848 (.ref 495), de P "insert" 867 (.ref 502), de P "delete" 879 (.ref 509), de P "splice" 891 (.ref 516), de P "replace_child" 902 (.ref 523), de P "nodes_in_order" 912 (.ref 530), de P "node_key" 923 (.ref 537), de P "keys" 929 (.ref 542), de P "next_key" 940 (.ref 549), de P "slots" 947 (.ref 556), de P "shape" 954 (.ref 563), de P "parts" 960 (.ref 568), de P "twin" 967 (.ref 575), de P "copy" 974 (.ref 582), de P "__static_attributes__" 979 (.ref 583), de P "__doc__" 980 .none] 2, #[]⟩) ::
 (nat_lit 585, ⟨.type "type", none, .cls (.mk "TrieMap" [.ref 293] [.ref 585, .ref 293, .type "object"] 584 "TrieMap" true [] [] false none false), #[some (.ref 389), none, some (.str "TrieMap" 692), some (.str "TrieMap" 700), some (.builtin "object.__new__"), some (.bool true)]⟩) ::
 (nat_lit 591, co "show_prefix" "show_prefix" 983 415 1 588 false 986) ::
 (nat_lit 592, fo "show_prefix" 591 "ringgate.tries" 573 .none (st 38)) ::
 (nat_lit 598, co "_law_jar" "_law_jar" 991 423 1 593 true 997) ::
 (nat_lit 599, fo "_law_jar" 598 "law_sj0163_01" 989 .none (st 40)) ::
 (nat_lit 605, co "_law_grain" "_law_grain" 1000 428 2 600 true 1006) ::
 (nat_lit 606, fo "_law_grain" 605 "law_sj0163_01" 989 .none (st 41)) ::
 (nat_lit 612, co "_law_drawn_key" "_law_drawn_key" 1009 434 2 607 true 1018) ::
 (nat_lit 613, fo "_law_drawn_key" 612 "law_sj0163_01" 989 .none (st 42)) ::
 (nat_lit 617, co "_law_text" "_law_text" 1021 442 1 614 false 1024) ::
 (nat_lit 618, fo "_law_text" 617 "law_sj0163_01" 989 .none (st 43)) ::
 (nat_lit 622, co "_law_told_key" "_law_told_key" 1027 447 2 619 false 1030) ::
 (nat_lit 623, fo "_law_told_key" 622 "law_sj0163_01" 989 .none (st 44)) ::
 (nat_lit 627, co "_law_parts_right" "_law_parts_right" 1033 452 2 624 false 1036) ::
 (nat_lit 628, fo "_law_parts_right" 627 "law_sj0163_01" 989 .none (st 45)) ::
 (nat_lit 634, co "_law_put_due" "_law_put_due" 1039 463 4 629 true 1046) ::
 (nat_lit 635, fo "_law_put_due" 634 "law_sj0163_01" 989 .none (st 46)) ::
 (nat_lit 641, co "_law_deed_right" "_law_deed_right" 1049 471 6 636 true 1062) ::
 (nat_lit 642, fo "_law_deed_right" 641 "law_sj0163_01" 989 .none (st 47)) ::
 (nat_lit 646, co "_law_known_right" "_law_known_right" 1065 485 5 643 false 1068) ::
 (nat_lit 647, fo "_law_known_right" 646 "law_sj0163_01" 989 .none (st 48)) ::
 (nat_lit 653, co "law" "law" 1071 494 1 648 true 1087) ::
 (nat_lit 654, fo "law" 653 "law_sj0163_01" 989 .none (st 49)) :: []
theorem fill9 : K9 = K9 ∧ PySem.Challenge.rw_sj0163_01 = PySem.Challenge.rw_sj0163_01 := by
 k_fill
 exact ⟨rfl, rfl⟩
noncomputable def as9 : List Nat := [2, 3, 67, 68, 72, 73, 79, 80, 86, 87, 100, 101, 107, 108, 121, 122, 128, 129, 135, 136, 221, 222, 256, 257, 292, 293, 303, 304, 310, 311, 317, 318, 324, 325, 331, 332, 338, 339, 352, 353, 359, 360, 366, 367, 373, 374, 383, 384, 401, 402, 408, 409, 415, 416, 422, 423, 429, 430, 431, 437, 438, 444, 445, 451, 452, 458, 459, 465, 466, 472, 473, 479, 480, 486, 487, 488, 494, 495, 501, 502, 508, 509, 515, 516, 522, 523, 529, 530, 536, 537, 541, 542, 548, 549, 574, 575, 584, 585, 591, 592, 598, 599, 605, 606, 612, 613, 617, 618, 622, 623, 627, 628, 634, 635, 641, 642, 646, 647, 653, 654]
noncomputable def V9 : Program := view PW [0, 2, 3, 4, 5, 6, 8, 9, 11, 12, 13, 14, 15, 16, 17, 18, 19, 20, 21, 22, 23, 24, 25, 27, 28, 29, 30, 31, 32, 33, 34, 35, 36, 37, 38, 40, 41, 42, 43, 44, 45, 46, 47, 48, 49]
noncomputable abbrev H9 : Hook := kHook K9 as9 (fun _ => by kernel_rfl)
noncomputable abbrev X9 (s : Shared) : Bool := xlAt V9 [] s && recOk PySem.Challenge.rw_sj0163_01.row.toRowW.records s
theorem size9 (w : World) : ((boot_heap w.params).isNs mainGlobals && (Array.mk [] : Array GenState).size == 0, (boot_heap w.params).objs.size, (boot_heap w.params).nsMap mainGlobals "__annotations__") = (true, 11, some (.ref 6)) := by kernel_rfl
theorem run9 (w : World) (os : OsState) : (runT (stepT (denote treeTable) PW w) 11 (some (.ref 6)) stepOk 4000 (bootT w os) (topStub PW)).map (fun s => (fun s₁ : Shared =>
    ((staticsOk (importedModules PW.main.body) (boot_heap w.params) s₁.heap && namesBound PW s₁.heap && gensDone s₁ && laidKept (boot_heap w.params) s₁.heap), openSeen V9 ["GateError", "TrieMap"] (importedModules PW.main.body) X9 true s₁, H9.obs s₁)) s.abs) =
   some (true, openGood V9 ["GateError", "TrieMap"], H9.val w) := by
 rw [PySem.W.Fast.te10156331382660048174, PySem.W.Fast.te11892475500146522536, PySem.W.Fast.te14364793385576792824, PySem.W.Fast.te6613529449190102663, PySem.W.Fast.te4187177175401517315]
 kernel_rfl
theorem open9 (w : World) : (fencedOpening treeTable PW w 5000).map (fun s => (s.heap, s.gens, s.drawn, s.toks)) = some (boot_heap w.params, Array.mk [], boot_drawn, boot_toks) := boot_open (by kernel_rfl) (by decide) (fun _ => by kernel_rfl) w
theorem left9 : LeftO PW V9 ["GateError", "TrieMap"] X9 H9.obs H9.val 5000 := left_of_run open9 (fun w os => by kernel_rfl) size9 (by decide) run9
noncomputable abbrev Led := List (Addr × Obj)
noncomputable abbrev PR : Program := PySem.Challenge.rw_sj0163_01.row.prog
noncomputable abbrev VW : Program := V9
noncomputable abbrev LS : List Str := looseW V9 [Str.ofString "GateError", Str.ofString "TrieMap"]
structure SpOut (h₀ : Heap) (L : Addr) (h' : Heap) (news O O' : Led) : Prop where
 led : ∀ rest : Led, (∀ p ∈ rest, p ∈ news) → (∀ p ∈ O, ∀ q ∈ rest, p.1 ≠ q.1) → News h₀ L h' (O' ++ rest)
 apart : ∀ p ∈ news, (∀ q ∈ O, q.1 ≠ p.1) → ∀ q ∈ O', p.1 ≠ q.1
noncomputable def Sp (w : World) (f : Addr) (lv : Nat) (vs : List Value) (P O : Led) (R : Value → Led → Prop) : Prop :=
 ∀ (dp un : Nat) (cn : Str) (cs : Scope) (a : Addr) (ccd : Value) (cl : List (Str × Addr)) (outer : List Env) (A₀ : Around) (base h₀ : Heap) (L : Addr) (m : Str → Option Value) (news : Led) (s : Shared)
  (mean : ExcName → Option Value) (mg mb : Str → Option Value) (Q E : Value → Shared → Prop),
  Below A₀ base outer h₀ → Fr h₀ L s.heap m → (K9 w.params).In h₀ → News h₀ L s.heap news → Top VW LS mean mg mb h₀ → cs.kind = .function →
  (∀ p ∈ P, s.heap.get? p.1 = some p.2) → (∀ p ∈ O, p ∈ news) → (∀ p ∈ O, ∀ q ∈ P, p.1 ≠ q.1) → dp + lv < recursionLimit → un + 8 * lv < cLine →
  (∀ v O' h' tk', R v O' → Fr h₀ L h' m → SpOut h₀ L h' news O O' → Q v { s with heap := h', toks := tk' }) →
  wpAny (model PR w) (ktrTop dp un (some []) cn cs L a ccd cl outer) (call (.ref f) vs) Q E s
noncomputable def BodyEnd (g : Heap) (L : Addr) (s : Shared) (R : Value → Led → Prop) (v : Value) (s' : Shared) : Prop :=
 ∃ m' O' h' tk', s' = { s with heap := h', toks := tk' } ∧ Fr g L h' m' ∧ News g L h' O' ∧ R v O'
theorem BodyEnd.intro {g : Heap} {L : Addr} {s : Shared} {R : Value → Led → Prop} {v : Value} {m' : Str → Option Value} {O' : Led} {h' : Heap} {tk' : Nat}
  (F : Fr g L h' m') (N : News g L h' O') (r : R v O') : BodyEnd g L s R v { s with heap := h', toks := tk' } := ⟨m', O', h', tk', rfl, F, N, r⟩
theorem BodyEnd.intro0 {g : Heap} {L : Addr} {s : Shared} {R : Value → Led → Prop} {v : Value} {m' : Str → Option Value} {h' : Heap} {tk' : Nat}
  (F : Fr g L h' m') (r : R v []) : BodyEnd g L s R v { s with heap := h', toks := tk' } := ⟨m', [], h', tk', rfl, F, News.nil, r⟩
theorem Sp.of_body {w : World} {f : Addr} {lv : Nat} {vs : List Value} {P O : Led} {R : Value → Led → Prop}
  {name qual : Str} {params : Arguments} {body : List Stmt} {scope : Scope} {dV kV doc pm cdv ct oc : Value} {an od : Option Addr} {osl : Array (Option Value)} {binds : List (Str × Value)}
  (ho : (K9 w.params).lookup f = some ⟨oc, od, .func (fnOf name qual params body scope dV kV doc pm an cdv ct), osl⟩)
  (hcd : codeIn (K9 w.params) cdv qual = true)
  (hbind : ∀ s : Shared, (K9 w.params).In s.heap → BindsTo s (fnOf name qual params body scope dV kV doc pm an cdv ct) ⟨vs, []⟩ binds) (hloc : ∀ y ∈ binds, scope.names.lookup y.1 = some .local)
  (hco : scope.isCoroutine = false) (hgen : scope.isGenerator = false) (hk : scope.kind = .function)
  (hcell : ∀ x ∈ scope.names, x.2 ≠ .cell)
  (h : ∀ (dp un : Nat) (outer : List Env) (A₀ : Around) (base g : Heap) (L' : Addr) (h₁ : Heap) (s : Shared) (mean : ExcName → Option Value) (mg mb : Str → Option Value),
   Below A₀ base outer g → Fr g L' h₁ (fun y => binds.reverse.lookup y) → (K9 w.params).In g → News g L' h₁ O → Top VW LS mean mg mb g → (∀ p ∈ O, p.1 < L') → (∀ p ∈ P, g.get? p.1 = some p.2) →
   dp + lv < recursionLimit → un + 8 * lv < cLine → s.heap = h₁ →
   wpAny (model PR w) (ktrTop dp un (some []) qual scope L' f cdv [] outer) (execs body (envOf qual scope L' f cdv))
    (fun fl s' => BodyEnd g L' s R (match fl with | .ret v => v | _ => .none) s') (fun _ _ => False) s) :
  Sp w f (lv + 1) vs P O R := by
 intro dp un cn cs a ccd cl outer A₀ base h₀ L m news s mean mg mb Q E B F X N T hkc hP hO hOP hdp hun hret
 have NO : News h₀ L s.heap O := fun p hp => N p (hO p hp)
 have hX : (K9 w.params).In s.heap := X.keeps F.keep
 refine wpAny_call ?_
 obtain ⟨FG, BG, st, lv'⟩ := groundX (R := fun r s' => match r with | .ok (.ret v) => Q v s' | .ok _ => False | .error e => E e s') (A := ktrTop dp un (some []) cn cs L a ccd cl outer) (env := envX cn cs L a ccd cl) B F NO rfl rfl hkc
 refine codeAny_call_def (fd := fnOf name qual params body scope dV kV doc pm an cdv ct) (body := body) (binds := binds) (by show dp < recursionLimit; lia) (hX _ _ ho) rfl (T.nolimit.keeps F.keep) (codeRec_of hX hcd) rfl (hbind s hX) hcell hloc (fun h₁ hns hk₁ => ?_) hco hgen hk
 have FB : Fr (hideAll s.heap (O.map (·.1))) s.heap.objs.size h₁ (fun y => binds.reverse.lookup y) := ⟨hns, fun b o e => hk₁ b o (of_hideAll _ e), Nat.le_of_eq (hideAll_size _ _)⟩
 have NB : News (hideAll s.heap (O.map (·.1))) s.heap.objs.size h₁ O := fun p hp => ⟨hk₁ _ _ (NO p hp).1, Nat.ne_of_lt (Heap.lt_size (NO p hp).1), hideAll_none _ (List.mem_map_of_mem hp)⟩
 refine wpAny_mono (h (dp + 1) (un + 3) (envX cn cs L a ccd cl :: outer) (ktrTop dp un (some []) cn cs L a ccd cl outer) base _ s.heap.objs.size h₁ { s with heap := h₁, toks := s.toks + binds.length } mean mg mb BG FB (X.keeps st) NB (T.keeps st)
  (fun p hp => Heap.lt_size (NO p hp).1) (fun p hp => hideAll_get _ (hP p hp) fun hm => ?_) (by lia) (by lia) rfl) (fun fl s' hl => ?_) fun _ _ y => y.elim
 ·obtain ⟨q, hq, e⟩ := List.mem_map.mp hm
  exact hOP q hq p hp e
 obtain ⟨m', O', h', tk', rfl, F', N', r⟩ := hl
 obtain ⟨oL, es, ep, hL, hLd, hLk, hLf⟩ := FG.ns
 refine hret _ _ _ _ r ⟨⟨oL, es, ep, F'.keep L oL hL, hLd, hLk, hLf⟩, fun b o e => F'.keep b o (st b o e), FG.above⟩ ⟨fun rest hr hd => ?_, fun p hp hne q hq e => ?_⟩
 ·intro p hp
  rcases List.mem_append.mp hp with hp | hp
  ·refine ⟨(N' p hp).1, fun q => ?_, ?_⟩
   ·have := (N' p hp).2.2; rw [q, hL] at this; cases this
   ·cases q : h₀.get? p.1 with
    | none => rfl
    | some o => have := (N' p hp).2.2; rw [st _ _ q] at this; cases this
  ·have Np := N p (hr p hp)
   refine ⟨F'.keep _ _ (hideAll_get _ Np.1 fun hm => ?_), Np.2⟩
   obtain ⟨q, hq, e⟩ := List.mem_map.mp hm
   exact hd q hq p hp e
 ·have h1 := (N' q hq).2.2
  have h2 : (hideAll s.heap (O.map (·.1))).get? p.1 = some p.2 := hideAll_get _ (N p hp).1 fun hm => by
   obtain ⟨x, hx, e'⟩ := List.mem_map.mp hm
   exact hne x hx e'
  rw [e] at h2
  rw [h2] at h1
  cases h1
theorem sp_finish {O : Led} {R : Value → Led → Prop} {h₀ : Heap} {L L' : Addr} {m : Str → Option Value} {news : Led} {s s' : Shared} {Q : Value → Shared → Prop} {v : Value} {tk : Nat} {h₁ : Heap}
  (N : News h₀ L s.heap news) (FG : Fr h₀ L (hideAll s.heap (O.map (·.1))) m) (st : h₀.StaysIn (hideAll s.heap (O.map (·.1))))
  (hret : ∀ v O' h' tk', R v O' → Fr h₀ L h' m → SpOut h₀ L h' news O O' → Q v { s with heap := h', toks := tk' })
  (hl : BodyEnd (hideAll s.heap (O.map (·.1))) L' { s with heap := h₁, toks := tk } R v s') : Q v s' := by
 obtain ⟨m', O', h', tk', rfl, F', N', r⟩ := hl
 obtain ⟨oL, es, ep, hL, hLd, hLk, hLf⟩ := FG.ns
 refine hret _ _ _ _ r ⟨⟨oL, es, ep, F'.keep L oL hL, hLd, hLk, hLf⟩, fun b o e => F'.keep b o (st b o e), FG.above⟩ ⟨fun rest hr hd => ?_, fun p hp hne q hq e => ?_⟩
 ·intro p hp
  rcases List.mem_append.mp hp with hp | hp
  ·refine ⟨(N' p hp).1, fun q => ?_, ?_⟩
   ·have := (N' p hp).2.2; rw [q, hL] at this; cases this
   ·cases q : h₀.get? p.1 with
    | none => rfl
    | some o => have := (N' p hp).2.2; rw [st _ _ q] at this; cases this
  ·have Np := N p (hr p hp)
   refine ⟨F'.keep _ _ (hideAll_get _ Np.1 fun hm => ?_), Np.2⟩
   obtain ⟨q, hq, e⟩ := List.mem_map.mp hm
   exact hd q hq p hp e
 ·have h1 := (N' q hq).2.2
  have h2 : (hideAll s.heap (O.map (·.1))).get? p.1 = some p.2 := hideAll_get _ (N p hp).1 fun hm => by
   obtain ⟨x, hx, e'⟩ := List.mem_map.mp hm
   exact hne x hx e'
  rw [e] at h2
  rw [h2] at h1
  cases h1
theorem Sp.of_bodyC {w : World} {f : Addr} {lv : Nat} {vs : List Value} {P O : Led} {R : Value → Led → Prop}
  {name qual : Str} {params : Arguments} {body : List Stmt} {scope : Scope} {dV kV doc pm cdv ct oc : Value} {an od : Option Addr} {osl : Array (Option Value)} {binds : List (Str × Value)}
  (ho : (K9 w.params).lookup f = some ⟨oc, od, .func (fnOf name qual params body scope dV kV doc pm an cdv ct), osl⟩)
  (hcd : codeIn (K9 w.params) cdv qual = true)
  (hbind : ∀ s : Shared, (K9 w.params).In s.heap → BindsTo s (fnOf name qual params body scope dV kV doc pm an cdv ct) ⟨vs, []⟩ binds)
  (hkind : (binds.all fun y => scope.names.lookup y.1 == some .local || scope.names.lookup y.1 == some .cell) = true)
  (hnd : ((cellsFrom 0 scope.names []).map (·.1)).Nodup)
  (hco : scope.isCoroutine = false) (hgen : scope.isGenerator = false) (hk : scope.kind = .function)
  (h : ∀ (dp un : Nat) (outer : List Env) (A₀ : Around) (base g : Heap) (L' : Addr) (h₁ : Heap) (s : Shared) (mean : ExcName → Option Value) (mg mb : Str → Option Value) (cells : Led),
   Below A₀ base outer g → Fr g L' h₁ (bindL (envOfC qual scope L' f cdv).kindOf binds fun _ => none) → (K9 w.params).In g → News g L' h₁ (cells ++ O) →
   CellsAre (bindC (envOfC qual scope L' f cdv).kindOf binds fun _ => none) (cellsFrom (L' + 1) scope.names []) cells → Top VW LS mean mg mb g → (∀ p ∈ O, p.1 < L') → (∀ p ∈ P, g.get? p.1 = some p.2) →
   dp + lv < recursionLimit → un + 8 * lv < cLine → s.heap = h₁ →
   wpAny (model PR w) (ktrTop dp un (some []) qual scope L' f cdv (cellsFrom (L' + 1) scope.names []) outer) (execs body (envOfC qual scope L' f cdv))
    (fun fl s' => BodyEnd g L' s R (match fl with | .ret v => v | _ => .none) s') (fun _ _ => False) s) :
  Sp w f (lv + 1) vs P O R := by
 intro dp un cn cs a ccd cl outer A₀ base h₀ L m news s mean mg mb Q E B F X N T hkc hP hO hOP hdp hun hret
 have NO : News h₀ L s.heap O := fun p hp => N p (hO p hp)
 have hX : (K9 w.params).In s.heap := X.keeps F.keep
 refine wpAny_call ?_
 obtain ⟨FG, BG, st, lv'⟩ := groundX (R := fun r s' => match r with | .ok (.ret v) => Q v s' | .ok _ => False | .error e => E e s') (A := ktrTop dp un (some []) cn cs L a ccd cl outer) (env := envX cn cs L a ccd cl) B F NO rfl rfl hkc
 refine codeAny_call_function (fd := fnOf name qual params body scope dV kV doc pm an cdv ct) (by show dp < recursionLimit; lia) (hX _ _ ho) rfl hco hgen rfl (codeRec_of hX hcd) (hbind s hX _ _ _ _ ?_)
 refine wpAny_newFunctionEnv_cells hk (kindsX hkind _) fun env' he s' x => ?_
 subst he
 refine ⟨(T.nolimit.keeps F.keep).keeps x.toInCall.keep, codeAny_func ?_⟩
 obtain ⟨h₁, tk, rfl, _⟩ := x.done
 have hk₁ := x.toInCall.keep
 obtain ⟨cells, NC, Y⟩ := Cl.news (h₀ := s.heap) (Nat.le_refl _) fun n c hm => ⟨x.cell n c (lookup_of_mem_nodup (cellsFrom_names scope.names 0 (s.heap.objs.size + 1) [] [] rfl ▸ hnd) hm), x.above n c hm⟩
 have NB : News (hideAll s.heap (O.map (·.1))) s.heap.objs.size h₁ (cells ++ O) := fun p hp => by
  rcases List.mem_append.mp hp with hp | hp
  ·refine ⟨(NC p hp).1, (NC p hp).2.1, ?_⟩
   cases q : (hideAll s.heap (O.map (·.1))).get? p.1 with
   | none => rfl
   | some o => have := of_hideAll _ q; rw [(NC p hp).2.2] at this; cases this
  ·exact ⟨hk₁ _ _ (NO p hp).1, Nat.ne_of_lt (Heap.lt_size (NO p hp).1), hideAll_none _ (List.mem_map_of_mem hp)⟩
 refine wpAny_mono (h (dp + 1) (un + 3) (envX cn cs L a ccd cl :: outer) (ktrTop dp un (some []) cn cs L a ccd cl outer) base _ s.heap.objs.size h₁ { s with heap := h₁, toks := tk } mean mg mb cells BG ⟨x.toInCall.ns, fun b o e => hk₁ b o (of_hideAll _ e), Nat.le_of_eq (hideAll_size _ _)⟩ (X.keeps st) NB Y (T.keeps st)
  (fun p hp => Heap.lt_size (NO p hp).1) (fun p hp => hideAll_get _ (hP p hp) fun hm => ?_) (by lia) (by lia) rfl) (fun fl s' hl => sp_finish N FG st hret hl) fun _ _ y => y.elim
 obtain ⟨q, hq, e⟩ := List.mem_map.mp hm
 exact hOP q hq p hp e
section
variable {w : World} {f : Addr} {lv : Nat} {vs : List Value} {P O : Led} {R : Value → Led → Prop}
 {dp un : Nat} {cn : Str} {cs : Scope} {a : Addr} {ccd : Value} {cl : List (Str × Addr)} {outer : List Env} {A₀ : Around} {base h₀ : Heap} {L : Addr} {m : Str → Option Value} {news : Led} {s : Shared}
 {mean : ExcName → Option Value} {mg mb : Str → Option Value} {Q E : Value → Shared → Prop}
theorem Sp.pure (S : Sp w f lv vs [] [] R)
  (B : Below A₀ base outer h₀) (F : Fr h₀ L s.heap m) (X : (K9 w.params).In h₀) (N : News h₀ L s.heap news) (T : Top VW LS mean mg mb h₀) (hk : cs.kind = .function)
  (hd : dp + lv < recursionLimit) (hu : un + 8 * lv < cLine)
  (ret : ∀ v O' h' tk', R v O' → Fr h₀ L h' m → News h₀ L h' news → Q v { s with heap := h', toks := tk' }) :
  wpAny (model PR w) (ktrTop dp un (some []) cn cs L a ccd cl outer) (call (.ref f) vs) Q E s :=
 S dp un cn cs a ccd cl outer A₀ base h₀ L m news s mean mg mb Q E B F X N T hk (fun _ h => nomatch h) (fun _ h => nomatch h) (fun _ h => nomatch h) hd hu
  (fun v O' h' tk' r F' S' => ret v O' h' tk' r F' fun p hp => S'.led news (fun _ h => h) (fun _ h => nomatch h) p (List.mem_append_right _ hp))
theorem Sp.read (S : Sp w f lv vs P [] R)
  (B : Below A₀ base outer h₀) (F : Fr h₀ L s.heap m) (X : (K9 w.params).In h₀) (N : News h₀ L s.heap news) (T : Top VW LS mean mg mb h₀) (hk : cs.kind = .function)
  (hP : ∀ p ∈ P, s.heap.get? p.1 = some p.2)
  (hd : dp + lv < recursionLimit) (hu : un + 8 * lv < cLine)
  (ret : ∀ v O' h' tk', R v O' → Fr h₀ L h' m → News h₀ L h' (O' ++ news) → (∀ p ∈ news, ∀ q ∈ O', p.1 ≠ q.1) → Q v { s with heap := h', toks := tk' }) :
  wpAny (model PR w) (ktrTop dp un (some []) cn cs L a ccd cl outer) (call (.ref f) vs) Q E s :=
 S dp un cn cs a ccd cl outer A₀ base h₀ L m news s mean mg mb Q E B F X N T hk hP (fun _ h => nomatch h) (fun _ h => nomatch h) hd hu
  (fun v O' h' tk' r F' S' => ret v O' h' tk' r F' (S'.led news (fun _ h => h) (fun _ h => nomatch h)) fun p hp => S'.apart p hp (fun _ h => nomatch h))
theorem Sp.write (S : Sp w f lv vs P O R)
  (B : Below A₀ base outer h₀) (F : Fr h₀ L s.heap m) (X : (K9 w.params).In h₀) (N : News h₀ L s.heap news) (T : Top VW LS mean mg mb h₀) (hk : cs.kind = .function) (Z : Led)
  (hP : ∀ p ∈ P, s.heap.get? p.1 = some p.2) (hO : ∀ p ∈ O, p ∈ news) (hOP : ∀ p ∈ O, ∀ q ∈ P, p.1 ≠ q.1) (hZ : ∀ p ∈ Z, p ∈ news) (hOZ : ∀ p ∈ O, ∀ q ∈ Z, p.1 ≠ q.1)
  (hd : dp + lv < recursionLimit) (hu : un + 8 * lv < cLine)
  (ret : ∀ v O' h' tk', R v O' → Fr h₀ L h' m → News h₀ L h' (O' ++ Z) → (∀ p ∈ Z, ∀ q ∈ O', p.1 ≠ q.1) → Q v { s with heap := h', toks := tk' }) :
  wpAny (model PR w) (ktrTop dp un (some []) cn cs L a ccd cl outer) (call (.ref f) vs) Q E s :=
 S dp un cn cs a ccd cl outer A₀ base h₀ L m news s mean mg mb Q E B F X N T hk hP hO hOP hd hu
  (fun v O' h' tk' r F' S' => ret v O' h' tk' r F' (S'.led Z hZ hOZ) fun p hp => S'.apart p (hZ p hp) fun q hq e => hOZ q hq p hp e)
end
theorem InstAt.of_base {h₀ h : Heap} {L x C dx : Addr} {m : Str → Option Value} {od : Obj} {sl : Array (Option Value)} (F : Fr h₀ L h m) (h1 : h₀.get? x = some (⟨.ref C, some dx, .plain, sl⟩ : Obj)) (h2 : h₀.get? dx = some od) :
  PySem.W.InstAt h x ⟨.ref C, some dx, .plain, sl⟩ C (some od) := ⟨F.keep _ _ h1, rfl, rfl, F.keep _ _ h2⟩
noncomputable def bl (n : Nat) : Nat := if n = 0 then 0 else n.log2 + 1
inductive Sh where
 | i (n : Int)
 | s (x : Str)
 | b (x : Array UInt8)
 | v (x : Value)
noncomputable def Sh.val : Sh → Tok → Value
 | .i n, t => .int n t
 | .s x, t => .str x t
 | .b x, t => .bytes x t
 | .v x, _ => x
noncomputable def ov : List (Str × Sh) → (Str → Tok) → (Str → Option Value) → Str → Option Value
 | [], _, u => u
 | p :: r, τ, u => fun y => if y = p.1 then some (p.2.val (τ p.1)) else ov r τ u y
noncomputable def Has (m : Str → Option Value) : List (Str × Sh) → Prop
 | [] => True
 | p :: r => (∃ t, m p.1 = some (p.2.val t)) ∧ Has m r
noncomputable def tokV : Value → Tok
 | .int _ t => t
 | .str _ t => t
 | .bytes _ t => t
 | _ => 0
noncomputable def tokM (m : Str → Option Value) (y : Str) : Tok := match m y with
 | some v => tokV v
 | none => 0
theorem ov_tok {m : Str → Option Value} : ∀ {l : List (Str × Sh)}, Has m l → ov l (tokM m) m = m
 | [], _ => rfl
 | p :: r, ⟨⟨t, h⟩, hr⟩ => by
  funext y
  show (if y = p.1 then some (p.2.val (tokM m p.1)) else ov r (tokM m) m y) = m y
  split
  ·rename_i e
   rw [e, h]
   have : tokM m p.1 = tokV (p.2.val t) := by unfold tokM; rw [h]
   rw [this]
   cases p.2 <;> rfl
  ·rw [ov_tok hr]
theorem ov_self {m : Str → Option Value} {l : List (Str × Sh)} (h : Has m l) : ∃ τ, ov l τ m = m := ⟨_, ov_tok h⟩
theorem Fr.ov {h₀ h : Heap} {L : Addr} {m : Str → Option Value} (F : Fr h₀ L h m) {l : List (Str × Sh)} (hl : Has m l) : ∃ τ, Fr h₀ L h (Mine.ov l τ m) := by
 obtain ⟨τ, e⟩ := ov_self hl
 exact ⟨τ, by rw [e]; exact F⟩
theorem hasI {m : Str → Option Value} {x : Str} {e n : Int} {t : Tok} (h : m x = some (.int e t)) (he : e = n) : ∃ t, m x = some ((Sh.i n).val t) := ⟨t, he ▸ h⟩
theorem hasS {m : Str → Option Value} {x : Str} {e n : Str} {t : Tok} (h : m x = some (.str e t)) (he : e = n) : ∃ t, m x = some ((Sh.s n).val t) := ⟨t, he ▸ h⟩
theorem hasB {m : Str → Option Value} {x : Str} {e n : Array UInt8} {t : Tok} (h : m x = some (.bytes e t)) (he : e = n) : ∃ t, m x = some ((Sh.b n).val t) := ⟨t, he ▸ h⟩
theorem hasV {m : Str → Option Value} {x : Str} {v : Value} (h : m x = some v) : ∃ t, m x = some ((Sh.v v).val t) := ⟨0, h⟩
section
variable {prog : Program} {w : World} {A : Around} {E : Value → Shared → Prop} {s : Shared} {env : Env} {test : PySem.Expr} {body orelse : List Stmt} {Q : Flow → Shared → Prop} {g : Heap} {L : Addr}
noncomputable def WEnd {α : Type} (g : Heap) (L : Addr) (l : α → List (Str × Sh)) (I : α → Led → Prop) (meas : α → Nat) (n : Nat) (s : Shared) (s' : Shared) : Prop :=
 ∃ a' news' h' tk' m', s' = { s with heap := h', toks := tk' } ∧ Fr g L h' m' ∧ Has m' (l a') ∧ News g L h' news' ∧ I a' news' ∧ meas a' < n
noncomputable def WPost {α : Type} (g : Heap) (L : Addr) (l : α → List (Str × Sh)) (I : α → Led → Prop) (meas : α → Nat) (n : Nat) (s : Shared) (Q : Flow → Shared → Prop) (f : Flow) (s' : Shared) : Prop :=
 match f with
 | .next => WEnd g L l I meas n s s'
 | .cont => WEnd g L l I meas n s s'
 | .brk => Q .next s'
 | .ret v => Q (.ret v) s'
noncomputable def WIf (b : Bool) (T F : Prop) : Prop := if b = true then T else F
theorem WIf.intro {b : Bool} {T F : Prop} (t : b = true → T) (f : b = false → F) : WIf b T F := by
 cases b
 ·exact f rfl
 ·exact t rfl
theorem WIf.yes {T F : Prop} (t : T) : WIf true T F := t
theorem WIf.no {T F : Prop} (f : F) : WIf false T F := by unfold WIf; rw [if_neg Bool.false_ne_true]; exact f
theorem WEnd.intro {α : Type} {l : α → List (Str × Sh)} {I : α → Led → Prop} {meas : α → Nat} {n : Nat} {s : Shared} {h' : Heap} {tk' : Nat} {m' : Str → Option Value} {news' : Led} (a' : α)
  (F : Fr g L h' m') (N : News g L h' news') (h : Has m' (l a') ∧ I a' news' ∧ meas a' < n) : WEnd g L l I meas n s { s with heap := h', toks := tk' } :=
 ⟨a', news', h', tk', m', rfl, F, h.1, N, h.2.1, h.2.2⟩
theorem while_inv {α : Type} (l : α → List (Str × Sh)) (I : α → Led → Prop) (meas : α → Nat) {pos : Pos}
  (hE : PassesOwn (model prog w) A env E) (a₀ : α) {m₀ : Str → Option Value} {news₀ : Led} (F₀ : Fr g L s.heap m₀) (N₀ : News g L s.heap news₀) (hm : Has m₀ (l a₀)) (hI : I a₀ news₀)
  (turn : ∀ (a : α) (news : Led) (h : Heap) (tk : Nat) (τ : Str → Tok) (u : Str → Option Value), Fr g L h (ov (l a) τ u) → News g L h news → I a news →
   wpAny (model prog w) A (isTrue test env (eval test env)) (fun b s₂ => WIf b (wpAny (model prog w) A (execs body env) (WPost g L l I meas (meas a) s Q) E s₂) (wpAny (model prog w) A (execs orelse env) Q E s₂)) E { s with heap := h, toks := tk }) :
  wpAny (model prog w) A (exec (.While test body orelse pos) env) Q E s := by
 refine whl_start 0 ?_
 have all : ∀ (n : Nat) (a : α) (news : Led) (h : Heap) (tk : Nat) (m : Str → Option Value), meas a < n → Fr g L h m → Has m (l a) → News g L h news → I a news →
   WhlRest prog w A E env test body orelse Q 0 { s with heap := h, toks := tk } := by
  intro n
  induction n with
  | zero => intro a news h tk m hn; exact absurd hn (Nat.not_lt_zero _)
  | succ n ih =>
   intro a news h tk m hn F hm N hI
   show WhlRest prog w A E env test body orelse Q (0 + 1) _
   obtain ⟨τ, FO⟩ := Fr.ov F hm
   refine whl_turn hE (wpAny_mono (turn a news h tk τ m FO N hI) (fun b s₂ hb => ?_) fun _ _ e => e)
   cases b with
   | false => exact hb
   | true =>
    refine wpAny_mono (show wpAny (model prog w) A (execs body env) (WPost g L l I meas (meas a) s Q) E s₂ from hb) (fun f s₃ hf => ?_) fun _ _ e => e
    have go : WEnd g L l I meas (meas a) s s₃ → WhlRest prog w A E env test body orelse Q 0 s₃ := by
     rintro ⟨a', news', h', tk', m', rfl, F', hm', N', hI', hlt⟩
     exact ih a' news' h' tk' m' (Nat.lt_of_lt_of_le hlt (Nat.le_of_lt_succ hn)) F' hm' N' hI'
    cases f with
    | next => exact go hf
    | cont => exact go hf
    | brk => exact hf
    | ret v => exact hf
 exact all _ a₀ news₀ s.heap s.toks m₀ (Nat.lt_succ_self _) F₀ hm N₀ hI
end
set_option hygiene false in
local macro_rules | `(tactic| walk_at "ds prem0") => `(tactic| ((case ho | hcd => k_is); (case hbind => (intro s9 hX9; first | exact BindsTo.of_eq rfl | exact binds_K hX9 rfl (by k_is) rfl rfl rfl)); (case hloc => exact locs rfl); (case hco | hgen | hk => exact rfl); (case hcell => decide)))
noncomputable def ep {α : Type} (i : Nonempty α) (P : α → Prop) : α := @Classical.epsilon α i fun x => ¬ P x
theorem eps1 {α : Type} (i : Nonempty α) {P : α → Prop} (h : P (ep i P)) : ∀ x, P x := fun x => Classical.byContradiction fun hn => (@Classical.epsilon_spec α (fun x => ¬ P x) ⟨x, hn⟩) h
theorem ne_N : Nonempty Nat := ⟨0⟩
theorem ne_W : Nonempty World := ⟨aWorld 1⟩
theorem ne_L {α : Type} : Nonempty (List α) := ⟨[]⟩
theorem ne_O {α : Type} : Nonempty (Option α) := ⟨none⟩
theorem ne_I : Nonempty Int := ⟨0⟩
theorem ne_U : Nonempty UInt8 := ⟨0⟩
theorem ne_V : Nonempty Value := ⟨.none⟩
theorem ne_Ob : Nonempty Obj := ⟨{ cls := .none, data := .plain }⟩
theorem ne_B : Nonempty Bool := ⟨true⟩
theorem ne_P {α β : Type} (a : Nonempty α) (b : Nonempty β) : Nonempty (α × β) := ⟨(Classical.choice a, Classical.choice b)⟩
theorem all2 {α : Type} {P : α → Prop} {a b : α} (h1 : P a) (h2 : P b) : ∀ x ∈ [a, b], P x := List.forall_mem_cons.mpr ⟨h1, List.forall_mem_cons.mpr ⟨h2, List.forall_mem_nil _⟩⟩
theorem all3 {α : Type} {P : α → Prop} {a b c : α} (h1 : P a) (h2 : P b) (h3 : P c) : ∀ x ∈ [a, b, c], P x := List.forall_mem_cons.mpr ⟨h1, all2 h2 h3⟩
section
variable {prog : Program} {w : World} {A : Around} {E : Value → Shared → Prop} {s : Shared} {env : Env} {body : List Stmt} {Q : Flow → Shared → Prop} {g : Heap} {x : Str}
inductive FEnd {α : Type} (g : Heap) (L I : Addr) (own : Led) (l : α → List (Str × Sh)) (J : α → Led → Prop) (s : Shared) : Shared → Prop
 | mk (a' : α) (news' : Led) (h' : Heap) (tk' : Nat) (m' : Str → Option Value) (F : Fr g L h' m') (hm : Has m' (l a')) (N : News g L h' (news' ++ own)) (hn : ∀ p ∈ news', p.1 ≠ I) (hJ : J a' news') : FEnd g L I own l J s { s with heap := h', toks := tk' }
noncomputable def FPost {α : Type} (g : Heap) (L I : Addr) (own : Led) (l : α → List (Str × Sh)) (J : α → Led → Prop) (s : Shared) (Q : Flow → Shared → Prop) (f : Flow) (s' : Shared) : Prop :=
 match f with
 | .next => FEnd g L I own l J s s'
 | .cont => FEnd g L I own l J s s'
 | .brk => Q .next s'
 | .ret v => Q (.ret v) s'
theorem FEnd.intro {α : Type} {L I : Addr} {own : Led} {l : α → List (Str × Sh)} {J : α → Led → Prop} {s : Shared} {h' : Heap} {tk' : Nat} {m' : Str → Option Value} {news' : Led} (a' : α)
  (F : Fr g L h' m') (N : News g L h' (news' ++ own)) (h : Has m' (l a') ∧ (∀ p ∈ news', p.1 ≠ I) ∧ J a' news') : FEnd g L I own l J s { s with heap := h', toks := tk' } :=
 ⟨a', news', h', tk', m', F, h.1, N, h.2.1, h.2.2⟩
theorem fresh_ne {h : Heap} {L : Addr} {m : Str → Option Value} (F : Fr g L h m) : L ≠ h.objs.size ∧ g.get? h.objs.size = none :=
 ⟨Nat.ne_of_lt F.ns.lt, next_is_new F⟩
end
noncomputable abbrev tup2 (x y : Value) : Obj := { cls := .type "tuple", data := .seq #[x, y] 0 }
noncomputable def dw (d : List UInt8) : Nat := d.foldl (fun a x => a * 256 + x.toNat) 0
noncomputable def kl (a b c e : UInt8) : Nat := a.toNat + 256 * b.toNat + 65536 * c.toNat + 16777216 * e.toNat
noncomputable def sharedLen (n a b most : Nat) : Nat := min most (n - bl (a ^^^ b))
noncomputable def bitTop (w place n : Nat) : Nat := w / 2 ^ (n - 1 - place) % 2
noncomputable def cutB (w l n : Nat) : Nat := w / 2 ^ (n - l) * 2 ^ (n - l)
noncomputable def Side (p : Prop) : Prop := p
theorem Side.out {p : Prop} (h : Side p) : p := h
section
variable {prog : Program} {w : World} {A : Around} {E : Value → Shared → Prop} {s : Shared} {h₀ : Heap} {L : Addr} {m : Str → Option Value} {news : List (Addr × Obj)}
theorem bytes_K9 {l : Addr} {vs : List Value} {ns : List Int} {Q : Value → Shared → Prop} (F : Fr h₀ L s.heap m) (N : News h₀ L s.heap news) (hl : s.heap.IsList l vs.toArray) (hi : IntsAre vs ns) (hh : A.handled = none) (hr : Side (∀ n ∈ ns, 0 ≤ n ∧ n < 256)) (hz : Side (ns.length ≤ 1000))
  (h : ∀ h' t k, Fr h₀ L h' m → News h₀ L h' news → Q (.bytes (ns.map fun n => n.toNat.toUInt8).toArray t) { s with heap := h', toks := k }) : wpAny (model prog w) A (call (.type "bytes") [.ref l]) Q E s :=
 bytes_K F N hl hi hr (by rw [sizeLine_eq, hi.length]; exact Nat.le_trans hz (by lia)) hh fun h' t k F' N' _ => h h' t k F' N'
theorem bytes_add9 {b c : List UInt8} {t u : Tok} {Q : Value → Shared → Prop} (hsz : Side (b.length + c.length ≤ 1000)) (h : ∀ t' k, Q (.bytes (b ++ c).toArray t') { s with toks := k }) :
  wpAny (model prog w) A (binaryOp .Add (.bytes b.toArray t) (.bytes c.toArray u)) Q E s :=
 bytes_add_K (d := b ++ c) (by have := hsz.out; simp only [List.size_toArray]; lia) rfl h
end
noncomputable def le4 (n : Nat) : List UInt8 := [UInt8.ofNat (n % 256), UInt8.ofNat (n / 2 ^ 8 % 256), UInt8.ofNat (n / 2 ^ 16 % 256), UInt8.ofNat (n / 2 ^ 24 % 256)]
theorem le4_len (n : Nat) : (le4 n).length = 4 := rfl
noncomputable def byteInts (d : List UInt8) : List Int := d.map fun x => (x.toNat : Int)
theorem byteInts_in {d : List UInt8} : ∀ n ∈ byteInts d, 0 ≤ n ∧ n < 256 := by
 intro n hn
 obtain ⟨x, _, rfl⟩ := List.mem_map.mp hn
 have := x.toNat_lt
 lia
theorem byteInts_len (d : List UInt8) : (byteInts d).length = d.length := by simp [byteInts]
theorem byteInts_back (d : List UInt8) : (byteInts d).map (fun n => n.toNat.toUInt8) = d := by
 unfold byteInts
 rw [List.map_map]
 conv => rhs; rw [← List.map_id d]
 apply List.map_congr_left
 intro x _
 simp [Function.comp]
theorem xor_and (x : Nat) : ∀ y, x + y = (x ^^^ y) + 2 * (x &&& y) := by
 induction x using Nat.strongRecOn with
 | ind x ih =>
  intro y
  by_cases hx : x = 0
  ·subst hx; simp
  ·have h := ih (x / 2) (by lia) (y / 2)
   have d1 : (x ^^^ y) / 2 = x / 2 ^^^ y / 2 := Nat.xor_div_two
   have d2 : (x &&& y) / 2 = x / 2 &&& y / 2 := Nat.and_div_two
   have m1 : ((x ^^^ y) % 2 = 1) ↔ ¬ ((x % 2 = 1) ↔ (y % 2 = 1)) := Nat.xor_mod_two_eq_one
   have m2 : ((x &&& y) % 2 = 1) ↔ (x % 2 = 1) ∧ (y % 2 = 1) := Nat.and_mod_two_eq_one
   rw [← d1, ← d2] at h
   rcases Nat.mod_two_eq_zero_or_one x with a | a <;> rcases Nat.mod_two_eq_zero_or_one y with b | b <;>
    rcases Nat.mod_two_eq_zero_or_one (x ^^^ y) with c | c <;> rcases Nat.mod_two_eq_zero_or_one (x &&& y) with d | d <;>
    simp only [a, b, c, d] at m1 m2 <;> first | lia | (simp at m1 m2)
theorem bitXor_nat (x y : Nat) : Builtin.bitXor (x : Int) (y : Int) = ((x ^^^ y : Nat) : Int) := by
 rw [bitXor_and, bitAnd_pp (Int.natCast_nonneg x) (Int.natCast_nonneg y)]
 have := xor_and x y
 simp only [Int.toNat_natCast]
 lia
theorem bitAnd1_nat (x : Nat) : Builtin.bitAnd (x : Int) 1 = ((x % 2 : Nat) : Int) := by
 rw [bitAnd_m1]; lia
theorem bitAnd255_nat (x : Nat) : Builtin.bitAnd (x : Int) 255 = ((x % 256 : Nat) : Int) := by
 rw [bitAnd_m8]; lia
theorem bitAnd15_nat (x : Nat) : Builtin.bitAnd (x : Int) 15 = ((x % 16 : Nat) : Int) := by
 rw [bitAnd_m4]; lia
theorem fdiv_nat (x n : Nat) : (x : Int).fdiv (2 ^ n) = ((x / 2 ^ n : Nat) : Int) := by
 have : (2 : Int) ^ n = ((2 ^ n : Nat) : Int) := by simp
 rw [this, Int.fdiv_eq_ediv_of_nonneg _ (Int.natCast_nonneg _)]
 simp
theorem pow_nat (n : Nat) : (2 : Int) ^ n = ((2 ^ n : Nat) : Int) := by simp
theorem bl_pos {n : Nat} (h : 0 < n) : bl n = bl (n / 2) + 1 := by
 unfold bl
 rw [if_neg (by lia)]
 by_cases h1 : n = 1
 ·subst h1; rfl
 ·rw [if_neg (by lia)]
  have := Nat.log2_def n
  rw [if_pos (by lia)] at this
  lia
theorem bl_le {x n : Nat} (h : x < 2 ^ n) : bl x ≤ n := by
 unfold bl
 split
 ·lia
 ·rename_i h0
  have := (Nat.log2_lt h0).mpr h
  lia
theorem bl_lt {x n : Nat} (h : bl x ≤ n) : x < 2 ^ n := by
 unfold bl at h
 split at h
 ·rename_i h0; rw [h0]; exact Nat.two_pow_pos n
 ·rename_i h0
  exact (Nat.log2_lt h0).mp (by lia)
theorem bl_shift {n : Nat} (h : 255 < n) : bl n = bl (n / 256) + 8 := by
 have up : bl n ≤ bl (n / 256) + 8 := bl_le (by rw [Nat.pow_add]; exact (Nat.div_lt_iff_lt_mul (by decide)).mp (bl_lt (Nat.le_refl _)))
 have m : 8 ≤ bl n := Nat.le_of_not_lt fun q => absurd (bl_lt (n := 8) (Nat.le_of_lt q)) (Nat.not_lt.mpr h)
 have dn : bl (n / 256) ≤ bl n - 8 := bl_le ((Nat.div_lt_iff_lt_mul (by decide)).mpr (by rw [show (256 : Nat) = 2 ^ 8 from rfl, ← Nat.pow_add, Nat.sub_add_cancel m]; exact bl_lt (Nat.le_refl _)))
 exact Nat.le_antisymm up (Nat.add_le_of_le_sub m dn)
section
open LCg
variable {prog : Program} {w : World} {A : Around} {E : Value → Shared → Prop} {s : Shared} {h₀ : Heap} {L : Addr} {m : Str → Option Value} {env : Env}
noncomputable def Turn1 (J : List Value → Led → Prop) (ys : List Value) (y : Value) (news : Led) : Prop := J (ys ++ [y]) news
theorem compEnd_mono {s₁ : Shared} {I C D : Addr} {oI oC oD : Obj} {S : Led → Prop} {r r' : Value → Led → Prop} {y : Value} {s₂ : Shared} (h : CompEnd h₀ L m s₁ I oI C oC D oD S r y s₂) (k : ∀ y n, r y n → r' y n) : CompEnd h₀ L m s₁ I oI C oC D oD S r' y s₂ := by
 obtain ⟨h', tk, news', a, b, c, d, e, f⟩ := h
 exact ⟨h', tk, news', a, b, c, d, e, k _ _ f⟩
theorem comp_inv {elt : Expr} {x : Str} {scope : Scope} {cl : List (Str × Addr)} {S : Led → Prop} {P : Nat → Value → Prop} {Fin : List Value → Led → Prop} (n : Nat) (J : Nat → List Value → Led → Prop)
  (fin : ∀ ys news, J n ys news → Fin ys news)
  (turn : ∀ i ys news v I oI C oC D m₂ h tk (E' : Value → Shared → Prop), i < n → J i ys news → P i v → NsObj oC m₂ → m₂ x = some v → Fr h₀ L h m → News h₀ L h ((I, oI) :: (C, oC) :: (D, lst ys) :: news) → Off3 I C D news → ((@Ne Nat I C) ∧ (@Ne Nat I D) ∧ (@Ne Nat C D)) →
   wpAny (model prog w) A (eval elt (compEnvC scope cl C env)) (CompEnd h₀ L m { s with heap := h, toks := tk } I oI C oC D (lst ys) S (Turn1 (J (i + 1)) ys)) E' { s with heap := h, toks := tk }) :
  ∀ k i ys news, i + k = n → J i ys news → CompRest prog w A h₀ L m env elt x scope cl s S P Fin k i ys news := by
 intro k
 induction k with
 | zero => intro i ys news e hj; exact CompRest.zero (fin ys news (by rw [← e]; exact hj))
 | succ k ih =>
  intro i ys news e hj
  refine CompRest.succ fun v I oI C oC D m₂ h tk E' hP hC hx F N off ne => ?_
  exact wpAny_mono (turn i ys news v I oI C oC D m₂ h tk E' (by lia) hj hP hC hx F N off ne) (fun y s' hy => compEnd_mono hy fun y nw hJ => ih (i + 1) (ys ++ [y]) nw (by lia) hJ) fun _ _ e => e
end
theorem add_str9 {prog : Program} {w : World} {A : Around} {E : Value → Shared → Prop} {s : Shared} {x y : Str} {t u : Tok} {Q : Value → Shared → Prop} (hz : Side (x.length + y.length ≤ 100000)) (h : ∀ t' k, Q (.str (x ++ y) t') { s with toks := k }) :
  wpAny (model prog w) A (binaryOp .Add (.str x t) (.str y u)) Q E s :=
 SBL.add (fun t' k _ => h t' k) (by rw [sizeLine_eq]; have := hz.out; lia)
theorem join9 {prog : Program} {w : World} {A : Around} {E : Value → Shared → Prop} {s : Shared} {x : Str} {t : Tok} {Q : Value → Shared → Prop} {D : Addr} {vs : List Value} {ys : List Str} (hl : s.heap.IsList D vs.toArray) (hi : StrsAre vs ys) (hsep : x.length ≤ 16) (hw : Side ((ys.map (·.length)).sum + ys.length ≤ 100000))
  (h : ∀ t' k, Q (.str (Txt.join x ys) t') { s with toks := k }) : wpAny (model prog w) A (call (.builtin "str.join") [.str x t, .ref D]) Q E s :=
 join_listW hl (by simpa using hi) hsep (by have := hw.out; lia) h
noncomputable def hexT : Str := Str.ofString "0123456789abcdef"
theorem hexT_len : hexT.length = 16 := by decide
noncomputable def hexc (j : Nat) : Str := Txt.item hexT (j : Int)
theorem hexItem {prog : Program} {w : World} {A : Around} {E : Value → Shared → Prop} {s : Shared} {value slice : PySem.Expr} {t u : Tok} {i : Int} {j : Nat} {Q : Value → Shared → Prop} (e : i = (j : Int)) (hj : Side (j < 16)) (h : Q (.str (hexc j) s.toks) { s with toks := s.toks + 1 })
  (hs : autoParam (subscripted slice false (.str hexT t) (.int i u) = operate [.str hexT t, .int i u] (getItem (.str hexT t) (.int i u))) sub_K._auto_1)
  (ht : autoParam (∀ r, letTemporaryGo value (.str hexT t) r = pure ()) kim_tup._auto_3) :
  wpAny (model prog w) A (subscriptTail value slice (.str hexT t) (.int i u)) Q E s := by
 subst e
 have := hj.out
 exact KXi.item hexT_len (by lia) (by lia) (by lia) (fun _ => h) hs ht
theorem hexc_len : ∀ j, j < 16 → (hexc j).length = 1 := by decide
noncomputable abbrev decS (n : Nat) : Str := Str.ofString (toString (n : Int))
theorem fdiv16 (x : Nat) : (x : Int).fdiv 16 = ((x / 16 : Nat) : Int) := by rw [Int.fdiv_eq_ediv_of_nonneg _ (by lia)]; simp
theorem fmod16 (x : Nat) : (x : Int).fmod 16 = ((x % 16 : Nat) : Int) := by rw [Int.fmod_eq_emod_of_nonneg _ (by lia)]; simp
theorem decS_len {n : Nat} (h : n < 10 ^ 10) : (decS n).length ≤ 11 := by
 unfold decS
 rw [PySem.ofString_length]
 exact int_text_length_le10 (k := 10) (by lia) (by lia)
theorem txt_join (sep : Str) (l : List Str) : Txt.join sep l = Str.join sep l := beq_iff_eq.mp (join_plain_closes sep l)
theorem join_len {sep : Str} (B : Nat) : ∀ {ys : List Str}, (∀ y ∈ ys, y.length ≤ B) → (Txt.join sep ys).length ≤ ys.length * (B + sep.length) := by
 intro ys h
 rw [txt_join]
 induction ys with
 | nil => simp [Str.join, Str.empty, Str.length]
 | cons x r ih =>
  cases r with
  | nil =>
   have h1 := h x (.head _)
   show x.length ≤ (0 + 1) * (B + sep.length)
   lia
  | cons y r =>
   have h1 := h x (.head _)
   have h2 := ih fun y hy => h y (.tail _ hy)
   show (x ++ sep ++ Str.join sep (y :: r)).length ≤ (r.length + 1 + 1) * (B + sep.length)
   rw [Str.length_append, Str.length_append, Nat.add_mul, Nat.one_mul]
   simp only [List.length_cons] at h2
   lia
theorem sum_len {B : Nat} : ∀ {ys : List Str}, (∀ y ∈ ys, y.length ≤ B) → (ys.map (·.length)).sum ≤ ys.length * B
 | [], _ => by simp
 | x :: r, h => by
  have h1 := h x (.head _)
  have h2 := sum_len (ys := r) fun y hy => h y (.tail _ hy)
  rw [List.map_cons, List.sum_cons, List.length_cons, Nat.add_mul, Nat.one_mul]
  lia
noncomputable def figS (d : List UInt8) : Str := if d.length = 4 then Txt.join (Str.ofString ".") (d.map fun x => decS x.toNat) else Txt.join (Str.ofString "") (d.map fun x => hexc (x.toNat / 16) ++ hexc (x.toNat % 16))
theorem decs_le (d : List UInt8) : ∀ y ∈ d.map (fun x => decS x.toNat), y.length ≤ 11 := by
 intro y hy
 obtain ⟨x, _, rfl⟩ := List.mem_map.mp hy
 have := x.toNat_lt
 exact decS_len (by lia)
theorem hexs_le (d : List UInt8) : ∀ y ∈ d.map (fun x => hexc (x.toNat / 16) ++ hexc (x.toNat % 16)), y.length ≤ 2 := by
 intro y hy
 obtain ⟨x, _, rfl⟩ := List.mem_map.mp hy
 have h1 := x.toNat_lt
 rw [Str.length_append, hexc_len _ (by lia), hexc_len _ (by lia)]
 lia
noncomputable def kRun {α : Type} (lt : Nat → Nat → Bool) : KasT α → α
 | .ret a => a
 | .ask i j k => kRun lt (k (lt i j))
noncomputable def kBd {α : Type} (n : Nat) : KasT α → Bool
 | .ret _ => true
 | .ask i j k => decide (i < n) && (decide (j < n) && (kBd n (k true) && kBd n (k false)))
theorem kRun_wp {α : Type} {n : Nat} {cmp : Nat → Nat → (Bool → Shared → Prop) → Shared → Prop} {lt : Nat → Nat → Bool} {Q : α → Shared → Prop} (s₀ : Shared) (hc : ∀ i j C tk, i < n → j < n → (∀ tk', C (lt i j) { s₀ with toks := tk' }) → cmp i j C { s₀ with toks := tk }) : ∀ (t : KasT α) (tk : Nat), kBd n t = true → (∀ tk', Q (kRun lt t) { s₀ with toks := tk' }) → t.kasWp cmp Q { s₀ with toks := tk }
 | .ret a, tk, _, h => h tk
 | .ask i j k, tk, hb, h => by
  unfold kBd at hb
  simp only [Bool.and_eq_true, decide_eq_true_eq] at hb
  obtain ⟨h1, h2, h3, h4⟩ := hb
  refine hc i j _ tk h1 h2 fun tk' => ?_
  cases hl : lt i j with
  | true => exact kRun_wp s₀ hc (k true) tk' h3 (by have h' := h; unfold kRun at h'; rw [hl] at h'; exact h')
  | false => exact kRun_wp s₀ hc (k false) tk' h4 (by have h' := h; unfold kRun at h'; rw [hl] at h'; exact h')
theorem kRun_congr {α : Type} {n : Nat} {lt lt' : Nat → Nat → Bool} (hl : ∀ i j, i < n → j < n → lt i j = lt' i j) : ∀ (t : KasT α), kBd n t = true → kRun lt t = kRun lt' t
 | .ret a, _ => rfl
 | .ask i j k, hb => by
  unfold kBd at hb
  simp only [Bool.and_eq_true, decide_eq_true_eq] at hb
  obtain ⟨h1, h2, h3, h4⟩ := hb
  unfold kRun
  rw [hl i j h1 h2]
  cases lt' i j with
  | true => exact kRun_congr hl _ h3
  | false => exact kRun_congr hl _ h4
theorem kBd2 : kBd 2 (kas_sort 2) = true := by decide +kernel
theorem kBd3 : kBd 3 (kas_sort 3) = true := by decide +kernel
noncomputable def tab (a b c d e f : Bool) (i j : Nat) : Bool := match i, j with
 | 0, 1 => a
 | 1, 0 => b
 | 0, 2 => c
 | 2, 0 => d
 | 1, 2 => e
 | 2, 1 => f
 | _, _ => false
theorem kas2 : ∀ a b : Bool, (a && b) = false → (kRun (tab a b false false false false) (kas_sort 2)).toList.Perm [0, 1] ∧ (kRun (tab a b false false false false) (kas_sort 2)).toList.Pairwise (fun x y => tab a b false false false false y x = false) := by decide +kernel
noncomputable def okTab (a b c d e f : Bool) : Bool := !(a && b) && !(c && d) && !(e && f) && (!(a && e) || c) && (!(c && f) || a) && (!(b && c) || e) && (!(e && d) || b) && (!(d && a) || f) && (!(f && b) || d) &&
 (!c || (a || e)) && (!a || (c || f)) && (!e || (b || c)) && (!b || (e || d)) && (!f || (d || a)) && (!d || (f || b))
theorem kas3 : ∀ a b c d e f : Bool, okTab a b c d e f = true → (kRun (tab a b c d e f) (kas_sort 3)).toList.Perm [0, 1, 2] ∧ (kRun (tab a b c d e f) (kas_sort 3)).toList.Pairwise (fun x y => tab a b c d e f y x = false) := by decide +kernel
structure SO {α : Type} (lt : α → α → Bool) : Prop where
 asym : ∀ x y, lt x y = true → lt y x = false
 trans : ∀ x y z, lt x y = true → lt y z = true → lt x z = true
 neg : ∀ x y z, lt x z = true → lt x y = true ∨ lt y z = true
theorem SO.irr {α : Type} {lt : α → α → Bool} (o : SO lt) (x : α) : lt x x = false := by
 cases h : lt x x with
 | false => rfl
 | true => have := o.asym x x h; rw [h] at this; exact this
theorem kas_so {α : Type} {lt : α → α → Bool} (o : SO lt) (k : Nat → α) (n : Nat) (h2 : 2 ≤ n) (h3 : n ≤ 3) :
  kBd n (kas_sort n) = true ∧ (kRun (fun i j => lt (k i) (k j)) (kas_sort n)).toList.Perm (List.range n) ∧ (kRun (fun i j => lt (k i) (k j)) (kas_sort n)).toList.Pairwise (fun x y => lt (k y) (k x) = false) := by
 have hn : n = 2 ∨ n = 3 := by lia
 have mono : ∀ {l : List Nat} {n : Nat} {t : Nat → Nat → Bool}, l.Perm (List.range n) → (∀ i j, i < n → j < n → lt (k i) (k j) = t i j) → l.Pairwise (fun x y => t y x = false) → l.Pairwise (fun x y => lt (k y) (k x) = false) := by
  intro l n t hp ht hl
  refine hl.imp_of_mem fun {x y} hx hy h => ?_
  rw [ht _ _ (List.mem_range.mp (hp.mem_iff.mp hy)) (List.mem_range.mp (hp.mem_iff.mp hx))]; exact h
 have tr := o.trans
 have ne := o.neg
 have as := o.asym
 rcases hn with rfl | rfl
 ·have ht : ∀ i j, i < 2 → j < 2 → lt (k i) (k j) = tab (lt (k 0) (k 1)) (lt (k 1) (k 0)) false false false false i j := by
   intro i j hi hj
   have hi' : i = 0 ∨ i = 1 := by lia
   have hj' : j = 0 ∨ j = 1 := by lia
   rcases hi' with rfl | rfl <;> rcases hj' with rfl | rfl <;> first | rfl | exact o.irr _
  have h := kas2 (lt (k 0) (k 1)) (lt (k 1) (k 0)) (by
   cases h1 : lt (k 0) (k 1) with
   | false => rfl
   | true => rw [as _ _ h1]; rfl)
  rw [kRun_congr ht _ kBd2]
  exact ⟨kBd2, h.1, mono (n := 2) h.1 ht h.2⟩
 ·have ht : ∀ i j, i < 3 → j < 3 → lt (k i) (k j) = tab (lt (k 0) (k 1)) (lt (k 1) (k 0)) (lt (k 0) (k 2)) (lt (k 2) (k 0)) (lt (k 1) (k 2)) (lt (k 2) (k 1)) i j := by
   intro i j hi hj
   have hi' : i = 0 ∨ i = 1 ∨ i = 2 := by lia
   have hj' : j = 0 ∨ j = 1 ∨ j = 2 := by lia
   rcases hi' with rfl | rfl | rfl <;> rcases hj' with rfl | rfl | rfl <;> first | rfl | exact o.irr _
  have h := kas3 (lt (k 0) (k 1)) (lt (k 1) (k 0)) (lt (k 0) (k 2)) (lt (k 2) (k 0)) (lt (k 1) (k 2)) (lt (k 2) (k 1)) (by
   have a1 := as (k 0) (k 1); have a2 := as (k 0) (k 2); have a3 := as (k 1) (k 2)
   have t1 := tr (k 0) (k 1) (k 2); have t2 := tr (k 0) (k 2) (k 1); have t3 := tr (k 1) (k 0) (k 2); have t4 := tr (k 1) (k 2) (k 0); have t5 := tr (k 2) (k 0) (k 1); have t6 := tr (k 2) (k 1) (k 0)
   have n1 := ne (k 0) (k 1) (k 2); have n2 := ne (k 0) (k 2) (k 1); have n3 := ne (k 1) (k 0) (k 2); have n4 := ne (k 1) (k 2) (k 0); have n5 := ne (k 2) (k 0) (k 1); have n6 := ne (k 2) (k 1) (k 0)
   revert a1 a2 a3 t1 t2 t3 t4 t5 t6 n1 n2 n3 n4 n5 n6
   generalize lt (k 0) (k 1) = a; generalize lt (k 1) (k 0) = b; generalize lt (k 0) (k 2) = c; generalize lt (k 2) (k 0) = d; generalize lt (k 1) (k 2) = e; generalize lt (k 2) (k 1) = f
   clear mono tr ne as ht
   intro a1 a2 a3 t1 t2 t3 t4 t5 t6 n1 n2 n3 n4 n5 n6
   cases a <;> cases b <;> cases c <;> cases d <;> cases e <;> cases f <;> first | rfl | (exfalso; simp at *; done))
  rw [kRun_congr ht _ kBd3]
  exact ⟨kBd3, h.1, mono (n := 3) h.1 ht h.2⟩
section
open Builtin
variable {prog : Program} {w : World} {A : Around} {E : Value → Shared → Prop} {s : Shared}
theorem wpG_of_eq {α : Type} {M : Model} {t : Sem α} {a : α} {Q : α → Shared → Prop} (h : t = pure a) (hQ : Q a s) : wpG M A t Q E s := wpG_of (wpAny_of_eq h hQ)
theorem wpG_step_eq {α β : Type} {M : Model} {t : Sem α} {a : α} {f : α → Sem β} {Q : β → Shared → Prop} (h : t = pure a) (hQ : wpG M A (f a) Q E s) : wpG M A (t >>= f) Q E s := wpG_bind (wpG_of_eq h hQ)
theorem wpG_if_false {α : Type} {M : Model} {b : Bool} {x y : Sem α} {Q : α → Shared → Prop} (h : b = false) (hy : wpG M A y Q E s) : wpG M A (if b = true then x else y) Q E s := by subst h; exact hy
theorem wpG_if_true {α : Type} {M : Model} {b : Bool} {x y : Sem α} {Q : α → Shared → Prop} (h : b = true) (hx : wpG M A x Q E s) : wpG M A (if b = true then x else y) Q E s := by subst h; exact hx
theorem codeG_call_builtin {id : String} {args : Args} {b : Builtin} {R : Result → Shared → Prop} (hq : plainId id = true) (hb : entryFor table id = some b) (hd : decC (.builtin id args) = false)
  (h : wpAny (model prog w) A.in1 (checkBuiltinCall id args) (fun _ s₁ => wpG (model prog w) A.in1 (b args)
   (fun fin s' => match fin with | .done f => R (.ok f) s' | .again c' => c'.quiet = true ∧ codeG (model prog w) A c' R s') (fun e s' => R (.error e) s') s₁)
   (fun e s' => R (.error e) s') s) : codeG (model prog w) A (.call (.builtin id) args) R s := by
 refine codeG_of_tree rfl ?_
 show wpG _ A.in1 (do checkBuiltinCall id args; again (.builtin id args)) _ _ s
 refine wpG_step (wpAny_mono h (fun _ s₁ h₁ => wpG_pure ⟨plainId_quiet hq _, codeG_of_tree hd ?_⟩) fun _ _ x => x)
 rw [Around.under_plainId hq _]
 show wpG _ _ (match entryFor table id with | some b => b args | none => unsupported ((withoutEnding? id "#data").getD id)) _ _ s₁
 rw [hb]; exact h₁
theorem codeG_builtin {id : String} {args : Args} {b : Builtin} {R : Result → Shared → Prop} (hb : entryFor table id = some b) (hd : decC (.builtin id args) = false)
  (h : wpG (model prog w) (A.under (.builtin id args)) (b args) (fun fin s' => match fin with | .done f => R (.ok f) s' | .again c' => c'.quiet = true ∧ codeG (model prog w) A c' R s') (fun e s' => R (.error e) s') s) :
  codeG (model prog w) A (.builtin id args) R s := by
 refine codeG_of_tree hd ?_
 show wpG _ _ (match entryFor table id with | some b => b args | none => unsupported ((withoutEnding? id "#data").getD id)) _ _ s
 rw [hb]; exact h
theorem callSpecialG {T id : String} {name : Str} {self : Value} {args : List Value} {Q : Option Value → Shared → Prop} (S : Slot T name id) (hT : s.TypeIs self T)
  (h : wpG (model prog w) A (call (.builtin id) (self :: args)) (fun r s' => Q (some r) s') E s) : wpG (model prog w) A (callSpecial? self name args) Q E s := by
 unfold callSpecial?
 refine wpG_step (wpAny_specialOf hT S.lookup ?_)
 refine wpG_holding ?_
 refine wpG_step_eq (S.bind self) ?_
 exact wpG_bind (wpG_mono h (fun r s' h' => wpG_pure h') fun _ _ x => x)
theorem exportedG {self : Value} {Q : Bool → Shared → Prop} (hg : A.guards = some []) (h : Q false s) : wpG (model prog w) A (Builtin.Bytes.exported self) Q E s := fun Γ p hΓ h1 h2 => by
 have hgs := hΓ.2.2.2.1 [] hg
 have hall : ∀ x ∈ (Γ.code, p) :: Γ.below, x.1.isGuard = false ∧ decC x.1 = false := by
  intro x hx
  have hd : decC x.1 = false := by
   rcases List.mem_cons.mp hx with rfl | hx
   ·exact h1
   ·exact h2 x hx
  refine ⟨?_, hd⟩
  cases hgx : x.1.isGuard with
  | false => rfl
  | true =>
   exfalso
   rcases List.mem_cons.mp hx with rfl | hx
   ·have : Γ.code.guards = [] := (List.append_eq_nil_iff.mp hgs).1
    simp [Code.guards, hgx] at this
   ·have h0 : guardsOf Γ.below = [] := (List.append_eq_nil_iff.mp hgs).2
    have : x.1 ∈ guardsOf Γ.below := List.mem_filter.mpr ⟨List.mem_map_of_mem hx, hgx⟩
    rw [h0] at this; cases this
 unfold Builtin.Bytes.exported
 show Q (List.any ((Γ.code, p) :: Γ.below) _) s
 have e : ∀ {f : Code × Pos → Bool} {l : List (Code × Pos)}, (∀ x ∈ l, f x = false) → l.any f = false := by
  intro f l hl
  induction l with
  | nil => rfl
  | cons x l ih => rw [List.any_cons, hl x (.head _), ih fun y hy => hl y (.tail _ hy)]; rfl
 rw [e fun x hx => ?_]
 ·exact h
 obtain ⟨q1, q2⟩ := hall x hx
 obtain ⟨c, p'⟩ := x
 cases c with
 | builtin i a =>
  have k : ∀ y, guardIds.contains y = true → i ≠ y := fun y hy e => by
   have q1 : guardIds.contains i = false := q1
   rw [e, hy] at q1; cases q1
  have q3 : Builtin.Bytes.decodersThatHold.contains i = false := q2
  obtain ⟨pos, kw⟩ := a
  delta PySem.Builtin.Bytes.exported.match_1
  show dite (i = "bytearray.__contains__") _ _ = false
  rw [dif_neg (k "bytearray.__contains__" (by decide)), dif_neg (k "bytearray.__mod__" (by decide)), dif_neg (k "bytearray.__rmod__" (by decide)), dif_neg (k "_struct.pack_into.held" (by decide)), dif_neg (k "bytearray.find.held" (by decide))]
  cases pos with
  | nil => rfl
  | cons v r =>
   show (Builtin.Bytes.sameRef v self && Builtin.Bytes.decodersThatHold.contains i) = false
   rw [q3, Bool.and_false]
 | _ => rfl
end
noncomputable def SpG (w : World) (f : Addr) (lv : Nat) (vs : List Value) (P O : Led) (R : Value → Led → Prop) : Prop :=
 ∀ (dp un : Nat) (cn : Str) (cs : Scope) (a : Addr) (ccd : Value) (cl : List (Str × Addr)) (outer : List Env) (A₀ : Around) (base h₀ : Heap) (L : Addr) (m : Str → Option Value) (news : Led) (s : Shared)
  (mean : ExcName → Option Value) (mg mb : Str → Option Value) (Q E : Value → Shared → Prop),
  Below A₀ base outer h₀ → Fr h₀ L s.heap m → (K9 w.params).In h₀ → News h₀ L s.heap news → Top VW LS mean mg mb h₀ → cs.kind = .function →
  (∀ p ∈ P, s.heap.get? p.1 = some p.2) → (∀ p ∈ O, p ∈ news) → (∀ p ∈ O, ∀ q ∈ P, p.1 ≠ q.1) → dp + lv < recursionLimit → un + 8 * lv < cLine →
  (∀ v O' h' tk', R v O' → Fr h₀ L h' m → SpOut h₀ L h' news O O' → Q v { s with heap := h', toks := tk' }) →
  wpG (model PR w) (ktrTop dp un (some []) cn cs L a ccd cl outer) (call (.ref f) vs) Q E s
theorem SpG.of_body {w : World} {f : Addr} {lv : Nat} {vs : List Value} {P O : Led} {R : Value → Led → Prop}
  {name qual : Str} {params : Arguments} {body : List Stmt} {scope : Scope} {dV kV doc pm cdv ct oc : Value} {an od : Option Addr} {osl : Array (Option Value)} {binds : List (Str × Value)}
  (ho : (K9 w.params).lookup f = some ⟨oc, od, .func (fnOf name qual params body scope dV kV doc pm an cdv ct), osl⟩)
  (hcd : codeIn (K9 w.params) cdv qual = true)
  (hbind : ∀ s : Shared, (K9 w.params).In s.heap → BindsTo s (fnOf name qual params body scope dV kV doc pm an cdv ct) ⟨vs, []⟩ binds) (hloc : ∀ y ∈ binds, scope.names.lookup y.1 = some .local)
  (hco : scope.isCoroutine = false) (hgen : scope.isGenerator = false) (hk : scope.kind = .function)
  (hcell : ∀ x ∈ scope.names, x.2 ≠ .cell)
  (h : ∀ (dp un : Nat) (outer : List Env) (A₀ : Around) (base g : Heap) (L' : Addr) (h₁ : Heap) (s : Shared) (mean : ExcName → Option Value) (mg mb : Str → Option Value),
   Below A₀ base outer g → Fr g L' h₁ (fun y => binds.reverse.lookup y) → (K9 w.params).In g → News g L' h₁ O → Top VW LS mean mg mb g → (∀ p ∈ O, p.1 < L') → (∀ p ∈ P, g.get? p.1 = some p.2) →
   dp + lv < recursionLimit → un + 8 * lv < cLine → s.heap = h₁ →
   wpG (model PR w) (ktrTop dp un (some []) qual scope L' f cdv [] outer) (execs body (envOf qual scope L' f cdv))
    (fun fl s' => BodyEnd g L' s R (match fl with | .ret v => v | _ => .none) s') (fun _ _ => False) s) :
  SpG w f (lv + 1) vs P O R := by
 intro dp un cn cs a ccd cl outer A₀ base h₀ L m news s mean mg mb Q E B F X N T hkc hP hO hOP hdp hun hret
 have NO : News h₀ L s.heap O := fun p hp => N p (hO p hp)
 have hX : (K9 w.params).In s.heap := X.keeps F.keep
 refine wpG_call ?_
 obtain ⟨FG, BG, st, lv'⟩ := groundX (R := fun r s' => match r with | .ok (.ret v) => Q v s' | .ok _ => False | .error e => E e s') (A := ktrTop dp un (some []) cn cs L a ccd cl outer) (env := envX cn cs L a ccd cl) B F NO rfl rfl hkc
 refine codeG_call_def (fd := fnOf name qual params body scope dV kV doc pm an cdv ct) (body := body) (binds := binds) (by show dp < recursionLimit; lia) (hX _ _ ho) rfl (T.nolimit.keeps F.keep) (codeRec_of hX hcd) rfl (hbind s hX) hcell hloc (fun h₁ hns hk₁ => ?_) hco hgen hk
 have FB : Fr (hideAll s.heap (O.map (·.1))) s.heap.objs.size h₁ (fun y => binds.reverse.lookup y) := ⟨hns, fun b o e => hk₁ b o (of_hideAll _ e), Nat.le_of_eq (hideAll_size _ _)⟩
 have NB : News (hideAll s.heap (O.map (·.1))) s.heap.objs.size h₁ O := fun p hp => ⟨hk₁ _ _ (NO p hp).1, Nat.ne_of_lt (Heap.lt_size (NO p hp).1), hideAll_none _ (List.mem_map_of_mem hp)⟩
 refine wpG_mono (h (dp + 1) (un + 3) (envX cn cs L a ccd cl :: outer) (ktrTop dp un (some []) cn cs L a ccd cl outer) base _ s.heap.objs.size h₁ { s with heap := h₁, toks := s.toks + binds.length } mean mg mb BG FB (X.keeps st) NB (T.keeps st)
  (fun p hp => Heap.lt_size (NO p hp).1) (fun p hp => hideAll_get _ (hP p hp) fun hm => ?_) (by lia) (by lia) rfl) (fun fl s' hl => ?_) fun _ _ y => y.elim
 ·obtain ⟨q, hq, e⟩ := List.mem_map.mp hm
  exact hOP q hq p hp e
 obtain ⟨m', O', h', tk', rfl, F', N', r⟩ := hl
 obtain ⟨oL, es, ep, hL, hLd, hLk, hLf⟩ := FG.ns
 refine hret _ _ _ _ r ⟨⟨oL, es, ep, F'.keep L oL hL, hLd, hLk, hLf⟩, fun b o e => F'.keep b o (st b o e), FG.above⟩ ⟨fun rest hr hd => ?_, fun p hp hne q hq e => ?_⟩
 ·intro p hp
  rcases List.mem_append.mp hp with hp | hp
  ·refine ⟨(N' p hp).1, fun q => ?_, ?_⟩
   ·have := (N' p hp).2.2; rw [q, hL] at this; cases this
   ·cases q : h₀.get? p.1 with
    | none => rfl
    | some o => have := (N' p hp).2.2; rw [st _ _ q] at this; cases this
  ·have Np := N p (hr p hp)
   refine ⟨F'.keep _ _ (hideAll_get _ Np.1 fun hm => ?_), Np.2⟩
   obtain ⟨q, hq, e⟩ := List.mem_map.mp hm
   exact hd q hq p hp e
 ·have h1 := (N' q hq).2.2
  have h2 : (hideAll s.heap (O.map (·.1))).get? p.1 = some p.2 := hideAll_get _ (N p hp).1 fun hm => by
   obtain ⟨x, hx, e'⟩ := List.mem_map.mp hm
   exact hne x hx e'
  rw [e] at h2
  rw [h2] at h1
  cases h1
section
variable {w : World} {f : Addr} {lv : Nat} {vs : List Value} {P O : Led} {R : Value → Led → Prop}
 {dp un : Nat} {cn : Str} {cs : Scope} {a : Addr} {ccd : Value} {cl : List (Str × Addr)} {outer : List Env} {A₀ : Around} {base h₀ : Heap} {L : Addr} {m : Str → Option Value} {news : Led} {s : Shared}
 {mean : ExcName → Option Value} {mg mb : Str → Option Value} {Q E : Value → Shared → Prop}
theorem SpG.write (S : SpG w f lv vs P O R)
  (B : Below A₀ base outer h₀) (F : Fr h₀ L s.heap m) (X : (K9 w.params).In h₀) (N : News h₀ L s.heap news) (T : Top VW LS mean mg mb h₀) (hk : cs.kind = .function) (Z : Led)
  (hP : ∀ p ∈ P, s.heap.get? p.1 = some p.2) (hO : ∀ p ∈ O, p ∈ news) (hOP : ∀ p ∈ O, ∀ q ∈ P, p.1 ≠ q.1) (hZ : ∀ p ∈ Z, p ∈ news) (hOZ : ∀ p ∈ O, ∀ q ∈ Z, p.1 ≠ q.1)
  (hd : dp + lv < recursionLimit) (hu : un + 8 * lv < cLine)
  (ret : ∀ v O' h' tk', R v O' → Fr h₀ L h' m → News h₀ L h' (O' ++ Z) → (∀ p ∈ Z, ∀ q ∈ O', p.1 ≠ q.1) → Q v { s with heap := h', toks := tk' }) :
  wpG (model PR w) (ktrTop dp un (some []) cn cs L a ccd cl outer) (call (.ref f) vs) Q E s :=
 S dp un cn cs a ccd cl outer A₀ base h₀ L m news s mean mg mb Q E B F X N T hk hP hO hOP hd hu
  (fun v O' h' tk' r F' S' => ret v O' h' tk' r F' (S'.led Z hZ hOZ) fun p hp => S'.apart p (hZ p hp) fun q hq e => hOZ q hq p hp e)
end
section
variable {prog : Program} {w : World} {A : Around} {E : Value → Shared → Prop} {s : Shared} {env : Env}
theorem wpG_Assign_Subscript {o i : PySem.Expr} {pos' : Pos} {value : PySem.Expr} {pos : Pos} {Q : Flow → Shared → Prop}
  (h : wpG (model prog w) A (eval value env) (fun v s₁ => wpG (model prog w) A (eval o env) (fun ov s₂ => wpG (model prog w) A (eval i env) (fun iv s₃ => wpG (model prog w) A (setItem ov iv v) (fun _ s₄ => Q .next s₄) E s₃) E s₂) E s₁) E s)
  (hs : autoParam (swapsWith value (some (.Subscript o i pos')) pos.line env = pure false) name_B._auto_3) :
  wpG (model prog w) A (exec (.Assign [.Subscript o i pos'] value pos) env) Q E s := fun Γ p hΓ g1 g2 => by
 simp only [exec_Assign_Subscript o i pos' value pos hs, assign_Subscript, Sem.wp_bind', Sem.wp_holding, Sem.wp_cmd_standAt, Sem.wp_release, Sem.wp_pure']
 exact Sem.wp_mono _ Γ _ (fun v p₁ s₁ h₁ => Sem.wp_mono _ Γ _ (fun ov p₂ s₂ h₂ => Sem.wp_mono _ Γ _ (fun iv _ s₃ h₃ => h₃ Γ _ hΓ g1 g2)
  (fun _ _ _ h' => h') _ _ (h₂ Γ p₂ hΓ g1 g2)) (fun _ _ _ h' => h') _ _ (h₁ Γ p₁ hΓ g1 g2)) (fun _ _ _ h' => h') _ _ (h Γ _ hΓ g1 g2)
theorem wpG_Return {e : PySem.Expr} {pos : Pos} {Q : Flow → Shared → Prop} (h : wpG (model prog w) A (eval e env) (fun v s' => Q (.ret v) s') E s) : wpG (model prog w) A (exec (.Return (some e) pos) env) Q E s := by
 rw [exec_Return_some]
 exact wpG_step (wpAny_standAt (wpG_bind (wpG_mono h (fun v s' h' => wpG_pure h') fun _ _ x => x)))
theorem wpG_Assign_Name {x : Str} {pos' : Pos} {value : PySem.Expr} {pos : Pos} {Q : Flow → Shared → Prop}
  (h : wpG (model prog w) A (eval value env) (fun v s₁ => wpAny (model prog w) A (storeName env x v) (fun _ s₂ => Q .next s₂) E s₁) E s)
  (hs : autoParam (swapsWith value (some (.Name x pos')) pos.line env = pure false) name_B._auto_3) :
  wpG (model prog w) A (exec (.Assign [.Name x pos'] value pos) env) Q E s := fun Γ p hΓ g1 g2 => by
 simp only [exec_Assign_Name env x pos' value pos hs, Sem.wp_bind', Sem.wp_cmd_standAt, Sem.wp_bindName, Sem.wp_pure']
 exact Sem.wp_mono _ Γ _ (fun v _ s₁ h₁ => h₁ Γ _ hΓ) (fun _ _ _ h' => h') _ _ (h Γ _ hΓ g1 g2)
theorem wpG_methodCall {name : Str} {o : PySem.Expr} {apos pos : Pos} {args : List PySem.Expr} {kws : List Keyword} {pl : Sem Bool} {Q : Value → Shared → Prop}
  (h : wpAny (model prog w) A (eval o env) (fun ov s₁ => wpAny (model prog w) A (getMethod ov name pl) (fun fx s₂ => wpG (model prog w) A (callWith pos fx.1 fx.2 (backTo pos (starEach args env)) (backToKw pos (keywordEach kws env))) Q E s₂) E s₁) E s)
  (he : autoParam (eval (.Call (.Attribute o name apos) args kws pos) env = (do
   let ov ← eval o env
   standAt apos.atName
   let (f, first) ← holding [ov] (getMethod ov name pl)
   callWith pos f first (backTo pos (starEach args env)) (backToKw pos (keywordEach kws env)))) name_B._auto_3) :
  wpG (model prog w) A (eval (.Call (.Attribute o name apos) args kws pos) env) Q E s := by
 rw [he]
 refine wpG_step (wpAny_mono h (fun ov s₁ h₁ => wpG_step (wpAny_standAt (wpG_step (wpAny_holding (wpAny_mono h₁ (fun fx s₂ h₂ => ?_) fun _ _ x => x))))) fun _ _ x => x)
 exact h₂
end
section
variable {prog : Program} {w : World} {A : Around} {E : Value → Shared → Prop} {s : Shared} {env : Env} {M : Model}
theorem wpG_dropValue {e : PySem.Expr} {pos : Pos} {v : Value} {Q : Flow → Shared → Prop} (h : Q .next s) : wpG (model prog w) A (dropValue e pos v) Q E s := wpG_of (wpAny_dropValue h)
theorem wpG_Expr {e : PySem.Expr} {pos : Pos} {Q : Flow → Shared → Prop} (h : wpG (model prog w) A (eval e env) (fun _ s' => Q .next s') E s)
  (hi : autoParam (interactive env = false) name_B._auto_3) (hs : autoParam (swapsWith e none pos.line env = pure false) name_B._auto_3) : wpG (model prog w) A (exec (.Expr e pos) env) Q E s := by
 rw [exec_Expr env e pos hi hs]
 exact wpG_step (wpAny_standAt (wpG_bind (wpG_mono h (fun v s' h' => wpG_dropValue h') fun _ _ x => x)))
theorem wpG_Call {func : PySem.Expr} {args : List PySem.Expr} {pos : Pos} {Q : Value → Shared → Prop}
  (h : wpAny M A (eval func env) (fun f s₁ => wpG M A (callWith pos f [] (backTo pos (starEach args env)) []) Q E s₁) E s)
  (he : autoParam (eval (.Call func args [] pos) env = (do callWith pos (← eval func env) [] (backTo pos (starEach args env)) (backToKw pos (keywordEach [] env)))) name_B._auto_3) :
  wpG M A (eval (.Call func args [] pos) env) Q E s := by
 rw [he]; exact wpG_step h
theorem wpG_spliced_cons {x : Sem Value} {rest : List (Bool × Sem Value)} {Q : List Value → Shared → Prop}
  (h : wpG M A x (fun v s₁ => wpG M A (spliced rest) (fun vs s₂ => Q (v :: vs) s₂) E s₁) E s) : wpG M A (spliced ((false, x) :: rest)) Q E s := by
 rw [spliced]
 refine wpG_bind (wpG_mono h (fun v s₁ h₁ => ?_) fun _ _ x => x)
 simp only [Bool.false_eq_true, if_false]
 exact wpG_step (wpAny_pure (wpG_bind (wpG_holding (wpG_mono h₁ (fun vs s₂ h₂ => wpG_pure h₂) fun _ _ x => x))))
theorem wpG_evalArgs_plain {f : Value} {x : Sem Value} {rest : List (Bool × Sem Value)} {Q : Args → Shared → Prop}
  (h : wpG M A (spliced ((false, x) :: rest)) (fun vs s' => Q ⟨vs, []⟩ s') E s) : wpG M A (evalArgs f true ((false, x) :: rest) []) Q E s := by
 unfold evalArgs
 show wpG M A (spliced ((false, x) :: rest) >>= _) Q E s
 refine wpG_bind (wpG_mono h (fun vs s' h' => ?_) fun _ _ x => x)
 refine wpG_holding ?_
 exact wpG_step (wpAny_pure (wpG_step (wpAny_pure (wpG_pure h'))))
theorem wpG_args_cons {e : PySem.Expr} {rest : List PySem.Expr} {pos : Pos} {Q : List Value → Shared → Prop}
  (h : wpG M A (eval e env) (fun v s₁ => wpG M A (spliced (backTo pos (starEach rest env))) (fun vs s₂ => Q (v :: vs) s₂) E s₁) E s)
  (he : autoParam (starEach (e :: rest) env = (false, eval e env) :: starEach rest env) name_B._auto_3) : wpG M A (spliced (backTo pos (starEach (e :: rest) env))) Q E s := by
 rw [he]; exact wpG_spliced_cons h
theorem wpG_callWith_gen {P : Heap → Prop} {pos : Pos} {f : Value} {first : List Value} {args : List (Bool × Sem Value)} {Q : Value → Shared → Prop}
  (hplain : args.any (·.1) = false) (hk : ∀ h, P h → ∃ k, (k = Keeper.frame ∨ k = Keeper.machine ∨ k = Keeper.boundFrame) ∧ Looks (model prog w) h (keeperOf f) k)
  (h : wpG (model prog w) A (evalArgs f true args []) (fun a s₁ => P s₁.heap ∧ wpG (model prog w) A (call f (first ++ a.pos) a.kw) Q E s₁) E s) : wpG (model prog w) A (callWith pos f first args []) Q E s := by
 have hplain2 : (args.any (·.1) || ([] : List (Option Str × Sem Value)).any (·.1.isNone)) = false := by rw [hplain]; rfl
 unfold callWith
 refine wpG_bind (wpG_holding (wpG_mono h (fun a s₁ h₁ => wpG_step (wpAny_standAt ?_)) fun _ _ x => x))
 obtain ⟨k, hk', L⟩ := hk _ h₁.1
 simp only [hplain2]
 refine wpG_step (L.here ?_)
 have tail : ∀ {t : Sem Value}, wpG (model prog w) A t Q E s₁ → wpG (model prog w) A (t >>= fun r => holding [r] point >>= fun _ => pure r) Q E s₁ :=
  fun ht => wpG_bind (wpG_mono ht (fun r s₂ hr => wpG_step (wpAny_holding (wpAny_point (wpG_pure hr)))) fun _ _ x => x)
 have marked (mk : Value) : wpG (model prog w) A (callMarked mk f (first ++ a.pos) a.kw) Q E s₁ := by
  unfold callMarked
  intro Γ p hΓ g1 g2
  rw [Sem.wp_keep]; exact h₁.2 Γ p hΓ g1 g2
 rcases hk' with rfl | rfl | rfl <;> dsimp only <;> first | exact tail h₁.2 | (split <;> first | exact tail h₁.2 | exact tail (marked _))
theorem wpG_callWith_type1 {pos : Pos} {T : String} {e : PySem.Expr} {rest : List PySem.Expr} {Q : Value → Shared → Prop}
  (h : wpAny (model prog w) A (spliced (backTo pos (starEach (e :: rest) env))) (fun vs s₁ => wpG (model prog w) A (call (.type T) vs) Q E s₁) E s)
  (he : autoParam (starEach (e :: rest) env = (false, eval e env) :: starEach rest env) name_B._auto_3)
  (hplain : autoParam ((backTo pos (starEach rest env)).any (·.1) = false) name_B._auto_3) :
  wpG (model prog w) A (callWith pos (.type T) [] (backTo pos (starEach (e :: rest) env)) []) Q E s := by
 rw [he] at h ⊢
 refine wpG_callWith_gen (P := fun _ => True) (by show (false || (backTo pos (starEach rest env)).any (·.1)) = false; rw [hplain]; rfl) (fun h _ => ⟨.machine, .inr (.inl rfl), Looks.of_pure rfl⟩) ?_
 refine wpG_of (evalArgs_plain (wpAny_mono h (fun vs s' h' => ⟨trivial, h'⟩) fun _ _ x => x))
theorem wpG_callKG {K : Frag} {pos : Pos} {f : Value} {first : List Value} {e : PySem.Expr} {rest : List PySem.Expr} {Q : Value → Shared → Prop} (hk : keepIn K f = true)
  (h : wpG (model prog w) A (spliced (backTo pos (starEach (e :: rest) env))) (fun vs s₁ => K.In s₁.heap ∧ wpG (model prog w) A (call f (first ++ vs)) Q E s₁) E s)
  (he : autoParam (starEach (e :: rest) env = (false, eval e env) :: starEach rest env) name_B._auto_3)
  (hplain : autoParam ((backTo pos (starEach rest env)).any (·.1) = false) name_B._auto_3) :
  wpG (model prog w) A (callWith pos f first (backTo pos (starEach (e :: rest) env)) []) Q E s := by
 rw [he] at h ⊢
 refine wpG_callWith_gen (P := K.In) (by show (false || (backTo pos (starEach rest env)).any (·.1)) = false; rw [hplain]; rfl) (fun h X => keeps_K hk h X) ?_
 exact wpG_evalArgs_plain h
theorem wpG_Assign_Attribute {o : PySem.Expr} {attr : Str} {pos' : Pos} {value : PySem.Expr} {pos : Pos} {Q : Flow → Shared → Prop}
  (h : wpG (model prog w) A (eval value env) (fun v s₁ => wpAny (model prog w) A (eval o env) (fun ov s₂ => wpAny (model prog w) A (setAttr ov attr v) (fun _ s₃ => Q .next s₃) E s₂) E s₁) E s)
  (hs : autoParam (swapsWith value (some (.Attribute o attr pos')) pos.line env = pure false) name_B._auto_3) :
  wpG (model prog w) A (exec (.Assign [.Attribute o attr pos'] value pos) env) Q E s := fun Γ p hΓ g1 g2 => by
 simp only [plainObj_exec_Assign_Attribute o attr pos' value pos hs, assign_Attribute, Sem.wp_bind', Sem.wp_holding, Sem.wp_cmd_standAt, Sem.wp_release, Sem.wp_pure']
 exact Sem.wp_mono _ Γ _ (fun v p₁ s₁ h₁ => Sem.wp_mono _ Γ _ (fun ov _ s₂ h₂ => h₂ Γ _ hΓ) (fun _ _ _ h' => h') _ _ (h₁ Γ p₁ hΓ)) (fun _ _ _ h' => h') _ _ (h Γ _ hΓ g1 g2)
end
noncomputable def EF (_ : Value) (_ : Shared) : Prop := False
structure Cx where
 dp : Nat
 un : Nat
 outer : List Env
 A₀ : Around
 base : Heap
 g : Heap
 L : Addr
 s₀ : Shared
 mean : ExcName → Option Value
 mg : Str → Option Value
 mb : Str → Option Value
 cl : List (Str × Addr)
 ev : Env
 mf : Str → Option Value
structure Cx.OK (c : Cx) (w : World) (lv : Nat) (scope : Scope) : Prop where
 B : Below c.A₀ c.base c.outer c.g
 X : (K9 w.params).In c.g
 T : Top VW LS c.mean c.mg c.mb c.g
 hd : c.dp + lv < recursionLimit
 hu : c.un + 8 * lv < cLine
 hk : scope.kind = .function
structure Df where
 w : World
 lv : Nat
 qual : Str
 scope : Scope
 f : Addr
 cdv : Value
 top : Bool
noncomputable abbrev Fs := List (Str × Sh)
noncomputable def up (x : Str) (sh : Sh) (l : Fs) : Fs := (x, sh) :: l.filter fun p => !(p.1 == x)
theorem has_lookup {m : Str → Option Value} {x : Str} {sh : Sh} : ∀ {l : Fs}, Has m l → l.lookup x = some sh → ∃ t, m x = some (sh.val t)
 | [], _, h => nomatch h
 | p :: r, ⟨h1, hr⟩, h => by
  rw [List.lookup_cons] at h
  split at h
  ·rename_i e
   injection h with h
   subst h
   rw [show x = p.1 from beq_iff_eq.mp e]
   exact h1
  ·exact has_lookup hr h
theorem has_mem {m : Str → Option Value} : ∀ {l : Fs}, Has m l ↔ ∀ p ∈ l, ∃ t, m p.1 = some (p.2.val t)
 | [] => ⟨fun _ _ h => (nomatch h), fun _ => trivial⟩
 | p :: r => ⟨fun h q hq => by
   rcases List.mem_cons.mp hq with rfl | hq
   ·exact h.1
   ·exact has_mem.mp h.2 q hq, fun h => ⟨h p (.head _), has_mem.mpr fun q hq => h q (.tail _ hq)⟩⟩
theorem Has.up {m : Str → Option Value} {x : Str} {sh : Sh} {v : Value} {l : Fs} (h : Has m l) (hv : ∃ t, v = sh.val t) : Has (fun y => if y = x then some v else m y) (Mine.up x sh l) := by
 obtain ⟨t, rfl⟩ := hv
 refine has_mem.mpr fun p hp => ?_
 rcases List.mem_cons.mp hp with rfl | hp
 ·exact ⟨t, if_pos rfl⟩
 ·obtain ⟨hm, hne⟩ := List.mem_filter.mp hp
  have : p.1 ≠ x := by simpa using hne
  show ∃ t, (if p.1 = x then some (sh.val _) else m p.1) = some (p.2.val t)
  rw [if_neg this]
  exact has_mem.mp h p hm
section
variable (d : Df) (c : Cx)
noncomputable def cA : Around := ktrTop c.dp c.un (some []) d.qual d.scope c.L d.f d.cdv c.cl c.outer
noncomputable def cE : Env := match d.top with
 | true => envX d.qual d.scope c.L d.f d.cdv c.cl
 | false => c.ev
structure HasM (l : Fs) (m : Str → Option Value) : Prop where
 has : Has m l
 fix : d.top = false → m = c.mf
structure St (l : Fs) (N : Led) (s : Shared) : Prop where
 ok : c.OK d.w d.lv d.scope
 same : ∃ h tk, s = { c.s₀ with heap := h, toks := tk }
 fr : ∃ m, Fr c.g c.L s.heap m ∧ HasM d c l m
 news : News c.g c.L s.heap N
noncomputable def PB (R : Flow → Fs → Led → Prop) (fl : Flow) (s' : Shared) : Prop := ∃ l' N', St d c l' N' s' ∧ R fl l' N'
noncomputable def Bk (l : Fs) (N : Led) (ss : List Stmt) (R : Flow → Fs → Led → Prop) : Prop :=
 ∀ s, St d c l N s → wpAny (model PR d.w) (cA d c) (execs ss (cE d c)) (PB d c R) EF s
noncomputable def WG (l : Fs) (N : Led) (ss : List Stmt) (R : Flow → Fs → Led → Prop) : Prop :=
 ∀ s, St d c l N s → wpG (model PR d.w) (cA d c) (execs ss (cE d c)) (PB d c R) EF s
variable {d} {c} {l : Fs} {N : Led}
theorem cE_top (h : d.top = true) : cE d c = envX d.qual d.scope c.L d.f d.cdv c.cl := by unfold cE; rw [h]
theorem St.tok {s : Shared} (h : St d c l N s) (n : Nat) : St d c l N { s with toks := n } := by
 obtain ⟨ok, ⟨h1, tk, rfl⟩, h2, h3⟩ := h
 exact ⟨ok, ⟨h1, n, rfl⟩, h2, h3⟩
theorem WG.of {ss : List Stmt} {R : Flow → Fs → Led → Prop} (h : Bk d c l N ss R) : WG d c l N ss R := fun s hS => wpG_of (h s hS)
theorem store9 {x : Str} {v : Value} {sh : Sh} {s : Shared} {Q : Shared → Prop} (hS : St d c l N s) (hv : ∃ t, v = sh.val t) (hx : (cE d c).kindOf x = some .local) (ht : d.top = true) (h : ∀ s', St d c (up x sh l) N s' → Q s') :
  wpAny (model PR d.w) (cA d c) (storeName (cE d c) x v) (fun _ => Q) EF s := by
 obtain ⟨ok, ⟨h1, tk, rfl⟩, ⟨m, F, H⟩, hN⟩ := hS
 rw [cE_top ht] at hx ⊢
 exact wpAny_storeName_local hx F.ns (fun h' hn hs => h _ ⟨ok, ⟨_, _, rfl⟩, ⟨_, F.set hn hs, H.has.up hv, fun h => by rw [ht] at h; cases h⟩, hN.set hs⟩) (by show (d.scope.kind == .class || (d.scope.kind == .module && c.L != mainGlobals)) = false; rw [ok.hk]; rfl)
theorem Bk.nil {R : Flow → Fs → Led → Prop} (h : R .next l N) : Bk d c l N [] R := fun s hS => wpAny_execs_nil ⟨l, N, hS, h⟩
theorem Bk.ret0 {pos : Pos} {rest : List Stmt} {R : Flow → Fs → Led → Prop} (h : R (.ret .none) l N) : Bk d c l N (.Return none pos :: rest) R :=
 fun s hS => wpAny_execs_cons (wpAny_Return_none ⟨l, N, hS, h⟩)
theorem PB.mono {R R' : Flow → Fs → Led → Prop} {fl : Flow} {s' : Shared} (h : PB d c R fl s') (hr : ∀ l' N', R fl l' N' → R' fl l' N') : PB d c R' fl s' := by
 obtain ⟨l', N', hS, r⟩ := h
 exact ⟨l', N', hS, hr l' N' r⟩
noncomputable def Seq9 (d : Df) (c : Cx) (rest : List Stmt) (R : Flow → Fs → Led → Prop) (fl : Flow) (l' : Fs) (N' : Led) : Prop := match fl with
 | .next => Bk d c l' N' rest R
 | fl => R fl l' N'
noncomputable def Seq9G (d : Df) (c : Cx) (rest : List Stmt) (R : Flow → Fs → Led → Prop) (fl : Flow) (l' : Fs) (N' : Led) : Prop := match fl with
 | .next => WG d c l' N' rest R
 | fl => R fl l' N'
theorem Bk.cons {st : Stmt} {rest : List Stmt} {R : Flow → Fs → Led → Prop} (h : ∀ s, St d c l N s → wpAny (model PR d.w) (cA d c) (exec st (cE d c)) (PB d c (Seq9 d c rest R)) EF s) : Bk d c l N (st :: rest) R :=
 fun s hS => wpAny_execs_cons (wpAny_mono (h s hS) (fun fl s' ⟨l', N', hS', r⟩ => by cases fl with
  | next => exact r s' hS'
  | _ => exact ⟨l', N', hS', r⟩) fun _ _ x => x)
theorem WG.cons {st : Stmt} {rest : List Stmt} {R : Flow → Fs → Led → Prop} (h : ∀ s, St d c l N s → wpG (model PR d.w) (cA d c) (exec st (cE d c)) (PB d c (Seq9G d c rest R)) EF s) : WG d c l N (st :: rest) R :=
 fun s hS => wpG_execs_cons (wpG_mono (h s hS) (fun fl s' ⟨l', N', hS', r⟩ => by cases fl with
  | next => exact r s' hS'
  | _ => exact ⟨l', N', hS', r⟩) fun _ _ x => x)
end
noncomputable def Sh.of : Value → Sh
 | .int n _ => .i n
 | .str x _ => .s x
 | .bytes x _ => .b x
 | z => .v z
theorem Sh.of_val (v : Value) : ∃ t, v = (Sh.of v).val t := by
 cases v <;> first | exact ⟨_, rfl⟩ | exact ⟨0, rfl⟩
noncomputable def fsO : List (Str × Value) → Fs
 | [] => []
 | p :: r => up p.1 (Sh.of p.2) (fsO r)
theorem has_fsO : ∀ bs : List (Str × Value), Has (fun y => bs.lookup y) (fsO bs)
 | [] => trivial
 | p :: r => by
  have h := (has_fsO r).up (x := p.1) (Sh.of_val p.2)
  have e : (fun y => (p :: r).lookup y) = fun y => if y = p.1 then some p.2 else r.lookup y := by
   funext y
   rw [List.lookup_cons]
   by_cases hy : y = p.1
   ·rw [if_pos hy, beq_iff_eq.mpr hy]
   ·rw [if_neg hy, beq_eq_false_iff_ne.mpr hy]
  rw [e]; exact h
noncomputable def RF (R : Value → Led → Prop) (fl : Flow) (_ : Fs) (N' : Led) : Prop := R (match fl with | .ret v => v | _ => .none) N'
noncomputable def Ent (d : Df) (l : Fs) (P O : Led) (R : Value → Led → Prop) (body : List Stmt) (c : Cx) (R' : Value → Led → Prop) : Prop :=
 (∀ p ∈ O, p.1 < c.L) → (∀ p ∈ P, c.g.get? p.1 = some p.2) → (∀ v O', R v O' → R' v O') → Bk d c l O body (RF R')
noncomputable def EntG (d : Df) (l : Fs) (P O : Led) (R : Value → Led → Prop) (body : List Stmt) (c : Cx) (R' : Value → Led → Prop) : Prop :=
 (∀ p ∈ O, p.1 < c.L) → (∀ p ∈ P, c.g.get? p.1 = some p.2) → (∀ v O', R v O' → R' v O') → WG d c l O body (RF R')
section
variable {w : World} {f : Addr} {lv : Nat} {vs : List Value} {P O : Led} {R : Value → Led → Prop}
  {name qual : Str} {params : Arguments} {body : List Stmt} {scope : Scope} {dV kV doc pm cdv ct oc : Value} {an od : Option Addr} {osl : Array (Option Value)} {binds : List (Str × Value)}
theorem Sp.of_W (l : Fs)
  (ho : (K9 w.params).lookup f = some ⟨oc, od, .func (fnOf name qual params body scope dV kV doc pm an cdv ct), osl⟩)
  (hcd : codeIn (K9 w.params) cdv qual = true)
  (hbind : ∀ s : Shared, (K9 w.params).In s.heap → BindsTo s (fnOf name qual params body scope dV kV doc pm an cdv ct) ⟨vs, []⟩ binds) (hloc : ∀ y ∈ binds, scope.names.lookup y.1 = some .local)
  (hco : scope.isCoroutine = false) (hgen : scope.isGenerator = false) (hk : scope.kind = .function)
  (hcell : ∀ x ∈ scope.names, x.2 ≠ .cell) (hl : fsO binds.reverse = l)
  (h : ∀ (c : Cx) (R' : Value → Led → Prop), Ent ⟨w, lv, qual, scope, f, cdv, true⟩ l P O R body c R') : Sp w f (lv + 1) vs P O R :=
 Sp.of_body ho hcd hbind hloc hco hgen hk hcell fun dp un outer A₀ base g L' h₁ s mean mg mb B F X N T l0 hP hdp hun hs => by
  subst hs
  refine wpAny_mono (h ⟨dp, un, outer, A₀, base, g, L', s, mean, mg, mb, [], envX qual scope L' f cdv [], fun _ => none⟩ R l0 hP (fun _ _ r => r) s ⟨⟨B, X, T, hdp, hun, hk⟩, ⟨s.heap, s.toks, rfl⟩, ⟨_, F, hl ▸ has_fsO _, fun h => nomatch h⟩, N⟩) (fun fl s' hp => ?_) fun _ _ x => x
  obtain ⟨l', N', ⟨_, ⟨h', tk', rfl⟩, ⟨m', F', _⟩, hN'⟩, r⟩ := hp
  exact ⟨m', N', h', tk', rfl, F', hN', r⟩
theorem SpG.of_W (l : Fs)
  (ho : (K9 w.params).lookup f = some ⟨oc, od, .func (fnOf name qual params body scope dV kV doc pm an cdv ct), osl⟩)
  (hcd : codeIn (K9 w.params) cdv qual = true)
  (hbind : ∀ s : Shared, (K9 w.params).In s.heap → BindsTo s (fnOf name qual params body scope dV kV doc pm an cdv ct) ⟨vs, []⟩ binds) (hloc : ∀ y ∈ binds, scope.names.lookup y.1 = some .local)
  (hco : scope.isCoroutine = false) (hgen : scope.isGenerator = false) (hk : scope.kind = .function)
  (hcell : ∀ x ∈ scope.names, x.2 ≠ .cell) (hl : fsO binds.reverse = l)
  (h : ∀ (c : Cx) (R' : Value → Led → Prop), EntG ⟨w, lv, qual, scope, f, cdv, true⟩ l P O R body c R') : SpG w f (lv + 1) vs P O R :=
 SpG.of_body ho hcd hbind hloc hco hgen hk hcell fun dp un outer A₀ base g L' h₁ s mean mg mb B F X N T l0 hP hdp hun hs => by
  subst hs
  refine wpG_mono (h ⟨dp, un, outer, A₀, base, g, L', s, mean, mg, mb, [], envX qual scope L' f cdv [], fun _ => none⟩ R l0 hP (fun _ _ r => r) s ⟨⟨B, X, T, hdp, hun, hk⟩, ⟨s.heap, s.toks, rfl⟩, ⟨_, F, hl ▸ has_fsO _, fun h => nomatch h⟩, N⟩) (fun fl s' hp => ?_) fun _ _ x => x
  obtain ⟨l', N', ⟨_, ⟨h', tk', rfl⟩, ⟨m', F', _⟩, hN'⟩, r⟩ := hp
  exact ⟨m', N', h', tk', rfl, F', hN', r⟩
end
section
variable {d : Df} {c : Cx} {l : Fs} {N : Led}
noncomputable def nodupB : List Str → Bool
 | [] => true
 | x :: r => !(r.contains x) && nodupB r
theorem nodup_of {l : List Str} (h : nodupB l = true) : l.Nodup := by
 induction l with
 | nil => exact List.nodup_nil
 | cons x r ih =>
  unfold nodupB at h
  rw [Bool.and_eq_true] at h
  refine List.nodup_cons.mpr ⟨fun hm => ?_, ih h.2⟩
  have := h.1
  rw [List.contains_iff_mem.mpr hm] at this
  cases this
theorem has_ov {τ : Str → Tok} {u : Str → Option Value} : ∀ {l : Fs}, (l.map (·.1)).Nodup → Has (ov l τ u) l
 | [], _ => trivial
 | p :: r, h => by
  obtain ⟨h1, h2⟩ := List.nodup_cons.mp h
  refine has_mem.mpr fun q hq => ?_
  rcases List.mem_cons.mp hq with rfl | hq
  ·exact ⟨τ q.1, if_pos rfl⟩
  ·have hne : q.1 ≠ p.1 := fun e => h1 (by have := List.mem_map_of_mem (f := (·.1)) hq; show p.1 ∈ List.map _ r; rw [← e]; exact this)
   obtain ⟨t, ht⟩ := has_mem.mp (has_ov (τ := τ) (u := u) h2) q hq
   exact ⟨t, (if_neg hne).trans ht⟩
end
noncomputable def valsO (ts : Nat → Tok) : Nat → List Sh → List Value
 | _, [] => []
 | i, sh :: r => sh.val (ts i) :: valsO ts (i + 1) r
theorem valsO_congr {ts us : Nat → Tok} : ∀ (r : List Sh) (i : Nat), (∀ j, i ≤ j → ts j = us j) → valsO ts i r = valsO us i r
 | [], _, _ => rfl
 | sh :: r, i, h => by
  show _ :: _ = _ :: _
  rw [h i (Nat.le_refl i), valsO_congr r (i + 1) fun j hj => h j (Nat.le_of_succ_le hj)]
section
variable (d : Df) (c : Cx)
noncomputable def OAt (N : Led) (x : Addr) (o : Obj) : Prop := (x, o) ∈ N ∨ c.g.get? x = some o
noncomputable def plainE : PySem.Expr → Bool
 | .Starred _ _ => false
 | _ => true
noncomputable def FnAt (w : World) (x : Str) (a : Addr) : Prop := nsIn (K9 w.params) mainGlobals x = some (some (.ref a)) ∧ keepIn (K9 w.params) (.ref a) = true
noncomputable def MethAt (w : World) (C : Addr) (x : Str) (a : Addr) : Prop := plainGet (K9 w.params) C x = true ∧ findIn (K9 w.params) (.ref C) x = some (some (.ref a)) ∧ isFn (K9 w.params) (.ref a) = true ∧ keepIn (K9 w.params) (.ref a) = true
variable {d} {c} {l : Fs} {N : Led}
theorem OAt.at {x : Addr} {o : Obj} {s : Shared} (h : OAt c N x o) (hS : St d c l N s) : s.heap.get? x = some o := by
 rcases h with h | h
 ·exact (hS.news _ h).1
 ·obtain ⟨m, F, _⟩ := hS.fr
  exact F.keep _ _ h
theorem St.kin {s : Shared} (hS : St d c l N s) : (K9 d.w.params).In s.heap := by
 obtain ⟨m, F, _⟩ := hS.fr
 exact hS.ok.X.keeps F.keep
theorem starEach_plain {e : PySem.Expr} {es : List PySem.Expr} {env : Env} (h : plainE e = true) : starEach (e :: es) env = (false, eval e env) :: starEach es env := by
 cases e <;> first | rfl | (exact absurd h Bool.false_ne_true)
structure Foot (d : Df) (c : Cx) (N P O Z : Led) (lv' : Nat) : Prop where
 rd : ∀ p ∈ P, OAt c N p.1 p.2
 own : ∀ p ∈ O, p ∈ N
 op : ∀ p ∈ O, ∀ q ∈ P, p.1 ≠ q.1
 rest : ∀ p ∈ Z, p ∈ N
 oz : ∀ p ∈ O, ∀ q ∈ Z, p.1 ≠ q.1
 lt : lv' ≤ d.lv
noncomputable def After (R : Value → Led → Prop) (Z : Led) (v : Value) (N' : Led) : Prop := ∃ O', R v O' ∧ N' = O' ++ Z ∧ ∀ p ∈ Z, ∀ q ∈ O', p.1 ≠ q.1
theorem call_ev {a : Addr} {lv' : Nat} {vs : List Value} {P O Z : Led} {R : Value → Led → Prop} (S : Sp d.w a lv' vs P O R) (h : Foot d c N P O Z lv') {s : Shared} {Q : Value → Shared → Prop} (hS : St d c l N s)
  (hQ : ∀ v N' s', After R Z v N' → St d c l N' s' → Q v s') : wpAny (model PR d.w) (cA d c) (call (.ref a) vs) Q EF s := by
 have hP : ∀ p ∈ P, s.heap.get? p.1 = some p.2 := fun p hp => (h.rd p hp).at hS
 obtain ⟨ok, ⟨hp, tk, rfl⟩, ⟨m, F, H⟩, hN⟩ := hS
 have hlt := h.lt
 refine Sp.write S ok.B F ok.X hN ok.T ok.hk Z hP h.own h.op h.rest h.oz (Nat.lt_of_le_of_lt (Nat.add_le_add_left hlt _) ok.hd) (Nat.lt_of_le_of_lt (Nat.add_le_add_left (Nat.mul_le_mul_left 8 hlt) _) ok.hu) ?_
 exact fun v O' h' tk' r F' N' ap => hQ v (O' ++ Z) _ ⟨O', r, rfl, ap⟩ ⟨ok, ⟨h', tk', rfl⟩, ⟨m, F', H⟩, N'⟩
theorem callG_ev {a : Addr} {lv' : Nat} {vs : List Value} {P O Z : Led} {R : Value → Led → Prop} (S : SpG d.w a lv' vs P O R) (h : Foot d c N P O Z lv') {s : Shared} {Q : Value → Shared → Prop} (hS : St d c l N s)
  (hQ : ∀ v N' s', After R Z v N' → St d c l N' s' → Q v s') : wpG (model PR d.w) (cA d c) (call (.ref a) vs) Q EF s := by
 have hP : ∀ p ∈ P, s.heap.get? p.1 = some p.2 := fun p hp => (h.rd p hp).at hS
 obtain ⟨ok, ⟨hp, tk, rfl⟩, ⟨m, F, H⟩, hN⟩ := hS
 have hlt := h.lt
 refine SpG.write S ok.B F ok.X hN ok.T ok.hk Z hP h.own h.op h.rest h.oz (Nat.lt_of_le_of_lt (Nat.add_le_add_left hlt _) ok.hd) (Nat.lt_of_le_of_lt (Nat.add_le_add_left (Nat.mul_le_mul_left 8 hlt) _) ok.hu) ?_
 exact fun v O' h' tk' r F' N' ap => hQ v (O' ++ Z) _ ⟨O', r, rfl, ap⟩ ⟨ok, ⟨h', tk', rfl⟩, ⟨m, F', H⟩, N'⟩
end
section
variable {d : Df} {c : Cx} {l : Fs} {N : Led}
theorem has_sub {m : Str → Option Value} {l l' : Fs} (h : Has m l) (hl : ∀ p ∈ l', p ∈ l) : Has m l' := has_mem.mpr fun p hp => has_mem.mp h p (hl p hp)
theorem St.sub {l' : Fs} {N' : Led} {s : Shared} (h : St d c l N s) (hl : ∀ p ∈ l', p ∈ l) (hN : ∀ p ∈ N', p ∈ N) : St d c l' N' s := by
 obtain ⟨ok, h1, ⟨m, F, H⟩, h3⟩ := h
 exact ⟨ok, h1, ⟨m, F, has_sub H.has hl, H.fix⟩, fun p hp => h3 p (hN p hp)⟩
theorem Bk.sub {l' : Fs} {N' : Led} {ss : List Stmt} {R : Flow → Fs → Led → Prop} (h : Bk d c l' N' ss R) (hl : ∀ p ∈ l', p ∈ l) (hN : ∀ p ∈ N', p ∈ N) : Bk d c l N ss R := fun s hS => h s (hS.sub hl hN)
structure Ct9 {α : Type} (lf : α → Fs) (nf : α → Led) (I : α → Prop) (fl : Flow) (l' : Fs) (N' : Led) : Prop where
 nx : fl = .next
 at' : ∃ a, I a ∧ (∀ p ∈ lf a, p ∈ l') ∧ ∀ p ∈ nf a, p ∈ N'
theorem Bk.cut {α : Type} {st : Stmt} {rest : List Stmt} {R : Flow → Fs → Led → Prop} (lf : α → Fs) (nf : α → Led) (I : α → Prop) (h1 : Bk d c l N [st] (Ct9 lf nf I)) (h2 : ∀ a, I a → Bk d c (lf a) (nf a) rest R) : Bk d c l N (st :: rest) R := by
 refine Bk.cons fun s hS => ?_
 have h := h1 s hS
 have h' : wpAny (model PR d.w) (cA d c) (exec st (cE d c)) (PB d c (Seq9 d c rest R)) EF s := by
  intro Γ p hΓ
  have hh := h Γ p hΓ
  rw [execs_cons, Sem.wp_bind'] at hh
  refine Sem.wp_mono _ Γ _ (fun fl p' s' hx => ?_) (fun _ _ _ x => x) _ _ hh
  cases fl with
  | next =>
   rw [execs] at hx
   obtain ⟨l', N', hS', ⟨_, a, hI, hl, hn⟩⟩ := hx
   exact ⟨lf a, nf a, hS'.sub hl hn, h2 a hI⟩
  | _ =>
   obtain ⟨l', N', hS', ⟨hx, _⟩⟩ := hx
   cases hx
 exact h'
end
section
variable {d : Df} {c : Cx} {l : Fs} {N : Led}
end
theorem sub_nil {N : Led} : ∀ p ∈ ([] : Led), p ∈ N := fun _ h => absurd h List.not_mem_nil
theorem sub_cons {x : Addr × Obj} {N l : Led} (h : x ∈ N) (hs : ∀ p ∈ l, p ∈ N) : ∀ p ∈ x :: l, p ∈ N := fun p hp => by
 rcases List.mem_cons.mp hp with rfl | hp
 ·exact h
 ·exact hs p hp
theorem ne_Cx9 : Nonempty Cx := ⟨⟨0, 0, [], callerA, {}, {}, 0, {}, fun _ => none, fun _ => none, fun _ => none, [], envX "" ⟨.function, [], false, false, []⟩ 0 0 .none [], fun _ => none⟩⟩
theorem ne_R9 : Nonempty (Value → Led → Prop) := ⟨fun _ _ => True⟩
noncomputable def EntT (d : Df) (l : Fs) (P O : Led) (R : Value → Led → Prop) (body : List Stmt) (v : Cx × (Value → Led → Prop)) : Prop := Ent d l P O R body v.1 v.2
noncomputable def cw (d : Df) (l : Fs) (P O : Led) (R : Value → Led → Prop) (body : List Stmt) : Cx × (Value → Led → Prop) := ep (ne_P ne_Cx9 ne_R9) (EntT d l P O R body)
noncomputable def EntTG (d : Df) (l : Fs) (P O : Led) (R : Value → Led → Prop) (body : List Stmt) (v : Cx × (Value → Led → Prop)) : Prop := EntG d l P O R body v.1 v.2
noncomputable def cwG (d : Df) (l : Fs) (P O : Led) (R : Value → Led → Prop) (body : List Stmt) : Cx × (Value → Led → Prop) := ep (ne_P ne_Cx9 ne_R9) (EntTG d l P O R body)
theorem ent_all {d : Df} {l : Fs} {P O : Led} {R : Value → Led → Prop} {body : List Stmt} (h : Ent d l P O R body (cw d l P O R body).1 (cw d l P O R body).2) : ∀ (c : Cx) (R' : Value → Led → Prop), Ent d l P O R body c R' :=
 fun c R' => eps1 (P := EntT d l P O R body) (ne_P ne_Cx9 ne_R9) h (c, R')
theorem entG_all {d : Df} {l : Fs} {P O : Led} {R : Value → Led → Prop} {body : List Stmt} (h : EntG d l P O R body (cwG d l P O R body).1 (cwG d l P O R body).2) : ∀ (c : Cx) (R' : Value → Led → Prop), EntG d l P O R body c R' :=
 fun c R' => eps1 (P := EntTG d l P O R body) (ne_P ne_Cx9 ne_R9) h (c, R')
noncomputable abbrev KE := Sh → Led → Prop
inductive Job where
 | E (l : Fs) (N : Led) (e : PySem.Expr) (K : KE)
 | L (l : Fs) (N : Led) (es : List PySem.Expr) (K : List Sh → Led → Prop)
 | T (l : Fs) (N : Led) (e : PySem.Expr) (KT KF : Led → Prop)
section
variable (d : Df) (c : Cx) (l : Fs)
noncomputable def Dn (K : KE) (Q : Value → Shared → Prop) : Prop := ∀ v sh N' s', (∃ t, v = sh.val t) → K sh N' → St d c l N' s' → Q v s'
noncomputable def DnT (KT KF : Led → Prop) (Q : Bool → Shared → Prop) : Prop := ∀ b N' s', (b = true → KT N') → (b = false → KF N') → St d c l N' s' → Q b s'
noncomputable def RawE (N : Led) (e : PySem.Expr) (K : KE) : Prop := ∀ s Q, St d c l N s → Dn d c l K Q → wpAny (model PR d.w) (cA d c) (eval e (cE d c)) Q EF s
noncomputable def RawL (N : Led) (es : List PySem.Expr) (K : List Sh → Led → Prop) : Prop :=
 ∀ pos i s (Q : List Value → Shared → Prop), St d c l N s → (∀ ts shs N' s', K shs N' → St d c l N' s' → Q (valsO ts i shs) s') → wpAny (model PR d.w) (cA d c) (spliced (backTo pos (starEach es (cE d c)))) Q EF s
noncomputable def RawT (N : Led) (e : PySem.Expr) (KT KF : Led → Prop) : Prop := ∀ s Q, St d c l N s → DnT d c l KT KF Q → wpAny (model PR d.w) (cA d c) (isTrue e (cE d c) (eval e (cE d c))) Q EF s
noncomputable def OpS (op : Operator) (x y : Sh) (N : Led) (K : KE) : Prop := ∀ t u s Q, St d c l N s → Dn d c l K Q → wpAny (model PR d.w) (cA d c) (binaryOp op (x.val t) (y.val u)) Q EF s
noncomputable def CmpS (op : CmpOp) (x y : Sh) (N : Led) (KT KF : Led → Prop) : Prop := ∀ t u s Q, St d c l N s → DnT d c l KT KF (fun b => Q (.bool b)) → wpAny (model PR d.w) (cA d c) (compareOp op (x.val t) (y.val u)) Q EF s
noncomputable def AttrS (a : Str) (x : Sh) (N : Led) (K : KE) : Prop := ∀ t s Q, St d c l N s → Dn d c l K Q → wpAny (model PR d.w) (cA d c) (getAttr (x.val t) a true) Q EF s
noncomputable def ItemS (i : PySem.Expr) (x y : Sh) (N : Led) (K : KE) : Prop := ∀ t u s Q, St d c l N s → Dn d c l K Q → wpAny (model PR d.w) (cA d c) (subscriptTail (.Name "_" ⟨0, 0, 0, 0⟩) i (x.val t) (y.val u)) Q EF s
noncomputable def UnS (op : UnaryOp) (x : Sh) (N : Led) (K : KE) : Prop := ∀ t s Q, St d c l N s → Dn d c l K Q → wpAny (model PR d.w) (cA d c) (unaryOp op (x.val t)) Q EF s
noncomputable abbrev tupO (vs : List Value) : Obj := { cls := .type "tuple", data := .seq vs.toArray }
noncomputable def NewT (shs : List Sh) (N : Led) (K : KE) : Prop := ∀ ts r, (∀ p ∈ N, p.1 < r) → K (.v (.ref r)) ((r, tupO (valsO ts 0 shs)) :: N)
noncomputable def NewLs (shs : List Sh) (N : Led) (K : KE) : Prop := ∀ ts r, (∀ p ∈ N, p.1 < r) → K (.v (.ref r)) ((r, listOf (valsO ts 0 shs).toArray 0) :: N)
noncomputable def opK (op : Operator) (x y : Sh) (N : Led) (K : KE) : Prop := match op, x, y with
 | .Add, .i m, .i n => K (.i (m + n)) N
 | .Sub, .i m, .i n => K (.i (m - n)) N
 | op, x, y => OpS d c l op x y N K
noncomputable def isK (x y : Sh) : Option Bool := match y with
 | .v .none => match x with
  | .i _ => some false
  | .s _ => some false
  | .b _ => some false
  | .v (.ref _) => some false
  | .v (.bool _) => some false
  | .v .none => some true
  | _ => none
 | _ => none
noncomputable def isP (o : Option Bool) (p q r : Prop) : Prop := match o with
 | some true => p
 | some false => q
 | none => r
theorem isP.elim {o : Option Bool} {p q r z : Prop} (h : isP o p q r) (h1 : o = some true → p → z) (h2 : o = some false → q → z) (h3 : r → z) : z := by
 rcases o with _ | _ | _
 ·exact h3 h
 ·exact h2 rfl h
 ·exact h1 rfl h
theorem isK_same {x y : Sh} {b : Bool} (h : isK x y = some b) (t u : Tok) : plainIs (x.val t) (y.val u) = true ∧ (x.val t == y.val u) = b := by
 unfold isK at h
 split at h
 ·split at h <;> first | (cases h; exact ⟨rfl, by simp [Sh.val]⟩) | cases h
 ·cases h
noncomputable def cmpK (op : CmpOp) (x y : Sh) (N : Led) (KT KF : Led → Prop) : Prop := match op, x, y with
 | .Eq, .i m, .i n => (m = n → KT N) ∧ (m ≠ n → KF N)
 | .NotEq, .i m, .i n => (m ≠ n → KT N) ∧ (m = n → KF N)
 | .Lt, .i m, .i n => (m < n → KT N) ∧ (n ≤ m → KF N)
 | .LtE, .i m, .i n => (m ≤ n → KT N) ∧ (n < m → KF N)
 | .Gt, .i m, .i n => (n < m → KT N) ∧ (m ≤ n → KF N)
 | .GtE, .i m, .i n => (n ≤ m → KT N) ∧ (m < n → KF N)
 | .Is, x, y => isP (isK x y) (KT N) (KF N) (CmpS d c l .Is x y N KT KF)
 | .IsNot, x, y => isP (isK x y) (KF N) (KT N) (CmpS d c l .IsNot x y N KT KF)
 | op, x, y => CmpS d c l op x y N KT KF
noncomputable def unK (op : UnaryOp) (x : Sh) (N : Led) (K : KE) : Prop := match op, x with
 | .USub, .i m => K (.i (-m)) N
 | op, x => UnS d c l op x N K
noncomputable def condP (b : Bool) (p q : Prop) : Prop := match b with
 | true => p
 | false => q
theorem condP.elim {b : Bool} {p q r : Prop} (h : condP b p q) (h1 : b = true → p → r) (h2 : b = false → q → r) : r := by
 cases b with
 | true => exact h1 rfl h
 | false => exact h2 rfl h
noncomputable def nameK (d : Df) (c : Cx) (l : Fs) (N : Led) (e : PySem.Expr) (K : KE) (b : Bool) (o : Option Sh) : Prop := match b, o with
 | true, some sh => K sh N
 | _, _ => RawE d c l N e K
noncomputable def isLoc (d : Df) (x : Str) : Bool := d.top && (d.scope.names.lookup x == some .local && !(x == "__debug__"))
noncomputable def attrOk : PySem.Expr → Bool
 | .Name _ _ => true
 | .Subscript _ _ _ => true
 | .Attribute _ _ _ => true
 | _ => false
noncomputable def isSlice : PySem.Expr → Bool
 | .Slice _ _ _ _ => true
 | _ => false
end
noncomputable def Job.raw (d : Df) (c : Cx) : Job → Prop
 | .E l N e K => RawE d c l N e K
 | .L l N es K => RawL d c l N es K
 | .T l N e KT KF => RawT d c l N e KT KF
noncomputable def vc (d : Df) (c : Cx) : Nat → Job → Prop
 | 0, j => j.raw d c
 | n + 1, .E l N e K => match e with
  | .Name x _ => nameK d c l N e K (isLoc d x) (l.lookup x)
  | .Constant (.int i) _ _ => K (.i i) N
  | .Constant (.str x) _ _ => K (.s x) N
  | .Constant .none _ _ => K (.v .none) N
  | .Constant (.bool b) _ _ => K (.v (.bool b)) N
  | .BinOp a op b _ => vc d c n (.E l N a fun x N1 => vc d c n (.E l N1 b fun y N2 => opK d c l op x y N2 K))
  | .UnaryOp op a _ => vc d c n (.E l N a fun x N1 => unK d c l op x N1 K)
  | .Compare a [op] [b] _ => condP (behindInMarks op b) (RawE d c l N e K) (vc d c n (.E l N a fun x N1 => vc d c n (.E l N1 b fun y N2 => cmpK d c l op x y N2 (K (.v (.bool true))) (K (.v (.bool false))))))
  | .IfExp t a b _ => vc d c n (.T l N t (fun N1 => vc d c n (.E l N1 a K)) (fun N1 => vc d c n (.E l N1 b K)))
  | .Attribute o a _ => condP (attrOk o) (vc d c n (.E l N o fun x N1 => AttrS d c l a x N1 K)) (RawE d c l N e K)
  | .Subscript o i _ => condP (isSlice i) (RawE d c l N e K) (vc d c n (.E l N o fun x N1 => vc d c n (.E l N1 i fun y N2 => ItemS d c l i x y N2 K)))
  | .Tuple es _ _ => vc d c n (.L l N es fun shs N1 => condP (decide (shs.length ≤ 50)) (NewT shs N1 K) False)
  | .List es _ => vc d c n (.L l N es fun shs N1 => condP (decide (shs.length ≤ 50)) (NewLs shs N1 K) False)
  | e => RawE d c l N e K
 | n + 1, .L l N es K => match es with
  | [] => K [] N
  | e :: es => condP (plainE e) (vc d c n (.E l N e fun x N1 => vc d c n (.L l N1 es fun xs N2 => K (x :: xs) N2))) (RawL d c l N (e :: es) K)
 | n + 1, .T l N e KT KF => match e with
  | .Compare a [op] [b] _ => condP (behindInMarks op b) (RawT d c l N e KT KF) (vc d c n (.E l N a fun x N1 => vc d c n (.E l N1 b fun y N2 => cmpK d c l op x y N2 KT KF)))
  | .UnaryOp .Not a _ => vc d c n (.T l N a KF KT)
  | .BoolOp .And [] _ => KT N
  | .BoolOp .And (a :: r) pos => vc d c n (.T l N a (fun N1 => vc d c n (.T l N1 (.BoolOp .And r pos) KT KF)) KF)
  | .BoolOp .Or [] _ => KF N
  | .BoolOp .Or (a :: r) pos => vc d c n (.T l N a KT (fun N1 => vc d c n (.T l N1 (.BoolOp .Or r pos) KT KF)))
  | e => RawT d c l N e KT KF
theorem Dn.use {d : Df} {c : Cx} {l : Fs} {K : KE} {Q : Value → Shared → Prop} {N : Led} {s : Shared} {sh : Sh} (h : Dn d c l K Q) (t : Tok) (k : K sh N) (hS : St d c l N s) : Q (sh.val t) s := h _ sh N s ⟨t, rfl⟩ k hS
theorem opK_sound {d : Df} {c : Cx} {l : Fs} {op : Operator} {x y : Sh} {N : Led} {K : KE} (h : opK d c l op x y N K) : OpS d c l op x y N K := by
 intro t u s Q hS hQ
 cases op <;> try exact h t u s Q hS hQ
 all_goals (cases x <;> try exact h t u s Q hS hQ)
 all_goals (cases y <;> try exact h t u s Q hS hQ)
 ·exact PyProof.Rows.add_int (hQ.use (sh := .i _) s.toks h (hS.tok _))
 ·exact PyProof.Rows.sub_int (hQ.use (sh := .i _) s.toks h (hS.tok _))
theorem unK_sound {d : Df} {c : Cx} {l : Fs} {op : UnaryOp} {x : Sh} {N : Led} {K : KE} (h : unK d c l op x N K) : UnS d c l op x N K := by
 intro t s Q hS hQ
 cases op <;> try exact h t s Q hS hQ
 cases x <;> try exact h t s Q hS hQ
 exact neg_int (hQ.use (sh := .i _) s.toks h (hS.tok _))
theorem cmpK_sound {d : Df} {c : Cx} {l : Fs} {op : CmpOp} {x y : Sh} {N : Led} {KT KF : Led → Prop} (h : cmpK d c l op x y N KT KF) : CmpS d c l op x y N KT KF := by
 intro t u s Q hS hQ
 cases op <;> try exact h t u s Q hS hQ
 case Is =>
  refine isP.elim h (fun e k => ?_) (fun e k => ?_) fun k => k t u s Q hS hQ
  ·exact wpAny_is_plain (isK_same e t u).1 (by rw [(isK_same e t u).2]; exact hQ _ N s (fun _ => k) (fun e => nomatch e) hS)
  ·exact wpAny_is_plain (isK_same e t u).1 (by rw [(isK_same e t u).2]; exact hQ _ N s (fun e => nomatch e) (fun _ => k) hS)
 case IsNot =>
  refine isP.elim h (fun e k => ?_) (fun e k => ?_) fun k => k t u s Q hS hQ
  ·exact wpAny_isNot_plain (isK_same e t u).1 (by rw [(isK_same e t u).2]; exact hQ _ N s (fun e => nomatch e) (fun _ => k) hS)
  ·exact wpAny_isNot_plain (isK_same e t u).1 (by rw [(isK_same e t u).2]; exact hQ _ N s (fun _ => k) (fun e => nomatch e) hS)
 all_goals (cases x <;> try exact h t u s Q hS hQ)
 all_goals (cases y <;> try exact h t u s Q hS hQ)
 ·exact PyProof.Rows.eq_int (hQ _ N s (fun e => h.1 (by simpa using e)) (fun e => h.2 (by simpa using e)) hS)
 ·exact PyProof.Rows.ne_int (hQ _ N s (fun e => h.1 (by simpa using e)) (fun e => h.2 (by simpa using e)) hS)
 ·exact PyProof.Rows.lt_int (hQ _ N s (fun e => h.1 (by simpa using e)) (fun e => h.2 (by simpa using e)) hS)
 ·exact PyProof.Rows.le_int (hQ _ N s (fun e => h.1 (by simpa using e)) (fun e => h.2 (by simpa using e)) hS)
 ·exact PyProof.Rows.gt_int (hQ _ N s (fun e => h.1 (by simpa using e)) (fun e => h.2 (by simpa using e)) hS)
 ·exact PyProof.Rows.ge_int (hQ _ N s (fun e => h.1 (by simpa using e)) (fun e => h.2 (by simpa using e)) hS)
theorem newT_sound {d : Df} {c : Cx} {l : Fs} {shs : List Sh} {N : Led} {K : KE} {ts : Nat → Tok} {s : Shared} {Q : Value → Shared → Prop} (h : NewT shs N K) (hz : shs.length ≤ 50) (hS : St d c l N s) (hQ : Dn d c l K Q) :
  wpAny (model PR d.w) (cA d c) (newTuple (valsO ts 0 shs)) Q EF s := by
 obtain ⟨ok, ⟨hp, tk, rfl⟩, ⟨m, F, H⟩, hN⟩ := hS
 refine kup_newTuple F hN (fun D h' F' N' hlt => hQ.use (sh := .v (.ref D)) 0 (h ts D hlt) ⟨ok, ⟨_, _, rfl⟩, ⟨m, F', H⟩, N'⟩) ?_
 have : ∀ (r : List Sh) (i : Nat), (valsO ts i r).length = r.length := fun r => by
  induction r with
  | nil => intro i; rfl
  | cons x r ih => intro i; show (valsO ts (i + 1) r).length + 1 = _; rw [ih]; rfl
 rw [this, sizeLine_eq]; lia
theorem newL_sound {d : Df} {c : Cx} {l : Fs} {shs : List Sh} {N : Led} {K : KE} {ts : Nat → Tok} {s : Shared} {Q : Value → Shared → Prop} (h : NewLs shs N K) (hz : shs.length ≤ 50) (hS : St d c l N s) (hQ : Dn d c l K Q) :
  wpAny (model PR d.w) (cA d c) (newList (valsO ts 0 shs)) Q EF s := by
 obtain ⟨ok, ⟨hp, tk, rfl⟩, ⟨m, F, H⟩, hN⟩ := hS
 refine newList_K F hN (fun D h' F' N' hlt => hQ.use (sh := .v (.ref D)) 0 (h ts D hlt) ⟨ok, ⟨_, _, rfl⟩, ⟨m, F', H⟩, N'⟩) ?_
 have : ∀ (r : List Sh) (i : Nat), (valsO ts i r).length = r.length := fun r => by
  induction r with
  | nil => intro i; rfl
  | cons x r ih => intro i; show (valsO ts (i + 1) r).length + 1 = _; rw [ih]; rfl
 rw [this, sizeLine_eq]; lia
theorem vc_sound {d : Df} {c : Cx} : ∀ (n : Nat) (j : Job), vc d c n j → j.raw d c := by
 intro n
 induction n with
 | zero => intro j h; exact h
 | succ n ih =>
  have ihE : ∀ {l N e K}, vc d c n (.E l N e K) → RawE d c l N e K := fun h => ih _ h
  have ihL : ∀ {l N es K}, vc d c n (.L l N es K) → RawL d c l N es K := fun h => ih _ h
  have ihT : ∀ {l N e KT KF}, vc d c n (.T l N e KT KF) → RawT d c l N e KT KF := fun h => ih _ h
  intro j h
  cases j with
  | E l N e K =>
   show RawE d c l N e K
   cases e <;> try exact h
   case Name x pos =>
    have h3 : nameK d c l N (.Name x pos) K (isLoc d x) (l.lookup x) := h
    cases h1 : isLoc d x with
    | false => rw [h1] at h3; exact h3
    | true =>
     cases h2 : l.lookup x with
     | none => rw [h1, h2] at h3; exact h3
     | some sh =>
      rw [h1, h2] at h3
      unfold isLoc at h1
      rw [Bool.and_eq_true, Bool.and_eq_true, beq_iff_eq] at h1
      obtain ⟨ht, h1⟩ := h1
      intro s Q hS hQ
      rw [cE_top ht]
      obtain ⟨m, F, H⟩ := hS.fr
      obtain ⟨t, hm⟩ := has_lookup H.has h2
      exact wpAny_Name (wpAny_loadName_local hS.ok.hk h1.1 F.ns hm (hQ.use t h3 hS)) (by simpa using h1.2)
   case Constant k u pos =>
    cases k <;> try exact h
    ·intro s Q hS hQ; exact wpAny_Constant_none (hQ.use (sh := .v .none) 0 h hS)
    ·intro s Q hS hQ; exact wpAny_Constant_bool (hQ.use (sh := .v (.bool _)) 0 h hS)
    ·intro s Q hS hQ; exact wpAny_Constant_int (hQ.use (sh := .i _) s.toks h (hS.tok _))
    ·intro s Q hS hQ; exact wpAny_Constant_str (hQ.use (sh := .s _) s.toks h (hS.tok _))
   case BinOp a op b pos =>
    intro s Q hS hQ
    refine wpAny_BinOp (ihE h s _ hS ?_)
    rintro v x N1 s1 ⟨t, rfl⟩ h1 hS1
    refine ihE h1 s1 _ hS1 ?_
    rintro v y N2 s2 ⟨u, rfl⟩ h2 hS2
    exact opK_sound h2 t u s2 Q hS2 hQ
   case UnaryOp op a pos =>
    intro s Q hS hQ
    refine wpAny_UnaryOp (ihE h s _ hS ?_)
    rintro v x N1 s1 ⟨t, rfl⟩ h1 hS1
    exact unK_sound h1 t s1 Q hS1 hQ
   case Compare a ops bs pos =>
    rcases ops with _ | ⟨op, _ | ⟨op2, ops⟩⟩ <;> try exact h
    rcases bs with _ | ⟨b, _ | ⟨b2, bs⟩⟩ <;> try exact h
    refine condP.elim h (fun _ h => h) fun hm h => ?_
    intro s Q hS hQ
    refine wpAny_Compare1 (ihE h s _ hS ?_) hm
    rintro v x N1 s1 ⟨t, rfl⟩ h1 hS1
    refine ihE h1 s1 _ hS1 ?_
    rintro v y N2 s2 ⟨u, rfl⟩ h2 hS2
    refine cmpK_sound h2 t u s2 _ hS2 fun b N' s' g1 g2 hS' => ?_
    cases b with
    | true => exact hQ.use (sh := .v (.bool true)) 0 (g1 rfl) hS'
    | false => exact hQ.use (sh := .v (.bool false)) 0 (g2 rfl) hS'
   case IfExp t a b pos =>
    intro s Q hS hQ
    refine IfExp_ (ihT h s _ hS ?_)
    intro b N1 s1 h1 h2 hS1
    cases b with
    | true => exact ihE (h1 rfl) s1 Q hS1 hQ
    | false => exact ihE (h2 rfl) s1 Q hS1 hQ
   case Attribute o a pos =>
    refine condP.elim h (fun ha h => ?_) fun _ h => h
    ·intro s Q hS hQ
     refine Attribute_any_ (ihE h s _ hS ?_) (by cases o <;> first | with_unfolding_all rfl | exact absurd ha Bool.false_ne_true)
     rintro v x N1 s1 ⟨t, rfl⟩ h1 hS1
     exact h1 t s1 Q hS1 hQ
   case Subscript o i pos =>
    refine condP.elim h (fun _ h => h) fun _ h => ?_
    ·intro s Q hS hQ
     refine Subscript_ (ihE h s _ hS ?_)
     rintro v x N1 s1 ⟨t, rfl⟩ h1 hS1
     refine ihE h1 s1 _ hS1 ?_
     rintro v y N2 s2 ⟨u, rfl⟩ h2 hS2
     exact kba_turn (value' := .Name "_" ⟨0, 0, 0, 0⟩) (fun _ => rfl) (h2 t u s2 Q hS2 hQ)
   case Tuple es k pos =>
    intro s Q hS hQ
    refine Tuple_ (ihL h _ 0 s _ hS ?_)
    intro ts shs N1 s1 h1 hS1
    exact condP.elim h1 (fun hz h => newT_sound h (of_decide_eq_true hz) hS1 hQ) fun _ h => h.elim
   case List es pos =>
    intro s Q hS hQ
    refine List_ (ihL h _ 0 s _ hS ?_)
    intro ts shs N1 s1 h1 hS1
    exact condP.elim h1 (fun hz h => newL_sound h (of_decide_eq_true hz) hS1 hQ) fun _ h => h.elim
  | L l N es K =>
   show RawL d c l N es K
   cases es with
   | nil => intro pos i s Q hS hQ; exact args_nil (hQ (fun _ => 0) [] N s h hS)
   | cons e es =>
    refine condP.elim h (fun hp h => ?_) fun _ h => h
    ·intro pos i s Q hS hQ
     refine args_cons (ihE h s _ hS ?_) (starEach_plain hp)
     rintro v x N1 s1 ⟨t, rfl⟩ h1 hS1
     refine ihL h1 pos (i + 1) s1 _ hS1 fun ts shs N2 s2 h2 hS2 => ?_
     have := hQ (fun j => if j = i then t else ts j) (x :: shs) N2 s2 h2 hS2
     rw [show valsO (fun j => if j = i then t else ts j) i (x :: shs) = x.val t :: valsO ts (i + 1) shs by
      show x.val (if i = i then t else ts i) :: _ = _ :: _
      rw [if_pos rfl, valsO_congr (us := ts) shs (i + 1) fun j hj => if_neg (by lia)]] at this
     exact this
  | T l N e KT KF =>
   show RawT d c l N e KT KF
   cases e <;> try exact h
   case Compare a ops bs pos =>
    rcases ops with _ | ⟨op, _ | ⟨op2, ops⟩⟩ <;> try exact h
    rcases bs with _ | ⟨b, _ | ⟨b2, bs⟩⟩ <;> try exact h
    refine condP.elim h (fun _ h => h) fun hm h => ?_
    ·intro s Q hS hQ
     refine wpAny_isTrue_Compare1 (ihE h s _ hS ?_) hm
     rintro v x N1 s1 ⟨t, rfl⟩ h1 hS1
     refine ihE h1 s1 _ hS1 ?_
     rintro v y N2 s2 ⟨u, rfl⟩ h2 hS2
     exact cmpK_sound h2 t u s2 _ hS2 fun b N' s' g1 g2 hS' => wpAny_truthy_bool (hQ b N' s' g1 g2 hS')
   case UnaryOp op a pos =>
    cases op <;> try exact h
    intro s Q hS hQ
    exact wpAny_isTrue_Not (ihT h s _ hS fun b N' s' g1 g2 hS' => hQ (!b) N' s' (fun e => g2 (by simpa using e)) (fun e => g1 (by simpa using e)) hS')
   case BoolOp op es pos =>
    cases op with
    | And =>
     cases es with
     | nil => intro s Q hS hQ; exact isTrue_and_nil (hQ true N s (fun _ => h) (fun e => nomatch e) hS)
     | cons a r =>
      intro s Q hS hQ
      refine isTrue_and (ihT h s _ hS fun b N' s' g1 g2 hS' => ?_)
      cases b with
      | true => exact ihT (g1 rfl) s' Q hS' hQ
      | false => exact hQ false N' s' (fun e => nomatch e) (fun _ => g2 rfl) hS'
    | Or =>
     cases es with
     | nil => intro s Q hS hQ; exact isTrue_or_nil (hQ false N s (fun e => nomatch e) (fun _ => h) hS)
     | cons a r =>
      intro s Q hS hQ
      refine isTrue_or (ihT h s _ hS fun b N' s' g1 g2 hS' => ?_)
      cases b with
      | true => exact hQ true N' s' (fun _ => g1 rfl) (fun e => nomatch e) hS'
      | false => exact ihT (g2 rfl) s' Q hS' hQ
noncomputable def notComp : PySem.Expr → Bool
 | .ListComp _ _ _ _ => false
 | .SetComp _ _ _ _ => false
 | .DictComp _ _ _ _ _ => false
 | _ => true
theorem swaps_no {e : PySem.Expr} {t : Option PySem.Expr} {n : Nat} {env : Env} (h : notComp e = true) : swapsWith e t n env = pure false := by
 cases e <;> first | rfl | exact absurd h Bool.false_ne_true
noncomputable abbrev KS := Flow → Fs → Led → Prop
noncomputable def DnU (d : Df) (c : Cx) (l : Fs) (K : Led → Prop) (Q : Shared → Prop) : Prop := ∀ N' s', K N' → St d c l N' s' → Q s'
noncomputable def SetIS (d : Df) (c : Cx) (l : Fs) (x y v : Sh) (N : Led) (K : Led → Prop) : Prop := ∀ t u r s Q, St d c l N s → DnU d c l K Q → wpAny (model PR d.w) (cA d c) (setItem (x.val t) (y.val u) (v.val r)) (fun _ => Q) EF s
noncomputable def SetAS (d : Df) (c : Cx) (l : Fs) (a : Str) (x v : Sh) (N : Led) (K : Led → Prop) : Prop := ∀ t r s Q, St d c l N s → DnU d c l K Q → wpAny (model PR d.w) (cA d c) (setAttr (x.val t) a (v.val r)) (fun _ => Q) EF s
noncomputable def vcS (d : Df) (c : Cx) : Nat → Fs → Led → List Stmt → KS → Prop
 | 0, l, N, ss, R => Bk d c l N ss R
 | n + 1, l, N, ss, R => match ss with
  | [] => R .next l N
  | .Assign [.Name x p] e pos :: rest => condP (d.top && (d.scope.names.lookup x == some .local && notComp e)) (vc d c 30 (.E l N e fun sh N1 => vcS d c n (up x sh l) N1 rest R)) (Bk d c l N (.Assign [.Name x p] e pos :: rest) R)
  | .Assign [.Subscript o i p] e pos :: rest => condP (notComp e) (vc d c 30 (.E l N e fun v N1 => vc d c 30 (.E l N1 o fun x N2 => vc d c 30 (.E l N2 i fun y N3 => SetIS d c l x y v N3 fun N4 => vcS d c n l N4 rest R)))) (Bk d c l N (.Assign [.Subscript o i p] e pos :: rest) R)
  | .Assign [.Attribute o a p] e pos :: rest => condP (notComp e) (vc d c 30 (.E l N e fun v N1 => vc d c 30 (.E l N1 o fun x N2 => SetAS d c l a x v N2 fun N3 => vcS d c n l N3 rest R))) (Bk d c l N (.Assign [.Attribute o a p] e pos :: rest) R)
  | .Return (some e) _ :: _ => vc d c 30 (.E l N e fun sh N1 => ∀ t, R (.ret (sh.val t)) l N1)
  | .Return none _ :: _ => R (.ret .none) l N
  | .Break _ :: _ => R .brk l N
  | .Continue _ :: _ => R .cont l N
  | .Expr e pos :: rest => condP (d.top && notComp e) (vc d c 30 (.E l N e fun _ N1 => vcS d c n l N1 rest R)) (Bk d c l N (.Expr e pos :: rest) R)
  | .If t b o _ :: rest => vc d c 30 (.T l N t
    (fun N1 => vcS d c n l N1 b fun fl l' N' => match fl with | .next => vcS d c n l' N' rest R | fl => R fl l' N')
    (fun N1 => vcS d c n l N1 o fun fl l' N' => match fl with | .next => vcS d c n l' N' rest R | fl => R fl l' N'))
  | ss => Bk d c l N ss R
theorem Bk.mono {d : Df} {c : Cx} {l : Fs} {N : Led} {ss : List Stmt} {R R' : KS} (h : Bk d c l N ss R) (hr : ∀ fl l' N', R fl l' N' → R' fl l' N') : Bk d c l N ss R' := fun s hS => wpAny_mono (h s hS) (fun fl s' p => p.mono (hr fl)) fun _ _ x => x
theorem vcS_sound {d : Df} {c : Cx} : ∀ (n : Nat) {l : Fs} {N : Led} {ss : List Stmt} {R : KS}, vcS d c n l N ss R → Bk d c l N ss R := by
 intro n
 induction n with
 | zero => intro l N ss R h; exact h
 | succ n ih =>
  intro l N ss R h
  have ite9 : ∀ {t : PySem.Expr} {b o rest : List Stmt} {pos : Pos} {R : KS}, RawT d c l N t
    (fun N1 => vcS d c n l N1 b fun fl l' N' => match fl with | .next => vcS d c n l' N' rest R | fl => R fl l' N')
    (fun N1 => vcS d c n l N1 o fun fl l' N' => match fl with | .next => vcS d c n l' N' rest R | fl => R fl l' N') → Bk d c l N (.If t b o pos :: rest) R := by
   intro t b o rest pos R ht
   refine Bk.cons fun s hS => wpAny_If (ht s _ hS fun b' N' s' g1 g2 hS' => ?_)
   cases b' with
   | true => exact ((ih (g1 rfl)).mono fun fl l' N' r => by cases fl <;> first | exact ih r | exact r) s' hS'
   | false => exact ((ih (g2 rfl)).mono fun fl l' N' r => by cases fl <;> first | exact ih r | exact r) s' hS'
  cases ss with
  | nil => exact Bk.nil h
  | cons st rest =>
   cases st <;> try exact h
   case Return e pos =>
    cases e with
    | none => exact Bk.ret0 h
    | some e => exact fun s hS => wpAny_execs_cons (wpAny_Return_some (vc_sound 30 _ h s _ hS (by rintro v sh N1 s1 ⟨t, rfl⟩ h1 hS1; exact ⟨l, N1, hS1, h1 t⟩)))
   case Assign ts e pos =>
    rcases ts with _ | ⟨t, ts⟩
    ·exact h
    cases t <;> try exact h
    case cons.Name x p =>
     rcases ts with _ | ⟨t2, ts⟩
     rotate_left
     ·exact h
     refine condP.elim h (fun hx h => ?_) fun _ h => h
     ·rw [Bool.and_eq_true, Bool.and_eq_true, beq_iff_eq] at hx
      obtain ⟨ht, hx⟩ := hx
      exact fun s hS => wpAny_execs_cons (wpAny_Assign_Name (vc_sound 30 _ h s _ hS (by
       rintro v sh N1 s1 hv h1 hS1
       exact store9 hS1 hv (by rw [cE_top ht]; exact hx.1) ht fun s2 hS2 => ih h1 s2 hS2)) (swaps_no hx.2))
    case cons.Subscript o i p =>
     rcases ts with _ | ⟨t2, ts⟩
     rotate_left
     ·exact h
     refine condP.elim h (fun hx h => ?_) fun _ h => h
     ·exact fun s hS => wpAny_execs_cons (wpAny_Assign_Subscript (vc_sound 30 _ h s _ hS (by
       rintro _ v N1 s1 ⟨t1, rfl⟩ h1 hS1
       refine vc_sound 30 _ h1 s1 _ hS1 ?_
       rintro _ x N2 s2 ⟨t2, rfl⟩ h2 hS2
       refine vc_sound 30 _ h2 s2 _ hS2 ?_
       rintro _ y N3 s3 ⟨t3, rfl⟩ h3 hS3
       exact h3 t2 t3 t1 s3 _ hS3 fun N4 s4 h4 hS4 => ih h4 s4 hS4)) (swaps_no hx))
    case cons.Attribute o a p =>
     rcases ts with _ | ⟨t2, ts⟩
     rotate_left
     ·exact h
     refine condP.elim h (fun hx h => ?_) fun _ h => h
     ·exact fun s hS => wpAny_execs_cons (plainObj_wpAny_Assign_Attribute (vc_sound 30 _ h s _ hS (by
       rintro _ v N1 s1 ⟨t1, rfl⟩ h1 hS1
       refine vc_sound 30 _ h1 s1 _ hS1 ?_
       rintro _ x N2 s2 ⟨t2, rfl⟩ h2 hS2
       exact h2 t2 t1 s2 _ hS2 fun N4 s4 h4 hS4 => ih h4 s4 hS4)) (swaps_no hx))
   case Break pos => exact fun s hS => wpAny_execs_cons (wpAny_Break ⟨l, N, hS, h⟩)
   case Continue pos => exact fun s hS => wpAny_execs_cons (wpAny_Continue ⟨l, N, hS, h⟩)
   case If t b o pos => exact ite9 (vc_sound 30 _ h)
   case Expr e pos =>
    refine condP.elim h (fun hx h => ?_) fun _ h => h
    rw [Bool.and_eq_true] at hx
    obtain ⟨ht, hx⟩ := hx
    ·exact fun s hS => wpAny_execs_cons (wpAny_Expr_any (vc_sound 30 _ h s _ hS (by
      rintro v sh N1 s1 hv h1 hS1
      exact ih h1 s1 hS1)) (by
       rw [cE_top ht]
       show (d.scope.kind == .module && _) = false
       rw [hS.ok.hk]; rfl) (swaps_no hx))
noncomputable def CallS (d : Df) (c : Cx) (l : Fs) (a : Addr) (shs : List Sh) (N : Led) (K : KE) : Prop := ∀ ts s Q, St d c l N s → Dn d c l K Q → wpAny (model PR d.w) (cA d c) (call (.ref a) (valsO ts 0 shs)) Q EF s
structure GlEnv (e : Env) : Prop where
 k : e.scope.kind = .function
 g : e.globals = mainGlobals
 b : e.builtins = builtinsNs
theorem nameG {d : Df} {c : Cx} {l : Fs} {N : Led} {x : Str} {p : Pos} {v : Value} {s : Shared} {Q : Value → Shared → Prop} (hS : St d c l N s) (hf : nsIn (K9 d.w.params) mainGlobals x = some (some v)) (h : Q v s) (hx : (cE d c).kindOf x = some .globalImplicit) (hd : (x == ("__debug__" : Str)) = false) (hgl : GlEnv (cE d c)) : wpAny (model PR d.w) (cA d c) (eval (.Name x p) (cE d c)) Q EF s := by
 obtain ⟨m, F, H⟩ := hS.fr
 have T := topRead_of hS.ok.T
 exact Name_function_global hgl.k hx (loadGlobal_global (by rw [hgl.g]; exact T.g.keeps F.keep) (mg_of hS.ok.X T.g hf) h) hd
theorem nameB {d : Df} {c : Cx} {l : Fs} {N : Led} {x : Str} {p : Pos} {v : Value} {s : Shared} {Q : Value → Shared → Prop} (hS : St d c l N s) (hf : nsIn (K9 d.w.params) mainGlobals x = some none) (hv : bootBuiltins x = some v) (hn : x ≠ "__name__") (h : Q v s) (hx : (cE d c).kindOf x = some .globalImplicit) (hd : (x == ("__debug__" : Str)) = false) (hgl : GlEnv (cE d c)) : wpAny (model PR d.w) (cA d c) (eval (.Name x p) (cE d c)) Q EF s := by
 obtain ⟨m, F, H⟩ := hS.fr
 have T := topRead_of hS.ok.T
 exact Name_function_global hgl.k hx (loadGlobal_builtin (by rw [hgl.g]; exact T.g.keeps F.keep) (mg_none_of hS.ok.X T.g hf) (by rw [hgl.b]; exact T.b.keeps F.keep) ((T.builtins x hn).trans hv) h) hd
theorem RawE.fn {d : Df} {c : Cx} {l : Fs} {N : Led} {x : Str} {p pos : Pos} {a : Addr} {e : PySem.Expr} {es : List PySem.Expr} {K : KE} (hf : FnAt d.w x a) (h : vc d c 30 (.L l N (e :: es) fun shs N1 => CallS d c l a shs N1 K))
  (hx : autoParam ((cE d c).kindOf x = some .globalImplicit) name_B._auto_3) (hd : autoParam ((x == ("__debug__" : Str)) = false) ldc._auto_1) (hp : autoParam ((e :: es).all plainE = true) name_B._auto_3) (hplain : autoParam ((backTo pos (starEach es (cE d c))).any (·.1) = false) name_B._auto_3) (hgl : GlEnv (cE d c) := by exact ⟨rfl, rfl, rfl⟩)
  (hc : autoParam (eval (.Call (.Name x p) (e :: es) [] pos) (cE d c) = (do callWith pos (← eval (.Name x p) (cE d c)) [] (backTo pos (starEach (e :: es) (cE d c))) (backToKw pos (keywordEach [] (cE d c))))) name_B._auto_3) :
  RawE d c l N (.Call (.Name x p) (e :: es) [] pos) K := fun s Q hS hQ => by
 have he1 : plainE e = true := by rw [List.all_cons, Bool.and_eq_true] at hp; exact hp.1
 refine Call_ (nameG hS hf.1 ?_ hx hd hgl) hc
 refine callWith_K hS.ok.X hf.2 ?_ (starEach_plain he1) hplain
 exact vc_sound 30 _ h pos 0 s _ hS fun ts shs N1 s1 h1 hS1 => ⟨hS1.kin, h1 ts s1 Q hS1 hQ⟩
theorem CallS.of {d : Df} {c : Cx} {l : Fs} {a : Addr} {shs : List Sh} {N P O : Led} {K : KE} (Z : Led) {lv' : Nat} {R : Value → Led → Prop} (S : ∀ ts, Sp d.w a lv' (valsO ts 0 shs) P O R) (hf : Foot d c N P O Z lv')
  (h : ∀ v O', R v O' → (∀ p ∈ Z, ∀ q ∈ O', p.1 ≠ q.1) → ∃ sh N', (∃ t, v = sh.val t) ∧ K sh N' ∧ ∀ p ∈ N', p ∈ O' ++ Z) : CallS d c l a shs N K := fun ts s Q hS hQ => call_ev (S ts) hf hS fun v N' s' ⟨O', r, e, ap⟩ hS' => by
 obtain ⟨sh, N'', hv, k, hsub⟩ := h v O' r ap
 subst e
 exact hQ v sh N'' s' hv k (hS'.sub (fun _ h => h) hsub)
theorem ib64 {a : Int} (h : a.natAbs < 2 ^ 64) : Builtin.Int.intBits a ≤ 64 := by
 unfold Builtin.Int.intBits
 split
 ·lia
 ·rename_i h0
  have hz : a.natAbs ≠ 0 := by intro e; apply h0; simp; lia
  have := (Nat.log2_lt hz).mpr h
  lia
theorem ints_valsO {ts : Nat → Tok} : ∀ (ns : List Int) (i : Nat), IntsAre (valsO ts i (ns.map Sh.i)) ns
 | [], _ => .nil
 | _ :: ns, i => .cons _ _ (ints_valsO ns (i + 1))
section
variable {d : Df} {c : Cx} {l : Fs} {N : Led}
theorem OpS.mul {m n : Int} {K : KE} (hm : m.natAbs < 2 ^ 64 ∨ n.natAbs < 2 ^ 64) (h : K (.i (m * n)) N) : OpS d c l .Mult (.i m) (.i n) N K := fun t u s Q hS hQ =>
 mul_int (hQ.use (sh := .i _) s.toks h (hS.tok _)) (hm.elim (fun h => IntMulOk.of_left (ib64 h)) fun h => IntMulOk.of_right (ib64 h))
theorem ItemS.menu {i : PySem.Expr} {r : Addr} {vs : List Value} {ns : List Int} {k : Int} {K : KE} (N' : Led) (hm : (r, tupO vs) ∈ N) (hi : IntsAre vs ns) (h0 : 0 ≤ k) (h1 : k < ns.length) (hfit : k < 2 ^ 63) (hs : ∀ p ∈ N', p ∈ N) (h : K (.i (ns.getD k.toNat 0)) N')
  (hsub : autoParam (∀ u, subscripted i false (.ref r) (.int k u) = operate [.ref r, .int k u] (getItem (.ref r) (.int k u))) kim_tup._auto_3) : ItemS d c l i (.v (.ref r)) (.i k) N K := fun t u s Q hS hQ =>
 item_anyT (News.isTup hS.news hm) hi h0 h1 hfit (fun t => hQ.use (sh := .i _) t h (hS.sub (fun _ h => h) hs)) (hsub u)
theorem SetIS.ints {r : Addr} {n : Nat} {ps : List (Int × Tok)} {gg : Obj → Led} {k x : Int} {K : Led → Prop} (U : ∀ ws : List Value, Upd r (listOf (ps.map kifV).toArray n) (listOf ws.toArray n) N (gg (listOf ws.toArray n))) (h0 : 0 ≤ k) (h1 : k < ps.length) (hs : ps.length ≤ 64)
  (h : ∀ u, K (gg (listOf (kifSet k x u 0 ps).toArray n))) : SetIS d c l (.v (.ref r)) (.i k) (.i x) N K := fun t u v s Q hS hQ => by
 obtain ⟨ok, ⟨hp, tk, rfl⟩, ⟨m, F, H⟩, hN⟩ := hS
 exact kif_setItem F hN (U _) (by simp) rfl rfl (by lia) h0 h1 fun h' F' N' => hQ _ _ (h v) ⟨ok, ⟨_, _, rfl⟩, ⟨m, F', H⟩, N'⟩
end
theorem subF_nil {N : Fs} : ∀ p ∈ ([] : Fs), p ∈ N := fun _ h => absurd h List.not_mem_nil
theorem subF_cons {x : Str × Sh} {N l : Fs} (h : x ∈ N) (hs : ∀ p ∈ l, p ∈ N) : ∀ p ∈ x :: l, p ∈ N := fun p hp => by
 rcases List.mem_cons.mp hp with rfl | hp
 ·exact h
 ·exact hs p hp
noncomputable def subFB : Fs → Fs → Prop
 | [], _ => True
 | p :: r, l => l.lookup p.1 = some p.2 ∧ subFB r l
theorem mem_of_lookup {x : Str} {sh : Sh} : ∀ {l : Fs}, l.lookup x = some sh → (x, sh) ∈ l
 | [], h => nomatch h
 | q :: r, h => by
  rw [List.lookup_cons] at h
  split at h
  ·rename_i e
   injection h with h
   rw [beq_iff_eq.mp e, ← h]
   exact .head _
  ·exact .tail _ (mem_of_lookup h)
theorem subF_of : ∀ {l' l : Fs}, subFB l' l → ∀ p ∈ l', p ∈ l
 | [], _, _ => subF_nil
 | _ :: _, _, ⟨h1, h2⟩ => subF_cons (mem_of_lookup h1) (subF_of h2)
section
variable {d : Df} {c : Cx} {l : Fs} {N : Led}
theorem OpS.mulL {r : Addr} {vs : List Value} {ns : List Int} {n : Nat} {x : Int} {K : KE} (N' : Led) (hm : (r, listOf vs.toArray n) ∈ N) (hi : IntsAre vs ns) (hlo : -(2 ^ 63 : Int) ≤ x) (hhi : x < 2 ^ 63) (hsz : vs.length * x.toNat ≤ 256) (hs : ∀ p ∈ N', p ∈ N)
  (h : ∀ D us, (∀ p ∈ N, p.1 < D) → IntsAre us (List.replicate x.toNat ns).flatten → K (.v (.ref D)) ((D, listOf us.toArray 0) :: N')) : OpS d c l .Mult (.v (.ref r)) (.i x) N K := fun t u s Q hS hQ => by
 obtain ⟨ok, ⟨hp, tk, rfl⟩, ⟨m, F, H⟩, hN⟩ := hS
 refine KM.mul F hN (News.isList hN hm) hi hlo hhi (Nat.le_trans hsz (by decide)) fun D h' F' N1 hlt hu _ _ _ _ _ => hQ.use (sh := .v (.ref D)) 0 (h D _ hlt hu) ⟨ok, ⟨_, _, rfl⟩, ⟨m, F', H⟩, fun p hp => ?_⟩
 rcases List.mem_cons.mp hp with rfl | hp
 ·exact N1 _ (.head _)
 ·exact N1 _ (.tail _ (hs p hp))
theorem OpS.addL {r1 r2 : Addr} {vs ws : List Value} {ns ms : List Int} {n1 n2 : Nat} {K : KE} (nf : Addr → List Value → Led) (h1 : (r1, listOf vs.toArray n1) ∈ N) (h2 : (r2, listOf ws.toArray n2) ∈ N) (hi : IntsAre vs ns) (hj : IntsAre ws ms) (hz : ns.length + ms.length ≤ 256) (hs : ∀ D us, ∀ p ∈ nf D us, p ∈ (D, listOf us.toArray 0) :: N)
  (h : ∀ D us, (∀ p ∈ N, p.1 < D) → IntsAre us (ns ++ ms) → K (.v (.ref D)) (nf D us)) : OpS d c l .Add (.v (.ref r1)) (.v (.ref r2)) N K := fun t u s Q hS hQ => by
 obtain ⟨ok, ⟨hp, tk, rfl⟩, ⟨m, F, H⟩, hN⟩ := hS
 exact kmk_add_ints F hN (News.isList hN h1) (News.isList hN h2) hi hj (fun D us h' F' N1 hlt hu => hQ.use (sh := .v (.ref D)) 0 (h D us hlt hu) ⟨ok, ⟨_, _, rfl⟩, ⟨m, F', H⟩, fun p hp => N1 p (hs D us p hp)⟩) (by rw [sizeLine_eq]; lia)
theorem Bk.asgI {x : Str} {p pos : Pos} {e : PySem.Expr} {α : Type} {va : α → Int} {nf : α → Led} {I : α → Prop} {rest : List Stmt} {R : KS} (he : vc d c 30 (.E l N e fun sh N' => ∃ a n, sh = .i n ∧ n = va a ∧ I a ∧ N' = nf a)) (h : ∀ a, I a → Bk d c (up x (.i (va a)) l) (nf a) rest R)
  (hx : autoParam ((cE d c).kindOf x = some .local) name_B._auto_3) (hs : autoParam (swapsWith e (some (.Name x p)) pos.line (cE d c) = pure false) name_B._auto_3) (ht : autoParam (d.top = true) name_B._auto_3) : Bk d c l N (.Assign [.Name x p] e pos :: rest) R :=
 fun s hS => wpAny_execs_cons (wpAny_Assign_Name (vc_sound 30 _ he s _ hS (by
  rintro v sh N' s' hv ⟨a, n, rfl, rfl, hI, rfl⟩ hS'
  exact store9 hS' hv hx ht fun s2 hS2 => h a hI s2 hS2)) hs)
end
theorem RawE.drop {d : Df} {c : Cx} {l : Fs} {N : Led} {e : PySem.Expr} {K : KE} (N' : Led) (hs : ∀ p ∈ N', p ∈ N) (h : RawE d c l N' e K) : RawE d c l N e K := fun s Q hS hQ => h s Q (hS.sub (fun _ h => h) hs) hQ
noncomputable abbrev rngO (a b c : Int) (t u v : Tok) : Obj := { cls := .type "range", dict := none, data := .fields #[.int a t, .int b u, .int c v], slots := #[] }
section
variable {d : Df} {c : Cx} {l : Fs} {N : Led}
noncomputable def AsgS (d : Df) (c : Cx) (l : Fs) (N : Led) (x : Str) (px : Pos) (sh : Sh) (K : Fs → Led → Prop) : Prop := ∀ t s Q, St d c l N s → (∀ l' N' s', K l' N' → St d c l' N' s' → Q s') → wpAny (model PR d.w) (cA d c) (assign (.Name x px) (cE d c) (sh.val t)) (fun _ => Q) EF s
theorem AsgS.local {x : Str} {px : Pos} {sh : Sh} {K : Fs → Led → Prop} (hx : (cE d c).kindOf x = some .local) (ht : d.top = true) (h : K (up x sh l) N) : AsgS d c l N x px sh K := fun t s Q hS hQ => assign_Name (store9 hS ⟨t, rfl⟩ hx ht fun s' hS' => hQ _ _ s' h hS')
theorem storeC9 {x : Str} {v : Value} {s : Shared} {Q : Shared → Prop} {C : Addr} {o : Obj} {v₀ : Option Value} {N' : Obj → Led} (hS : St d c l N s) (hc : c.cl.lookup x = some C) (U : UpdF C o N N') (ho : o.data = .cell v₀) (hx : (cE d c).kindOf x = some .cell) (ht : d.top = true)
  (h : ∀ s' o', o'.data = .cell (some v) → St d c l (N' o') s' → Q s') : wpAny (model PR d.w) (cA d c) (storeName (cE d c) x v) (fun _ => Q) EF s := by
 obtain ⟨ok, ⟨hp, tk, rfl⟩, ⟨m, F, H⟩, hN⟩ := hS
 rw [cE_top ht] at hx ⊢
 exact storeX_C F hN hc U ho (fun h' o' F' N9 hd => h _ o' hd ⟨ok, ⟨_, _, rfl⟩, ⟨m, F', H⟩, N9⟩) ok.hk hx
theorem AsgS.cell {x : Str} {px : Pos} {sh : Sh} {K : Fs → Led → Prop} {C : Addr} {o : Obj} {v₀ : Option Value} (N' : Obj → Led) (hc : c.cl.lookup x = some C) (U : UpdF C o N N') (ho : o.data = .cell v₀) (h : ∀ o' t, o'.data = .cell (some (sh.val t)) → K l (N' o'))
  (hx : autoParam ((cE d c).kindOf x = some .cell) name_B._auto_3) (ht : autoParam (d.top = true) name_B._auto_3) : AsgS d c l N x px sh K := fun t s Q hS hQ => assign_Name (storeC9 hS hc U ho hx ht fun s' o' hd hS' => hQ _ _ s' (h o' t hd) hS')
noncomputable def TurnF {α : Type} (d : Df) (c : Cx) (lf : α → Fs) (nf : α → Led) (J : α → Prop) (I : Addr) (own : Led) (rest : List Stmt) (R : KS) (fl : Flow) (l' : Fs) (N' : Led) : Prop := match fl with
 | .next => ∃ a, J a ∧ (∀ p ∈ lf a, p ∈ l') ∧ (∀ p ∈ nf a ++ own, p ∈ N') ∧ ∀ p ∈ nf a, p.1 ≠ I
 | .cont => ∃ a, J a ∧ (∀ p ∈ lf a, p ∈ l') ∧ (∀ p ∈ nf a ++ own, p ∈ N') ∧ ∀ p ∈ nf a, p.1 ≠ I
 | .brk => Bk d c l' N' rest R
 | .ret v => R (.ret v) l' N'
theorem OAt.isList {x : Addr} {its : List Value} {e : Nat} {s : Shared} (h : OAt c N x (listOf its.toArray e)) (hS : St d c l N s) : s.heap.IsList x its.toArray := ⟨_, h.at hS, rfl, _, rfl⟩
inductive SrcI (d : Df) (c : Cx) (n : Nat) (P : Nat → Sh → Prop) (rs : List Addr) (v : Value) (s1 : Shared) : Prop
 | mk (P9 : Nat → Value → Prop) (o : Obj) (fp : List Addr) (St9 : Nat → Heap → Prop) (hP : ∀ i v, P9 i v → ∃ sh t, v = sh.val t ∧ P i sh) (W : Walks PR d.w (cA d c) s1.heap.objs.size fp [s1.heap.objs.size] n P9 St9) (h0 : St9 0 (s1.heap.push o)) (hf : ∀ b ∈ fp, b = s1.heap.objs.size ∨ b ∈ rs) (hL : c.L ∉ rs)
   (it : ∀ Q : Value → Shared → Prop, Q (.ref s1.heap.objs.size) { s1 with heap := s1.heap.push o } → wpAny (model PR d.w) (cA d c) (pyIter v) Q EF s1) : SrcI d c n P rs v s1
noncomputable def SrcW (d : Df) (c : Cx) (l : Fs) (N1 : Led) (sh : Sh) (n : Nat) (P : Nat → Sh → Prop) (rs : List Addr) : Prop := ∀ s1 t, St d c l N1 s1 → SrcI d c n P rs (sh.val t) s1
theorem SrcW.bytes {b : Array UInt8} : SrcW d c l N (.b b) b.size (fun i sh => ∃ y, b[i]? = some y ∧ sh = .i (y.toNat : Int)) [] := fun s1 t _ =>
 .mk _ _ _ _ (fun i v ⟨y, u, hy, hv⟩ => ⟨.i (y.toNat : Int), u, hv, y, hy, rfl⟩) (KBw.walks rfl s1.heap.objs.size b t) ⟨_, Heap.get?_push_size _ rfl, rfl, rfl⟩ (fun b hb => .inl (List.mem_singleton.mp hb)) List.not_mem_nil fun Q h => KBw.pyIter_bytes h
theorem SrcW.range {r : Addr} {a b st : Int} {n : Nat} {t u v : Tok} (hm : (r, rngO a b st t u v) ∈ N) (hsm : Builtin.Range.small a b st = true) (hn : Builtin.Range.rangeSize a b st = (n : Int)) : SrcW d c l N (.v (.ref r)) n (fun i sh => sh = .i (a + i * st)) [] := fun s1 _ hS =>
 .mk _ _ _ _ (fun i v ⟨t, hv⟩ => ⟨.i (a + i * st), t, hv, rfl⟩) (Walks.range rfl s1.heap.objs.size a st n) (by
   show IsRangeIter _ _ (a + ((0 : Nat) : Int) * st) ((n : Int) - ((0 : Nat) : Int)) st
   have e1 : a + ((0 : Nat) : Int) * st = a := by simp
   have e2 : (n : Int) - ((0 : Nat) : Int) = Builtin.Range.rangeSize a b st := by rw [hn]; simp
   rw [e1, e2]
   exact Heap.get?_push_size _ rfl) (fun b hb => .inl (List.mem_singleton.mp hb)) List.not_mem_nil fun Q h => wpAny_pyIter_range (hS.news _ hm).1 hsm h
theorem SrcW.list {r : Addr} {its : List Value} {k : Nat} (hm : OAt c N r (listOf its.toArray k)) (hr : ∀ s, St d c l N s → r ≠ c.L) : SrcW d c l N (.v (.ref r)) its.length (fun i sh => ∃ v, its[i]? = some v ∧ sh = Sh.of v) [r] := fun s1 _ hS =>
 have hl := hm.isList hS
 .mk _ _ _ _ (fun i v hv => by obtain ⟨t, h⟩ := Sh.of_val v; exact ⟨Sh.of v, t, h, v, by simpa using hv, rfl⟩) (Walks.list rfl s1.heap.objs.size r (Nat.ne_of_lt (Heap.lt_size (hm.at hS))) its.toArray) ⟨⟨_, Heap.get?_push_size _ rfl, rfl, rfl⟩, hl.push _⟩ (fun b hb => by
   rcases List.mem_cons.mp hb with rfl | hb
   ·exact .inl rfl
   ·exact .inr hb) (fun h => hr _ hS (List.mem_singleton.mp h).symm) fun Q h => wpAny_pyIter_list hl h
inductive LpI {α : Type} (d : Df) (c : Cx) (lf : Nat → α → Fs) (nf : Nat → α → Led) (J : Nat → α → Prop) (I : Addr) (St9 : Nat → Heap → Prop) (n : Nat) : Nat → Shared → Prop
 | mk (i : Nat) (a : α) (s : Shared) (S : St d c (lf i a) (nf i a) s) (h9 : St9 i s.heap) (hn : ∀ p ∈ nf i a, p.1 ≠ I) (hJ : J i a) (hi : i ≤ n) : LpI d c lf nf J I St9 n (n + 1 - i) s
structure ForW {α : Type} (d : Df) (c : Cx) (l : Fs) (x : Str) (px : Pos) (body rest : List Stmt) (R : KS) (n : Nat) (P : Nat → Sh → Prop) (rs : List Addr) (lf : Nat → α → Fs) (nf : Nat → α → Led) (J : Nat → α → Prop) (a₀ : α) (N1 : Led) : Prop where
 h0 : J 0 a₀
 hl : ∀ p ∈ lf 0 a₀, p ∈ l
 hn : ∀ p ∈ nf 0 a₀, p ∈ N1
 turn : ∀ I i sh a own, i < n → P i sh → J i a → (∀ p ∈ nf i a, p.1 ≠ I) → (∀ p ∈ own, (p.1 = I ∨ p.1 ∈ rs) ∧ c.g.get? p.1 = none) → AsgS d c (lf i a) (nf i a ++ own) x px sh fun l1 N1 => Bk d c l1 N1 body (TurnF d c (lf (i + 1)) (nf (i + 1)) (J (i + 1)) I own rest R)
 done : ∀ a, J n a → Bk d c (lf n a) (nf n a) rest R
theorem ForW.loc {α : Type} {x : Str} {px : Pos} {body rest : List Stmt} {R : KS} {n : Nat} {P : Nat → Sh → Prop} {rs : List Addr} {lf : Nat → α → Fs} {nf : Nat → α → Led} {J : Nat → α → Prop} {a₀ : α} {N1 : Led} (h0 : J 0 a₀) (hl : ∀ p ∈ lf 0 a₀, p ∈ l) (hn : ∀ p ∈ nf 0 a₀, p ∈ N1)
  (turn : ∀ I i sh a own, i < n → P i sh → J i a → (∀ p ∈ nf i a, p.1 ≠ I) → (∀ p ∈ own, p.1 = I ∨ p.1 ∈ rs) → Bk d c (up x sh (lf i a)) (nf i a ++ own) body (TurnF d c (lf (i + 1)) (nf (i + 1)) (J (i + 1)) I own rest R)) (done : ∀ a, J n a → Bk d c (lf n a) (nf n a) rest R)
  (hx : autoParam ((cE d c).kindOf x = some .local) name_B._auto_3) (ht : autoParam (d.top = true) name_B._auto_3) : ForW d c l x px body rest R n P rs lf nf J a₀ N1 :=
 ⟨h0, hl, hn, fun I i sh a own hi hP hJ hn ho => .local hx ht (turn I i sh a own hi hP hJ hn fun p hp => (ho p hp).1), done⟩
theorem Bk.forW {α : Type} {x : Str} {px pos : Pos} {iter : PySem.Expr} {body rest : List Stmt} {R : KS} (lf : Nat → α → Fs) (nf : Nat → α → Led) (J : Nat → α → Prop) (a₀ : α)
  (h : vc d c 30 (.E l N iter fun sh N1 => ∃ n P rs, SrcW d c l N1 sh n P rs ∧ ForW d c l x px body rest R n P rs lf nf J a₀ N1)) (hs : autoParam (∀ x, foldedSetIterable iter (cE d c) x = pure x) wpAny_For._auto_3) (ht : autoParam (d.top = true) name_B._auto_3) :
  Bk d c l N (.For (.Name x px) iter body [] pos :: rest) R := fun s hS => by
 refine wpAny_execs_cons (wpAny_For (vc_sound 30 _ h s _ hS ?_) hs)
 rintro _ sh N1 s1 ⟨t, rfl⟩ ⟨n, P, rs, hP, f⟩ hS1
 obtain ⟨P9, o, fp, St9, hP9, W, hst, hfp, hLr, hit⟩ := hP s1 t hS1
 refine hit _ ?_
 obtain ⟨ok, ⟨hp, tk, rfl⟩, ⟨m, F, H⟩, hN⟩ := hS1
 have fn := fresh_ne F
 have hL : c.L ∉ fp := fun hm => (hfp _ hm).elim (fun e => fn.1 e) hLr
 refine codeAny_forLoop (LpI d c lf nf J hp.objs.size St9 n) ?_ (n + 1)
  (.mk 0 a₀ _ ⟨ok, ⟨_, _, rfl⟩, ⟨m, F.push _, ⟨has_sub H.has f.hl, H.fix⟩⟩, fun p hp => ⟨Heap.get?_push_of_some _ (hN p (f.hn p hp)).1, (hN p (f.hn p hp)).2⟩⟩ hst (fun p hp => Nat.ne_of_lt (Heap.lt_size (hN p (f.hn p hp)).1)) f.h0 (Nat.zero_le _))
 intro k s' hI
 obtain ⟨i, a, _, S0, hst', hn', hJ', hi⟩ := hI
 obtain ⟨-, ⟨h', tk', rfl⟩, ⟨m', F', H'⟩, N'⟩ := S0
 have next : ∀ (h₁ : Heap), (∀ b o, b ∉ [hp.objs.size] → h'.get? b = some o → h₁.get? b = some o) → Fr c.g c.L h₁ m' ∧ News c.g c.L h₁ (nf i a) := fun h₁ hk₁ =>
  ⟨⟨F'.ns.at' fun o e => hk₁ _ o (fun hm => fn.1 (List.mem_singleton.mp hm)) e, fun b o e => hk₁ b o (by intro hb; rw [List.mem_singleton.mp hb, fn.2] at e; cases e) (F'.keep b o e), F'.above⟩, fun p hp => ⟨hk₁ _ _ (by simpa using hn' p hp) (N' p hp).1, (N' p hp).2⟩⟩
 by_cases hlt : i < n
 ·refine W.item i _ _ _ hlt hst' fun v h₁ tk₁ hPv hst₁ hk₁ => ?_
  obtain ⟨F₁, N₁⟩ := next h₁ hk₁
  obtain ⟨sh, t, rfl, hPs⟩ := hP9 i v hPv
  have Nown : News c.g c.L h₁ (ownOf c.g fp h₁) := news_ownOf hL
  have S1 : St d c (lf i a) (nf i a ++ ownOf c.g fp h₁) { c.s₀ with heap := h₁, toks := tk₁ } := ⟨ok, ⟨_, _, rfl⟩, ⟨m', F₁, H'⟩, fun p hp => (List.mem_append.mp hp).elim (fun hp => N₁ p hp) fun hp => Nown p hp⟩
  refine wpAny_passesOwn PassesOwn.never (f.turn _ i sh a _ hlt hPs hJ' hn' (fun p hp => ⟨hfp _ (ownOf_sub p hp), (Nown p hp).2.2⟩) t _ _ S1 fun l2 N2 s2 hB hS2 => wpAny_passesOwn PassesOwn.never (wpAny_mono (hB s2 hS2) (fun fl s3 hp3 => ?_) fun _ _ e => e))
  obtain ⟨l', N3, hS3, hf⟩ := hp3
  have back : (∃ a', J (i + 1) a' ∧ (∀ p ∈ lf (i + 1) a', p ∈ l') ∧ (∀ p ∈ nf (i + 1) a' ++ ownOf c.g fp h₁, p ∈ N3) ∧ ∀ p ∈ nf (i + 1) a', p.1 ≠ hp.objs.size) → ∃ m, m < n + 1 - i ∧ LpI d c lf nf J hp.objs.size St9 n m s3 := by
   rintro ⟨a', h1, h2, h3, h4⟩
   refine ⟨n + 1 - (i + 1), by lia, .mk (i + 1) a' s3 (hS3.sub h2 fun p hp => h3 p (List.mem_append_left _ hp)) (W.frame _ _ _ hst₁ fun b hb o e => ?_) h4 h1 hlt⟩
   cases hn₀ : c.g.get? b with
   | some o₀ =>
    have : o₀ = o := by have := F₁.keep b o₀ hn₀; rw [e] at this; exact (Option.some.inj this).symm
    obtain ⟨m3, F3, _⟩ := hS3.fr
    exact this ▸ F3.keep b o₀ hn₀
   | none => exact (hS3.news _ (h3 _ (List.mem_append_right _ (mem_ownOf hb hn₀ e)))).1
  cases fl with
  | next => exact back hf
  | cont => exact back hf
  | brk => exact hf _ hS3
  | ret v => exact ⟨l', N3, hS3, hf⟩
 ·have hin : i = n := by lia
  subst hin
  refine W.done _ _ _ hst' fun h₁ tk₁ hk₁ => wpAny_execs_nil ?_
  obtain ⟨F₁, N₁⟩ := next h₁ hk₁
  exact f.done a hJ' _ ⟨ok, ⟨_, _, rfl⟩, ⟨m', F₁, H'⟩, N₁⟩
end
noncomputable def upAll : List Str → List Sh → Fs → Fs
 | x :: xs, sh :: shs, l => up x sh (upAll xs shs l)
 | _, _, l => l
section
variable {d : Df} {c : Cx}
theorem stores9 {Q : Shared → Prop} {N : Led} : ∀ (ps : List (Str × Value)) (l : Fs) (s : Shared), St d c l N s → (∀ p ∈ ps, (cE d c).kindOf p.1 = some .local) → d.top = true → (∀ s', St d c (ps.foldl (fun l p => up p.1 (Sh.of p.2) l) l) N s' → Q s') →
  wpAny (model PR d.w) (cA d c) (assignInOrder (ps.map fun p => bindName (cE d c) p.1) (ps.map (·.2))) (fun _ => Q) EF s
 | [], l, s, hS, _, _, hQ => assignInOrder_nil (hQ s hS)
 | p :: ps, l, s, hS, hx, ht, hQ => assignInOrder_cons (bindName_ (store9 hS (Sh.of_val p.2) (hx p (.head _)) ht fun s' hS' => stores9 ps _ s' hS' (fun q hq => hx q (.tail _ hq)) ht hQ))
theorem foldl_zip : ∀ (names : List Str) (vs : List Value) (l : Fs), names.length = vs.length → ((names.zip vs).reverse).foldl (fun l p => up p.1 (Sh.of p.2) l) l = upAll names (vs.map Sh.of) l
 | [], [], _, _ => rfl
 | x :: xs, v :: vs, l, h => by
  rw [List.zip_cons_cons, List.reverse_cons, List.foldl_append]
  show up x (Sh.of v) _ = up x (Sh.of v) _
  rw [foldl_zip xs vs l (by simpa using h)]
 | [], _ :: _, _, h => nomatch h
 | _ :: _, [], _, h => nomatch h
theorem Bk.tupD {l : Fs} {N : Led} {elts es : List PySem.Expr} {k k2 : Nat} {tpos p2 pos : Pos} {names : List Str} {rest : List Stmt} {R : KS}
  (h : vc d c 30 (.L l N es fun shs N1 => shs.length = names.length ∧ Bk d c (upAll names (shs.map fun sh => Sh.of (sh.val 0)) l) N1 rest R))
  (hw : autoParam (swappedStores [.Tuple elts k tpos] (.Tuple es k2 p2) (cE d c) = pure (some names)) name_B._auto_3) (hk : ∀ x ∈ names, (cE d c).kindOf x = some .local) (hz : names.length ≤ 50 := by exact lb9 rfl) (ht : autoParam (d.top = true) name_B._auto_3) :
  Bk d c l N (.Assign [.Tuple elts k tpos] (.Tuple es k2 p2) pos :: rest) R := fun s hS => by
 refine wpAny_execs_cons (Assign_Tuple_swapped (Tuple_ (vc_sound 30 _ h _ 0 s _ hS ?_)) rfl hw)
 rintro ts shs N1 s1 ⟨hl, h1⟩ hS1
 have hlen : ∀ (r : List Sh) (i : Nat), (valsO ts i r).length = r.length := fun r => by
  induction r with
  | nil => intro i; rfl
  | cons x r ih => intro i; show (valsO ts (i + 1) r).length + 1 = _; rw [ih]; rfl
 obtain ⟨ok, ⟨hp, tk, rfl⟩, ⟨m, F, H⟩, hN⟩ := hS1
 refine kup_newTuple F hN (fun D h' F' N' _ => ?_) (by rw [hlen, sizeLine_eq]; lia)
 refine unpackItemsN_ F' N' (News.isTup N' (.head _)) rfl (by rw [List.size_toArray, hlen]; lia) fun h2 F2 N2 => ?_
 have e1 : ∀ (xs : List Str) (vs : List Value), xs.length = vs.length → xs.reverse = ((xs.zip vs).reverse).map (·.1) ∧ vs.reverse = ((xs.zip vs).reverse).map (·.2) := fun xs vs e => by
  constructor
  ·rw [List.map_reverse, List.map_fst_zip (by lia)]
  ·rw [List.map_reverse, List.map_snd_zip (by lia)]
 have e2 := e1 names (valsO ts 0 shs) (by rw [hlen]; lia)
 show wpAny _ _ (assignInOrder (names.reverse.map fun n => bindName (cE d c) n) (valsO ts 0 shs).reverse) _ _ _
 rw [e2.1, e2.2, List.map_map]
 refine stores9 (N := N1) _ l _ ⟨ok, ⟨_, _, rfl⟩, ⟨m, F2, H⟩, fun p hp => N2 p (.tail _ hp)⟩ (fun p hp => hk _ ?_) ht fun s' hS' => ?_
 ·have : p.1 ∈ names.reverse := by rw [e2.1]; exact List.mem_map_of_mem hp
  exact List.mem_reverse.mp this
 ·rw [foldl_zip _ _ _ (by rw [hlen]; lia)] at hS'
  rw [show (valsO ts 0 shs).map Sh.of = shs.map fun sh => Sh.of (sh.val 0) by
   have : ∀ (r : List Sh) (i : Nat), (valsO ts i r).map Sh.of = r.map fun sh => Sh.of (sh.val 0) := fun r => by
    induction r with
    | nil => intro i; rfl
    | cons x r ih =>
     intro i
     show Sh.of (x.val (ts i)) :: _ = Sh.of (x.val 0) :: _
     rw [ih]
     congr 1
     cases x <;> rfl
   exact this shs 0] at hS'
  exact h1 s' hS'
end
noncomputable def Turn {α : Type} (d : Df) (c : Cx) (lf : α → Fs) (nf : α → Led) (I : α → Prop) (meas : α → Nat) (n : Nat) (rest : List Stmt) (R : KS) (fl : Flow) (l' : Fs) (N' : Led) : Prop := match fl with
 | .next => ∃ a, I a ∧ meas a < n ∧ (∀ p ∈ lf a, p ∈ l') ∧ ∀ p ∈ nf a, p ∈ N'
 | .cont => ∃ a, I a ∧ meas a < n ∧ (∀ p ∈ lf a, p ∈ l') ∧ ∀ p ∈ nf a, p ∈ N'
 | .brk => Bk d c l' N' rest R
 | .ret v => R (.ret v) l' N'
theorem Bk.whl {d : Df} {c : Cx} {l : Fs} {N : Led} {test : PySem.Expr} {body rest : List Stmt} {pos : Pos} {R : KS} {α : Type} (lf : α → Fs) (nf : α → Led) (I : α → Prop) (meas : α → Nat) (a₀ : α) (h0 : I a₀) (hl : ∀ p ∈ lf a₀, p ∈ l) (hn : ∀ p ∈ nf a₀, p ∈ N)
  (turn : ∀ a, I a → vc d c 30 (.T (lf a) (nf a) test (fun N1 => Bk d c (lf a) N1 body (Turn d c lf nf I meas (meas a) rest R)) (fun N1 => Bk d c (lf a) N1 rest R))) : Bk d c l N (.While test body [] pos :: rest) R := fun s hS => by
 refine wpAny_execs_cons ?_
 refine whl_start 0 ?_
 have all : ∀ (n : Nat) (a : α) (s : Shared), meas a < n → St d c (lf a) (nf a) s → I a →
   WhlRest PR d.w (cA d c) EF (cE d c) test body [] (fun f s' => match f with | .next => wpAny (model PR d.w) (cA d c) (execs rest (cE d c)) (PB d c R) EF s' | f => PB d c R f s') 0 s := by
  intro n
  induction n with
  | zero => intro a s hn; exact absurd hn (Nat.not_lt_zero _)
  | succ n ih =>
   intro a s hn hS hI
   show WhlRest PR d.w (cA d c) EF (cE d c) test body [] _ (0 + 1) _
   refine whl_turn (PassesOwn.never) (vc_sound 30 _ (turn a hI) s _ hS fun b N1 s1 g1 g2 hS1 => ?_)
   cases b with
   | false => exact wpAny_execs_nil (g2 rfl s1 hS1)
   | true =>
    refine wpAny_mono (g1 rfl s1 hS1) (fun f s2 hf => ?_) fun _ _ e => e
    obtain ⟨l', N', hS2, hf⟩ := hf
    have go : (∃ a', I a' ∧ meas a' < meas a ∧ (∀ p ∈ lf a', p ∈ l') ∧ ∀ p ∈ nf a', p ∈ N') → WhlRest PR d.w (cA d c) EF (cE d c) test body [] (fun f s' => match f with | .next => wpAny (model PR d.w) (cA d c) (execs rest (cE d c)) (PB d c R) EF s' | f => PB d c R f s') 0 s2 := by
     rintro ⟨a', hI', hlt, h1, h2⟩
     exact ih a' s2 (Nat.lt_of_lt_of_le hlt (Nat.le_of_lt_succ hn)) (hS2.sub h1 h2) hI'
    cases f with
    | next => exact go hf
    | cont => exact go hf
    | brk => exact hf s2 hS2
    | ret v => exact ⟨l', N', hS2, hf⟩
 exact all _ a₀ s (Nat.lt_succ_self _) (hS.sub hl hn) h0
noncomputable def upSeq : List Str → List Sh → Fs → Fs
 | x :: xs, sh :: shs, l => upSeq xs shs (up x sh l)
 | _, _, l => l
noncomputable def nameE : PySem.Expr → Option Str
 | .Name x _ => some x
 | _ => none
theorem nameE_some {e : PySem.Expr} {x : Str} (h : nameE e = some x) : ∃ p, e = .Name x p := by
 cases e <;> first | (injection h with h; subst h; exact ⟨_, rfl⟩) | (exact absurd h (by intro h; cases h))
section
variable {d : Df} {c : Cx}
theorem assign_names {Q : Shared → Prop} {N : Led} : ∀ (elts : List PySem.Expr) (names : List Str) (vs : List Value) (l : Fs) (s : Shared), elts.map nameE = names.map some → (∀ x ∈ names, (cE d c).kindOf x = some .local) → d.top = true → vs.length = names.length → St d c l N s →
  (∀ s', St d c (upSeq names (vs.map Sh.of) l) N s' → Q s') → wpAny (model PR d.w) (cA d c) (assignInOrder ((assignEach elts (cE d c)).map (·.2)) vs) (fun _ => Q) EF s
 | [], [], [], l, s, _, _, _, _, hS, hQ => assignInOrder_nil (hQ s hS)
 | e :: es, x :: xs, v :: vs, l, s, he, hx, ht, hv, hS, hQ => by
  rw [List.map_cons, List.map_cons, List.cons.injEq] at he
  obtain ⟨p, rfl⟩ := nameE_some he.1
  show wpAny _ _ (assignInOrder (assign (.Name x p) (cE d c) :: (assignEach es (cE d c)).map (·.2)) (v :: vs)) _ _ _
  exact assignInOrder_cons (assign_Name (store9 hS (Sh.of_val v) (hx x (.head _)) ht fun s' hS' => assign_names es xs vs _ s' he.2 (fun y hy => hx y (.tail _ hy)) ht (by simpa using hv) hS' hQ))
 | [], _ :: _, _, _, _, he, _, _, _, _, _ => nomatch he
 | _ :: _, [], _, _, _, he, _, _, _, _, _ => nomatch he
 | [], [], _ :: _, _, _, _, _, _, hv, _, _ => nomatch hv
 | _ :: _, _ :: _, [], _, _, _, _, _, hv, _, _ => nomatch hv
noncomputable def TupK (d : Df) (c : Cx) (l : Fs) (names : List Str) (rest : List Stmt) (R : KS) (sh : Sh) (N1 : Led) : Prop :=
 ∃ r vs N2, sh = .v (.ref r) ∧ (r, tupO vs) ∈ N1 ∧ vs.length = names.length ∧ (∀ p ∈ N2, p ∈ N1) ∧ Bk d c (upSeq names (vs.map Sh.of) l) N2 rest R
theorem TupK.mk {l : Fs} {names : List Str} {rest : List Stmt} {R : KS} {N1 : Led} {r : Addr} (vs : List Value) (N2 : Led) (hm : (r, tupO vs) ∈ N1) (hl : vs.length = names.length) (hs : ∀ p ∈ N2, p ∈ N1) (h : Bk d c (upSeq names (vs.map Sh.of) l) N2 rest R) : TupK d c l names rest R (.v (.ref r)) N1 :=
 ⟨r, vs, N2, rfl, hm, hl, hs, h⟩
theorem eachN : ∀ (elts : List PySem.Expr) (names : List Str) (env : Env), elts.map nameE = names.map some → (assignEach elts env).length = names.length ∧ (assignEach elts env).findIdx? (·.1) = none
 | [], [], _, _ => ⟨rfl, rfl⟩
 | e :: es, x :: xs, env, h => by
  rw [List.map_cons, List.map_cons, List.cons.injEq] at h
  obtain ⟨p, rfl⟩ := nameE_some h.1
  obtain ⟨h1, h2⟩ := eachN es xs env h.2
  refine ⟨by show (assignEach es env).length + 1 = _; rw [h1]; rfl, ?_⟩
  show (List.findIdx? _ ((false, _) :: assignEach es env)) = none
  rw [List.findIdx?_cons, h2]; rfl
 | [], _ :: _, _, h => nomatch h
 | _ :: _, [], _, h => nomatch h
theorem Bk.tupC {l : Fs} {N : Led} {elts : List PySem.Expr} {value : PySem.Expr} {k : Nat} {tpos pos : Pos} (names : List Str) {rest : List Stmt} {R : KS}
  (h : vc d c 30 (.E l N value (TupK d c l names rest R))) (he : autoParam (elts.map nameE = names.map some) name_B._auto_3) (hk : ∀ x ∈ names, (cE d c).kindOf x = some .local)
  (hs : autoParam (swapsWithSole [.Tuple elts k tpos] value pos.line (cE d c) = pure false) name_B._auto_3) (hw : autoParam (swappedStores [.Tuple elts k tpos] value (cE d c) = pure none) name_B._auto_3) (ht : autoParam (d.top = true) name_B._auto_3) :
  Bk d c l N (.Assign [.Tuple elts k tpos] value pos :: rest) R := fun s hS => by
 refine wpAny_execs_cons (Assign_Tuple (vc_sound 30 _ h s _ hS ?_) hs hw)
 rintro v sh N1 s1 ⟨t, rfl⟩ ⟨r, vs, N2, rfl, hm, hl, hsub, h1⟩ hS1
 obtain ⟨ok, ⟨hp, tk, rfl⟩, ⟨m, F, H⟩, hN⟩ := hS1
 obtain ⟨e1, e2⟩ := eachN elts names (cE d c) he
 refine unpackN_ F hN (News.isTup hN hm) rfl (by rw [e1, List.size_toArray, hl]) e2 fun h2 F2 N2' => ?_
 refine assign_names (N := N2) elts names _ l _ he hk ht hl ⟨ok, ⟨_, _, rfl⟩, ⟨m, F2, H⟩, fun p hp => N2' p (hsub p hp)⟩ fun s' hS' => ?_
 exact h1 s' hS'
end
structure TA where
 self : Addr
 d : Addr
 vd : Addr
 nd : Addr
 fr : Addr
 ud : Addr
 kd : Nat → Int × Tok
 tk : Nat → Tok
 c : Nat
 most : Nat
noncomputable def tdict (A : TA) (root : Int) (rt : Tok) : List DictEntry :=
 [⟨(A.kd 0).1, .str "kind" (A.kd 0).2, .str "trie" (A.tk 0)⟩, ⟨(A.kd 1).1, .str "number" (A.kd 1).2, .int 9 (A.tk 1)⟩, ⟨(A.kd 2).1, .str "key_width" (A.kd 2).2, .int ((4 + A.c : Nat) : Int) (A.tk 2)⟩,
 ⟨(A.kd 3).1, .str "value_width" (A.kd 3).2, .int 1 (A.tk 3)⟩, ⟨(A.kd 4).1, .str "most" (A.kd 4).2, .int (A.most : Int) (A.tk 4)⟩, ⟨(A.kd 5).1, .str "values" (A.kd 5).2, .ref A.vd⟩,
 ⟨(A.kd 6).1, .str "nodes" (A.kd 6).2, .ref A.nd⟩, ⟨(A.kd 7).1, .str "root" (A.kd 7).2, .int root rt⟩, ⟨(A.kd 8).1, .str "free_nodes" (A.kd 8).2, .ref A.fr⟩, ⟨(A.kd 9).1, .str "used" (A.kd 9).2, .ref A.ud⟩]
structure Nd where
 x : Addr
 dx : Addr
 cx : Addr
 len : Nat
 w : Nat
 slot : Int
 c0 : Int
 c1 : Int
noncomputable def ndict (kd : Nat → Int × Tok) (tk : Nat → Tok) (a : Nd) : List DictEntry :=
 [⟨(kd 0).1, .str "length" (kd 0).2, .int (a.len : Int) (tk 0)⟩, ⟨(kd 1).1, .str "worth" (kd 1).2, .int (a.w : Int) (tk 1)⟩, ⟨(kd 2).1, .str "slot" (kd 2).2, .int a.slot (tk 2)⟩, ⟨(kd 3).1, .str "children" (kd 3).2, .ref a.cx⟩]
noncomputable def NodeIn (D : Led) (a : Nd) : Prop :=
 (a.x, instObj 384 a.dx) ∈ D ∧ (∃ kd tk, (a.dx, dictOf (ndict kd tk a) 4) ∈ D) ∧ ∃ t0 t1 e, (a.cx, listOf #[.int a.c0 t0, .int a.c1 t1] e) ∈ D
noncomputable abbrev baObj (b : UInt8) : Obj := { cls := .type "bytearray", data := .bytearray #[b] 0 }
structure TS where
 nodes : List (Int × Nd)
 used : List Int
 vals : List (Int × Addr × UInt8)
 frees : List Int
noncomputable def getN (T : TS) (i : Int) : Option Nd := (T.nodes.find? fun p => p.1 == i).map (·.2)
noncomputable def getV (T : TS) (i : Int) : Option (Addr × UInt8) := (T.vals.find? fun p => p.1 == i).map (·.2)
noncomputable def ndAddrs (a : Nd) : List Addr := [a.x, a.dx, a.cx]
noncomputable def tAddrs (A : TA) (T : TS) : List Addr := [A.self, A.d, A.vd, A.nd, A.fr, A.ud] ++ T.nodes.flatMap (fun p => ndAddrs p.2) ++ T.vals.map (fun p => p.2.1)
noncomputable abbrev ik (w : World) : KeyKind PR w Int := intKind PR w
structure TR (w : World) (A : TA) (T : TS) (D : Led) : Prop where
 nd : ∃ o, (A.nd, o) ∈ D ∧ o.IsDictOf (ik w) (T.nodes.map fun p => (p.1, Value.ref p.2.x))
 ud : ∃ o, (A.ud, o) ∈ D ∧ o.IsDictOf (ik w) (T.used.map fun s => (s, Value.bool true))
 vd : ∃ o, (A.vd, o) ∈ D ∧ o.IsDictOf (ik w) (T.vals.map fun p => (p.1, Value.ref p.2.1))
 fr : ∃ its e, (A.fr, listOf its.toArray e) ∈ D ∧ IntsAre its T.frees
 node : ∀ p ∈ T.nodes, NodeIn D p.2
 val : ∀ p ∈ T.vals, (p.2.1, baObj p.2.2) ∈ D
 dis : (tAddrs A T).Nodup
 lo : (A.nd == sysModules) = false ∧ (A.ud == sysModules) = false ∧ (A.vd == sysModules) = false
 wb : ∀ p ∈ T.nodes, p.2.w < 2 ^ (8 * A.c) ∧ p.2.len ≤ 8 * A.c
 cb : 1 ≤ A.c ∧ A.c ≤ 8
 sz : T.nodes.length ≤ 1000 ∧ T.used.length ≤ 1000 ∧ T.vals.length ≤ 1000 ∧ T.frees.length ≤ 1000
noncomputable abbrev TP (A : TA) (root : Int) (rt : Tok) (D : Led) : Led := (A.self, instObj 585 A.d) :: (A.d, dictOf (tdict A root rt) 10) :: D
noncomputable def At (h : Heap) (D : Led) : Prop := ∀ p ∈ D, h.get? p.1 = some p.2
theorem At.tail {h : Heap} {p : Addr × Obj} {D : Led} (a : At h (p :: D)) : At h D := fun q hq => a q (.tail _ hq)
section
variable {w : World} {Ar : Around} {E : Value → Shared → Prop} {s : Shared} {A : TA} {T : TS} {D : Led} {value slice : PySem.Expr} {Q : Value → Shared → Prop} {i : Int} {t : Tok}
theorem valueAt_map {β : Type} {f : β → Value} (l : List (Int × β)) (k : Int) : valueAt (l.map fun p => (p.1, f p.2)) k = ((l.find? fun p => p.1 == k).map (·.2)).map f := by
 unfold valueAt
 induction l with
 | nil => rfl
 | cons p l ih =>
  by_cases h : p.1 = k
  ·simp [h]
  ·have h2 : (p.1 == k) = false := by simpa using h
   rw [List.map_cons, List.find?_cons_of_neg (by simpa using h), List.find?_cons_of_neg (by simpa using h)]
   exact ih
theorem isI (w : World) (k : Int) (t : Tok) : (ik w).is k (.int k t) = true := by simp [ik, intKind, Value.isInt]
theorem nodes_item {a : Nd} (hA : At s.heap D) (R : TR w A T D) (hv : getN T i = some a) (h : Q (.ref a.x) { s with toks := s.toks + 1 })
  (hs : autoParam (subscripted slice false (.ref A.nd) (.int i t) = operate [.ref A.nd, (.int i t)] (getItem (.ref A.nd) (.int i t))) sub_K._auto_1) (hg : autoParam (∀ r, letTemporaryGo value (.ref A.nd) r = pure ()) kim_tup._auto_3) :
  wpAny (model PR w) Ar (subscriptTail value slice (.ref A.nd) (.int i t)) Q E s := by
 obtain ⟨o, ho, hd⟩ := R.nd
 have hD : s.heap.DictOf (ik w) A.nd _ := Heap.dictOf_iff.mpr ⟨o, hA _ ho, hd⟩
 refine subscriptTail_builtin hD.typeIs slot_dict_getitem.lookup (wpAny_getItem_of (isI w i t) hD.mapOf ?_ h) hs hg
 rw [valueAt_map (f := fun a : Nd => Value.ref a.x)]
 show (getN T i).map _ = _
 rw [hv]; rfl
theorem vals_item {a : Addr × UInt8} (hA : At s.heap D) (R : TR w A T D) (hv : getV T i = some a) (h : Q (.ref a.1) { s with toks := s.toks + 1 })
  (hs : autoParam (subscripted slice false (.ref A.vd) (.int i t) = operate [.ref A.vd, (.int i t)] (getItem (.ref A.vd) (.int i t))) sub_K._auto_1) (hg : autoParam (∀ r, letTemporaryGo value (.ref A.vd) r = pure ()) kim_tup._auto_3) :
  wpAny (model PR w) Ar (subscriptTail value slice (.ref A.vd) (.int i t)) Q E s := by
 obtain ⟨o, ho, hd⟩ := R.vd
 have hD : s.heap.DictOf (ik w) A.vd _ := Heap.dictOf_iff.mpr ⟨o, hA _ ho, hd⟩
 refine subscriptTail_builtin hD.typeIs slot_dict_getitem.lookup (wpAny_getItem_of (isI w i t) hD.mapOf ?_ h) hs hg
 rw [valueAt_map (f := fun a : Addr × UInt8 => Value.ref a.1)]
 show (getV T i).map _ = _
 rw [hv]; rfl
theorem used_in (hA : At s.heap D) (R : TR w A T D) (h : Q (.bool (decide (i ∈ T.used))) { s with toks := s.toks + 1 }) :
  wpAny (model PR w) Ar (compareOp .In (.int i t) (.ref A.ud)) Q E s := by
 obtain ⟨o, ho, hd⟩ := R.ud
 have hD : s.heap.DictOf (ik w) A.ud _ := Heap.dictOf_iff.mpr ⟨o, hA _ ho, hd⟩
 refine wpAny_in_of (isI w i t) R.lo.2.1 hD.mapOf ?_
 have e : (valueAt (T.used.map fun s => (s, Value.bool true)) i).isSome = decide (i ∈ T.used) := by
  unfold valueAt
  generalize T.used = l
  induction l with
  | nil => rfl
  | cons p l ih =>
   simp only [List.map_cons, List.find?_cons]
   by_cases h : p = i
   ·simp [h]
   ·have h' : ¬ i = p := fun e => h e.symm
    simp [h, h']
    simpa using ih
 rw [e]; exact h
theorem vals_in (hA : At s.heap D) (R : TR w A T D) (h : Q (.bool (getV T i).isSome) { s with toks := s.toks + 1 }) :
  wpAny (model PR w) Ar (compareOp .In (.int i t) (.ref A.vd)) Q E s := by
 obtain ⟨o, ho, hd⟩ := R.vd
 have hD : s.heap.DictOf (ik w) A.vd _ := Heap.dictOf_iff.mpr ⟨o, hA _ ho, hd⟩
 refine wpAny_in_of (isI w i t) R.lo.2.2 hD.mapOf ?_
 rw [valueAt_map (f := fun a : Addr × UInt8 => Value.ref a.1)]
 have e : (((T.vals.find? fun p => p.1 == i).map (·.2)).map (fun a : Addr × UInt8 => Value.ref a.1)).isSome = (getV T i).isSome := by
  unfold getV
  simp
 rw [e]; exact h
theorem nodes_len (hA : At s.heap D) (R : TR w A T D) (h : Q (.int (T.nodes.length : Int) (s.toks + 1)) { s with toks := s.toks + 1 + 1 }) : wpAny (model PR w) Ar (call (.builtin "len") [.ref A.nd]) Q E s := by
 obtain ⟨o, ho, hd⟩ := R.nd
 have hD : s.heap.DictOf (ik w) A.nd _ := Heap.dictOf_iff.mpr ⟨o, hA _ ho, hd⟩
 refine call_len_dict R.lo.1 hD (by rw [List.length_map]; have := R.sz.1; lia) ?_
 rw [List.length_map]; exact h
theorem used_len (hA : At s.heap D) (R : TR w A T D) (h : Q (.int (T.used.length : Int) (s.toks + 1)) { s with toks := s.toks + 1 + 1 }) : wpAny (model PR w) Ar (call (.builtin "len") [.ref A.ud]) Q E s := by
 obtain ⟨o, ho, hd⟩ := R.ud
 have hD : s.heap.DictOf (ik w) A.ud _ := Heap.dictOf_iff.mpr ⟨o, hA _ ho, hd⟩
 refine call_len_dict R.lo.2.1 hD (by rw [List.length_map]; have := R.sz.2.1; lia) ?_
 rw [List.length_map]; exact h
theorem getN_mem {a : Nd} (h : getN T i = some a) : (i, a) ∈ T.nodes := by
 unfold getN at h
 obtain ⟨p, hp, rfl⟩ := Option.map_eq_some_iff.mp h
 have h1 := List.find?_some hp
 have h2 := List.mem_of_find?_eq_some hp
 have : p.1 = i := by simpa using h1
 rw [← this]; exact h2
theorem getV_mem {a : Addr × UInt8} (h : getV T i = some a) : (i, a) ∈ T.vals := by
 unfold getV at h
 obtain ⟨p, hp, rfl⟩ := Option.map_eq_some_iff.mp h
 have h1 := List.find?_some hp
 have h2 := List.mem_of_find?_eq_some hp
 have : p.1 = i := by simpa using h1
 rw [← this]; exact h2
noncomputable def child (a : Nd) (b : Nat) : Int := if b = 0 then a.c0 else a.c1
theorem child_item {a : Nd} {b : Nat} {t0 t1 : Tok} {e : Nat} (hc : s.heap.get? a.cx = some (listOf #[.int a.c0 t0, .int a.c1 t1] e)) (hi : i = (b : Int)) (hb : b < 2) (h : ∀ t', Q (.int (child a b) t') s)
  (hs : autoParam (subscripted slice false (.ref a.cx) (.int i t) = operate [.ref a.cx, .int i t] (getItem (.ref a.cx) (.int i t))) sub_K._auto_1) :
  wpAny (model PR w) Ar (subscriptTail value slice (.ref a.cx) (.int i t)) Q E s := by
 have hl : s.heap.IsList a.cx #[.int a.c0 t0, .int a.c1 t1] := ⟨_, hc, rfl, e, rfl⟩
 subst hi
 have : b = 0 ∨ b = 1 := by lia
 rcases this with rfl | rfl
 ·exact tail_any hl.typeIs slot_list_getitem.lookup (wpAny_getItem_list hl (by lia) (by lia) (x := .int a.c0 t0) (by simp) (h t0)) hs
 ·exact tail_any hl.typeIs slot_list_getitem.lookup (wpAny_getItem_list hl (by lia) (by lia) (x := .int a.c1 t1) (by simp) (h t1)) hs
end
inductive Tr where
 | nil
 | nd (i : Int) (a : Nd) (l r : Tr)
noncomputable def Tr.id : Tr → Int
 | .nil => -1
 | .nd i _ _ _ => i
noncomputable def Tr.size : Tr → Nat
 | .nil => 0
 | .nd _ _ l r => l.size + r.size + 1
noncomputable def Rep (T : TS) : Tr → Prop
 | .nil => True
 | .nd i a l r => 0 ≤ i ∧ getN T i = some a ∧ a.c0 = l.id ∧ a.c1 = r.id ∧ Rep T l ∧ Rep T r
noncomputable def path (n len w : Nat) : Tr → List (Int × Nd)
 | .nil => []
 | .nd i a l r => if sharedLen n a.w w (min a.len len) < a.len then [] else if a.len = len then [(i, a)] else (i, a) :: (if bitTop w a.len n = 0 then path n len w l else path n len w r)
theorem bitTop_lt (w p n : Nat) : bitTop w p n < 2 := Nat.mod_lt _ (by lia)
theorem IntsAre.snoc {vs : List Value} {ns : List Int} (h : IntsAre vs ns) (n : Int) (t : Tok) : IntsAre (vs ++ [.int n t]) (ns ++ [n]) := by
 induction h with
 | nil => exact IntsAre.cons n t IntsAre.nil
 | cons m u _ ih => exact IntsAre.cons m u ih
theorem append9 {w : World} {Ar : Around} {E : Value → Shared → Prop} {s : Shared} {h₀ : Heap} {L D : Addr} {m : Str → Option Value} {news news' : Led} {its : List Value} {n : Nat} {x : Value} {Q : Value → Shared → Prop} (F : Fr h₀ L s.heap m) (N : News h₀ L s.heap news) (U : Upd D (listOf its.toArray n) (listOf (its ++ [x]).toArray (n + 1)) news news') (hz : Side (its.length ≤ 5000))
  (h : ∀ h', Fr h₀ L h' m → News h₀ L h' news' → Q .none { s with heap := h' }) : wpAny (model PR w) Ar (call (.builtin "list.append") [.ref D, x]) Q E s :=
 append_K F N (by rw [List.push_toArray]; exact U) h (by have := hz.out; rw [sizeLine_eq, List.size_toArray]; lia)
theorem path_len (n len w : Nat) : ∀ t : Tr, (path n len w t).length ≤ t.size
 | .nil => Nat.le_refl _
 | .nd i a l r => by
  have h1 := path_len n len w l
  have h2 := path_len n len w r
  unfold path Tr.size
  split
  ·simp
  ·split
   ·simp
   ·split <;> simp only [List.length_cons] <;> lia
section
variable {a b c d e f g h i j k l m n o p q r s t u v : Type}
noncomputable def A1 (P : a → Prop) : Prop := ∀ x, P x
noncomputable def Y1 (P : a → Prop) (v : a) : Prop := P v
theorem wy1 {P : a → Prop} (H : ∀ v, Y1 P v) : A1 P := H
noncomputable def A2 (P : a->b->Prop) : Prop := ∀ x, A1 (P x)
noncomputable def Y2 (P : a->b->Prop) (v : a×b) : Prop := Y1 (P v.1) v.2
theorem wy2 {P : a->b->Prop} (H : ∀ v, Y2 P v) : A2 P := fun x => wy1 fun v => H (x, v)
theorem ey2 {P : a->b->Prop} (z : Nonempty (a×b)) (H : Y2 P (ep z (Y2 P))) : A2 P := wy2 (eps1 z H)
noncomputable def A3 (P : a->b->c->Prop) : Prop := ∀ x, A2 (P x)
noncomputable def Y3 (P : a->b->c->Prop) (v : a×b×c) : Prop := Y2 (P v.1) v.2
theorem wy3 {P : a->b->c->Prop} (H : ∀ v, Y3 P v) : A3 P := fun x => wy2 fun v => H (x, v)
theorem ey3 {P : a->b->c->Prop} (z : Nonempty (a×b×c)) (H : Y3 P (ep z (Y3 P))) : A3 P := wy3 (eps1 z H)
noncomputable def A4 (P : a->b->c->d->Prop) : Prop := ∀ x, A3 (P x)
noncomputable def Y4 (P : a->b->c->d->Prop) (v : a×b×c×d) : Prop := Y3 (P v.1) v.2
theorem wy4 {P : a->b->c->d->Prop} (H : ∀ v, Y4 P v) : A4 P := fun x => wy3 fun v => H (x, v)
theorem ey4 {P : a->b->c->d->Prop} (z : Nonempty (a×b×c×d)) (H : Y4 P (ep z (Y4 P))) : A4 P := wy4 (eps1 z H)
noncomputable def A5 (P : a->b->c->d->e->Prop) : Prop := ∀ x, A4 (P x)
noncomputable def Y5 (P : a->b->c->d->e->Prop) (v : a×b×c×d×e) : Prop := Y4 (P v.1) v.2
theorem wy5 {P : a->b->c->d->e->Prop} (H : ∀ v, Y5 P v) : A5 P := fun x => wy4 fun v => H (x, v)
theorem ey5 {P : a->b->c->d->e->Prop} (z : Nonempty (a×b×c×d×e)) (H : Y5 P (ep z (Y5 P))) : A5 P := wy5 (eps1 z H)
noncomputable def A6 (P : a->b->c->d->e->f->Prop) : Prop := ∀ x, A5 (P x)
noncomputable def Y6 (P : a->b->c->d->e->f->Prop) (v : a×b×c×d×e×f) : Prop := Y5 (P v.1) v.2
theorem wy6 {P : a->b->c->d->e->f->Prop} (H : ∀ v, Y6 P v) : A6 P := fun x => wy5 fun v => H (x, v)
theorem ey6 {P : a->b->c->d->e->f->Prop} (z : Nonempty (a×b×c×d×e×f)) (H : Y6 P (ep z (Y6 P))) : A6 P := wy6 (eps1 z H)
noncomputable def A7 (P : a->b->c->d->e->f->g->Prop) : Prop := ∀ x, A6 (P x)
noncomputable def Y7 (P : a->b->c->d->e->f->g->Prop) (v : a×b×c×d×e×f×g) : Prop := Y6 (P v.1) v.2
theorem wy7 {P : a->b->c->d->e->f->g->Prop} (H : ∀ v, Y7 P v) : A7 P := fun x => wy6 fun v => H (x, v)
theorem ey7 {P : a->b->c->d->e->f->g->Prop} (z : Nonempty (a×b×c×d×e×f×g)) (H : Y7 P (ep z (Y7 P))) : A7 P := wy7 (eps1 z H)
noncomputable def A8 (P : a->b->c->d->e->f->g->h->Prop) : Prop := ∀ x, A7 (P x)
noncomputable def Y8 (P : a->b->c->d->e->f->g->h->Prop) (v : a×b×c×d×e×f×g×h) : Prop := Y7 (P v.1) v.2
theorem wy8 {P : a->b->c->d->e->f->g->h->Prop} (H : ∀ v, Y8 P v) : A8 P := fun x => wy7 fun v => H (x, v)
theorem ey8 {P : a->b->c->d->e->f->g->h->Prop} (z : Nonempty (a×b×c×d×e×f×g×h)) (H : Y8 P (ep z (Y8 P))) : A8 P := wy8 (eps1 z H)
noncomputable def A9 (P : a->b->c->d->e->f->g->h->i->Prop) : Prop := ∀ x, A8 (P x)
noncomputable def Y9 (P : a->b->c->d->e->f->g->h->i->Prop) (v : a×b×c×d×e×f×g×h×i) : Prop := Y8 (P v.1) v.2
theorem wy9 {P : a->b->c->d->e->f->g->h->i->Prop} (H : ∀ v, Y9 P v) : A9 P := fun x => wy8 fun v => H (x, v)
theorem ey9 {P : a->b->c->d->e->f->g->h->i->Prop} (z : Nonempty (a×b×c×d×e×f×g×h×i)) (H : Y9 P (ep z (Y9 P))) : A9 P := wy9 (eps1 z H)
noncomputable def A10 (P : a->b->c->d->e->f->g->h->i->j->Prop) : Prop := ∀ x, A9 (P x)
noncomputable def Y10 (P : a->b->c->d->e->f->g->h->i->j->Prop) (v : a×b×c×d×e×f×g×h×i×j) : Prop := Y9 (P v.1) v.2
theorem wy10 {P : a->b->c->d->e->f->g->h->i->j->Prop} (H : ∀ v, Y10 P v) : A10 P := fun x => wy9 fun v => H (x, v)
theorem ey10 {P : a->b->c->d->e->f->g->h->i->j->Prop} (z : Nonempty (a×b×c×d×e×f×g×h×i×j)) (H : Y10 P (ep z (Y10 P))) : A10 P := wy10 (eps1 z H)
noncomputable def A11 (P : a->b->c->d->e->f->g->h->i->j->k->Prop) : Prop := ∀ x, A10 (P x)
noncomputable def Y11 (P : a->b->c->d->e->f->g->h->i->j->k->Prop) (v : a×b×c×d×e×f×g×h×i×j×k) : Prop := Y10 (P v.1) v.2
theorem wy11 {P : a->b->c->d->e->f->g->h->i->j->k->Prop} (H : ∀ v, Y11 P v) : A11 P := fun x => wy10 fun v => H (x, v)
theorem ey11 {P : a->b->c->d->e->f->g->h->i->j->k->Prop} (z : Nonempty (a×b×c×d×e×f×g×h×i×j×k)) (H : Y11 P (ep z (Y11 P))) : A11 P := wy11 (eps1 z H)
noncomputable def A12 (P : a->b->c->d->e->f->g->h->i->j->k->l->Prop) : Prop := ∀ x, A11 (P x)
noncomputable def Y12 (P : a->b->c->d->e->f->g->h->i->j->k->l->Prop) (v : a×b×c×d×e×f×g×h×i×j×k×l) : Prop := Y11 (P v.1) v.2
theorem wy12 {P : a->b->c->d->e->f->g->h->i->j->k->l->Prop} (H : ∀ v, Y12 P v) : A12 P := fun x => wy11 fun v => H (x, v)
theorem ey12 {P : a->b->c->d->e->f->g->h->i->j->k->l->Prop} (z : Nonempty (a×b×c×d×e×f×g×h×i×j×k×l)) (H : Y12 P (ep z (Y12 P))) : A12 P := wy12 (eps1 z H)
noncomputable def A13 (P : a->b->c->d->e->f->g->h->i->j->k->l->m->Prop) : Prop := ∀ x, A12 (P x)
noncomputable def Y13 (P : a->b->c->d->e->f->g->h->i->j->k->l->m->Prop) (v : a×b×c×d×e×f×g×h×i×j×k×l×m) : Prop := Y12 (P v.1) v.2
theorem wy13 {P : a->b->c->d->e->f->g->h->i->j->k->l->m->Prop} (H : ∀ v, Y13 P v) : A13 P := fun x => wy12 fun v => H (x, v)
theorem ey13 {P : a->b->c->d->e->f->g->h->i->j->k->l->m->Prop} (z : Nonempty (a×b×c×d×e×f×g×h×i×j×k×l×m)) (H : Y13 P (ep z (Y13 P))) : A13 P := wy13 (eps1 z H)
noncomputable def A14 (P : a->b->c->d->e->f->g->h->i->j->k->l->m->n->Prop) : Prop := ∀ x, A13 (P x)
noncomputable def Y14 (P : a->b->c->d->e->f->g->h->i->j->k->l->m->n->Prop) (v : a×b×c×d×e×f×g×h×i×j×k×l×m×n) : Prop := Y13 (P v.1) v.2
theorem wy14 {P : a->b->c->d->e->f->g->h->i->j->k->l->m->n->Prop} (H : ∀ v, Y14 P v) : A14 P := fun x => wy13 fun v => H (x, v)
theorem ey14 {P : a->b->c->d->e->f->g->h->i->j->k->l->m->n->Prop} (z : Nonempty (a×b×c×d×e×f×g×h×i×j×k×l×m×n)) (H : Y14 P (ep z (Y14 P))) : A14 P := wy14 (eps1 z H)
noncomputable def A15 (P : a->b->c->d->e->f->g->h->i->j->k->l->m->n->o->Prop) : Prop := ∀ x, A14 (P x)
noncomputable def Y15 (P : a->b->c->d->e->f->g->h->i->j->k->l->m->n->o->Prop) (v : a×b×c×d×e×f×g×h×i×j×k×l×m×n×o) : Prop := Y14 (P v.1) v.2
theorem wy15 {P : a->b->c->d->e->f->g->h->i->j->k->l->m->n->o->Prop} (H : ∀ v, Y15 P v) : A15 P := fun x => wy14 fun v => H (x, v)
theorem ey15 {P : a->b->c->d->e->f->g->h->i->j->k->l->m->n->o->Prop} (z : Nonempty (a×b×c×d×e×f×g×h×i×j×k×l×m×n×o)) (H : Y15 P (ep z (Y15 P))) : A15 P := wy15 (eps1 z H)
noncomputable def A16 (P : a->b->c->d->e->f->g->h->i->j->k->l->m->n->o->p->Prop) : Prop := ∀ x, A15 (P x)
noncomputable def Y16 (P : a->b->c->d->e->f->g->h->i->j->k->l->m->n->o->p->Prop) (v : a×b×c×d×e×f×g×h×i×j×k×l×m×n×o×p) : Prop := Y15 (P v.1) v.2
theorem wy16 {P : a->b->c->d->e->f->g->h->i->j->k->l->m->n->o->p->Prop} (H : ∀ v, Y16 P v) : A16 P := fun x => wy15 fun v => H (x, v)
theorem ey16 {P : a->b->c->d->e->f->g->h->i->j->k->l->m->n->o->p->Prop} (z : Nonempty (a×b×c×d×e×f×g×h×i×j×k×l×m×n×o×p)) (H : Y16 P (ep z (Y16 P))) : A16 P := wy16 (eps1 z H)
noncomputable def A17 (P : a->b->c->d->e->f->g->h->i->j->k->l->m->n->o->p->q->Prop) : Prop := ∀ x, A16 (P x)
noncomputable def Y17 (P : a->b->c->d->e->f->g->h->i->j->k->l->m->n->o->p->q->Prop) (v : a×b×c×d×e×f×g×h×i×j×k×l×m×n×o×p×q) : Prop := Y16 (P v.1) v.2
theorem wy17 {P : a->b->c->d->e->f->g->h->i->j->k->l->m->n->o->p->q->Prop} (H : ∀ v, Y17 P v) : A17 P := fun x => wy16 fun v => H (x, v)
theorem ey17 {P : a->b->c->d->e->f->g->h->i->j->k->l->m->n->o->p->q->Prop} (z : Nonempty (a×b×c×d×e×f×g×h×i×j×k×l×m×n×o×p×q)) (H : Y17 P (ep z (Y17 P))) : A17 P := wy17 (eps1 z H)
noncomputable def A18 (P : a->b->c->d->e->f->g->h->i->j->k->l->m->n->o->p->q->r->Prop) : Prop := ∀ x, A17 (P x)
noncomputable def Y18 (P : a->b->c->d->e->f->g->h->i->j->k->l->m->n->o->p->q->r->Prop) (v : a×b×c×d×e×f×g×h×i×j×k×l×m×n×o×p×q×r) : Prop := Y17 (P v.1) v.2
theorem wy18 {P : a->b->c->d->e->f->g->h->i->j->k->l->m->n->o->p->q->r->Prop} (H : ∀ v, Y18 P v) : A18 P := fun x => wy17 fun v => H (x, v)
theorem ey18 {P : a->b->c->d->e->f->g->h->i->j->k->l->m->n->o->p->q->r->Prop} (z : Nonempty (a×b×c×d×e×f×g×h×i×j×k×l×m×n×o×p×q×r)) (H : Y18 P (ep z (Y18 P))) : A18 P := wy18 (eps1 z H)
noncomputable def A19 (P : a->b->c->d->e->f->g->h->i->j->k->l->m->n->o->p->q->r->s->Prop) : Prop := ∀ x, A18 (P x)
noncomputable def Y19 (P : a->b->c->d->e->f->g->h->i->j->k->l->m->n->o->p->q->r->s->Prop) (v : a×b×c×d×e×f×g×h×i×j×k×l×m×n×o×p×q×r×s) : Prop := Y18 (P v.1) v.2
theorem wy19 {P : a->b->c->d->e->f->g->h->i->j->k->l->m->n->o->p->q->r->s->Prop} (H : ∀ v, Y19 P v) : A19 P := fun x => wy18 fun v => H (x, v)
theorem ey19 {P : a->b->c->d->e->f->g->h->i->j->k->l->m->n->o->p->q->r->s->Prop} (z : Nonempty (a×b×c×d×e×f×g×h×i×j×k×l×m×n×o×p×q×r×s)) (H : Y19 P (ep z (Y19 P))) : A19 P := wy19 (eps1 z H)
noncomputable def A20 (P : a->b->c->d->e->f->g->h->i->j->k->l->m->n->o->p->q->r->s->t->Prop) : Prop := ∀ x, A19 (P x)
noncomputable def Y20 (P : a->b->c->d->e->f->g->h->i->j->k->l->m->n->o->p->q->r->s->t->Prop) (v : a×b×c×d×e×f×g×h×i×j×k×l×m×n×o×p×q×r×s×t) : Prop := Y19 (P v.1) v.2
theorem wy20 {P : a->b->c->d->e->f->g->h->i->j->k->l->m->n->o->p->q->r->s->t->Prop} (H : ∀ v, Y20 P v) : A20 P := fun x => wy19 fun v => H (x, v)
theorem ey20 {P : a->b->c->d->e->f->g->h->i->j->k->l->m->n->o->p->q->r->s->t->Prop} (z : Nonempty (a×b×c×d×e×f×g×h×i×j×k×l×m×n×o×p×q×r×s×t)) (H : Y20 P (ep z (Y20 P))) : A20 P := wy20 (eps1 z H)
noncomputable def A21 (P : a->b->c->d->e->f->g->h->i->j->k->l->m->n->o->p->q->r->s->t->u->Prop) : Prop := ∀ x, A20 (P x)
noncomputable def Y21 (P : a->b->c->d->e->f->g->h->i->j->k->l->m->n->o->p->q->r->s->t->u->Prop) (v : a×b×c×d×e×f×g×h×i×j×k×l×m×n×o×p×q×r×s×t×u) : Prop := Y20 (P v.1) v.2
theorem wy21 {P : a->b->c->d->e->f->g->h->i->j->k->l->m->n->o->p->q->r->s->t->u->Prop} (H : ∀ v, Y21 P v) : A21 P := fun x => wy20 fun v => H (x, v)
theorem ey21 {P : a->b->c->d->e->f->g->h->i->j->k->l->m->n->o->p->q->r->s->t->u->Prop} (z : Nonempty (a×b×c×d×e×f×g×h×i×j×k×l×m×n×o×p×q×r×s×t×u)) (H : Y21 P (ep z (Y21 P))) : A21 P := wy21 (eps1 z H)
noncomputable def A22 (P : a->b->c->d->e->f->g->h->i->j->k->l->m->n->o->p->q->r->s->t->u->v->Prop) : Prop := ∀ x, A21 (P x)
noncomputable def Y22 (P : a->b->c->d->e->f->g->h->i->j->k->l->m->n->o->p->q->r->s->t->u->v->Prop) (v : a×b×c×d×e×f×g×h×i×j×k×l×m×n×o×p×q×r×s×t×u×v) : Prop := Y21 (P v.1) v.2
theorem wy22 {P : a->b->c->d->e->f->g->h->i->j->k->l->m->n->o->p->q->r->s->t->u->v->Prop} (H : ∀ v, Y22 P v) : A22 P := fun x => wy21 fun v => H (x, v)
theorem ey22 {P : a->b->c->d->e->f->g->h->i->j->k->l->m->n->o->p->q->r->s->t->u->v->Prop} (z : Nonempty (a×b×c×d×e×f×g×h×i×j×k×l×m×n×o×p×q×r×s×t×u×v)) (H : Y22 P (ep z (Y22 P))) : A22 P := wy22 (eps1 z H)
end
theorem ne_TA : Nonempty TA := ⟨⟨0, 0, 0, 0, 0, 0, fun _ => (0, 0), fun _ => 0, 0, 0⟩⟩
theorem ne_TS : Nonempty TS := ⟨⟨[], [], [], []⟩⟩
theorem ne_Tr : Nonempty Tr := ⟨.nil⟩
theorem ne_Nd : Nonempty Nd := ⟨⟨0, 0, 0, 0, 0, 0, 0, 0⟩⟩
structure TrO (w : World) (c : Cx) (N : Led) (A : TA) (T : TS) (root : Int) : Prop where
 ex : ∃ rt D, TR w A T D ∧ ∀ p ∈ TP A root rt D, OAt c N p.1 p.2
noncomputable def OwnAt (w : World) (C : Addr) (x : Str) : Prop := plainGet (K9 w.params) C x = true ∧ hasDictIn (K9 w.params) C = true ∧ ∃ attr, findIn (K9 w.params) (.ref C) x = some attr ∧ noGet (K9 w.params) attr = true
theorem own585 (w : World) : OwnAt w 585 "root" ∧ OwnAt w 585 "nodes" ∧ OwnAt w 585 "most" ∧ OwnAt w 585 "key_width" ∧ OwnAt w 585 "value_width" ∧ OwnAt w 585 "values" ∧ OwnAt w 585 "free_nodes" ∧ OwnAt w 585 "used" := by
 refine ⟨?_, ?_, ?_, ?_, ?_, ?_, ?_, ?_⟩ <;> exact ⟨by k_is, by k_is, _, by k_is, by k_is⟩
theorem own384 (w : World) : OwnAt w 384 "length" ∧ OwnAt w 384 "worth" ∧ OwnAt w 384 "slot" ∧ OwnAt w 384 "children" := by
 refine ⟨?_, ?_, ?_, ?_⟩ <;> exact ⟨by k_is, by k_is, _, by k_is, by k_is⟩
section
variable {d : Df} {c : Cx} {l : Fs} {N : Led} {A : TA} {T : TS} {root : Int} {K : KE}
theorem AttrS.inst {a : Str} {C x dx : Addr} {osl : Array (Option Value)} {es : List DictEntry} {n : Nat} {v : Value} {sh : Sh} (ho : OwnAt d.w C a) (h1 : OAt c N x ⟨.ref C, some dx, .plain, osl⟩) (h2 : OAt c N dx (dictOf es n)) (hl : getL a es = some (some v)) (hv : handedIn v = true) (hs : ∃ t, v = sh.val t) (h : K sh N) :
  AttrS d c l a (.v (.ref x)) N K := fun t s Q hS hQ => by
 obtain ⟨g1, g2, attr, g3, g4⟩ := ho
 have i1 := h1.at hS
 have i2 := h2.at hS
 obtain ⟨m, F, H⟩ := hS.fr
 obtain ⟨t', rfl⟩ := hs
 exact get_own F hS.ok.X ⟨i1, rfl, rfl, i2⟩ g1 g2 g3 g4 hl hv (hQ.use t' h (hS.tok _))
theorem TrO.self {w : World} (h : TrO w c N A T root) : OAt c N A.self (instObj 585 A.d) ∧ ∃ rt, OAt c N A.d (dictOf (tdict A root rt) 10) := by
 obtain ⟨rt, D, R, hP⟩ := h.ex
 exact ⟨hP _ (.head _), rt, hP _ (.tail _ (.head _))⟩
theorem AttrS.root9 (hT : TrO d.w c N A T root) (h : K (.i root) N) : AttrS d c l "root" (.v (.ref A.self)) N K := by
 obtain ⟨h1, rt, h2⟩ := hT.self
 exact AttrS.inst (own585 d.w).1 h1 h2 rfl rfl ⟨rt, rfl⟩ h
theorem AttrS.nodes (hT : TrO d.w c N A T root) (h : K (.v (.ref A.nd)) N) : AttrS d c l "nodes" (.v (.ref A.self)) N K := by
 obtain ⟨h1, rt, h2⟩ := hT.self
 exact AttrS.inst (own585 d.w).2.1 h1 h2 rfl rfl ⟨0, rfl⟩ h
theorem AttrS.most (hT : TrO d.w c N A T root) (h : K (.i (A.most : Int)) N) : AttrS d c l "most" (.v (.ref A.self)) N K := by
 obtain ⟨h1, rt, h2⟩ := hT.self
 exact AttrS.inst (own585 d.w).2.2.1 h1 h2 rfl rfl ⟨A.tk 4, rfl⟩ h
theorem AttrS.kw (hT : TrO d.w c N A T root) (h : K (.i ((4 + A.c : Nat) : Int)) N) : AttrS d c l "key_width" (.v (.ref A.self)) N K := by
 obtain ⟨h1, rt, h2⟩ := hT.self
 exact AttrS.inst (own585 d.w).2.2.2.1 h1 h2 rfl rfl ⟨A.tk 2, rfl⟩ h
theorem AttrS.vw (hT : TrO d.w c N A T root) (h : K (.i 1) N) : AttrS d c l "value_width" (.v (.ref A.self)) N K := by
 obtain ⟨h1, rt, h2⟩ := hT.self
 exact AttrS.inst (own585 d.w).2.2.2.2.1 h1 h2 rfl rfl ⟨A.tk 3, rfl⟩ h
theorem AttrS.values (hT : TrO d.w c N A T root) (h : K (.v (.ref A.vd)) N) : AttrS d c l "values" (.v (.ref A.self)) N K := by
 obtain ⟨h1, rt, h2⟩ := hT.self
 exact AttrS.inst (own585 d.w).2.2.2.2.2.1 h1 h2 rfl rfl ⟨0, rfl⟩ h
theorem AttrS.free (hT : TrO d.w c N A T root) (h : K (.v (.ref A.fr)) N) : AttrS d c l "free_nodes" (.v (.ref A.self)) N K := by
 obtain ⟨h1, rt, h2⟩ := hT.self
 exact AttrS.inst (own585 d.w).2.2.2.2.2.2.1 h1 h2 rfl rfl ⟨0, rfl⟩ h
theorem AttrS.used (hT : TrO d.w c N A T root) (h : K (.v (.ref A.ud)) N) : AttrS d c l "used" (.v (.ref A.self)) N K := by
 obtain ⟨h1, rt, h2⟩ := hT.self
 exact AttrS.inst (own585 d.w).2.2.2.2.2.2.2 h1 h2 rfl rfl ⟨0, rfl⟩ h
theorem TrO.node {w : World} {i : Int} {a : Nd} (hT : TrO w c N A T root) (hv : getN T i = some a) : OAt c N a.x (instObj 384 a.dx) ∧ (∃ kd tk, OAt c N a.dx (dictOf (ndict kd tk a) 4)) ∧ ∃ t0 t1 e, OAt c N a.cx (listOf #[.int a.c0 t0, .int a.c1 t1] e) := by
 obtain ⟨rt, D, R, hP⟩ := hT.ex
 obtain ⟨h1, ⟨kd, tk, h2⟩, t0, t1, e, h3⟩ := R.node _ (getN_mem hv)
 exact ⟨hP _ (.tail _ (.tail _ h1)), ⟨kd, tk, hP _ (.tail _ (.tail _ h2))⟩, t0, t1, e, hP _ (.tail _ (.tail _ h3))⟩
theorem AttrS.len {i : Int} {a : Nd} (hT : TrO d.w c N A T root) (hv : getN T i = some a) (h : K (.i (a.len : Int)) N) : AttrS d c l "length" (.v (.ref a.x)) N K := by
 obtain ⟨h1, ⟨kd, tk, h2⟩, _⟩ := hT.node hv
 exact AttrS.inst (own384 d.w).1 h1 h2 rfl rfl ⟨tk 0, rfl⟩ h
theorem AttrS.worth {i : Int} {a : Nd} (hT : TrO d.w c N A T root) (hv : getN T i = some a) (h : K (.i (a.w : Int)) N) : AttrS d c l "worth" (.v (.ref a.x)) N K := by
 obtain ⟨h1, ⟨kd, tk, h2⟩, _⟩ := hT.node hv
 exact AttrS.inst (own384 d.w).2.1 h1 h2 rfl rfl ⟨tk 1, rfl⟩ h
theorem AttrS.slot {i : Int} {a : Nd} (hT : TrO d.w c N A T root) (hv : getN T i = some a) (h : K (.i a.slot) N) : AttrS d c l "slot" (.v (.ref a.x)) N K := by
 obtain ⟨h1, ⟨kd, tk, h2⟩, _⟩ := hT.node hv
 exact AttrS.inst (own384 d.w).2.2.1 h1 h2 rfl rfl ⟨tk 2, rfl⟩ h
theorem AttrS.children {i : Int} {a : Nd} (hT : TrO d.w c N A T root) (hv : getN T i = some a) (h : K (.v (.ref a.cx)) N) : AttrS d c l "children" (.v (.ref a.x)) N K := by
 obtain ⟨h1, ⟨kd, tk, h2⟩, _⟩ := hT.node hv
 exact AttrS.inst (own384 d.w).2.2.2 h1 h2 rfl rfl ⟨0, rfl⟩ h
theorem TrO.at {s : Shared} (hT : TrO d.w c N A T root) (hS : St d c l N s) : ∃ rt D, TR d.w A T D ∧ At s.heap (TP A root rt D) := by
 obtain ⟨rt, D, R, hP⟩ := hT.ex
 exact ⟨rt, D, R, fun p hp => (hP p hp).at hS⟩
theorem ItemS.node {ie : PySem.Expr} {i : Int} {a : Nd} (hT : TrO d.w c N A T root) (hv : getN T i = some a) (h : K (.v (.ref a.x)) N)
  (hs : autoParam (∀ u, subscripted ie false (.ref A.nd) (.int i u) = operate [.ref A.nd, (.int i u)] (getItem (.ref A.nd) (.int i u))) kim_tup._auto_3) :
  ItemS d c l ie (.v (.ref A.nd)) (.i i) N K := fun t u s Q hS hQ => by
 obtain ⟨rt, D, R, hA⟩ := hT.at hS
 exact nodes_item hA.tail.tail R hv (hQ.use (sh := .v (.ref a.x)) 0 h (hS.tok _)) (hs u) (fun _ => rfl)
theorem ItemS.child {ie : PySem.Expr} {i ib : Int} {b : Nat} {a : Nd} (hT : TrO d.w c N A T root) (hv : getN T i = some a) (hib : ib = (b : Int)) (hb : b < 2) (h : K (.i (child a b)) N)
  (hs : autoParam (∀ u, subscripted ie false (.ref a.cx) (.int ib u) = operate [.ref a.cx, (.int ib u)] (getItem (.ref a.cx) (.int ib u))) kim_tup._auto_3) :
  ItemS d c l ie (.v (.ref a.cx)) (.i ib) N K := fun t u s Q hS hQ => by
 obtain ⟨_, _, t0, t1, e, h3⟩ := hT.node hv
 exact child_item (h3.at hS) hib hb (fun t' => hQ.use (sh := .i _) t' h hS) (hs u)
noncomputable def CallM (d : Df) (c : Cx) (l : Fs) (a : Addr) (y : Addr) (shs : List Sh) (N : Led) (K : KE) : Prop := ∀ ts s Q, St d c l N s → Dn d c l K Q → wpAny (model PR d.w) (cA d c) (call (.ref a) (.ref y :: valsO ts 0 shs)) Q EF s
theorem RawE.mself {x : Str} {o : PySem.Expr} {apos pos : Pos} {a : Addr} {es : List PySem.Expr} (hf : MethAt d.w 585 x a)
  (h : vc d c 30 (.E l N o fun sh N1 => sh = .v (.ref A.self) ∧ TrO d.w c N1 A T root ∧ vc d c 30 (.L l N1 es fun shs N2 => CallM d c l a A.self shs N2 K))) (hl : autoParam (∀ rt, getL x (tdict A root rt) = some none) wpAny_For._auto_3)
  (hp : autoParam (es.all plainE = true) name_B._auto_3) (hplain : autoParam ((backTo pos (starEach es (cE d c))).any (·.1) = false) name_B._auto_3) {pl : Sem Bool}
  (hc : autoParam (eval (.Call (.Attribute o x apos) es [] pos) (cE d c) = (do
   let ov ← eval o (cE d c)
   standAt apos.atName
   let (f, first) ← holding [ov] (getMethod ov x pl)
   callWith pos f first (backTo pos (starEach es (cE d c))) [])) name_B._auto_3) :
  RawE d c l N (.Call (.Attribute o x apos) es [] pos) K := fun s Q hS hQ => by
 refine MethodCall_ (pl := pl) (vc_sound 30 _ h s _ hS ?_) hc
 rintro v _ N1 s₁ ⟨t, rfl⟩ ⟨rfl, hT, h2⟩ h₁
 obtain ⟨g1, rt, g2⟩ := hT.self
 have i1 := g1.at h₁
 have i2 := g2.at h₁
 obtain ⟨m, F, H⟩ := h₁.fr
 refine method_inst F h₁.ok.X ⟨i1, rfl, rfl, i2⟩ hf.1 hf.2.1 hf.2.2.1 (hl rt) ?_
 cases es with
 | nil =>
  refine callWith_K0 h₁.kin hf.2.2.2 ?_
  exact (show CallM d c l a A.self [] N1 K from h2) (fun _ => 0) s₁ Q h₁ hQ
 | cons e es =>
  have he1 : plainE e = true := by rw [List.all_cons, Bool.and_eq_true] at hp; exact hp.1
  refine callWith_K h₁.ok.X hf.2.2.2 ?_ (starEach_plain he1) (by
   rw [starEach_plain he1] at hplain
   simpa [backTo] using hplain)
  exact vc_sound 30 _ h2 pos 0 s₁ _ h₁ fun ts shs N2 s2 k hS2 => ⟨hS2.kin, k ts s2 Q hS2 hQ⟩
theorem CallM.read {a : Addr} {shs : List Sh} {lv' : Nat} {R : Value → Led → Prop} (hT : TrO d.w c N A T root) (S : ∀ ts rt D, TR d.w A T D → Sp d.w a lv' (.ref A.self :: valsO ts 0 shs) (TP A root rt D) [] R) (hlv : lv' ≤ d.lv)
  (h : ∀ v O', R v O' → (∀ p ∈ N, ∀ q ∈ O', p.1 ≠ q.1) → ∃ sh N', (∃ t, v = sh.val t) ∧ K sh N' ∧ ∀ p ∈ N', p ∈ O' ++ N) : CallM d c l a A.self shs N K := fun ts s Q hS hQ => by
 obtain ⟨rt, D, R9, hP⟩ := hT.ex
 refine call_ev (Z := N) (S ts rt D R9) ⟨hP, fun _ h => absurd h List.not_mem_nil, fun _ h => absurd h List.not_mem_nil, fun _ h => h, fun _ h => absurd h List.not_mem_nil, hlv⟩ hS ?_
 rintro v N' s' ⟨O', r, rfl, ap⟩ hS'
 obtain ⟨sh, N'', hv, k, hsub⟩ := h v O' r ap
 exact hQ v sh N'' s' hv k (hS'.sub (fun _ h => h) hsub)
end
section
variable {d : Df} {c : Cx} {l : Fs} {N : Led} {K : KE}
noncomputable def RawEG (d : Df) (c : Cx) (l : Fs) (N : Led) (e : PySem.Expr) (K : KE) : Prop := ∀ s Q, St d c l N s → Dn d c l K Q → wpG (model PR d.w) (cA d c) (eval e (cE d c)) Q EF s
noncomputable def RawLG (d : Df) (c : Cx) (l : Fs) (N : Led) (es : List PySem.Expr) (K : List Sh → Led → Prop) : Prop :=
 ∀ pos i s (Q : List Value → Shared → Prop), St d c l N s → (∀ ts shs N' s', K shs N' → St d c l N' s' → Q (valsO ts i shs) s') → wpG (model PR d.w) (cA d c) (spliced (backTo pos (starEach es (cE d c)))) Q EF s
noncomputable def CallGS (d : Df) (c : Cx) (l : Fs) (a : Addr) (shs : List Sh) (N : Led) (K : KE) : Prop := ∀ ts s Q, St d c l N s → Dn d c l K Q → wpG (model PR d.w) (cA d c) (call (.ref a) (valsO ts 0 shs)) Q EF s
noncomputable def CallGM (d : Df) (c : Cx) (l : Fs) (a : Addr) (y : Addr) (shs : List Sh) (N : Led) (K : KE) : Prop := ∀ ts s Q, St d c l N s → Dn d c l K Q → wpG (model PR d.w) (cA d c) (call (.ref a) (.ref y :: valsO ts 0 shs)) Q EF s
theorem RawEG.of {e : PySem.Expr} (h : vc d c 30 (.E l N e K)) : RawEG d c l N e K := fun s Q hS hQ => wpG_of (vc_sound 30 _ h s Q hS hQ)
theorem RawLG.of {es : List PySem.Expr} {K : List Sh → Led → Prop} (h : vc d c 30 (.L l N es K)) : RawLG d c l N es K := fun pos i s Q hS hQ => wpG_of (vc_sound 30 _ h pos i s Q hS hQ)
theorem CallGM.any {a y : Addr} {shs : List Sh} (h : CallM d c l a y shs N K) : CallGM d c l a y shs N K := fun ts s Q hS hQ => wpG_of (h ts s Q hS hQ)
theorem RawLG.nil {K : List Sh → Led → Prop} (h : K [] N) : RawLG d c l N [] K := RawLG.of h
theorem RawLG.cons {e : PySem.Expr} {es : List PySem.Expr} {K : List Sh → Led → Prop} (h : RawEG d c l N e fun x N1 => RawLG d c l N1 es fun xs N2 => K (x :: xs) N2) (hp : autoParam (plainE e = true) name_B._auto_3) : RawLG d c l N (e :: es) K := fun pos i s Q hS hQ => by
 refine wpG_args_cons (h s _ hS ?_) (starEach_plain hp)
 rintro v x N1 s1 ⟨t, rfl⟩ h1 hS1
 refine h1 pos (i + 1) s1 _ hS1 fun ts shs N2 s2 h2 hS2 => ?_
 have := hQ (fun j => if j = i then t else ts j) (x :: shs) N2 s2 h2 hS2
 rw [show valsO (fun j => if j = i then t else ts j) i (x :: shs) = x.val t :: valsO ts (i + 1) shs by
  show x.val (if i = i then t else ts i) :: _ = _ :: _
  rw [if_pos rfl, valsO_congr (us := ts) shs (i + 1) fun j hj => if_neg (by lia)]] at this
 exact this
theorem RawEG.fn {x : Str} {p pos : Pos} {a : Addr} {e : PySem.Expr} {es : List PySem.Expr} (hf : FnAt d.w x a) (h : RawLG d c l N (e :: es) fun shs N1 => CallGS d c l a shs N1 K)
  (hx : autoParam ((cE d c).kindOf x = some .globalImplicit) name_B._auto_3) (hd : autoParam ((x == ("__debug__" : Str)) = false) ldc._auto_1) (hp : autoParam ((e :: es).all plainE = true) name_B._auto_3) (hplain : autoParam ((backTo pos (starEach es (cE d c))).any (·.1) = false) name_B._auto_3) (hgl : GlEnv (cE d c) := by exact ⟨rfl, rfl, rfl⟩)
  (hc : autoParam (eval (.Call (.Name x p) (e :: es) [] pos) (cE d c) = (do callWith pos (← eval (.Name x p) (cE d c)) [] (backTo pos (starEach (e :: es) (cE d c))) (backToKw pos (keywordEach [] (cE d c))))) name_B._auto_3) :
  RawEG d c l N (.Call (.Name x p) (e :: es) [] pos) K := fun s Q hS hQ => by
 obtain ⟨m, F, H⟩ := hS.fr
 have he1 : plainE e = true := by rw [List.all_cons, Bool.and_eq_true] at hp; exact hp.1
 refine wpG_Call (nameG hS hf.1 ?_ hx hd hgl) hc
 refine wpG_callKG hf.2 ?_ (starEach_plain he1) hplain
 exact h pos 0 s _ hS fun ts shs N1 s1 h1 hS1 => ⟨hS1.kin, h1 ts s1 Q hS1 hQ⟩
theorem RawEG.mself {A : TA} {T : TS} {root : Int} {x : Str} {o : PySem.Expr} {apos pos : Pos} {a : Addr} {e : PySem.Expr} {es : List PySem.Expr} (hf : MethAt d.w 585 x a)
  (h : vc d c 30 (.E l N o fun sh N1 => sh = .v (.ref A.self) ∧ TrO d.w c N1 A T root ∧ RawLG d c l N1 (e :: es) fun shs N2 => CallGM d c l a A.self shs N2 K)) (hl : autoParam (∀ rt, getL x (tdict A root rt) = some none) wpAny_For._auto_3)
  (hp : autoParam ((e :: es).all plainE = true) name_B._auto_3) (hplain : autoParam ((backTo pos (starEach es (cE d c))).any (·.1) = false) name_B._auto_3) {pl : Sem Bool}
  (hc : autoParam (eval (.Call (.Attribute o x apos) (e :: es) [] pos) (cE d c) = (do
   let ov ← eval o (cE d c)
   standAt apos.atName
   let (f, first) ← holding [ov] (getMethod ov x pl)
   callWith pos f first (backTo pos (starEach (e :: es) (cE d c))) (backToKw pos (keywordEach [] (cE d c))))) name_B._auto_3) :
  RawEG d c l N (.Call (.Attribute o x apos) (e :: es) [] pos) K := fun s Q hS hQ => by
 have he1 : plainE e = true := by rw [List.all_cons, Bool.and_eq_true] at hp; exact hp.1
 refine wpG_methodCall (pl := pl) (vc_sound 30 _ h s _ hS ?_) hc
 rintro v _ N1 s₁ ⟨t, rfl⟩ ⟨rfl, hT, h2⟩ h₁
 obtain ⟨g1, rt, g2⟩ := hT.self
 have i1 := g1.at h₁
 have i2 := g2.at h₁
 obtain ⟨m, F, H⟩ := h₁.fr
 refine method_inst F h₁.ok.X ⟨i1, rfl, rfl, i2⟩ hf.1 hf.2.1 hf.2.2.1 (hl rt) ?_
 refine wpG_callKG hf.2.2.2 ?_ (starEach_plain he1) hplain
 exact h2 pos 0 s₁ _ h₁ fun ts shs N2 s2 k hS2 => ⟨hS2.kin, k ts s2 Q hS2 hQ⟩
theorem CallM.write {A : TA} {a : Addr} {shs : List Sh} {lv' : Nat} {P O Z : Led} {R : Value → Led → Prop} (S : ∀ ts, Sp d.w a lv' (.ref A.self :: valsO ts 0 shs) P O R) (hf : Foot d c N P O Z lv')
  (h : ∀ v O', R v O' → (∀ p ∈ Z, ∀ q ∈ O', p.1 ≠ q.1) → ∃ sh N', (∃ t, v = sh.val t) ∧ K sh N' ∧ ∀ p ∈ N', p ∈ O' ++ Z) : CallM d c l a A.self shs N K := fun ts s Q hS hQ => call_ev (S ts) hf hS fun v N' s' ⟨O', r, e, ap⟩ hS' => by
 obtain ⟨sh, N'', hv, k, hsub⟩ := h v O' r ap
 subst e
 exact hQ v sh N'' s' hv k (hS'.sub (fun _ h => h) hsub)
theorem CallGM.write {A : TA} {a : Addr} {shs : List Sh} {lv' : Nat} {P O Z : Led} {R : Value → Led → Prop} (S : ∀ ts, SpG d.w a lv' (.ref A.self :: valsO ts 0 shs) P O R) (hf : Foot d c N P O Z lv')
  (h : ∀ v O', R v O' → (∀ p ∈ Z, ∀ q ∈ O', p.1 ≠ q.1) → ∃ sh N', (∃ t, v = sh.val t) ∧ K sh N' ∧ ∀ p ∈ N', p ∈ O' ++ Z) : CallGM d c l a A.self shs N K := fun ts s Q hS hQ => callG_ev (S ts) hf hS fun v N' s' ⟨O', r, e, ap⟩ hS' => by
 obtain ⟨sh, N'', hv, k, hsub⟩ := h v O' r ap
 subst e
 exact hQ v sh N'' s' hv k (hS'.sub (fun _ h => h) hsub)
theorem CallGS.of {a : Addr} {shs : List Sh} {lv' : Nat} {P O Z : Led} {R : Value → Led → Prop} (S : ∀ ts, SpG d.w a lv' (valsO ts 0 shs) P O R) (hf : Foot d c N P O Z lv')
  (h : ∀ v O', R v O' → (∀ p ∈ Z, ∀ q ∈ O', p.1 ≠ q.1) → ∃ sh N', (∃ t, v = sh.val t) ∧ K sh N' ∧ ∀ p ∈ N', p ∈ O' ++ Z) : CallGS d c l a shs N K := fun ts s Q hS hQ => callG_ev (S ts) hf hS fun v N' s' ⟨O', r, e, ap⟩ hS' => by
 obtain ⟨sh, N'', hv, k, hsub⟩ := h v O' r ap
 subst e
 exact hQ v sh N'' s' hv k (hS'.sub (fun _ h => h) hsub)
theorem WG.asgR {x : Str} {p pos : Pos} {e : PySem.Expr} {rest : List Stmt} {R : KS} (he : RawEG d c l N e fun sh N1 => WG d c (up x sh l) N1 rest R)
  (hx : autoParam ((cE d c).kindOf x = some .local) name_B._auto_3) (hs : autoParam (swapsWith e (some (.Name x p)) pos.line (cE d c) = pure false) name_B._auto_3) (ht : autoParam (d.top = true) name_B._auto_3) : WG d c l N (.Assign [.Name x p] e pos :: rest) R :=
 fun s hS => wpG_execs_cons (wpG_Assign_Name (he s _ hS fun v sh N1 s1 hv h1 hS1 => store9 hS1 hv hx ht fun s2 hS2 => h1 s2 hS2) hs)
theorem WG.retR {pos : Pos} {e : PySem.Expr} {rest : List Stmt} {R : KS} (he : RawEG d c l N e fun sh N1 => ∀ t, R (.ret (sh.val t)) l N1) : WG d c l N (.Return (some e) pos :: rest) R :=
 fun s hS => wpG_execs_cons (wpG_Return (he s _ hS (by rintro v sh N1 s1 ⟨t, rfl⟩ h1 hS1; exact ⟨l, N1, hS1, h1 t⟩)))
theorem WG.pre {α : Type} (pre : List Stmt) {rest : List Stmt} {R : KS} (lf : α → Fs) (nf : α → Led) (I : α → Prop) (h1 : Bk d c l N pre (Ct9 lf nf I)) (h2 : ∀ a, I a → WG d c (lf a) (nf a) rest R) : WG d c l N (pre ++ rest) R := fun s hS =>
 wpG_pre pre (wpAny_mono (h1 s hS) (fun fl s' hp => by
  obtain ⟨l', N', hS', ⟨hx, a, hI, hl, hn⟩⟩ := hp
  subst hx
  exact h2 a hI s' (hS'.sub hl hn)) fun _ _ x => x)
noncomputable def Nx (d : Df) (c : Cx) (rest : List Stmt) (R : KS) (fl : Flow) (l' : Fs) (N' : Led) : Prop := match fl with
 | .next => WG d c l' N' rest R
 | fl => R fl l' N'
theorem WG.one {st : Stmt} {rest : List Stmt} {R : KS} (h : Bk d c l N [st] (Nx d c rest R)) : WG d c l N (st :: rest) R := fun s hS =>
 wpG_pre [st] (wpAny_mono (h s hS) (fun fl s' hp => by
  obtain ⟨l', N', hS', r⟩ := hp
  cases fl with
  | next => exact r s' hS'
  | _ => exact ⟨l', N', hS', r⟩) fun _ _ x => x)
end
section
variable {prog : Program} {w : World} {A : Around} {E : Value → Shared → Prop} {s : Shared} {env : Env}
theorem wpG_Compare1 {l r : PySem.Expr} {op : CmpOp} {pos : Pos} {Q : Value → Shared → Prop}
  (h : wpG (model prog w) A (eval l env) (fun a s₁ => wpAny (model prog w) A (eval r env) (fun b s₂ => wpAny (model prog w) A (compareOp op a b) Q E s₂) E s₁) E s)
  (hm : autoParam (behindInMarks op r = false) sub_K._auto_1) :
  wpG (model prog w) A (eval (.Compare l [op] [r] pos) env) Q E s := fun Γ p hΓ g1 g2 => by
 simp only [eval_Compare1, markedBehindIn_of_false hm, Sem.wp_bind', Sem.wp_holding, Sem.wp_cmd_standAt, Sem.wp_operate]
 exact Sem.wp_mono _ Γ _ (fun a p₁ s₁ h₁ => Sem.wp_mono _ Γ _ (fun b _ s₂ h₂ => h₂ Γ _ hΓ) (fun _ _ _ h' => h') _ _ (h₁ Γ p₁ hΓ))
  (fun _ _ _ h' => h') _ _ (h Γ p hΓ g1 g2)
end
section
variable (d : Df) (c : Cx)
noncomputable def gE (l : Fs) (N : Led) (e : PySem.Expr) (K : KE) : Prop := match e with
 | .Call f as ks p => RawEG d c l N (.Call f as ks p) K
 | .Compare (.Call f as ks p) [op] [b] pos => condP (behindInMarks op b) (RawEG d c l N (.Compare (.Call f as ks p) [op] [b] pos) K)
   (RawEG d c l N (.Call f as ks p) fun x N1 => vc d c 30 (.E l N1 b fun y N2 => cmpK d c l op x y N2 (K (.v (.bool true))) (K (.v (.bool false)))))
 | e => vc d c 30 (.E l N e K)
noncomputable def vcG : Nat → Fs → Led → List Stmt → KS → Prop
 | 0, l, N, ss, R => WG d c l N ss R
 | n + 1, l, N, ss, R => match ss with
  | [] => R .next l N
  | .Assign [.Name x p] e pos :: rest => condP (d.top && (d.scope.names.lookup x == some .local && notComp e)) (gE d c l N e fun sh N1 => vcG n (up x sh l) N1 rest R) (WG d c l N (.Assign [.Name x p] e pos :: rest) R)
  | .Assign [.Subscript o i p] e pos :: rest => condP (notComp e) (gE d c l N e fun v N1 => vc d c 30 (.E l N1 o fun x N2 => vc d c 30 (.E l N2 i fun y N3 => SetIS d c l x y v N3 fun N4 => vcG n l N4 rest R))) (WG d c l N (.Assign [.Subscript o i p] e pos :: rest) R)
  | .Assign [.Attribute o a p] e pos :: rest => condP (notComp e) (gE d c l N e fun v N1 => vc d c 30 (.E l N1 o fun x N2 => SetAS d c l a x v N2 fun N3 => vcG n l N3 rest R)) (WG d c l N (.Assign [.Attribute o a p] e pos :: rest) R)
  | .Return (some e) _ :: _ => gE d c l N e fun sh N1 => ∀ t, R (.ret (sh.val t)) l N1
  | .Return none _ :: _ => R (.ret .none) l N
  | .Break _ :: _ => R .brk l N
  | .Continue _ :: _ => R .cont l N
  | .Expr e pos :: rest => condP (d.top && notComp e) (gE d c l N e fun _ N1 => vcG n l N1 rest R) (WG d c l N (.Expr e pos :: rest) R)
  | .If t b o _ :: rest => vc d c 30 (.T l N t
    (fun N1 => vcG n l N1 b fun fl l' N' => match fl with | .next => vcG n l' N' rest R | fl => R fl l' N')
    (fun N1 => vcG n l N1 o fun fl l' N' => match fl with | .next => vcG n l' N' rest R | fl => R fl l' N'))
  | ss => WG d c l N ss R
end
section
variable {d : Df} {c : Cx}
theorem gE_sound {l : Fs} {N : Led} {e : PySem.Expr} {K : KE} (h : gE d c l N e K) : RawEG d c l N e K := by
 cases e <;> try first | exact h | exact RawEG.of h
 case Compare a ops bs pos =>
  cases a <;> try exact RawEG.of h
  rename_i f as ks p
  rcases ops with _ | ⟨op, _ | ⟨op2, ops⟩⟩ <;> try exact RawEG.of h
  rcases bs with _ | ⟨b, _ | ⟨b2, bs⟩⟩ <;> try exact RawEG.of h
  refine condP.elim h (fun _ h => h) fun hm h s Q hS hQ => ?_
  refine wpG_Compare1 (h s _ hS ?_) hm
  rintro v x N1 s1 ⟨t, rfl⟩ h1 hS1
  refine vc_sound 30 _ h1 s1 _ hS1 ?_
  rintro v y N2 s2 ⟨u, rfl⟩ h2 hS2
  refine cmpK_sound h2 t u s2 _ hS2 fun b N' s' g1 g2 hS' => ?_
  cases b with
  | true => exact hQ.use (sh := .v (.bool true)) 0 (g1 rfl) hS'
  | false => exact hQ.use (sh := .v (.bool false)) 0 (g2 rfl) hS'
theorem WG.mono {l : Fs} {N : Led} {ss : List Stmt} {R R' : KS} (h : WG d c l N ss R) (hr : ∀ fl l' N', R fl l' N' → R' fl l' N') : WG d c l N ss R' := fun s hS => wpG_mono (h s hS) (fun fl s' p => p.mono (hr fl)) fun _ _ x => x
theorem vcG_sound : ∀ (n : Nat) {l : Fs} {N : Led} {ss : List Stmt} {R : KS}, vcG d c n l N ss R → WG d c l N ss R := by
 intro n
 induction n with
 | zero => intro l N ss R h; exact h
 | succ n ih =>
  intro l N ss R h
  have ite9 : ∀ {t : PySem.Expr} {b o rest : List Stmt} {pos : Pos} {R : KS}, RawT d c l N t
    (fun N1 => vcG d c n l N1 b fun fl l' N' => match fl with | .next => vcG d c n l' N' rest R | fl => R fl l' N')
    (fun N1 => vcG d c n l N1 o fun fl l' N' => match fl with | .next => vcG d c n l' N' rest R | fl => R fl l' N') → WG d c l N (.If t b o pos :: rest) R := by
   intro t b o rest pos R ht
   refine WG.cons fun s hS => wpG_If (wpG_of (ht s _ hS fun b' N' s' g1 g2 hS' => ?_))
   cases b' with
   | true => exact ((ih (g1 rfl)).mono fun fl l' N' r => by cases fl <;> first | exact ih r | exact r) s' hS'
   | false => exact ((ih (g2 rfl)).mono fun fl l' N' r => by cases fl <;> first | exact ih r | exact r) s' hS'
  cases ss with
  | nil => exact WG.of (Bk.nil h)
  | cons st rest =>
   cases st <;> try exact h
   case Return e pos =>
    cases e with
    | none => exact WG.of (Bk.ret0 h)
    | some e => exact WG.retR (gE_sound h)
   case Assign ts e pos =>
    rcases ts with _ | ⟨t, ts⟩
    ·exact h
    cases t <;> try exact h
    case cons.Name x p =>
     rcases ts with _ | ⟨t2, ts⟩
     rotate_left
     ·exact h
     refine condP.elim h (fun hx h => ?_) fun _ h => h
     rw [Bool.and_eq_true, Bool.and_eq_true, beq_iff_eq] at hx
     obtain ⟨ht, hx⟩ := hx
     exact fun s hS => wpG_execs_cons (wpG_Assign_Name (gE_sound h s _ hS fun v sh N1 s1 hv h1 hS1 => store9 hS1 hv (by rw [cE_top ht]; exact hx.1) ht fun s2 hS2 => ih h1 s2 hS2) (swaps_no hx.2))
    case cons.Subscript o i p =>
     rcases ts with _ | ⟨t2, ts⟩
     rotate_left
     ·exact h
     refine condP.elim h (fun hx h => ?_) fun _ h => h
     exact fun s hS => wpG_execs_cons (wpG_Assign_Subscript (gE_sound h s _ hS (by
      rintro _ v N1 s1 ⟨t1, rfl⟩ h1 hS1
      refine wpG_of (vc_sound 30 _ h1 s1 _ hS1 ?_)
      rintro _ x N2 s2 ⟨t2, rfl⟩ h2 hS2
      refine wpG_of (vc_sound 30 _ h2 s2 _ hS2 ?_)
      rintro _ y N3 s3 ⟨t3, rfl⟩ h3 hS3
      exact wpG_of (h3 t2 t3 t1 s3 _ hS3 fun N4 s4 h4 hS4 => ih h4 s4 hS4))) (swaps_no hx))
    case cons.Attribute o a p =>
     rcases ts with _ | ⟨t2, ts⟩
     rotate_left
     ·exact h
     refine condP.elim h (fun hx h => ?_) fun _ h => h
     exact fun s hS => wpG_execs_cons (wpG_Assign_Attribute (gE_sound h s _ hS (by
      rintro _ v N1 s1 ⟨t1, rfl⟩ h1 hS1
      refine vc_sound 30 _ h1 s1 _ hS1 ?_
      rintro _ x N2 s2 ⟨t2, rfl⟩ h2 hS2
      exact h2 t2 t1 s2 _ hS2 fun N4 s4 h4 hS4 => ih h4 s4 hS4)) (swaps_no hx))
   case Break pos => exact WG.of fun s hS => wpAny_execs_cons (wpAny_Break ⟨l, N, hS, h⟩)
   case Continue pos => exact WG.of fun s hS => wpAny_execs_cons (wpAny_Continue ⟨l, N, hS, h⟩)
   case If t b o pos => exact ite9 (vc_sound 30 _ h)
   case Expr e pos =>
    refine condP.elim h (fun hx h => ?_) fun _ h => h
    rw [Bool.and_eq_true] at hx
    obtain ⟨ht, hx⟩ := hx
    exact fun s hS => wpG_execs_cons (wpG_Expr (gE_sound h s _ hS fun v sh N1 s1 hv h1 hS1 => ih h1 s1 hS1) (by
      rw [cE_top ht]
      show (d.scope.kind == .module && _) = false
      rw [hS.ok.hk]; rfl) (swaps_no hx))
end
section
variable {d : Df} {c : Cx} {l : Fs} {N : Led} {K : KE}
noncomputable def MethB (d : Df) (c : Cx) (l : Fs) (N : Led) (y : Addr) (x : Str) (f : String) : Prop := ∀ (pl : Sem Bool) (s : Shared) (Q : Value × List Value → Shared → Prop), St d c l N s → Q (.builtin f, [.ref y]) s → wpAny (model PR d.w) (cA d c) (getMethod (.ref y) x pl) Q EF s
noncomputable def CallB (d : Df) (c : Cx) (l : Fs) (f : String) (vs : List Value) (shs : List Sh) (N : Led) (K : KE) : Prop := ∀ ts s Q, St d c l N s → Dn d c l K Q → wpAny (model PR d.w) (cA d c) (call (.builtin f) (vs ++ valsO ts 0 shs)) Q EF s
noncomputable def CallT (d : Df) (c : Cx) (l : Fs) (f : String) (shs : List Sh) (N : Led) (K : KE) : Prop := ∀ ts s Q, St d c l N s → Dn d c l K Q → wpAny (model PR d.w) (cA d c) (call (.type f) (valsO ts 0 shs)) Q EF s
theorem RawE.bmeth {x : Str} {o : PySem.Expr} {apos pos : Pos} {y : Addr} {f : String} {es : List PySem.Expr}
  (h : vc d c 30 (.E l N o fun sh N1 => sh = .v (.ref y) ∧ MethB d c l N1 y x f ∧ vc d c 30 (.L l N1 es fun shs N2 => CallB d c l f [.ref y] shs N2 K)))
  (hp : autoParam (es.all plainE = true) name_B._auto_3) (hplain : autoParam ((backTo pos (starEach es (cE d c))).any (·.1) = false) name_B._auto_3) {pl : Sem Bool}
  (hc : autoParam (eval (.Call (.Attribute o x apos) es [] pos) (cE d c) = (do
   let ov ← eval o (cE d c)
   standAt apos.atName
   let (f, first) ← holding [ov] (getMethod ov x pl)
   callWith pos f first (backTo pos (starEach es (cE d c))) [])) name_B._auto_3) :
  RawE d c l N (.Call (.Attribute o x apos) es [] pos) K := fun s Q hS hQ => by
 refine MethodCall_ (pl := pl) (vc_sound 30 _ h s _ hS ?_) hc
 rintro v _ N1 s₁ ⟨t, rfl⟩ ⟨rfl, hM, h2⟩ h₁
 refine hM pl s₁ _ h₁ ?_
 cases es with
 | nil =>
  refine callWith_method0 ?_
  have := (show CallB d c l f [.ref y] [] N1 K from h2) (fun _ => 0) s₁ Q h₁ hQ
  simpa [valsO] using this
 | cons e es =>
  have he1 : plainE e = true := by rw [List.all_cons, Bool.and_eq_true] at hp; exact hp.1
  refine callWith_method1 ?_ (starEach_plain he1) (by
   rw [starEach_plain he1] at hplain
   simpa [backTo] using hplain)
  exact vc_sound 30 _ h2 pos 0 s₁ _ h₁ fun ts shs N2 s2 k hS2 => k ts s2 Q hS2 hQ
noncomputable def BuiltAt (w : World) (x : Str) (v : Value) : Prop := nsIn (K9 w.params) mainGlobals x = some none ∧ bootBuiltins x = some v ∧ x ≠ "__name__"
theorem RawE.bfn {x : Str} {p pos : Pos} {f : String} {e : PySem.Expr} {es : List PySem.Expr} (hf : BuiltAt d.w x (.builtin f)) (h : vc d c 30 (.L l N (e :: es) fun shs N1 => CallB d c l f [] shs N1 K))
  (hx : autoParam ((cE d c).kindOf x = some .globalImplicit) name_B._auto_3) (hd : autoParam ((x == ("__debug__" : Str)) = false) ldc._auto_1) (hp : autoParam ((e :: es).all plainE = true) name_B._auto_3) (hplain : autoParam ((backTo pos (starEach es (cE d c))).any (·.1) = false) name_B._auto_3) (hgl : GlEnv (cE d c) := by exact ⟨rfl, rfl, rfl⟩)
  (hc : autoParam (eval (.Call (.Name x p) (e :: es) [] pos) (cE d c) = (do callWith pos (← eval (.Name x p) (cE d c)) [] (backTo pos (starEach (e :: es) (cE d c))) (backToKw pos (keywordEach [] (cE d c))))) name_B._auto_3) :
  RawE d c l N (.Call (.Name x p) (e :: es) [] pos) K := fun s Q hS hQ => by
 obtain ⟨m, F, H⟩ := hS.fr
 have he1 : plainE e = true := by rw [List.all_cons, Bool.and_eq_true] at hp; exact hp.1
 refine Call_ (nameB hS hf.1 hf.2.1 hf.2.2 ?_ hx hd hgl) hc
 refine callWith_method1 ?_ (starEach_plain he1) hplain
 exact vc_sound 30 _ h pos 0 s _ hS fun ts shs N1 s1 k hS1 => k ts s1 Q hS1 hQ
theorem RawE.tfn {x : Str} {p pos : Pos} {f : String} {e : PySem.Expr} {es : List PySem.Expr} (hf : BuiltAt d.w x (.type f)) (h : vc d c 30 (.L l N (e :: es) fun shs N1 => CallT d c l f shs N1 K))
  (hx : autoParam ((cE d c).kindOf x = some .globalImplicit) name_B._auto_3) (hd : autoParam ((x == ("__debug__" : Str)) = false) ldc._auto_1) (hp : autoParam ((e :: es).all plainE = true) name_B._auto_3) (hplain : autoParam ((backTo pos (starEach es (cE d c))).any (·.1) = false) name_B._auto_3) (hgl : GlEnv (cE d c) := by exact ⟨rfl, rfl, rfl⟩)
  (hc : autoParam (eval (.Call (.Name x p) (e :: es) [] pos) (cE d c) = (do callWith pos (← eval (.Name x p) (cE d c)) [] (backTo pos (starEach (e :: es) (cE d c))) (backToKw pos (keywordEach [] (cE d c))))) name_B._auto_3) :
  RawE d c l N (.Call (.Name x p) (e :: es) [] pos) K := fun s Q hS hQ => by
 obtain ⟨m, F, H⟩ := hS.fr
 have he1 : plainE e = true := by rw [List.all_cons, Bool.and_eq_true] at hp; exact hp.1
 refine Call_ (nameB hS hf.1 hf.2.1 hf.2.2 ?_ hx hd hgl) hc
 refine callWith_type1 ?_ (starEach_plain he1) hplain
 exact vc_sound 30 _ h pos 0 s _ hS fun ts shs N1 s1 k hS1 => k ts s1 Q hS1 hQ
end
section
variable {d : Df} {c : Cx} {l : Fs} {N : Led} {K : KE}
theorem OpS.shr {X I : Int} (x k : Nat) (hx : X = x) (hi : I = k) (h : K (.i ((x / 2 ^ k : Nat) : Int)) N) : OpS d c l .RShift (.i X) (.i I) N K := fun t u s Q hS hQ => by
 subst hx; subst hi
 refine rshift_int (Int.natCast_nonneg k) ?_
 rw [Int.toNat_natCast, fdiv_nat]
 exact hQ.use (sh := .i _) _ h (hS.tok _)
theorem OpS.shl {X I : Int} (x k : Nat) (hx : X = x) (hi : I = k) (hx2 : x < 2 ^ 64) (hk : k ≤ 1000000) (h : K (.i ((x * 2 ^ k : Nat) : Int)) N) : OpS d c l .LShift (.i X) (.i I) N K := fun t u s Q hS hQ => by
 subst hx; subst hi
 refine lshift_int_small (Int.natCast_nonneg k) (by lia) (by rw [Int.natAbs_natCast]; exact hx2) ?_
 rw [Int.toNat_natCast, pow_nat, ← Int.natCast_mul]
 exact hQ.use (sh := .i _) _ h (hS.tok _)
theorem OpS.and9 {X Y z : Int} (hz : Builtin.bitAnd X Y = z) (h : K (.i z) N) : OpS d c l .BitAnd (.i X) (.i Y) N K := fun t u s Q hS hQ => by
 refine and_int ?_
 rw [hz]
 exact hQ.use (sh := .i _) _ h (hS.tok _)
theorem OpS.xor (x y : Nat) (h : K (.i ((x ^^^ y : Nat) : Int)) N) : OpS d c l .BitXor (.i (x : Int)) (.i (y : Int)) N K := fun t u s Q hS hQ => by
 refine xor_int ?_
 rw [bitXor_nat]
 exact hQ.use (sh := .i _) _ h (hS.tok _)
theorem OpS.mod {X Y z : Int} (hy : Y ≠ 0) (hz : X.fmod Y = z) (h : K (.i z) N) : OpS d c l .Mod (.i X) (.i Y) N K := fun t u s Q hS hQ =>
 mod_int' hy (hQ.use (sh := .i _) _ (hz ▸ h) (hS.tok _))
theorem OpS.fdiv {X Y z : Int} (hy : 0 < Y ∧ Y ≤ 1000000) (hz : X.fdiv Y = z) (h : K (.i z) N) : OpS d c l .FloorDiv (.i X) (.i Y) N K := fun t u s Q hS hQ =>
 floordiv_int (by lia) (hQ.use (sh := .i _) _ (hz ▸ h) (hS.tok _)) (.inl (PyProof.noPylong_small (by lia)))
theorem OpS.pow {X I : Int} (k : Nat) (hi : I = k) (hX : X.natAbs < 2 ^ 64) (hk : k ≤ 1000000) (h : K (.i (X ^ k)) N) : OpS d c l .Pow (.i X) (.i I) N K := fun t u s Q hS hQ => by
 subst hi
 refine pow_int_small (Int.natCast_nonneg k) (by lia) hX ?_
 rw [Int.toNat_natCast]
 exact hQ.use (sh := .i _) _ h (hS.tok _)
theorem CallB.min {a b z : Int} (hz : (if b < a then b else a) = z) (h : K (.i z) N) : CallB d c l "min" [] [.i a, .i b] N K := fun ts s Q hS hQ => by
 obtain ⟨ok, ⟨hp, tk, rfl⟩, ⟨m, F, H⟩, hN⟩ := hS
 subst hz
 have go : ∀ {v : Value} (h' : Heap) (tk' : Nat) (u : Tok), (∀ c o, hp.get? c = some o → h'.get? c = some o) → v = .int (if b < a then b else a) u → Q v { c.s₀ with heap := h', toks := tk' } := fun h' tk' u hk e => by
  subst e
  exact hQ.use (sh := .i _) u h ⟨ok, ⟨_, _, rfl⟩, ⟨m, F.keeps hk, H⟩, fun p hp => ⟨hk _ _ (hN p hp).1, (hN p hp).2⟩⟩
 refine min_two_ints rfl fun h' tk' hk => ?_
 by_cases hlt : b < a
 ·rw [if_pos hlt]; exact go h' tk' _ hk (by rw [if_pos hlt])
 ·rw [if_neg hlt]; exact go h' tk' _ hk (by rw [if_neg hlt])
end
section
variable {d : Df} {c : Cx} {l : Fs} {N : Led} {K : KE}
theorem CallB.lenO {r : Addr} {vs : List Value} {n : Nat} {k : Int} (hm : OAt c N r (listOf vs.toArray n)) (hk : (vs.length : Int) = k) (hz : k ≤ 16384) (h : K (.i k) N) : CallB d c l "len" [] [.v (.ref r)] N K := fun ts s Q hS hQ =>
 kun_lenL (hm.isList hS) hk hz (hQ.use (sh := .i k) _ h (hS.tok _))
theorem CallT.bytes {r : Addr} {vs : List Value} {ns : List Int} {n : Nat} (N' : Led) (hm : (r, listOf vs.toArray n) ∈ N) (hi : IntsAre vs ns) (hr : ∀ n ∈ ns, 0 ≤ n ∧ n < 256) (hz : ns.length ≤ 1000) (hs : ∀ p ∈ N', p ∈ N) (h : K (.b (ns.map fun n => n.toNat.toUInt8).toArray) N') : CallT d c l "bytes" [.v (.ref r)] N K := fun ts s Q hS hQ => by
 obtain ⟨ok, ⟨hp, tk, rfl⟩, ⟨m, F, H⟩, hN⟩ := hS
 exact bytes_K9 F hN (News.isList hN hm) hi rfl hr hz fun h' t k F' N2 => hQ.use (sh := .b _) t h ⟨ok, ⟨_, _, rfl⟩, ⟨m, F', H⟩, fun p hp => N2 p (hs p hp)⟩
theorem CallT.bytesO {r : Addr} {vs : List Value} {ns : List Int} {n : Nat} (hm : OAt c N r (listOf vs.toArray n)) (hi : IntsAre vs ns) (hr : ∀ n ∈ ns, 0 ≤ n ∧ n < 256) (hz : ns.length ≤ 1000) (h : K (.b (ns.map fun n => n.toNat.toUInt8).toArray) N) : CallT d c l "bytes" [.v (.ref r)] N K := fun ts s Q hS hQ => by
 have hl := hm.isList hS
 obtain ⟨ok, ⟨hp, tk, rfl⟩, ⟨m, F, H⟩, hN⟩ := hS
 exact bytes_K9 F hN hl hi rfl hr hz fun h' t k F' N2 => hQ.use (sh := .b _) t h ⟨ok, ⟨_, _, rfl⟩, ⟨m, F', H⟩, N2⟩
theorem CallT.range1 {n : Int} (h : ∀ r t u v, (∀ p ∈ N, p.1 < r) → K (.v (.ref r)) ((r, rngO 0 n 1 t u v) :: N)) : CallT d c l "range" [.i n] N K := fun ts s Q hS hQ => by
 obtain ⟨ok, ⟨hp, tk, rfl⟩, ⟨m, F, H⟩, hN⟩ := hS
 refine call_range_1 (hQ.use (sh := .v (.ref _)) 0 (h _ _ _ _ fun p hp => Heap.lt_size (hN p hp).1) ⟨ok, ⟨_, _, rfl⟩, ⟨m, F.push _, H⟩, hN.push F _⟩)
noncomputable def partK (d : Df) (c : Cx) (l : Fs) (e : Option PySem.Expr) (N : Led) (k : Option Int → Led → Prop) : Prop := match e with
 | none => k none N
 | some e => vc d c 30 (.E l N e fun y N2 => ∃ i, y = .i i ∧ k (some i) N2)
theorem partK_sound {e : Option PySem.Expr} {k : Option Int → Led → Prop} (h : partK d c l e N k) {s : Shared} {Q : Value → Shared → Prop} (hS : St d c l N s) (hQ : ∀ v o N' s', IsPart v o → k o N' → St d c l N' s' → Q v s') : wpAny (model PR d.w) (cA d c) (evalPart e (cE d c)) Q EF s := by
 cases e with
 | none => exact wpAny_pure (hQ _ none N s .none h hS)
 | some e => exact vc_sound 30 _ h s _ hS (by rintro _ y N2 s2 ⟨t, rfl⟩ ⟨i, rfl, h2⟩ hS2; exact hQ _ (some i) N2 s2 (.int i t) h2 hS2)
noncomputable def SlcS (d : Df) (c : Cx) (l : Fs) (i : PySem.Expr) (lo hi : Option Int) (x : Sh) (N : Led) (K : KE) : Prop := ∀ t vl vu s Q, IsPart vl lo → IsPart vu hi → St d c l N s → Dn d c l K Q →
 wpAny (model PR d.w) (cA d c) (subscriptTail (.Name "_" ⟨0, 0, 0, 0⟩) i (x.val t) (.ref s.heap.objs.size)) Q EF { s with heap := s.heap.push { cls := .type "slice", data := .fields #[vl, vu, .none] } }
theorem RawE.slice {o : PySem.Expr} {lo hi : Option PySem.Expr} {p pos : Pos} (h : vc d c 30 (.E l N o fun x N1 => partK d c l lo N1 fun ml N2 => partK d c l hi N2 fun mu N3 => SlcS d c l (.Slice lo hi none p) ml mu x N3 K)) : RawE d c l N (.Subscript o (.Slice lo hi none p) pos) K := fun s Q hS hQ => by
 refine Subscript_ (vc_sound 30 _ h s _ hS ?_)
 rintro v x N1 s1 ⟨t, rfl⟩ h1 hS1
 refine wpAny_Slice (partK_sound h1 hS1 fun vl ml N2 s2 e1 h2 hS2 => partK_sound h2 hS2 fun vu mu N3 s3 e2 h3 hS3 => wpAny_pure ?_)
 exact kba_turn (value' := .Name "_" ⟨0, 0, 0, 0⟩) (fun _ => rfl) (h3 t vl vu s3 Q e1 e2 hS3 hQ)
theorem SlcS.strH {i : PySem.Expr} {x : Str} {j : Int} (hz : x.length ≤ 1000) (h : K (.s (Txt.slice x none (some j))) N)
  (hs : ∀ t r, subscripted i false (.str x t) (.ref r) = operate [.ref r, .str x t] (getItem (.str x t) (.ref r)) := by intro t r; with_unfolding_all rfl) : SlcS d c l i none (some j) (.s x) N K := fun t vl vu s Q e1 e2 hS hQ => by
 obtain ⟨ok, ⟨hp, tk, rfl⟩, ⟨m, F, H⟩, hN⟩ := hS
 cases e1; cases e2
 exact slice_strN_ns F hN (fun h' t' k F' N' => hQ.use (sh := .s _) t' h ⟨ok, ⟨_, _, rfl⟩, ⟨m, F', H⟩, N'⟩) (hs _ _) (fun _ => rfl) (by rw [sizeLine_eq]; lia)
theorem RawE.dict0 {pos : Pos} (h : ∀ r o, (∀ p ∈ N, p.1 < r) → (r == sysModules) = false → o.IsDictOf (strKind PR d.w) [] → K (.v (.ref r)) ((r, o) :: N)) : RawE d c l N (.Dict [] [] pos) K := fun s Q hS hQ => by
 obtain ⟨ok, ⟨hp, tk, rfl⟩, ⟨m, F, H⟩, hN⟩ := hS
 exact Dict_empty_made2 F hN (modules_low (Top.nolimit ok.T)) fun h' o F' N' lo hd _ _ _ _ => hQ.use (sh := .v (.ref _)) 0 (h _ o (fun p hp => Heap.lt_size (hN p hp).1) lo hd) ⟨ok, ⟨_, _, rfl⟩, ⟨m, F', H⟩, N'⟩
theorem CallB.lenB {b : Array UInt8} (hz : b.size ≤ 1000) (h : K (.i (b.size : Int)) N) : CallB d c l "len" [] [.b b] N K := fun ts s Q hS hQ =>
 len_bytes (by lia) (hQ.use (sh := .i _) _ h (hS.tok _))
theorem ItemS.bytes {ie : PySem.Expr} {x : List UInt8} {i k : Int} (hz : x.length ≤ 1000) (h0 : 0 ≤ i) (h1 : i < (x.length : Int)) (e : (((x.getD i.toNat 0).toNat : Nat) : Int) = k) (h : K (.i k) N)
  (hs : ∀ t u, subscripted ie false (.bytes x.toArray t) (.int i u) = operate [.bytes x.toArray t, .int i u] (getItem (.bytes x.toArray t) (.int i u)) := by intro t u; with_unfolding_all rfl) : ItemS d c l ie (.b x.toArray) (.i i) N K := fun t u s Q hS hQ =>
 bytes_item_K (by lia) h0 h1 e (hQ.use (sh := .i _) _ h (hS.tok _)) (hs t u) (fun _ => rfl)
theorem SlcS.bytes {i : PySem.Expr} {b b' : Array UInt8} {lo hi : Option Int} (hz : b.size ≤ 1000) (hb : KBy.picked b lo hi = b') (h : K (.b b') N)
  (hs : ∀ t r, subscripted i false (.bytes b t) (.ref r) = operate [.ref r, .bytes b t] (getItem (.bytes b t) (.ref r)) := by intro t r; with_unfolding_all rfl) : SlcS d c l i lo hi (.b b) N K := fun t vl vu s Q e1 e2 hS hQ => by
 obtain ⟨ok, ⟨hp, tk, rfl⟩, ⟨m, F, H⟩, hN⟩ := hS
 subst hb
 exact KBc.slice_K (ks := KBw.bInts _) F hN rfl e1 e2 (by rw [KBw.ints_length]; lia) (fun h' t' k F' N' _ => hQ.use (sh := .b _) t' h ⟨ok, ⟨_, _, rfl⟩, ⟨m, F', H⟩, N'⟩) (hs _ _) (fun _ => rfl)
theorem OpS.addB {x y : List UInt8} (hz : x.length + y.length ≤ 1000) (h : K (.b (x ++ y).toArray) N) : OpS d c l .Add (.b x.toArray) (.b y.toArray) N K := fun t u s Q hS hQ => by
 obtain ⟨ok, ⟨hp, tk, rfl⟩, hF, hN⟩ := hS
 exact bytes_add9 hz fun t' k => hQ.use (sh := .b _) t' h ⟨ok, ⟨_, _, rfl⟩, hF, hN⟩
end
theorem bBytes (w : World) : BuiltAt w "bytes" (.type "bytes") := by
 exact ⟨by k_is, by boot_by_name, by decide⟩
theorem bLen (w : World) : BuiltAt w "len" (.builtin "len") := by
 exact ⟨by k_is, by boot_by_name, by decide⟩
theorem bRange (w : World) : BuiltAt w "range" (.type "range") := by
 exact ⟨by k_is, by boot_by_name, by decide⟩
theorem bMin (w : World) : BuiltAt w "min" (.builtin "min") := by
 exact ⟨by k_is, by boot_by_name, by decide⟩
section
open LCg LCt
variable {prog : Program} {w : World} {A : Around} {E : Value → Shared → Prop} {s : Shared} {h₀ : Heap} {L : Addr} {m : Str → Option Value} {env : Env}
theorem comp_invT {ct elt : PySem.Expr} {x : Str} {scope : Scope} {cl : List (Str × Addr)} {S : Led → Prop} {P : Nat → Value → Prop} {Fin : List Value → Led → Prop} (n : Nat) (J : Nat → List Value → Led → Prop)
  (fin : ∀ ys news, J n ys news → Fin ys news)
  (turn : ∀ i ys news v I oI C oC D m₂ h tk (E' : Value → Shared → Prop), i < n → J i ys news → P i v → NsObj oC m₂ → m₂ x = some v → Fr h₀ L h m → News h₀ L h ((I, oI) :: (C, oC) :: (D, lst ys) :: news) → Off3 I C D news → ((@Ne Nat I C) ∧ (@Ne Nat I D) ∧ (@Ne Nat C D)) →
   wpAny (model prog w) A (isTrue ct (compEnvC scope cl C env) (eval ct (compEnvC scope cl C env))) (fun ok s' => if ok = true then
    wpAny (model prog w) A (eval elt (compEnvC scope cl C env)) (CompEnd h₀ L m { s with heap := h, toks := tk } I oI C oC D (lst ys) S (fun y nw => J (i + 1) (ys ++ [y]) nw)) E' s'
    else CompEnd h₀ L m { s with heap := h, toks := tk } I oI C oC D (lst ys) S (fun _ nw => J (i + 1) ys nw) Value.none s') E' { s with heap := h, toks := tk }) :
  ∀ k i ys news, i + k = n → J i ys news → CompRestT prog w A h₀ L m env ct elt x scope cl s S P Fin k i ys news := by
 intro k
 induction k with
 | zero => intro i ys news e hj; exact CompRestT.zero (fin ys news (by rw [← e]; exact hj))
 | succ k ih =>
  intro i ys news e hj
  refine CompRestT.succ fun v I oI C oC D m₂ h tk E' hP hC hx F N off ne => ?_
  refine wpAny_mono (turn i ys news v I oI C oC D m₂ h tk E' (by lia) hj hP hC hx F N off ne) (fun ok s' hy => ?_) fun _ _ e => e
  cases ok with
  | true =>
   simp only [if_true] at hy
   exact wpAny_mono hy (fun y s'' hz => compEnd_mono hz fun y nw hJ => ih (i + 1) (ys ++ [y]) nw (by lia) hJ) fun _ _ e => e
  | false =>
   simp only [Bool.false_eq_true, if_false] at hy
   exact compEnd_mono hy fun y nw hJ => ih (i + 1) ys nw (by lia) hJ
end
noncomputable def Df.cmp (d : Df) : Df := { d with top := false }
noncomputable def Cx.cmp (c : Cx) (e : Env) (m : Str → Option Value) : Cx := { c with ev := e, mf := m }
section
open LCg LCt
variable {d : Df} {c : Cx} {l : Fs} {N : Led} {K : KE}
theorem RawE.cvar {x : Str} {p : Pos} {C : Addr} {oC : Obj} {m₂ : Str → Option Value} {sh : Sh} {t : Tok} (hm : (C, oC) ∈ N) (hC : NsObj oC m₂) (hv : m₂ x = some (sh.val t)) (h : K sh N)
  (hl : autoParam ((cE d c).locals = C) name_B._auto_3) (hx : autoParam ((cE d c).kindOf x = some .local) name_B._auto_3) (hk : autoParam ((cE d c).scope.kind = .function) name_B._auto_3) (hd : autoParam ((x == ("__debug__" : Str)) = false) ldc._auto_1) : RawE d c l N (.Name x p) K := fun s Q hS hQ =>
 wpAny_Name (wpAny_loadName_local hk hx (by rw [hl]; exact hC.ns (hS.news _ hm).1) hv (hQ.use t h hS)) hd
theorem RawE.cell {x : Str} {p : Pos} {a : Addr} {o : Obj} {sh : Sh} {t : Tok} (hc : (cE d c).cells.lookup x = some a) (hm : (a, o) ∈ N) (ho : o.data = .cell (some (sh.val t))) (h : K sh N)
  (hx : autoParam ((cE d c).kindOf x = some .cell) name_B._auto_3) (hk : autoParam ((cE d c).scope.kind = .function) name_B._auto_3) (hd : autoParam ((x == ("__debug__" : Str)) = false) ldc._auto_1) : RawE d c l N (.Name x p) K := fun s Q hS hQ =>
 wpAny_Name (wpAny_loadName_cell hk hx hc ⟨o, (hS.news _ hm).1, ho⟩ (hQ.use t h hS)) hd
noncomputable def CompEl (S : Led → Prop) (J : List Value → Led → Prop) (I C D : Addr) (oI oC : Obj) (ys : List Value) (sy : Sh) (N2 : Led) : Prop := ∀ u, ∃ news', (∀ p ∈ (I, oI) :: (C, oC) :: (D, lst ys) :: news', p ∈ N2) ∧ Off3 I C D news' ∧ S news' ∧ J (ys ++ [sy.val u]) news'
noncomputable def CompNo (S : Led → Prop) (J : List Value → Led → Prop) (I C D : Addr) (oI oC : Obj) (ys : List Value) (N2 : Led) : Prop := ∃ news', (∀ p ∈ (I, oI) :: (C, oC) :: (D, lst ys) :: news', p ∈ N2) ∧ Off3 I C D news' ∧ S news' ∧ J ys news'
structure CompV (d : Df) (c : Cx) (l : Fs) (elt : PySem.Expr) (x : Str) (scope : Scope) (cl : List (Str × Addr)) (n : Nat) (P : Nat → Sh → Prop) (S : Led → Prop) (J : Nat → List Value → Led → Prop) (N1 news₀ : Led) (K : KE) : Prop where
 hn : ∀ p ∈ news₀, p ∈ N1
 h0 : J 0 [] news₀
 turn : ∀ I oI C oC D m₂ i ys news sh t m, i < n → P i sh → J i ys news → NsObj oC m₂ → m₂ x = some (sh.val t) → Off3 I C D news → ((@Ne Nat I C) ∧ (@Ne Nat I D) ∧ (@Ne Nat C D)) →
  RawE d.cmp (c.cmp (compEnvC scope cl C (cE d c)) m) l ((I, oI) :: (C, oC) :: (D, lst ys) :: news) elt (CompEl S (J (i + 1)) I C D oI oC ys)
 fin : ∀ ys news D, J n ys news → Off1 D news → K (.v (.ref D)) ((D, lst ys) :: news)
structure CompVT (d : Df) (c : Cx) (l : Fs) (ct elt : PySem.Expr) (x : Str) (scope : Scope) (cl : List (Str × Addr)) (n : Nat) (P : Nat → Sh → Prop) (S : Led → Prop) (J : Nat → List Value → Led → Prop) (N1 news₀ : Led) (K : KE) : Prop where
 hn : ∀ p ∈ news₀, p ∈ N1
 h0 : J 0 [] news₀
 turn : ∀ I oI C oC D m₂ i ys news sh t m, i < n → P i sh → J i ys news → NsObj oC m₂ → m₂ x = some (sh.val t) → Off3 I C D news → ((@Ne Nat I C) ∧ (@Ne Nat I D) ∧ (@Ne Nat C D)) →
  RawT d.cmp (c.cmp (compEnvC scope cl C (cE d c)) m) l ((I, oI) :: (C, oC) :: (D, lst ys) :: news) ct (fun N1 => RawE d.cmp (c.cmp (compEnvC scope cl C (cE d c)) m) l N1 elt (CompEl S (J (i + 1)) I C D oI oC ys)) (CompNo S (J (i + 1)) I C D oI oC ys)
 fin : ∀ ys news D, J n ys news → Off1 D news → K (.v (.ref D)) ((D, lst ys) :: news)
section
variable {ct elt : PySem.Expr} {x : Str} {scope : Scope} {cl : List (Str × Addr)} {n : Nat} {P : Nat → Sh → Prop} {P9 : Nat → Value → Prop} {S : Led → Prop} {J : Nat → List Value → Led → Prop} {N1 news₀ : Led} {Q : Value → Shared → Prop} {h₁ : Heap} {tk : Nat} {m : Str → Option Value}
theorem CompEl.out {h₀ : Heap} {L : Addr} {s₁ : Shared} {I C D : Addr} {oI oC : Obj} {ys : List Value} {rest : Value → Led → Prop} {J : List Value → Led → Prop} {h2 : Heap} {tk2 : Nat} {v : Value} {sy : Sh} {N2 : Led} (F : Fr h₀ L h2 m) (hN : News h₀ L h2 N2) (hv : ∃ t, v = sy.val t) (k : CompEl S J I C D oI oC ys sy N2) (hr : ∀ nw, J (ys ++ [v]) nw → rest v nw) : CompEnd h₀ L m s₁ I oI C oC D (lst ys) S rest v { s₁ with heap := h2, toks := tk2 } := by
 obtain ⟨t, rfl⟩ := hv
 obtain ⟨news', h1, h2, h3, h4⟩ := k t
 exact CompEnd.intro F hN news' h1 h2 h3 (hr _ h4)
theorem fin_of (ok : c.OK d.w d.lv d.scope) (H : HasM d c l m) (fin : ∀ ys news D, J n ys news → Off1 D news → K (.v (.ref D)) ((D, lst ys) :: news)) (hQ : Dn d c l K Q) {ys : List Value} {news : Led} {g : Heap} (h : J n ys news) : FinE c.g c.L m { c.s₀ with heap := g, toks := tk } Q ys news := fun D h2 tk2 F hN ho =>
 hQ.use (sh := .v (.ref D)) 0 (fin ys news D h ho) ⟨ok, ⟨_, _, rfl⟩, ⟨m, F, H⟩, hN⟩
theorem compRest_of (ok : c.OK d.w d.lv d.scope) (f : CompV d c l elt x scope cl n P S J N1 news₀ K) (hQ : Dn d c l K Q) (hH : HasM d c l m) (hP : ∀ i v, P9 i v → ∃ sh t, v = sh.val t ∧ P i sh) :
  CompRest PR d.w (cA d c) c.g c.L m (cE d c) elt x scope cl { c.s₀ with heap := h₁, toks := tk } S P9 (FinE c.g c.L m { c.s₀ with heap := h₁, toks := tk } Q) n 0 [] news₀ := by
 refine comp_inv (s := { c.s₀ with heap := h₁, toks := tk }) n J (fun ys news h => fin_of ok hH f.fin hQ h) ?_ n 0 [] news₀ (Nat.zero_add n) f.h0
 rintro i ys news v I oI C oC D m₂ h9 tk9 E' hi hJ hPv hC hx F hN off ne
 obtain ⟨sh, t, rfl, hPi⟩ := hP i v hPv
 refine wpAny_mono (f.turn I oI C oC D m₂ i ys news sh t m hi hPi hJ hC hx off ne { c.s₀ with heap := h9, toks := tk9 } (CompEnd c.g c.L m { c.s₀ with heap := h9, toks := tk9 } I oI C oC D (lst ys) S (Turn1 (J (i + 1)) ys)) ⟨⟨ok.B, ok.X, ok.T, ok.hd, ok.hu, ok.hk⟩, ⟨_, _, rfl⟩, ⟨m, F, hH.has, fun _ => rfl⟩, hN⟩ ?_) (fun _ _ h => h) fun _ _ e => (show False from e).elim
 rintro v9 sy N2 s2 hv k ⟨_, ⟨h2, tk2, rfl⟩, ⟨m9, F2, H2⟩, hN2⟩
 obtain rfl : m9 = m := H2.fix rfl
 exact k.out F2 hN2 hv fun nw h => h
theorem compRestT_of (ok : c.OK d.w d.lv d.scope) (f : CompVT d c l ct elt x scope cl n P S J N1 news₀ K) (hQ : Dn d c l K Q) (hH : HasM d c l m) (hP : ∀ i v, P9 i v → ∃ sh t, v = sh.val t ∧ P i sh) :
  CompRestT PR d.w (cA d c) c.g c.L m (cE d c) ct elt x scope cl { c.s₀ with heap := h₁, toks := tk } S P9 (FinE c.g c.L m { c.s₀ with heap := h₁, toks := tk } Q) n 0 [] news₀ := by
 refine comp_invT (s := { c.s₀ with heap := h₁, toks := tk }) n J (fun ys news h => fin_of ok hH f.fin hQ h) ?_ n 0 [] news₀ (Nat.zero_add n) f.h0
 rintro i ys news v I oI C oC D m₂ h9 tk9 E' hi hJ hPv hC hx F hN off ne
 obtain ⟨sh, t, rfl, hPi⟩ := hP i v hPv
 refine wpAny_mono (f.turn I oI C oC D m₂ i ys news sh t m hi hPi hJ hC hx off ne { c.s₀ with heap := h9, toks := tk9 } _ ⟨⟨ok.B, ok.X, ok.T, ok.hd, ok.hu, ok.hk⟩, ⟨_, _, rfl⟩, ⟨m, F, hH.has, fun _ => rfl⟩, hN⟩ ?_) (fun _ _ h => h) fun _ _ e => (show False from e).elim
 rintro b N2 s2 hT hF hS2
 cases b with
 | true =>
  refine wpAny_mono (hT rfl s2 (CompEnd c.g c.L m { c.s₀ with heap := h9, toks := tk9 } I oI C oC D (lst ys) S fun y nw => J (i + 1) (ys ++ [y]) nw) hS2 ?_) (fun _ _ h => h) fun _ _ e => (show False from e).elim
  rintro v9 sy N3 s3 hv k ⟨_, ⟨h2, tk2, rfl⟩, ⟨m9, F2, H2⟩, hN2⟩
  obtain rfl : m9 = m := H2.fix rfl
  exact k.out F2 hN2 hv fun nw h => h
 | false =>
  obtain ⟨_, ⟨h2, tk2, rfl⟩, ⟨m9, F2, H2⟩, hN2⟩ := hS2
  obtain rfl : m9 = m := H2.fix rfl
  obtain ⟨news', h1, h2, h3, h4⟩ := hF rfl
  exact CompEnd.intro (rest := fun _ nw => J (i + 1) ys nw) (y := .none) F2 hN2 news' h1 h2 h3 h4
end
noncomputable def IterOK (d : Df) (c : Cx) (s1 : Shared) (v : Value) (n : Nat) (P9 : Nat → Value → Prop) (S : Led → Prop) : Prop := ∃ (o : Obj) (fp : List Addr) (St9 : Nat → Heap → Prop), Walks PR d.w (cA d c) s1.heap.objs.size fp [s1.heap.objs.size] n P9 St9 ∧ (∀ i h, St9 i h → ∃ o, h.get? s1.heap.objs.size = some o) ∧
 (∀ i h h' o nw, St9 i h → h.get? s1.heap.objs.size = some o → h'.get? s1.heap.objs.size = some o → (∀ b o, c.g.get? b = some o → h'.get? b = some o) → News c.g c.L h' nw → S nw → St9 i h') ∧ St9 0 (s1.heap.push o) ∧ (∀ b ∈ fp, b < (s1.heap.push o).objs.size) ∧
 ∀ Q : Value → Shared → Prop, Q (.ref s1.heap.objs.size) { s1 with heap := s1.heap.push o } → wpAny (model PR d.w) (cA d c) (pyIter v) Q EF s1
structure SrcC (d : Df) (c : Cx) (l : Fs) (N1 : Led) (sh : Sh) (n : Nat) (P : Nat → Sh → Prop) (S : Led → Prop) (news₀ : Led) : Prop where
 sz : n ≤ 1000
 hS : S news₀
 ok : ∀ s1 t, St d c l N1 s1 → ∃ P9 : Nat → Value → Prop, (∀ i v, P9 i v → ∃ sh t, v = sh.val t ∧ P i sh) ∧ IterOK d c s1 (sh.val t) n P9 S
theorem SrcC.bytes {b : Array UInt8} {news₀ : Led} (hz : b.size ≤ 1000) : SrcC d c l N (.b b) b.size (fun i sh => ∃ y, b[i]? = some y ∧ sh = .i (y.toNat : Int)) (fun _ => True) news₀ :=
 ⟨hz, trivial, fun s1 t hS => ⟨_, fun i v ⟨y, u, hy, hv⟩ => ⟨.i (y.toNat : Int), u, hv, y, hy, rfl⟩, _, _, _, KBw.walks rfl s1.heap.objs.size b t, fun i h st => by obtain ⟨o, e, _⟩ := st; exact ⟨o, e⟩, fun i h h' o nw st e e' _ _ _ => by
   obtain ⟨o', q, r⟩ := st; rw [e] at q; cases q; exact ⟨o, e', r⟩, ⟨_, Heap.get?_push_size _ rfl, rfl, rfl⟩, fun b hb => by
   rw [List.mem_singleton.mp hb, Heap.size_push]; exact Nat.lt_succ_self _, fun Q h => KBw.pyIter_bytes h⟩⟩
theorem SrcC.range {r : Addr} {a b : Int} {n : Nat} {t u v : Tok} {news₀ : Led} (hm : (r, rngO a b 1 t u v) ∈ N) (hsm : Builtin.Range.small a b 1 = true) (hn : Builtin.Range.rangeSize a b 1 = ((n : Nat) : Int)) (hz : n ≤ 1000) : SrcC d c l N (.v (.ref r)) n (fun i sh => sh = .i (a + i)) (fun _ => True) news₀ :=
 ⟨hz, trivial, fun s1 _ hS => ⟨_, fun i v ⟨t, hv⟩ => ⟨.i (a + i), t, hv, rfl⟩, _, _, _, range_walks rfl a n, fun i h st => ⟨_, st⟩, range_st, by show IsRangeIter _ _ _ _ _; rw [hn]; simpa using Heap.get?_push_size _ rfl, fun b hb => by
   rw [List.mem_singleton.mp hb, Heap.size_push]; exact Nat.lt_succ_self _, fun Q h => wpAny_pyIter_range (hS.news _ hm).1 hsm h⟩⟩
theorem SrcC.list {r : Addr} {its : List Value} {k : Nat} {news₀ : Led} (hm : (r, listOf its.toArray k) ∈ news₀) (hn : ∀ p ∈ news₀, p ∈ N) (hz : its.length ≤ 1000) : SrcC d c l N (.v (.ref r)) its.length (fun i sh => ∃ v, its[i]? = some v ∧ sh = Sh.of v) (SrcAt c.g r its.toArray) news₀ :=
 ⟨hz, .inr ⟨_, hm, rfl, _, rfl⟩, fun s1 _ hS => by
  have hl : s1.heap.IsList r its.toArray := News.isList hS.news (hn _ hm)
  have hlt : r < s1.heap.objs.size := Heap.lt_size (hS.news _ (hn _ hm)).1
  refine ⟨fun i v => its.toArray[i]? = some v, fun i v hv => ?_, _, _, _, Walks.list rfl s1.heap.objs.size r (Nat.ne_of_lt hlt) its.toArray, fun i h st => by obtain ⟨o, e, _⟩ := st.1; exact ⟨o, e⟩, list_st, ⟨⟨_, Heap.get?_push_size _ rfl, rfl, rfl⟩, hl.push _⟩, fun b hb => ?_, fun Q h => wpAny_pyIter_list hl h⟩
  ·obtain ⟨t, h⟩ := Sh.of_val v
   exact ⟨Sh.of v, t, h, v, by simpa using hv, rfl⟩
  ·rw [Heap.size_push]
   rcases List.mem_cons.mp hb with rfl | hb
   ·exact Nat.lt_succ_self _
   ·rw [List.mem_singleton.mp hb]; exact Nat.lt_succ_of_lt hlt⟩
section
variable {ct elt iter : PySem.Expr} {x : Str} {px pos : Pos} {scope : Scope} {cl : List (Str × Addr)}
theorem RawE.comp {S : Led → Prop} (n : Nat) (P : Nat → Sh → Prop) (J : Nat → List Value → Led → Prop) (news₀ : Led) (h : vc d c 30 (.E l N iter fun sh N1 => SrcC d c l N1 sh n P S news₀ ∧ CompV d c l elt x scope cl n P S J N1 news₀ K))
  (hclos : closureFor scope (cE d c) = pure cl) (hcell : autoParam (∀ y ∈ scope.names, y.2 ≠ .cell) ldc._auto_1) (hkind : autoParam (scope.kind = .function) name_B._auto_3) (hnames : autoParam (∀ y ∈ scope.names, y.2 = .local → scope.names.lookup y.1 = some .local) ldc._auto_1) (hx : autoParam (scope.names.lookup x = some .local) name_B._auto_3) (hs : autoParam (∀ x, foldedSetIterable iter (cE d c) x = pure x) wpAny_For._auto_3) :
  RawE d c l N (.ListComp elt [⟨.Name x px, iter, [], 0⟩] scope pos) K := fun s Q hS hQ => by
 rw [eval_ListComp]
 refine wpAny_comprehension_free (use := none) rfl hs hclos hkind hnames (vc_sound 30 _ h s _ hS ?_)
 rintro _ sh N1 s1 ⟨t, rfl⟩ ⟨src, f⟩ hS1
 obtain ⟨P9, hP, o, fp, St9, W, h1, h2, h3, h4, hit⟩ := src.ok s1 t hS1
 have hsz := src.sz
 obtain ⟨ok, ⟨hp, tk, rfl⟩, ⟨m, F, H⟩, hN⟩ := hS1
 refine hit _ ?_
 refine block_U W (by rw [sizeLine_eq]; lia) h1 h2 hcell hkind hx h3 h4 (F.keeps fun _ _ e => Heap.get?_push_of_some _ e) (News.grown (fun p hp => hN p (f.hn p hp)) fun _ _ e => Heap.get?_push_of_some _ e) (Nat.ne_of_lt F.ns.lt) (next_is_new F) (fun p hp => Nat.ne_of_lt (Heap.lt_size (hN p (f.hn p hp)).1)) src.hS (compRest_of ok f hQ H hP) ?_
 intro D C h tk m' ys news' F' N' o1 hn hC₀ hD₀ hCL hDL hCD offC fin
 refine ⟨m', hn, fun h'' hs'' => fin D h'' tk (F'.change hs'' hCL hC₀) (fun p hp => ?_) o1⟩
 refine ⟨hs''.extBut _ _ ?_ (N' p hp).1, (N' p hp).2⟩
 rcases List.mem_cons.mp hp with rfl | hp
 ·exact Ne.symm hCD
 ·exact offC p hp
inductive CompsT (d : Df) (c : Cx) (l : Fs) (ct elt : PySem.Expr) (x : Str) (scope : Scope) (cl : List (Str × Addr)) (N1 : Led) (K : KE) (sh : Sh) : Prop
 | mk (S : Led → Prop) (n : Nat) (P : Nat → Sh → Prop) (J : Nat → List Value → Led → Prop) (news₀ : Led) (src : SrcC d c l N1 sh n P S news₀) (f : CompVT d c l ct elt x scope cl n P S J N1 news₀ K)
theorem RawE.compT (h : vc d c 30 (.E l N iter fun sh N1 => CompsT d c l ct elt x scope cl N1 K sh))
  (hclos : closureFor scope (cE d c) = pure cl) (hcell : autoParam (∀ y ∈ scope.names, y.2 ≠ .cell) ldc._auto_1) (hkind : autoParam (scope.kind = .function) name_B._auto_3) (hnames : autoParam (∀ y ∈ scope.names, y.2 = .local → scope.names.lookup y.1 = some .local) ldc._auto_1) (hx : autoParam (scope.names.lookup x = some .local) name_B._auto_3) (hs : autoParam (∀ x, foldedSetIterable iter (cE d c) x = pure x) wpAny_For._auto_3) :
  RawE d c l N (.ListComp elt [⟨.Name x px, iter, [ct], 0⟩] scope pos) K := fun s Q hS hQ => by
 rw [eval_ListComp]
 refine wpAny_comprehension_free (use := none) rfl hs hclos hkind hnames (vc_sound 30 _ h s _ hS ?_)
 rintro _ sh N1 s1 ⟨t, rfl⟩ ⟨S, n, P, J, news₀, src, f⟩ hS1
 obtain ⟨P9, hP, o, fp, St9, W, h1, h2, h3, h4, hit⟩ := src.ok s1 t hS1
 have hsz := src.sz
 obtain ⟨ok, ⟨hp, tk, rfl⟩, ⟨m, F, H⟩, hN⟩ := hS1
 refine hit _ ?_
 refine block_T W (by rw [sizeLine_eq]; lia) h1 h2 hcell hkind hx h3 h4 (F.keeps fun _ _ e => Heap.get?_push_of_some _ e) (News.grown (fun p hp => hN p (f.hn p hp)) fun _ _ e => Heap.get?_push_of_some _ e) (Nat.ne_of_lt F.ns.lt) (next_is_new F) (fun p hp => Nat.ne_of_lt (Heap.lt_size (hN p (f.hn p hp)).1)) src.hS (compRestT_of ok f hQ H hP) ?_
 intro D C h tk m' ys news' F' N' o1 hn hC₀ hD₀ hCL hDL hCD offC fin
 refine ⟨m', hn, fun h'' hs'' => fin D h'' tk (F'.change hs'' hCL hC₀) (fun p hp => ?_) o1⟩
 refine ⟨hs''.extBut _ _ ?_ (N' p hp).1, (N' p hp).2⟩
 rcases List.mem_cons.mp hp with rfl | hp
 ·exact Ne.symm hCD
 ·exact offC p hp
end
end
section
variable {w : World} {f : Addr} {lv : Nat} {vs : List Value} {P O : Led} {R : Value → Led → Prop}
  {name qual : Str} {params : Arguments} {body : List Stmt} {scope : Scope} {dV kV doc pm cdv ct oc : Value} {an od : Option Addr} {osl : Array (Option Value)} {binds : List (Str × Value)}
noncomputable def EntC (d : Df) (binds : List (Str × Value)) (l : Fs) (P O : Led) (R : Value → Led → Prop) (body : List Stmt) (c : Cx) (R' : Value → Led → Prop) (cells : Led) : Prop :=
 c.cl = cellsFrom (c.L + 1) d.scope.names [] → CellsAre (bindC (envOfC d.qual d.scope c.L d.f d.cdv).kindOf binds fun _ => none) (cellsFrom (c.L + 1) d.scope.names []) cells →
 (∀ p ∈ O, p.1 < c.L) → (∀ p ∈ P, c.g.get? p.1 = some p.2) → (∀ v O', R v O' → R' v O') → Bk d c l (cells ++ O) body (RF R')
theorem Sp.of_WC (l : Fs)
  (ho : (K9 w.params).lookup f = some ⟨oc, od, .func (fnOf name qual params body scope dV kV doc pm an cdv ct), osl⟩)
  (hcd : codeIn (K9 w.params) cdv qual = true)
  (hbind : ∀ s : Shared, (K9 w.params).In s.heap → BindsTo s (fnOf name qual params body scope dV kV doc pm an cdv ct) ⟨vs, []⟩ binds)
  (hkind : (binds.all fun y => scope.names.lookup y.1 == some .local || scope.names.lookup y.1 == some .cell) = true)
  (hnd : ((cellsFrom 0 scope.names []).map (·.1)).Nodup)
  (hco : scope.isCoroutine = false) (hgen : scope.isGenerator = false) (hk : scope.kind = .function)
  (hl : ∀ L', Has (bindL (envOfC qual scope L' f cdv).kindOf binds fun _ => none) l)
  (h : ∀ (c : Cx) (R' : Value → Led → Prop) (cells : Led), EntC ⟨w, lv, qual, scope, f, cdv, true⟩ binds l P O R body c R' cells) : Sp w f (lv + 1) vs P O R :=
 Sp.of_bodyC ho hcd hbind hkind hnd hco hgen hk fun dp un outer A₀ base g L' h₁ s mean mg mb cells B F X N Y T l0 hP hdp hun hs => by
  subst hs
  refine wpAny_mono (h ⟨dp, un, outer, A₀, base, g, L', s, mean, mg, mb, cellsFrom (L' + 1) scope.names [], envX qual scope L' f cdv [], fun _ => none⟩ R cells rfl Y l0 hP (fun _ _ r => r) s ⟨⟨B, X, T, hdp, hun, hk⟩, ⟨s.heap, s.toks, rfl⟩, ⟨_, F, hl L', fun h => nomatch h⟩, N⟩) (fun fl s' hp => ?_) fun _ _ x => x
  obtain ⟨l', N', ⟨_, ⟨h', tk', rfl⟩, ⟨m', F', _⟩, hN'⟩, r⟩ := hp
  exact ⟨m', N', h', tk', rfl, F', hN', r⟩
theorem ne_Led9 : Nonempty Led := ⟨[]⟩
noncomputable def EntTC (d : Df) (binds : List (Str × Value)) (l : Fs) (P O : Led) (R : Value → Led → Prop) (body : List Stmt) (v : Cx × (Value → Led → Prop) × Led) : Prop := EntC d binds l P O R body v.1 v.2.1 v.2.2
noncomputable def cwC (d : Df) (binds : List (Str × Value)) (l : Fs) (P O : Led) (R : Value → Led → Prop) (body : List Stmt) : Cx × (Value → Led → Prop) × Led := ep (ne_P ne_Cx9 (ne_P ne_R9 ne_Led9)) (EntTC d binds l P O R body)
theorem entC_all {d : Df} {binds : List (Str × Value)} {l : Fs} {P O : Led} {R : Value → Led → Prop} {body : List Stmt} (h : EntC d binds l P O R body (cwC d binds l P O R body).1 (cwC d binds l P O R body).2.1 (cwC d binds l P O R body).2.2) : ∀ (c : Cx) (R' : Value → Led → Prop) (cells : Led), EntC d binds l P O R body c R' cells :=
 fun c R' cells => eps1 (P := EntTC d binds l P O R body) (ne_P ne_Cx9 (ne_P ne_R9 ne_Led9)) h (c, R', cells)
end
theorem clip4 (n : Nat) : clipAt n 4 = min 4 n := clipAt_nat n 4
theorem picked_from4 (a b c e : UInt8) (d : List UInt8) : KBy.picked (a :: b :: c :: e :: d).toArray (some 4) none = d.toArray := by
 rw [KBc.picked_eq]
 simp only [Option.elim, clip4, List.size_toArray, List.length_cons]
 rw [Nat.min_eq_left (by lia)]
 simp
theorem picked_to4 (a b c e : UInt8) (d : List UInt8) : KBy.picked (a :: b :: c :: e :: d).toArray none (some 4) = [a, b, c, e].toArray := by
 rw [KBc.picked_eq]
 simp only [Option.elim, clip4, List.size_toArray, List.length_cons]
 rw [Nat.min_eq_left (by lia)]
 simp
theorem fnA (w : World) : FnAt w "bit_count" 68 ∧ FnAt w "from_little" 80 ∧ FnAt w "little" 73 ∧ FnAt w "shared_length" 339 ∧ FnAt w "cut_bits" 325 ∧ FnAt w "make_key" 311 := by
 refine ⟨⟨?_, ?_⟩, ⟨?_, ?_⟩, ⟨?_, ?_⟩, ⟨?_, ?_⟩, ⟨?_, ?_⟩, ⟨?_, ?_⟩⟩ <;> k_is
noncomputable def GlAt (w : World) (x : Str) (v : Value) : Prop := nsIn (K9 w.params) mainGlobals x = some (some v)
theorem RawE.glob {d : Df} {c : Cx} {l : Fs} {N : Led} {K : KE} {x : Str} {p : Pos} {v : Value} {sh : Sh} (hf : GlAt d.w x v) (hs : ∃ t, v = sh.val t) (h : K sh N) (hx : autoParam ((cE d c).kindOf x = some .globalImplicit) name_B._auto_3) (hd : autoParam ((x == ("__debug__" : Str)) = false) ldc._auto_1) (hgl : GlEnv (cE d c) := by exact ⟨rfl, rfl, rfl⟩) :
  RawE d c l N (.Name x p) K := fun s Q hS hQ => by
 obtain ⟨t, rfl⟩ := hs
 exact nameG hS hf (hQ.use t h hS) hx hd hgl
theorem glLW (w : World) : GlAt w "LENGTH_WIDTH" (.int 4 577) := by
 show nsIn _ _ _ = _
 k_is
theorem RawE.LW {d : Df} {c : Cx} {l : Fs} {N : Led} {K : KE} {p : Pos} (h : K (.i 4) N) (hx : autoParam ((cE d c).kindOf "LENGTH_WIDTH" = some .globalImplicit) name_B._auto_3) (hgl : GlEnv (cE d c) := by exact ⟨rfl, rfl, rfl⟩) : RawE d c l N (.Name "LENGTH_WIDTH" p) K := by
 exact RawE.glob (sh := .i 4) (glLW d.w) ⟨577, rfl⟩ h hx (hgl := hgl)
section
variable {d : Df} {c : Cx} {l : Fs} {N : Led} {K : KE}
theorem CallS.pureK {a : Addr} {shs : List Sh} {lv' : Nat} {sh : Sh} (hlv : lv' ≤ d.lv) (S : ∀ ts, Sp d.w a lv' (valsO ts 0 shs) [] [] (fun v O' => O' = [] ∧ ∃ t, v = sh.val t)) (h : K sh N) : CallS d c l a shs N K :=
 CallS.of N S ⟨fun _ h => absurd h List.not_mem_nil, fun _ h => absurd h List.not_mem_nil, fun _ h => absurd h List.not_mem_nil, fun _ h => h, fun _ h => absurd h List.not_mem_nil, hlv⟩ fun v O' ⟨e1, ev⟩ _ => ⟨sh, N, ev, h, by rw [e1]; exact fun _ h => h⟩
end
noncomputable def St_sp_cut_bits (w : World) (x l n : Nat) (t1 t2 t3 : Tok) : Prop := ∀ (h' : l ≤ n) (h2 : n ≤ 64) (hx : x < 2 ^ 64), Sp w 325 1 [.int x t1, .int l t2, .int n t3] [] [] (fun v O' => O' = [] ∧ ∃ t, v = .int (cutB x l n : Int) t)
theorem sp_cut_bits : A7 St_sp_cut_bits := by
 refine' ey7 (ne_P ne_W (ne_P ne_N (ne_P ne_N (ne_P ne_N (ne_P ne_N (ne_P ne_N ne_N)))))) ((?f9 : A7 St_sp_cut_bits) _ _ _ _ _ _ _)
 intro w x l n t1 t2 t3 h' h2 hx
 refine' Sp.of_W [("size", .i n), ("length", .i l), ("worth", .i x)] ?ho ?hcd ?hbind ?hloc ?hco ?hgen ?hk ?hcell ?hl ?_
 walk_at "ds prem0"
 case hl => exact rfl
 refine' ent_all ((?f8 : ∀ c R', Ent _ _ _ _ _ _ c R') _ _); intro k R' l0 hP hR
 refine vcS_sound 10 (OpS.shr x (n - l) rfl (by lia) (OpS.shl _ (n - l) rfl (by lia) (Nat.lt_of_le_of_lt (Nat.div_le_self _ _) hx) (by lia) fun t => ?_))
 exact hR _ _ ⟨rfl, t, rfl⟩
noncomputable def St_sp_bit_from_top (w : World) (x l n : Nat) (t1 t2 t3 : Tok) : Prop := ∀ (h' : l + 1 ≤ n), Sp w 332 1 [.int x t1, .int l t2, .int n t3] [] [] (fun v O' => O' = [] ∧ ∃ t, v = .int (bitTop x l n : Int) t)
theorem sp_bit_from_top : A7 St_sp_bit_from_top := by
 refine' ey7 (ne_P ne_W (ne_P ne_N (ne_P ne_N (ne_P ne_N (ne_P ne_N (ne_P ne_N ne_N)))))) ((?f9 : A7 St_sp_bit_from_top) _ _ _ _ _ _ _)
 intro w x l n t1 t2 t3 h'
 refine' Sp.of_W [("size", .i n), ("place", .i l), ("worth", .i x)] ?ho ?hcd ?hbind ?hloc ?hco ?hgen ?hk ?hcell ?hl ?_
 walk_at "ds prem0"
 case hl => exact rfl
 refine' ent_all ((?f8 : ∀ c R', Ent _ _ _ _ _ _ c R') _ _); intro k R' l0 hP hR
 exact vcS_sound 10 (OpS.shr x (n - 1 - l) rfl (by lia) (OpS.and9 (bitAnd1_nat _) fun t => hR _ _ ⟨rfl, t, rfl⟩))
noncomputable def St_sp_bit_count (w : World) (x : Nat) (t1 : Tok) : Prop := ∀ (hx : x < 2 ^ 64), Sp w 68 1 [.int x t1] [] [] (fun v O' => O' = [] ∧ ∃ t, v = .int (bl x : Int) t)
theorem sp_bit_count : A3 St_sp_bit_count := by
 refine' ey3 (ne_P ne_W (ne_P ne_N ne_N)) ((?f9 : A3 St_sp_bit_count) _ _ _)
 intro w x t1 hx
 refine' Sp.of_W [("worth", .i x)] ?ho ?hcd ?hbind ?hloc ?hco ?hgen ?hk ?hcell ?hl ?_
 walk_at "ds prem0"
 case hl => exact rfl
 refine' ent_all ((?f8 : ∀ c R', Ent _ _ _ _ _ _ c R') _ _); intro k R' l0 hP hR
 refine vcS_sound 1 ?_
 refine Bk.whl (α := Nat × Nat) (fun a => [("count", .i a.1), ("worth", .i a.2)]) (fun _ => []) (fun a => a.1 + bl a.2 = bl x) (fun a => a.2) (0, x) (Nat.zero_add _) (subF_of ⟨rfl, rfl, trivial⟩) sub_nil ?_
 rintro ⟨c, v⟩ hI
 dsimp only at hI
 refine And.intro (fun h0 => vcS_sound 10 (And.intro (fun h => ?_) (fun h => ?_))) (fun h0 => vcS_sound 10 fun t => ?_)
 ·have h9 : 255 < v := by lia
  refine OpS.shr v 8 rfl rfl ⟨(c + 8, v / 256), ?_, ?_, subF_of ⟨rfl, rfl, trivial⟩, sub_nil⟩
  ·have := bl_shift h9; dsimp only; lia
  ·dsimp only; lia
 ·have h9 : 0 < v := by lia
  refine OpS.shr v 1 rfl rfl ⟨(c + 1, v / 2), ?_, ?_, subF_of ⟨rfl, rfl, trivial⟩, sub_nil⟩
  ·have := bl_pos h9; dsimp only; lia
  ·dsimp only; lia
 ·obtain rfl : v = 0 := by lia
  exact hR _ _ ⟨rfl, t, by rw [← hI]; rfl⟩
noncomputable def St_sp_shared_length (w : World) (x y m n : Nat) (t1 t2 t3 t4 : Tok) : Prop := ∀ (hx : x < 2 ^ n) (hy : y < 2 ^ n) (hn : n ≤ 64), Sp w 339 2 [.int x t1, .int y t2, .int m t3, .int n t4] [] [] (fun v O' => O' = [] ∧ ∃ t, v = .int (sharedLen n x y m : Int) t)
theorem sp_shared_length : A9 St_sp_shared_length := by
 refine' ey9 (ne_P ne_W (ne_P ne_N (ne_P ne_N (ne_P ne_N (ne_P ne_N (ne_P ne_N (ne_P ne_N (ne_P ne_N ne_N)))))))) ((?f9 : A9 St_sp_shared_length) _ _ _ _ _ _ _ _ _)
 intro w x y m n t1 t2 t3 t4 hx hy hn
 have hxy : x ^^^ y < 2 ^ n := Nat.xor_lt_two_pow hx hy
 have h64 : 2 ^ n ≤ 2 ^ 64 := Nat.pow_le_pow_right (by lia) hn
 have hb := bl_le hxy
 refine' Sp.of_W [("size", .i n), ("most", .i m), ("other", .i y), ("one", .i x)] ?ho ?hcd ?hbind ?hloc ?hco ?hgen ?hk ?hcell ?hl ?_
 walk_at "ds prem0"
 case hl => exact rfl
 refine' ent_all ((?f8 : ∀ c R', Ent _ _ _ _ _ _ c R') _ _); intro k R' l0 hP hR
 refine vcS_sound 10 (RawE.bfn (bMin w) (RawE.fn (fnA w).1 (OpS.xor x y (CallS.pureK (sh := .i (bl (x ^^^ y) : Int)) (lb9 rfl) (fun ts => sp_bit_count w _ (ts 0) (Nat.lt_of_lt_of_le hxy h64)) ?_))))
 exact CallB.min (z := (sharedLen n x y m : Int)) (by unfold sharedLen; split <;> lia) fun t => hR _ _ ⟨rfl, t, rfl⟩
noncomputable def flN (a b c e : UInt8) (i : Nat) : Nat := (if 0 < i then a.toNat else 0) + (if 1 < i then 256 * b.toNat else 0) + (if 2 < i then 65536 * c.toNat else 0) + (if 3 < i then 16777216 * e.toNat else 0)
theorem fl_step (a b c e : UInt8) {i : Nat} (hi : i < 4) : (([a, b, c, e].getD i 0).toNat < 256) ∧ flN a b c e (i + 1) = flN a b c e i + ([a, b, c, e].getD i 0).toNat * 2 ^ (8 * i) := by
 refine ⟨UInt8.toNat_lt _, ?_⟩
 match i, hi with
 | 0, _ => simp [flN]
 | 1, _ => simp [flN]; lia
 | 2, _ => simp [flN]; lia
 | 3, _ => simp [flN]; lia
noncomputable def St_sp_from_little (w : World) (a b c e : UInt8) (t : Tok) : Prop := Sp w 80 1 [.bytes [a, b, c, e].toArray t] [] [] (fun v O' => O' = [] ∧ ∃ t, v = .int (kl a b c e : Int) t)
theorem sp_from_little : A6 St_sp_from_little := by
 refine' ey6 (ne_P ne_W (ne_P ne_U (ne_P ne_U (ne_P ne_U (ne_P ne_U ne_N))))) ((?f9 : A6 St_sp_from_little) _ _ _ _ _ _)
 intro w a b c e t
 unfold St_sp_from_little
 refine' Sp.of_W [("octets", .b [a, b, c, e].toArray)] ?ho ?hcd ?hbind ?hloc ?hco ?hgen ?hk ?hcell ?hl ?_
 walk_at "ds prem0"
 case hl => exact rfl
 refine' ent_all ((?f8 : ∀ c R', Ent _ _ _ _ _ _ c R') _ _); intro k R' l0 hP hR
 refine vcS_sound 1 ?_
 refine Bk.forW (α := Unit) (fun i _ => [("worth", .i (flN a b c e i)), ("octets", .b [a, b, c, e].toArray)]) (fun _ _ => []) (fun _ _ => True) () ?_
 refine RawE.tfn (bRange w) (RawE.bfn (bLen w) (CallB.lenB (lb9 rfl) (CallT.range1 fun r t u v _ => ⟨4, _, _, .range (.head _) (by show Builtin.Range.small 0 4 1 = true; decide) (by show Builtin.Range.rangeSize 0 4 1 = 4; decide), .loc trivial (subF_of ⟨rfl, rfl, trivial⟩) sub_nil ?_ ?_⟩)))
 ·rintro I i sh - own hi rfl - - hown
  obtain ⟨h1, h2⟩ := fl_step a b c e hi
  refine vcS_sound 10 (ItemS.bytes (k := (([a, b, c, e].getD i 0).toNat : Int)) (lb9 rfl) (by lia) (by show (0 : Int) + i * 1 < 4; lia) (by rw [show ((0 : Int) + i * 1).toNat = i by lia]) ?_)
  refine OpS.mul (by lia) (OpS.shl _ (8 * i) rfl (by lia) (by lia) (by lia) ⟨(), trivial, subF_of ⟨?_, rfl, trivial⟩, fun _ h => h, fun _ h => absurd h List.not_mem_nil⟩)
  rw [h2]; rfl
 ·intro _ _
  exact vcS_sound 10 fun t => hR _ _ ⟨rfl, t, rfl⟩
noncomputable def St_sp_key_parts (w : World) (a b c e : UInt8) (d : List UInt8) (t : Tok) : Prop := ∀ (hd : d.length ≤ 8), Sp w 318 2 [.bytes (a :: b :: c :: e :: d).toArray t] [] [] (fun v O' => ∃ r t1 t2, v = .ref r ∧ O' = [(r, tup2 (.int (kl a b c e) t1) (.int (dw d) t2))])
theorem sp_key_parts : A7 St_sp_key_parts := by
 refine' ey7 (ne_P ne_W (ne_P ne_U (ne_P ne_U (ne_P ne_U (ne_P ne_U (ne_P ne_L ne_N)))))) ((?f9 : A7 St_sp_key_parts) _ _ _ _ _ _ _)
 intro w a b c e d t hd
 have hz : (a :: b :: c :: e :: d).toArray.size ≤ 1000 := by simp only [List.size_toArray, List.length_cons]; lia
 refine' Sp.of_W [("key", .b (a :: b :: c :: e :: d).toArray)] ?ho ?hcd ?hbind ?hloc ?hco ?hgen ?hk ?hcell ?hl ?_
 walk_at "ds prem0"
 case hl => exact rfl
 refine' ent_all ((?f8 : ∀ c R', Ent _ _ _ _ _ _ c R') _ _); intro k R' l0 hP hR
 refine vcS_sound 1 ?_
 refine Bk.forW (α := Unit) (fun i _ => [("worth", .i (dw (d.take i))), ("key", .b (a :: b :: c :: e :: d).toArray)]) (fun _ _ => []) (fun _ _ => True) () ?_
 refine RawE.slice (RawE.LW ⟨4, rfl, SlcS.bytes hz (picked_from4 a b c e d) ⟨d.length, _, _, SrcW.bytes, .loc trivial (subF_of ⟨rfl, rfl, trivial⟩) sub_nil ?_ ?_⟩⟩)
 ·rintro I i sh - own hi ⟨x, hx, rfl⟩ - - hown
  have e1 : dw (d.take (i + 1)) = dw (d.take i) * 256 + x.toNat := by
   rw [List.take_add_one, show d[i]? = some x by simpa using hx]
   simp [dw]
  refine vcS_sound 10 (OpS.mul (by lia) ⟨(), trivial, subF_of ⟨?_, rfl, trivial⟩, fun _ h => h, fun _ h => absurd h List.not_mem_nil⟩)
  rw [e1]; rfl
 ·intro _ _
  rw [List.take_length]
  refine vcS_sound 10 (RawE.fn (fnA w).2.1 (RawE.slice (RawE.LW ⟨4, rfl, SlcS.bytes hz (picked_to4 a b c e d) ?_⟩)))
  refine CallS.pureK (sh := .i (kl a b c e : Int)) (lb9 rfl) (fun ts => sp_from_little w a b c e (ts 0)) ?_
  intro ts r _ _
  exact hR _ _ ⟨r, _, _, rfl, rfl⟩
noncomputable def St_sp_little (w : World) (n : Nat) (t1 t2 : Tok) : Prop := Sp w 73 1 [.int n t1, .int 4 t2] [] [] (fun v O' => O' = [] ∧ ∃ t, v = .bytes (le4 n).toArray t)
theorem sp_little : A4 St_sp_little := by
 refine' ey4 (ne_P ne_W (ne_P ne_N (ne_P ne_N ne_N))) ((?f9 : A4 St_sp_little) _ _ _ _)
 intro w n t1 t2
 unfold St_sp_little
 refine' Sp.of_WC [("width", .i 4)] ?ho ?hcd ?hbind ?hkind ?hnd ?hco ?hgen ?hk ?hl ?_
 case ho => k_is
 case hcd => k_is
 case hbind => (intro s9 hX9; first | exact BindsTo.of_eq rfl | exact binds_K hX9 rfl (by k_is) rfl rfl rfl)
 case hkind => exact rfl
 case hnd => decide
 case hco => exact rfl
 case hgen => exact rfl
 case hk => exact rfl
 case hl => exact fun _ => ⟨⟨_, rfl⟩, trivial⟩
 refine' entC_all ((?f8 : ∀ c R' cells, EntC _ _ _ _ _ _ _ c R' cells) _ _ _); intro k R' cells hcl Y l0 hP hR
 obtain ⟨o, rfl, ho⟩ := CellsAre.one Y
 have ho : o.data = .cell (some ((Sh.i n).val t1)) := ho
 clear Y l0 hP
 refine vcS_sound 10 (RawE.tfn (bBytes w) (RawE.comp (S := fun _ => True) (cl := [(Str.ofString "worth", k.L + 1)]) 4 (fun i sh => sh = .i (0 + i)) (fun i ys news => news = [(k.L + 1, o)] ∧ IntsAre ys ((List.range i).map fun j => ((n / 2 ^ (8 * j) % 256 : Nat) : Int))) [(k.L + 1, o)] ?_ ?_))
 ·refine RawE.tfn (bRange w) (CallT.range1 fun r t u v _ => ⟨SrcC.range (.head _) (by decide) (by decide) (by decide), fun _ h => .tail _ h, ⟨rfl, .nil⟩, ?_, ?_⟩)
  ·rintro I oI C oC D m₂ i ys news sh t m hi rfl ⟨rfl, hys⟩ hC hx off ne
   refine vc_sound 30 (.E _ _ _ _) (RawE.cell (a := k.L + 1) rfl (.tail _ (.tail _ (.tail _ (.head _)))) ho ?_)
   refine RawE.cvar (.tail _ (.head _)) hC hx (OpS.mul (by lia) (OpS.shr n (8 * i) rfl (by lia) (OpS.and9 (bitAnd255_nat _) fun u => ⟨_, fun _ h => h, off, trivial, rfl, ?_⟩)))
   rw [List.range_succ, List.map_append]
   exact Mine.IntsAre.snoc hys _ _
  ·rintro ys news D ⟨rfl, hys⟩ _
   refine CallT.bytes [] (.head _) hys (fun x hx => ?_) (by simp) sub_nil fun t => hR _ _ ⟨rfl, t, ?_⟩
   ·obtain ⟨j, _, rfl⟩ := List.mem_map.mp hx
    lia
   ·show Value.bytes [UInt8.ofNat (n / 2 ^ (8 * 0) % 256), UInt8.ofNat (n / 2 ^ 8 % 256), UInt8.ofNat (n / 2 ^ 16 % 256), UInt8.ofNat (n / 2 ^ 24 % 256)].toArray t = _
    rw [show n / 2 ^ (8 * 0) = n by simp]
    rfl
 ·show closureFor _ (envX _ _ _ _ _ k.cl) = _
  rw [hcl]; rfl
noncomputable def St_sp_make_key (w : World) (n : Nat) (d : List UInt8) (items : List Value) (r : Addr) (o : Obj) (t1 : Tok) (e : Nat) : Prop := ∀ (hi : IntsAre items (byteInts d)) (hd : d.length ≤ 64) (ho : o = listOf items.toArray e), Sp w 311 2 [.int n t1, .ref r] [(r, o)] [] (fun v O' => O' = [] ∧ ∃ t, v = .bytes (le4 n ++ d).toArray t)
theorem sp_make_key : A8 St_sp_make_key := by
 refine' ey8 (ne_P ne_W (ne_P ne_N (ne_P ne_L (ne_P ne_L (ne_P ne_N (ne_P ne_Ob (ne_P ne_N ne_N))))))) ((?f9 : A8 St_sp_make_key) _ _ _ _ _ _ _ _)
 intro w n d items r o t1 e hi hd ho
 subst ho
 refine' Sp.of_W [("data", .v (.ref r)), ("length", .i n)] ?ho ?hcd ?hbind ?hloc ?hco ?hgen ?hk ?hcell ?hl ?_
 walk_at "ds prem0"
 case hl => exact rfl
 refine' ent_all ((?f8 : ∀ c R', Ent _ _ _ _ _ _ c R') _ _); intro k R' l0 hP hR
 refine vcS_sound 10 (RawE.fn (fnA w).2.2.1 (RawE.LW (CallS.pureK (sh := .b (le4 n).toArray) (lb9 rfl) (fun ts => sp_little w n (ts 0) (ts 1)) ?_)))
 refine RawE.tfn (bBytes w) (CallT.bytesO (.inr (hP _ (.head _))) hi byteInts_in (by rw [byteInts_len]; lia) ?_)
 rw [byteInts_back]
 exact OpS.addB (by rw [le4_len]; lia) fun t => hR _ _ ⟨rfl, t, rfl⟩
section
open Builtin
variable {prog : Program} {w : World} {A : Around} {E : Value → Shared → Prop} {s : Shared} {Q : Value → Shared → Prop}
theorem bb_lookup : typeLookup (.type "bytes") "__bytes__" = pure (some (.builtin "bytes.__bytes__")) := by rw [typeLookup_type, builtinLookup_eq_fast]; kernel_rfl
theorem bb_new {b : Array UInt8} {t : Tok} (hQ : Q (.bytes b t) s) :
  codeAny (model prog w) A (.call (.builtin "bytes.__new__") ⟨[.type "bytes", .bytes b t], []⟩) (wants Q E) s := by
 refine codeAny_of_tree ?_
 show wpAny _ A.in1 (do checkBuiltinCall "bytes.__new__" ⟨[.type "bytes", .bytes b t], []⟩; again (.builtin "bytes.__new__" ⟨[.type "bytes", .bytes b t], []⟩)) _ _ s
 refine wpAny_bind (wpAny_of_eq (F.bm_newCall _) (wpAny_pure ⟨plainId_quiet F.bm_plain _, codeAny_builtin F.bm_entry ?_⟩))
 rw [Around.under_plainId F.bm_plain _]
 have hT : s.TypeIs (.bytes b t) "bytes" := typeIs_bytes _ _ _
 unfold Builtin.«bytes.__new__»
 refine wpAny_bind (wpAny_of_eq (a := true) rfl ?_)
 refine bm_if_false rfl ?_
 refine wpAny_bind (wpAny_of_eq F.bm_sub ?_)
 refine bm_if_false rfl ?_
 refine wpAny_bind (wpAny_of_eq (F.bm_bind _) ?_)
 refine wpAny_bind (wpAny_of_eq (a := ()) rfl ?_)
 refine wpAny_bind (wpAny_of_eq (a := ()) rfl ?_)
 refine bm_if_false rfl ?_
 refine wpAny_bind (wpAny_specialOf hT bb_lookup ?_)
 refine wpAny_bind (wpAny_rule ?_)
 refine wpAny_bind (wpAny_typeOf hT ?_)
 refine bm_if_true rfl ?_
 show wpAny _ _ (PySem.ret (.bytes b t) >>= fun r => pure r) _ _ _
 exact wpAny_bind (wpAny_pure (wpAny_pure hQ))
theorem call_bytes_bytes {b : Array UInt8} {t : Tok} (hQ : Q (.bytes b t) s) : wpAny (model prog w) A (call (.type "bytes") [.bytes b t]) Q E s := by
 refine callType_codes (Q₁ := fun obj s₁ => s₁.TypeIs obj "bytes" ∧ Q obj s₁) F.bm_called (F.bm_typeCall _) F.entry_object_init
  (bb_new ⟨PySem.W.typeIs_bytes _ _ _, hQ⟩) fun obj s₁ h₁ => ?_
 exact ⟨h₁.1, F.args_object_init_2 obj _, object_init_meets F.bm_called.init.lookup F.bm_called.made (by decide) prog w A.in1 _ s₁ ⟨h₁.1, rfl, h₁.2⟩⟩
theorem ba_lookup : typeLookup (.type "bytearray") "__bytes__" = pure none := by rw [typeLookup_type, builtinLookup_eq_fast]; kernel_rfl
theorem ba_index : typeLookup (.type "bytearray") "__index__" = pure none := by rw [typeLookup_type, builtinLookup_eq_fast]; kernel_rfl
theorem ba_buffer : typeLookup (.type "bytearray") "__buffer__" = pure (some (.builtin "bytearray.__buffer__")) := by rw [typeLookup_type, builtinLookup_eq_fast]; kernel_rfl
theorem ba_release : typeLookup (.type "bytearray") "__release_buffer__" = pure (some (.builtin "bytearray.__release_buffer__")) := by rw [typeLookup_type, builtinLookup_eq_fast]; kernel_rfl
theorem ba_sub : isSubtype (.type "bytearray") (.type "bytearray") = pure true := by rw [isSubtype_type]; kernel_rfl
theorem own_buffer {a : Addr} {Q : Bool → Shared → Prop} (hT : s.TypeIs (.ref a) "bytearray") (h : Q true s) : wpAny (model prog w) A (Builtin.Bytes.slotIsOwn (.ref a) "__buffer__") Q E s := by
 unfold Builtin.Bytes.slotIsOwn
 refine wpAny_bind (wpAny_specialOf hT ba_buffer ?_)
 refine bm_if_false (by decide +kernel) ?_
 rw [show "bytearray.__buffer__".dropRight ("__buffer__".length + 1) = "bytearray" from by decide +kernel]
 exact wpAny_isInstance hT ba_sub h
theorem own_release {a : Addr} {Q : Bool → Shared → Prop} (hT : s.TypeIs (.ref a) "bytearray") (h : Q false s) : wpAny (model prog w) A (Builtin.Bytes.ownRelease (.ref a)) Q E s := by
 unfold Builtin.Bytes.ownRelease Builtin.Bytes.slotIsOwn
 refine wpAny_bind (wpAny_bind (wpAny_specialOf hT ba_release ?_))
 refine bm_if_false (by decide +kernel) ?_
 rw [show "bytearray.__release_buffer__".dropRight ("__release_buffer__".length + 1) = "bytearray" from by decide +kernel]
 exact wpAny_isInstance hT ba_sub (wpAny_pure h)
theorem payload_ba {a : Addr} {b : Array UInt8} {n : Nat} {c : Value} {Q : Array UInt8 → Shared → Prop} (ho : s.heap.get? a = some { cls := c, data := .bytearray b n }) (h : Q b s) : wpAny (model prog w) A (Builtin.Bytes.payload (.ref a)) Q E s := by
 unfold Builtin.Bytes.payload Builtin.Bytes.payload?
 refine wpAny_bind (wpAny_bind (wpAny_load ho (wpAny_pure ?_)))
 exact wpAny_pure h
theorem ba_new {a : Addr} {o : Obj} {b : UInt8} (ho : s.heap.get? a = some o) (he : o = baObj b) (hQ : ∀ t, Q (.bytes #[b] t) { s with toks := s.toks + 1 }) :
  codeAny (model prog w) A (.call (.builtin "bytes.__new__") ⟨[.type "bytes", .ref a], []⟩) (wants Q E) s := by
 subst he
 refine codeAny_of_tree ?_
 show wpAny _ A.in1 (do checkBuiltinCall "bytes.__new__" ⟨[.type "bytes", .ref a], []⟩; again (.builtin "bytes.__new__" ⟨[.type "bytes", .ref a], []⟩)) _ _ s
 refine wpAny_bind (wpAny_of_eq (F.bm_newCall _) (wpAny_pure ⟨plainId_quiet F.bm_plain _, codeAny_builtin F.bm_entry ?_⟩))
 rw [Around.under_plainId F.bm_plain _]
 have hT : s.TypeIs (.ref a) "bytearray" := ⟨_, ho, rfl⟩
 unfold Builtin.«bytes.__new__»
 refine wpAny_bind (wpAny_of_eq (a := true) rfl ?_)
 refine bm_if_false rfl ?_
 refine wpAny_bind (wpAny_of_eq F.bm_sub ?_)
 refine bm_if_false rfl ?_
 refine wpAny_bind (wpAny_of_eq (F.bm_bind _) ?_)
 refine wpAny_bind (wpAny_of_eq (a := ()) rfl ?_)
 refine wpAny_bind (wpAny_of_eq (a := ()) rfl ?_)
 refine bm_if_false rfl ?_
 refine wpAny_bind (wpAny_specialOf hT ba_lookup ?_)
 refine wpAny_bind (wpAny_bind ?_)
 show wpAny _ _ (load a >>= _) _ _ _
 refine wpAny_bind (wpAny_load ho ?_)
 refine wpAny_pure (wpAny_pure ?_)
 refine bm_if_false rfl ?_
 refine wpAny_bind (wpAny_specialOf hT ba_index ?_)
 refine bm_if_true rfl ?_
 first
  | show wpAny _ _ (Builtin.Bytes.buffer? "bytes.__new__" (.ref a) true >>= _) _ _ _
  | (refine wpAny_bind ?_; show wpAny _ _ (Builtin.Bytes.buffer? "bytes.__new__" (.ref a) true >>= _) _ _ _)
 refine wpAny_bind ?_
 unfold Builtin.Bytes.buffer?
 refine wpAny_bind (wpAny_specialOf hT ba_buffer ?_)
 show wpAny _ _ (Builtin.Bytes.slotIsOwn (.ref a) "__buffer__" >>= _) _ _ _
 refine wpAny_bind (own_buffer hT ?_)
 refine bm_if_false rfl ?_
 refine wpAny_bind (wpAny_specialOf hT ba_buffer ?_)
 refine wpAny_bind (own_release hT ?_)
 refine bm_if_false rfl ?_
 refine wpAny_bind (payload_ba ho ?_)
 refine wpAny_pure ?_
 refine wpAny_bind (wpAny_rule ?_)
 refine wpAny_bind (wpAny_mkBytes ?_ (by rw [sizeLine_eq]; show 1 ≤ _; lia))
 show wpAny _ _ (PySem.ret (.bytes #[b] _) >>= fun r => pure r) _ _ _
 exact wpAny_bind (wpAny_pure (wpAny_pure (hQ _)))
end
section
variable {d : Df} {c : Cx} {l : Fs} {N : Led} {A : TA} {T : TS} {root : Int} {K : KE}
theorem CallM.readI {a : Addr} {shs : List Sh} {lv' : Nat} {X : Int} (hT : TrO d.w c N A T root) (hlv : lv' ≤ d.lv) (S : ∀ ts rt D, TR d.w A T D → Sp d.w a lv' (.ref A.self :: valsO ts 0 shs) (TP A root rt D) [] (fun v O' => O' = [] ∧ ∃ t, v = .int X t))
  (h : K (.i X) N) : CallM d c l a A.self shs N K := CallM.read hT S hlv fun v O' ⟨e, t, ev⟩ _ => ⟨.i X, N, ⟨t, ev⟩, h, by rw [e]; exact fun _ h => h⟩
theorem RawE.mnode {x : Str} {o : PySem.Expr} {apos pos : Pos} {a : Addr} {es : List PySem.Expr} {i : Int} {nd : Nd} (hf : MethAt d.w 384 x a) (hv : getN T i = some nd)
  (h : vc d c 30 (.E l N o fun sh N1 => sh = .v (.ref nd.x) ∧ TrO d.w c N1 A T root ∧ vc d c 30 (.L l N1 es fun shs N2 => CallM d c l a nd.x shs N2 K))) (hl : autoParam (∀ kd tk, getL x (ndict kd tk nd) = some none) Subscript_Name._auto_1)
  (hp : autoParam (es.all plainE = true) name_B._auto_3) (hplain : autoParam ((backTo pos (starEach es (cE d c))).any (·.1) = false) name_B._auto_3) {pl : Sem Bool}
  (hc : autoParam (eval (.Call (.Attribute o x apos) es [] pos) (cE d c) = (do
   let ov ← eval o (cE d c)
   standAt apos.atName
   let (f, first) ← holding [ov] (getMethod ov x pl)
   callWith pos f first (backTo pos (starEach es (cE d c))) [])) name_B._auto_3) :
  RawE d c l N (.Call (.Attribute o x apos) es [] pos) K := fun s Q hS hQ => by
 refine MethodCall_ (pl := pl) (vc_sound 30 _ h s _ hS ?_) hc
 rintro v _ N1 s₁ ⟨t, rfl⟩ ⟨rfl, hT, h2⟩ h₁
 obtain ⟨g1, ⟨kd, tk, g2⟩, _⟩ := hT.node hv
 have i1 := g1.at h₁
 have i2 := g2.at h₁
 obtain ⟨m, F, H⟩ := h₁.fr
 refine method_inst F h₁.ok.X ⟨i1, rfl, rfl, i2⟩ hf.1 hf.2.1 hf.2.2.1 (hl kd tk) ?_
 cases es with
 | nil =>
  refine callWith_K0 h₁.kin hf.2.2.2 ?_
  exact (show CallM d c l a nd.x [] N1 K from h2) (fun _ => 0) s₁ Q h₁ hQ
 | cons e es =>
  have he1 : plainE e = true := by rw [List.all_cons, Bool.and_eq_true] at hp; exact hp.1
  refine callWith_K h₁.ok.X hf.2.2.2 ?_ (starEach_plain he1) (by
   rw [starEach_plain he1] at hplain
   simpa [backTo] using hplain)
  exact vc_sound 30 _ h2 pos 0 s₁ _ h₁ fun ts shs N2 s2 k hS2 => ⟨hS2.kin, k ts s2 Q hS2 hQ⟩
theorem CallM.readY {a y : Addr} {shs : List Sh} {lv' : Nat} {R : Value → Led → Prop} (hT : TrO d.w c N A T root) (S : ∀ ts rt D, TR d.w A T D → Sp d.w a lv' (.ref y :: valsO ts 0 shs) (TP A root rt D) [] R) (hlv : lv' ≤ d.lv)
  (h : ∀ v O', R v O' → (∀ p ∈ N, ∀ q ∈ O', p.1 ≠ q.1) → ∃ sh N', (∃ t, v = sh.val t) ∧ K sh N' ∧ ∀ p ∈ N', p ∈ O' ++ N) : CallM d c l a y shs N K := fun ts s Q hS hQ => by
 obtain ⟨rt, D, R9, hP⟩ := hT.ex
 refine call_ev (Z := N) (S ts rt D R9) ⟨hP, fun _ h => absurd h List.not_mem_nil, fun _ h => absurd h List.not_mem_nil, fun _ h => h, fun _ h => absurd h List.not_mem_nil, hlv⟩ hS ?_
 rintro v N' s' ⟨O', r, rfl, ap⟩ hS'
 obtain ⟨sh, N'', hv, k, hsub⟩ := h v O' r ap
 exact hQ v sh N'' s' hv k (hS'.sub (fun _ h => h) hsub)
theorem RawT.bool {e : PySem.Expr} {KT KF : Led → Prop} (h : RawE d c l N e fun sh N1 => ∃ b, sh = .v (.bool b) ∧ (b = true → KT N1) ∧ (b = false → KF N1))
  (hs : autoParam (∀ whole, isTrue e (cE d c) whole = (do let v ← whole; standAt e.pos; holding [v] (truthy v))) wpAny_For._auto_3) : RawT d c l N e KT KF := fun s Q hS hQ => by
 refine wpAny_isTrue_value (h s _ hS ?_) (hs _)
 rintro v sh N1 s1 ⟨t, rfl⟩ ⟨b, rfl, hT, hF⟩ hS1
 exact wpAny_truthy_bool (hQ b N1 s1 hT hF hS1)
theorem RawE.bnm {x : Str} {p : Pos} {v : Value} (hf : BuiltAt d.w x v) (h : K (.v v) N) (hx : autoParam ((cE d c).kindOf x = some .globalImplicit) name_B._auto_3) (hd : autoParam ((x == ("__debug__" : Str)) = false) ldc._auto_1) (hgl : GlEnv (cE d c) := by exact ⟨rfl, rfl, rfl⟩) : RawE d c l N (.Name x p) K := fun s Q hS hQ =>
 nameB hS hf.1 hf.2.1 hf.2.2 (hQ.use (sh := .v v) 0 h hS) hx hd hgl
theorem CallB.isBytes {b : Array UInt8} {tp : Addr} (hm : (tp, tupO [.type "bytes", .type "bytearray"]) ∈ N) (h : K (.v (.bool true)) N) : CallB d c l "isinstance" [] [.b b, .v (.ref tp)] N K := fun ts s Q hS hQ =>
 kia_tup (its := [.type "bytes", .type "bytearray"]) (b := true) kitx_bytes hS.kin trivial (hS.news _ hm).1 rfl (by intro q; cases q) fun tk => hQ.use (sh := .v (.bool true)) 0 h (hS.tok _)
theorem CallT.bytesB {b : Array UInt8} (h : K (.b b) N) : CallT d c l "bytes" [.b b] N K := fun ts s Q hS hQ => call_bytes_bytes (hQ.use (sh := .b b) _ h hS)
theorem CallT.intb {b : Bool} (h : K (.i (if b then 1 else 0)) N) : CallT d c l "int" [.v (.bool b)] N K := fun ts s Q hS hQ => call_int_bool (hQ.use (sh := .i _) _ h (hS.tok _))
theorem CallB.used_len (hT : TrO d.w c N A T root) (h : K (.i (T.used.length : Int)) N) : CallB d c l "len" [] [.v (.ref A.ud)] N K := fun ts s Q hS hQ => by
 obtain ⟨rt, D, R, hA⟩ := hT.at hS
 exact Mine.used_len hA.tail.tail R (hQ.use (sh := .i _) _ h (hS.tok _))
theorem CallB.nodes_len (hT : TrO d.w c N A T root) (h : K (.i (T.nodes.length : Int)) N) : CallB d c l "len" [] [.v (.ref A.nd)] N K := fun ts s Q hS hQ => by
 obtain ⟨rt, D, R, hA⟩ := hT.at hS
 exact Mine.nodes_len hA.tail.tail R (hQ.use (sh := .i _) _ h (hS.tok _))
end
theorem glNODE (w : World) : GlAt w "NO_NODE" (.int (-1) 583) := by
 show nsIn _ _ _ = _
 k_is
theorem RawE.NODE {d : Df} {c : Cx} {l : Fs} {N : Led} {K : KE} {p : Pos} (h : K (.i (-1)) N) (hx : autoParam ((cE d c).kindOf "NO_NODE" = some .globalImplicit) name_B._auto_3) (hgl : GlEnv (cE d c) := by exact ⟨rfl, rfl, rfl⟩) : RawE d c l N (.Name "NO_NODE" p) K := by
 exact RawE.glob (glNODE d.w) ⟨583, rfl⟩ h hx (hgl := hgl)
theorem glSLOT (w : World) : GlAt w "NO_SLOT" (.int (-1) 580) := by
 show nsIn _ _ _ = _
 k_is
theorem RawE.SLOT {d : Df} {c : Cx} {l : Fs} {N : Led} {K : KE} {p : Pos} (h : K (.i (-1)) N) (hx : autoParam ((cE d c).kindOf "NO_SLOT" = some .globalImplicit) name_B._auto_3) (hgl : GlEnv (cE d c) := by exact ⟨rfl, rfl, rfl⟩) : RawE d c l N (.Name "NO_SLOT" p) K := by
 exact RawE.glob (glSLOT d.w) ⟨580, rfl⟩ h hx (hgl := hgl)
theorem me423 (w : World) : MethAt w 585 "shared" 423 ∧ MethAt w 585 "size" 409 := by
 refine ⟨?_, ?_⟩ <;> exact ⟨by k_is, by k_is, by k_is, by k_is⟩
theorem me360 (w : World) : MethAt w 384 "is_entry" 360 := by
 exact ⟨by k_is, by k_is, by k_is, by k_is⟩
theorem me367 (w : World) : MethAt w 384 "only_child" 367 ∧ MethAt w 384 "child_count" 374 := by
 refine ⟨?_, ?_⟩ <;> exact ⟨by k_is, by k_is, by k_is, by k_is⟩
theorem bInt (w : World) : BuiltAt w "int" (.type "int") ∧ BuiltAt w "isinstance" (.builtin "isinstance") ∧ BuiltAt w "bytearray" (.type "bytearray") := by
 exact ⟨⟨by k_is, by boot_by_name, by decide⟩, ⟨by k_is, by boot_by_name, by decide⟩, ⟨by k_is, by boot_by_name, by decide⟩⟩
noncomputable def St_sp_is_entry (w : World) (A : TA) (T : TS) (D : Led) (root : Int) (rt : Tok) (i : Int) (a : Nd) : Prop := ∀ (R : TR w A T D) (hv : getN T i = some a), Sp w 360 1 [.ref a.x] (TP A root rt D) [] (fun v O' => O' = [] ∧ v = .bool (decide (a.slot ≠ -1)))
theorem sp_is_entry : A8 St_sp_is_entry := by
 refine' ey8 (ne_P ne_W (ne_P ne_TA (ne_P ne_TS (ne_P ne_L (ne_P ne_I (ne_P ne_N (ne_P ne_I ne_Nd))))))) ((?f9 : A8 St_sp_is_entry) _ _ _ _ _ _ _ _)
 intro w A T D root rt i a R hv
 refine' Sp.of_W [("self", .v (.ref a.x))] ?ho ?hcd ?hbind ?hloc ?hco ?hgen ?hk ?hcell ?hl ?_
 walk_at "ds prem0"
 case hl => exact rfl
 refine' ent_all ((?f8 : ∀ c R', Ent _ _ _ _ _ _ c R') _ _); intro k R' l0 hP hR
 have hT : ∀ N, TrO w k N A T root := fun N => ⟨rt, D, R, fun p hp => .inr (hP p hp)⟩
 refine vcS_sound 10 (AttrS.slot (hT _) hv (RawE.SLOT (And.intro (fun h _ => ?_) (fun h _ => ?_))))
 ·exact hR _ _ ⟨rfl, by rw [decide_eq_true h]; rfl⟩
 ·exact hR _ _ ⟨rfl, by rw [decide_eq_false (fun q => q h)]; rfl⟩
noncomputable def St_sp_only_child (w : World) (A : TA) (T : TS) (D : Led) (root : Int) (rt : Tok) (i : Int) (a : Nd) : Prop := ∀ (R : TR w A T D) (hv : getN T i = some a), Sp w 367 1 [.ref a.x] (TP A root rt D) [] (fun v O' => O' = [] ∧ ∃ t, v = .int (if a.c0 ≠ -1 then a.c0 else a.c1) t)
theorem sp_only_child : A8 St_sp_only_child := by
 refine' ey8 (ne_P ne_W (ne_P ne_TA (ne_P ne_TS (ne_P ne_L (ne_P ne_I (ne_P ne_N (ne_P ne_I ne_Nd))))))) ((?f9 : A8 St_sp_only_child) _ _ _ _ _ _ _ _)
 intro w A T D root rt i a R hv
 refine' Sp.of_W [("self", .v (.ref a.x))] ?ho ?hcd ?hbind ?hloc ?hco ?hgen ?hk ?hcell ?hl ?_
 walk_at "ds prem0"
 case hl => exact rfl
 refine' ent_all ((?f8 : ∀ c R', Ent _ _ _ _ _ _ c R') _ _); intro k R' l0 hP hR
 have hT : ∀ N, TrO w k N A T root := fun N => ⟨rt, D, R, fun p hp => .inr (hP p hp)⟩
 refine vcS_sound 10 (AttrS.children (hT _) hv (ItemS.child (b := 0) (hT _) hv rfl (by lia) (RawE.NODE (And.intro (fun h => ?_) (fun h => ?_)))))
 ·exact AttrS.children (hT _) hv (ItemS.child (b := 0) (hT _) hv rfl (by lia) fun t => hR _ _ ⟨rfl, t, by rw [if_pos (show a.c0 ≠ -1 from h)]; rfl⟩)
 ·exact AttrS.children (hT _) hv (ItemS.child (b := 1) (hT _) hv rfl (by lia) fun t => hR _ _ ⟨rfl, t, by rw [if_neg (fun q : a.c0 ≠ -1 => q h)]; rfl⟩)
noncomputable def St_sp_child_count (w : World) (A : TA) (T : TS) (D : Led) (root : Int) (rt : Tok) (i : Int) (a : Nd) : Prop := ∀ (R : TR w A T D) (hv : getN T i = some a), Sp w 374 1 [.ref a.x] (TP A root rt D) [] (fun v O' => O' = [] ∧ ∃ t, v = .int ((if a.c0 ≠ -1 then 1 else 0) + (if a.c1 ≠ -1 then 1 else 0)) t)
theorem sp_child_count : A8 St_sp_child_count := by
 refine' ey8 (ne_P ne_W (ne_P ne_TA (ne_P ne_TS (ne_P ne_L (ne_P ne_I (ne_P ne_N (ne_P ne_I ne_Nd))))))) ((?f9 : A8 St_sp_child_count) _ _ _ _ _ _ _ _)
 intro w A T D root rt i a R hv
 refine' Sp.of_W [("self", .v (.ref a.x))] ?ho ?hcd ?hbind ?hloc ?hco ?hgen ?hk ?hcell ?hl ?_
 walk_at "ds prem0"
 case hl => exact rfl
 refine' ent_all ((?f8 : ∀ c R', Ent _ _ _ _ _ _ c R') _ _); intro k R' l0 hP hR
 have hT : ∀ N, TrO w k N A T root := fun N => ⟨rt, D, R, fun p hp => .inr (hP p hp)⟩
 have fin : ∀ b1 b2 : Bool, (b1 = true ↔ a.c0 ≠ -1) → (b2 = true ↔ a.c1 ≠ -1) → ∀ t, R' (.int ((if b1 then 1 else 0) + (if b2 then 1 else 0)) t) [] := fun b1 b2 h1 h2 t => hR _ _ ⟨rfl, t, by
  rw [show (if b1 = true then (1 : Int) else 0) = if a.c0 ≠ -1 then 1 else 0 by simp only [h1], show (if b2 = true then (1 : Int) else 0) = if a.c1 ≠ -1 then 1 else 0 by simp only [h2]]⟩
 refine vcS_sound 10 (RawE.tfn (bInt w).1 (AttrS.children (hT _) hv (ItemS.child (b := 0) (hT _) hv rfl (by lia) (RawE.NODE (And.intro (fun h => CallT.intb ?_) (fun h => CallT.intb ?_))))))
 ·refine RawE.tfn (bInt w).1 (AttrS.children (hT _) hv (ItemS.child (b := 1) (hT _) hv rfl (by lia) (RawE.NODE (And.intro (fun h2 => CallT.intb ?_) (fun h2 => CallT.intb ?_)))))
  ·exact fin true true ⟨fun _ => h, fun _ => rfl⟩ ⟨fun _ => h2, fun _ => rfl⟩
  ·exact fin true false ⟨fun _ => h, fun _ => rfl⟩ ⟨fun q => (nomatch q), fun q => absurd h2 q⟩
 ·refine RawE.tfn (bInt w).1 (AttrS.children (hT _) hv (ItemS.child (b := 1) (hT _) hv rfl (by lia) (RawE.NODE (And.intro (fun h2 => CallT.intb ?_) (fun h2 => CallT.intb ?_)))))
  ·exact fin false true ⟨fun q => (nomatch q), fun q => absurd h q⟩ ⟨fun _ => h2, fun _ => rfl⟩
  ·exact fin false false ⟨fun q => (nomatch q), fun q => absurd h q⟩ ⟨fun q => (nomatch q), fun q => absurd h2 q⟩
noncomputable def St_sp_size (w : World) (A : TA) (T : TS) (D : Led) (root : Int) (rt : Tok) : Prop := ∀ (R : TR w A T D), Sp w 409 1 [.ref A.self] (TP A root rt D) [] (fun v O' => O' = [] ∧ ∃ t, v = .int ((8 * A.c : Nat) : Int) t)
theorem sp_size : A6 St_sp_size := by
 refine' ey6 (ne_P ne_W (ne_P ne_TA (ne_P ne_TS (ne_P ne_L (ne_P ne_I ne_N))))) ((?f9 : A6 St_sp_size) _ _ _ _ _ _)
 intro w A T D root rt R
 refine' Sp.of_W [("self", .v (.ref A.self))] ?ho ?hcd ?hbind ?hloc ?hco ?hgen ?hk ?hcell ?hl ?_
 walk_at "ds prem0"
 case hl => exact rfl
 refine' ent_all ((?f8 : ∀ c R', Ent _ _ _ _ _ _ c R') _ _); intro k R' l0 hP hR
 have hT : ∀ N, TrO w k N A T root := fun N => ⟨rt, D, R, fun p hp => .inr (hP p hp)⟩
 refine vcS_sound 10 (AttrS.kw (hT _) (RawE.LW (OpS.mul (by lia) fun t => hR _ _ ⟨rfl, t, ?_⟩)))
 rw [show (8 : Int) * (((4 + A.c : Nat) : Int) - 4) = ((8 * A.c : Nat) : Int) by lia]; rfl
noncomputable def St_sp_count (w : World) (A : TA) (T : TS) (D : Led) (root : Int) (rt : Tok) : Prop := ∀ (R : TR w A T D), Sp w 416 1 [.ref A.self] (TP A root rt D) [] (fun v O' => O' = [] ∧ ∃ t, v = .int (T.used.length : Int) t)
theorem sp_count : A6 St_sp_count := by
 refine' ey6 (ne_P ne_W (ne_P ne_TA (ne_P ne_TS (ne_P ne_L (ne_P ne_I ne_N))))) ((?f9 : A6 St_sp_count) _ _ _ _ _ _)
 intro w A T D root rt R
 refine' Sp.of_W [("self", .v (.ref A.self))] ?ho ?hcd ?hbind ?hloc ?hco ?hgen ?hk ?hcell ?hl ?_
 walk_at "ds prem0"
 case hl => exact rfl
 refine' ent_all ((?f8 : ∀ c R', Ent _ _ _ _ _ _ c R') _ _); intro k R' l0 hP hR
 have hT : ∀ N, TrO w k N A T root := fun N => ⟨rt, D, R, fun p hp => .inr (hP p hp)⟩
 exact vcS_sound 10 (RawE.bfn (bLen w) (AttrS.used (hT _) (CallB.used_len (hT _) fun t => hR _ _ ⟨rfl, t, rfl⟩)))
section
variable {d : Df} {c : Cx} {l : Fs} {N : Led} {A : TA} {T : TS} {root : Int} {K : KE}
theorem CallM.size (hT : TrO d.w c N A T root) (hlv : 1 ≤ d.lv) (h : K (.i ((8 * A.c : Nat) : Int)) N) : CallM d c l 409 A.self [] N K := CallM.readI hT hlv (fun _ rt D R => sp_size d.w A T D root rt R) h
theorem CallM.is_entry {i : Int} {nd : Nd} (hT : TrO d.w c N A T root) (hlv : 1 ≤ d.lv) (hv : getN T i = some nd) (h : K (.v (.bool (decide (nd.slot ≠ -1)))) N) : CallM d c l 360 nd.x [] N K :=
 CallM.readY hT (fun _ rt D R => sp_is_entry d.w A T D root rt i nd R hv) hlv fun v O' ⟨e1, ev⟩ _ => ⟨.v _, N, ⟨0, ev⟩, h, by rw [e1]; exact fun _ h => h⟩
theorem CallM.only_child {i : Int} {a : Nd} (hT : TrO d.w c N A T root) (hlv : 1 ≤ d.lv) (hv : getN T i = some a) (h : K (.i (if a.c0 ≠ -1 then a.c0 else a.c1)) N) : CallM d c l 367 a.x [] N K :=
 CallM.readY hT (fun _ rt D R => sp_only_child d.w A T D root rt i a R hv) hlv fun v O' ⟨e1, t, ev⟩ _ => ⟨.i _, N, ⟨t, ev⟩, h, by rw [e1]; exact fun _ h => h⟩
theorem CallM.child_count {i : Int} {a : Nd} (hT : TrO d.w c N A T root) (hlv : 1 ≤ d.lv) (hv : getN T i = some a) (h : K (.i ((if a.c0 ≠ -1 then 1 else 0) + (if a.c1 ≠ -1 then 1 else 0))) N) : CallM d c l 374 a.x [] N K :=
 CallM.readY hT (fun _ rt D R => sp_child_count d.w A T D root rt i a R hv) hlv fun v O' ⟨e1, t, ev⟩ _ => ⟨.i _, N, ⟨t, ev⟩, h, by rw [e1]; exact fun _ h => h⟩
theorem CallM.count (hT : TrO d.w c N A T root) (hlv : 1 ≤ d.lv) (h : K (.i (T.used.length : Int)) N) : CallM d c l 416 A.self [] N K :=
 CallM.readI hT hlv (fun _ rt D R => sp_count d.w A T D root rt R) h
end
noncomputable def St_sp_shared (w : World) (A : TA) (T : TS) (D : Led) (root : Int) (rt : Tok) (i : Int) (a : Nd) (l wv : Nat) (t1 t2 : Tok) : Prop := ∀ (R : TR w A T D) (hv : getN T i = some a) (hc : 8 * A.c ≤ 64) (ha : a.w < 2 ^ (8 * A.c)) (hw : wv < 2 ^ (8 * A.c)), Sp w 423 3 [.ref A.self, .ref a.x, .int l t1, .int wv t2] (TP A root rt D) [] (fun v O' => O' = [] ∧ ∃ t, v = .int (sharedLen (8 * A.c) a.w wv (min a.len l) : Int) t)
theorem sp_shared : A12 St_sp_shared := by
 refine' ey12 (ne_P ne_W (ne_P ne_TA (ne_P ne_TS (ne_P ne_L (ne_P ne_I (ne_P ne_N (ne_P ne_I (ne_P ne_Nd (ne_P ne_N (ne_P ne_N (ne_P ne_N ne_N))))))))))) ((?f9 : A12 St_sp_shared) _ _ _ _ _ _ _ _ _ _ _ _)
 intro w A T D root rt i a l wv t1 t2 R hv hc ha hw
 refine' Sp.of_W [("worth", .i wv), ("length", .i l), ("node", .v (.ref a.x)), ("self", .v (.ref A.self))] ?ho ?hcd ?hbind ?hloc ?hco ?hgen ?hk ?hcell ?hl ?_
 walk_at "ds prem0"
 case hl => exact rfl
 refine' ent_all ((?f8 : ∀ c R', Ent _ _ _ _ _ _ c R') _ _); intro k R' l0 hP hR
 have hT : ∀ N, TrO w k N A T root := fun N => ⟨rt, D, R, fun p hp => .inr (hP p hp)⟩
 refine vcS_sound 10 (RawE.fn (fnA w).2.2.2.1 (AttrS.worth (hT _) hv (RawE.bfn (bMin w) (AttrS.len (hT _) hv (CallB.min (z := ((min a.len l : Nat) : Int)) (by split <;> lia) ?_)))))
 refine RawE.mself (x := "size") (me423 w).2 (And.intro rfl (And.intro (hT _) (CallM.size (hT _) (lb9 rfl) ?_)))
 exact CallS.pureK (sh := .i (sharedLen (8 * A.c) a.w wv (min a.len l) : Int)) (lb9 rfl) (fun ts => sp_shared_length w a.w wv (min a.len l) (8 * A.c) (ts 0) (ts 1) (ts 2) (ts 3) ha hw hc) fun t => hR _ _ ⟨rfl, t, rfl⟩
noncomputable def St_sp_check_key (w : World) (A : TA) (T : TS) (D : Led) (root : Int) (rt : Tok) (a b c e : UInt8) (d : List UInt8) (t : Tok) : Prop := ∀ (R : TR w A T D) (hd : d.length = A.c) (hc : A.c ≤ 8), Sp w 129 1 [.ref A.self, .bytes (a :: b :: c :: e :: d).toArray t] (TP A root rt D) [] (fun v O' => O' = [] ∧ ∃ t, v = .bytes (a :: b :: c :: e :: d).toArray t)
theorem sp_check_key : A12 St_sp_check_key := by
 refine' ey12 (ne_P ne_W (ne_P ne_TA (ne_P ne_TS (ne_P ne_L (ne_P ne_I (ne_P ne_N (ne_P ne_U (ne_P ne_U (ne_P ne_U (ne_P ne_U (ne_P ne_L ne_N))))))))))) ((?f9 : A12 St_sp_check_key) _ _ _ _ _ _ _ _ _ _ _ _)
 intro w A T D root rt a b c e d t R hd hc
 have hz : (a :: b :: c :: e :: d).toArray.size = 4 + A.c := by simp only [List.size_toArray, List.length_cons]; lia
 refine' Sp.of_W [("key", .b (a :: b :: c :: e :: d).toArray), ("self", .v (.ref A.self))] ?ho ?hcd ?hbind ?hloc ?hco ?hgen ?hk ?hcell ?hl ?_
 walk_at "ds prem0"
 case hl => exact rfl
 refine' ent_all ((?f8 : ∀ c R', Ent _ _ _ _ _ _ c R') _ _); intro k R' l0 hP hR
 have hT : ∀ N, TrO w k N A T root := fun N => ⟨rt, D, R, fun p hp => .inr (hP p hp)⟩
 refine vcS_sound 10 (RawT.bool (RawE.bfn (bInt w).2.1 (RawE.bnm (bBytes w) (RawE.bnm (bInt w).2.2 fun ts r _ => CallB.isBytes (.head _) ⟨true, rfl, fun _ => ?_, fun h => nomatch h⟩))))
 refine RawE.bfn (bLen w) (CallB.lenB (by lia) (AttrS.kw (hT _) (And.intro (fun h => absurd h (by lia)) fun _ => ?_)))
 exact RawE.drop [] sub_nil (RawE.tfn (bBytes w) (CallT.bytesB fun t => hR _ _ ⟨rfl, t, rfl⟩))
noncomputable def St_sp_check_value (w : World) (A : TA) (T : TS) (D : Led) (root : Int) (rt : Tok) (a : UInt8) (t : Tok) : Prop := ∀ (R : TR w A T D), Sp w 136 1 [.ref A.self, .bytes [a].toArray t] (TP A root rt D) [] (fun v O' => O' = [] ∧ ∃ t, v = .bytes [a].toArray t)
theorem sp_check_value : A8 St_sp_check_value := by
 refine' ey8 (ne_P ne_W (ne_P ne_TA (ne_P ne_TS (ne_P ne_L (ne_P ne_I (ne_P ne_N (ne_P ne_U ne_N))))))) ((?f9 : A8 St_sp_check_value) _ _ _ _ _ _ _ _)
 intro w A T D root rt a t R
 refine' Sp.of_W [("octets", .b [a].toArray), ("self", .v (.ref A.self))] ?ho ?hcd ?hbind ?hloc ?hco ?hgen ?hk ?hcell ?hl ?_
 walk_at "ds prem0"
 case hl => exact rfl
 refine' ent_all ((?f8 : ∀ c R', Ent _ _ _ _ _ _ c R') _ _); intro k R' l0 hP hR
 have hT : ∀ N, TrO w k N A T root := fun N => ⟨rt, D, R, fun p hp => .inr (hP p hp)⟩
 refine vcS_sound 10 (RawT.bool (RawE.bfn (bInt w).2.1 (RawE.bnm (bBytes w) (RawE.bnm (bInt w).2.2 fun ts r _ => CallB.isBytes (.head _) ⟨true, rfl, fun _ => ?_, fun h => nomatch h⟩))))
 refine RawE.bfn (bLen w) (CallB.lenB (lb9 rfl) (AttrS.vw (hT _) (And.intro (fun h => absurd rfl h) fun _ => ?_)))
 exact RawE.drop [] sub_nil (RawE.tfn (bBytes w) (CallT.bytesB fun t => hR _ _ ⟨rfl, t, rfl⟩))
section
variable {d : Df} {c : Cx} {l : Fs} {N : Led} {A : TA} {T : TS} {root : Int} {K : KE}
theorem CallM.shared {i : Int} {a : Nd} {ln wv : Nat} (hT : TrO d.w c N A T root) (hlv : 3 ≤ d.lv) (hv : getN T i = some a) (hc : 8 * A.c ≤ 64) (ha : a.w < 2 ^ (8 * A.c)) (hw : wv < 2 ^ (8 * A.c)) (h : K (.i (sharedLen (8 * A.c) a.w wv (min a.len ln) : Nat)) N) :
  CallM d c l 423 A.self [.v (.ref a.x), .i ln, .i wv] N K := CallM.readI hT hlv (fun ts rt D R => sp_shared d.w A T D root rt i a ln wv (ts 1) (ts 2) R hv hc ha hw) h
theorem CallM.check_key {a b c' e : UInt8} {ds : List UInt8} (hT : TrO d.w c N A T root) (hlv : 1 ≤ d.lv) (hd : ds.length = A.c) (hc : A.c ≤ 8) (h : K (.b (a :: b :: c' :: e :: ds).toArray) N) : CallM d c l 129 A.self [.b (a :: b :: c' :: e :: ds).toArray] N K :=
 CallM.read hT (fun ts rt D R => sp_check_key d.w A T D root rt a b c' e ds (ts 0) R hd hc) hlv fun v O' ⟨e1, t, ev⟩ _ => ⟨.b _, N, ⟨t, ev⟩, h, by rw [e1]; exact fun _ h => h⟩
theorem CallM.check_value {b : UInt8} (hT : TrO d.w c N A T root) (hlv : 1 ≤ d.lv) (h : K (.b #[b]) N) : CallM d c l 136 A.self [.b #[b]] N K :=
 CallM.read hT (fun ts rt D R => sp_check_value d.w A T D root rt b (ts 0) R) hlv fun v O' ⟨e1, t, ev⟩ _ => ⟨.b #[b], N, ⟨t, ev⟩, h, by rw [e1]; exact fun _ h => h⟩
end
section
variable {d : Df} {c : Cx} {l : Fs} {N : Led} {A : TA} {T : TS} {root : Int} {K : KE}
theorem CallS.bft {x p n : Nat} (hlv : 1 ≤ d.lv) (hl : p + 1 ≤ n) (h : K (.i (bitTop x p n : Nat)) N) : CallS d c l 332 [.i x, .i p, .i n] N K := CallS.pureK (sh := .i _) hlv (fun ts => sp_bit_from_top d.w x p n (ts 0) (ts 1) (ts 2) hl) h
theorem RawE.append {o e : PySem.Expr} {ap pos : Pos} {D : Addr} {its : List Value} {n : Nat} (nf : Value → Led)
  (h : vc d c 30 (.E l N o fun sh N1 => sh = .v (.ref D) ∧ (D, listOf its.toArray n) ∈ N1 ∧ vc d c 30 (.E l N1 e fun x N2 => its.length ≤ 5000 ∧ ∀ t, Upd D (listOf its.toArray n) (listOf (its ++ [x.val t]).toArray (n + 1)) N2 (nf (x.val t)) ∧ K (.v .none) (nf (x.val t)))))
  (hp : autoParam (plainE e = true) name_B._auto_3) {pl : Sem Bool}
  (hc : autoParam (eval (.Call (.Attribute o "append" ap) [e] [] pos) (cE d c) = (do
   let ov ← eval o (cE d c)
   standAt ap.atName
   let (f, first) ← holding [ov] (getMethod ov "append" pl)
   callWith pos f first (backTo pos (starEach [e] (cE d c))) [])) name_B._auto_3) :
  RawE d c l N (.Call (.Attribute o "append" ap) [e] [] pos) K := fun s Q hS hQ => by
 refine MethodCall_ (pl := pl) (vc_sound 30 _ h s _ hS ?_) hc
 rintro v _ N1 s₁ ⟨t, rfl⟩ ⟨rfl, hm, h2⟩ h₁
 refine listMethod_K h₁.news hm PySem.F.slot_list_append PySem.F.type_list_append ?_
 refine callWith_method1 ?_ (starEach_plain hp)
 refine args_cons (vc_sound 30 _ h2 s₁ _ h₁ ?_) (starEach_plain hp)
 rintro v x N2 s₂ ⟨u, rfl⟩ ⟨hz, h3⟩ h₂
 refine args_nil ?_
 obtain ⟨hU, k⟩ := h3 u
 obtain ⟨ok, ⟨hp2, tk, rfl⟩, ⟨m, F, H⟩, hN⟩ := h₂
 exact append9 F hN hU hz fun h' F' N' => hQ.use (sh := .v .none) 0 k ⟨ok, ⟨_, _, rfl⟩, ⟨m, F', H⟩, N'⟩
end
theorem fn332 (w : World) : FnAt w "bit_from_top" 332 := by
 refine ⟨?_, ?_⟩ <;> k_is
noncomputable def St_sp_path (w : World) (A : TA) (T : TS) (D : Led) (root : Int) (rt : Tok) (t : Tr) (l wv : Nat) (t1 t2 : Tok) : Prop := ∀ (R : TR w A T D) (ht : Rep T t) (hr : root = t.id) (hsz : t.size ≤ 1000) (hl : l ≤ 8 * A.c) (hw : wv < 2 ^ (8 * A.c)), Sp w 430 4 [.ref A.self, .int l t1, .int wv t2] (TP A root rt D) [] (fun v O' => ∃ r its e, v = .ref r ∧ O' = [(r, listOf its.toArray e)] ∧ IntsAre its ((path (8 * A.c) l wv t).map (·.1)))
theorem sp_path : A11 St_sp_path := by
 refine' ey11 (ne_P ne_W (ne_P ne_TA (ne_P ne_TS (ne_P ne_L (ne_P ne_I (ne_P ne_N (ne_P ne_Tr (ne_P ne_N (ne_P ne_N (ne_P ne_N ne_N)))))))))) ((?f9 : A11 St_sp_path) _ _ _ _ _ _ _ _ _ _ _)
 intro w A T D root rt t l wv t1 t2 R ht hr hsz hl hw
 have hcb := R.cb
 refine' Sp.of_W [("worth", .i wv), ("length", .i l), ("self", .v (.ref A.self))] ?ho ?hcd ?hbind ?hloc ?hco ?hgen ?hk ?hcell ?hl ?_
 walk_at "ds prem0"
 case hl => exact rfl
 refine' ent_all ((?f8 : ∀ c R', Ent _ _ _ _ _ _ c R') _ _); intro k R' l0 hP hR
 have hT : ∀ N, TrO w k N A T root := fun N => ⟨rt, D, R, fun p hp => .inr (hP p hp)⟩
 clear hP l0
 refine Bk.tupD (names := ["found", "here"]) ?_ (hk := ?_)
 rotate_left
 ·intro x hx; simp only [List.mem_cons, List.not_mem_nil, or_false] at hx; rcases hx with rfl | rfl <;> rfl
 intro ts fnd _
 refine AttrS.root9 (hT _) ⟨rfl, ?_⟩
 refine Bk.whl (α := Tr × List Int × List Value × Nat) (fun a => [("found", .v (.ref fnd)), ("here", .i a.1.id), ("self", .v (.ref A.self)), ("length", .i l), ("worth", .i wv)]) (fun a => [(fnd, listOf a.2.2.1.toArray a.2.2.2)])
  (fun a => IntsAre a.2.2.1 a.2.1 ∧ Rep T a.1 ∧ a.2.1 ++ (path (8 * A.c) l wv a.1).map (·.1) = (path (8 * A.c) l wv t).map (·.1)) (fun a => a.1.size) (t, [], [], 0) ⟨IntsAre.nil, ht, rfl⟩ (subF_of ⟨rfl, hr ▸ rfl, rfl, rfl, rfl, trivial⟩) (sub_cons (.head _) sub_nil) ?_
 rintro ⟨t1, pre, its, e⟩ ⟨hi, hrep, hres⟩
 dsimp only at hi hrep hres ⊢
 have hpl : its.length ≤ 1000 := by
  have h1 := congrArg List.length hres
  have h2 := path_len (8 * A.c) l wv t
  have h3 := hi.length
  simp only [List.length_append, List.length_map] at h1
  lia
 refine RawE.NODE ?_
 refine And.intro (fun hne => ?_) (fun he => ?_)
 ·cases t1 with
  | nil => exact absurd rfl hne
  | nd i a lt rt' =>
   obtain ⟨h0, hv, hc0, hc1, hL, hR'⟩ := hrep
   obtain ⟨hwa, hla⟩ := R.wb _ (getN_mem hv)
   dsimp only [Tr.id] at hwa hla ⊢
   have hsl : sharedLen (8 * A.c) a.w wv (min a.len l) ≤ min a.len l := Nat.min_le_left _ _
   refine vcS_sound 10 ?_
   refine AttrS.nodes (hT _) ?_
   refine ItemS.node (hT _) hv ?_
   refine RawE.mself (me423 w).1 (And.intro rfl (And.intro (hT _) ?_))
   refine CallM.shared (hT _) (lb9 rfl) hv (by lia) hwa hw ?_
   refine AttrS.len (hT _) hv ?_
   refine And.intro (fun hlt => ?_) (fun hge => ?_)
   ·refine vcS_sound 2 ?_
    intro _
    refine hR _ _ ⟨_, _, _, rfl, rfl, ?_⟩
    rw [← hres]
    have : sharedLen (8 * A.c) a.w wv (min a.len l) < a.len := by lia
    simpa [path, this] using hi
   ·have h1 : ¬ sharedLen (8 * A.c) a.w wv (min a.len l) < a.len := by lia
    refine RawE.append (D := fnd) (its := its) (n := e) (fun v => [(fnd, listOf (its ++ [v]).toArray (e + 1))]) (And.intro rfl (And.intro (.head _) (And.intro (Nat.le_trans hpl (by decide)) (fun t => And.intro (by k_upd) ?_))))
    refine AttrS.len (hT _) hv ?_
    refine And.intro (fun h2 => ?_) (fun h2 => ?_)
    ·refine vcS_sound 2 ?_
     intro _
     refine hR _ _ ⟨_, _, _, rfl, rfl, ?_⟩
     have h2 : a.len = l := by lia
     have e1 : path (8 * A.c) l wv (Tr.nd i a lt rt') = [(i, a)] := by unfold path; rw [if_neg h1, if_pos h2]
     rw [← hres, e1]
     exact Mine.IntsAre.snoc hi i _
    ·have h2 : ¬ a.len = l := by lia
     have e1 : path (8 * A.c) l wv (Tr.nd i a lt rt') = (i, a) :: path (8 * A.c) l wv (if bitTop wv a.len (8 * A.c) = 0 then lt else rt') := by
      conv => lhs; unfold path
      rw [if_neg h1, if_neg h2]; split <;> rfl
     rw [e1] at hres
     refine AttrS.children (hT _) hv ?_
     refine RawE.fn (fn332 w) ?_
     refine AttrS.len (hT _) hv ?_
     refine RawE.mself (me423 w).2 (And.intro rfl (And.intro (hT _) ?_))
     refine CallM.size (hT _) (lb9 rfl) ?_
     refine CallS.bft (lb9 rfl) (by lia) ?_
     refine ItemS.child (hT _) hv rfl (bitTop_lt _ _ _) ?_
     refine ⟨(if bitTop wv a.len (8 * A.c) = 0 then lt else rt', pre ++ [i], its ++ [.int i t], e + 1), ⟨Mine.IntsAre.snoc hi i _, ?_, ?_⟩, ?_, subF_of ⟨rfl, ?_, rfl, rfl, rfl, trivial⟩, sub_cons (.head _) sub_nil⟩
     ·dsimp only; split <;> assumption
     ·rw [← hres]; simp
     ·dsimp only; split <;> simp only [Tr.size] <;> lia
     ·show some (Sh.i _) = some (Sh.i _)
      unfold child; dsimp only; split <;> (simp only [*]; rfl)
 ·refine vcS_sound 2 ?_
  intro _
  refine hR _ _ ⟨_, _, _, rfl, rfl, ?_⟩
  have : t1 = .nil := by
   cases t1 with
   | nil => rfl
   | nd i a lt rt' => exact absurd he (by have := hrep.1; simp only [Tr.id]; lia)
  subst this
  rw [← hres]; simpa [path] using hi
section
open Builtin
variable {prog : Program} {w : World} {A : Around} {E : Value → Shared → Prop} {s : Shared} {Q : Value → Shared → Prop}
theorem call_bytes_bytearray {a : Addr} {b : UInt8} (ho : s.heap.get? a = some (baObj b)) (hQ : ∀ t, Q (.bytes #[b] t) { s with toks := s.toks + 1 }) : wpAny (model prog w) A (call (.type "bytes") [.ref a]) Q E s := by
 refine callType_codes (Q₁ := fun obj s₁ => s₁.TypeIs obj "bytes" ∧ Q obj s₁) F.bm_called (F.bm_typeCall _) F.entry_object_init
  (ba_new ho rfl fun t => ⟨PySem.W.typeIs_bytes _ _ _, hQ t⟩) fun obj s₁ h₁ => ?_
 exact ⟨h₁.1, F.args_object_init_2 obj _, object_init_meets F.bm_called.init.lookup F.bm_called.made (by decide) prog w A.in1 _ s₁ ⟨h₁.1, rfl, h₁.2⟩⟩
theorem mro_ba : mroOf (.type "bytearray") = pure [.type "bytearray", .type "object"] := by rw [mroOf_type]; kernel_rfl
theorem lookup_ba_new : typeLookup (.type "bytearray") "__new__" = pure (some (.builtin "bytearray.__new__")) := by rw [typeLookup_type, builtinLookup_eq_fast]; kernel_rfl
theorem slot_ba_init : Slot "bytearray" "__init__" "bytearray.__init__" :=
 .of (owner := "bytearray") (n := "__init__") (by rw [typeLookup_type, builtinLookup_eq_fast]; kernel_rfl) (by decide +kernel) (by decide +kernel) (by decide +kernel)
  (by first | exact .inl (by decide +kernel) | exact .inr (by decide +kernel)) (by rw [isSubtype_type]; kernel_rfl)
theorem entry_ba_init : entryFor table "bytearray.__init__" = some Builtin.«bytearray.__init__» := entryFor_of_tree (by kernel_rfl)
theorem entry_ba_new : entryFor table "bytearray.__new__" = some Builtin.«list.__new__» := entryFor_alias (id' := "list.__new__") (by kernel_rfl) (by decide +kernel) (by decide +kernel) (by kernel_rfl)
theorem plain_ba_new : plainId "bytearray.__new__" = true := by decide +kernel
theorem typeCall_ba (a : Value) : checkTypeCall "bytearray" ⟨[a], []⟩ = pure () := by kernel_rfl
theorem newCall_ba (a : Value) : checkBuiltinCall "bytearray.__new__" ⟨[.type "bytearray", a], []⟩ = pure () := by kernel_rfl
theorem called_ba : TypeCalled "bytearray" "bytearray.__new__" "bytearray.__init__" :=
 ⟨by decide +kernel, by decide +kernel, ⟨_, _, mro_ba⟩, madeBy_type mro_ba lookup_ba_new (by decide +kernel), by decide +kernel, by rw [isSubtype_type]; kernel_rfl, slot_ba_init⟩
theorem args_ba_init (a b : Value) : argsOk "bytearray.__init__" ⟨[a, b], []⟩ := by
 unfold argsOk; kernel_rfl
theorem owner_ba_new : ("bytearray.__new__".splitOn ".__new__").headD "" = "bytearray" := by simp +decide [String.splitOn, String.splitOnAux]
theorem code_ba_new (a : Value) {Q₁ : Value → Shared → Prop}
  (h : Q₁ (.ref s.heap.objs.size) { s with heap := s.heap.push { cls := .type "bytearray", data := .bytearray #[] } }) :
  codeAny (model prog w) A (.call (.builtin "bytearray.__new__") ⟨[.type "bytearray", a], []⟩) (wants Q₁ E) s := by
 refine codeAny_of_tree ?_
 show wpAny _ A.in1 (do checkBuiltinCall "bytearray.__new__" ⟨[.type "bytearray", a], []⟩; again (.builtin "bytearray.__new__" ⟨[.type "bytearray", a], []⟩)) _ _ s
 refine wpAny_bind (wpAny_of_eq (newCall_ba a) (wpAny_pure ⟨plainId_quiet plain_ba_new _, codeAny_builtin_stack entry_ba_new rfl fun p st => ?_⟩))
 rw [Around.under_plainId plain_ba_new _]
 have hsub := ba_sub
 have hown := owner_ba_new
 obtain ⟨hp, g, d, tk, os⟩ := s
 simp only [hown]
 wp_walk
 exact h
theorem ba_bind (v : Value) : Builtin.Bytes.bindOptional "bytearray.__init__" "bytearray" ["source", "encoding", "errors"] [v] [] = pure [some v, none, none] := by kernel_rfl
theorem by_buffer : typeLookup (.type "bytes") "__buffer__" = pure (some (.builtin "bytes.__buffer__")) := by rw [typeLookup_type, builtinLookup_eq_fast]; kernel_rfl
theorem by_release : typeLookup (.type "bytes") "__release_buffer__" = pure none := by rw [typeLookup_type, builtinLookup_eq_fast]; kernel_rfl
theorem by_index : typeLookup (.type "bytes") "__index__" = pure none := by rw [typeLookup_type, builtinLookup_eq_fast]; kernel_rfl
theorem by_sub : isSubtype (.type "bytes") (.type "bytes") = pure true := by rw [isSubtype_type]; kernel_rfl
theorem bytes_buffer {b : Array UInt8} {t : Tok} {nm : String} {fl : Bool} {Q : Option (Array UInt8) → Shared → Prop} (h : Q (some b) s) : wpAny (model prog w) A (Builtin.Bytes.buffer? nm (.bytes b t) fl) Q E s := by
 have hT : s.TypeIs (.bytes b t) "bytes" := typeIs_bytes _ _ _
 unfold Builtin.Bytes.buffer?
 refine wpAny_bind (wpAny_specialOf hT by_buffer ?_)
 show wpAny _ _ (Builtin.Bytes.slotIsOwn (.bytes b t) "__buffer__" >>= _) _ _ _
 have own : ∀ {Q : Bool → Shared → Prop}, Q true s → wpAny (model prog w) A (Builtin.Bytes.slotIsOwn (.bytes b t) "__buffer__") Q E s := by
  intro Q h
  unfold Builtin.Bytes.slotIsOwn
  refine wpAny_bind (wpAny_specialOf hT by_buffer ?_)
  refine bm_if_false (by decide +kernel) ?_
  rw [show "bytes.__buffer__".dropRight ("__buffer__".length + 1) = "bytes" from by decide +kernel]
  exact wpAny_isInstance hT by_sub h
 refine wpAny_bind (own ?_)
 refine bm_if_false rfl ?_
 refine wpAny_bind (wpAny_specialOf hT by_buffer ?_)
 have rel : ∀ {Q : Bool → Shared → Prop}, Q false s → wpAny (model prog w) A (Builtin.Bytes.ownRelease (.bytes b t)) Q E s := by
  intro Q h
  unfold Builtin.Bytes.ownRelease Builtin.Bytes.slotIsOwn
  refine wpAny_bind (wpAny_bind (wpAny_specialOf hT by_release ?_))
  exact wpAny_pure (wpAny_pure h)
 refine wpAny_bind (rel ?_)
 refine bm_if_false rfl ?_
 exact wpAny_bind (wpAny_of_eq (a := b) rfl (wpAny_pure h))
theorem write_ba {a : Addr} {b0 : Array UInt8} {n : Nat} {c : Value} {f : Array UInt8 → Array UInt8} {Q : Unit → Shared → Prop} (ho : s.heap.get? a = some { cls := c, data := .bytearray b0 n }) (hz : (f b0).size ≤ 1000)
  (h : Q () { s with heap := s.heap.update a (Obj.mapBytearray f) }) : wpAny (model prog w) A (Builtin.Bytes.write (.ref a) f) Q E s := by
 show wpAny _ _ (updateBytearray a f) _ _ _
 unfold updateBytearray
 refine wpAny_bind (wpAny_load ho ?_)
 show wpAny _ _ (update a (Obj.mapBytearray f) >>= fun _ => lookBehind a) _ _ _
 refine wpAny_bind (wpAny_update ho ?_)
 refine wpAny_lookBehind (Heap.get?_update_self (Obj.mapBytearray f) ho rfl) ?_ h
 show (if (f b0).size > sizeLine then some "bytearray:memory" else none) = none
 rw [if_neg]
 rw [sizeLine_eq]; lia
theorem call_ba_G {b : Array UInt8} {t : Tok} (hg : A.guards = some []) (hz : b.size ≤ 1000)
  (h : ∀ h', h'.get? s.heap.objs.size = some { cls := .type "bytearray", data := .bytearray b } → Heap.SameBut s.heap.objs.size (s.heap.push { cls := .type "bytearray", data := .bytearray #[] }) h' → Q (.ref s.heap.objs.size) { s with heap := h' }) :
  wpG (model prog w) A (call (.type "bytearray") [.bytes b t]) Q E s := by
 have hmro := mro_ba
 refine wpG_call (codeG_of_tree rfl ?_)
 show wpG _ _ (callAny (.type "bytearray") _) _ _ _
 refine wpG_pure ⟨Code.quiet_builtin _ (by decide +kernel), codeG_builtin F.entry_type_call (by show Builtin.Bytes.decodersThatHold.contains "type.__call__" = false; decide +kernel) ?_⟩
 rw [Around.under_plain (weight_type_call_type "bytearray" _ []) (units_type_call_type "bytearray" _ [])]
 unfold Builtin.«type.__call__»
 dsimp only
 refine wpG_if_false called_ba.notType ?_
 refine wpG_if_false called_ba.canCreate ?_
 refine wpG_step_eq (typeCall_ba _) ?_
 refine wpG_step_eq mro_ba ?_
 refine wpG_if_false rfl ?_
 refine wpG_step_eq called_ba.made ?_
 refine wpG_step_eq (a := .builtin "bytearray.__new__") rfl ?_
 refine wpG_bind (wpG_holding (wpG_of (wpAny_call (code_ba_new _ ?_))))
 have hS : ({ s with heap := s.heap.push { cls := .type "bytearray", data := .bytearray #[] } } : Shared).heap.get? s.heap.objs.size = some { cls := .type "bytearray", data := .bytearray #[] } := Heap.get?_push_size _ rfl
 have hT : ({ s with heap := s.heap.push { cls := .type "bytearray", data := .bytearray #[] } } : Shared).TypeIs (.ref s.heap.objs.size) "bytearray" := ⟨_, hS, rfl⟩
 refine wpG_step (wpAny_isInstance hT ba_sub ?_)
 refine wpG_if_false rfl ?_
 refine wpG_bind (wpG_holding (callSpecialG slot_ba_init hT (wpG_call (codeG_call_builtin slot_ba_init.plain entry_ba_init (by show Builtin.Bytes.decodersThatHold.contains "bytearray.__init__" = false; decide +kernel) (slot_ba_init.check _ _ _ _ _ _ _ _ hT (args_ba_init _ _) ?_)))))
 have hTb : ∀ s : Shared, s.TypeIs (.bytes b t) "bytes" := fun s => typeIs_bytes _ _ _
 unfold Builtin.«bytearray.__init__»
 refine wpG_step (own_release hT ?_)
 refine wpG_if_false rfl ?_
 refine wpG_step_eq (ba_bind _) ?_
 refine wpG_step_eq (a := ()) rfl ?_
 refine wpG_step_eq (a := ()) rfl ?_
 refine wpG_bind (wpG_bind (exportedG (by exact hg) ?_))
 show wpG _ _ (Builtin.Bytes.exportsOf (.ref s.heap.objs.size) >>= fun n => pure (decide (n > 0))) _ _ _
 refine wpG_of ?_
 refine wpAny_bind (wpAny_bind (wpAny_load hS (wpAny_pure (wpAny_pure ?_))))
 refine wpG_if_false (by decide) ?_
 refine wpG_step (write_ba hS (Nat.zero_le _) ?_)
 have hS2 := Heap.get?_update_self (Obj.mapBytearray fun _ => #[]) hS rfl
 refine wpG_step_eq (a := none) rfl ?_
 refine wpG_if_false rfl ?_
 refine wpG_step_eq (a := ()) rfl ?_
 refine wpG_step (wpAny_specialOf (hTb _) by_index ?_)
 refine wpG_if_false rfl ?_
 refine wpG_step (bytes_buffer ?_)
 refine wpG_step (wpAny_rule ?_)
 refine wpG_step (write_ba hS2 hz ?_)
 have hS3 := Heap.get?_update_self (Obj.mapBytearray fun _ => b) hS2 rfl
 refine wpG_pure ?_
 show wpG _ _ (PySem.ret _) _ _ _
 refine wpG_pure ?_
 refine h _ hS3 ?_
 exact (Heap.SameBut.update ..).trans (Heap.SameBut.update ..)
theorem slot_ba_setitem : Slot "bytearray" "__setitem__" "bytearray.__setitem__" :=
 .of (owner := "bytearray") (n := "__setitem__") (by rw [typeLookup_type, builtinLookup_eq_fast]; kernel_rfl) (by decide +kernel) (by decide +kernel) (by decide +kernel)
  (by first | exact .inl (by decide +kernel) | exact .inr (by decide +kernel)) (by rw [isSubtype_type]; kernel_rfl)
theorem entry_ba_setitem : entryFor table "bytearray.__setitem__" = some Builtin.«bytearray.__setitem__» := entryFor_of_tree (by kernel_rfl)
theorem args_ba_setitem (a b c : Value) : argsOk "bytearray.__setitem__" ⟨[a, b, c], []⟩ := by
 unfold argsOk; kernel_rfl
theorem by_no_int : typeLookup (.type "bytes") "__int__" = pure none := by rw [typeLookup_type, builtinLookup_eq_fast]; kernel_rfl
theorem by_no_float : typeLookup (.type "bytes") "__float__" = pure none := by rw [typeLookup_type, builtinLookup_eq_fast]; kernel_rfl
theorem by_not_ba : isSubtype (.type "bytes") (.type "bytearray") = pure false := by rw [isSubtype_type]; kernel_rfl
theorem by_not_complex : isSubtype (.type "bytes") (.type "complex") = pure false := by rw [isSubtype_type]; kernel_rfl
theorem slice_parts {sl : Addr} {Q : Value × Value × Value → Shared → Prop} (hs : s.heap.IsSliceOf sl .none .none .none) (h : Q (.none, .none, .none) s) : wpAny (model prog w) A (Builtin.Bytes.sliceParts (.ref sl)) Q E s := by
 obtain ⟨o, ho, hc, hd⟩ := hs
 unfold Builtin.Bytes.sliceParts
 refine wpAny_bind (wpAny_field (x := .none) ho hd rfl ?_)
 refine wpAny_bind (wpAny_of_eq (a := Value.none) rfl ?_)
 refine bm_if_false rfl ?_
 refine wpAny_bind (wpAny_field (x := .none) ho hd rfl ?_)
 refine wpAny_bind (wpAny_of_eq (a := Value.none) rfl ?_)
 refine wpAny_bind (wpAny_field (x := .none) ho hd rfl ?_)
 refine wpAny_bind (wpAny_of_eq (a := Value.none) rfl ?_)
 exact wpAny_pure h
theorem setItem_ba_G {a sl : Addr} {u v : UInt8} {t : Tok} {Q : Unit → Shared → Prop} (hg : A.guards = some []) (ha : s.heap.get? a = some (baObj u)) (hs : s.heap.IsSliceOf sl .none .none .none)
  (h : ∀ h₁ h', Heap.SameBut s.heap.objs.size (s.heap.push { cls := .type "bytearray", data := .bytearray #[] }) h₁ → Heap.SameBut a h₁ h' → h'.get? a = some (baObj v) → Q () { s with heap := h' }) :
  wpG (model prog w) A (setItem (.ref a) (.ref sl) (.bytes #[v] t)) Q E s := by
 have hT : s.TypeIs (.ref a) "bytearray" := ⟨_, ha, rfl⟩
 have hTs : s.TypeIs (.ref sl) "slice" := let ⟨o, ho, hc, _⟩ := hs; ⟨o, ho, hc⟩
 have hTb : ∀ s : Shared, s.TypeIs (.bytes #[v] t) "bytes" := fun s => typeIs_bytes _ _ _
 have hsa : a ≠ sl := by
  intro e
  obtain ⟨o, ho, hc, _⟩ := hs
  rw [← e, ha] at ho; cases ho; exact absurd (show Value.type "bytearray" = Value.type "slice" from hc) (by decide)
 unfold setItem
 refine wpG_holding ?_
 refine wpG_step (wpAny_sequenceKey hT (by decide) ?_)
 refine wpG_bind (callSpecialG slot_ba_setitem hT (wpG_call (codeG_call_builtin slot_ba_setitem.plain entry_ba_setitem (by show Builtin.Bytes.decodersThatHold.contains "bytearray.__setitem__" = false; decide +kernel) (slot_ba_setitem.check _ _ _ _ _ _ _ _ hT (args_ba_setitem _ _ _) ?_))))
 unfold Builtin.«bytearray.__setitem__»
 refine wpG_if_false rfl ?_
 show wpG _ _ (Builtin.Bytes.subscript? (.ref sl) >>= fun r => _) _ _ s
 refine wpG_step ?_
 unfold Builtin.Bytes.subscript?
 refine wpAny_bind (wpAny_specialOf hTs slice_no_index (wpAny_pure ?_))
 refine wpG_step (wpAny_typeOf hTs ?_)
 refine wpG_if_false (by decide) ?_
 refine wpG_step (slice_parts hs ?_)
 refine wpG_step ?_
 refine wpAny_isInstance (hTb _) by_not_ba ?_
 dsimp only
 refine wpG_if_true rfl ?_
 refine wpG_step ?_
 refine wpAny_bind (wpAny_bind (wpAny_specialOf (hTb _) by_index (wpAny_pure ?_)))
 show wpAny _ _ (specialOf (.bytes #[v] t) (Str.ofString "__int__") >>= fun x => pure x.isSome >>= fun b => _) _ _ _
 refine wpAny_bind (wpAny_specialOf (hTb _) by_no_int (wpAny_bind (wpAny_pure ?_)))
 show wpAny _ _ (specialOf (.bytes #[v] t) (Str.ofString "__float__") >>= fun x => pure x.isSome >>= fun b => _) _ _ _
 refine wpAny_bind (wpAny_specialOf (hTb _) by_no_float (wpAny_bind (wpAny_pure ?_)))
 show wpAny _ _ (isInstance (.bytes #[v] t) (.type "complex")) _ _ _
 refine wpAny_isInstance (hTb _) by_not_complex ?_
 refine wpG_step_eq (a := none) rfl ?_
 refine wpG_if_false rfl ?_
 refine wpG_step (wpAny_rule ?_)
 refine wpG_bind (call_ba_G hg (by show 1 ≤ 1000; decide) fun h₁ hS hsb => ?_)
 have hlt : a < s.heap.objs.size := Heap.lt_size ha
 have hlts : sl < s.heap.objs.size := let ⟨o, ho, _⟩ := hs; Heap.lt_size ho
 have ha1 : h₁.get? a = some (baObj u) := hsb.extBut a _ (Nat.ne_of_lt hlt) (Heap.get?_push_of_some _ ha)
 have hs1 : h₁.IsSliceOf sl .none .none .none := by
  obtain ⟨o, ho, hc, hd⟩ := hs
  exact ⟨o, hsb.extBut sl _ (Nat.ne_of_lt hlts) (Heap.get?_push_of_some _ ho), hc, hd⟩
 refine wpG_bind (wpG_holding (wpG_of (slice_parts (s := { s with heap := h₁ }) hs1 ?_)))
 refine wpG_step (payload_ba (s := { s with heap := h₁ }) hS ?_)
 refine wpG_step (payload_ba (s := { s with heap := h₁ }) ha1 ?_)
 refine wpG_step_eq (sliceIndices_raw none none none 1 (fun e => nomatch e)) ?_
 dsimp only
 refine wpG_if_true rfl ?_
 refine wpG_step (wpAny_rule ?_)
 refine wpG_if_false rfl ?_
 refine wpG_step (write_ba (s := { s with heap := h₁ }) ha1 ?_ ?_)
 ·show (#[u].extract 0 0 ++ #[v] ++ #[u].extract 1 1).size ≤ 1000
  simp
 refine wpG_pure ?_
 show wpG _ _ (pure ()) _ _ _
 refine wpG_pure (h h₁ _ hsb (Heap.SameBut.update ..) ?_)
 have e := Heap.get?_update_self (Obj.mapBytearray fun b => b.extract 0 (sliceBounds none none none 1).1.toNat ++ #[v] ++ b.extract (max (sliceBounds none none none 1).1 (sliceBounds none none none 1).2.1).toNat b.size) ha1 rfl
 rw [e]
 show some _ = some _
 congr 1
end
theorem IntsAre.snoc_inv {vs : List Value} {ns : List Int} {n : Int} (h : IntsAre vs (ns ++ [n])) : ∃ vs0 t, vs = vs0 ++ [.int n t] ∧ IntsAre vs0 ns := by
 induction ns generalizing vs with
 | nil => cases h with | cons m u r => cases r; exact ⟨[], u, rfl, .nil⟩
 | cons k ns ih =>
  cases h with
  | cons m u r =>
   obtain ⟨vs0, t, rfl, h0⟩ := ih r
   exact ⟨_, t, rfl, .cons k u h0⟩
theorem eq_nil_or_snoc {α : Type} (l : List α) : l = [] ∨ ∃ ini x, l = ini ++ [x] := by
 cases l with
 | nil => exact .inl rfl
 | cons a l => exact .inr ⟨(a :: l).dropLast, (a :: l).getLast (by simp), (List.dropLast_concat_getLast _).symm⟩
theorem path_rep {T : TS} (n len w : Nat) : ∀ {t : Tr}, Rep T t → ∀ p ∈ path n len w t, getN T p.1 = some p.2 ∧ 0 ≤ p.1
 | .nil, _, p, hp => nomatch hp
 | .nd i a l r, R, p, hp => by
  unfold path at hp
  split at hp
  ·cases hp
  ·split at hp
   ·rcases List.mem_singleton.mp hp with rfl; exact ⟨R.2.1, R.1⟩
   ·rcases List.mem_cons.mp hp with rfl | hp
    ·exact ⟨R.2.1, R.1⟩
    ·split at hp
     ·exact path_rep n len w R.2.2.2.2.1 p hp
     ·exact path_rep n len w R.2.2.2.2.2 p hp
theorem last_item {w : World} {Ar : Around} {E : Value → Shared → Prop} {s : Shared} {value slice : PySem.Expr} {Q : Value → Shared → Prop} {t : Tok} {a : Addr} {its0 : List Value} {x : Value} (hl : s.heap.IsList a (its0 ++ [x]).toArray) (h : Q x s)
  (hs : autoParam (subscripted slice false (.ref a) (.int (-1) t) = operate [.ref a, .int (-1) t] (getItem (.ref a) (.int (-1) t))) sub_K._auto_1) :
  wpAny (model PR w) Ar (subscriptTail value slice (.ref a) (.int (-1) t)) Q E s := by
 refine tail_any hl.typeIs slot_list_getitem.lookup (wpAny_getItem_list_neg hl (by lia) ?_ (by lia) (x := x) ?_ h) hs
 ·simp only [List.size_toArray, List.length_append, List.length_cons, List.length_nil]; lia
 ·have e : ((-1 : Int) + ((its0 ++ [x]).toArray.size : Int)).toNat = its0.length := by simp only [List.size_toArray, List.length_append, List.length_cons, List.length_nil]; lia
  rw [e]
  simp
noncomputable def pathAt (n kl wv : Nat) (t : Tr) : Int := match (path n kl wv t).getLast? with | some (i, a) => if a.len = kl then i else -1 | none => -1
noncomputable def exactT (n kl wv : Nat) (t : Tr) : Int := if n < kl then -1 else pathAt n kl wv t
theorem dw_lt_aux : ∀ (d : List UInt8) (acc : Nat), d.foldl (fun a x => a * 256 + x.toNat) acc < (acc + 1) * 2 ^ (8 * d.length)
 | [], acc => by simp
 | x :: d, acc => by
  have h := dw_lt_aux d (acc * 256 + x.toNat)
  have hx := x.toNat_lt
  have e : 2 ^ (8 * (x :: d).length) = 256 * 2 ^ (8 * d.length) := by
   rw [List.length_cons, Nat.mul_add, Nat.pow_add, Nat.mul_comm]
  rw [List.foldl_cons, e, ← Nat.mul_assoc]
  refine Nat.lt_of_lt_of_le h (Nat.mul_le_mul_right _ ?_)
  lia
theorem dw_lt {d : List UInt8} {n : Nat} (h : d.length = n) : dw d < 2 ^ (8 * n) := by
 have := dw_lt_aux d 0
 rw [h, Nat.zero_add, Nat.one_mul] at this
 exact this
section
variable {d : Df} {c : Cx} {l : Fs} {N : Led} {A : TA} {T : TS} {root : Int} {K : KE}
theorem CallS.key_parts {a b c' e : UInt8} {ds : List UInt8} (hlv : 2 ≤ d.lv) (hd : ds.length ≤ 8) (h : ∀ r t1 t2, (∀ p ∈ N, p.1 ≠ r) → K (.v (.ref r)) ((r, tupO [.int (kl a b c' e) t1, .int (dw ds) t2]) :: N)) : CallS d c l 318 [.b (a :: b :: c' :: e :: ds).toArray] N K :=
 CallS.of N (fun ts => sp_key_parts d.w a b c' e ds (ts 0) hd) ⟨fun _ h => absurd h List.not_mem_nil, fun _ h => absurd h List.not_mem_nil, fun _ h => absurd h List.not_mem_nil, fun _ h => h, fun _ h => absurd h List.not_mem_nil, hlv⟩ fun v O' ⟨r, t1, t2, ev, eO⟩ ap => ⟨.v (.ref r), _, ⟨0, ev⟩, h r t1 t2 (by subst eO; exact fun p hp => ap p hp _ (.head _)), by rw [eO]; exact fun _ h => h⟩
theorem CallM.path {t : Tr} {ln wv : Nat} (hT : TrO d.w c N A T root) (hlv : 4 ≤ d.lv) (ht : Rep T t) (hr : root = t.id) (hz : t.size ≤ 1000) (hl : ln ≤ 8 * A.c) (hw : wv < 2 ^ (8 * A.c))
  (h : ∀ r its e, (∀ p ∈ N, p.1 ≠ r) → IntsAre its ((path (8 * A.c) ln wv t).map (·.1)) → K (.v (.ref r)) ((r, listOf its.toArray e) :: N)) : CallM d c l 430 A.self [.i ln, .i wv] N K :=
 CallM.read hT (fun ts rt D R => sp_path d.w A T D root rt t ln wv (ts 0) (ts 1) R ht hr hz hl hw) hlv fun v O' ⟨r, its, e, ev, eO, hi⟩ ap => ⟨.v (.ref r), _, ⟨0, ev⟩, h r its e (by subst eO; exact fun p hp => ap p hp _ (.head _)) hi, by rw [eO]; exact fun _ h => h⟩
theorem CmpS.eqL {r1 r2 : Addr} {vs us : List Value} {ns ms : List Int} {n1 n2 : Nat} {KT KF : Led → Prop} (NT NF : Led) (hlv : 8 ≤ d.lv) (h1 : (r1, listOf vs.toArray n1) ∈ N) (hi : IntsAre vs ns) (h2 : (r2, listOf us.toArray n2) ∈ N) (hj : IntsAre us ms) (hsT : ∀ p ∈ NT, p ∈ N) (hsF : ∀ p ∈ NF, p ∈ N)
  (hT : ns = ms → KT NT) (hF : ns ≠ ms → KF NF) : CmpS d c l .Eq (.v (.ref r1)) (.v (.ref r2)) N KT KF := fun t u s Q hS hQ =>
 eq_intsK (News.isList hS.news h1) hi (News.isList hS.news h2) hj (by
  have h1 := hS.ok.hu
  have h2 : 8 * 8 ≤ 8 * d.lv := Nat.mul_le_mul_left 8 hlv
  show c.un + 64 < cLine
  lia) (by
   by_cases he : ns = ms
   ·exact hQ _ NT s (fun _ => hT he) (fun e => absurd he (of_decide_eq_false e)) (hS.sub (fun _ h => h) hsT)
   ·exact hQ _ NF s (fun e => absurd (of_decide_eq_true e) he) (fun _ => hF he) (hS.sub (fun _ h => h) hsF))
theorem CmpS.neL {r1 r2 : Addr} {vs us : List Value} {ns ms : List Int} {n1 n2 : Nat} {KT KF : Led → Prop} (NT NF : Led) (hlv : 8 ≤ d.lv) (h1 : (r1, listOf vs.toArray n1) ∈ N) (hi : IntsAre vs ns) (h2 : (r2, listOf us.toArray n2) ∈ N) (hj : IntsAre us ms) (hsT : ∀ p ∈ NT, p ∈ N) (hsF : ∀ p ∈ NF, p ∈ N)
  (hT : ns ≠ ms → KT NT) (hF : ns = ms → KF NF) : CmpS d c l .NotEq (.v (.ref r1)) (.v (.ref r2)) N KT KF := fun t u s Q hS hQ =>
 ne_intsK (News.isList hS.news h1) hi (News.isList hS.news h2) hj (by
  have h1 := hS.ok.hu
  have h2 : 8 * 8 ≤ 8 * d.lv := Nat.mul_le_mul_left 8 hlv
  show c.un + 64 < cLine
  lia) (by
   by_cases he : ns = ms
   ·exact hQ _ NF s (fun e => absurd he (by simpa using e)) (fun _ => hF he) (hS.sub (fun _ h => h) hsF)
   ·exact hQ _ NT s (fun _ => hT he) (fun e => absurd (by simpa using e) he) (hS.sub (fun _ h => h) hsT))
theorem ItemS.neg {ie : PySem.Expr} {r : Addr} {vs : List Value} {ns : List Int} {n : Nat} {k x : Int} (N' : Led) (hm : (r, listOf vs.toArray n) ∈ N) (hi : IntsAre vs ns) (h0 : k < 0) (h1 : -(ns.length : Int) ≤ k) (hfit : -(2 ^ 63) ≤ k) (hx : ns.getD (k + ns.length).toNat 0 = x) (hn : ∀ p ∈ N', p ∈ N) (h : K (.i x) N')
  (hs : autoParam (∀ u, subscripted ie false (.ref r) (.int k u) = operate [.ref r, .int k u] (getItem (.ref r) (.int k u))) kim_tup._auto_3) : ItemS d c l ie (.v (.ref r)) (.i k) N K := fun t u s Q hS hQ =>
 item_list_ints_negR (News.isList hS.news hm) hi h0 h1 hfit (fun t => hQ.use (sh := .i _) t (hx ▸ h) (hS.sub (fun _ h => h) hn)) (hs u)
end
theorem me445 (w : World) : MethAt w 585 "check_key" 129 ∧ MethAt w 585 "path" 430 := by
 refine ⟨?_, ?_⟩ <;> exact ⟨by k_is, by k_is, by k_is, by k_is⟩
theorem fn318 (w : World) : FnAt w "key_parts" 318 := by
 refine ⟨?_, ?_⟩ <;> k_is
noncomputable def St_sp_exact (w : World) (A : TA) (T : TS) (D : Led) (t : Tr) (rt : Tok) (a b c e : UInt8) (d : List UInt8) (k : Tok) (root : Int) : Prop := ∀ (R : TR w A T D) (ht : Rep T t) (hz : t.size ≤ 1000) (hd : d.length = A.c) (hroot : root = t.id), Sp w 445 20 [.ref A.self, .bytes (a :: b :: c :: e :: d).toArray k] (TP A root rt D) [] (fun v O' => O' = [] ∧ ∃ t', v = .int (exactT (8 * A.c) (kl a b c e) (dw d) t) t')
theorem sp_exact : A13 St_sp_exact := by
 refine' ey13 (ne_P ne_W (ne_P ne_TA (ne_P ne_TS (ne_P ne_L (ne_P ne_Tr (ne_P ne_N (ne_P ne_U (ne_P ne_U (ne_P ne_U (ne_P ne_U (ne_P ne_L (ne_P ne_N ne_I)))))))))))) ((?f9 : A13 St_sp_exact) _ _ _ _ _ _ _ _ _ _ _ _ _)
 intro w A T D t rt a b c e d k root R ht hz hd hroot
 have hc := R.cb.2
 have hdw : dw d < 2 ^ (8 * A.c) := dw_lt hd
 refine' Sp.of_W [("key", .b (a :: b :: c :: e :: d).toArray), ("self", .v (.ref A.self))] ?ho ?hcd ?hbind ?hloc ?hco ?hgen ?hk ?hcell ?hl ?_
 walk_at "ds prem0"
 case hl => exact rfl
 refine' ent_all ((?f8 : ∀ c R', Ent _ _ _ _ _ _ c R') _ _); intro k R' l0 hP hR
 have hT : ∀ N, TrO w k N A T root := fun N => ⟨rt, D, R, fun p hp => .inr (hP p hp)⟩
 have hR9 : ∀ x t', exactT (8 * A.c) (kl a b c e) (dw d) t = x → R' (.int x t') [] := fun x t' e => hR _ _ ⟨rfl, t', e ▸ rfl⟩
 clear hP l0 hR
 refine Bk.tupC ["length", "worth"] ?_ (hk := all2 rfl rfl)
 refine RawE.fn (fn318 w) ?_
 refine RawE.mself (me445 w).1 (And.intro rfl (And.intro (hT _) ?_))
 refine CallM.check_key (hT _) (lb9 rfl) hd hc ?_
 refine CallS.key_parts (lb9 rfl) (by lia) (fun r u1 u2 _ => ?_)
 refine TupK.mk _ [] (.head _) rfl sub_nil ?_
 refine vcS_sound 10 ?_
 refine RawE.mself (x := "size") (me423 w).2 (And.intro rfl (And.intro (hT _) ?_))
 refine CallM.size (hT _) (lb9 rfl) ?_
 refine And.intro (fun hlt => ?_) (fun hge => ?_)
 ·refine RawE.NODE ?_
  exact fun t' => hR9 _ t' (by unfold exactT; rw [if_pos (by lia)])
 have hkl : kl a b c e ≤ 8 * A.c := by lia
 refine RawE.mself (x := "path") (me445 w).2 (And.intro rfl (And.intro (hT _) ?_))
 refine CallM.path (hT _) (lb9 rfl) ht hroot hz hkl hdw (fun wy its e9 _ hi => ?_)
 intro ts er hlt
 refine CmpS.eqL [] [(wy, _)] (lb9 rfl) (.tail _ (.head _)) hi (.head _) .nil sub_nil (fun _ h => .tail _ h) (fun he => ?_) (fun hne => ?_)
 ·refine RawE.NODE ?_
  exact fun t' => hR9 _ t' (by unfold exactT pathAt; rw [if_neg (by lia), List.map_eq_nil_iff.mp he]; rfl)
 ·rcases eq_nil_or_snoc (path (8 * A.c) (kl a b c e) (dw d) t) with hpath | ⟨ini, ⟨i, nd⟩, hpath⟩
  ·exact absurd (by rw [hpath]; rfl) hne
  obtain ⟨hgi, hi0⟩ := path_rep _ _ _ ht (i, nd) (by rw [hpath]; simp)
  dsimp only at hgi hi0
  rw [hpath, List.map_append] at hi
  have hlen : (ini.map (·.1) ++ [(i, nd)].map (·.1)).length = ini.length + 1 := by simp
  have hx : (ini.map (·.1) ++ [(i, nd)].map (·.1)).getD (-1 + ((ini.map (·.1) ++ [(i, nd)].map (·.1)).length : Int)).toNat 0 = i := by
   rw [hlen, show (-1 + ((ini.length + 1 : Nat) : Int)).toNat = ini.length by lia]
   simp
  refine AttrS.nodes (hT _) ?_
  refine ItemS.neg [(wy, _)] (.head _) hi (by decide) (by rw [hlen]; lia) (by decide) hx (fun _ h => h) ?_
  refine ItemS.node (hT _) hgi ?_
  refine AttrS.len (hT _) hgi ?_
  refine And.intro (fun h1 => ?_) (fun h1 => ?_)
  ·refine RawE.drop [] sub_nil (RawE.NODE ?_)
   exact fun t' => hR9 _ t' (by unfold exactT pathAt; rw [if_neg (by lia), hpath, List.getLast?_concat]; dsimp only; rw [if_neg (by lia)])
  ·refine ItemS.neg [] (.head _) hi (by decide) (by rw [hlen]; lia) (by decide) hx sub_nil ?_
   exact fun t' => hR9 _ t' (by unfold exactT pathAt; rw [if_neg (by lia), hpath, List.getLast?_concat]; dsimp only; rw [if_pos (by lia)])
section
variable {d : Df} {c : Cx} {l : Fs} {N : Led} {A : TA} {T : TS} {root : Int} {K : KE}
theorem CallM.exact {t : Tr} {a b c' e : UInt8} {ds : List UInt8} (hT : TrO d.w c N A T root) (hlv : 20 ≤ d.lv) (ht : Rep T t) (hr : root = t.id) (hz : t.size ≤ 1000) (hd : ds.length = A.c) (h : K (.i (exactT (8 * A.c) (kl a b c' e) (dw ds) t)) N) :
  CallM d c l 445 A.self [.b (a :: b :: c' :: e :: ds).toArray] N K :=
 CallM.readI hT hlv (fun ts rt D R => sp_exact d.w A T D t rt a b c' e ds (ts 0) root R ht hz hd hr) h
end
noncomputable def peerT (T : TS) (n kl wv : Nat) (t : Tr) : Option Int := if exactT n kl wv t = -1 then none else (getN T (exactT n kl wv t)).bind fun nd => if nd.slot = -1 then none else some nd.slot
noncomputable def OptI (v : Value) : Option Int → Prop
 | none => v = .none
 | some i => ∃ t, v = .int i t
theorem exact_cases {T : TS} (n kl wv : Nat) {t : Tr} (ht : Rep T t) : exactT n kl wv t = -1 ∨ ∃ i nd, exactT n kl wv t = i ∧ getN T i = some nd ∧ 0 ≤ i ∧ nd.len = kl := by
 unfold exactT
 split
 ·exact .inl rfl
 ·rcases eq_nil_or_snoc (path n kl wv t) with hp | ⟨ini, ⟨i, nd⟩, hp⟩
  ·left; unfold pathAt; rw [hp]; rfl
  ·unfold pathAt; rw [hp, List.getLast?_concat]
   dsimp only
   split
   ·obtain ⟨h1, h2⟩ := path_rep _ _ _ ht (i, nd) (by rw [hp]; simp)
    exact .inr ⟨i, nd, rfl, h1, h2, by assumption⟩
   ·exact .inl rfl
theorem me452 (w : World) : MethAt w 585 "exact" 445 := by
 exact ⟨by k_is, by k_is, by k_is, by k_is⟩
noncomputable def St_sp_peer (w : World) (A : TA) (T : TS) (D : Led) (t : Tr) (rt : Tok) (a b c e : UInt8) (d : List UInt8) (k : Tok) (root : Int) : Prop := ∀ (R : TR w A T D) (ht : Rep T t) (hz : t.size ≤ 1000) (hd : d.length = A.c) (hroot : root = t.id), Sp w 452 22 [.ref A.self, .bytes (a :: b :: c :: e :: d).toArray k] (TP A root rt D) [] (fun v O' => O' = [] ∧ OptI v (peerT T (8 * A.c) (kl a b c e) (dw d) t))
theorem sp_peer : A13 St_sp_peer := by
 refine' ey13 (ne_P ne_W (ne_P ne_TA (ne_P ne_TS (ne_P ne_L (ne_P ne_Tr (ne_P ne_N (ne_P ne_U (ne_P ne_U (ne_P ne_U (ne_P ne_U (ne_P ne_L (ne_P ne_N ne_I)))))))))))) ((?f9 : A13 St_sp_peer) _ _ _ _ _ _ _ _ _ _ _ _ _)
 intro w A T D t rt a b c e d k root R ht hz hd hroot
 refine' Sp.of_W [("key", .b (a :: b :: c :: e :: d).toArray), ("self", .v (.ref A.self))] ?ho ?hcd ?hbind ?hloc ?hco ?hgen ?hk ?hcell ?hl ?_
 walk_at "ds prem0"
 case hl => exact rfl
 refine' ent_all ((?f8 : ∀ c R', Ent _ _ _ _ _ _ c R') _ _); intro q R' l0 hP hR
 have hT : ∀ N, TrO w q N A T root := fun N => ⟨rt, D, R, fun p hp => .inr (hP p hp)⟩
 clear hP l0
 refine vcS_sound 10 (RawE.mself (x := "exact") (me452 w) (And.intro rfl (And.intro (hT _) (CallM.exact (hT _) (lb9 rfl) ht hroot hz hd (RawE.NODE ?_)))))
 rcases exact_cases (8 * A.c) (kl a b c e) (dw d) ht with hex | ⟨i, nd, hex, hgi, hi0, hlen⟩
 ·refine And.intro (fun _ _ => hR _ _ ⟨rfl, ?_⟩) (fun h => absurd hex h)
  unfold peerT; rw [if_pos hex]; rfl
 ·rw [hex]
  refine And.intro (fun h => absurd h (by lia)) (fun _ => RawT.bool (RawE.mnode (A := A) (root := root) (x := "is_entry") (me360 w) hgi ?_))
  refine AttrS.nodes (hT _) (ItemS.node (hT _) hgi (And.intro rfl (And.intro (hT _) (CallM.is_entry (hT _) (lb9 rfl) hgi ⟨_, rfl, fun hb => ?_, fun hb _ => ?_⟩))))
  ·refine AttrS.nodes (hT _) (ItemS.node (hT _) hgi (AttrS.slot (hT _) hgi fun t => hR _ _ ⟨rfl, ?_⟩))
   unfold peerT; rw [hex, hgi, if_neg (by lia)]
   show OptI _ (if nd.slot = -1 then none else some nd.slot)
   rw [if_neg (of_decide_eq_true hb)]; exact ⟨t, rfl⟩
  ·refine hR _ _ ⟨rfl, ?_⟩
   unfold peerT; rw [hex, hgi, if_neg (by lia)]
   show OptI _ (if nd.slot = -1 then none else some nd.slot)
   rw [if_pos (Decidable.not_not.mp (of_decide_eq_false hb))]; rfl
theorem pigeon : ∀ (n : Nat) (l : List Int), (∀ j : Nat, j < n → (j : Int) ∈ l) → n ≤ l.length
 | 0, _, _ => Nat.zero_le _
 | n + 1, l, h => by
  have hn := h n (by lia)
  have h2 := pigeon n (l.erase (n : Int)) fun j hj => (List.mem_erase_of_ne (by lia)).mpr (h j (by lia))
  have h3 := List.length_erase_of_mem hn
  have h4 : 0 < l.length := List.length_pos_of_mem hn
  lia
theorem CmpS.used_in {d : Df} {c : Cx} {l : Fs} {N : Led} {A : TA} {T : TS} {root i : Int} {KT KF : Led → Prop} (hT : TrO d.w c N A T root) (h1 : i ∈ T.used → KT N) (h2 : i ∉ T.used → KF N) : CmpS d c l .In (.i i) (.v (.ref A.ud)) N KT KF := fun t u s Q hS hQ => by
 obtain ⟨rt, D, R, hA⟩ := hT.at hS
 exact Mine.used_in hA.tail.tail R (hQ _ N _ (fun e => h1 (of_decide_eq_true e)) (fun e => h2 (of_decide_eq_false e)) (hS.tok _))
noncomputable def St_sp_least_free (w : World) (A : TA) (T : TS) (D : Led) (root : Int) (rt : Tok) : Prop := ∀ (R : TR w A T D), Sp w 459 1 [.ref A.self] (TP A root rt D) [] (fun v O' => O' = [] ∧ ∃ (k : Nat) (t : Tok), v = .int (k : Int) t ∧ (k : Int) ∉ T.used ∧ ∀ j : Nat, j < k → (j : Int) ∈ T.used)
theorem sp_least_free : A6 St_sp_least_free := by
 refine' ey6 (ne_P ne_W (ne_P ne_TA (ne_P ne_TS (ne_P ne_L (ne_P ne_I ne_N))))) ((?f9 : A6 St_sp_least_free) _ _ _ _ _ _)
 intro w A T D root rt R
 refine' Sp.of_W [("self", .v (.ref A.self))] ?ho ?hcd ?hbind ?hloc ?hco ?hgen ?hk ?hcell ?hl ?_
 walk_at "ds prem0"
 case hl => exact rfl
 refine' ent_all ((?f8 : ∀ c R', Ent _ _ _ _ _ _ c R') _ _); intro q R' l0 hP hR
 have hT : ∀ N, TrO w q N A T root := fun N => ⟨rt, D, R, fun p hp => .inr (hP p hp)⟩
 clear hP l0
 refine vcS_sound 1 (Bk.whl (α := Nat) (fun a => [("slot", .i a), ("self", .v (.ref A.self))]) (fun _ => []) (fun a => ∀ j : Nat, j < a → (j : Int) ∈ T.used) (fun a => T.used.length + 1 - a) 0 (fun j hj => absurd hj (Nat.not_lt_zero _)) (subF_of ⟨rfl, rfl, trivial⟩) sub_nil fun c hI => ?_)
 refine AttrS.used (hT _) (CmpS.used_in (hT _) (fun hin => vcS_sound 10 ⟨c + 1, fun j hj => ?_, ?_, subF_of ⟨rfl, rfl, trivial⟩, sub_nil⟩) (fun hin => vcS_sound 10 fun t => hR _ _ ⟨rfl, c, t, rfl, hin, hI⟩))
 ·by_cases e : j = c
  ·subst e; exact hin
  ·exact hI j (by lia)
 ·have := pigeon c T.used hI
  have := pigeon (c + 1) T.used fun j hj => by
   by_cases e : j = c
   ·subst e; exact hin
   ·exact hI j (by lia)
  lia
noncomputable def lastE : List (Int × Nd) → Option Int
 | [] => none
 | p :: ps => match lastE ps with | some i => some i | none => if p.2.slot = -1 then none else some p.2.slot
noncomputable def lookT (n kl wv : Nat) (t : Tr) : Option Int := if n < kl then none else lastE (path n kl wv t)
theorem lastE_snoc (p : Int × Nd) : ∀ ps : List (Int × Nd), lastE (ps ++ [p]) = if p.2.slot = -1 then lastE ps else some p.2.slot
 | [] => by simp [lastE]
 | q :: ps => by
  rw [List.cons_append]
  unfold lastE
  rw [lastE_snoc p ps]
  by_cases h : p.2.slot = -1
  ·rw [if_pos h, if_pos h]
  ·rw [if_neg h, if_neg h]
theorem ints_get {vs : List Value} {ns : List Int} (h : IntsAre vs ns) : ∀ {i : Nat} {v : Value}, vs[i]? = some v → ∃ n t, ns[i]? = some n ∧ v = .int n t := by
 induction h with
 | nil => intro i v hv; simp at hv
 | cons m u r ih =>
  intro i v hv
  cases i with
  | zero => simp at hv; exact ⟨m, u, by simp, hv.symm⟩
  | succ i => simp at hv; obtain ⟨n, t, h1, h2⟩ := ih hv; exact ⟨n, t, by simpa using h1, h2⟩
--V
section
variable {d : Df} {c : Cx} {l : Fs} {N : Led} {A : TA} {T : TS} {root : Int} {K : KE}
end
theorem OptI.val {z : Value} {t : Tok} {o : Option Int} (h : OptI z o) : OptI ((Sh.of z).val t) o := by
 cases o with
 | none => cases (show z = .none from h); rfl
 | some i => obtain ⟨u, rfl⟩ := h; exact ⟨t, rfl⟩
noncomputable def St_sp_lookup (w : World) (A : TA) (T : TS) (D : Led) (t : Tr) (rt : Tok) (a b c e : UInt8) (d : List UInt8) (k : Tok) (root : Int) : Prop := ∀ (R : TR w A T D) (ht : Rep T t) (hz : t.size ≤ 1000) (hd : d.length = A.c) (hroot : root = t.id), Sp w 438 22 [.ref A.self, .bytes (a :: b :: c :: e :: d).toArray k] (TP A root rt D) [] (fun v O' => O' = [] ∧ OptI v (lookT (8 * A.c) (kl a b c e) (dw d) t))
theorem sp_lookup : A13 St_sp_lookup := by
 refine' ey13 (ne_P ne_W (ne_P ne_TA (ne_P ne_TS (ne_P ne_L (ne_P ne_Tr (ne_P ne_N (ne_P ne_U (ne_P ne_U (ne_P ne_U (ne_P ne_U (ne_P ne_L (ne_P ne_N ne_I)))))))))))) ((?f9 : A13 St_sp_lookup) _ _ _ _ _ _ _ _ _ _ _ _ _)
 intro w A T D t rt a b c e d k root R ht hz hd hroot
 have hc := R.cb.2
 have hdw : dw d < 2 ^ (8 * A.c) := dw_lt hd
 refine' Sp.of_W [("processor", .i 0), ("key", .b (a :: b :: c :: e :: d).toArray), ("self", .v (.ref A.self))] ?ho ?hcd ?hbind ?hloc ?hco ?hgen ?hk ?hcell ?hl ?_
 walk_at "ds prem0"
 case hl => exact rfl
 refine' ent_all ((?f8 : ∀ c R', Ent _ _ _ _ _ _ c R') _ _); intro k R' l0 hP hR
 have hT : ∀ N, TrO w k N A T root := fun N => ⟨rt, D, R, fun p hp => .inr (hP p hp)⟩
 clear hP l0
 refine Bk.tupC ["length", "worth"] ?_ (hk := all2 rfl rfl)
 refine RawE.fn (fn318 w) ?_
 refine RawE.mself (me445 w).1 (And.intro rfl (And.intro (hT _) ?_))
 refine CallM.check_key (hT _) (lb9 rfl) hd hc ?_
 refine CallS.key_parts (lb9 rfl) (by lia) (fun r u1 u2 _ => ?_)
 refine TupK.mk _ [] (.head _) rfl sub_nil ?_
 refine vcS_sound 2 ?_
 refine RawE.mself (x := "size") (me423 w).2 (And.intro rfl (And.intro (hT _) ?_))
 refine CallM.size (hT _) (lb9 rfl) ?_
 refine And.intro (fun hlt => ?_) (fun hge => ?_)
 ·intro _
  exact hR _ _ ⟨rfl, by unfold lookT; rw [if_pos (by lia)]; rfl⟩
 refine Bk.forW (α := Value) (fun _ z => [("found", .of z), ("self", .v (.ref A.self))]) (fun _ _ => []) (fun i z => OptI z (lastE ((path (8 * A.c) (kl a b c e) (dw d) t).take i))) .none ?_
 refine RawE.mself (x := "path") (me445 w).2 (And.intro rfl (And.intro (hT _) ?_))
 refine CallM.path (hT _) (lb9 rfl) ht hroot hz (by lia) hdw (fun wy its e9 _ hi => ?_)
 refine ⟨_, _, _, SrcW.list (.inl (.head _)) (fun s hS => (hS.news _ (.head _)).2.1), .loc rfl (subF_of ⟨rfl, rfl, trivial⟩) sub_nil ?_ ?_⟩
 ·rintro I i _ z own - ⟨v, hv, rfl⟩ hJ _ _
  obtain ⟨n, t9, hn, rfl⟩ := ints_get hi (by simpa using hv)
  obtain ⟨⟨n', nd⟩, hp, hn'⟩ : ∃ p, (path (8 * A.c) (kl a b c e) (dw d) t)[i]? = some p ∧ p.1 = n := by simpa using hn
  obtain rfl : n' = n := hn'
  obtain ⟨hgi, hi0⟩ := path_rep _ _ _ ht (n', nd) (List.mem_of_getElem? hp)
  dsimp only at hgi hi0
  have hl : lastE ((path (8 * A.c) (kl a b c e) (dw d) t).take (i + 1)) = if nd.slot = -1 then lastE ((path (8 * A.c) (kl a b c e) (dw d) t).take i) else some nd.slot := by
   rw [List.take_add_one, hp]
   exact lastE_snoc (n', nd) _
  refine vcS_sound 10 ?_
  refine RawT.bool ?_
  refine RawE.mnode (A := A) (root := root) (x := "is_entry") (me360 w) hgi ?_
  refine AttrS.nodes (hT _) ?_
  refine ItemS.node (hT _) hgi ?_
  refine And.intro rfl (And.intro (hT _) ?_)
  refine CallM.is_entry (hT _) (lb9 rfl) hgi ?_
  refine ⟨_, rfl, fun h => ?_, fun h => ?_⟩
  ·refine AttrS.nodes (hT _) ?_
   refine ItemS.node (hT _) hgi ?_
   refine AttrS.slot (hT _) hgi ?_
   exact ⟨.int nd.slot 0, by rw [hl, if_neg (of_decide_eq_true h)]; exact ⟨0, rfl⟩, subF_of ⟨rfl, rfl, trivial⟩, fun _ h => h, fun _ h => absurd h List.not_mem_nil⟩
  ·exact ⟨z, by rw [hl, if_pos (Decidable.not_not.mp (of_decide_eq_false h))]; exact hJ, subF_of ⟨rfl, rfl, trivial⟩, fun _ h => h, fun _ h => absurd h List.not_mem_nil⟩
 ·intro z hJ
  refine vcS_sound 10 ?_
  intro _
  refine hR _ _ ⟨rfl, ?_⟩
  rw [show its.length = (path (8 * A.c) (kl a b c e) (dw d) t).length by rw [hi.length, List.length_map], List.take_length] at hJ
  unfold lookT; rw [if_neg (by lia)]
  exact OptI.val hJ
section
variable {d : Df} {c : Cx} {l : Fs} {N : Led} {A : TA} {T : TS} {root : Int} {K : KE}
theorem CallM.peer {t : Tr} {a b c' e : UInt8} {ds : List UInt8} (hT : TrO d.w c N A T root) (hlv : 22 ≤ d.lv) (ht : Rep T t) (hr : root = t.id) (hz : t.size ≤ 1000) (hd : ds.length = A.c)
  (h0 : peerT T (8 * A.c) (kl a b c' e) (dw ds) t = none → K (.v .none) N) (h1 : ∀ i, peerT T (8 * A.c) (kl a b c' e) (dw ds) t = some i → K (.i i) N) : CallM d c l 452 A.self [.b (a :: b :: c' :: e :: ds).toArray] N K :=
 CallM.read hT (fun ts rt D R => sp_peer d.w A T D t rt a b c' e ds (ts 0) root R ht hz hd hr) hlv fun v O' ⟨e1, ho⟩ _ => by
  have hs : ∀ p ∈ N, p ∈ O' ++ N := fun p hp => List.mem_append_right _ hp
  cases hp : peerT T (8 * A.c) (kl a b c' e) (dw ds) t with
  | none => rw [hp] at ho; exact ⟨.v .none, N, ⟨0, ho⟩, h0 hp, hs⟩
  | some i => rw [hp] at ho; obtain ⟨u, ev⟩ := ho; exact ⟨.i i, N, ⟨u, ev⟩, h1 i hp, hs⟩
end
noncomputable def OptB (v : Value) : Option UInt8 → Prop
 | none => v = .none
 | some b => ∃ t, v = .bytes #[b] t
noncomputable def valT (T : TS) (n kl wv : Nat) (t : Tr) : Option UInt8 := (peerT T n kl wv t).bind fun s => (getV T s).map (·.2)
theorem meVal (w : World) : MethAt w 585 "peer" 452 := by
 exact ⟨by k_is, by k_is, by k_is, by k_is⟩
section
variable {d : Df} {c : Cx} {l : Fs} {N : Led} {A : TA} {T : TS} {root : Int} {K : KE}
theorem ItemS.val {ie : PySem.Expr} {i : Int} {a : Addr × UInt8} (hT : TrO d.w c N A T root) (hv : getV T i = some a) (h : OAt c N a.1 (baObj a.2) → K (.v (.ref a.1)) N)
  (hs : autoParam (∀ u, subscripted ie false (.ref A.vd) (.int i u) = operate [.ref A.vd, (.int i u)] (getItem (.ref A.vd) (.int i u))) kim_tup._auto_3) :
  ItemS d c l ie (.v (.ref A.vd)) (.i i) N K := fun t u s Q hS hQ => by
 obtain ⟨rt, D, R, hP⟩ := hT.ex
 exact vals_item (fun p hp => (hP p (.tail _ (.tail _ hp))).at hS) R hv (hQ.use (sh := .v (.ref a.1)) 0 (h (hP _ (.tail _ (.tail _ (R.val _ (getV_mem hv)))))) (hS.tok _)) (hs u) (fun _ => rfl)
theorem CallT.ba {a : Addr} {b : UInt8} (hm : OAt c N a (baObj b)) (h : K (.b #[b]) N) : CallT d c l "bytes" [.v (.ref a)] N K := fun ts s Q hS hQ =>
 call_bytes_bytearray (hm.at hS) fun t => hQ.use (sh := .b #[b]) t h (hS.tok _)
end
noncomputable def St_sp_value (w : World) (A : TA) (T : TS) (D : Led) (t : Tr) (rt : Tok) (a b c e : UInt8) (d : List UInt8) (k : Tok) (root : Int) : Prop := ∀ (R : TR w A T D) (ht : Rep T t) (hz : t.size ≤ 1000) (hd : d.length = A.c) (hroot : root = t.id) (hsv : ∀ s, peerT T (8 * A.c) (kl a b c e) (dw d) t = some s → ∃ p, getV T s = some p), Sp w 222 24 [.ref A.self, .bytes (a :: b :: c :: e :: d).toArray k] (TP A root rt D) [] (fun v O' => O' = [] ∧ OptB v (valT T (8 * A.c) (kl a b c e) (dw d) t))
theorem sp_value : A13 St_sp_value := by
 refine' ey13 (ne_P ne_W (ne_P ne_TA (ne_P ne_TS (ne_P ne_L (ne_P ne_Tr (ne_P ne_N (ne_P ne_U (ne_P ne_U (ne_P ne_U (ne_P ne_U (ne_P ne_L (ne_P ne_N ne_I)))))))))))) ((?f9 : A13 St_sp_value) _ _ _ _ _ _ _ _ _ _ _ _ _)
 intro w A T D t rt a b c e d k root R ht hz hd hroot hsv
 refine' Sp.of_W [("key", .b (a :: b :: c :: e :: d).toArray), ("self", .v (.ref A.self))] ?ho ?hcd ?hbind ?hloc ?hco ?hgen ?hk ?hcell ?hl ?_
 walk_at "ds prem0"
 case hl => exact rfl
 refine' ent_all ((?f8 : ∀ c R', Ent _ _ _ _ _ _ c R') _ _); intro q R' l0 hP hR
 have hT : ∀ N, TrO w q N A T root := fun N => ⟨rt, D, R, fun p hp => .inr (hP p hp)⟩
 clear hP l0
 refine vcS_sound 10 (RawE.mself (x := "peer") (meVal w) (And.intro rfl (And.intro (hT _) (CallM.peer (hT _) (lb9 rfl) ht hroot hz hd (fun hpe _ => ?_) (fun sl hpe => ?_)))))
 ·refine hR _ _ ⟨rfl, ?_⟩
  unfold valT; rw [hpe]; rfl
 ·obtain ⟨⟨pv, bv⟩, hgv⟩ := hsv sl hpe
  refine RawE.tfn (bBytes w) (AttrS.values (hT _) (ItemS.val (hT _) hgv fun ho => CallT.ba ho fun t => hR _ _ ⟨rfl, ?_⟩))
  unfold valT; rw [hpe]
  show OptB _ ((getV T sl).map (·.2))
  rw [hgv]; exact ⟨t, rfl⟩
noncomputable def pre : Tr → List (Int × Nd)
 | .nil => []
 | .nd i a l r => (i, a) :: (pre l ++ pre r)
theorem pre_len : ∀ t : Tr, (pre t).length = t.size
 | .nil => rfl
 | .nd i a l r => by
  have := pre_len l
  have := pre_len r
  simp only [pre, Tr.size, List.length_cons, List.length_append]; lia
theorem last_snoc9 : ∀ (p : List Value) (y : Value), kl_last (p ++ [y]) = some (p, y)
 | [], y => rfl
 | x :: p, y => by
  rw [List.cons_append]
  unfold kl_last
  rw [last_snoc9 p y]
theorem pop9 {w : World} {Ar : Around} {E : Value → Shared → Prop} {s : Shared} {h₀ : Heap} {L D : Addr} {m : Str → Option Value} {news news' : Led} {p : List Value} {y : Value} {n : Nat} {Q : Value → Shared → Prop} (F : Fr h₀ L s.heap m) (N : News h₀ L s.heap news) (U : Upd D (listOf (p ++ [y]).toArray n) (listOf p.toArray (n + 1)) news news') (hz : Side (p.length ≤ 5000))
  (h : ∀ h', Fr h₀ L h' m → News h₀ L h' news' → Q y { s with heap := h' }) : wpAny (model PR w) Ar (call (.builtin "list.pop") [.ref D]) Q E s :=
 kl_pop F N (by rw [show (p ++ [y]).toArray.toList = p ++ [y] from rfl]; exact last_snoc9 p y) U (by have := hz.out; rw [sizeLine_eq]; simp; lia) h
noncomputable def allRep (T : TS) (st : List Tr) : Prop := ∀ t ∈ st, Rep T t
noncomputable def stM : List Tr → Nat
 | [] => 0
 | t :: st => 2 * t.size + 1 + stM st
theorem stM_len : ∀ st : List Tr, st.length ≤ stM st
 | [] => Nat.le_refl _
 | t :: st => by have := stM_len st; simp only [stM, List.length_cons]; lia
--V
section
variable {d : Df} {c : Cx} {l : Fs} {N : Led} {K : KE}
theorem RawE.pop {o : PySem.Expr} {ap pos : Pos} {D : Addr} {p : List Value} {i : Int} {t : Tok} {n : Nat} (nf : Led)
  (h : vc d c 30 (.E l N o fun sh N1 => sh = .v (.ref D) ∧ (D, listOf (p ++ [Value.int i t]).toArray n) ∈ N1 ∧ p.length ≤ 5000 ∧ Upd D (listOf (p ++ [Value.int i t]).toArray n) (listOf p.toArray (n + 1)) N1 nf ∧ K (.i i) nf)) {pl : Sem Bool}
  (hc : autoParam (eval (.Call (.Attribute o "pop" ap) [] [] pos) (cE d c) = (do
   let ov ← eval o (cE d c)
   standAt ap.atName
   let (f, first) ← holding [ov] (getMethod ov "pop" pl)
   callWith pos f first (backTo pos (starEach [] (cE d c))) [])) name_B._auto_3) :
  RawE d c l N (.Call (.Attribute o "pop" ap) [] [] pos) K := fun s Q hS hQ => by
 refine MethodCall_ (pl := pl) (vc_sound 30 _ h s _ hS ?_) hc
 rintro v _ N1 s₁ ⟨u, rfl⟩ ⟨rfl, hm, hz, hU, k⟩ h₁
 refine listMethod_K h₁.news hm PySem.F.slot_list_pop PySem.F.type_list_pop ?_
 refine callWith_method0 ?_
 obtain ⟨ok, ⟨hp2, tk, rfl⟩, ⟨m, F, H⟩, hN⟩ := h₁
 exact pop9 F hN hU hz fun h' F' N' => hQ.use (sh := .i i) t k ⟨ok, ⟨_, _, rfl⟩, ⟨m, F', H⟩, N'⟩
end
noncomputable def St_sp_nodes_in_order (w : World) (A : TA) (T : TS) (D : Led) (t : Tr) (rt : Tok) (root : Int) : Prop := ∀ (R : TR w A T D) (ht : Rep T t) (hz : t.size ≤ 1000) (hroot : root = t.id), Sp w 530 20 [.ref A.self] (TP A root rt D) [] (fun v O' => ∃ r its e, v = .ref r ∧ O' = [(r, listOf its.toArray e)] ∧ IntsAre its ((pre t).map (·.1)))
theorem sp_nodes_in_order : A7 St_sp_nodes_in_order := by
 refine' ey7 (ne_P ne_W (ne_P ne_TA (ne_P ne_TS (ne_P ne_L (ne_P ne_Tr (ne_P ne_N ne_I)))))) ((?f9 : A7 St_sp_nodes_in_order) _ _ _ _ _ _ _)
 intro w A T D t rt root R ht hz hroot
 subst hroot
 refine' Sp.of_W [("self", .v (.ref A.self))] ?ho ?hcd ?hbind ?hloc ?hco ?hgen ?hk ?hcell ?hl ?_
 walk_at "ds prem0"
 case hl => exact rfl
 refine' ent_all ((?f8 : ∀ c R', Ent _ _ _ _ _ _ c R') _ _); intro k R' l0 hP hR
 have hT : ∀ N, TrO w k N A T t.id := fun N => ⟨rt, D, R, fun p hp => .inr (hP p hp)⟩
 clear hP l0
 refine Bk.tupD (names := ["found", "todo"]) ?_ (hk := all2 rfl rfl)
 intro ts fnd _
 refine AttrS.root9 (hT _) ?_
 intro ts2 tdo hnew
 have hne9 : fnd ≠ tdo := Nat.ne_of_lt (hnew _ (.head _))
 have U1 : ∀ {o o9 f : Obj}, Upd tdo o o9 [(tdo, o), (fnd, f)] [(tdo, o9), (fnd, f)] := Upd.head fun p hp => by rw [List.mem_singleton.mp hp]; exact hne9
 have U2 : ∀ {o o9 f : Obj}, Upd fnd o o9 [(tdo, f), (fnd, o)] [(tdo, f), (fnd, o9)] := Upd.tail (Ne.symm hne9) (Upd.head fun _ h => absurd h List.not_mem_nil)
 refine ⟨rfl, ?_⟩
 refine Bk.whl (α := List Tr × List Value × Nat × List Int × List Value × Nat) (fun a => [("found", .v (.ref fnd)), ("todo", .v (.ref tdo)), ("self", .v (.ref A.self))])
  (fun a => [(tdo, listOf a.2.1.toArray a.2.2.1), (fnd, listOf a.2.2.2.2.1.toArray a.2.2.2.2.2)]) (fun a => IntsAre a.2.1 (a.1.reverse.map Tr.id) ∧ IntsAre a.2.2.2.2.1 a.2.2.2.1 ∧ allRep T a.1 ∧ a.2.2.2.1 ++ (a.1.flatMap pre).map (·.1) = (pre t).map (·.1) ∧ stM a.1 ≤ 2 * t.size + 1) (fun a => stM a.1) ([t], [.int t.id (ts2 0)], 0, [], [], 0)
  ⟨IntsAre.cons _ _ IntsAre.nil, IntsAre.nil, (fun x hx => List.mem_singleton.mp hx ▸ ht), by simp, by simp [stM]⟩ (subF_of ⟨rfl, rfl, rfl, trivial⟩) (fun _ h => h) ?_
 rintro ⟨st, tits, e2, fs, fits, e1⟩ ⟨hti, hfi, hrep, hres, hst⟩
 dsimp only at hti hfi hrep hres hst ⊢
 have hfl : fits.length ≤ 1000 := by
  have h1 := congrArg List.length hres
  have h2 := pre_len t
  have h3 := hfi.length
  simp only [List.length_append, List.length_map] at h1
  lia
 intro ts er hlt
 refine CmpS.neL [(tdo, listOf tits.toArray e2), (fnd, listOf fits.toArray e1)] [(fnd, listOf fits.toArray e1)] (lb9 rfl) (.tail _ (.head _)) hti (.head _) .nil (fun _ h => .tail _ h) (fun _ h => .tail _ (.tail _ h)) (fun hne => ?_) (fun he => ?_)
 ·have htl : ∀ {its : List Value} {x : Tr} {st' : List Tr}, stM (x :: st') ≤ 2 * t.size + 1 → IntsAre its (st'.reverse.map Tr.id) → its.length ≤ 2001 := by
   intro its x st' hst0 hti0
   have h3 := hti0.length
   have h4 := stM_len st'
   simp only [List.length_map, List.length_reverse, stM] at h3 hst0
   lia
  cases st with
  | nil => exact absurd rfl hne
  | cons x st =>
   simp only [List.reverse_cons, List.map_append, List.map_cons, List.map_nil] at hti
   obtain ⟨tits0, t0, rfl, hti0⟩ := Mine.IntsAre.snoc_inv hti
   have htl := htl hst hti0
   refine vcS_sound 10 ?_
   refine RawE.pop (D := tdo) (p := tits0) (i := x.id) (t := t0) (n := e2) [(tdo, listOf tits0.toArray (e2 + 1)), (fnd, listOf fits.toArray e1)] (And.intro rfl (And.intro (.head _) (And.intro (Nat.le_trans htl (by decide)) (And.intro U1 ?_))))
   refine RawE.NODE ?_
   cases x with
   | nil =>
    refine And.intro (fun h => absurd rfl h) (fun _ => ?_)
    exact ⟨(st, tits0, e2 + 1, fs, fits, e1), ⟨hti0, hfi, fun y hy => hrep y (.tail _ hy), by simpa [pre] using hres, by simp only [stM] at hst; dsimp only; lia⟩, by show stM st < stM (Tr.nil :: st); simp only [stM]; lia, subF_of ⟨rfl, rfl, rfl, trivial⟩, fun _ h => h⟩
   | nd i a lt rt =>
    obtain ⟨h0, hv, hc0, hc1, hL, hR'⟩ := hrep _ (.head _)
    refine And.intro (fun _ => ?_) (fun h => absurd h (by show ¬ i = -1; lia))
    refine RawE.append (D := fnd) (its := fits) (n := e1) (fun v => [(tdo, listOf tits0.toArray (e2 + 1)), (fnd, listOf (fits ++ [v]).toArray (e1 + 1))]) (And.intro rfl (And.intro (.tail _ (.head _)) (And.intro (Nat.le_trans hfl (by decide)) (fun t4 => And.intro U2 ?_))))
    have e0 : child a 0 = lt.id := hc0
    have e1' : child a 1 = rt.id := hc1
    refine RawE.append (D := tdo) (its := tits0) (n := e2 + 1) (fun v => [(tdo, listOf (tits0 ++ [v]).toArray (e2 + 1 + 1)), (fnd, listOf (fits ++ [Value.int i t4]).toArray (e1 + 1))]) (And.intro rfl (And.intro (.head _) ?_))
    refine AttrS.nodes (hT _) ?_
    refine ItemS.node (hT _) hv ?_
    refine AttrS.children (hT _) hv ?_
    refine ItemS.child (b := 1) (hT _) hv rfl (by decide) ?_
    refine And.intro (Nat.le_trans htl (by decide)) (fun t5 => And.intro U1 ?_)
    refine RawE.append (D := tdo) (its := tits0 ++ [Value.int (child a 1) t5]) (n := e2 + 1 + 1) (fun v => [(tdo, listOf (tits0 ++ [Value.int (child a 1) t5] ++ [v]).toArray (e2 + 1 + 1 + 1)), (fnd, listOf (fits ++ [Value.int i t4]).toArray (e1 + 1))]) (And.intro rfl (And.intro (.head _) ?_))
    refine AttrS.nodes (hT _) ?_
    refine ItemS.node (hT _) hv ?_
    refine AttrS.children (hT _) hv ?_
    refine ItemS.child (b := 0) (hT _) hv rfl (by decide) ?_
    refine And.intro (by rw [List.length_append]; exact Nat.le_trans (Nat.add_le_add_right htl 1) (by decide)) (fun t6 => And.intro U1 ?_)
    refine ⟨(lt :: rt :: st, tits0 ++ [Value.int (child a 1) t5] ++ [Value.int (child a 0) t6], e2 + 1 + 1 + 1, fs ++ [i], fits ++ [Value.int i t4], e1 + 1), ⟨?_, Mine.IntsAre.snoc hfi i _, ?_, ?_, ?_⟩, ?_, subF_of ⟨rfl, rfl, rfl, trivial⟩, fun _ h => h⟩
    ·rw [e0, e1']
     have h1 := fun u1 u2 => Mine.IntsAre.snoc (Mine.IntsAre.snoc hti0 rt.id u1) lt.id u2
     simp only [List.reverse_cons, List.map_append, List.map_cons, List.map_nil]
     exact h1 _ _
    ·intro y hy
     rcases List.mem_cons.mp hy with rfl | hy
     ·exact hL
     ·rcases List.mem_cons.mp hy with rfl | hy
      ·exact hR'
      ·exact hrep y (.tail _ hy)
    ·rw [← hres]; simp [pre]
    ·simp only [stM, Tr.size] at hst ⊢; lia
    ·show stM (lt :: rt :: st) < stM (Tr.nd i a lt rt :: st)
     simp only [stM, Tr.size]; lia
 ·refine vcS_sound 2 ?_
  intro _
  refine hR _ _ ⟨_, _, _, rfl, rfl, ?_⟩
  have e0 : st = [] := by simpa using he
  subst e0
  rw [← hres]; simpa using hfi
noncomputable def oc (w c j : Nat) : UInt8 := UInt8.ofNat (w / 2 ^ (8 * (c - 1 - j)) % 256)
noncomputable def octs (w c : Nat) : List UInt8 := (List.range c).map fun j => oc w c j
noncomputable def keyB (c len w : Nat) : List UInt8 := le4 len ++ octs w c
theorem e8_div (c : Nat) : (((8 * c : Nat) : Int)).fdiv 8 = (c : Int) := by rw [show (8 : Int) = ((8 : Nat) : Int) from rfl, Int.fdiv_eq_ediv_of_nonneg _ (by lia)]; lia
theorem CallS.make_key {d : Df} {c : Cx} {l : Fs} {N : Led} {K : KE} {n : Nat} {ds : List UInt8} {items : List Value} {r : Addr} {e : Nat} (hlv : 2 ≤ d.lv) (hm : OAt c N r (listOf items.toArray e)) (hi : IntsAre items (byteInts ds)) (hd : ds.length ≤ 64) {N' : Led} (hs : ∀ p ∈ N', p ∈ N) (h : K (.b (le4 n ++ ds).toArray) N') : CallS d c l 311 [.i n, .v (.ref r)] N K :=
 CallS.of N' (fun ts => sp_make_key d.w n ds items r _ (ts 0) e hi hd rfl) ⟨fun p hp => by rw [List.mem_singleton.mp hp]; exact hm, fun _ h => absurd h List.not_mem_nil, fun _ h => absurd h List.not_mem_nil, hs, fun _ h => absurd h List.not_mem_nil, hlv⟩
  fun v O' ⟨e1, t, ev⟩ _ => ⟨.b _, N', ⟨t, ev⟩, h, by rw [e1]; exact fun _ h => h⟩
noncomputable def St_sp_node_key (w : World) (A : TA) (T : TS) (D : Led) (rt : Tok) (root : Int) (i : Int) (ti : Tok) (nd : Nd) : Prop := ∀ (R : TR w A T D) (hgi : getN T i = some nd), Sp w 537 4 [.ref A.self, .int i ti] (TP A root rt D) [] (fun v O' => O' = [] ∧ ∃ t, v = .bytes (keyB A.c nd.len nd.w).toArray t)
theorem sp_node_key : A9 St_sp_node_key := by
 refine' ey9 (ne_P ne_W (ne_P ne_TA (ne_P ne_TS (ne_P ne_L (ne_P ne_N (ne_P ne_I (ne_P ne_I (ne_P ne_N ne_Nd)))))))) ((?f9 : A9 St_sp_node_key) _ _ _ _ _ _ _ _ _)
 intro w A T D rt root i ti nd R hgi
 have hcb := R.cb
 obtain ⟨hwa, hla⟩ := R.wb _ (getN_mem hgi)
 dsimp only at hwa hla
 refine' Sp.of_W [("here", .i i), ("self", .v (.ref A.self))] ?ho ?hcd ?hbind ?hloc ?hco ?hgen ?hk ?hcell ?hl ?_
 walk_at "ds prem0"
 case hl => exact rfl
 refine' ent_all ((?f8 : ∀ c R', Ent _ _ _ _ _ _ c R') _ _); intro k R' l0 hP hR
 have hT : ∀ N, TrO w k N A T root := fun N => ⟨rt, D, R, fun p hp => .inr (hP p hp)⟩
 clear hP l0
 refine Bk.tupD (names := ["node", "octets"]) ?_ (hk := all2 rfl rfl)
 refine AttrS.nodes (hT _) (ItemS.node (hT _) hgi fun ts ol _ => And.intro rfl ?_)
 refine Bk.forW (α := List Value × Nat) (fun _ _ => [("node", .v (.ref nd.x)), ("octets", .v (.ref ol)), ("self", .v (.ref A.self))]) (fun _ z => [(ol, listOf z.1.toArray z.2)]) (fun i z => IntsAre z.1 (byteInts ((List.range i).map fun j => oc nd.w A.c j))) ([], 0) ?_
 refine RawE.tfn (bRange w) (RawE.mself (x := "size") (me423 w).2 (And.intro rfl (And.intro (hT _) (CallM.size (hT _) (lb9 rfl) ?_))))
 refine OpS.fdiv (by lia) (e8_div A.c) (CallT.range1 fun r t u v _ => ⟨A.c, _, _, .range (.head _) (small_one (by lia) (by lia) (by lia) (by lia)) (by rw [rangeSize_nat]; lia), .loc .nil (subF_of ⟨rfl, rfl, rfl, trivial⟩) (fun _ h => .tail _ h) ?_ ?_⟩)
 ·rintro I i sh ⟨its, e⟩ own hi rfl hJ hnI hown
  dsimp only at hJ hnI
  have hil : its.length = i := by have := hJ.length; simpa [byteInts] using this
  have hne : ol ≠ I := hnI _ (.head _)
  refine vcS_sound 10 (RawE.append (D := ol) (its := its) (n := e) (fun v => (ol, listOf (its ++ [v]).toArray (e + 1)) :: own) (And.intro rfl (And.intro (.head _) ?_)))
  refine AttrS.worth (hT _) hgi (RawE.mself (x := "size") (me423 w).2 (And.intro rfl (And.intro (hT _) (CallM.size (hT _) (lb9 rfl) ?_))))
  refine OpS.mul (by lia) (OpS.shr nd.w (8 * (A.c - 1 - i)) rfl (by lia) (OpS.and9 (bitAnd255_nat _) (And.intro (by lia) fun t9 => And.intro (Upd.head fun p hp => ?_) ⟨(its ++ [(Sh.i ((nd.w / 2 ^ (8 * (A.c - 1 - i)) % 256 : Nat) : Int)).val t9], e + 1), ?_, subF_of ⟨rfl, rfl, rfl, trivial⟩, fun _ h => h, fun p hp => ?_⟩)))
  ·rw [(hown p hp).elim id fun h => absurd h List.not_mem_nil]; exact fun e => hne e.symm
  ·have h2 : byteInts ((List.range (i + 1)).map fun j => oc nd.w A.c j) = byteInts ((List.range i).map fun j => oc nd.w A.c j) ++ [((nd.w / 2 ^ (8 * (A.c - 1 - i)) % 256 : Nat) : Int)] := by
    unfold byteInts
    rw [List.range_succ]
    simp [oc]
   rw [h2]
   exact Mine.IntsAre.snoc hJ _ _
  ·rw [List.mem_singleton.mp hp]; exact hne
 ·rintro ⟨its, e⟩ hJ
  dsimp only at hJ
  refine vcS_sound 10 (RawE.fn (fnA w).2.2.2.2.2 (AttrS.len (hT _) hgi (CallS.make_key (ds := octs nd.w A.c) (lb9 rfl) (.inl (.head _)) hJ (by rw [octs, List.length_map, List.length_range]; lia) (N' := []) (fun _ h => absurd h List.not_mem_nil) fun t => hR _ _ ⟨?_, t, rfl⟩)))
  rfl
inductive KeysAre : List Value → List (List UInt8) → Prop
 | nil : KeysAre [] []
 | cons (b : List UInt8) (t : Tok) {vs : List Value} {bs : List (List UInt8)} : KeysAre vs bs → KeysAre (.bytes b.toArray t :: vs) (b :: bs)
theorem KeysAre.snoc {vs : List Value} {bs : List (List UInt8)} (h : KeysAre vs bs) (b : List UInt8) (t : Tok) : KeysAre (vs ++ [.bytes b.toArray t]) (bs ++ [b]) := by
 induction h with
 | nil => exact .cons b t .nil
 | cons c u _ ih => exact .cons c u ih
theorem KeysAre.length {vs : List Value} {bs : List (List UInt8)} (h : KeysAre vs bs) : vs.length = bs.length := by
 induction h with
 | nil => rfl
 | cons c u _ ih => simp [ih]
noncomputable def entKeys (c : Nat) (ps : List (Int × Nd)) : List (List UInt8) := (ps.filter fun p => p.2.slot != -1).map fun p => keyB c p.2.len p.2.w
theorem entKeys_snoc (c : Nat) (ps : List (Int × Nd)) (p : Int × Nd) : entKeys c (ps ++ [p]) = if p.2.slot = -1 then entKeys c ps else entKeys c ps ++ [keyB c p.2.len p.2.w] := by
 unfold entKeys
 rw [List.filter_append, List.map_append]
 by_cases h : p.2.slot = -1 <;> simp [h]
theorem pre_rep {T : TS} : ∀ {t : Tr}, Rep T t → ∀ p ∈ pre t, getN T p.1 = some p.2 ∧ 0 ≤ p.1
 | .nil, _, p, hp => nomatch hp
 | .nd i a l r, R, p, hp => by
  unfold pre at hp
  rcases List.mem_cons.mp hp with rfl | hp
  ·exact ⟨R.2.1, R.1⟩
  ·rcases List.mem_append.mp hp with hp | hp
   ·exact pre_rep R.2.2.2.2.1 p hp
   ·exact pre_rep R.2.2.2.2.2 p hp
noncomputable def bNat (b : List UInt8) : List Nat := b.map (·.toNat)
theorem order_lt : ∀ a b : List UInt8, (Builtin.Bytes.order a b == .lt) = decide (bNat a < bNat b)
 | [], [] => by simp [Builtin.Bytes.order, bNat]
 | [], _ :: _ => by simp [Builtin.Bytes.order, bNat]
 | _ :: _, [] => by simp [Builtin.Bytes.order, bNat]
 | x :: xs, y :: ys => by
  unfold Builtin.Bytes.order
  have ih := order_lt xs ys
  have e : bNat (x :: xs) < bNat (y :: ys) ↔ x.toNat < y.toNat ∨ x.toNat = y.toNat ∧ bNat xs < bNat ys := by
   unfold bNat; rw [List.map_cons, List.map_cons, List.cons_lt_cons_iff]
  by_cases h1 : x < y
  ·have h1' : x.toNat < y.toNat := UInt8.lt_iff_toNat_lt.mp h1
   rw [if_pos h1]
   rw [show decide (bNat (x :: xs) < bNat (y :: ys)) = true from decide_eq_true (e.mpr (.inl h1'))]
   rfl
  ·have h1' : ¬ x.toNat < y.toNat := fun h => h1 (UInt8.lt_iff_toNat_lt.mpr h)
   rw [if_neg h1]
   by_cases h2 : y < x
   ·have h2' : y.toNat < x.toNat := UInt8.lt_iff_toNat_lt.mp h2
    rw [if_pos h2]
    rw [show decide (bNat (x :: xs) < bNat (y :: ys)) = false from decide_eq_false (fun h => by rcases e.mp h with h | h <;> lia)]
    rfl
   ·have h2' : ¬ y.toNat < x.toNat := fun h => h2 (UInt8.lt_iff_toNat_lt.mpr h)
    rw [if_neg h2, ih]
    by_cases h3 : bNat xs < bNat ys
    ·rw [decide_eq_true h3, decide_eq_true (e.mpr (.inr ⟨by lia, h3⟩))]
    ·rw [decide_eq_false h3, decide_eq_false (fun h => by rcases e.mp h with h | h; lia; exact h3 h.2)]
@[reducible] noncomputable def bytesK : PyProof.Rows.KeyKind where
 α := List Nat
 blt a b := decide (a < b)
 irrefl := strKind.irrefl
 trans := strKind.trans
 negTrans := strKind.negTrans
 total := strKind.total
 keyOf v := match v with | .bytes x _ => some (bNat x.toList) | _ => none
 dflt := []
theorem slot_bytes_lt9 : Slot "bytes" "__lt__" "bytes.__lt__" :=
 .of (owner := "bytes") (n := "__lt__") (by rw [typeLookup_type, builtinLookup_eq_fast]; kernel_rfl) (by decide +kernel) (by decide +kernel) (by decide +kernel)
  (by first | exact .inl (by decide +kernel) | exact .inr (by decide +kernel)) (by rw [isSubtype_type]; kernel_rfl)
theorem entry_bytes_lt9 : entryFor table "bytes.__lt__" = some Builtin.«bytes.__lt__» := entryFor_of_tree (by kernel_rfl)
theorem args_bytes_lt9 (a b : Value) : argsOk "bytes.__lt__" ⟨[a, b], []⟩ := by unfold argsOk; kernel_rfl
section
variable {prog : Program} {w : World} {A : Around} {E : Value → Shared → Prop} {s : Shared}
theorem call_bytes_lt {a b : Array UInt8} {t u : Tok} {Q : Value → Shared → Prop} (h : Q (.bool (decide (bNat a.toList < bNat b.toList))) s) :
  wpAny (model prog w) A (call (.builtin "bytes.__lt__") [.bytes a t, .bytes b u]) Q E s := by
 refine wpAny_call_entry slot_bytes_lt9 (typeIs_bytes s a t) entry_bytes_lt9 ?_ (args_bytes_lt9 _ _)
 have e : Builtin.«bytes.__lt__» ⟨[.bytes a t, .bytes b u], []⟩ = (do
   if !(← isInstance (.bytes b u) (.type "bytes")) then rule s!"bytes.{"__lt__"}.declined"; return ← ret .notImplemented
   ret (.bool (Builtin.Bytes.holds "__lt__" (Builtin.Bytes.order (← Builtin.Bytes.payload (.bytes a t)).toList (← Builtin.Bytes.payload (.bytes b u)).toList)))) := by
  with_unfolding_all rfl
 rw [e]
 refine wpAny_bind (wpAny_isInstance (typeIs_bytes s b u) by_sub ?_)
 refine bm_if_false rfl ?_
 refine wpAny_bind (wpAny_of_eq (a := a) rfl ?_)
 refine wpAny_bind (wpAny_of_eq (a := b) rfl ?_)
 show wpAny _ _ (ret (.bool (Builtin.Bytes.order a.toList b.toList == .lt))) _ _ s
 rw [order_lt]
 exact wpAny_pure ⟨_, rfl, h⟩
theorem bytesK_oneLt : bytesK.OneLt := by
 intro prog w A E s x y a b Q ha hb h
 cases x <;> simp only [bytesK, reduceCtorEq, Option.some.injEq] at ha
 cases y <;> simp only [bytesK, reduceCtorEq, Option.some.injEq] at hb
 cases ha; cases hb
 rw [oneLt'_eq]
 simp only [if_true]
 refine wpAny_bind (wpAny_cRoomFor_byValue rfl ?_)
 refine wpAny_bind (wpAny_callSpecialIfBound?_slot (typeIs_bytes s _ _) slot_bytes_lt9 (call_bytes_lt ?_))
 exact wpAny_truthy_bool h
end
noncomputable def bOf : Value → List UInt8
 | .bytes b _ => b.toList
 | _ => []
theorem KeysAre.all {vs : List Value} {bs : List (List UInt8)} (h : KeysAre vs bs) : ∀ v ∈ vs, ∃ x t, v = .bytes x t := by
 induction h with
 | nil => intro v hv; cases hv
 | cons b t _ ih =>
  intro v hv
  rcases List.mem_cons.mp hv with rfl | hv
  ·exact ⟨_, _, rfl⟩
  ·exact ih v hv
theorem KeysAre.bs {vs : List Value} {bs : List (List UInt8)} (h : KeysAre vs bs) : vs.map bOf = bs := by
 induction h with
 | nil => rfl
 | cons b t _ ih => rw [List.map_cons, ih]; rfl
theorem keysAre_map : ∀ (vs : List Value), (∀ v ∈ vs, ∃ x t, v = .bytes x t) → KeysAre vs (vs.map bOf)
 | [], _ => .nil
 | v :: vs, h => by
  obtain ⟨x, t, rfl⟩ := h v (.head _)
  exact .cons x.toList t (keysAre_map vs fun u hu => h u (.tail _ hu))
theorem keyKind_bytes {v₁ v₂ : Value} {vs : List Value} (h : ∀ v ∈ v₁ :: v₂ :: vs, ∃ x t, v = .bytes x t) : keyKind' (v₁ :: v₂ :: vs).toArray = pure oneType' := by
 have m1 : ∀ l : List Value, (∀ v ∈ l, ∃ x t, v = .bytes x t) → l.mapM firstOfTuple' = pure (l.map fun _ => none) := by
  intro l
  induction l with
  | nil => intro _; simp
  | cons v l ih =>
   intro hl
   obtain ⟨x, t, rfl⟩ := hl v (.head _)
   rw [List.mapM_cons, show firstOfTuple' (.bytes x t) = pure none from rfl, ih fun u hu => hl u (.tail _ hu)]; simp
 have m2 : ∀ l : List Value, (∀ v ∈ l, ∃ x t, v = .bytes x t) → l.mapM typeOf = pure (l.map fun _ => Value.type "bytes") := by
  intro l
  induction l with
  | nil => intro _; simp
  | cons v l ih =>
   intro hl
   obtain ⟨x, t, rfl⟩ := hl v (.head _)
   rw [List.mapM_cons, ih fun u hu => hl u (.tail _ hu)]
   show (pure (Value.type "bytes") >>= fun b => pure _ >>= fun bs => pure (b :: bs)) = _
   simp
 rw [keyKind'_eq, List.mapM_toArray, m1 _ h]
 simp only [map_pure, pure_bind]
 rw [if_neg (by simp), if_neg (by simp)]
 rw [oneTypeOnly'_eq, List.mapM_toArray, m2 _ h]
 simp only [map_pure, pure_bind]
 have hall : ((List.map (fun _ => Value.type "bytes") (v₁ :: v₂ :: vs)).toArray.all fun x => x == Value.type "bytes") = true := by
  simp only [List.all_toArray, List.all_map, List.all_eq_true]
  intro _ _
  rfl
 have h0 : (List.map (fun _ => Value.type "bytes") (v₁ :: v₂ :: vs)).toArray[0]? = some (Value.type "bytes") := by simp
 rw [h0]
 simp only [hall, if_true, pure_bind, Option.isSome_some]
noncomputable def KLe (a b : List UInt8) : Prop := ¬ bNat b < bNat a
theorem sorted_out_bytes {vs : List Value} {bs : List (List UInt8)} (hS : KeysAre vs bs) {xs : Array Keyed} (hp : xs.Perm (pairsOf vs)) (hs : SortedToK bytesK xs (pairsOf vs).size) :
  ∃ bs', KeysAre (xs.map (·.2)).toList bs' ∧ bs'.Perm bs ∧ bs'.Pairwise KLe := by
 have hl : xs.toList.Perm (vs.zip vs) := by rw [← pairsOf_toList]; exact Array.perm_iff_toList_perm.mp hp
 have hmem : ∀ p, p ∈ xs.toList → p.1 = p.2 ∧ p.1 ∈ vs := fun p hp' => mem_zip_self (hl.mem_iff.mp hp')
 refine ⟨xs.toList.map (fun p => bOf p.1), ?_, ?_, ?_⟩
 ·have e : (xs.map (·.2)).toList = xs.toList.map (·.1) := by
   rw [Array.toList_map]; exact List.map_congr_left fun p hp' => (hmem p hp').1.symm
  rw [e]
  have h1 := keysAre_map (xs.toList.map (·.1)) (by
   intro v hv
   obtain ⟨p, hp', rfl⟩ := List.mem_map.mp hv
   exact hS.all _ (hmem p hp').2)
  rwa [List.map_map] at h1
 ·have h1 := hl.map (fun p => bOf p.1)
  have e2 : (vs.zip vs).map (fun p => bOf p.1) = bs := by
   have : (vs.zip vs).map (fun p => bOf p.1) = ((vs.zip vs).map Prod.fst).map bOf := by rw [List.map_map]; rfl
   rw [this, List.map_fst_zip (Nat.le_refl _), hS.bs]
  rwa [e2] at h1
 ·rw [List.pairwise_iff_getElem]
  intro i j hi hj hij
  have hi' : i < xs.size := by simpa using hi
  have hj' : j < xs.size := by simpa using hj
  have h1 := hs i j (Nat.le_of_lt hij) (by rw [← hp.size_eq]; exact hj')
  obtain ⟨x, t, ex⟩ := hS.all _ (hmem xs[i] (by simp)).2
  obtain ⟨y, u, ey⟩ := hS.all _ (hmem xs[j] (by simp)).2
  have k1 : KK bytesK xs i = bNat x.toList := by unfold KK; rw [getElem?_pos xs i hi']; show ((bytesK.keyOf xs[i].1).getD _) = _; rw [ex]; rfl
  have k2 : KK bytesK xs j = bNat y.toList := by unfold KK; rw [getElem?_pos xs j hj']; show ((bytesK.keyOf xs[j].1).getD _) = _; rw [ey]; rfl
  rw [k1, k2] at h1
  change decide (bNat y.toList < bNat x.toList) = false at h1
  simp only [List.getElem_map, Array.getElem_toList]
  rw [show bOf xs[i].1 = x.toList by rw [ex]; rfl, show bOf xs[j].1 = y.toList by rw [ey]; rfl]
  exact of_decide_eq_false h1
section
variable {prog : Program} {w : World} {A : Around} {E : Value → Shared → Prop} {s : Shared}
theorem sorted_N_bytes {h₀ : Heap} {L : Addr} {m : Str → Option Value} {news : Led} {l : Addr} {vs : List Value} {bs : List (List UInt8)} {Q : Value → Shared → Prop}
  (F : Fr h₀ L s.heap m) (N : News h₀ L s.heap news) (hl : s.heap.IsList l vs.toArray) (hS : KeysAre vs bs) (h64 : Side (vs.length < 64))
  (h : ∀ (h' : Heap) (D : Addr) (vs' : List Value) (bs' : List (List UInt8)) (e : Nat), Fr h₀ L h' m → News h₀ L h' ((D, listOf vs'.toArray e) :: news) →
   KeysAre vs' bs' → bs'.Perm bs → bs'.Pairwise KLe → (∀ p ∈ news, p.1 ≠ D) → Q (.ref D) { s with heap := h' }) :
  wpAny (model prog w) A (call (.builtin "sorted") [.ref l]) Q E s := by
 have hb : ∀ p ∈ pairsOf vs |>.toList, ∃ a, bytesK.keyOf p.1 = some a := by
  intro p hp
  rw [pairsOf_toList] at hp
  obtain ⟨x, t, e⟩ := hS.all _ (mem_zip_self hp).2
  exact ⟨bNat x.toList, by rw [e]⟩
 refine sortedK bytesK_oneLt hl hb (fun v₁ v₂ rest e => keyKind_bytes (by rw [← e]; exact hS.all)) h64.out fun st' hp hs => ?_
 obtain ⟨bs', h1, h2, h3⟩ := sorted_out_bytes hS hp hs
 obtain ⟨e, he⟩ := sortedAll_at s.heap vs ((arrOf st').map (·.2))
 exact h _ _ ((arrOf st').map (·.2)).toList bs' e (F.kept fun _ _ => sortedAll_old) (N.kept_cons F (fun _ _ => sortedAll_old) (Nat.le_succ _) he) h1 h2 h3 fun p hp => Nat.ne_of_lt (Nat.lt_succ_of_lt (Heap.lt_size (N p hp).1))
end
inductive KeysR (ks : List (List UInt8)) : Value → Led → Prop
 | mk (r : Addr) (its : List Value) (e : Nat) (bs : List (List UInt8)) (h : KeysAre its bs) (hp : bs.Perm ks) (hw : bs.Pairwise KLe) : KeysR ks (.ref r) [(r, listOf its.toArray e)]
theorem meKeys (w : World) : MethAt w 585 "node_key" 537 ∧ MethAt w 585 "nodes_in_order" 530 ∧ MethAt w 585 "keys" 542 := by
 exact ⟨⟨by k_is, by k_is, by k_is, by k_is⟩, ⟨by k_is, by k_is, by k_is, by k_is⟩, ⟨by k_is, by k_is, by k_is, by k_is⟩⟩
theorem bSorted (w : World) : BuiltAt w "sorted" (.builtin "sorted") := by
 exact ⟨by k_is, by boot_by_name, by decide⟩
section
variable {d : Df} {c : Cx} {l : Fs} {N : Led} {A : TA} {T : TS} {root : Int} {K : KE}
theorem CallM.node_key {i : Int} {nd : Nd} (hT : TrO d.w c N A T root) (hlv : 4 ≤ d.lv) (hv : getN T i = some nd) (h : K (.b (keyB A.c nd.len nd.w).toArray) N) : CallM d c l 537 A.self [.i i] N K :=
 CallM.read hT (fun ts rt D R => sp_node_key d.w A T D rt root i (ts 0) nd R hv) hlv fun v O' ⟨e1, t, ev⟩ _ => ⟨.b _, N, ⟨t, ev⟩, h, by rw [e1]; exact fun _ h => h⟩
theorem CallM.nodes_in_order {t : Tr} (hT : TrO d.w c N A T root) (hlv : 20 ≤ d.lv) (ht : Rep T t) (hz : t.size ≤ 1000) (hr : root = t.id)
  (h : ∀ r its e, IntsAre its ((pre t).map (·.1)) → K (.v (.ref r)) ((r, listOf its.toArray e) :: N)) : CallM d c l 530 A.self [] N K :=
 CallM.read hT (fun ts rt D R => sp_nodes_in_order d.w A T D t rt root R ht hz hr) hlv fun v O' ⟨r, its, e, ev, eO, hi⟩ _ => ⟨.v (.ref r), _, ⟨0, ev⟩, h r its e hi, by rw [eO]; exact fun _ h => h⟩
theorem CallB.sortedK {r : Addr} {its : List Value} {e : Nat} {bs : List (List UInt8)} (N' : Led) (hs : ∀ p ∈ N', p ∈ N) (hm : (r, listOf its.toArray e) ∈ N) (hk : KeysAre its bs) (hz : its.length < 64)
  (h : ∀ v O', KeysR bs v O' → K (.v v) (O' ++ N')) : CallB d c l "sorted" [] [.v (.ref r)] N K := fun ts s Q hS hQ => by
 obtain ⟨ok, ⟨hp, tk, rfl⟩, ⟨m, F, H⟩, hN⟩ := hS
 refine sorted_N_bytes F hN (News.isList hN hm) hk hz fun h' D vs' bs' e' F' N'' h1 h2 h3 _ => hQ.use (sh := .v (.ref D)) 0 (h _ _ (.mk D vs' e' bs' h1 h2 h3)) ⟨ok, ⟨_, _, rfl⟩, ⟨m, F', H⟩, fun p hp => ?_⟩
 rcases List.mem_cons.mp hp with rfl | hp
 ·exact N'' _ (.head _)
 ·exact N'' _ (.tail _ (hs _ hp))
end
noncomputable def St_sp_keys (w : World) (A : TA) (T : TS) (D : Led) (t : Tr) (rt : Tok) (root : Int) : Prop := ∀ (R : TR w A T D) (ht : Rep T t) (hz : t.size ≤ 1000) (hroot : root = t.id) (hen : (entKeys A.c (pre t)).length ≤ 60), Sp w 542 24 [.ref A.self] (TP A root rt D) [] (KeysR (entKeys A.c (pre t)))
theorem sp_keys : A7 St_sp_keys := by
 refine' ey7 (ne_P ne_W (ne_P ne_TA (ne_P ne_TS (ne_P ne_L (ne_P ne_Tr (ne_P ne_N ne_I)))))) ((?f9 : A7 St_sp_keys) _ _ _ _ _ _ _)
 intro w A T D t rt root R ht hz hroot hen
 refine' Sp.of_WC [] ?ho ?hcd ?hbind ?hkind ?hnd ?hco ?hgen ?hk ?hl ?_
 case ho => k_is
 case hcd => k_is
 case hbind => (intro s9 hX9; first | exact BindsTo.of_eq rfl | exact binds_K hX9 rfl (by k_is) rfl rfl rfl)
 case hkind => exact rfl
 case hnd => decide
 case hco => exact rfl
 case hgen => exact rfl
 case hk => exact rfl
 case hl => exact fun _ => trivial
 refine' entC_all ((?f8 : ∀ c R' cells, EntC _ _ _ _ _ _ _ c R' cells) _ _ _); intro k R' cells hcl Y l0 hP hR
 obtain ⟨o, rfl, ho⟩ := CellsAre.one Y
 have ho : o.data = .cell (some ((Sh.v (.ref A.self)).val 0)) := ho
 have hT : ∀ N, TrO w k N A T root := fun N => ⟨rt, D, R, fun p hp => .inr (hP p hp)⟩
 have hTc : ∀ N e m, TrO w (k.cmp e m) N A T root := fun N e m => ⟨rt, D, R, fun p hp => .inr (hP p hp)⟩
 clear Y l0 hP
 have hck : k.cl.lookup (Str.ofString "self") = some (k.L + 1) := by rw [hcl]; rfl
 refine vcS_sound 10 (RawE.bfn (bSorted w) (RawE.compT (cl := [(Str.ofString "self", k.L + 1)]) ?_ ?_))
 ·refine RawE.mself (x := "nodes_in_order") (T := T) (A := A) (root := root) (meKeys w).2.1 ?_
  refine RawE.cell (a := k.L + 1) hck (.head _) ho ?_
  refine (And.intro rfl (And.intro (hT _) (CallM.nodes_in_order (hT _) (lb9 rfl) ht hz hroot fun r its e hi => ?_)))
  have hl : its.length = (pre t).length := by rw [hi.length, List.length_map]
  refine ⟨_, _, _, fun i ys nw => nw = [(r, listOf its.toArray e), (k.L + 1, o)] ∧ KeysAre ys (entKeys A.c ((pre t).take i)), [(r, listOf its.toArray e), (k.L + 1, o)], SrcC.list (.head _) (fun _ h => h) (by rw [hl, pre_len]; exact hz), fun _ h => h, ⟨rfl, .nil⟩, ?_, ?_⟩
  ·rintro I oI C oC D9 m₂ i ys news sh u m hi9 ⟨v, hv, rfl⟩ ⟨rfl, hys⟩ hC hx off ne
   obtain ⟨n, t9, hn, rfl⟩ := ints_get hi hv
   obtain ⟨⟨n', nd⟩, hp, hn'⟩ : ∃ p, (pre t)[i]? = some p ∧ p.1 = n := by simpa using hn
   obtain rfl : n' = n := hn'
   obtain ⟨hgi, hi0⟩ := pre_rep ht (n', nd) (List.mem_of_getElem? hp)
   dsimp only at hgi hi0
   have hl9 : entKeys A.c ((pre t).take (i + 1)) = if nd.slot = -1 then entKeys A.c ((pre t).take i) else entKeys A.c ((pre t).take i) ++ [keyB A.c nd.len nd.w] := by
    rw [List.take_add_one, hp]
    exact entKeys_snoc _ _ (n', nd)
   refine RawT.bool (RawE.mnode (x := "is_entry") (T := T) (A := A) (root := root) (me360 w) hgi ?_)
   refine RawE.cell (a := k.L + 1) rfl (.tail _ (.tail _ (.tail _ (.tail _ (.head _))))) ho ?_
   refine AttrS.nodes (hTc _ _ _) (RawE.cvar (sh := .i n') (.tail _ (.head _)) hC hx (ItemS.node (hTc _ _ _) hgi (And.intro rfl (And.intro (hTc _ _ _) (CallM.is_entry (hTc _ _ _) (lb9 rfl) hgi ⟨_, rfl, fun hb => ?_, fun hb => ?_⟩)))))
   ·refine RawE.mself (x := "node_key") (T := T) (A := A) (root := root) (meKeys w).1 ?_
    refine RawE.cell (a := k.L + 1) rfl (.tail _ (.tail _ (.tail _ (.tail _ (.head _))))) ho (And.intro rfl (And.intro (hTc _ _ _) ?_))
    refine RawE.cvar (sh := .i n') (.tail _ (.head _)) hC hx (CallM.node_key (hTc _ _ _) (lb9 rfl) hgi fun u => ⟨_, fun _ h => h, off, .inr ⟨_, .head _, rfl, _, rfl⟩, rfl, ?_⟩)
    rw [hl9, if_neg (of_decide_eq_true hb)]
    exact hys.snoc _ _
   ·refine ⟨_, fun _ h => h, off, .inr ⟨_, .head _, rfl, _, rfl⟩, rfl, ?_⟩
    rw [hl9, if_pos (Classical.not_not.mp (of_decide_eq_false hb))]
    exact hys
  ·rintro ys news D9 ⟨rfl, hys⟩ _
   rw [hl, List.take_length] at hys
   exact CallB.sortedK [] sub_nil (.head _) hys (by rw [hys.length]; lia) fun v O' h t => hR _ _ (by rw [List.append_nil]; exact h)
 ·show closureFor _ (envX _ _ _ _ _ k.cl) = _
  rw [hcl]; rfl
theorem slot_bytes_eq9 : Slot "bytes" "__eq__" "bytes.__eq__" :=
 .of (owner := "bytes") (n := "__eq__") (by rw [typeLookup_type, builtinLookup_eq_fast]; kernel_rfl) (by decide +kernel) (by decide +kernel) (by decide +kernel)
  (by first | exact .inl (by decide +kernel) | exact .inr (by decide +kernel)) (by rw [isSubtype_type]; kernel_rfl)
theorem entry_bytes_eq9 : entryFor table "bytes.__eq__" = some Builtin.«bytes.__eq__» := entryFor_of_tree (by kernel_rfl)
theorem args_bytes_eq9 (a b : Value) : argsOk "bytes.__eq__" ⟨[a, b], []⟩ := by unfold argsOk; kernel_rfl
theorem order_eq : ∀ a b : List UInt8, (Builtin.Bytes.order a b == .eq) = decide (a = b)
 | [], [] => by simp [Builtin.Bytes.order]
 | [], _ :: _ => by simp [Builtin.Bytes.order]
 | _ :: _, [] => by simp [Builtin.Bytes.order]
 | x :: xs, y :: ys => by
  unfold Builtin.Bytes.order
  by_cases h1 : x < y
  ·rw [if_pos h1, decide_eq_false (fun e => by injection e with e _; subst e; exact absurd (UInt8.lt_iff_toNat_lt.mp h1) (by lia))]
   rfl
  ·rw [if_neg h1]
   by_cases h2 : y < x
   ·rw [if_pos h2, decide_eq_false (fun e => by injection e with e _; subst e; exact absurd (UInt8.lt_iff_toNat_lt.mp h2) (by lia))]
    rfl
   ·rw [if_neg h2, order_eq xs ys]
    have h1' : ¬ x.toNat < y.toNat := fun h => h1 (UInt8.lt_iff_toNat_lt.mpr h)
    have h2' : ¬ y.toNat < x.toNat := fun h => h2 (UInt8.lt_iff_toNat_lt.mpr h)
    have e : x = y := UInt8.toNat_inj.mp (by lia)
    subst e
    by_cases h3 : xs = ys <;> simp [h3]
theorem gives_bytes_eq (x y : Array UInt8) (t u : Tok) : Gives (Builtin.«bytes.__eq__» ⟨[.bytes x t, .bytes y u], []⟩) (.val (.bool (decide (x = y)))) := by
 refine Gives.of_wp fun M A E s Q h => ?_
 have e : Builtin.«bytes.__eq__» ⟨[.bytes x t, .bytes y u], []⟩ = (do
   if !(← isInstance (.bytes y u) (.type "bytes")) then rule s!"bytes.{"__eq__"}.declined"; return ← ret .notImplemented
   ret (.bool (Builtin.Bytes.holds "__eq__" (Builtin.Bytes.order (← Builtin.Bytes.payload (.bytes x t)).toList (← Builtin.Bytes.payload (.bytes y u)).toList)))) := by
  with_unfolding_all rfl
 rw [e]
 refine wpAny_bind (wpAny_isInstance (typeIs_bytes s y u) by_sub ?_)
 refine bm_if_false rfl ?_
 refine wpAny_bind (wpAny_of_eq (a := x) rfl ?_)
 refine wpAny_bind (wpAny_of_eq (a := y) rfl ?_)
 show wpAny _ _ (ret (.bool (Builtin.Bytes.order x.toList y.toList == .eq))) _ _ s
 rw [order_eq]
 have e2 : decide (x.toList = y.toList) = decide (x = y) := by
  by_cases hxy : x = y
  ·subst hxy; simp
  ·rw [decide_eq_false hxy, decide_eq_false (fun h => hxy (Array.toList_inj.mp h))]
 rw [e2]
 exact wpAny_pure ⟨_, rfl, h⟩
theorem eqGives_bytes (a b : Array UInt8) (t u : Tok) : PySem.MeetsSeq.EqGives (.bytes a t) (.bytes b u) (decide (a = b)) := by
 intro prog w A E s Q h
 unfold eqBool
 show wpAny _ _ (if (Value.bytes a t == Value.bytes b u) = true then _ else _) Q E s
 by_cases hab : (Value.bytes a t == Value.bytes b u) = true
 ·rw [if_pos hab]
  have e : a = b := by have := eq_of_beq hab; injection this
  subst e
  exact wpAny_bind (wpAny_rule (wpAny_pure (by simpa using h)))
 ·rw [if_neg hab]
  exact wpAny_bind (richCompare_gives (op := .Eq) (T := "bytes") (typeIs_bytes _ _ _) (typeIs_bytes _ _ _) slot_bytes_eq9 entry_bytes_eq9 (args_bytes_eq9 _ _) (gives_bytes_eq a b t u) (fun x => nomatch x) (wpAny_truthy_bool h))
section
variable {prog : Program} {w : World} {A : Around} {E : Value → Shared → Prop} {s : Shared}
theorem index_bytes {l : Addr} {vs : List Value} {n : Nat} {bs : List (List UInt8)} {b : List UInt8} {u : Tok} {Q : Value → Shared → Prop} (ho : s.heap.get? l = some (listOf vs.toArray n)) (hS : KeysAre vs bs) (hb : b ∈ bs) (hz : bs.length ≤ 1000)
  (h : Q (.int (bs.idxOf b : Int) s.toks) { s with toks := s.toks + 1 }) : wpAny (model prog w) A (call (.builtin "list.index") [.ref l, .bytes b.toArray u]) Q E s := by
 have hlen := hS.length
 have hlt : bs.idxOf b < bs.length := List.idxOf_lt_length_iff.mpr hb
 have el : ∀ m (hm : m < vs.toArray.size), ∃ t, vs.toArray[m] = .bytes (bs[m]'(by simpa [hlen] using hm)).toArray t := by
  intro m hm
  have h1 := hS.bs
  obtain ⟨x, t, ex⟩ := hS.all (vs[m]'(by simpa using hm)) (List.getElem_mem _)
  refine ⟨t, ?_⟩
  have h2 : bs[m]'(by simpa [hlen] using hm) = x.toList := by
   have : (vs.map bOf)[m]'(by simpa using hm) = x.toList := by rw [List.getElem_map, ex]; rfl
   rw [← this]
   congr 1
   exact h1.symm
  rw [h2]
  simpa using ex
 refine call_meets PySem.F.slot_list_index ⟨_, ho, rfl⟩ PySem.F.entry_list_index (PySem.F.args_list_index_2 _ _)
  (PySem.MeetsSeq.list_index l vs.toArray n (.bytes b.toArray u) (fun v => decide (bOf v = b)) (fun y hy => ?_) (bs.idxOf b) (by simpa [hlen] using hlt) (by lia) ?_ ?_) ⟨ho, h⟩
 ·obtain ⟨x, t, rfl⟩ := hS.all y (by simpa using hy)
  have := eqGives_bytes x b.toArray t u
  have e : decide (x = b.toArray) = decide (bOf (.bytes x t) = b) := by
   by_cases hx : x = b.toArray
   ·subst hx; simp [bOf]
   ·rw [decide_eq_false hx, decide_eq_false (fun h => hx (by rw [← h]; simp [bOf]))]
  rw [← e]; exact this
 ·obtain ⟨t, e⟩ := el (bs.idxOf b) (by simpa [hlen] using hlt)
  rw [e]
  simp [bOf]
 ·intro m hm hml
  obtain ⟨t, e⟩ := el m hm
  rw [e]
  refine decide_eq_false fun h => ?_
  have h' : bs[m]'(by simpa [hlen] using hm) = b := by simpa [bOf] using h
  have hn := List.not_of_lt_findIdx (p := (· == b)) (xs := bs) hml
  simp [h'] at hn
end
theorem key_item {w : World} {Ar : Around} {E : Value → Shared → Prop} {s : Shared} {value slice : PySem.Expr} {Q : Value → Shared → Prop} {t : Tok} {i : Int} {a : Addr} {vs : List Value} {bs : List (List UInt8)} (hl : s.heap.IsList a vs.toArray) (hS : KeysAre vs bs) (h0 : 0 ≤ i) (h1 : i.toNat < bs.length ∧ i < 2 ^ 62)
  (h : ∀ t', Q (.bytes (bs.getD i.toNat []).toArray t') s)
  (hs : autoParam (subscripted slice false (.ref a) (.int i t) = operate [.ref a, .int i t] (getItem (.ref a) (.int i t))) sub_K._auto_1) :
  wpAny (model PR w) Ar (subscriptTail value slice (.ref a) (.int i t)) Q E s := by
 have hlen := hS.length
 have hv : i.toNat < vs.length := by lia
 obtain ⟨x, tx, ex⟩ := hS.all (vs[i.toNat]) (List.getElem_mem _)
 have h2 : bs.getD i.toNat [] = x.toList := by
  rw [List.getD_eq_getElem?_getD, ← hS.bs, List.getElem?_map, List.getElem?_eq_getElem hv]
  simp [ex, bOf]
 have h3 := h tx
 rw [h2] at h3
 refine tail_any hl.typeIs slot_list_getitem.lookup (wpAny_getItem_list hl h0 (by lia) (x := .bytes x tx) ?_ (by simpa using h3)) hs
 rw [List.getElem?_toArray, List.getElem?_eq_getElem hv, ex]
theorem path_pre (n len w : Nat) : ∀ {t : Tr}, ∀ p ∈ path n len w t, p ∈ pre t
 | .nil, p, hp => nomatch hp
 | .nd i a l r, p, hp => by
  unfold path at hp
  unfold pre
  split at hp
  ·cases hp
  ·split at hp
   ·rcases List.mem_singleton.mp hp with rfl; exact .head _
   ·rcases List.mem_cons.mp hp with rfl | hp
    ·exact .head _
    ·split at hp
     ·exact .tail _ (List.mem_append_left _ (path_pre n len w p hp))
     ·exact .tail _ (List.mem_append_right _ (path_pre n len w p hp))
theorem exact_cases2 {T : TS} (n kl wv : Nat) {t : Tr} (ht : Rep T t) : exactT n kl wv t = -1 ∨ ∃ i nd, exactT n kl wv t = i ∧ getN T i = some nd ∧ 0 ≤ i ∧ nd.len = kl ∧ (i, nd) ∈ pre t := by
 unfold exactT
 split
 ·exact .inl rfl
 ·rcases eq_nil_or_snoc (path n kl wv t) with hp | ⟨ini, ⟨i, nd⟩, hp⟩
  ·left; unfold pathAt; rw [hp]; rfl
  ·unfold pathAt; rw [hp, List.getLast?_concat]
   dsimp only
   split
   ·have hm : (i, nd) ∈ path n kl wv t := by rw [hp]; simp
    obtain ⟨h1, h2⟩ := path_rep _ _ _ ht (i, nd) hm
    exact .inr ⟨i, nd, rfl, h1, h2, by assumption, path_pre _ _ _ _ hm⟩
   ·exact .inl rfl
noncomputable def OptK (v : Value) : Option (List UInt8) → Prop
 | none => v = .none
 | some b => ∃ t, v = .bytes b.toArray t
noncomputable def nextI (T : TS) (n c kl wv : Nat) (t : Tr) (bs : List (List UInt8)) : Nat :=
 if exactT n kl wv t = -1 then 0 else match getN T (exactT n kl wv t) with | some nd => if nd.slot = -1 then 0 else bs.idxOf (keyB c nd.len nd.w) + 1 | none => 0
theorem optK_get {bs : List (List UInt8)} {i : Int} {k : Nat} {t : Tok} (hi : i = (k : Int)) (h : k < bs.length) : OptK (.bytes (bs.getD i.toNat []).toArray t) bs[k]? := by
 subst hi
 rw [List.getElem?_eq_getElem h]
 exact ⟨t, by simp [h]⟩
theorem optK_none {bs : List (List UInt8)} {k : Nat} (h : bs.length ≤ k) : OptK .none bs[k]? := by
 rw [List.getElem?_eq_none h]; rfl
section
variable {d : Df} {c : Cx} {l : Fs} {N : Led} {A : TA} {T : TS} {root : Int} {K : KE}
theorem CallM.keys {t : Tr} (hT : TrO d.w c N A T root) (hlv : 24 ≤ d.lv) (ht : Rep T t) (hz : t.size ≤ 1000) (hr : root = t.id) (hen : (entKeys A.c (pre t)).length ≤ 60)
  (h : ∀ v O', KeysR (entKeys A.c (pre t)) v O' → K (.v v) (O' ++ N)) : CallM d c l 542 A.self [] N K :=
 CallM.read hT (fun _ rt D R => sp_keys d.w A T D t rt root R ht hz hr hen) hlv fun v O' k _ => ⟨.v v, _, ⟨0, rfl⟩, h v O' k, fun _ h => h⟩
theorem MethB.index {r : Addr} {its : List Value} {n : Nat} (hm : (r, listOf its.toArray n) ∈ N) : MethB d c l N r (Str.ofString "index") "list.index" := fun _ _ _ hS h => listMethod_K hS.news hm PySem.F.slot_list_index PySem.F.type_list_index h
theorem CallB.indexK {r : Addr} {its : List Value} {n : Nat} {bs : List (List UInt8)} {b : List UInt8} (hm : (r, listOf its.toArray n) ∈ N) (hk : KeysAre its bs) (hb : b ∈ bs) (hz : bs.length ≤ 1000) (h : K (.i (bs.idxOf b : Int)) N) :
  CallB d c l "list.index" [.ref r] [.b b.toArray] N K := fun ts s Q hS hQ => index_bytes (hS.news _ hm).1 hk hb hz (hQ.use (sh := .i _) _ h (hS.tok _))
theorem ItemS.key {ie : PySem.Expr} {i : Int} {r : Addr} {its : List Value} {n : Nat} {bs : List (List UInt8)} (hm : (r, listOf its.toArray n) ∈ N) (hk : KeysAre its bs) (h0 : 0 ≤ i) (h1 : i.toNat < bs.length) (hz : bs.length ≤ 1000) (h : K (.b (bs.getD i.toNat []).toArray) N)
  (hs : autoParam (∀ u, subscripted ie false (.ref r) (.int i u) = operate [.ref r, (.int i u)] (getItem (.ref r) (.int i u))) kim_tup._auto_3) : ItemS d c l ie (.v (.ref r)) (.i i) N K := fun t u s Q hS hQ =>
 key_item (vs := its) (bs := bs) (News.isList hS.news hm) hk h0 ⟨h1, by lia⟩ (fun t' => hQ.use (sh := .b _) t' h hS) (hs u)
end
noncomputable def St_sp_next_key (w : World) (A : TA) (T : TS) (D : Led) (t : Tr) (rt : Tok) (a b c e : UInt8) (d : List UInt8) (k : Tok) (root : Int) : Prop := ∀ (R : TR w A T D) (ht : Rep T t) (hz : t.size ≤ 1000) (hd : d.length = A.c) (hroot : root = t.id) (hen : (entKeys A.c (pre t)).length ≤ 60), Sp w 549 26 [.ref A.self, .bytes (a :: b :: c :: e :: d).toArray k] (TP A root rt D) [] (fun v _ => ∃ bs : List (List UInt8), bs.Perm (entKeys A.c (pre t)) ∧ bs.Pairwise KLe ∧ OptK v (bs[nextI T (8 * A.c) A.c (kl a b c e) (dw d) t bs]?))
theorem sp_next_key : A13 St_sp_next_key := by
 refine' ey13 (ne_P ne_W (ne_P ne_TA (ne_P ne_TS (ne_P ne_L (ne_P ne_Tr (ne_P ne_N (ne_P ne_U (ne_P ne_U (ne_P ne_U (ne_P ne_U (ne_P ne_L (ne_P ne_N ne_I)))))))))))) ((?f9 : A13 St_sp_next_key) _ _ _ _ _ _ _ _ _ _ _ _ _)
 intro w A T D t rt a b c e d k root R ht hz hd hroot hen
 refine' Sp.of_W [("key", .b (a :: b :: c :: e :: d).toArray), ("self", .v (.ref A.self))] ?ho ?hcd ?hbind ?hloc ?hco ?hgen ?hk ?hcell ?hl ?_
 walk_at "ds prem0"
 case hl => exact rfl
 refine' ent_all ((?f8 : ∀ c R', Ent _ _ _ _ _ _ c R') _ _); intro k R' l0 hP hR
 have hT : ∀ N, TrO w k N A T root := fun N => ⟨rt, D, R, fun p hp => .inr (hP p hp)⟩
 clear hP l0
 refine vcS_sound 2 (RawE.mself (x := "exact") (T := T) (A := A) (root := root) (me452 w) (And.intro rfl (And.intro (hT _) (CallM.exact (hT _) (lb9 rfl) ht hroot hz hd ?_))))
 refine RawE.mself (x := "keys") (T := T) (A := A) (root := root) (meKeys w).2.2 (And.intro rfl (And.intro (hT _) (CallM.keys (hT _) (lb9 rfl) ht hz hroot hen ?_)))
 rintro v O' ⟨r, its, n, bs, hks, hperm, hpw⟩
 have h7 := hperm.length_eq
 have h8 := hks.length
 refine vcS_sound 10 (RawE.NODE ?_)
 have fin : ∀ (p : Int) (q : Nat), p + 1 = q → nextI T (8 * A.c) A.c (kl a b c e) (dw d) t bs = q → (p + 1 < (its.length : Int) → ∀ u N, R' (.bytes (bs.getD (p + 1).toNat []).toArray u) N) ∧ ((its.length : Int) ≤ p + 1 → ∀ N, R' .none N) := fun p q hp hq =>
  ⟨fun h u N => hR _ _ ⟨bs, hperm, hpw, by rw [hq]; exact optK_get hp (by lia)⟩, fun h N => hR _ _ ⟨bs, hperm, hpw, by rw [hq]; exact optK_none (by lia)⟩⟩
 rcases exact_cases2 (8 * A.c) (kl a b c e) (dw d) ht with hex | ⟨i, nd, hex, hgi, hi0, hlen, hin⟩
 ·refine And.intro (fun h => absurd hex h) fun _ => RawE.bfn (bLen w) (CallB.lenO (.inl (.head _)) rfl (by lia) (And.intro (fun h => ?_) fun h => ?_))
  ·exact ItemS.key (.head _) hks (by lia) (by lia) (by lia) fun u => (fin (-1) 0 rfl (by unfold nextI; rw [if_pos hex])).1 h u _
  ·exact fun _ => (fin (-1) 0 rfl (by unfold nextI; rw [if_pos hex])).2 h _
 ·have hex0 : exactT (8 * A.c) (kl a b c e) (dw d) t ≠ -1 := by lia
  refine And.intro (fun _ => RawT.bool (RawE.mnode (x := "is_entry") (T := T) (A := A) (root := root) (me360 w) hgi (AttrS.nodes (hT _) ?_))) fun h => absurd h hex0
  rw [hex]
  refine ItemS.node (hT _) hgi (And.intro rfl (And.intro (hT _) (CallM.is_entry (hT _) (lb9 rfl) hgi ⟨_, rfl, fun hb => ?_, fun hb => ?_⟩)))
  ·have hs : nd.slot ≠ -1 := of_decide_eq_true hb
   have hm : keyB A.c nd.len nd.w ∈ bs := hperm.mem_iff.mpr (List.mem_map.mpr ⟨(i, nd), List.mem_filter.mpr ⟨hin, by simpa using hs⟩, rfl⟩)
   have hn : nextI T (8 * A.c) A.c (kl a b c e) (dw d) t bs = bs.idxOf (keyB A.c nd.len nd.w) + 1 := by unfold nextI; rw [if_neg hex0, hex, hgi]; dsimp only; rw [if_neg hs]
   refine RawE.bmeth (And.intro rfl (And.intro (MethB.index (.head _)) (RawE.mself (x := "node_key") (T := T) (A := A) (root := root) (meKeys w).1 (And.intro rfl (And.intro (hT _) (CallM.node_key (hT _) (lb9 rfl) hgi ?_))))))
   refine CallB.indexK (.head _) hks hm (by lia) (RawE.bfn (bLen w) (CallB.lenO (.inl (.head _)) rfl (by lia) (And.intro (fun h => ?_) fun h => ?_)))
   ·exact ItemS.key (.head _) hks (by lia) (by lia) (by lia) fun u => (fin _ _ rfl hn).1 h u _
   ·exact fun _ => (fin _ _ rfl hn).2 h _
  ·have hn : nextI T (8 * A.c) A.c (kl a b c e) (dw d) t bs = 0 := by unfold nextI; rw [if_neg hex0, hex, hgi]; dsimp only; rw [if_pos (Classical.not_not.mp (of_decide_eq_false hb))]
   refine RawE.bfn (bLen w) (CallB.lenO (.inl (.head _)) rfl (by lia) (And.intro (fun h => ?_) fun h => ?_))
   ·exact ItemS.key (.head _) hks (by lia) (by lia) (by lia) fun u => (fin (-1) 0 rfl hn).1 h u _
   ·exact fun _ => (fin (-1) 0 rfl hn).2 h _
theorem glM (w : World) : GlAt w "ANY" (.int 0 299) ∧ GlAt w "NO_SUCH" (.int 1 301) ∧ GlAt w "ONE_THERE" (.int 2 303) ∧ GlAt w "EEXIST" (.int 17 289) ∧ GlAt w "ENOENT" (.int 2 287) ∧
  GlAt w "KINDS" (.str (Str.ofString "array hash lru rows queue stack trie ring") 305) ∧ GlAt w "MAP_STEP" (.int 1048576 276) ∧ GlAt w "MOST_MAPS" (.int 64 293) := by
 refine ⟨?_, ?_, ?_, ?_, ?_, ?_, ?_, ?_⟩ <;> (show nsIn _ _ _ = _; k_is)
theorem fnM (w : World) : FnAt w "stride_of" 87 ∧ FnAt w "check_key_width" 101 ∧ FnAt w "check_widths" 108 := by
 exact ⟨⟨by k_is, by k_is⟩, ⟨by k_is, by k_is⟩, by k_is, by k_is⟩
section
variable {d : Df} {c : Cx} {l : Fs} {N : Led} {K : KE} {KT KF : Led → Prop}
theorem CmpS.inS {its : List Value} {ys : List Str} {x : Str} {r : Addr} (hm : (r, tupO its) ∈ N) (hi : StrsAre its ys) {N' : Led} (hs : ∀ p ∈ N', p ∈ N) (h : condP (ys.any (· == x)) (KT N') (KF N')) : CmpS d c l .In (.s x) (.v (.ref r)) N KT KF := fun t u s Q hS hQ =>
 in_tuple_strs (News.isTup hS.news hm) hi (hQ _ N' s (fun e => h.elim (fun _ k => k) fun e2 _ => by rw [e] at e2; cases e2) (fun e => h.elim (fun e2 _ => by rw [e] at e2; cases e2) fun _ k => k) (hS.sub (fun _ h => h) hs))
theorem CmpS.notinI {its : List Value} {ns : List Int} {x : Int} {r : Addr} (hm : (r, tupO its) ∈ N) (hi : IntsAre its ns) (ha : ns.any (· == x) = true) {N' : Led} (hs : ∀ p ∈ N', p ∈ N) (h : KF N') : CmpS d c l .NotIn (.i x) (.v (.ref r)) N KT KF := fun t u s Q hS hQ =>
 notin_tuple_ints (News.isTup hS.news hm) hi (hQ _ N' s (fun e => by rw [ha] at e; cases e) (fun _ => h) (hS.sub (fun _ h => h) hs))
theorem CmpS.eqS {x y : Str} (h : condP (x == y) (KT N) (KF N)) : CmpS d c l .Eq (.s x) (.s y) N KT KF := fun t u s Q hS hQ =>
 eq_str (hQ _ N s (fun e => h.elim (fun _ k => k) fun e2 _ => by rw [e] at e2; cases e2) (fun e => h.elim (fun e2 _ => by rw [e] at e2; cases e2) fun _ k => k) hS)
theorem RawT.chain {a r1 r2 : PySem.Expr} {o1 o2 : CmpOp} {pos : Pos} (h : vc d c 30 (.E l N a fun x N1 => vc d c 30 (.E l N1 r1 fun y N2 => cmpK d c l o1 x y N2 (fun N3 => vc d c 30 (.E l N3 r2 fun z N4 => cmpK d c l o2 y z N4 KT KF)) KF)))
  (hm : autoParam (lastMarks [o1, o2] [r1, r2] = false) name_B._auto_3) : RawT d c l N (.Compare a [o1, o2] [r1, r2] pos) KT KF := fun s Q hS hQ => by
 refine isTrue_chain (vc_sound 30 _ h s _ hS ?_) hm
 rintro v x N1 s1 ⟨t, rfl⟩ h1 hS1
 refine test_link (vc_sound 30 _ h1 s1 _ hS1 ?_)
 rintro v y N2 s2 ⟨u, rfl⟩ h2 hS2
 refine cmpK_sound h2 t u s2 _ hS2 fun b N3 s3 g1 g2 hS3 => wpAny_truthy_bool ?_
 cases b with
 | false => exact hQ _ _ _ (fun e => nomatch e) (fun _ => g2 rfl) hS3
 | true =>
  refine test_last (vc_sound 30 _ (g1 rfl) s3 _ hS3 ?_)
  rintro v z N4 s4 ⟨u4, rfl⟩ h4 hS4
  exact cmpK_sound h4 u u4 s4 _ hS4 fun b N5 s5 k1 k2 hS5 => wpAny_truthy_bool (hQ _ _ _ k1 k2 hS5)
end
noncomputable def St_sp_flags_answer (w : World) (fl : Nat) (t : Tok) (b : Bool) : Prop := ∀ (hf : fl = 0 ∨ fl = 1 ∨ fl = 2), Sp w 304 1 [.int (fl : Int) t, .bool b] [] [] (fun v O' => O' = [] ∧ ∃ t, v = .int (if fl = 1 ∧ b = true then -17 else if fl = 2 ∧ b = false then -2 else 0) t)
theorem sp_flags_answer : A4 St_sp_flags_answer := by
 refine' ey4 (ne_P ne_W (ne_P ne_N (ne_P ne_N ne_B))) ((?f9 : A4 St_sp_flags_answer) _ _ _ _)
 intro w fl t b hf
 refine' Sp.of_W [("is_there", .v (.bool b)), ("flags", .i fl)] ?ho ?hcd ?hbind ?hloc ?hco ?hgen ?hk ?hcell ?hl ?_
 walk_at "ds prem0"
 case hl => exact rfl
 refine' ent_all ((?f8 : ∀ c R', Ent _ _ _ _ _ _ c R') _ _); intro k R' l0 hP hR
 have out : ∀ (z : Int), (if fl = 1 ∧ b = true then -17 else if fl = 2 ∧ b = false then -2 else 0) = z → ∀ t, R' (.int z t) [] := fun z e t => hR _ _ ⟨rfl, t, by rw [e]⟩
 refine vcS_sound 10 (RawE.glob (sh := .i 0) (glM w).1 ⟨299, rfl⟩ (RawE.glob (sh := .i 1) (glM w).2.1 ⟨301, rfl⟩ (RawE.glob (sh := .i 2) (glM w).2.2.1 ⟨303, rfl⟩ fun ts r _ => CmpS.notinI (ns := [0, 1, 2]) (.head _) (.cons _ _ (.cons _ _ (.cons _ _ .nil))) (by rcases hf with rfl | rfl | rfl <;> rfl) sub_nil ?_)))
 refine RawE.glob (sh := .i 1) (glM w).2.1 ⟨301, rfl⟩ (And.intro (fun h1 => RawT.bool (vc_sound 30 (.E _ _ _ _) ⟨b, rfl, fun hb => ?_, fun hb => ?_⟩)) fun h1 => ?_)
 ·exact RawE.glob (sh := .i 17) (glM w).2.2.2.1 ⟨289, rfl⟩ (out _ (by rw [if_pos ⟨by lia, hb⟩]; rfl))
 ·exact RawE.glob (sh := .i 2) (glM w).2.2.1 ⟨303, rfl⟩ (And.intro (fun h2 => absurd h2 (by lia)) fun h2 => out _ (by rw [if_neg (fun h => by rw [hb] at h; exact nomatch h.2), if_neg (by lia)]))
 ·refine RawE.glob (sh := .i 2) (glM w).2.2.1 ⟨303, rfl⟩ (And.intro (fun h2 => RawT.bool (vc_sound 30 (.E _ _ _ _) ⟨b, rfl, fun hb => ?_, fun hb => ?_⟩)) fun h2 => ?_)
  ·exact out _ (by rw [if_neg (by lia), if_neg (fun h => by rw [hb] at h; exact nomatch h.2)])
  ·exact RawE.glob (sh := .i 2) (glM w).2.2.2.2.1 ⟨287, rfl⟩ (out _ (by rw [if_neg (by lia), if_pos ⟨by lia, hb⟩]; rfl))
  ·exact out _ (by rw [if_neg (by lia), if_neg (by lia)])
noncomputable def St_sp_stride_of (w : World) (t : Tok) : Prop := Sp w 87 1 [.int 1 t] [] [] (fun v O' => O' = [] ∧ ∃ t, v = .int 16 t)
theorem sp_stride_of : A2 St_sp_stride_of := by
 refine' ey2 (ne_P ne_W ne_N) ((?f9 : A2 St_sp_stride_of) _ _)
 intro w t
 unfold St_sp_stride_of
 refine' Sp.of_W [("width", .i 1)] ?ho ?hcd ?hbind ?hloc ?hco ?hgen ?hk ?hcell ?hl ?_
 walk_at "ds prem0"
 case hl => exact rfl
 refine' ent_all ((?f8 : ∀ c R', Ent _ _ _ _ _ _ c R') _ _); intro k R' l0 hP hR
 exact vcS_sound 10 (OpS.fdiv (by lia) (show Int.fdiv (1 + 7) 8 = 1 by decide) (OpS.mul (by lia) fun t => hR _ _ ⟨rfl, t, rfl⟩))
noncomputable def St_sp_check_key_width (w : World) (c : Nat) (t1 t2 : Tok) : Prop := ∀ (h1 : 1 ≤ c) (h8 : c ≤ 8), Sp w 101 1 [.str "trie" t1, .int ((4 + c : Nat) : Int) t2] [] [] (fun v O' => O' = [] ∧ ∃ t, v = (Sh.v .none).val t)
theorem sp_check_key_width : A4 St_sp_check_key_width := by
 refine' ey4 (ne_P ne_W (ne_P ne_N (ne_P ne_N ne_N))) ((?f9 : A4 St_sp_check_key_width) _ _ _ _)
 intro w c t1 t2 h1 h8
 refine' Sp.of_W [("key_width", .i ((4 + c : Nat) : Int)), ("kind", .s "trie")] ?ho ?hcd ?hbind ?hloc ?hco ?hgen ?hk ?hcell ?hl ?_
 walk_at "ds prem0"
 case hl => exact rfl
 refine' ent_all ((?f8 : ∀ c R', Ent _ _ _ _ _ _ c R') _ _); intro k R' l0 hP hR
 refine vcS_sound 10 (fun ts r _ => CmpS.inS (.head _) (.cons _ _ (.cons _ _ (.cons _ _ .nil))) sub_nil (CmpS.eqS (RawT.chain (And.intro (fun _ => And.intro (fun _ => hR _ _ ⟨rfl, 0, rfl⟩) fun h => absurd h ?_) fun h => absurd h ?_)))) <;> lia
section
variable {d : Df} {c : Cx} {l : Fs} {N : Led} {K : KE} {KT KF : Led → Prop}
structure MethV (d : Df) (c : Cx) (y : Str) (x : Str) (f : String) : Prop where
 m : ∀ (t : Tok) (pl : Sem Bool) (s : Shared) (Q : Value × List Value → Shared → Prop), Q (.builtin f, [.str y t]) s → wpAny (model PR d.w) (cA d c) (getMethod (.str y t) x pl) Q EF s
theorem RawE.smeth {x : Str} {o e : PySem.Expr} {apos pos : Pos} {y : Str} {f : String} {es : List PySem.Expr} (hm : MethV d c y x f)
  (h : vc d c 30 (.E l N o fun sh N1 => sh = .s y ∧ vc d c 30 (.L l N1 (e :: es) fun shs N2 => ∀ t, CallB d c l f [.str y t] shs N2 K)))
  (hp : autoParam ((e :: es).all plainE = true) name_B._auto_3) (hplain : autoParam ((backTo pos (starEach es (cE d c))).any (·.1) = false) name_B._auto_3) {pl : Sem Bool}
  (hc : autoParam (eval (.Call (.Attribute o x apos) (e :: es) [] pos) (cE d c) = (do
   let ov ← eval o (cE d c)
   standAt apos.atName
   let (f, first) ← holding [ov] (getMethod ov x pl)
   callWith pos f first (backTo pos (starEach (e :: es) (cE d c))) [])) name_B._auto_3) :
  RawE d c l N (.Call (.Attribute o x apos) (e :: es) [] pos) K := fun s Q hS hQ => by
 refine MethodCall_ (pl := pl) (vc_sound 30 _ h s _ hS ?_) hc
 rintro v _ N1 s₁ ⟨t, rfl⟩ ⟨rfl, h2⟩ h₁
 refine hm.m t pl s₁ _ (callWith_method1 ?_ (starEach_plain (by rw [List.all_cons, Bool.and_eq_true] at hp; exact hp.1)) hplain)
 exact vc_sound 30 _ h2 pos 0 s₁ _ h₁ fun ts shs N2 s2 k hS2 => k t ts s2 Q hS2 hQ
theorem mSplit {y : Str} : MethV d c y "split" "str.split" := ⟨fun t pl s Q h => by apply GM.split; exact h⟩
theorem CallB.split {x y : Str} (hy : (y.length == 0) = false) (hz : x.length + 2 ≤ sizeLine) (h : ∀ D its, StrsAre its (Txt.split x y) → K (.v (.ref D)) ((D, listOf its.toArray 0) :: N)) (t : Tok) : CallB d c l "str.split" [.str x t] [.s y] N K := fun ts s Q hS hQ => by
 obtain ⟨ok, ⟨hp, tk, rfl⟩, ⟨m, F, H⟩, hN⟩ := hS
 exact W.KSpl.split1 F hN hy (fun D l9 h' k9 hl hi F' N' _ => hQ.use (sh := .v (.ref D)) 0 (h D _ (hl ▸ hi)) ⟨ok, ⟨_, _, rfl⟩, ⟨m, F', H⟩, N'⟩) hz
theorem CmpS.notinS {its : List Value} {ys : List Str} {x : Str} {r : Addr} {n : Nat} (hm : (r, listOf its.toArray n) ∈ N) (hi : StrsAre its ys) (ha : ys.any (· == x) = true) {N' : Led} (hs : ∀ p ∈ N', p ∈ N) (h : KF N') : CmpS d c l .NotIn (.s x) (.v (.ref r)) N KT KF := fun t u s Q hS hQ =>
 notin_list_strs (News.isList hS.news hm) hi (hQ _ N' s (fun e => by rw [ha] at e; cases e) (fun _ => h) (hS.sub (fun _ h => h) hs))
end
noncomputable def St_sp_check_widths (w : World) (c most : Nat) (t1 t2 t3 t4 : Tok) : Prop := ∀ (h1 : 1 ≤ c) (h8 : c ≤ 8) (hm : 1 ≤ most) (hm3 : most ≤ 3), Sp w 108 3 [.str "trie" t1, .int ((4 + c : Nat) : Int) t2, .int 1 t3, .int (most : Int) t4] [] [] (fun v O' => O' = [] ∧ ∃ t, v = (Sh.v .none).val t)
theorem sp_check_widths : A7 St_sp_check_widths := by
 refine' ey7 (ne_P ne_W (ne_P ne_N (ne_P ne_N (ne_P ne_N (ne_P ne_N (ne_P ne_N ne_N)))))) ((?f9 : A7 St_sp_check_widths) _ _ _ _ _ _ _)
 intro w c most t1 t2 t3 t4 h1 h8 hm hm3
 refine' Sp.of_W [("most", .i (most : Int)), ("value_width", .i 1), ("key_width", .i ((4 + c : Nat) : Int)), ("kind", .s "trie")] ?ho ?hcd ?hbind ?hloc ?hco ?hgen ?hk ?hcell ?hl ?_
 walk_at "ds prem0"
 case hl => exact rfl
 refine' ent_all ((?f8 : ∀ c R', Ent _ _ _ _ _ _ c R') _ _); intro k R' l0 hP hR
 refine vcS_sound 10 (RawE.smeth (y := "array hash lru rows queue stack trie ring") mSplit (RawE.glob (sh := .s "array hash lru rows queue stack trie ring") (glM w).2.2.2.2.2.1 ⟨305, rfl⟩ (And.intro rfl (CallB.split rfl (by decide) fun D its hi => CmpS.notinS (.head _) hi (by decide +kernel) sub_nil ?_))))
 refine RawE.fn (fnM w).2.1 (CallS.pureK (sh := .v .none) (lb9 rfl) (fun ts => sp_check_key_width w c (ts 0) (ts 1) h1 h8) ?_)
 refine CmpS.eqS (And.intro (fun h => absurd h (by decide)) fun _ => And.intro (fun h => absurd h (by lia)) fun _ => ?_)
 refine RawE.fn (fnM w).1 (CallS.pureK (sh := .i 16) (lb9 rfl) (fun ts => sp_stride_of w (ts 0)) ?_)
 refine OpS.mul (.inl (by decide)) (CmpS.eqS (OpS.mul (by lia) (RawE.glob (sh := .i 1048576) (glM w).2.2.2.2.2.2.1 ⟨276, rfl⟩ (And.intro (fun h => absurd h (by lia)) fun _ => hR _ _ ⟨rfl, 0, rfl⟩))))
noncomputable def put (D : Led) (d : Addr) (o : Obj) : Led := (d, o) :: D.filter (fun p => !(p.1 == d))
theorem put_ne {D : Led} {d : Addr} {o : Obj} {p : Addr × Obj} (hp : p ∈ D) (hne : p.1 ≠ d) : p ∈ put D d o :=
 .tail _ (List.mem_filter.mpr ⟨hp, by simpa using hne⟩)
theorem put_here {D : Led} {d : Addr} {o : Obj} : (d, o) ∈ put D d o := .head _
section
variable {g h : Heap} {L : Addr} {A : TA} {root : Int} {rt : Tok} {D : Led} {d : Addr} {o o' : Obj} {news : Led}
theorem tp_out (N : News g L h news) (hs : ∀ p ∈ TP A root rt D, p ∈ news) (hm : (d, o) ∈ D) : News g L h ((d, o) :: TP A root rt (D.filter fun p => !(p.1 == d))) := by
 intro p hp
 refine N p (hs p ?_)
 rcases List.mem_cons.mp hp with rfl | hp
 ·exact .tail _ (.tail _ hm)
 rcases List.mem_cons.mp hp with rfl | hp
 ·exact .head _
 rcases List.mem_cons.mp hp with rfl | hp
 ·exact .tail _ (.head _)
 ·exact .tail _ (.tail _ ((List.mem_filter.mp hp).1))
theorem tp_rest (h1 : A.self ≠ d) (h2 : A.d ≠ d) : ∀ p ∈ TP A root rt (D.filter fun p => !(p.1 == d)), p.1 ≠ d := by
 intro p hp
 rcases List.mem_cons.mp hp with rfl | hp
 ·exact h1
 rcases List.mem_cons.mp hp with rfl | hp
 ·exact h2
 ·have := (List.mem_filter.mp hp).2; simpa using this
theorem tp_in (N : News g L h ((d, o') :: TP A root rt (D.filter fun p => !(p.1 == d)))) : News g L h (TP A root rt (put D d o')) := by
 intro p hp
 refine N p ?_
 rcases List.mem_cons.mp hp with rfl | hp
 ·exact .tail _ (.head _)
 rcases List.mem_cons.mp hp with rfl | hp
 ·exact .tail _ (.tail _ (.head _))
 rcases List.mem_cons.mp hp with rfl | hp
 ·exact .head _
 ·exact .tail _ (.tail _ (.tail _ hp))
end
theorem nodup_flatMap_inj {α β : Type} {f : α → List β} : ∀ {l : List α}, (l.flatMap f).Nodup → ∀ p ∈ l, ∀ q ∈ l, ∀ y, y ∈ f p → y ∈ f q → p = q
 | [], _, p, hp, _, _, _, _, _ => nomatch hp
 | x :: l, h, p, hp, q, hq, y, yp, yq => by
  rw [List.flatMap_cons, List.nodup_append] at h
  obtain ⟨h1, h2, h3⟩ := h
  rcases List.mem_cons.mp hp with e1 | hp1 <;> rcases List.mem_cons.mp hq with e2 | hq1
  ·rw [e1, e2]
  ·rw [e1] at yp; exact absurd rfl (h3 y yp y (List.mem_flatMap.mpr ⟨q, hq1, yq⟩))
  ·rw [e2] at yq; exact absurd rfl (h3 y yq y (List.mem_flatMap.mpr ⟨p, hp1, yp⟩))
  ·exact nodup_flatMap_inj h2 p hp1 q hq1 y yp yq
theorem nodup_flatMap_of {α β : Type} {f : α → List β} : ∀ {l : List α}, (l.flatMap f).Nodup → ∀ p ∈ l, (f p).Nodup
 | [], _, p, hp => nomatch hp
 | x :: l, h, p, hp => by
  rw [List.flatMap_cons, List.nodup_append] at h
  rcases List.mem_cons.mp hp with rfl | hp
  ·exact h.1
  ·exact nodup_flatMap_of h.2.1 p hp
noncomputable def fixA (A : TA) : List Addr := [A.self, A.d, A.vd, A.nd, A.fr, A.ud]
section
variable {w : World} {A : TA} {T : TS} {D D' : Led} {i : Int} {a a' : Nd}
structure DisP (A : TA) (T : TS) : Prop where
 fix : (fixA A).Nodup
 fn : ∀ y ∈ fixA A, ∀ p ∈ T.nodes, ∀ z ∈ ndAddrs p.2, y ≠ z
 fv : ∀ y ∈ fixA A, ∀ p ∈ T.vals, y ≠ p.2.1
 nv : ∀ p ∈ T.nodes, ∀ z ∈ ndAddrs p.2, ∀ q ∈ T.vals, z ≠ q.2.1
 nn : ∀ p ∈ T.nodes, ∀ q ∈ T.nodes, ∀ y, y ∈ ndAddrs p.2 → y ∈ ndAddrs q.2 → p = q
 n1 : ∀ p ∈ T.nodes, (ndAddrs p.2).Nodup
 v1 : (T.vals.map fun p => p.2.1).Nodup
theorem TR.disP (R : TR w A T D) : DisP A T := by
 have h := R.dis
 unfold tAddrs at h
 rw [List.nodup_append] at h
 obtain ⟨h1, h2, h3⟩ := h
 rw [List.nodup_append] at h1
 obtain ⟨h4, h5, h6⟩ := h1
 exact ⟨h4, fun y hy p hp z hz => h6 y hy z (List.mem_flatMap.mpr ⟨p, hp, hz⟩), fun y hy p hp => h3 y (List.mem_append_left _ hy) _ (List.mem_map.mpr ⟨p, hp, rfl⟩),
  fun p hp z hz q hq => h3 z (List.mem_append_right _ (List.mem_flatMap.mpr ⟨p, hp, hz⟩)) _ (List.mem_map.mpr ⟨q, hq, rfl⟩), nodup_flatMap_inj h5, nodup_flatMap_of h5, h2⟩
theorem TR.nkeys (R : TR w A T D) : (T.nodes.map (·.1)).Nodup := by
 obtain ⟨o, _, es, ep, _, _, _, _, hn⟩ := R.nd
 simpa [List.map_map, Function.comp_def] using hn
theorem TR.vkeys (R : TR w A T D) : (T.vals.map (·.1)).Nodup := by
 obtain ⟨o, _, es, ep, _, _, _, _, hn⟩ := R.vd
 simpa [List.map_map, Function.comp_def] using hn
theorem keys_inj {β : Type} : ∀ {l : List (Int × β)}, (l.map (·.1)).Nodup → ∀ p ∈ l, ∀ q ∈ l, p.1 = q.1 → p = q
 | [], _, p, hp, _, _, _ => nomatch hp
 | x :: l, h, p, hp, q, hq, e => by
  rw [List.map_cons, List.nodup_cons] at h
  rcases List.mem_cons.mp hp with e1 | hp1 <;> rcases List.mem_cons.mp hq with e2 | hq1
  ·rw [e1, e2]
  ·rw [e1] at e; exact absurd (List.mem_map.mpr ⟨q, hq1, e.symm⟩) h.1
  ·rw [e2] at e; exact absurd (List.mem_map.mpr ⟨p, hp1, e⟩) h.1
  ·exact keys_inj h.2 p hp1 q hq1 e
theorem find_keys {β : Type} {l : List (Int × β)} (hn : (l.map (·.1)).Nodup) {i : Int} {a : β} : (l.find? fun p => p.1 == i).map (·.2) = some a ↔ (i, a) ∈ l := by
 constructor
 ·intro h
  obtain ⟨p, hp, rfl⟩ := Option.map_eq_some_iff.mp h
  have h1 := List.find?_some hp
  have h2 := List.mem_of_find?_eq_some hp
  have : p.1 = i := by simpa using h1
  rw [← this]; exact h2
 ·intro h
  cases hf : l.find? fun p => p.1 == i with
  | none => exact absurd (List.find?_eq_none.mp hf _ h) (by simp)
  | some p =>
   have h1 := List.find?_some hf
   have h2 := List.mem_of_find?_eq_some hf
   have : p.1 = i := by simpa using h1
   have := keys_inj hn p h2 (i, a) h this
   rw [this]; rfl
theorem TR.getN_iff (R : TR w A T D) : getN T i = some a ↔ (i, a) ∈ T.nodes := find_keys R.nkeys
theorem TR.mono (R : TR w A T D) (hD : ∀ p ∈ D, p.1 ≠ A.self → p.1 ≠ A.d → p ∈ D') : TR w A T D' := by
 have P := R.disP
 have h6 := P.fix
 simp only [fixA, List.nodup_cons, List.mem_cons, not_or] at h6
 have q : ∀ y : Addr, y ≠ A.self → y ≠ A.d → ∀ o, (y, o) ∈ D → (y, o) ∈ D' := fun y h1 h2 o ho => hD _ ho h1 h2
 obtain ⟨s1, s2, s3, s4⟩ := h6
 have hf : ∀ p ∈ T.nodes, ∀ z ∈ ndAddrs p.2, z ≠ A.self ∧ z ≠ A.d := fun p hp z hz => ⟨(P.fn A.self (by simp [fixA]) p hp z hz).symm, (P.fn A.d (by simp [fixA]) p hp z hz).symm⟩
 refine ⟨?_, ?_, ?_, ?_, ?_, ?_, R.dis, R.lo, R.wb, R.cb, R.sz⟩
 ·obtain ⟨o, ho, hd⟩ := R.nd; exact ⟨o, q _ (by intro e; simp_all) (by intro e; simp_all) _ ho, hd⟩
 ·obtain ⟨o, ho, hd⟩ := R.ud; exact ⟨o, q _ (by intro e; simp_all) (by intro e; simp_all) _ ho, hd⟩
 ·obtain ⟨o, ho, hd⟩ := R.vd; exact ⟨o, q _ (by intro e; simp_all) (by intro e; simp_all) _ ho, hd⟩
 ·obtain ⟨o, e, ho, hd⟩ := R.fr; exact ⟨o, e, q _ (by intro e; simp_all) (by intro e; simp_all) _ ho, hd⟩
 ·intro p hp
  obtain ⟨h1, ⟨kd, tk, h2⟩, t0, t1, e, h3⟩ := R.node p hp
  exact ⟨q _ (hf p hp _ (by simp [ndAddrs])).1 (hf p hp _ (by simp [ndAddrs])).2 _ h1, ⟨kd, tk, q _ (hf p hp _ (by simp [ndAddrs])).1 (hf p hp _ (by simp [ndAddrs])).2 _ h2⟩, t0, t1, e, q _ (hf p hp _ (by simp [ndAddrs])).1 (hf p hp _ (by simp [ndAddrs])).2 _ h3⟩
 ·intro p hp
  exact q _ (P.fv A.self (by simp [fixA]) p hp).symm (P.fv A.d (by simp [fixA]) p hp).symm _ (R.val p hp)
noncomputable def setN (T : TS) (i : Int) (a' : Nd) : TS := { T with nodes := T.nodes.map fun p => if p.1 = i then (i, a') else p }
theorem setN_keys (T : TS) (i : Int) (a' : Nd) : (setN T i a').nodes.map (·.1) = T.nodes.map (·.1) := by
 unfold setN
 rw [List.map_map]
 apply List.map_congr_left
 intro p _
 show (if p.1 = i then (i, a') else p).1 = p.1
 split
 ·rename_i h; exact h.symm
 ·rfl
theorem mem_setN {T : TS} {i : Int} {a' : Nd} {p : Int × Nd} (h : p ∈ (setN T i a').nodes) : p = (i, a') ∨ (p ∈ T.nodes ∧ p.1 ≠ i) := by
 obtain ⟨q, hq, rfl⟩ := List.mem_map.mp h
 split
 ·exact .inl rfl
 ·exact .inr ⟨hq, by assumption⟩
theorem setN_addrs (R : TR w A T D) (hv : getN T i = some a) (ha : ndAddrs a' = ndAddrs a) : tAddrs A (setN T i a') = tAddrs A T := by
 have hm := R.getN_iff.mp hv
 have e : (setN T i a').nodes.flatMap (fun p => ndAddrs p.2) = T.nodes.flatMap (fun p => ndAddrs p.2) := by
  unfold setN
  show (T.nodes.map _).flatMap _ = _
  rw [List.flatMap_def, List.flatMap_def, List.map_map]
  congr 1
  apply List.map_congr_left
  intro p hp
  show ndAddrs (if p.1 = i then (i, a') else p).2 = _
  split
  ·rename_i h
   rw [keys_inj R.nkeys p hp (i, a) hm h]; exact ha
  ·rfl
 unfold tAddrs
 rw [e]; rfl
theorem TR.setN (R : TR w A T D) (hv : getN T i = some a) (ha : ndAddrs a' = ndAddrs a) (hw : a'.w < 2 ^ (8 * A.c) ∧ a'.len ≤ 8 * A.c) (hn : NodeIn D' a') (y : Addr) (hy : y ∈ ndAddrs a) (hD : ∀ p ∈ D, p.1 ≠ y → p ∈ D') : TR w A (setN T i a') D' := by
 have P := R.disP
 have hm := R.getN_iff.mp hv
 have q : ∀ z : Addr, z ≠ y → ∀ o, (z, o) ∈ D → (z, o) ∈ D' := fun z h1 o ho => hD _ ho h1
 have hx : ∀ p ∈ T.nodes, (if p.1 = i then (i, a') else p).2.x = p.2.x := by
  intro p hp
  split
  ·rename_i h
   rw [keys_inj R.nkeys p hp (i, a) hm h]
   have : [a'.x, a'.dx, a'.cx] = [a.x, a.dx, a.cx] := ha
   injection this
  ·rfl
 refine ⟨?_, ?_, ?_, ?_, ?_, ?_, by rw [setN_addrs R hv ha]; exact R.dis, R.lo, ?_, R.cb, by have := R.sz; simpa [Mine.setN] using this⟩
 ·obtain ⟨o, ho, hd⟩ := R.nd
  refine ⟨o, q _ (P.fn A.nd (by simp [fixA]) _ hm y hy) _ ho, ?_⟩
  have e : ((Mine.setN T i a').nodes.map fun p => (p.1, Value.ref p.2.x)) = T.nodes.map fun p => (p.1, Value.ref p.2.x) := by
   unfold Mine.setN
   rw [List.map_map]
   apply List.map_congr_left
   intro p hp
   show ((if p.1 = i then (i, a') else p).1, Value.ref (if p.1 = i then (i, a') else p).2.x) = _
   rw [hx p hp]
   split
   ·rename_i h; rw [h]
   ·rfl
  rw [e]; exact hd
 ·obtain ⟨o, ho, hd⟩ := R.ud; exact ⟨o, q _ (P.fn A.ud (by simp [fixA]) _ hm y hy) _ ho, hd⟩
 ·obtain ⟨o, ho, hd⟩ := R.vd; exact ⟨o, q _ (P.fn A.vd (by simp [fixA]) _ hm y hy) _ ho, hd⟩
 ·obtain ⟨o, e, ho, hd⟩ := R.fr; exact ⟨o, e, q _ (P.fn A.fr (by simp [fixA]) _ hm y hy) _ ho, hd⟩
 ·intro p hp
  rcases mem_setN hp with rfl | ⟨hp, hne⟩
  ·exact hn
  ·obtain ⟨h1, ⟨kd, tk, h2⟩, t0, t1, e, h3⟩ := R.node p hp
   have hz : ∀ z ∈ ndAddrs p.2, z ≠ y := fun z hz e => hne (by rw [P.nn p hp _ hm z hz (by rw [e]; exact hy)])
   exact ⟨q _ (hz _ (by simp [ndAddrs])) _ h1, ⟨kd, tk, q _ (hz _ (by simp [ndAddrs])) _ h2⟩, t0, t1, e, q _ (hz _ (by simp [ndAddrs])) _ h3⟩
 ·intro p hp
  exact q _ (P.nv _ hm y hy p hp).symm _ (R.val p hp)
 ·intro p hp
  rcases mem_setN hp with rfl | ⟨hp, hne⟩
  ·exact hw
  ·exact R.wb p hp
end
section
variable {w : World} {A : TA} {T : TS} {D D' : Led} {i : Int} {a a' : Nd}
theorem fixNe (P : DisP A T) : A.self ≠ A.d ∧ A.self ≠ A.vd ∧ A.self ≠ A.nd ∧ A.self ≠ A.fr ∧ A.self ≠ A.ud ∧ A.d ≠ A.vd ∧ A.d ≠ A.nd ∧ A.d ≠ A.fr ∧ A.d ≠ A.ud ∧ A.vd ≠ A.nd ∧ A.vd ≠ A.fr ∧ A.vd ≠ A.ud ∧ A.nd ≠ A.fr ∧ A.nd ≠ A.ud ∧ A.fr ≠ A.ud := by
 have h := P.fix
 simp only [fixA, List.nodup_cons, List.mem_cons, not_or] at h
 obtain ⟨⟨h1, h2, h3, h4, h5, _⟩, ⟨h6, h7, h8, h9, _⟩, ⟨h10, h11, h12, _⟩, ⟨h13, h14, _⟩, ⟨h15, _⟩, _⟩ := h
 exact ⟨h1, h2, h3, h4, h5, h6, h7, h8, h9, h10, h11, h12, h13, h14, h15⟩
theorem NodeIn.lift {y : Addr} (q : ∀ z : Addr, z ≠ y → ∀ o, (z, o) ∈ D → (z, o) ∈ D') (h : NodeIn D a) (hz : ∀ z ∈ ndAddrs a, z ≠ y) : NodeIn D' a := by
 obtain ⟨h1, ⟨kd, tk, h2⟩, t0, t1, e, h3⟩ := h
 exact ⟨q _ (hz _ (by simp [ndAddrs])) _ h1, ⟨kd, tk, q _ (hz _ (by simp [ndAddrs])) _ h2⟩, t0, t1, e, q _ (hz _ (by simp [ndAddrs])) _ h3⟩
theorem flatMap_filter_sub {α β : Type} (f : α → List β) (p : α → Bool) : ∀ l : List α, ((l.filter p).flatMap f).Sublist (l.flatMap f)
 | [] => List.Sublist.refl _
 | x :: l => by
  rw [List.filter_cons]
  split
  ·rw [List.flatMap_cons, List.flatMap_cons]
   exact List.Sublist.append (List.Sublist.refl _) (flatMap_filter_sub f p l)
  ·rw [List.flatMap_cons]
   exact (flatMap_filter_sub f p l).trans (List.sublist_append_right _ _)
noncomputable def addN (T : TS) (i : Int) (a : Nd) : TS := { T with nodes := T.nodes ++ [(i, a)] }
noncomputable def popN (T : TS) (i : Int) : TS := { T with nodes := T.nodes.filter fun p => decide (p.1 ≠ i) }
noncomputable def setF (T : TS) (l : List Int) : TS := { T with frees := l }
noncomputable def setU (T : TS) (l : List Int) : TS := { T with used := l }
noncomputable def setV (T : TS) (l : List (Int × Addr × UInt8)) : TS := { T with vals := l }
theorem TR.addN (R : TR w A T D) (hw : a.w < 2 ^ (8 * A.c) ∧ a.len ≤ 8 * A.c) (hn : NodeIn D' a)
  (hnd : ∃ o, (A.nd, o) ∈ D' ∧ o.IsDictOf (ik w) ((T.nodes.map fun p => (p.1, Value.ref p.2.x)) ++ [(i, Value.ref a.x)])) (hD : ∀ p ∈ D, p.1 ≠ A.nd → p ∈ D')
  (hf : ∀ y ∈ tAddrs A T, ∀ z ∈ ndAddrs a, y ≠ z) (h1 : (ndAddrs a).Nodup) (hz : T.nodes.length + 1 ≤ 1000) : TR w A (addN T i a) D' := by
 have P := R.disP
 have q : ∀ z : Addr, z ≠ A.nd → ∀ o, (z, o) ∈ D → (z, o) ∈ D' := fun z h1 o ho => hD _ ho h1
 obtain ⟨n1, n2, n3, n4, n5, n6, n7, n8, n9, n10, n11, n12, n13, n14, n15⟩ := fixNe P
 refine ⟨?_, ?_, ?_, ?_, ?_, ?_, ?_, R.lo, ?_, R.cb, by have := R.sz; simp only [Mine.addN, List.length_append, List.length_cons, List.length_nil]; lia⟩
 ·obtain ⟨o, ho, hd⟩ := hnd
  exact ⟨o, ho, by simpa [Mine.addN] using hd⟩
 ·obtain ⟨o, ho, hd⟩ := R.ud; exact ⟨o, q _ n14.symm _ ho, hd⟩
 ·obtain ⟨o, ho, hd⟩ := R.vd; exact ⟨o, q _ n10 _ ho, hd⟩
 ·obtain ⟨o, e, ho, hd⟩ := R.fr; exact ⟨o, e, q _ n13.symm _ ho, hd⟩
 ·intro p hp
  rcases List.mem_append.mp hp with hp | hp
  ·exact (R.node p hp).lift q fun z hz => (P.fn A.nd (by simp [fixA]) p hp z hz).symm
  ·rw [List.mem_singleton.mp hp]; exact hn
 ·intro p hp; exact q _ (P.fv A.nd (by simp [fixA]) p hp).symm _ (R.val p hp)
 ·have hd := R.dis
  have e : (tAddrs A (Mine.addN T i a)).Perm (tAddrs A T ++ ndAddrs a) := by
   unfold tAddrs Mine.addN
   simp only [List.flatMap_append, List.flatMap_cons, List.flatMap_nil, List.append_nil, List.append_assoc]
   exact List.Perm.append_left _ (List.Perm.append_left _ List.perm_append_comm)
  rw [e.nodup_iff, List.nodup_append]
  exact ⟨hd, h1, hf⟩
 ·intro p hp
  rcases List.mem_append.mp hp with hp | hp
  ·exact R.wb p hp
  ·rw [List.mem_singleton.mp hp]; exact hw
theorem getN_addN (hi : getN T i = none) (j : Int) : getN (addN T i a) j = if j = i then some a else getN T j := by
 unfold getN Mine.addN at *
 rw [List.find?_append]
 split
 ·rename_i h; subst h
  have : T.nodes.find? (fun p => p.1 == j) = none := by simpa using hi
  rw [this]; simp
 ·rename_i h
  cases hh : T.nodes.find? (fun p => p.1 == j) with
  | some p => simp
  | none => simp; exact fun e => h e.symm
theorem TR.popN (R : TR w A T D) (hnd : ∃ o, (A.nd, o) ∈ D' ∧ o.IsDictOf (ik w) (without (T.nodes.map fun p => (p.1, Value.ref p.2.x)) i)) (hD : ∀ p ∈ D, p.1 ≠ A.nd → p ∈ D') : TR w A (popN T i) D' := by
 have P := R.disP
 have q : ∀ z : Addr, z ≠ A.nd → ∀ o, (z, o) ∈ D → (z, o) ∈ D' := fun z h1 o ho => hD _ ho h1
 obtain ⟨n1, n2, n3, n4, n5, n6, n7, n8, n9, n10, n11, n12, n13, n14, n15⟩ := fixNe P
 have sub : (Mine.popN T i).nodes.Sublist T.nodes := List.filter_sublist
 refine ⟨?_, ?_, ?_, ?_, ?_, ?_, ?_, R.lo, ?_, R.cb, by have := R.sz; have h9 := sub.length_le; refine ⟨by lia, this.2⟩⟩
 ·obtain ⟨o, ho, hd⟩ := hnd
  refine ⟨o, ho, ?_⟩
  have e : (Mine.popN T i).nodes.map (fun p => (p.1, Value.ref p.2.x)) = without (T.nodes.map fun p => (p.1, Value.ref p.2.x)) i := by
   unfold Mine.popN without
   rw [List.filter_map]
   rfl
  rw [e]; exact hd
 ·obtain ⟨o, ho, hd⟩ := R.ud; exact ⟨o, q _ n14.symm _ ho, hd⟩
 ·obtain ⟨o, ho, hd⟩ := R.vd; exact ⟨o, q _ n10 _ ho, hd⟩
 ·obtain ⟨o, e, ho, hd⟩ := R.fr; exact ⟨o, e, q _ n13.symm _ ho, hd⟩
 ·intro p hp
  have hp := sub.subset hp
  exact (R.node p hp).lift q fun z hz => (P.fn A.nd (by simp [fixA]) p hp z hz).symm
 ·intro p hp; exact q _ (P.fv A.nd (by simp [fixA]) p hp).symm _ (R.val p hp)
 ·refine List.Nodup.sublist ?_ R.dis
  unfold tAddrs
  refine List.Sublist.append (List.Sublist.append (List.Sublist.refl _) ?_) (List.Sublist.refl _)
  exact flatMap_filter_sub _ _ _
 ·intro p hp; exact R.wb p (sub.subset hp)
theorem getN_popN (j : Int) : getN (popN T i) j = if j = i then none else getN T j := by
 unfold getN Mine.popN
 dsimp only
 rw [List.find?_filter]
 split
 ·rename_i h; subst h
  have : T.nodes.find? (fun a => decide (decide (a.1 ≠ j) = true ∧ (a.1 == j) = true)) = none := by
   rw [List.find?_eq_none]; intro x _; simp
  rw [this]; rfl
 ·rename_i h
  congr 2
  funext x
  by_cases e : x.1 = j
  ·simp [e, h]
  ·simp [e]
theorem TR.setF (R : TR w A T D) {l : List Int} (hfr : ∃ its e, (A.fr, listOf its.toArray e) ∈ D' ∧ IntsAre its l) (hD : ∀ p ∈ D, p.1 ≠ A.fr → p ∈ D') (hz : l.length ≤ 1000) : TR w A (setF T l) D' := by
 have P := R.disP
 have q : ∀ z : Addr, z ≠ A.fr → ∀ o, (z, o) ∈ D → (z, o) ∈ D' := fun z h1 o ho => hD _ ho h1
 obtain ⟨n1, n2, n3, n4, n5, n6, n7, n8, n9, n10, n11, n12, n13, n14, n15⟩ := fixNe P
 refine ⟨?_, ?_, ?_, hfr, ?_, ?_, R.dis, R.lo, R.wb, R.cb, ⟨R.sz.1, R.sz.2.1, R.sz.2.2.1, hz⟩⟩
 ·obtain ⟨o, ho, hd⟩ := R.nd; exact ⟨o, q _ n13 _ ho, hd⟩
 ·obtain ⟨o, ho, hd⟩ := R.ud; exact ⟨o, q _ n15.symm _ ho, hd⟩
 ·obtain ⟨o, ho, hd⟩ := R.vd; exact ⟨o, q _ n11 _ ho, hd⟩
 ·intro p hp; exact (R.node p hp).lift q fun z hz => (P.fn A.fr (by simp [fixA]) p hp z hz).symm
 ·intro p hp; exact q _ (P.fv A.fr (by simp [fixA]) p hp).symm _ (R.val p hp)
theorem TR.setU (R : TR w A T D) {l : List Int} (hud : ∃ o, (A.ud, o) ∈ D' ∧ o.IsDictOf (ik w) (l.map fun s => (s, Value.bool true))) (hD : ∀ p ∈ D, p.1 ≠ A.ud → p ∈ D') (hz : l.length ≤ 1000) : TR w A (setU T l) D' := by
 have P := R.disP
 have q : ∀ z : Addr, z ≠ A.ud → ∀ o, (z, o) ∈ D → (z, o) ∈ D' := fun z h1 o ho => hD _ ho h1
 obtain ⟨n1, n2, n3, n4, n5, n6, n7, n8, n9, n10, n11, n12, n13, n14, n15⟩ := fixNe P
 refine ⟨?_, hud, ?_, ?_, ?_, ?_, R.dis, R.lo, R.wb, R.cb, ⟨R.sz.1, hz, R.sz.2.2⟩⟩
 ·obtain ⟨o, ho, hd⟩ := R.nd; exact ⟨o, q _ n14 _ ho, hd⟩
 ·obtain ⟨o, ho, hd⟩ := R.vd; exact ⟨o, q _ n12 _ ho, hd⟩
 ·obtain ⟨o, e, ho, hd⟩ := R.fr; exact ⟨o, e, q _ n15 _ ho, hd⟩
 ·intro p hp; exact (R.node p hp).lift q fun z hz => (P.fn A.ud (by simp [fixA]) p hp z hz).symm
 ·intro p hp; exact q _ (P.fv A.ud (by simp [fixA]) p hp).symm _ (R.val p hp)
theorem TR.setB (R : TR w A T D) {sl : Int} {p0 : Addr} {u b : UInt8} (hv : getV T sl = some (p0, u)) (hb : (p0, baObj b) ∈ D') (hD : ∀ p ∈ D, p.1 ≠ p0 → p ∈ D') : TR w A (setV T (T.vals.map fun p => if p.1 = sl then (sl, p0, b) else p)) D' := by
 have P := R.disP
 have hm : (sl, p0, u) ∈ T.vals := getV_mem hv
 have q : ∀ z : Addr, z ≠ p0 → ∀ o, (z, o) ∈ D → (z, o) ∈ D' := fun z h1 o ho => hD _ ho h1
 have fx : ∀ y ∈ fixA A, y ≠ p0 := fun y hy => P.fv y hy _ hm
 have adr : ∀ p ∈ T.vals, (if p.1 = sl then (sl, p0, b) else p).1 = p.1 ∧ (if p.1 = sl then (sl, p0, b) else p).2.1 = p.2.1 := by
  intro p hp
  split
  ·rename_i h
   have := keys_inj R.vkeys p hp _ hm h
   rw [this]; exact ⟨rfl, rfl⟩
  ·exact ⟨rfl, rfl⟩
 refine ⟨?_, ?_, ?_, ?_, ?_, ?_, ?_, R.lo, R.wb, R.cb, ⟨R.sz.1, R.sz.2.1, by simpa [Mine.setV] using R.sz.2.2.1, R.sz.2.2.2⟩⟩
 ·obtain ⟨o, ho, hd⟩ := R.nd; exact ⟨o, q _ (fx _ (by simp [fixA])) _ ho, hd⟩
 ·obtain ⟨o, ho, hd⟩ := R.ud; exact ⟨o, q _ (fx _ (by simp [fixA])) _ ho, hd⟩
 ·obtain ⟨o, ho, hd⟩ := R.vd
  refine ⟨o, q _ (fx _ (by simp [fixA])) _ ho, ?_⟩
  have e : (Mine.setV T (T.vals.map fun p => if p.1 = sl then (sl, p0, b) else p)).vals.map (fun p => (p.1, Value.ref p.2.1)) = T.vals.map fun p => (p.1, Value.ref p.2.1) := by
   show (T.vals.map _).map _ = _
   rw [List.map_map]
   apply List.map_congr_left
   intro p hp
   show ((if p.1 = sl then (sl, p0, b) else p).1, Value.ref (if p.1 = sl then (sl, p0, b) else p).2.1) = _
   rw [(adr p hp).1, (adr p hp).2]
  rw [e]; exact hd
 ·obtain ⟨o, e, ho, hd⟩ := R.fr; exact ⟨o, e, q _ (fx _ (by simp [fixA])) _ ho, hd⟩
 ·intro p hp; exact (R.node p hp).lift q fun z hz => P.nv p hp z hz _ hm
 ·intro p hp
  obtain ⟨p', hp', rfl⟩ := List.mem_map.mp hp
  split
  ·exact hb
  ·rename_i h
   refine q _ (fun e => h ?_) _ (R.val p' hp')
   have := P.v1
   have inj : ∀ {l : List (Int × Addr × UInt8)}, (l.map fun p => p.2.1).Nodup → ∀ p ∈ l, ∀ q ∈ l, p.2.1 = q.2.1 → p = q := by
    intro l
    induction l with
    | nil => intro _ p hp; cases hp
    | cons x l ih =>
     intro h p hp q hq e
     rw [List.map_cons, List.nodup_cons] at h
     rcases List.mem_cons.mp hp with e1 | hp1 <;> rcases List.mem_cons.mp hq with e2 | hq1
     ·rw [e1, e2]
     ·rw [e1] at e; exact absurd (List.mem_map.mpr ⟨q, hq1, e.symm⟩) h.1
     ·rw [e2] at e; exact absurd (List.mem_map.mpr ⟨p, hp1, e⟩) h.1
     ·exact ih h.2 p hp1 q hq1 e
   rw [inj this p' hp' _ hm e]
 ·have e : tAddrs A (Mine.setV T (T.vals.map fun p => if p.1 = sl then (sl, p0, b) else p)) = tAddrs A T := by
   unfold tAddrs Mine.setV
   dsimp only
   congr 1
   rw [List.map_map]
   apply List.map_congr_left
   intro p hp
   exact (adr p hp).2
  rw [e]; exact R.dis
theorem TR.addV (R : TR w A T D) {sl : Int} {p0 : Addr} {b : UInt8} (hb : (p0, baObj b) ∈ D') (hvd : ∃ o, (A.vd, o) ∈ D' ∧ o.IsDictOf (ik w) ((T.vals.map fun p => (p.1, Value.ref p.2.1)) ++ [(sl, Value.ref p0)])) (hD : ∀ p ∈ D, p.1 ≠ A.vd → p ∈ D')
  (hf : ∀ y ∈ tAddrs A T, y ≠ p0) (hz : T.vals.length + 1 ≤ 1000) : TR w A (setV T (T.vals ++ [(sl, p0, b)])) D' := by
 have P := R.disP
 have q : ∀ z : Addr, z ≠ A.vd → ∀ o, (z, o) ∈ D → (z, o) ∈ D' := fun z h1 o ho => hD _ ho h1
 obtain ⟨n1, n2, n3, n4, n5, n6, n7, n8, n9, n10, n11, n12, n13, n14, n15⟩ := fixNe P
 refine ⟨?_, ?_, ?_, ?_, ?_, ?_, ?_, R.lo, R.wb, R.cb, ⟨R.sz.1, R.sz.2.1, by simpa [Mine.setV] using hz, R.sz.2.2.2⟩⟩
 ·obtain ⟨o, ho, hd⟩ := R.nd; exact ⟨o, q _ n10.symm _ ho, hd⟩
 ·obtain ⟨o, ho, hd⟩ := R.ud; exact ⟨o, q _ n12.symm _ ho, hd⟩
 ·obtain ⟨o, ho, hd⟩ := hvd; exact ⟨o, ho, by simpa [Mine.setV] using hd⟩
 ·obtain ⟨o, e, ho, hd⟩ := R.fr; exact ⟨o, e, q _ n11.symm _ ho, hd⟩
 ·intro p hp; exact (R.node p hp).lift q fun z hz => (P.fn A.vd (by simp [fixA]) p hp z hz).symm
 ·intro p hp
  rcases List.mem_append.mp hp with hp | hp
  ·exact q _ (P.fv A.vd (by simp [fixA]) p hp).symm _ (R.val p hp)
  ·rw [List.mem_singleton.mp hp]; exact hb
 ·have hd := R.dis
  have e : tAddrs A (Mine.setV T (T.vals ++ [(sl, p0, b)])) = tAddrs A T ++ [p0] := by
   unfold tAddrs Mine.setV
   simp
  rw [e, List.nodup_append]
  exact ⟨hd, by simp, fun y hy z hz => by rw [List.mem_singleton.mp hz]; exact hf y hy⟩
end
section
variable {w : World} {Ar : Around} {E : Value → Shared → Prop} {s : Shared} {g : Heap} {L : Addr} {m : Str → Option Value} {news : Led} {A : TA} {T : TS} {D : Led} {root : Int} {rt : Tok}
theorem set_slot9 {i sl : Int} {a : Nd} {t : Tok} {Q : Unit → Shared → Prop} (F : Fr g L s.heap m) (X : (K9 w.params).In g) (N : News g L s.heap news) (hs : ∀ p ∈ TP A root rt D, p ∈ news) (R : TR w A T D) (hv : getN T i = some a)
  (h : ∀ h' D', Fr g L h' m → News g L h' (TP A root rt D') → TR w A (setN T i { a with slot := sl }) D' → Q () { s with heap := h', toks := s.toks + 2 }) :
  wpAny (model PR w) Ar (setAttr (.ref a.x) "slot" (.int sl t)) Q E s := by
 obtain ⟨h1, ⟨kd, tk, h2⟩, t0, t1, e, h3⟩ := R.node _ (getN_mem hv)
 have P := R.disP
 have hm := getN_mem hv
 have N1 := tp_out N hs h2
 have r1 : ∀ p ∈ TP A root rt (D.filter fun p => !(p.1 == a.dx)), p.1 ≠ a.dx := tp_rest (P.fn _ (by simp [fixA]) _ hm _ (by simp [ndAddrs])) (P.fn _ (by simp [fixA]) _ hm _ (by simp [ndAddrs]))
 have na := P.n1 _ hm
 simp only [ndAddrs, List.nodup_cons, List.mem_cons, not_or] at na
 refine set_dict (C := 384) (dx := a.dx) F X N1 ⟨(N _ (hs _ (.tail _ (.tail _ h1)))).1, rfl, rfl, (N1 _ (.head _)).1⟩ rfl (by k_is) (by k_is) (by k_is) (by k_is) (by k_get) (by k_put) (Upd.head r1) (lb9 rfl) ?_
 intro h' F' N'
 refine h h' (put D a.dx (dictOf (ndict kd (fun j => if j = 2 then t else tk j) { a with slot := sl }) 4)) F' (tp_in N') ?_
 refine R.setN hv rfl (R.wb _ hm) ⟨put_ne h1 ?_, ⟨kd, _, put_here⟩, t0, t1, e, put_ne h3 ?_⟩ a.dx (by simp [ndAddrs]) fun p hp hne => put_ne hp hne
 ·exact fun e => na.1.1 e
 ·exact fun e => na.2.1.1 e.symm
theorem set_root9 {r : Int} {t : Tok} {Q : Unit → Shared → Prop} (F : Fr g L s.heap m) (X : (K9 w.params).In g) (N : News g L s.heap news) (hs : ∀ p ∈ TP A root rt D, p ∈ news) (R : TR w A T D)
  (h : ∀ h' D', Fr g L h' m → News g L h' (TP A r t D') → TR w A T D' → Q () { s with heap := h', toks := s.toks + 2 }) :
  wpAny (model PR w) Ar (setAttr (.ref A.self) "root" (.int r t)) Q E s := by
 have P := R.disP
 obtain ⟨n1, n2, n3, n4, n5, n6, n7, n8, n9, n10, n11, n12, n13, n14, n15⟩ := fixNe P
 have N1 : News g L s.heap ((A.d, dictOf (tdict A root rt) 10) :: (A.self, instObj 585 A.d) :: D.filter fun p => !(p.1 == A.d)) := by
  intro p hp
  refine N p (hs p ?_)
  rcases List.mem_cons.mp hp with rfl | hp
  ·exact .tail _ (.head _)
  rcases List.mem_cons.mp hp with rfl | hp
  ·exact .head _
  ·exact .tail _ (.tail _ (List.mem_filter.mp hp).1)
 have r1 : ∀ p ∈ (A.self, instObj 585 A.d) :: D.filter (fun p => !(p.1 == A.d)), p.1 ≠ A.d := by
  intro p hp
  rcases List.mem_cons.mp hp with rfl | hp
  ·exact n1
  ·have := (List.mem_filter.mp hp).2; simpa using this
 refine set_dict (C := 585) (dx := A.d) F X N1 ⟨(N1 _ (.tail _ (.head _))).1, rfl, rfl, (N1 _ (.head _)).1⟩ rfl (by k_is) (by k_is) (by k_is) (by k_is) (by k_get) (by k_put) (Upd.head r1) (lb9 rfl) ?_
 intro h' F' N'
 refine h h' (D.filter fun p => !(p.1 == A.d)) F' (fun p hp => ?_) (R.mono fun p hp h1 h2 => List.mem_filter.mpr ⟨hp, by simpa using h2⟩)
 rcases List.mem_cons.mp hp with rfl | hp
 ·exact N' _ (.tail _ (.head _))
 rcases List.mem_cons.mp hp with rfl | hp
 ·exact N' _ (.head _)
 ·exact N' _ (.tail _ (.tail _ hp))
noncomputable def setC (a : Nd) (b : Nat) (v : Int) : Nd := if b = 0 then { a with c0 := v } else { a with c1 := v }
theorem set_child9 {i v bI : Int} {b : Nat} {a : Nd} {t u : Tok} {Q : Unit → Shared → Prop} (F : Fr g L s.heap m) (N : News g L s.heap news) (hs : ∀ p ∈ TP A root rt D, p ∈ news) (R : TR w A T D) (hv : getN T i = some a) (hbI : bI = (b : Int)) (hb : b < 2)
  (h : ∀ h' D', Fr g L h' m → News g L h' (TP A root rt D') → TR w A (setN T i (setC a b v)) D' → Q () { s with heap := h' }) :
  wpAny (model PR w) Ar (setItem (.ref a.cx) (.int bI u) (.int v t)) Q E s := by
 subst hbI
 obtain ⟨h1, ⟨kd, tk, h2⟩, t0, t1, e, h3⟩ := R.node _ (getN_mem hv)
 dsimp only at h1 h2 h3
 have P := R.disP
 have hm := getN_mem hv
 have N1 := tp_out N hs h3
 have r1 : ∀ p ∈ TP A root rt (D.filter fun p => !(p.1 == a.cx)), p.1 ≠ a.cx := tp_rest (P.fn _ (by simp [fixA]) _ hm _ (by simp [ndAddrs])) (P.fn _ (by simp [fixA]) _ hm _ (by simp [ndAddrs]))
 have na := P.n1 _ hm
 simp only [ndAddrs, List.nodup_cons, List.mem_cons, not_or] at na
 have hb2 : b = 0 ∨ b = 1 := by lia
 have fin : ∀ h' a', ndAddrs a' = ndAddrs a → a'.x = a.x ∧ a'.dx = a.dx ∧ a'.cx = a.cx ∧ a'.w = a.w ∧ a'.len = a.len → a'.slot = a.slot → ∀ t0 t1, Fr g L h' m → News g L h' ((a.cx, listOf #[.int a'.c0 t0, .int a'.c1 t1] e) :: TP A root rt (D.filter fun p => !(p.1 == a.cx))) → setC a b v = a' → Q () { s with heap := h' } := by
  intro h' a' e1 ⟨ex, edx, ecx, ew, el⟩ esl t0 t1 F' N' ea
  refine h h' _ F' (tp_in N') ?_
  rw [ea]
  refine R.setN hv e1 (by rw [ew, el]; exact R.wb _ hm) ⟨put_ne (by rw [ex, edx]; exact h1) ?_, ⟨kd, tk, put_ne (by rw [edx]; unfold ndict; rw [el, ew, esl, ecx]; exact h2) ?_⟩, t0, t1, e, by rw [ecx]; exact put_here⟩ a.cx (by simp [ndAddrs]) fun p hp hne => put_ne hp hne
  ·show a'.x ≠ _; rw [ex]; exact fun e => na.1.2.1 e
  ·show a'.dx ≠ _; rw [edx]; exact fun e => na.2.1.1 e
 rcases hb2 with rfl | rfl
 ·refine ki_set (q := [.int v t, .int a.c1 t1]) F N1 (by lia) (by lia) rfl (Upd.head r1) fun h' F' N' => fin h' { a with c0 := v } rfl ⟨rfl, rfl, rfl, rfl, rfl⟩ rfl t t1 F' N' rfl
 ·refine ki_set (q := [.int a.c0 t0, .int v t]) F N1 (by lia) (by lia) rfl (Upd.head r1) fun h' F' N' => fin h' { a with c1 := v } rfl ⟨rfl, rfl, rfl, rfl, rfl⟩ rfl t0 t F' N' rfl
theorem drop9 {i : Int} {a : Nd} {t : Tok} {Q : Value → Shared → Prop} (F : Fr g L s.heap m) (N : News g L s.heap news) (hs : ∀ p ∈ TP A root rt D, p ∈ news) (R : TR w A T D) (hv : getN T i = some a)
  (h : ∀ h' D', Fr g L h' m → News g L h' (TP A root rt D') → TR w A (popN T i) D' → Q (.ref a.x) { s with heap := h', toks := s.toks + 1 }) :
  wpAny (model PR w) Ar (call (.builtin "dict.pop") [.ref A.nd, .int i t]) Q E s := by
 have P := R.disP
 obtain ⟨n1, n2, n3, n4, n5, n6, n7, n8, n9, n10, n11, n12, n13, n14, n15⟩ := fixNe P
 obtain ⟨o, ho, hd⟩ := R.nd
 refine kob_pop (knd := ik w) (more := []) F (tp_out N hs ho) (UpdF.head (tp_rest n3 n7)) hd (isI w i t) (.inl rfl) (by rfl) (PySem.F.args_dict_pop_2 _ _) (v := .ref a.x) ?_ (by rw [List.length_map, sizeLine_eq]; have := R.sz.1; lia) ?_
 ·rw [valueAt_map (f := fun a : Nd => Value.ref a.x)]
  show (getN T i).map _ = _
  rw [hv]; rfl
 ·intro h' o' F' N' hd'
  exact h h' _ F' (tp_in N') (R.popN ⟨o', put_here, hd'⟩ fun p hp hne => put_ne hp hne)
theorem used_pop9 {i : Int} {t : Tok} {Q : Value → Shared → Prop} (F : Fr g L s.heap m) (N : News g L s.heap news) (hs : ∀ p ∈ TP A root rt D, p ∈ news) (R : TR w A T D) (hv : i ∈ T.used)
  (h : ∀ h' D', Fr g L h' m → News g L h' (TP A root rt D') → TR w A (setU T (T.used.filter fun j => decide (j ≠ i))) D' → Q (.bool true) { s with heap := h', toks := s.toks + 1 }) :
  wpAny (model PR w) Ar (call (.builtin "dict.pop") [.ref A.ud, .int i t]) Q E s := by
 have P := R.disP
 obtain ⟨n1, n2, n3, n4, n5, n6, n7, n8, n9, n10, n11, n12, n13, n14, n15⟩ := fixNe P
 obtain ⟨o, ho, hd⟩ := R.ud
 refine kob_pop (knd := ik w) (more := []) F (tp_out N hs ho) (UpdF.head (tp_rest n5 n9)) hd (isI w i t) (.inl rfl) (by rfl) (PySem.F.args_dict_pop_2 _ _) (v := .bool true) ?_ (by rw [List.length_map, sizeLine_eq]; have := R.sz.2.1; lia) ?_
 ·unfold valueAt
  have : ∀ l : List Int, i ∈ l → ((l.map fun s => (s, Value.bool true)).find? fun kv => decide (kv.1 = i)).map (·.2) = some (.bool true) := by
   intro l
   induction l with
   | nil => intro h; cases h
   | cons x l ih =>
    intro h
    rw [List.map_cons]
    by_cases e : x = i
    ·rw [List.find?_cons_of_pos (by simp [e])]; rfl
    ·rw [List.find?_cons_of_neg (by simp [e])]
     exact ih ((List.mem_cons.mp h).resolve_left fun e2 => e e2.symm)
  exact this _ hv
 ·intro h' o' F' N' hd'
  refine h h' _ F' (tp_in N') (R.setU ⟨o', put_here, ?_⟩ (fun p hp hne => put_ne hp hne) (Nat.le_trans (List.length_filter_le _ _) R.sz.2.1))
  have e : without (T.used.map fun s => (s, Value.bool true)) i = (T.used.filter fun j => decide (j ≠ i)).map fun s => (s, Value.bool true) := by
   unfold without; rw [List.filter_map]; rfl
  rw [← e]; exact hd'
theorem used_set9 {i : Int} {t : Tok} {Q : Unit → Shared → Prop} (F : Fr g L s.heap m) (N : News g L s.heap news) (hs : ∀ p ∈ TP A root rt D, p ∈ news) (R : TR w A T D) (hv : i ∉ T.used) (hz : T.used.length + 1 ≤ 1000)
  (h : ∀ h' D', Fr g L h' m → News g L h' (TP A root rt D') → TR w A (setU T (T.used ++ [i])) D' → Q () { s with heap := h', toks := s.toks + 1 }) :
  wpAny (model PR w) Ar (setItem (.ref A.ud) (.int i t) (.bool true)) Q E s := by
 have P := R.disP
 obtain ⟨n1, n2, n3, n4, n5, n6, n7, n8, n9, n10, n11, n12, n13, n14, n15⟩ := fixNe P
 obtain ⟨o, ho, hd⟩ := R.ud
 refine kda_set (knd := ik w) F (tp_out N hs ho) (UpdF.head (tp_rest n5 n9)) hd (isI w i t) (by rw [List.length_map, sizeLine_eq]; have := R.sz.2.1; lia) ?_
 intro h' o' F' N' hd'
 refine h h' _ F' (tp_in N') (R.setU ⟨o', put_here, ?_⟩ (fun p hp hne => put_ne hp hne) (by simpa using hz))
 have e : stored (T.used.map fun s => (s, Value.bool true)) i (.bool true) = (T.used ++ [i]).map fun s => (s, Value.bool true) := by
  unfold stored
  rw [if_neg, List.map_append]; rfl
  simp only [List.any_map, List.any_eq_true, not_exists, not_and, Function.comp_apply, decide_eq_true_eq]
  intro x hx e; exact hv (e ▸ hx)
 rw [← e]; exact hd'
theorem node_put9 {i : Int} {a : Nd} {t : Tok} {Q : Unit → Shared → Prop} (F : Fr g L s.heap m) (N : News g L s.heap news) (hs : ∀ p ∈ TP A root rt D, p ∈ news) (R : TR w A T D) (hv : getN T i = none) (hz : T.nodes.length + 1 ≤ 1000)
  (hw : a.w < 2 ^ (8 * A.c) ∧ a.len ≤ 8 * A.c) (D1 : Led) (hD1 : ∀ p ∈ D1, p ∈ news) (hn : NodeIn D1 a) (hf : ∀ y ∈ tAddrs A T, ∀ z ∈ ndAddrs a, y ≠ z) (h1 : (ndAddrs a).Nodup) (hlow : ∀ p ∈ D1, p.1 ≠ A.nd ∧ p.1 ≠ A.self ∧ p.1 ≠ A.d)
  (h : ∀ h' D', Fr g L h' m → News g L h' (TP A root rt D') → TR w A (addN T i a) D' → Q () { s with heap := h', toks := s.toks + 1 }) :
  wpAny (model PR w) Ar (setItem (.ref A.nd) (.int i t) (.ref a.x)) Q E s := by
 have P := R.disP
 obtain ⟨n1, n2, n3, n4, n5, n6, n7, n8, n9, n10, n11, n12, n13, n14, n15⟩ := fixNe P
 obtain ⟨o, ho, hd⟩ := R.nd
 have hs2 : ∀ p ∈ TP A root rt (D ++ D1), p ∈ news := by
  intro p hp
  rcases List.mem_cons.mp hp with rfl | hp
  ·exact hs _ (.head _)
  rcases List.mem_cons.mp hp with rfl | hp
  ·exact hs _ (.tail _ (.head _))
  rcases List.mem_append.mp hp with hp | hp
  ·exact hs _ (.tail _ (.tail _ hp))
  ·exact hD1 p hp
 refine kda_set (knd := ik w) F (tp_out N hs2 (List.mem_append_left _ ho)) (UpdF.head (tp_rest n3 n7)) hd (isI w i t) (by rw [List.length_map, sizeLine_eq]; have := R.sz.1; lia) ?_
 intro h' o' F' N' hd'
 refine h h' _ F' (tp_in N') (R.addN hw (hn.lift (fun z hz o ho => put_ne (List.mem_append_right _ ho) hz) ?_) ⟨o', put_here, ?_⟩ (fun p hp hne => put_ne (List.mem_append_left _ hp) hne) hf h1 hz)
 ·intro z hz
  exact (hf A.nd (by simp [tAddrs]) z hz).symm
 ·have e : stored (T.nodes.map fun p => (p.1, Value.ref p.2.x)) i (.ref a.x) = (T.nodes.map fun p => (p.1, Value.ref p.2.x)) ++ [(i, .ref a.x)] := by
   unfold stored
   rw [if_neg]
   simp only [List.any_map, List.any_eq_true, not_exists, not_and, Function.comp_apply, decide_eq_true_eq]
   intro x hx e
   unfold getN at hv
   rw [Option.map_eq_none_iff, List.find?_eq_none] at hv
   exact hv x hx (by simpa using e)
  rw [← e]; exact hd'
theorem fr_append9 {i : Int} {t : Tok} {Q : Value → Shared → Prop} (F : Fr g L s.heap m) (N : News g L s.heap news) (hs : ∀ p ∈ TP A root rt D, p ∈ news) (R : TR w A T D) (hz : T.frees.length + 1 ≤ 1000)
  (h : ∀ h' D', Fr g L h' m → News g L h' (TP A root rt D') → TR w A (setF T (T.frees ++ [i])) D' → Q .none { s with heap := h' }) :
  wpAny (model PR w) Ar (call (.builtin "list.append") [.ref A.fr, .int i t]) Q E s := by
 have P := R.disP
 obtain ⟨n1, n2, n3, n4, n5, n6, n7, n8, n9, n10, n11, n12, n13, n14, n15⟩ := fixNe P
 obtain ⟨its, e, ho, hi⟩ := R.fr
 refine append9 F (tp_out N hs ho) (Upd.head (tp_rest n4 n8)) (by show its.length ≤ 5000; rw [hi.length]; lia) ?_
 intro h' F' N'
 exact h h' _ F' (tp_in N') (R.setF ⟨_, _, put_here, Mine.IntsAre.snoc hi i t⟩ (fun p hp hne => put_ne hp hne) (by simpa using hz))
theorem fr_pop9 {i : Int} {l : List Int} {Q : Value → Shared → Prop} (F : Fr g L s.heap m) (N : News g L s.heap news) (hs : ∀ p ∈ TP A root rt D, p ∈ news) (R : TR w A T D) (hf : T.frees = l ++ [i])
  (h : ∀ h' D' t, Fr g L h' m → News g L h' (TP A root rt D') → TR w A (setF T l) D' → Q (.int i t) { s with heap := h' }) :
  wpAny (model PR w) Ar (call (.builtin "list.pop") [.ref A.fr]) Q E s := by
 have P := R.disP
 obtain ⟨n1, n2, n3, n4, n5, n6, n7, n8, n9, n10, n11, n12, n13, n14, n15⟩ := fixNe P
 obtain ⟨its, e, ho, hi⟩ := R.fr
 have hl := R.sz.2.2.2
 rw [hf] at hi hl
 obtain ⟨its0, t0, rfl, hi0⟩ := Mine.IntsAre.snoc_inv hi
 simp only [List.length_append, List.length_cons, List.length_nil] at hl
 refine pop9 F (tp_out N hs ho) (Upd.head (tp_rest n4 n8)) (by show its0.length ≤ 5000; rw [hi0.length]; lia) ?_
 intro h' F' N'
 exact h h' _ t0 F' (tp_in N') (R.setF ⟨_, _, put_here, hi0⟩ (fun p hp hne => put_ne hp hne) (by lia))
end
section
variable {w : World} {Ar : Around} {E : Value → Shared → Prop} {s : Shared} {g : Heap} {L : Addr} {m : Str → Option Value} {news : Led} {A : TA} {T : TS} {D : Led} {root : Int} {rt : Tok}
theorem meth_pop_nd9 {pl : Sem Bool} {Q : Value × List Value → Shared → Prop} (N : News g L s.heap news) (hs : ∀ p ∈ TP A root rt D, p ∈ news) (R : TR w A T D)
  (h : Q (.builtin "dict.pop", [.ref A.nd]) s) : wpAny (model PR w) Ar (getMethod (.ref A.nd) "pop" pl) Q E s := by
 obtain ⟨o, ho, hd⟩ := R.nd
 have hD : s.heap.DictOf (ik w) A.nd _ := Heap.dictOf_iff.mpr ⟨o, (N _ (hs _ (.tail _ (.tail _ ho)))).1, hd⟩
 exact getMethod_builtin hD.typeIs PySem.F.plainAttrs_dict PySem.F.slot_dict_pop PySem.F.type_dict_pop hD.mapOf.noDict h
theorem meth_pop_ud9 {pl : Sem Bool} {Q : Value × List Value → Shared → Prop} (N : News g L s.heap news) (hs : ∀ p ∈ TP A root rt D, p ∈ news) (R : TR w A T D)
  (h : Q (.builtin "dict.pop", [.ref A.ud]) s) : wpAny (model PR w) Ar (getMethod (.ref A.ud) "pop" pl) Q E s := by
 obtain ⟨o, ho, hd⟩ := R.ud
 have hD : s.heap.DictOf (ik w) A.ud _ := Heap.dictOf_iff.mpr ⟨o, (N _ (hs _ (.tail _ (.tail _ ho)))).1, hd⟩
 exact getMethod_builtin hD.typeIs PySem.F.plainAttrs_dict PySem.F.slot_dict_pop PySem.F.type_dict_pop hD.mapOf.noDict h
theorem meth_app_fr9 {pl : Sem Bool} {Q : Value × List Value → Shared → Prop} (N : News g L s.heap news) (hs : ∀ p ∈ TP A root rt D, p ∈ news) (R : TR w A T D)
  (h : Q (.builtin "list.append", [.ref A.fr]) s) : wpAny (model PR w) Ar (getMethod (.ref A.fr) "append" pl) Q E s := by
 obtain ⟨its, e, ho, hi⟩ := R.fr
 exact getMethod_list_append (N _ (hs _ (.tail _ (.tail _ ho)))).1 rfl rfl h
theorem meth_pop_fr9 {pl : Sem Bool} {Q : Value × List Value → Shared → Prop} (N : News g L s.heap news) (hs : ∀ p ∈ TP A root rt D, p ∈ news) (R : TR w A T D)
  (h : Q (.builtin "list.pop", [.ref A.fr]) s) : wpAny (model PR w) Ar (getMethod (.ref A.fr) "pop" pl) Q E s := by
 obtain ⟨its, e, ho, hi⟩ := R.fr
 have hg := (N _ (hs _ (.tail _ (.tail _ ho)))).1
 exact getMethod_list_of PySem.F.slot_list_pop PySem.F.type_list_pop (items := its.toArray) ⟨_, hg, rfl, e, rfl⟩ (by unfold Heap.NoDictAt; simp [hg]) h
end
section
variable {d : Df} {c : Cx} {l : Fs} {N : Led} {A : TA} {T : TS} {root : Int} {rt : Tok} {D : Led} {K : KE}
theorem TrO.led {w : World} (R : TR w A T D) (hs : ∀ p ∈ TP A root rt D, p ∈ N) : TrO w c N A T root := ⟨rt, D, R, fun p hp => .inl (hs p hp)⟩
theorem SetIS.child {i v bI : Int} {b : Nat} {a : Nd} {K : Led → Prop} (R : TR d.w A T D) (hv : getN T i = some a) (hbI : bI = (b : Int)) (hb : b < 2) (h : ∀ D', TR d.w A (setN T i (setC a b v)) D' → K (TP A root rt D')) :
  SetIS d c l (.v (.ref a.cx)) (.i bI) (.i v) (TP A root rt D) K := fun t u r s Q hS hQ => by
 obtain ⟨ok, ⟨hp, tk, rfl⟩, ⟨m, F, H⟩, hN⟩ := hS
 exact set_child9 F hN (fun _ h => h) R hv hbI hb fun h' D' F' N' R' => hQ _ _ (h D' R') ⟨ok, ⟨_, _, rfl⟩, ⟨m, F', H⟩, N'⟩
theorem SetIS.used {i : Int} {K : Led → Prop} (R : TR d.w A T D) (hv : i ∉ T.used) (hz : T.used.length + 1 ≤ 1000) (h : ∀ D', TR d.w A (setU T (T.used ++ [i])) D' → K (TP A root rt D')) :
  SetIS d c l (.v (.ref A.ud)) (.i i) (.v (.bool true)) (TP A root rt D) K := fun t u r s Q hS hQ => by
 obtain ⟨ok, ⟨hp, tk, rfl⟩, ⟨m, F, H⟩, hN⟩ := hS
 exact used_set9 F hN (fun _ h => h) R hv hz fun h' D' F' N' R' => hQ _ _ (h D' R') ⟨ok, ⟨_, _, rfl⟩, ⟨m, F', H⟩, N'⟩
theorem SetAS.slot {i sl : Int} {a : Nd} {K : Led → Prop} (R : TR d.w A T D) (hv : getN T i = some a) (h : ∀ D', TR d.w A (setN T i { a with slot := sl }) D' → K (TP A root rt D')) : SetAS d c l (Str.ofString "slot") (.v (.ref a.x)) (.i sl) (TP A root rt D) K := fun t r s Q hS hQ => by
 obtain ⟨ok, ⟨hp, tk, rfl⟩, ⟨m, F, H⟩, hN⟩ := hS
 exact set_slot9 F ok.X hN (fun _ h => h) R hv fun h' D' F' N' R' => hQ _ _ (h D' R') ⟨ok, ⟨_, _, rfl⟩, ⟨m, F', H⟩, N'⟩
theorem SetAS.root9 {i : Int} {K : Led → Prop} (R : TR d.w A T D) (h : ∀ t D', TR d.w A T D' → K (TP A i t D')) : SetAS d c l (Str.ofString "root") (.v (.ref A.self)) (.i i) (TP A root rt D) K := fun t r s Q hS hQ => by
 obtain ⟨ok, ⟨hp, tk, rfl⟩, ⟨m, F, H⟩, hN⟩ := hS
 exact set_root9 F ok.X hN (fun _ h => h) R fun h' D' F' N' R' => hQ _ _ (h _ D' R') ⟨ok, ⟨_, _, rfl⟩, ⟨m, F', H⟩, N'⟩
theorem footW {lv' : Nat} (hlv : lv' ≤ d.lv) : Foot d c (TP A root rt D) [] (TP A root rt D) [] lv' := ⟨fun _ h => absurd h List.not_mem_nil, fun _ h => h, fun _ _ _ h => absurd h List.not_mem_nil, fun _ h => absurd h List.not_mem_nil, fun _ _ _ h => absurd h List.not_mem_nil, hlv⟩
theorem CallM.writeT {a : Addr} {shs : List Sh} {lv' : Nat} {R : Value → Led → Prop} (hlv : lv' ≤ d.lv) (S : ∀ ts, Sp d.w a lv' (.ref A.self :: valsO ts 0 shs) [] (TP A root rt D) R)
  (h : ∀ v O', R v O' → ∃ sh, (∃ t, v = sh.val t) ∧ K sh O') : CallM d c l a A.self shs (TP A root rt D) K :=
 CallM.write S (footW hlv) fun v O' r _ => by obtain ⟨sh, hv, k⟩ := h v O' r; exact ⟨sh, O', hv, k, fun _ h => List.mem_append_left _ h⟩
theorem MethB.nd_pop (R : TR d.w A T D) : MethB d c l (TP A root rt D) A.nd (Str.ofString "pop") "dict.pop" := fun pl s Q hS hQ => meth_pop_nd9 hS.news (fun _ h => h) R hQ
theorem MethB.ud_pop (R : TR d.w A T D) : MethB d c l (TP A root rt D) A.ud (Str.ofString "pop") "dict.pop" := fun pl s Q hS hQ => meth_pop_ud9 hS.news (fun _ h => h) R hQ
theorem MethB.fr_append (R : TR d.w A T D) : MethB d c l (TP A root rt D) A.fr (Str.ofString "append") "list.append" := fun pl s Q hS hQ => meth_app_fr9 hS.news (fun _ h => h) R hQ
theorem MethB.fr_pop (R : TR d.w A T D) : MethB d c l (TP A root rt D) A.fr (Str.ofString "pop") "list.pop" := fun pl s Q hS hQ => meth_pop_fr9 hS.news (fun _ h => h) R hQ
theorem CallB.nd_pop {i : Int} {a : Nd} (R : TR d.w A T D) (hv : getN T i = some a) (h : ∀ D', TR d.w A (popN T i) D' → K (.v (.ref a.x)) (TP A root rt D')) : CallB d c l "dict.pop" [.ref A.nd] [.i i] (TP A root rt D) K := fun ts s Q hS hQ => by
 obtain ⟨ok, ⟨hp, tk, rfl⟩, ⟨m, F, H⟩, hN⟩ := hS
 exact drop9 F hN (fun _ h => h) R hv fun h' D' F' N' R' => hQ.use (sh := .v (.ref a.x)) 0 (h D' R') ⟨ok, ⟨_, _, rfl⟩, ⟨m, F', H⟩, N'⟩
theorem CallB.ud_pop {i : Int} (R : TR d.w A T D) (hv : i ∈ T.used) (h : ∀ D', TR d.w A (setU T (T.used.filter fun j => decide (j ≠ i))) D' → K (.v (.bool true)) (TP A root rt D')) : CallB d c l "dict.pop" [.ref A.ud] [.i i] (TP A root rt D) K := fun ts s Q hS hQ => by
 obtain ⟨ok, ⟨hp, tk, rfl⟩, ⟨m, F, H⟩, hN⟩ := hS
 exact used_pop9 F hN (fun _ h => h) R hv fun h' D' F' N' R' => hQ.use (sh := .v (.bool true)) 0 (h D' R') ⟨ok, ⟨_, _, rfl⟩, ⟨m, F', H⟩, N'⟩
theorem CallB.fr_append {i : Int} (R : TR d.w A T D) (hz : T.frees.length + 1 ≤ 1000) (h : ∀ D', TR d.w A (setF T (T.frees ++ [i])) D' → K (.v .none) (TP A root rt D')) : CallB d c l "list.append" [.ref A.fr] [.i i] (TP A root rt D) K := fun ts s Q hS hQ => by
 obtain ⟨ok, ⟨hp, tk, rfl⟩, ⟨m, F, H⟩, hN⟩ := hS
 exact fr_append9 F hN (fun _ h => h) R hz fun h' D' F' N' R' => hQ.use (sh := .v .none) 0 (h D' R') ⟨ok, ⟨_, _, rfl⟩, ⟨m, F', H⟩, N'⟩
theorem CallB.fr_pop {i : Int} {p : List Int} (R : TR d.w A T D) (hf : T.frees = p ++ [i]) (h : ∀ D', TR d.w A (setF T p) D' → K (.i i) (TP A root rt D')) : CallB d c l "list.pop" [.ref A.fr] [] (TP A root rt D) K := fun ts s Q hS hQ => by
 obtain ⟨ok, ⟨hp, tk, rfl⟩, ⟨m, F, H⟩, hN⟩ := hS
 exact fr_pop9 F hN (fun _ h => h) R hf fun h' D' t F' N' R' => hQ.use (sh := .i i) t (h D' R') ⟨ok, ⟨_, _, rfl⟩, ⟨m, F', H⟩, N'⟩
end
noncomputable def hangT (T : TS) (root p : Int) (b : Nat) (c : Int) : TS × Int := if p = -1 then (T, c) else match getN T p with | some a => (setN T p (setC a b c), root) | none => (T, root)
noncomputable def replT (T : TS) (root p old new : Int) : TS × Int := if p = -1 then (T, new) else match getN T p with | some a => (setN T p (setC a (if a.c0 = old then 0 else 1) new), root) | none => (T, root)
noncomputable def repC (a : Nd) (old new : Int) : Nd := setC a (if a.c0 = old then 0 else 1) new
noncomputable abbrev onlyC (a : Nd) : Int := if a.c0 ≠ -1 then a.c0 else a.c1
noncomputable def dropT (T : TS) (i : Int) : TS := setF (popN T i) (T.frees ++ [i])
theorem hangT_root (T : TS) (root : Int) (b : Nat) (c : Int) : hangT T root (-1) b c = (T, c) := if_pos rfl
theorem hangT_node {T : TS} {root p : Int} {b : Nat} {c : Int} {a : Nd} (h0 : 0 ≤ p) (hv : getN T p = some a) : hangT T root p b c = (setN T p (setC a b c), root) := by
 unfold hangT
 rw [if_neg (by lia), hv]
theorem replT_root (T : TS) (root b c : Int) : replT T root (-1) b c = (T, c) := if_pos rfl
theorem replT_node {T : TS} {root p b c : Int} {a : Nd} (h0 : 0 ≤ p) (hv : getN T p = some a) : replT T root p b c = (setN T p (repC a b c), root) := by
 unfold replT
 rw [if_neg (by lia), hv]; rfl
noncomputable def St_sp_hang (w : World) (A : TA) (T : TS) (D : Led) (root : Int) (rt : Tok) (p : Int) (b : Nat) (c : Int) (t1 t2 t3 : Tok) : Prop := ∀ (R : TR w A T D) (hp : p = -1 ∨ (0 ≤ p ∧ ∃ a, getN T p = some a)) (hb : b < 2), Sp w 487 1 [.ref A.self, .int p t1, .int b t2, .int c t3] [] (TP A root rt D) (fun v O' => v = .none ∧ ∃ rt' D', O' = TP A (hangT T root p b c).2 rt' D' ∧ TR w A (hangT T root p b c).1 D')
theorem sp_hang : A12 St_sp_hang := by
 refine' ey12 (ne_P ne_W (ne_P ne_TA (ne_P ne_TS (ne_P ne_L (ne_P ne_I (ne_P ne_N (ne_P ne_I (ne_P ne_N (ne_P ne_I (ne_P ne_N (ne_P ne_N ne_N))))))))))) ((?f9 : A12 St_sp_hang) _ _ _ _ _ _ _ _ _ _ _ _)
 intro w A T D root rt p b c t1 t2 t3 R hp hb
 refine' Sp.of_W [("child", .i c), ("side", .i b), ("parent", .i p), ("self", .v (.ref A.self))] ?ho ?hcd ?hbind ?hloc ?hco ?hgen ?hk ?hcell ?hl ?_
 walk_at "ds prem0"
 case hl => exact rfl
 refine' ent_all ((?f8 : ∀ c R', Ent _ _ _ _ _ _ c R') _ _); intro k R' l0 hP hR
 clear l0 hP
 refine vcS_sound 10 (RawE.NODE (And.intro (fun hp1 => ?_) (fun hp1 => ?_)))
 ·refine SetAS.root9 R (fun t D' R1 => hR _ _ ⟨rfl, t, D', ?_⟩)
  subst hp1
  rw [hangT_root]; exact ⟨rfl, R1⟩
 ·obtain ⟨h0, a, hv⟩ := hp.resolve_left hp1
  refine AttrS.nodes (TrO.led R fun _ h => h) (ItemS.node (TrO.led R fun _ h => h) hv (AttrS.children (TrO.led R fun _ h => h) hv ?_))
  refine SetIS.child R hv rfl hb (fun D' R1 => hR _ _ ⟨rfl, rt, D', ?_⟩)
  rw [hangT_node h0 hv]; exact ⟨rfl, R1⟩
noncomputable def St_sp_replace (w : World) (A : TA) (T : TS) (D : Led) (root : Int) (rt : Tok) (p : Int) (b c : Int) (t1 t2 t3 : Tok) : Prop := ∀ (R : TR w A T D) (hp : p = -1 ∨ (0 ≤ p ∧ ∃ a, getN T p = some a)), Sp w 523 1 [.ref A.self, .int p t1, .int b t2, .int c t3] [] (TP A root rt D) (fun v O' => v = .none ∧ ∃ rt' D', O' = TP A (replT T root p b c).2 rt' D' ∧ TR w A (replT T root p b c).1 D')
theorem sp_replace : A12 St_sp_replace := by
 refine' ey12 (ne_P ne_W (ne_P ne_TA (ne_P ne_TS (ne_P ne_L (ne_P ne_I (ne_P ne_N (ne_P ne_I (ne_P ne_I (ne_P ne_I (ne_P ne_N (ne_P ne_N ne_N))))))))))) ((?f9 : A12 St_sp_replace) _ _ _ _ _ _ _ _ _ _ _ _)
 intro w A T D root rt p b c t1 t2 t3 R hp
 refine' Sp.of_W [("new", .i c), ("old", .i b), ("parent", .i p), ("self", .v (.ref A.self))] ?ho ?hcd ?hbind ?hloc ?hco ?hgen ?hk ?hcell ?hl ?_
 walk_at "ds prem0"
 case hl => exact rfl
 refine' ent_all ((?f8 : ∀ c R', Ent _ _ _ _ _ _ c R') _ _); intro k R' l0 hP hR
 clear l0 hP
 refine vcS_sound 1 (RawE.NODE (And.intro (fun hp1 => vcS_sound 9 ?_) (fun hp1 => ?_)))
 ·refine SetAS.root9 R (fun t D' R1 => Bk.nil (hR _ _ ⟨rfl, t, D', ?_⟩))
  subst hp1
  rw [replT_root]; exact ⟨rfl, R1⟩
 ·obtain ⟨h0, a, hv⟩ := hp.resolve_left hp1
  refine Bk.asgI (α := Nat) (va := fun sd => (sd : Int)) (nf := fun _ => TP A root rt D) (I := fun sd => sd < 2 ∧ sd = if a.c0 = b then 0 else 1) ?_ fun sd ⟨hs2, hsd⟩ => vcS_sound 9 ?_
  ·refine AttrS.nodes (TrO.led R fun _ h => h) (ItemS.node (TrO.led R fun _ h => h) hv (AttrS.children (TrO.led R fun _ h => h) hv ?_))
   exact ItemS.child (b := 0) (TrO.led R fun _ h => h) hv rfl (by lia) (And.intro (fun e => ⟨0, 0, rfl, rfl, ⟨by lia, (if_pos e).symm⟩, rfl⟩) (fun e => ⟨1, 1, rfl, rfl, ⟨by lia, (if_neg e).symm⟩, rfl⟩))
  ·refine AttrS.nodes (TrO.led R fun _ h => h) (ItemS.node (TrO.led R fun _ h => h) hv (AttrS.children (TrO.led R fun _ h => h) hv ?_))
   refine SetIS.child R hv rfl hs2 (fun D' R1 => Bk.nil (hR _ _ ⟨rfl, rt, D', ?_⟩))
   rw [replT_node h0 hv]; unfold repC; rw [← hsd]; exact ⟨rfl, R1⟩
noncomputable def St_sp_drop_node (w : World) (A : TA) (T : TS) (D : Led) (root : Int) (rt : Tok) (p : Int) (a : Nd) (t1 : Tok) : Prop := ∀ (R : TR w A T D) (hv : getN T p = some a) (hz : T.frees.length + 1 ≤ 1000), Sp w 480 1 [.ref A.self, .int p t1] [] (TP A root rt D) (fun v O' => v = .none ∧ ∃ D', O' = TP A root rt D' ∧ TR w A (dropT T p) D')
theorem sp_drop_node : A9 St_sp_drop_node := by
 refine' ey9 (ne_P ne_W (ne_P ne_TA (ne_P ne_TS (ne_P ne_L (ne_P ne_I (ne_P ne_N (ne_P ne_I (ne_P ne_Nd ne_N)))))))) ((?f9 : A9 St_sp_drop_node) _ _ _ _ _ _ _ _ _)
 intro w A T D root rt p a t1 R hv hz
 refine' Sp.of_W [("here", .i p), ("self", .v (.ref A.self))] ?ho ?hcd ?hbind ?hloc ?hco ?hgen ?hk ?hcell ?hl ?_
 walk_at "ds prem0"
 case hl => exact rfl
 refine' ent_all ((?f8 : ∀ c R', Ent _ _ _ _ _ _ c R') _ _); intro k R' l0 hP hR
 clear l0 hP
 refine vcS_sound 10 (RawE.bmeth (AttrS.nodes (TrO.led R fun _ h => h) (And.intro rfl (And.intro (MethB.nd_pop R) ?_))))
 refine CallB.nd_pop R hv (fun D1 R1 => ?_)
 refine RawE.bmeth (AttrS.free (TrO.led R1 fun _ h => h) (And.intro rfl (And.intro (MethB.fr_append R1) ?_)))
 exact CallB.fr_append R1 hz (fun D2 R2 => hR _ _ ⟨rfl, D2, rfl, R2⟩)
noncomputable def SpC (w : World) (f : Addr) (lv : Nat) (vs : List Value) (P O : Led) (R : Value → Led → Prop) : Prop :=
 ∀ (dp un : Nat) (cn : Str) (cs : Scope) (a : Addr) (ccd : Value) (cl : List (Str × Addr)) (outer : List Env) (A₀ : Around) (base h₀ : Heap) (L : Addr) (m : Str → Option Value) (news : Led) (s : Shared)
  (mean : ExcName → Option Value) (mg mb : Str → Option Value) (Q E : Value → Shared → Prop),
  Below A₀ base outer h₀ → Fr h₀ L s.heap m → (K9 w.params).In h₀ → News h₀ L s.heap news → Top VW LS mean mg mb h₀ → cs.kind = .function →
  (∀ p ∈ P, s.heap.get? p.1 = some p.2) → (∀ p ∈ O, p ∈ news) → (∀ p ∈ O, ∀ q ∈ P, p.1 ≠ q.1) → dp + lv < recursionLimit → un + 8 * lv < cLine →
  (∀ v O' h' tk', R v O' → Fr h₀ L h' m → SpOut h₀ L h' news O O' → Q v { s with heap := h', toks := tk' }) →
  codeAny (model PR w) (ktrTop dp un (some []) cn cs L a ccd cl outer) (.call (.ref f) ⟨vs, []⟩) (fun r s' => match r with | .ok (.ret v) => Q v s' | .ok _ => False | .error e => E e s') s
theorem SpC.of_body {w : World} {f : Addr} {lv : Nat} {vs : List Value} {P O : Led} {R : Value → Led → Prop}
  {name qual : Str} {params : Arguments} {body : List Stmt} {scope : Scope} {dV kV doc pm cdv ct oc : Value} {an od : Option Addr} {osl : Array (Option Value)} {binds : List (Str × Value)}
  (ho : (K9 w.params).lookup f = some ⟨oc, od, .func (fnOf name qual params body scope dV kV doc pm an cdv ct), osl⟩)
  (hcd : codeIn (K9 w.params) cdv qual = true)
  (hbind : ∀ s : Shared, (K9 w.params).In s.heap → BindsTo s (fnOf name qual params body scope dV kV doc pm an cdv ct) ⟨vs, []⟩ binds) (hloc : ∀ y ∈ binds, scope.names.lookup y.1 = some .local)
  (hco : scope.isCoroutine = false) (hgen : scope.isGenerator = false) (hk : scope.kind = .function)
  (hcell : ∀ x ∈ scope.names, x.2 ≠ .cell)
  (h : ∀ (dp un : Nat) (outer : List Env) (A₀ : Around) (base g : Heap) (L' : Addr) (h₁ : Heap) (s : Shared) (mean : ExcName → Option Value) (mg mb : Str → Option Value),
   Below A₀ base outer g → Fr g L' h₁ (fun y => binds.reverse.lookup y) → (K9 w.params).In g → News g L' h₁ O → Top VW LS mean mg mb g → (∀ p ∈ O, p.1 < L') → (∀ p ∈ P, g.get? p.1 = some p.2) →
   dp + lv < recursionLimit → un + 8 * lv < cLine → s.heap = h₁ →
   wpAny (model PR w) (ktrTop dp un (some []) qual scope L' f cdv [] outer) (execs body (envOf qual scope L' f cdv))
    (fun fl s' => BodyEnd g L' s R (match fl with | .ret v => v | _ => .none) s') (fun _ _ => False) s) :
  SpC w f (lv + 1) vs P O R := by
 intro dp un cn cs a ccd cl outer A₀ base h₀ L m news s mean mg mb Q E B F X N T hkc hP hO hOP hdp hun hret
 have NO : News h₀ L s.heap O := fun p hp => N p (hO p hp)
 have hX : (K9 w.params).In s.heap := X.keeps F.keep
 obtain ⟨FG, BG, st, lv'⟩ := groundX (R := fun r s' => match r with | .ok (.ret v) => Q v s' | .ok _ => False | .error e => E e s') (A := ktrTop dp un (some []) cn cs L a ccd cl outer) (env := envX cn cs L a ccd cl) B F NO rfl rfl hkc
 refine codeAny_call_def (fd := fnOf name qual params body scope dV kV doc pm an cdv ct) (body := body) (binds := binds) (by show dp < recursionLimit; lia) (hX _ _ ho) rfl (T.nolimit.keeps F.keep) (codeRec_of hX hcd) rfl (hbind s hX) hcell hloc (fun h₁ hns hk₁ => ?_) hco hgen hk
 have FB : Fr (hideAll s.heap (O.map (·.1))) s.heap.objs.size h₁ (fun y => binds.reverse.lookup y) := ⟨hns, fun b o e => hk₁ b o (of_hideAll _ e), Nat.le_of_eq (hideAll_size _ _)⟩
 have NB : News (hideAll s.heap (O.map (·.1))) s.heap.objs.size h₁ O := fun p hp => ⟨hk₁ _ _ (NO p hp).1, Nat.ne_of_lt (Heap.lt_size (NO p hp).1), hideAll_none _ (List.mem_map_of_mem hp)⟩
 refine wpAny_mono (h (dp + 1) (un + 3) (envX cn cs L a ccd cl :: outer) (ktrTop dp un (some []) cn cs L a ccd cl outer) base _ s.heap.objs.size h₁ { s with heap := h₁, toks := s.toks + binds.length } mean mg mb BG FB (X.keeps st) NB (T.keeps st)
  (fun p hp => Heap.lt_size (NO p hp).1) (fun p hp => hideAll_get _ (hP p hp) fun hm => ?_) (by lia) (by lia) rfl) (fun fl s' hl => ?_) fun _ _ y => y.elim
 ·obtain ⟨q, hq, e⟩ := List.mem_map.mp hm
  exact hOP q hq p hp e
 obtain ⟨m', O', h', tk', rfl, F', N', r⟩ := hl
 obtain ⟨oL, es, ep, hL, hLd, hLk, hLf⟩ := FG.ns
 refine hret _ _ _ _ r ⟨⟨oL, es, ep, F'.keep L oL hL, hLd, hLk, hLf⟩, fun b o e => F'.keep b o (st b o e), FG.above⟩ ⟨fun rest hr hd => ?_, fun p hp hne q hq e => ?_⟩
 ·intro p hp
  rcases List.mem_append.mp hp with hp | hp
  ·refine ⟨(N' p hp).1, fun q => ?_, ?_⟩
   ·have := (N' p hp).2.2; rw [q, hL] at this; cases this
   ·cases q : h₀.get? p.1 with
    | none => rfl
    | some o => have := (N' p hp).2.2; rw [st _ _ q] at this; cases this
  ·have Np := N p (hr p hp)
   refine ⟨F'.keep _ _ (hideAll_get _ Np.1 fun hm => ?_), Np.2⟩
   obtain ⟨q, hq, e⟩ := List.mem_map.mp hm
   exact hd q hq p hp e
 ·have h1 := (N' q hq).2.2
  have h2 : (hideAll s.heap (O.map (·.1))).get? p.1 = some p.2 := hideAll_get _ (N p hp).1 fun hm => by
   obtain ⟨x, hx, e'⟩ := List.mem_map.mp hm
   exact hne x hx e'
  rw [e] at h2
  rw [h2] at h1
  cases h1
theorem Sp.of_class {w : World} {C f : Addr} {lv : Nat} {vs : List Value} {O : Led} {R : Value → Led → Prop} (hm : makesIn (K9 w.params) C = true) (hi : findIn (K9 w.params) (.ref C) "__init__" = some (some (.ref f))) (hf : isFn (K9 w.params) (.ref f) = true)
  (S : ∀ x dx, @LT.lt Nat _ dx x → SpC w f lv (.ref x :: vs) [] ((x, instObj C dx) :: (dx, dictOf [] 0) :: O) (fun v O' => v = .none ∧ R (.ref x) O')) : Sp w C (lv + 1) vs [] O R := by
 intro dp un cn cs a ccd cl outer A₀ base h₀ L m news s mean mg mb Q E B F X N T hkc hP hO hOP hdp hun hret
 refine call_cls F X N hm hi hf ?_
 intro x dx h' F' N' l1 l2
 refine codeAny_mono (S x dx l2 (dp + 1) (un + 1) cn cs a ccd cl outer A₀ base h₀ L m _ { s with heap := h' } mean mg mb (fun v s' => v = .none ∧ Q (.ref x) s') E B F' X N' T hkc (fun _ h => absurd h List.not_mem_nil) ?_ (fun _ _ _ h => absurd h List.not_mem_nil) (by lia) (by lia) ?_) ?_
 ·intro p hp
  rcases List.mem_cons.mp hp with rfl | hp
  ·exact .head _
  rcases List.mem_cons.mp hp with rfl | hp
  ·exact .tail _ (.head _)
  ·exact .tail _ (.tail _ (hO p hp))
 ·rintro v O' h'' tk' ⟨rfl, r⟩ F'' S'
  refine ⟨rfl, hret _ _ _ _ r F'' ⟨fun rest hr hd => S'.led rest (fun p hp => .tail _ (.tail _ (hr p hp))) fun p hp q hq e => ?_, fun p hp hne => S'.apart p (.tail _ (.tail _ hp)) fun q hq e => ?_⟩⟩
  ·have l1' : @LT.lt Nat _ q.1 dx := l1 q (hr q hq)
   have l2' : @LT.lt Nat _ dx x := l2
   rcases List.mem_cons.mp hp with rfl | hp
   ·have e : @Eq Nat x q.1 := e
    lia
   rcases List.mem_cons.mp hp with rfl | hp
   ·have e : @Eq Nat dx q.1 := e
    lia
   ·exact hd p hp q hq e
  ·have l1' : @LT.lt Nat _ p.1 dx := l1 p hp
   have l2' : @LT.lt Nat _ dx x := l2
   rcases List.mem_cons.mp hq with rfl | hq
   ·have e : @Eq Nat x p.1 := e
    lia
   rcases List.mem_cons.mp hq with rfl | hq
   ·have e : @Eq Nat dx p.1 := e
    lia
   ·exact hne q hq e
 ·rintro r s' hr
  rcases r with e | (v | _ | _ | _) <;> first | exact hr | exact hr.elim
theorem SpC.of_W {w : World} {f : Addr} {lv : Nat} {vs : List Value} {P O : Led} {R : Value → Led → Prop}
  {name qual : Str} {params : Arguments} {body : List Stmt} {scope : Scope} {dV kV doc pm cdv ct oc : Value} {an od : Option Addr} {osl : Array (Option Value)} {binds : List (Str × Value)} (l : Fs)
  (ho : (K9 w.params).lookup f = some ⟨oc, od, .func (fnOf name qual params body scope dV kV doc pm an cdv ct), osl⟩)
  (hcd : codeIn (K9 w.params) cdv qual = true)
  (hbind : ∀ s : Shared, (K9 w.params).In s.heap → BindsTo s (fnOf name qual params body scope dV kV doc pm an cdv ct) ⟨vs, []⟩ binds) (hloc : ∀ y ∈ binds, scope.names.lookup y.1 = some .local)
  (hco : scope.isCoroutine = false) (hgen : scope.isGenerator = false) (hk : scope.kind = .function)
  (hcell : ∀ x ∈ scope.names, x.2 ≠ .cell) (hl : fsO binds.reverse = l)
  (h : ∀ (c : Cx) (R' : Value → Led → Prop), Ent ⟨w, lv, qual, scope, f, cdv, true⟩ l P O R body c R') : SpC w f (lv + 1) vs P O R :=
 SpC.of_body ho hcd hbind hloc hco hgen hk hcell fun dp un outer A₀ base g L' h₁ s mean mg mb B F X N T l0 hP hdp hun hs => by
  subst hs
  refine wpAny_mono (h ⟨dp, un, outer, A₀, base, g, L', s, mean, mg, mb, [], envX qual scope L' f cdv [], fun _ => none⟩ R l0 hP (fun _ _ r => r) s ⟨⟨B, X, T, hdp, hun, hk⟩, ⟨s.heap, s.toks, rfl⟩, ⟨_, F, hl ▸ has_fsO _, fun h => nomatch h⟩, N⟩) (fun fl s' hp => ?_) fun _ _ x => x
  obtain ⟨l', N', ⟨_, ⟨h', tk', rfl⟩, ⟨m', F', _⟩, hN'⟩, r⟩ := hp
  exact ⟨m', N', h', tk', rfl, F', hN', r⟩
structure SetAt (w : World) (C : Addr) (a : Str) : Prop where
 s : findIn (K9 w.params) (.ref C) "__setattr__" = some (some (.builtin "object.__setattr__"))
 p : plainOver (K9 w.params) C = true
 t : takerIn (K9 w.params) C a = some none
 h : hasDictIn (K9 w.params) C = true
section
variable {d : Df} {c : Cx} {l : Fs} {N : Led} {K : KE}
theorem SetAS.inst {a : Str} {C x dx : Addr} {es : List DictEntry} {n : Nat} {v : Sh} {K : Led → Prop} (hC : SetAt d.w C a) (N' : List DictEntry → Nat → Led) (hx : (x, instObj C dx) ∈ N) (U : ∀ es' n', Upd dx (dictOf es n) (dictOf es' n') N (N' es' n'))
  (h : ∀ h0 t0 r, K (N' (putL a h0 (.str a t0) (v.val r) es) (putN a es n))) (hl : autoParam ((getL a es).isSome = true) name_B._auto_3) (hz : ∀ h0 k r, (putL a h0 k r es).length ≤ 1000 := by intro _ _ _; exact lb9 rfl) :
  SetAS d c l a (.v (.ref x)) v N K := fun t r s Q hS hQ => by
 obtain ⟨ok, ⟨hp, tk, rfl⟩, ⟨m, F, H⟩, hN⟩ := hS
 have hm : (dx, dictOf es n) ∈ N := by obtain ⟨pre, post, e, _⟩ := (U es n).split; rw [e]; simp
 refine set_dict (C := C) (dx := dx) F ok.X hN ⟨(hN _ hx).1, rfl, rfl, (hN _ hm).1⟩ rfl hC.s hC.p hC.t hC.h hl rfl (U _ _) (hz _ _ _) ?_
 intro h' F' N'
 exact hQ _ _ (h _ _ r) ⟨ok, ⟨_, _, rfl⟩, ⟨m, F', H⟩, N'⟩
theorem RawE.dictI {pos : Pos} (h : ∀ r o, (∀ p ∈ N, p.1 < r) → (r == sysModules) = false → o.IsDictOf (ik d.w) [] → K (.v (.ref r)) ((r, o) :: N)) : RawE d c l N (.Dict [] [] pos) K := fun s Q hS hQ => by
 obtain ⟨ok, ⟨hp, tk, rfl⟩, ⟨m, F, H⟩, hN⟩ := hS
 exact Dict_empty_made2 F hN (modules_low (Top.nolimit ok.T)) fun h' o F' N' lo _ _ hd _ _ => hQ.use (sh := .v (.ref _)) 0 (h _ o (fun p hp => Heap.lt_size (hN p hp).1) lo hd) ⟨ok, ⟨_, _, rfl⟩, ⟨m, F', H⟩, N'⟩
end
theorem Bk.ifJ {d : Df} {c : Cx} {l : Fs} {N : Led} {t : PySem.Expr} {b o rest : List Stmt} {pos : Pos} {R : KS} (l' : Fs) (I : Led → Prop)
  (ht : RawT d c l N t (fun N1 => Bk d c l N1 b fun fl l2 N2 => fl = .next ∧ (∀ p ∈ l', p ∈ l2) ∧ I N2) (fun N1 => Bk d c l N1 o fun fl l2 N2 => fl = .next ∧ (∀ p ∈ l', p ∈ l2) ∧ I N2))
  (h : ∀ N2, I N2 → Bk d c l' N2 rest R) : Bk d c l N (.If t b o pos :: rest) R :=
 Bk.cons fun s hS => wpAny_If (ht s _ hS fun b' N' s' g1 g2 hS' => by
  have go : ∀ {x : List Stmt}, (Bk d c l N' x fun fl l2 N2 => fl = .next ∧ (∀ p ∈ l', p ∈ l2) ∧ I N2) → Bk d c l N' x (Seq9 d c rest R) := fun hx => hx.mono fun fl l2 N2 ⟨e, hl, hi⟩ => by
   subst e
   exact fun s hS => h N2 hi s (hS.sub hl fun _ h => h)
  cases b' with
  | true => exact go (g1 rfl) s' hS'
  | false => exact go (g2 rfl) s' hS')
theorem nodeIn_mk {x dx cx : Addr} {len wv : Nat} {slot c0 c1 h0 h1 h2 h3 : Int} {k0 k1 k2 k3 t1 t2 t3 u0 u1 : Tok} {e : Nat} (n1 : @Ne Nat x dx) (n2 : @Ne Nat cx x) (n3 : @Ne Nat cx dx) :
  ∃ a : Nd, Value.ref x = .ref a.x ∧ (a.len = len ∧ a.w = wv ∧ a.slot = slot ∧ a.c0 = c0 ∧ a.c1 = c1) ∧ NodeIn [(cx, listOf #[.int c0 u0, .int c1 u1] e), (x, instObj 384 dx), (dx, dictOf [⟨h0, .str "length" k0, .int (len : Int) t1⟩, ⟨h1, .str "worth" k1, .int (wv : Int) t2⟩, ⟨h2, .str "slot" k2, .int slot t3⟩, ⟨h3, .str "children" k3, .ref cx⟩] 4)] a ∧ (ndAddrs a).Nodup ∧
   ∀ p ∈ [(cx, listOf #[.int c0 u0, .int c1 u1] e), (x, instObj 384 dx), (dx, dictOf [⟨h0, .str "length" k0, .int (len : Int) t1⟩, ⟨h1, .str "worth" k1, .int (wv : Int) t2⟩, ⟨h2, .str "slot" k2, .int slot t3⟩, ⟨h3, .str "children" k3, .ref cx⟩] 4)], p.1 ∈ ndAddrs a := by
 refine ⟨⟨x, dx, cx, len, wv, slot, c0, c1⟩, rfl, ⟨rfl, rfl, rfl, rfl, rfl⟩, ⟨.tail _ (.head _), ⟨fun j => match j with | 0 => (h0, k0) | 1 => (h1, k1) | 2 => (h2, k2) | _ => (h3, k3), fun j => match j with | 0 => t1 | 1 => t2 | _ => t3, .tail _ (.tail _ (.head _))⟩, u0, u1, e, .head _⟩, ?_, ?_⟩
 ·simp only [ndAddrs, List.nodup_cons, List.mem_cons, List.not_mem_nil, or_false, not_or, not_false_eq_true, List.nodup_nil, and_true]
  exact ⟨⟨n1, fun e => n2 e.symm⟩, fun e => n3 e.symm⟩
 ·intro p hp
  simp only [List.mem_cons, List.not_mem_nil, or_false] at hp
  rcases hp with rfl | rfl | rfl <;> simp [ndAddrs]
theorem set384 (w : World) : SetAt w 384 (Str.ofString "length") ∧ SetAt w 384 (Str.ofString "worth") ∧ SetAt w 384 (Str.ofString "slot") ∧ SetAt w 384 (Str.ofString "children") := by
 exact ⟨⟨by k_is, by k_is, by k_is, by k_is⟩, ⟨by k_is, by k_is, by k_is, by k_is⟩, ⟨by k_is, by k_is, by k_is, by k_is⟩, ⟨by k_is, by k_is, by k_is, by k_is⟩⟩
theorem cls384 (w : World) : makesIn (K9 w.params) 384 = true ∧ findIn (K9 w.params) (.ref 384) "__init__" = some (some (.ref 353)) ∧ isFn (K9 w.params) (.ref 353) = true := by
 exact ⟨by k_is, by k_is, by k_is⟩
inductive NodeR (len wv : Nat) (slot : Int) : Value → Led → Prop
 | mk (a : Nd) (O' : Led) (hl : a.len = len) (hw : a.w = wv) (hs : a.slot = slot) (h0 : a.c0 = -1) (h1 : a.c1 = -1) (hn : NodeIn O' a) (hd : (ndAddrs a).Nodup) (ha : ∀ p ∈ O', p.1 ∈ ndAddrs a) : NodeR len wv slot (.ref a.x) O'
theorem sc_TrieNode (w : World) (x dx : Addr) (hlt : @LT.lt Nat _ dx x) (len wv : Nat) (slot : Int) (t1 t2 t3 : Tok) : SpC w 353 1 [.ref x, .int len t1, .int wv t2, .int slot t3] [] [(x, instObj 384 dx), (dx, dictOf [] 0)] (fun v O' => v = .none ∧ NodeR len wv slot (.ref x) O') := by
 refine' SpC.of_W [("slot", .i slot), ("worth", .i wv), ("length", .i len), ("self", .v (.ref x))] ?ho ?hcd ?hbind ?hloc ?hco ?hgen ?hk ?hcell ?hl ?_
 walk_at "ds prem0"
 case hl => exact rfl
 refine' ent_all ((?f8 : ∀ c R', Ent _ _ _ _ _ _ c R') _ _); intro k R' l0 hP hR
 have ne : x ≠ dx := fun e => Nat.lt_irrefl _ (e ▸ hlt)
 have U : ∀ {es : List DictEntry} {n : Nat} (es' : List DictEntry) (n' : Nat), Upd dx (dictOf es n) (dictOf es' n') [(x, instObj 384 dx), (dx, dictOf es n)] [(x, instObj 384 dx), (dx, dictOf es' n')] := fun _ _ => Upd.tail ne (Upd.head fun _ h => absurd h List.not_mem_nil)
 refine vcS_sound 10 (SetAS.inst (set384 w).1 (fun es n => [(x, instObj 384 dx), (dx, dictOf es n)]) (.head _) U fun h0 k0 t1 => ?_)
 refine SetAS.inst (set384 w).2.1 (fun es n => [(x, instObj 384 dx), (dx, dictOf es n)]) (.head _) U fun h1 k1 t2 => ?_
 refine SetAS.inst (set384 w).2.2.1 (fun es n => [(x, instObj 384 dx), (dx, dictOf es n)]) (.head _) U fun h2 k2 t3 => ?_
 refine RawE.NODE (RawE.NODE fun ts cx hlt2 => ?_)
 have n2 := Nat.ne_of_gt (hlt2 _ (.head _))
 have n3 := Nat.ne_of_gt (hlt2 _ (.tail _ (.head _)))
 refine SetAS.inst (set384 w).2.2.2 (fun es n => [(cx, _), (x, instObj 384 dx), (dx, dictOf es n)]) (.tail _ (.head _)) (fun es' n' => Upd.tail n3 (U es' n')) fun h3 k3 t4 => ?_
 obtain ⟨a, e1, ⟨e2, e3, e4, e5, e6⟩, e7, e8, e9⟩ := nodeIn_mk (len := len) (wv := wv) (slot := slot) (h0 := h0) (h1 := h1) (h2 := h2) (h3 := h3) (k0 := k0) (k1 := k1) (k2 := k2) (k3 := k3) (t1 := t1) (t2 := t2) (t3 := t3) (c0 := -1) (c1 := -1) (u0 := ts 0) (u1 := ts 1) (e := 0) (cx := cx) ne n2 n3
 refine hR _ _ ⟨rfl, e1 ▸ .mk a _ e2 e3 e4 e5 e6 e7 e8 e9⟩
theorem sp_TrieNode (w : World) (len wv : Nat) (slot : Int) (t1 t2 t3 : Tok) : Sp w 384 2 [.int len t1, .int wv t2, .int slot t3] [] [] (NodeR len wv slot) :=
 Sp.of_class (cls384 w).1 (cls384 w).2.1 (cls384 w).2.2 fun x dx hlt => sc_TrieNode w x dx hlt len wv slot t1 t2 t3
section
variable {w : World} {Ar : Around} {E : Value → Shared → Prop} {s : Shared} {g : Heap} {L : Addr} {m : Str → Option Value} {news : Led} {A : TA} {T : TS} {D : Led} {root : Int} {rt : Tok}
theorem node_addr_mem {a : Nd} (h : NodeIn D a) : ∀ z ∈ ndAddrs a, ∃ o, (z, o) ∈ D := by
 intro z hz
 obtain ⟨h1, ⟨kd, tk, h2⟩, t0, t1, e, h3⟩ := h
 simp only [ndAddrs, List.mem_cons, List.not_mem_nil, or_false] at hz
 rcases hz with rfl | rfl | rfl
 ·exact ⟨_, h1⟩
 ·exact ⟨_, h2⟩
 ·exact ⟨_, h3⟩
theorem taddr_mem (R : TR w A T D) (root : Int) (rt : Tok) : ∀ y ∈ tAddrs A T, ∃ o, (y, o) ∈ TP A root rt D := by
 intro y hy
 have up : ∀ {z : Addr} {o : Obj}, (z, o) ∈ D → (z, o) ∈ TP A root rt D := fun h => .tail _ (.tail _ h)
 unfold tAddrs at hy
 rcases List.mem_append.mp hy with hy | hy
 ·rcases List.mem_append.mp hy with hy | hy
  ·simp only [List.mem_cons, List.not_mem_nil, or_false] at hy
   rcases hy with rfl | rfl | rfl | rfl | rfl | rfl
   ·exact ⟨_, .head _⟩
   ·exact ⟨_, .tail _ (.head _)⟩
   ·obtain ⟨o, ho, _⟩ := R.vd; exact ⟨o, up ho⟩
   ·obtain ⟨o, ho, _⟩ := R.nd; exact ⟨o, up ho⟩
   ·obtain ⟨o, e, ho, _⟩ := R.fr; exact ⟨_, up ho⟩
   ·obtain ⟨o, ho, _⟩ := R.ud; exact ⟨o, up ho⟩
  ·obtain ⟨p, hp, hz⟩ := List.mem_flatMap.mp hy
   obtain ⟨o, ho⟩ := node_addr_mem (R.node p hp) y hz
   exact ⟨o, up ho⟩
 ·obtain ⟨p, hp, rfl⟩ := List.mem_map.mp hy
  exact ⟨_, up (R.val p hp)⟩
theorem node_put9b {i : Int} {a : Nd} {t : Tok} {D1 : Led} {Q : Unit → Shared → Prop} (F : Fr g L s.heap m) (N : News g L s.heap (D1 ++ news)) (hs : ∀ p ∈ TP A root rt D, p ∈ news) (R : TR w A T D) (hv : getN T i = none) (hz : T.nodes.length + 1 ≤ 1000)
  (hw : a.w < 2 ^ (8 * A.c) ∧ a.len ≤ 8 * A.c) (hn : NodeIn D1 a) (h1 : (ndAddrs a).Nodup) (ap : ∀ p ∈ news, ∀ q ∈ D1, p.1 ≠ q.1)
  (h : ∀ h' D', Fr g L h' m → News g L h' (TP A root rt D') → TR w A (addN T i a) D' → Q () { s with heap := h', toks := s.toks + 1 }) :
  wpAny (model PR w) Ar (setItem (.ref A.nd) (.int i t) (.ref a.x)) Q E s := by
 have q : ∀ y ∈ tAddrs A T, ∀ p ∈ D1, p.1 ≠ y := by
  intro y hy p hp e
  obtain ⟨o, ho⟩ := taddr_mem R root rt y hy
  exact ap _ (hs _ ho) p hp e.symm
 refine node_put9 F N (fun p hp => List.mem_append_right _ (hs p hp)) R hv hz hw D1 (fun p hp => List.mem_append_left _ hp) hn (fun y hy z hz => ?_) h1 (fun p hp => ⟨q _ (by simp [tAddrs]) p hp, q _ (by simp [tAddrs]) p hp, q _ (by simp [tAddrs]) p hp⟩) h
 obtain ⟨o, ho⟩ := node_addr_mem hn z hz
 exact fun e => q y hy _ ho e.symm
theorem fr_ne9 {l : Addr} {e : Nat} {b : Bool} {Q : Value → Shared → Prop} (N : News g L s.heap ((l, listOf #[] e) :: news)) (hs : ∀ p ∈ TP A root rt D, p ∈ news) (R : TR w A T D) (hu : Ar.units + 64 < cLine) (hb : (!decide (T.frees = [])) = b) (h : Q (.bool b) s) :
  wpAny (model PR w) Ar (compareOp .NotEq (.ref A.fr) (.ref l)) Q E s := by
 obtain ⟨its, e0, ho, hi⟩ := R.fr
 have hg := (N _ (.tail _ (hs _ (.tail _ (.tail _ ho))))).1
 refine ne_intsK (us := []) (ns := T.frees) (ms := []) ⟨_, hg, rfl, _, rfl⟩ hi ⟨_, (N _ (.head _)).1, rfl, _, rfl⟩ IntsAre.nil hu ?_
 rw [hb]; exact h
end
noncomputable def newId (T : TS) : Int := T.frees.getLast?.getD (T.nodes.length : Int)
noncomputable def newT (T : TS) (a : Nd) : TS := addN (setF T T.frees.dropLast) (newId T) a
theorem cutB_lt {x l n : Nat} (h : x < 2 ^ n) : cutB x l n < 2 ^ n := Nat.lt_of_le_of_lt (Nat.div_mul_le_self _ _) h
theorem fn384 (w : World) : FnAt w "TrieNode" 384 ∧ FnAt w "cut_bits" 325 := by
 exact ⟨⟨by k_is, by k_is⟩, by k_is, by k_is⟩
section
variable {d : Df} {c : Cx} {l : Fs} {A : TA} {T : TS} {D : Led} {root : Int} {rt : Tok} {K : KE}
theorem CmpS.frees {KT KF : Led → Prop} {r : Addr} {e : Nat} (hlv : 8 ≤ d.lv) (R : TR d.w A T D) (hT : T.frees ≠ [] → KT (TP A root rt D)) (hF : T.frees = [] → KF (TP A root rt D)) :
  CmpS d c l .NotEq (.v (.ref A.fr)) (.v (.ref r)) ((r, listOf #[] e) :: TP A root rt D) KT KF := fun t u s Q hS hQ =>
 fr_ne9 hS.news (fun _ h => h) R (by have := hS.ok.hu; show c.un + 64 < cLine; lia) rfl (hQ _ _ s (fun h => hT fun e => by rw [e] at h; cases h) (fun h => hF (by simpa using h)) (hS.sub (fun _ h => h) fun _ h => .tail _ h))
theorem CallS.node {len wv : Nat} {slot : Int} (hlv : 2 ≤ d.lv) {N : Led} (h : ∀ v O', NodeR len wv slot v O' → (∀ p ∈ N, ∀ q ∈ O', p.1 ≠ q.1) → K (.v v) (O' ++ N)) : CallS d c l 384 [.i len, .i wv, .i slot] N K :=
 CallS.of N (fun ts => sp_TrieNode d.w len wv slot (ts 0) (ts 1) (ts 2)) ⟨fun _ h => absurd h List.not_mem_nil, fun _ h => absurd h List.not_mem_nil, fun _ h => absurd h List.not_mem_nil, fun _ h => h, fun _ h => absurd h List.not_mem_nil, hlv⟩
  fun v O' r ap => ⟨.v v, _, ⟨0, rfl⟩, h v O' r ap, fun _ h => h⟩
theorem SetIS.node {i : Int} {a : Nd} {D1 : Led} {K : Led → Prop} (R : TR d.w A T D) (hv : getN T i = none) (hz : T.nodes.length + 1 ≤ 1000) (hw : a.w < 2 ^ (8 * A.c) ∧ a.len ≤ 8 * A.c) (hn : NodeIn D1 a) (h1 : (ndAddrs a).Nodup) (ap : ∀ p ∈ TP A root rt D, ∀ q ∈ D1, p.1 ≠ q.1)
  (h : ∀ D', TR d.w A (addN T i a) D' → K (TP A root rt D')) : SetIS d c l (.v (.ref A.nd)) (.i i) (.v (.ref a.x)) (D1 ++ TP A root rt D) K := fun t u r s Q hS hQ => by
 obtain ⟨ok, ⟨hp, tk, rfl⟩, ⟨m, F, H⟩, hN⟩ := hS
 exact node_put9b F hN (fun _ h => h) R hv hz hw hn h1 ap fun h' D' F' N' R' => hQ _ _ (h D' R') ⟨ok, ⟨_, _, rfl⟩, ⟨m, F', H⟩, N'⟩
end
inductive NewR (w : World) (A : TA) (T : TS) (root : Int) (rt : Tok) (len wv : Nat) (slot : Int) : Value → Led → Prop
 | mk (t : Tok) (a : Nd) (D' : Led) (hl : a.len = len) (hw : a.w = cutB wv len (8 * A.c)) (hs : a.slot = slot) (h0 : a.c0 = -1) (h1 : a.c1 = -1) (R : TR w A (newT T a) D') : NewR w A T root rt len wv slot (.int (newId T) t) (TP A root rt D')
noncomputable def St_sp_new_node (w : World) (A : TA) (T : TS) (D : Led) (root : Int) (rt : Tok) (len wv : Nat) (slot : Int) (t1 t2 t3 : Tok) : Prop := ∀ (R : TR w A T D) (hnew : getN T (newId T) = none) (hz : T.nodes.length + 1 ≤ 1000) (hl : len ≤ 8 * A.c) (hw : wv < 2 ^ (8 * A.c)), Sp w 473 20 [.ref A.self, .int len t1, .int wv t2, .int slot t3] [] (TP A root rt D) (NewR w A T root rt len wv slot)
theorem sp_new_node : A12 St_sp_new_node := by
 refine' ey12 (ne_P ne_W (ne_P ne_TA (ne_P ne_TS (ne_P ne_L (ne_P ne_I (ne_P ne_N (ne_P ne_N (ne_P ne_N (ne_P ne_I (ne_P ne_N (ne_P ne_N ne_N))))))))))) ((?f9 : A12 St_sp_new_node) _ _ _ _ _ _ _ _ _ _ _ _)
 intro w A T D root rt len wv slot t1 t2 t3 R hnew hz hl hw
 have hc := R.cb.2
 have hw64 : wv < 2 ^ 64 := Nat.lt_of_lt_of_le hw (Nat.pow_le_pow_right (by lia) (by lia))
 refine' Sp.of_W [("slot", .i slot), ("worth", .i wv), ("length", .i len), ("self", .v (.ref A.self))] ?ho ?hcd ?hbind ?hloc ?hco ?hgen ?hk ?hcell ?hl ?_
 walk_at "ds prem0"
 case hl => exact rfl
 refine' ent_all ((?f8 : ∀ c R', Ent _ _ _ _ _ _ c R') _ _); intro k R' l0 hP hR
 have hT : ∀ {T D} (R : TR w A T D) N, (∀ p ∈ TP A root rt D, p ∈ N) → TrO w k N A T root := fun R N hs => TrO.led R hs
 refine vcS_sound 1 (RawE.bfn (bLen w) (AttrS.nodes (hT R _ fun _ h => h) (CallB.nodes_len (hT R _ fun _ h => h) ?_)))
 refine Bk.ifJ [("here", .i (newId T)), ("slot", .i slot), ("worth", .i wv), ("length", .i len), ("self", .v (.ref A.self))] (fun N => ∃ T9 D9, N = TP A root rt D9 ∧ TR w A T9 D9 ∧ newT T = addN T9 (newId T) ∧ getN T9 (newId T) = none ∧ T9.nodes = T.nodes) ?_ ?_
 ·refine vc_sound 30 (.T _ _ _ _ _) (AttrS.free (hT R _ fun _ h => h) fun ts r _ => CmpS.frees (lb9 rfl) R (fun h => ?_) fun h => ?_)
  ·rcases eq_nil_or_snoc T.frees with h' | ⟨p, i, h'⟩
   ·exact absurd h' h
   ·have e1 : newId T = i := by unfold newId; rw [h']; simp
    rw [e1] at hnew ⊢
    exact vcS_sound 2 (RawE.bmeth (AttrS.free (hT R _ fun _ h => h) (And.intro rfl (And.intro (MethB.fr_pop R) (CallB.fr_pop R h' fun D9 R9 => ⟨rfl, subF_of ⟨rfl, rfl, rfl, rfl, rfl, trivial⟩, _, D9, rfl, R9, by unfold newT; rw [h', List.dropLast_concat, e1], hnew, rfl⟩)))))
  ·have e1 : newId T = (T.nodes.length : Int) := by unfold newId; rw [h]; rfl
   rw [e1] at hnew ⊢
   refine Bk.nil ⟨rfl, subF_of ⟨rfl, rfl, rfl, rfl, rfl, trivial⟩, T, D, rfl, R, ?_, hnew, rfl⟩
   unfold newT
   rw [h, e1]
   show addN { T with frees := [] } _ = _
   rw [← h]
 ·rintro _ ⟨T9, D9, rfl, R9, en, hv, hn⟩
  refine vcS_sound 10 (RawE.fn (fn384 w).1 (RawE.fn (fn384 w).2 (RawE.mself (x := "size") (me423 w).2 (And.intro rfl (And.intro (hT R9 _ fun _ h => h) (CallM.size (hT R9 _ fun _ h => h) (lb9 rfl) ?_))))))
  refine CallS.pureK (sh := .i (cutB wv len (8 * A.c) : Nat)) (lb9 rfl) (fun ts => sp_cut_bits w wv len (8 * A.c) (ts 0) (ts 1) (ts 2) hl (by lia) hw64) (CallS.node (lb9 rfl) fun v O' r ap => ?_)
  cases r with
  | mk a O' hal haw has h0 h1 hni hnd had =>
   refine AttrS.nodes (hT R9 _ fun _ h => List.mem_append_right _ h) (SetIS.node R9 hv (by rw [hn]; exact hz) ⟨by rw [haw]; exact cutB_lt hw, by rw [hal]; exact hl⟩ hni hnd ap fun D' R' t => hR _ _ (.mk t a D' hal haw has h0 h1 (by rw [en]; exact R')))
inductive SplR (T : TS) (root : Int) (hi : Int) (ah : Nd) : List Int → TS → Int → Prop
 | one : SplR T root hi ah [hi] (dropT T hi) (onlyC ah)
 | two (ini : List Int) (p : Int) (ap : Nd) : 0 ≤ p → getN T p = some ap → p ≠ hi → ¬ (onlyC ah = -1 ∧ ap.slot = -1) → SplR T root hi ah (ini ++ [p] ++ [hi]) (dropT (setN T p (repC ap hi (onlyC ah))) hi) root
 | three (p : Int) (ap : Nd) : 0 ≤ p → getN T p = some ap → p ≠ hi → onlyC ah = -1 → ap.slot = -1 → SplR T root hi ah ([] ++ [p] ++ [hi]) (dropT (dropT (setN T p (repC ap hi (onlyC ah))) hi) p) (onlyC (repC ap hi (onlyC ah)))
 | four (ini : List Int) (p q : Int) (ap aq : Nd) : 0 ≤ p → 0 ≤ q → getN T p = some ap → getN T q = some aq → p ≠ hi → q ≠ hi → q ≠ p → onlyC ah = -1 → ap.slot = -1 →
   SplR T root hi ah (ini ++ [q] ++ [p] ++ [hi]) (dropT (setN (dropT (setN T p (repC ap hi (onlyC ah))) hi) q (repC aq p (onlyC (repC ap hi (onlyC ah))))) p) root
theorem repC_slot (a : Nd) (x y : Int) : (repC a x y).slot = a.slot := by unfold repC setC; split <;> rfl
section
variable {T : TS} {i j : Int} {a a' : Nd}
theorem getN_setN' (hn : (T.nodes.map (·.1)).Nodup) (hv : getN T i = some a) (j : Int) : getN (setN T i a') j = if j = i then some a' else getN T j := by
 have hm := (find_keys hn).mp hv
 have hk : ((Mine.setN T i a').nodes.map (·.1)).Nodup := by rw [setN_keys]; exact hn
 have e1 : ∀ b, getN (Mine.setN T i a') j = some b ↔ (j, b) ∈ (Mine.setN T i a').nodes := fun b => find_keys hk
 have e2 : ∀ b, getN T j = some b ↔ (j, b) ∈ T.nodes := fun b => find_keys hn
 have key : ∀ b, getN (Mine.setN T i a') j = some b ↔ (if j = i then some a' else getN T j) = some b := by
  intro b
  rw [e1]
  split
  ·rename_i h
   subst h
   constructor
   ·intro h
    rcases mem_setN h with e | ⟨_, hne⟩
    ·injection e with _ e2; rw [e2]
    ·exact absurd rfl hne
   ·intro h
    injection h with h
    subst h
    exact List.mem_map.mpr ⟨(j, a), hm, by simp⟩
  ·rename_i h
   rw [e2]
   constructor
   ·intro h'
    rcases mem_setN h' with e | ⟨hp, _⟩
    ·injection e with e2 _; exact absurd e2 h
    ·exact hp
   ·intro h'
    exact List.mem_map.mpr ⟨(j, b), h', by simp [h]⟩
 cases h1 : getN (Mine.setN T i a') j with
 | none =>
  cases h2 : (if j = i then some a' else getN T j) with
  | none => rfl
  | some b => rw [(key b).mpr h2] at h1; cases h1
 | some b => exact ((key b).mp h1).symm
theorem getN_dropT (j : Int) : getN (dropT T i) j = if j = i then none else getN T j := getN_popN j
theorem dropT_keys (hn : (T.nodes.map (·.1)).Nodup) : ((dropT T i).nodes.map (·.1)).Nodup := List.Nodup.sublist (List.Sublist.map _ List.filter_sublist) hn
theorem setN_keysN (hn : (T.nodes.map (·.1)).Nodup) : ((setN T i a').nodes.map (·.1)).Nodup := by rw [setN_keys]; exact hn
end
noncomputable def paW (ws : List Int) : Int := if ws.length < 2 then -1 else ws.getD (ws.length - 2) 0
noncomputable def abW (ws : List Int) : Int := if ws.length < 3 then -1 else ws.getD (ws.length - 3) 0
theorem paW_two (ini : List Int) (p h : Int) : paW (ini ++ [p] ++ [h]) = p := by
 unfold paW
 rw [if_neg (by simp), show (ini ++ [p] ++ [h]).length - 2 = ini.length by simp]
 simp
theorem abW_three (ini : List Int) (q p h : Int) : abW (ini ++ [q] ++ [p] ++ [h]) = q := by
 unfold abW
 rw [if_neg (by simp), show (ini ++ [q] ++ [p] ++ [h]).length - 3 = ini.length by simp]
 simp
structure SplF (T : TS) (root hi : Int) (ah : Nd) (p q : Int) (T' : TS) (root' : Int) : Prop where
 par : p = -1 ∨ (0 ≤ p ∧ ∃ a, getN T p = some a)
 own : getN (replT T root p hi (onlyC ah)).1 hi = some ah
 fin : p = -1 ∨ onlyC ah ≠ -1 → T' = dropT (replT T root p hi (onlyC ah)).1 hi ∧ root' = (replT T root p hi (onlyC ah)).2
 up : p ≠ -1 → ∃ a, getN (dropT (replT T root p hi (onlyC ah)).1 hi) p = some a ∧ (a.slot ≠ -1 → T' = dropT (replT T root p hi (onlyC ah)).1 hi ∧ root' = (replT T root p hi (onlyC ah)).2) ∧
  (onlyC ah = -1 → a.slot = -1 → (q = -1 ∨ (0 ≤ q ∧ ∃ a, getN (dropT (replT T root p hi (onlyC ah)).1 hi) q = some a)) ∧ getN (replT (dropT (replT T root p hi (onlyC ah)).1 hi) (replT T root p hi (onlyC ah)).2 q p (onlyC a)).1 p = some a ∧
   T' = dropT (replT (dropT (replT T root p hi (onlyC ah)).1 hi) (replT T root p hi (onlyC ah)).2 q p (onlyC a)).1 p ∧ root' = (replT (dropT (replT T root p hi (onlyC ah)).1 hi) (replT T root p hi (onlyC ah)).2 q p (onlyC a)).2)
theorem SplR.facts {T : TS} {root hi : Int} {ah : Nd} {ws : List Int} {T' : TS} {root' : Int} (hn : (T.nodes.map (·.1)).Nodup) (hv : getN T hi = some ah) (S : SplR T root hi ah ws T' root') : SplF T root hi ah (paW ws) (abW ws) T' root' := by
 have two : ∀ p ap, 0 ≤ p → getN T p = some ap → p ≠ hi → replT T root p hi (onlyC ah) = (setN T p (repC ap hi (onlyC ah)), root) ∧ getN (setN T p (repC ap hi (onlyC ah))) hi = some ah ∧ getN (dropT (setN T p (repC ap hi (onlyC ah))) hi) p = some (repC ap hi (onlyC ah)) :=
  fun p ap hp0 hvp hne => ⟨replT_node hp0 hvp, by rw [getN_setN' hn hvp, if_neg (fun e => hne e.symm)]; exact hv, by rw [getN_dropT, if_neg hne, getN_setN' hn hvp, if_pos rfl]⟩
 cases S with
 | one =>
  refine ⟨.inl rfl, ?_, fun _ => ?_, fun h => absurd rfl h⟩
  ·rw [show paW [hi] = -1 from rfl, replT_root]; exact hv
  ·rw [show paW [hi] = -1 from rfl, replT_root]; exact ⟨rfl, rfl⟩
 | two ini p ap hp0 hvp hne hno =>
  obtain ⟨e1, e2, e3⟩ := two p ap hp0 hvp hne
  rw [paW_two]
  refine ⟨.inr ⟨hp0, ap, hvp⟩, ?_, ?_, fun _ => ⟨repC ap hi (onlyC ah), ?_, ?_, ?_⟩⟩
  ·rw [e1]; exact e2
  ·rw [e1]; exact fun _ => ⟨rfl, rfl⟩
  ·rw [e1]; exact e3
  ·rw [e1]; exact fun _ => ⟨rfl, rfl⟩
  ·rw [repC_slot]; exact fun h1 h2 => absurd ⟨h1, h2⟩ hno
 | three p ap hp0 hvp hne hc hs =>
  obtain ⟨e1, e2, e3⟩ := two p ap hp0 hvp hne
  rw [paW_two, show abW ([] ++ [p] ++ [hi]) = -1 from rfl]
  refine ⟨.inr ⟨hp0, ap, hvp⟩, ?_, fun h => ?_, fun _ => ⟨repC ap hi (onlyC ah), ?_, fun h => ?_, fun _ _ => ⟨.inl rfl, ?_⟩⟩⟩
  ·rw [e1]; exact e2
  ·exact absurd hc (h.resolve_left (by lia))
  ·rw [e1]; exact e3
  ·rw [repC_slot] at h; exact absurd hs h
  ·rw [e1, replT_root]; exact ⟨e3, rfl, rfl⟩
 | four ini p q ap aq hp0 hq0 hvp hvq hne hnq hqp hc hs =>
  obtain ⟨e1, e2, e3⟩ := two p ap hp0 hvp hne
  have e4 : getN (dropT (setN T p (repC ap hi (onlyC ah))) hi) q = some aq := by rw [getN_dropT, if_neg hnq, getN_setN' hn hvp, if_neg hqp]; exact hvq
  rw [abW_three, show paW (ini ++ [q] ++ [p] ++ [hi]) = p from paW_two _ _ _]
  refine ⟨.inr ⟨hp0, ap, hvp⟩, ?_, fun h => ?_, fun _ => ⟨repC ap hi (onlyC ah), ?_, fun h => ?_, fun _ _ => ?_⟩⟩
  ·rw [e1]; exact e2
  ·exact absurd hc (h.resolve_left (by lia))
  ·rw [e1]; exact e3
  ·rw [repC_slot] at h; exact absurd hs h
  ·rw [e1]
   dsimp only
   rw [replT_node hq0 e4]
   exact ⟨.inr ⟨hq0, aq, e4⟩, by rw [getN_setN' (dropT_keys (setN_keysN hn)) e4, if_neg (fun e => hqp e.symm)]; exact e3, rfl, rfl⟩
theorem me516 (w : World) : MethAt w 585 "splice" 516 ∧ MethAt w 585 "replace_child" 523 ∧ MethAt w 585 "drop_node" 480 := by
 refine ⟨?_, ?_, ?_⟩ <;> exact ⟨by k_is, by k_is, by k_is, by k_is⟩
section
variable {d : Df} {c : Cx} {l : Fs} {N : Led} {A : TA} {T : TS} {root : Int} {rt : Tok} {D : Led} {K : KE}
theorem CallM.replace {p b cc : Int} (hlv : 1 ≤ d.lv) (R : TR d.w A T D) (hp : p = -1 ∨ (0 ≤ p ∧ ∃ a, getN T p = some a)) (h : ∀ rt' D', TR d.w A (replT T root p b cc).1 D' → K (.v .none) (TP A (replT T root p b cc).2 rt' D')) :
  CallM d c l 523 A.self [.i p, .i b, .i cc] (TP A root rt D) K :=
 CallM.writeT hlv (fun ts => sp_replace d.w A T D root rt p b cc (ts 0) (ts 1) (ts 2) R hp) fun v O' ⟨ev, rt', D', eO, R'⟩ => ⟨.v .none, ⟨0, ev⟩, eO ▸ h rt' D' R'⟩
theorem CallM.drop_node {p : Int} {a : Nd} (hlv : 1 ≤ d.lv) (R : TR d.w A T D) (hv : getN T p = some a) (hz : T.frees.length + 1 ≤ 1000) (h : ∀ D', TR d.w A (dropT T p) D' → K (.v .none) (TP A root rt D')) : CallM d c l 480 A.self [.i p] (TP A root rt D) K :=
 CallM.writeT hlv (fun ts => sp_drop_node d.w A T D root rt p a (ts 0) R hv hz) fun v O' ⟨ev, D', eO, R'⟩ => ⟨.v .none, ⟨0, ev⟩, eO ▸ h D' R'⟩
theorem ItemS.negO {ie : PySem.Expr} {r : Addr} {vs : List Value} {ns : List Int} {n : Nat} {k x : Int} (hm : OAt c N r (listOf vs.toArray n)) (hi : IntsAre vs ns) (h0 : k < 0) (h1 : -(ns.length : Int) ≤ k) (hfit : -(2 ^ 63) ≤ k) (hx : ns.getD (k + ns.length).toNat 0 = x) (h : K (.i x) N)
  (hs : autoParam (∀ u, subscripted ie false (.ref r) (.int k u) = operate [.ref r, .int k u] (getItem (.ref r) (.int k u))) kim_tup._auto_3) : ItemS d c l ie (.v (.ref r)) (.i k) N K := fun t u s Q hS hQ =>
 item_list_ints_negR (hm.isList hS) hi h0 h1 hfit (fun t => hQ.use (sh := .i _) t (hx ▸ h) hS) (hs u)
end
theorem replT_frees (T : TS) (root p b c : Int) : (replT T root p b c).1.frees = T.frees := by
 unfold replT
 split
 ·rfl
 ·split <;> rfl
noncomputable def St_sp_splice (w : World) (A : TA) (T : TS) (D : Led) (root : Int) (rt : Tok) (hi : Int) (ah : Nd) (ws : List Int) (T' : TS) (root' : Int) (wy : Addr) (its : List Value) (e : Nat) (t1 : Tok) : Prop := ∀ (R : TR w A T D) (hv : getN T hi = some ah) (hz : T.frees.length + 2 ≤ 1000) (S : SplR T root hi ah ws T' root') (hI : IntsAre its ws) (hl : its.length ≤ 1000), Sp w 516 8 [.ref A.self, .int hi t1, .ref wy] [(wy, listOf its.toArray e)] (TP A root rt D) (fun v O' => v = .none ∧ ∃ rt' D', O' = TP A root' rt' D' ∧ TR w A T' D')
theorem sp_splice : A15 St_sp_splice := by
 refine' ey15 (ne_P ne_W (ne_P ne_TA (ne_P ne_TS (ne_P ne_L (ne_P ne_I (ne_P ne_N (ne_P ne_I (ne_P ne_Nd (ne_P ne_L (ne_P ne_TS (ne_P ne_I (ne_P ne_N (ne_P ne_L (ne_P ne_N ne_N)))))))))))))) ((?f9 : A15 St_sp_splice) _ _ _ _ _ _ _ _ _ _ _ _ _ _ _)
 intro w A T D root rt hi ah ws T' root' wy its e t1 R hv hz S hI hl
 have F := S.facts R.nkeys hv
 clear S
 have hlen := hI.length
 refine' Sp.of_W [("way", .v (.ref wy)), ("here", .i hi), ("self", .v (.ref A.self))] ?ho ?hcd ?hbind ?hloc ?hco ?hgen ?hk ?hcell ?hl ?_
 walk_at "ds prem0"
 case hl => exact rfl
 refine' ent_all ((?f8 : ∀ c R', Ent _ _ _ _ _ _ c R') _ _); intro k R' l0 hP hR
 have hw : ∀ N, OAt k N wy (listOf its.toArray e) := fun N => .inr (hP _ (.head _))
 clear l0 hP
 refine vcS_sound 1 (RawE.mnode (A := A) (root := root) (x := "only_child") (me367 w).1 hv ?_)
 refine AttrS.nodes (TrO.led R fun _ h => h) (ItemS.node (TrO.led R fun _ h => h) hv (And.intro rfl (And.intro (TrO.led R fun _ h => h) ?_)))
 refine CallM.only_child (TrO.led R fun _ h => h) (lb9 rfl) hv ?_
 refine Bk.asgI (α := Unit) (va := fun _ => paW ws) (nf := fun _ => TP A root rt D) (I := fun _ => True) ?_ (fun _ _ => vcS_sound 3 ?_)
 ·refine RawE.bfn (bLen w) (CallB.lenO (hw _) rfl (by lia) (And.intro (fun h2 => ?_) (fun h2 => ?_)))
  ·exact RawE.NODE ⟨(), _, rfl, (if_pos (by lia)).symm, trivial, rfl⟩
  ·refine ItemS.negO (hw _) hI (by decide) (by lia) (by decide) rfl ⟨(), _, rfl, ?_, trivial, rfl⟩
   unfold paW
   rw [if_neg (by lia), show (-2 + (ws.length : Int)).toNat = ws.length - 2 by lia]
 refine RawE.mself (x := "replace_child") (me516 w).2.1 (And.intro rfl (And.intro (TrO.led R fun _ h => h) ?_))
 refine CallM.replace (lb9 rfl) R F.par (fun rt1 D1 R1 => ?_)
 refine RawE.mself (x := "drop_node") (me516 w).2.2 (And.intro rfl (And.intro (TrO.led R1 fun _ h => h) ?_))
 refine CallM.drop_node (lb9 rfl) R1 F.own (by rw [replT_frees]; lia) (fun D2 R2 => ?_)
 have fin : T' = dropT (replT T root (paW ws) hi (onlyC ah)).1 hi ∧ root' = (replT T root (paW ws) hi (onlyC ah)).2 → R' .none (TP A (replT T root (paW ws) hi (onlyC ah)).2 rt1 D2) := fun ⟨e1, e2⟩ => by
  subst e1; subst e2; exact hR _ _ ⟨rfl, rt1, D2, rfl, R2⟩
 refine RawE.NODE (And.intro (fun hp => ?_) (fun hp => Bk.nil (Bk.nil (fin (F.fin (.inl hp))))))
 refine RawE.NODE (And.intro (fun hc => ?_) (fun hc => Bk.nil (Bk.nil (fin (F.fin (.inr hc))))))
 obtain ⟨a, hva, hs1, hs2⟩ := F.up hp
 refine RawT.bool (RawE.mnode (A := A) (root := (replT T root (paW ws) hi (onlyC ah)).2) (x := "is_entry") (me360 w) hva ?_)
 refine AttrS.nodes (TrO.led R2 fun _ h => h) (ItemS.node (TrO.led R2 fun _ h => h) hva (And.intro rfl (And.intro (TrO.led R2 fun _ h => h) ?_)))
 refine CallM.is_entry (TrO.led R2 fun _ h => h) (lb9 rfl) hva ⟨_, rfl, fun hb => Bk.nil (Bk.nil (fin (hs1 (of_decide_eq_true hb)))), fun hb => ?_⟩
 obtain ⟨g1, g2, g3, g4⟩ := hs2 hc (Decidable.not_not.mp (of_decide_eq_false hb))
 subst g3; subst g4
 refine Bk.asgI (α := Unit) (va := fun _ => abW ws) (nf := fun _ => TP A (replT T root (paW ws) hi (onlyC ah)).2 rt1 D2) (I := fun _ => True) ?_ (fun _ _ => vcS_sound 3 ?_)
 ·refine RawE.bfn (bLen w) (CallB.lenO (hw _) rfl (by lia) (And.intro (fun h2 => ?_) (fun h2 => ?_)))
  ·exact RawE.NODE ⟨(), _, rfl, (if_pos (by lia)).symm, trivial, rfl⟩
  ·refine ItemS.negO (hw _) hI (by decide) (by lia) (by decide) rfl ⟨(), _, rfl, ?_, trivial, rfl⟩
   unfold abW
   rw [if_neg (by lia), show (-3 + (ws.length : Int)).toNat = ws.length - 3 by lia]
 refine RawE.mself (x := "replace_child") (me516 w).2.1 (And.intro rfl (And.intro (TrO.led R2 fun _ h => h) ?_))
 refine RawE.mnode (A := A) (root := (replT T root (paW ws) hi (onlyC ah)).2) (x := "only_child") (me367 w).1 hva ?_
 refine AttrS.nodes (TrO.led R2 fun _ h => h) (ItemS.node (TrO.led R2 fun _ h => h) hva (And.intro rfl (And.intro (TrO.led R2 fun _ h => h) ?_)))
 refine CallM.only_child (TrO.led R2 fun _ h => h) (lb9 rfl) hva ?_
 refine CallM.replace (lb9 rfl) R2 g1 (fun rt3 D3 R3 => ?_)
 refine RawE.mself (x := "drop_node") (me516 w).2.2 (And.intro rfl (And.intro (TrO.led R3 fun _ h => h) ?_))
 refine CallM.drop_node (lb9 rfl) R3 g2 (by rw [replT_frees]; show ((replT T root (paW ws) hi (onlyC ah)).1.frees ++ [hi]).length + 1 ≤ 1000; rw [replT_frees, List.length_append]; exact hz) (fun D4 R4 => ?_)
 refine Bk.nil ?_
 exact hR _ _ ⟨rfl, rt3, D4, rfl, R4⟩
noncomputable def delT (T : TS) (i : Int) (nd : Nd) : TS := setN (setU T (T.used.filter fun j => decide (j ≠ nd.slot))) i { nd with slot := -1 }
noncomputable def ccnt (a : Nd) : Int := (if a.c0 ≠ -1 then 1 else 0) + (if a.c1 ≠ -1 then 1 else 0)
noncomputable def kb (n w l : Nat) : List Nat := (List.range l).map fun i => bitTop w i n
theorem kb_len (n w l : Nat) : (kb n w l).length = l := by simp [kb]
theorem kb_get {n w l i : Nat} (h : i < l) : (kb n w l)[i]? = some (bitTop w i n) := by simp [kb, h]
theorem bitTop_test (w i n : Nat) : bitTop w i n = (w.testBit (n - 1 - i)).toNat := by
 unfold bitTop
 rw [Nat.toNat_testBit]
theorem bitTop_eq_iff {a w i n : Nat} : bitTop a i n = bitTop w i n ↔ a.testBit (n - 1 - i) = w.testBit (n - 1 - i) := by
 rw [bitTop_test, bitTop_test]
 constructor
 ·intro h
  cases h1 : a.testBit (n - 1 - i) <;> cases h2 : w.testBit (n - 1 - i) <;> simp_all
 ·intro h; rw [h]
theorem shared_same {n a w m i : Nat} (h : i < sharedLen n a w m) : bitTop a i n = bitTop w i n := by
 unfold sharedLen at h
 rw [bitTop_eq_iff]
 have h1 : i < n - bl (a ^^^ w) := by lia
 have hb : bl (a ^^^ w) ≤ n - 1 - i := by lia
 have := bl_lt hb
 have h2 : (a ^^^ w).testBit (n - 1 - i) = false := Nat.testBit_lt_two_pow this
 rw [Nat.testBit_xor] at h2
 cases h1 : a.testBit (n - 1 - i) <;> cases h2 : w.testBit (n - 1 - i) <;> simp_all
theorem shared_diff {n a w m : Nat} (ha : a < 2 ^ n) (hw : w < 2 ^ n) (hm : m ≤ n) (h : sharedLen n a w m < m) : bitTop a (sharedLen n a w m) n ≠ bitTop w (sharedLen n a w m) n := by
 have e : sharedLen n a w m = n - bl (a ^^^ w) := by unfold sharedLen at h ⊢; lia
 rw [e] at h ⊢
 intro he
 rw [bitTop_eq_iff] at he
 have hb : 0 < bl (a ^^^ w) := by lia
 have hle : bl (a ^^^ w) ≤ n := bl_le (Nat.xor_lt_two_pow ha hw)
 have h0 : (a ^^^ w) ≠ 0 := by intro h0; rw [h0] at hb; simp [bl] at hb
 have e2 : bl (a ^^^ w) = (a ^^^ w).log2 + 1 := by unfold bl; rw [if_neg h0]
 have h1 : n - 1 - (n - bl (a ^^^ w)) = (a ^^^ w).log2 := by lia
 rw [h1] at he
 have h2 : (a ^^^ w).testBit (a ^^^ w).log2 = true := Nat.testBit_log2 h0
 rw [Nat.testBit_xor, he] at h2
 simp at h2
theorem kb_prefix {n a w la lw : Nat} (hl : la ≤ lw) (h : ∀ i, i < la → bitTop a i n = bitTop w i n) : kb n a la <+: kb n w lw := by
 rw [List.prefix_iff_eq_take, kb_len]
 apply List.ext_getElem?
 intro i
 by_cases hi : i < la
 ·rw [kb_get hi, List.getElem?_take_of_lt hi, kb_get (by lia), h i hi]
 ·rw [List.getElem?_eq_none (by rw [kb_len]; lia), List.getElem?_eq_none (by rw [List.length_take, kb_len]; lia)]
theorem kb_prefix_iff {n a w la lw : Nat} : kb n a la <+: kb n w lw ↔ la ≤ lw ∧ ∀ i, i < la → bitTop a i n = bitTop w i n := by
 constructor
 ·intro h
  have hl := h.length_le
  rw [kb_len, kb_len] at hl
  refine ⟨hl, fun i hi => ?_⟩
  obtain ⟨t, e⟩ := h
  have h1 : (kb n a la ++ t)[i]? = (kb n w lw)[i]? := by rw [e]
  rw [List.getElem?_append_left (by rw [kb_len]; exact hi), kb_get hi, kb_get (by lia)] at h1
  exact Option.some.inj h1
 ·exact fun h => kb_prefix h.1 h.2
noncomputable def K (n : Nat) (a : Nd) : List Nat := kb n a.w a.len
noncomputable def Cut (n : Nat) (a : Nd) : Prop := a.len ≤ n ∧ a.w < 2 ^ n ∧ a.w = cutB a.w a.len n
theorem K_len (n : Nat) (a : Nd) : (K n a).length = a.len := kb_len _ _ _
theorem shared_iff {n : Nat} {a : Nd} {w len : Nat} (ha : a.w < 2 ^ n) (hw : w < 2 ^ n) (hl : a.len ≤ n) (hlen : len ≤ n) : sharedLen n a.w w (min a.len len) < a.len ↔ ¬ K n a <+: kb n w len := by
 unfold K
 rw [kb_prefix_iff]
 constructor
 ·rintro h ⟨h1, h2⟩
  have hm : min a.len len = a.len := by lia
  rw [hm] at h
  exact shared_diff ha hw hl h (h2 _ h)
 ·intro h
  false_or_by_contra
  rename_i hge
  have h1 : sharedLen n a.w w (min a.len len) ≤ min a.len len := by unfold sharedLen; lia
  have h2 : a.len ≤ len := by lia
  refine h ⟨h2, fun i hi => shared_same (m := min a.len len) (by lia)⟩
theorem bitTop_cut {w l n i : Nat} (hi : i < l) (hl : l ≤ n) : bitTop (cutB w l n) i n = bitTop w i n := by
 rw [bitTop_eq_iff]
 unfold cutB
 rw [Nat.testBit_mul_two_pow, Nat.testBit_div_two_pow]
 have h1 : n - l ≤ n - 1 - i := by lia
 rw [show n - 1 - i - (n - l) + (n - l) = n - 1 - i by lia]
 simp [h1]
theorem bitTop_cut0 {w l n i : Nat} (hi : l ≤ i) (hn : i < n) : bitTop (cutB w l n) i n = 0 := by
 rw [bitTop_test]
 unfold cutB
 rw [Nat.testBit_mul_two_pow]
 have h1 : ¬ n - l ≤ n - 1 - i := by lia
 simp [h1]
theorem kb_cut {w l n : Nat} (hl : l ≤ n) : kb n (cutB w l n) l = kb n w l := by
 unfold kb
 apply List.map_congr_left
 intro i hi
 exact bitTop_cut (List.mem_range.mp hi) hl
theorem cut_cut {w l n : Nat} : cutB (cutB w l n) l n = cutB w l n := by
 unfold cutB
 rw [Nat.mul_div_cancel _ (Nat.two_pow_pos _)]
noncomputable def WF (n : Nat) : List Nat → Tr → Prop
 | _, .nil => True
 | p, .nd _ a l r => p <+: K n a ∧ Cut n a ∧ WF n (K n a ++ [0]) l ∧ WF n (K n a ++ [1]) r
theorem WF.mono {n : Nat} {p p' : List Nat} (h : p' <+: p) : ∀ {t : Tr}, WF n p t → WF n p' t
 | .nil, _ => trivial
 | .nd _ _ _ _, ⟨h1, h2⟩ => ⟨h.trans h1, h2⟩
theorem WF.pre {n : Nat} : ∀ {t : Tr} {p : List Nat}, WF n p t → ∀ q ∈ pre t, p <+: K n q.2 ∧ Cut n q.2
 | .nil, _, _, q, hq => nomatch hq
 | .nd i a l r, p, ⟨h1, h2, h3, h4⟩, q, hq => by
  unfold Mine.pre at hq
  rcases List.mem_cons.mp hq with rfl | hq
  ·exact ⟨h1, h2⟩
  ·rcases List.mem_append.mp hq with hq | hq
   ·have := WF.pre h3 q hq
    exact ⟨(h1.trans (List.prefix_append _ _)).trans this.1, this.2⟩
   ·have := WF.pre h4 q hq
    exact ⟨(h1.trans (List.prefix_append _ _)).trans this.1, this.2⟩
theorem prefix_next {n w len : Nat} {a : Nd} (h : K n a <+: kb n w len) (hl : a.len < len) : K n a ++ [bitTop w a.len n] <+: kb n w len := by
 obtain ⟨t, e⟩ := h
 cases t with
 | nil =>
  have := congrArg List.length e
  rw [List.append_nil, K_len, kb_len] at this
  lia
 | cons x t =>
  have h1 : (K n a ++ x :: t)[a.len]? = (kb n w len)[a.len]? := by rw [e]
  rw [List.getElem?_append_right (by rw [K_len]; exact Nat.le_refl _), K_len, Nat.sub_self, kb_get hl] at h1
  have hx : x = bitTop w a.len n := by simpa using h1
  exact ⟨t, by rw [← e, hx]; simp⟩
theorem prefix_snoc_eq {p : List Nat} {x y : Nat} {q : List Nat} (h1 : p ++ [x] <+: q) (h2 : p ++ [y] <+: q) : x = y := by
 obtain ⟨t, e⟩ := h1
 obtain ⟨u, e'⟩ := h2
 have := e.trans e'.symm
 simp at this
 exact this.1
theorem path_mem {n w len : Nat} (hw : w < 2 ^ n) (hlen : len ≤ n) : ∀ {t : Tr} {p : List Nat}, WF n p t → ∀ q ∈ pre t, q ∈ path n len w t ↔ K n q.2 <+: kb n w len
 | .nil, _, _, q, hq => nomatch hq
 | .nd i a l r, p, ⟨h1, h2, h3, h4⟩, q, hq => by
  have hsh := shared_iff (len := len) h2.2.1 hw h2.1 hlen
  have hpl := fun q hq => (WF.pre h3 q hq)
  have hpr := fun q hq => (WF.pre h4 q hq)
  unfold Mine.pre at hq
  unfold path
  by_cases hk : K n a <+: kb n w len
  ·rw [if_neg (fun h => hsh.mp h hk)]
   have hal := hk.length_le
   rw [K_len, kb_len] at hal
   by_cases he : a.len = len
   ·rw [if_pos he]
    rcases List.mem_cons.mp hq with rfl | hq
    ·simp [hk]
    ·have : a.len < q.2.len := by
      rcases List.mem_append.mp hq with hq | hq
      ·have := (hpl q hq).1.length_le; rw [List.length_append, K_len, K_len] at this; simp at this; lia
      ·have := (hpr q hq).1.length_le; rw [List.length_append, K_len, K_len] at this; simp at this; lia
     constructor
     ·intro h
      have e := List.mem_singleton.mp h
      rw [e] at this
      exact absurd this (Nat.lt_irrefl _)
     ·intro h
      have := h.length_le
      rw [K_len, kb_len] at this
      lia
   ·rw [if_neg he]
    have hlt : a.len < len := by lia
    have hnx := prefix_next hk hlt
    rcases List.mem_cons.mp hq with rfl | hq
    ·simp [hk]
    ·have hne : q ≠ (i, a) := by
      intro e
      rw [e] at hq
      rcases List.mem_append.mp hq with hq | hq
      ·have := (hpl _ hq).1.length_le; rw [List.length_append, K_len] at this; simp at this; lia
      ·have := (hpr _ hq).1.length_le; rw [List.length_append, K_len] at this; simp at this; lia
     rw [List.mem_cons, or_iff_right hne]
     have hb := bitTop_lt w a.len n
     rcases List.mem_append.mp hq with hq | hq
     ·by_cases h0 : bitTop w a.len n = 0
      ·rw [if_pos h0]; exact path_mem hw hlen h3 q hq
      ·rw [if_neg h0]
       constructor
       ·intro h
        have hq2 := path_pre _ _ _ q h
        have e1 := (hpr q hq2).1
        have e0 := (hpl q hq).1
        exact absurd (prefix_snoc_eq e0 e1) (by lia)
       ·intro h
        have e0 := (hpl q hq).1.trans h
        exact absurd (prefix_snoc_eq e0 hnx) (by lia)
     ·by_cases h0 : bitTop w a.len n = 0
      ·rw [if_pos h0]
       constructor
       ·intro h
        have hq2 := path_pre _ _ _ q h
        have e1 := (hpl q hq2).1
        have e0 := (hpr q hq).1
        exact absurd (prefix_snoc_eq e0 e1) (by lia)
       ·intro h
        have e0 := (hpr q hq).1.trans h
        exact absurd (prefix_snoc_eq e0 hnx) (by lia)
      ·rw [if_neg h0]; exact path_mem hw hlen h4 q hq
  ·rw [if_pos (hsh.mpr hk)]
   refine ⟨fun h => absurd h List.not_mem_nil, fun h => absurd ?_ hk⟩
   rcases List.mem_cons.mp hq with rfl | hq
   ·exact h
   ·rcases List.mem_append.mp hq with hq | hq
    ·exact ((List.prefix_append _ _).trans (hpl q hq).1).trans h
    ·exact ((List.prefix_append _ _).trans (hpr q hq).1).trans h
theorem path_incr {n w len : Nat} : ∀ {t : Tr} {p : List Nat}, WF n p t → (path n len w t).Pairwise fun x y => x.2.len < y.2.len
 | .nil, _, _ => List.Pairwise.nil
 | .nd i a l r, p, ⟨h1, h2, h3, h4⟩ => by
  unfold path
  split
  ·exact List.Pairwise.nil
  ·split
   ·exact List.pairwise_singleton _ _
   ·split
    ·refine List.Pairwise.cons (fun q hq => ?_) (path_incr h3)
     have := (WF.pre h3 q (path_pre _ _ _ q hq)).1.length_le
     rw [List.length_append, K_len, K_len] at this; simp at this; show a.len < q.2.len; lia
    ·refine List.Pairwise.cons (fun q hq => ?_) (path_incr h4)
     have := (WF.pre h4 q (path_pre _ _ _ q hq)).1.length_le
     rw [List.length_append, K_len, K_len] at this; simp at this; show a.len < q.2.len; lia
theorem pathAt_some {n w len : Nat} (hw : w < 2 ^ n) (hlen : len ≤ n) {t : Tr} (h : WF n [] t) {q : Int × Nd} (hq : q ∈ pre t) (hk : K n q.2 = kb n w len) : pathAt n len w t = q.1 := by
 have hm := (path_mem hw hlen h q hq).mpr (by rw [hk]; exact List.prefix_refl _)
 have hlq : q.2.len = len := by rw [← K_len n q.2, hk, kb_len]
 unfold pathAt
 rcases eq_nil_or_snoc (path n len w t) with hp | ⟨ini, z, hp⟩
 ·rw [hp] at hm; cases hm
 ·have hz : z ∈ path n len w t := by rw [hp]; simp
  have hzk := (path_mem hw hlen h z (path_pre _ _ _ z hz)).mp hz
  have hzl := hzk.length_le
  rw [K_len, kb_len] at hzl
  have hi := path_incr (len := len) (w := w) h
  rw [hp, List.pairwise_append] at hi
  have e : q = z := by
   rw [hp] at hm
   rcases List.mem_append.mp hm with hm | hm
   ·have := hi.2.2 q hm z (.head _); lia
   ·exact List.mem_singleton.mp hm
  rw [hp, List.getLast?_concat]
  subst e
  show (if q.2.len = len then q.1 else -1) = q.1
  rw [if_pos hlq]
theorem pathAt_none {n w len : Nat} (hw : w < 2 ^ n) (hlen : len ≤ n) {t : Tr} (h : WF n [] t) (hno : ∀ q ∈ pre t, K n q.2 ≠ kb n w len) : pathAt n len w t = -1 := by
 unfold pathAt
 rcases eq_nil_or_snoc (path n len w t) with hp | ⟨ini, z, hp⟩
 ·rw [hp]; rfl
 ·have hz : z ∈ path n len w t := by rw [hp]; simp
  have hzp := path_pre _ _ _ z hz
  have hzk := (path_mem hw hlen h z hzp).mp hz
  rw [hp, List.getLast?_concat]
  show (if z.2.len = len then z.1 else -1) = -1
  rw [if_neg]
  intro e
  exact hno z hzp (hzk.eq_of_length (by rw [K_len, kb_len, e]))
theorem peer_some {T : TS} {n w len : Nat} (hw : w < 2 ^ n) (hlen : len ≤ n) {t : Tr} (hR : Rep T t) (h : WF n [] t) {q : Int × Nd} (hq : q ∈ pre t) (hk : K n q.2 = kb n w len) (hs : q.2.slot ≠ -1) : peerT T n len w t = some q.2.slot := by
 have e : exactT n len w t = q.1 := by unfold exactT; rw [if_neg (by lia), pathAt_some hw hlen h hq hk]
 obtain ⟨h1, h2⟩ := pre_rep hR q hq
 unfold peerT
 rw [e, if_neg (by lia), h1]
 show (if q.2.slot = -1 then none else some q.2.slot) = _
 rw [if_neg hs]
theorem peer_none {T : TS} {n w len : Nat} (hw : w < 2 ^ n) (hlen : len ≤ n) {t : Tr} (hR : Rep T t) (h : WF n [] t) (hno : ∀ q ∈ pre t, K n q.2 = kb n w len → q.2.slot = -1) : peerT T n len w t = none := by
 by_cases hex : ∃ q ∈ pre t, K n q.2 = kb n w len
 ·obtain ⟨q, hq, hk⟩ := hex
  have e : exactT n len w t = q.1 := by unfold exactT; rw [if_neg (by lia), pathAt_some hw hlen h hq hk]
  obtain ⟨h1, h2⟩ := pre_rep hR q hq
  unfold peerT
  rw [e, if_neg (by lia), h1]
  show (if q.2.slot = -1 then none else some q.2.slot) = _
  rw [if_pos (hno q hq hk)]
 ·have e : exactT n len w t = -1 := by unfold exactT; rw [if_neg (by lia), pathAt_none hw hlen h fun q hq hk => hex ⟨q, hq, hk⟩]
  unfold peerT
  rw [if_pos e]
theorem lastE_none : ∀ {ps : List (Int × Nd)}, (∀ q ∈ ps, q.2.slot = -1) → lastE ps = none
 | [], _ => rfl
 | p :: ps, h => by unfold lastE; rw [lastE_none fun q hq => h q (.tail _ hq)]; show (if p.2.slot = -1 then none else some p.2.slot) = none; rw [if_pos (h p (.head _))]
theorem lastE_some : ∀ {ps : List (Int × Nd)}, ps.Pairwise (fun x y => x.2.len < y.2.len) → ∀ q ∈ ps, q.2.slot ≠ -1 → (∀ q' ∈ ps, q'.2.slot ≠ -1 → q'.2.len ≤ q.2.len) → lastE ps = some q.2.slot
 | [], _, q, hq, _, _ => nomatch hq
 | p :: ps, hp, q, hq, hs, hmax => by
  rw [List.pairwise_cons] at hp
  unfold lastE
  rcases List.mem_cons.mp hq with rfl | hq
  ·rw [lastE_none fun q' hq' => ?_]
   ·show (if q.2.slot = -1 then none else some q.2.slot) = _
    rw [if_neg hs]
   ·false_or_by_contra
    rename_i hn
    have h1 := hmax q' (.tail _ hq') hn
    have h2 := hp.1 q' hq'
    lia
  ·rw [lastE_some hp.2 q hq hs fun q' hq' h' => hmax q' (.tail _ hq') h']
theorem look_none {n w len : Nat} (hw : w < 2 ^ n) (hlen : len ≤ n) {t : Tr} (h : WF n [] t) (hno : ∀ q ∈ pre t, K n q.2 <+: kb n w len → q.2.slot = -1) : lookT n len w t = none := by
 unfold lookT
 rw [if_neg (by lia)]
 refine lastE_none fun q hq => hno q (path_pre _ _ _ q hq) ((path_mem hw hlen h q (path_pre _ _ _ q hq)).mp hq)
theorem look_some {n w len : Nat} (hw : w < 2 ^ n) (hlen : len ≤ n) {t : Tr} (h : WF n [] t) {q : Int × Nd} (hq : q ∈ pre t) (hk : K n q.2 <+: kb n w len) (hs : q.2.slot ≠ -1) (hmax : ∀ q' ∈ pre t, K n q'.2 <+: kb n w len → q'.2.slot ≠ -1 → q'.2.len ≤ q.2.len) : lookT n len w t = some q.2.slot := by
 unfold lookT
 rw [if_neg (by lia)]
 exact lastE_some (path_incr h) q ((path_mem hw hlen h q hq).mpr hk) hs fun q' hq' h' => hmax q' (path_pre _ _ _ q' hq') ((path_mem hw hlen h q' (path_pre _ _ _ q' hq')).mp hq') h'
structure Fm where
 i : Int
 a : Nd
 b : Nat
 o : Tr
noncomputable def Fm.tr (f : Fm) (s : Tr) : Tr := if f.b = 0 then .nd f.i (setC f.a 0 s.id) s f.o else .nd f.i (setC f.a 1 s.id) f.o s
noncomputable def plug : List Fm → Tr → Tr
 | [], s => s
 | f :: C, s => plug C (f.tr s)
noncomputable def locate (n len w : Nat) : Tr → List Fm → List Fm × Tr
 | .nil, C => (C, .nil)
 | .nd i a l r, C => if sharedLen n a.w w (min a.len len) < a.len then (C, .nd i a l r) else if a.len = len then (C, .nd i a l r) else
   if bitTop w a.len n = 0 then locate n len w l (⟨i, a, 0, r⟩ :: C) else locate n len w r (⟨i, a, 1, l⟩ :: C)
theorem Fm.tr_id (f : Fm) (s : Tr) : (f.tr s).id = f.i := by unfold Fm.tr; split <;> rfl
theorem setC_same0 {a : Nd} {x : Int} (h : a.c0 = x) : setC a 0 x = a := by subst h; rfl
theorem setC_same1 {a : Nd} {x : Int} (h : a.c1 = x) : setC a 1 x = a := by subst h; rfl
theorem locate_plug {T : TS} (n len w : Nat) : ∀ {t : Tr} (C : List Fm), Rep T t → plug (locate n len w t C).1 (locate n len w t C).2 = plug C t
 | .nil, C, _ => rfl
 | .nd i a l r, C, ⟨h0, h1, h2, h3, h4, h5⟩ => by
  unfold locate
  split
  ·rfl
  ·split
   ·rfl
   ·split
    ·rw [locate_plug n len w _ h4]
     show plug C (Fm.tr ⟨i, a, 0, r⟩ l) = _
     unfold Fm.tr
     rw [if_pos rfl, setC_same0 h2]
    ·rw [locate_plug n len w _ h5]
     show plug C (Fm.tr ⟨i, a, 1, l⟩ r) = _
     unfold Fm.tr
     rw [if_neg (Nat.one_ne_zero), setC_same1 h3]
noncomputable def ExactAt (n len w : Nat) : Tr → Prop
 | .nil => False
 | .nd _ a _ _ => ¬ sharedLen n a.w w (min a.len len) < a.len ∧ a.len = len
noncomputable def Off (n len w : Nat) : Tr → Prop
 | .nil => True
 | .nd _ a _ _ => sharedLen n a.w w (min a.len len) < a.len
noncomputable def FoundF (n len w : Nat) (p : List (Int × Nd)) (s : Tr) (F : List Fm) : Prop :=
 ((Off n len w s ∧ p = F.reverse.map fun f => (f.i, f.a)) ∨ (∃ i a l r, s = .nd i a l r ∧ ExactAt n len w (.nd i a l r) ∧ p = (F.reverse.map fun f => (f.i, f.a)) ++ [(i, a)])) ∧
 (∀ f ∈ F, f.b = bitTop w f.a.len n ∧ ¬ sharedLen n f.a.w w (min f.a.len len) < f.a.len ∧ f.a.len ≠ len)
theorem FoundF.step {n len w : Nat} {p : List (Int × Nd)} {s : Tr} {F : List Fm} (h : FoundF n len w p s F) (f : Fm) (hb : f.b = bitTop w f.a.len n) (h1 : ¬ sharedLen n f.a.w w (min f.a.len len) < f.a.len) (h2 : f.a.len ≠ len) :
  FoundF n len w ((f.i, f.a) :: p) s (F ++ [f]) := by
 obtain ⟨h3, h4⟩ := h
 refine ⟨?_, fun g hg => ?_⟩
 ·rcases h3 with ⟨h5, h6⟩ | ⟨i, a, l, r, h5, h6, h7⟩
  ·left; exact ⟨h5, by rw [h6]; simp⟩
  ·right; exact ⟨i, a, l, r, h5, h6, by rw [h7]; simp⟩
 ·rcases List.mem_append.mp hg with hg | hg
  ·exact h4 g hg
  ·rw [List.mem_singleton.mp hg]; exact ⟨hb, h1, h2⟩
theorem locate_spec (n len w : Nat) : ∀ (t : Tr) (C : List Fm), ∃ F : List Fm, (locate n len w t C).1 = F ++ C ∧ FoundF n len w (path n len w t) (locate n len w t C).2 F
 | .nil, C => ⟨[], rfl, .inl ⟨trivial, rfl⟩, fun _ h => nomatch h⟩
 | .nd i a l r, C => by
  unfold locate path
  by_cases h1 : sharedLen n a.w w (min a.len len) < a.len
  ·rw [if_pos h1, if_pos h1]
   exact ⟨[], rfl, .inl ⟨h1, rfl⟩, fun _ h => nomatch h⟩
  ·rw [if_neg h1, if_neg h1]
   by_cases h2 : a.len = len
   ·rw [if_pos h2, if_pos h2]
    exact ⟨[], rfl, .inr ⟨i, a, l, r, rfl, ⟨h1, h2⟩, rfl⟩, fun _ h => nomatch h⟩
   ·rw [if_neg h2, if_neg h2]
    have hb := bitTop_lt w a.len n
    by_cases h3 : bitTop w a.len n = 0
    ·rw [if_pos h3, if_pos h3]
     obtain ⟨F, e, hF⟩ := locate_spec n len w l (⟨i, a, 0, r⟩ :: C)
     exact ⟨F ++ [⟨i, a, 0, r⟩], by rw [e]; simp, hF.step ⟨i, a, 0, r⟩ h3.symm h1 h2⟩
    ·rw [if_neg h3, if_neg h3]
     obtain ⟨F, e, hF⟩ := locate_spec n len w r (⟨i, a, 1, l⟩ :: C)
     exact ⟨F ++ [⟨i, a, 1, l⟩], by rw [e]; simp, hF.step ⟨i, a, 1, l⟩ (by show 1 = bitTop w a.len n; lia) h1 h2⟩
noncomputable def ids (t : Tr) : List Int := (pre t).map (·.1)
noncomputable def preC : List Fm → Int → List (Int × Nd)
 | [], _ => []
 | f :: C, id => (f.i, setC f.a f.b id) :: (pre f.o ++ preC C f.i)
noncomputable def idsC (C : List Fm) : List Int := C.flatMap fun f => f.i :: ids f.o
noncomputable def RepC (T : TS) : List Fm → Int → Prop
 | [], _ => True
 | f :: C, id => 0 ≤ f.i ∧ f.b < 2 ∧ getN T f.i = some (setC f.a f.b id) ∧ child f.a (1 - f.b) = f.o.id ∧ Rep T f.o ∧ RepC T C f.i
theorem preC_ids : ∀ (C : List Fm) (id : Int), (preC C id).map (·.1) = idsC C
 | [], _ => rfl
 | f :: C, id => by
  unfold preC idsC
  rw [List.map_cons, List.map_append, preC_ids C f.i, List.flatMap_cons]
  rfl
theorem b01 {b : Nat} (h : b < 2) : b = 0 ∨ b = 1 := by lia
theorem rep_tr {T : TS} {f : Fm} {s : Tr} : f.b < 2 ∧ Rep T (f.tr s) → 0 ≤ f.i ∧ getN T f.i = some (setC f.a f.b s.id) ∧ child f.a (1 - f.b) = f.o.id ∧ Rep T f.o ∧ Rep T s := by
 rintro ⟨hb, h⟩
 unfold Fm.tr at h
 rcases b01 hb with h0 | h0
 ·rw [if_pos h0] at h
  obtain ⟨h1, h2, h3, h4, h5, h6⟩ := h
  rw [h0]
  exact ⟨h1, h2, h4, h6, h5⟩
 ·rw [if_neg (by lia)] at h
  obtain ⟨h1, h2, h3, h4, h5, h6⟩ := h
  rw [h0]
  exact ⟨h1, h2, h3, h5, h6⟩
theorem tr_rep {T : TS} {f : Fm} {s : Tr} (hb : f.b < 2) (h1 : 0 ≤ f.i) (h2 : getN T f.i = some (setC f.a f.b s.id)) (h3 : child f.a (1 - f.b) = f.o.id) (h4 : Rep T f.o) (h5 : Rep T s) : Rep T (f.tr s) := by
 unfold Fm.tr
 rcases b01 hb with h0 | h0
 ·rw [if_pos h0]
  rw [h0] at h2 h3
  exact ⟨h1, h2, rfl, h3, h5, h4⟩
 ·rw [if_neg (by lia)]
  rw [h0] at h2 h3
  exact ⟨h1, h2, h3, rfl, h4, h5⟩
noncomputable def Bits (C : List Fm) : Prop := ∀ f ∈ C, f.b < 2
theorem plug_rep {T : TS} : ∀ {C : List Fm} {s : Tr}, Bits C → Rep T (plug C s) → RepC T C s.id ∧ Rep T s
 | [], s, _, h => ⟨trivial, h⟩
 | f :: C, s, hB, h => by
  obtain ⟨h1, h2⟩ := plug_rep (C := C) (s := f.tr s) (fun g hg => hB g (.tail _ hg)) h
  have hb := hB f (.head _)
  obtain ⟨h3, h4, h5, h6, h7⟩ := rep_tr ⟨hb, h2⟩
  rw [Fm.tr_id] at h1
  exact ⟨⟨h3, hb, h4, h5, h6, h1⟩, h7⟩
theorem rep_plug {T : TS} : ∀ {C : List Fm} {s : Tr}, RepC T C s.id → Rep T s → Rep T (plug C s)
 | [], s, _, h => h
 | f :: C, s, ⟨h1, hb, h2, h3, h4, h5⟩, h => rep_plug (C := C) (by rw [Fm.tr_id]; exact h5) (tr_rep hb h1 h2 h3 h4 h)
theorem pre_tr (f : Fm) (s : Tr) (hb : f.b < 2) : (pre (f.tr s)).Perm ((f.i, setC f.a f.b s.id) :: (pre f.o ++ pre s)) := by
 unfold Fm.tr
 rcases b01 hb with h0 | h0
 ·rw [if_pos h0, h0]
  exact List.Perm.cons _ List.perm_append_comm
 ·rw [if_neg (by lia), h0]
  exact List.Perm.refl _
theorem pre_plug : ∀ (C : List Fm) (s : Tr), Bits C → (pre (plug C s)).Perm (preC C s.id ++ pre s)
 | [], s, _ => List.Perm.refl _
 | f :: C, s, hB => by
  have h1 := pre_plug C (f.tr s) fun g hg => hB g (.tail _ hg)
  have h2 := pre_tr f s (hB f (.head _))
  rw [Fm.tr_id] at h1
  refine h1.trans ?_
  show List.Perm _ (((f.i, setC f.a f.b s.id) :: (pre f.o ++ preC C f.i)) ++ pre s)
  refine (List.Perm.append_left _ h2).trans ?_
  rw [List.cons_append, List.append_assoc]
  refine (List.perm_middle (a := (f.i, setC f.a f.b s.id)) (l₁ := preC C f.i)).trans (List.Perm.cons _ ?_)
  rw [← List.append_assoc]
  refine (List.Perm.append_right _ List.perm_append_comm).trans ?_
  rw [List.append_assoc]
theorem rep_congr {T T' : TS} : ∀ {t : Tr}, Rep T t → (∀ i ∈ ids t, getN T' i = getN T i) → Rep T' t
 | .nil, _, _ => trivial
 | .nd i a l r, ⟨h1, h2, h3, h4, h5, h6⟩, h => by
  refine ⟨h1, (h i (.head _)).trans h2, h3, h4, rep_congr h5 fun j hj => h j ?_, rep_congr h6 fun j hj => h j ?_⟩
  ·show j ∈ ((i, a) :: (pre l ++ pre r)).map (·.1); rw [List.map_cons, List.map_append]; exact .tail _ (List.mem_append_left _ hj)
  ·show j ∈ ((i, a) :: (pre l ++ pre r)).map (·.1); rw [List.map_cons, List.map_append]; exact .tail _ (List.mem_append_right _ hj)
theorem repC_congr {T T' : TS} : ∀ {C : List Fm} {id : Int}, RepC T C id → (∀ i ∈ idsC C, getN T' i = getN T i) → RepC T' C id
 | [], _, _, _ => trivial
 | f :: C, id, ⟨h1, h2, h3, h4, h5, h6⟩, h => by
  have e : idsC (f :: C) = (f.i :: ids f.o) ++ idsC C := rfl
  exact ⟨h1, h2, (h _ (by rw [e]; exact .head _)).trans h3, h4, rep_congr h5 fun j hj => h j (by rw [e]; exact List.mem_append_left _ (.tail _ hj)), repC_congr h6 fun j hj => h j (by rw [e]; exact List.mem_append_right _ hj)⟩
theorem setC_setC (a : Nd) (b : Nat) (x y : Int) : setC (setC a b x) b y = setC a b y := by unfold setC; split <;> rfl
theorem repC_hang {T : TS} {f : Fm} {C : List Fm} {x y : Int} (hn : (T.nodes.map (·.1)).Nodup) (h : RepC T (f :: C) x) (hd : (idsC (f :: C)).Nodup) : RepC (setN T f.i (setC (setC f.a f.b x) f.b y)) (f :: C) y := by
 obtain ⟨h1, h2, h3, h4, h5, h6⟩ := h
 have e : idsC (f :: C) = (f.i :: ids f.o) ++ idsC C := rfl
 rw [e, List.cons_append, List.nodup_cons] at hd
 have q : ∀ j, j ≠ f.i → getN (setN T f.i (setC (setC f.a f.b x) f.b y)) j = getN T j := fun j hj => by rw [getN_setN' hn h3, if_neg hj]
 refine ⟨h1, h2, by rw [getN_setN' hn h3, if_pos rfl, setC_setC], h4, rep_congr h5 fun j hj => q j fun e => hd.1 ?_, repC_congr h6 fun j hj => q j fun e => hd.1 ?_⟩
 ·rw [← e]; exact List.mem_append_left _ hj
 ·rw [← e]; exact List.mem_append_right _ hj
noncomputable def holeP (n : Nat) : List Fm → List Nat
 | [] => []
 | f :: _ => K n f.a ++ [f.b]
noncomputable def WFC (n : Nat) : List Fm → Prop
 | [] => True
 | f :: C => holeP n C <+: K n f.a ∧ Cut n f.a ∧ WF n (K n f.a ++ [1 - f.b]) f.o ∧ WFC n C
theorem K_setC (n : Nat) (a : Nd) (b : Nat) (x : Int) : K n (setC a b x) = K n a := by unfold setC K; split <;> rfl
theorem Cut_setC {n : Nat} {a : Nd} {b : Nat} {x : Int} : Cut n (setC a b x) ↔ Cut n a := by unfold setC Cut; split <;> exact Iff.rfl
theorem wf_plug {n : Nat} : ∀ {C : List Fm} {s : Tr}, Bits C → (WF n [] (plug C s) ↔ WFC n C ∧ WF n (holeP n C) s)
 | [], s, _ => ⟨fun h => ⟨trivial, h⟩, fun h => h.2⟩
 | f :: C, s, hB => by
  show WF n [] (plug C (f.tr s)) ↔ _
  rw [wf_plug (C := C) (s := f.tr s) fun g hg => hB g (.tail _ hg)]
  unfold Fm.tr
  show _ ↔ (holeP n C <+: K n f.a ∧ Cut n f.a ∧ WF n (K n f.a ++ [1 - f.b]) f.o ∧ WFC n C) ∧ WF n (K n f.a ++ [f.b]) s
  rcases b01 (hB f (.head _)) with h0 | h0
  ·rw [if_pos h0, h0]
   show WFC n C ∧ (holeP n C <+: K n (setC f.a 0 s.id) ∧ Cut n (setC f.a 0 s.id) ∧ WF n (K n (setC f.a 0 s.id) ++ [0]) s ∧ WF n (K n (setC f.a 0 s.id) ++ [1]) f.o) ↔ _
   rw [K_setC, Cut_setC]
   constructor
   ·rintro ⟨h1, h2, h3, h4, h5⟩; exact ⟨⟨h2, h3, h5, h1⟩, h4⟩
   ·rintro ⟨⟨h2, h3, h5, h1⟩, h4⟩; exact ⟨h1, h2, h3, h4, h5⟩
  ·rw [if_neg (by lia), h0]
   show WFC n C ∧ (holeP n C <+: K n (setC f.a 1 s.id) ∧ Cut n (setC f.a 1 s.id) ∧ WF n (K n (setC f.a 1 s.id) ++ [0]) f.o ∧ WF n (K n (setC f.a 1 s.id) ++ [1]) s) ↔ _
   rw [K_setC, Cut_setC]
   constructor
   ·rintro ⟨h1, h2, h3, h4, h5⟩; exact ⟨⟨h2, h3, h4, h1⟩, h5⟩
   ·rintro ⟨⟨h2, h3, h5, h1⟩, h4⟩; exact ⟨h1, h2, h3, h5, h4⟩
noncomputable def keysT (T : TS) : List Int := T.nodes.map (·.1)
noncomputable def FreeOK (T : TS) : Prop := (keysT T ++ T.frees).Perm ((List.range (T.nodes.length + T.frees.length)).map fun k : Nat => (k : Int))
theorem rangeI_nodup (n : Nat) : ((List.range n).map fun k : Nat => (k : Int)).Nodup := by
 rw [List.nodup_iff_pairwise_ne, List.pairwise_map]
 exact (List.nodup_range (n := n)).imp fun h e => h (by lia)
theorem FreeOK.nodup {T : TS} (h : FreeOK T) : (keysT T ++ T.frees).Nodup := (h.nodup_iff).mpr (rangeI_nodup _)
theorem FreeOK.keys {T : TS} (h : FreeOK T) : (keysT T).Nodup := (List.nodup_append.mp h.nodup).1
theorem FreeOK.range {T : TS} (h : FreeOK T) {i : Int} (hi : i ∈ keysT T ++ T.frees) : 0 ≤ i ∧ i < (T.nodes.length + T.frees.length : Nat) := by
 have := h.mem_iff.mp hi
 obtain ⟨k, hk, rfl⟩ := List.mem_map.mp this
 have := List.mem_range.mp hk
 lia
theorem getN_none_iff {T : TS} {i : Int} : getN T i = none ↔ i ∉ keysT T := by
 unfold getN keysT
 rw [Option.map_eq_none_iff, List.find?_eq_none]
 constructor
 ·intro h hm
  obtain ⟨p, hp, e⟩ := List.mem_map.mp hm
  exact h p hp (by simpa using e)
 ·intro h p hp e
  exact h (List.mem_map.mpr ⟨p, hp, by simpa using e⟩)
theorem newId_nil {T : TS} (h : T.frees = []) : newId T = (T.nodes.length : Int) := by unfold newId; rw [h]; rfl
theorem newId_snoc {T : TS} {l : List Int} {i : Int} (h : T.frees = l ++ [i]) : newId T = i := by unfold newId; rw [h]; simp
theorem FreeOK.fresh {T : TS} (h : FreeOK T) : newId T ∉ keysT T ∧ 0 ≤ newId T := by
 rcases eq_nil_or_snoc T.frees with hf | ⟨l, i, hf⟩
 ·rw [newId_nil hf]
  refine ⟨fun hm => ?_, by lia⟩
  have := (h.range (List.mem_append_left _ hm)).2
  rw [hf] at this
  simp at this
 ·rw [newId_snoc hf]
  have hm : i ∈ T.frees := by rw [hf]; simp
  refine ⟨fun hk => ?_, (h.range (List.mem_append_right _ hm)).1⟩
  exact (List.nodup_append.mp h.nodup).2.2 i hk i hm rfl
theorem FreeOK.getN_new {T : TS} (h : FreeOK T) : getN T (newId T) = none := getN_none_iff.mpr h.fresh.1
theorem keys_newT (T : TS) (a : Nd) : keysT (newT T a) = keysT T ++ [newId T] := by unfold keysT newT addN setF; simp
theorem newT_len (T : TS) (a : Nd) : (newT T a).nodes.length = T.nodes.length + 1 ∧ (newT T a).frees.length ≤ T.frees.length ∧ (newT T a).used = T.used ∧ (newT T a).vals = T.vals := by
 unfold newT addN setF; simp
theorem FreeOK.newT {T : TS} (h : FreeOK T) (a : Nd) : FreeOK (newT T a) := by
 unfold FreeOK at *
 rw [keys_newT]
 rcases eq_nil_or_snoc T.frees with hf | ⟨l, i, hf⟩
 ·have e1 : (Mine.newT T a).frees = [] := by unfold Mine.newT Mine.addN Mine.setF; rw [hf]; rfl
  have e2 : (Mine.newT T a).nodes.length = T.nodes.length + 1 := by simp [Mine.newT, Mine.addN, Mine.setF]
  rw [e1, e2, newId_nil hf]
  rw [hf] at h
  simp only [List.append_nil, List.length_nil, Nat.add_zero] at h ⊢
  rw [List.range_succ, List.map_append]
  exact List.Perm.append_right _ h
 ·have e1 : (Mine.newT T a).frees = l := by unfold Mine.newT Mine.addN Mine.setF; rw [hf]; simp
  have e2 : (Mine.newT T a).nodes.length = T.nodes.length + 1 := by simp [Mine.newT, Mine.addN, Mine.setF]
  rw [e1, e2, newId_snoc hf]
  rw [hf] at h
  have e3 : T.nodes.length + (l ++ [i]).length = T.nodes.length + 1 + l.length := by simp; lia
  rw [e3] at h
  refine List.Perm.trans ?_ h
  rw [List.append_assoc]
  exact List.Perm.append_left _ List.perm_append_comm
theorem filter_ne_perm {l : List Int} (hn : l.Nodup) {i : Int} (hi : i ∈ l) : (l.filter (fun j => decide (j ≠ i)) ++ [i]).Perm l := by
 induction l with
 | nil => cases hi
 | cons x l ih =>
  rw [List.nodup_cons] at hn
  by_cases e : x = i
  ·subst e
   rw [List.filter_cons_of_neg (by simp)]
   have : l.filter (fun j => decide (j ≠ x)) = l := List.filter_eq_self.mpr fun y hy => by
    have : y ≠ x := fun e => hn.1 (e ▸ hy)
    simpa using this
   rw [this]
   exact List.perm_append_comm
  ·rw [List.filter_cons_of_pos (by simpa using e), List.cons_append]
   exact List.Perm.cons _ (ih hn.2 ((List.mem_cons.mp hi).resolve_left fun h => e h.symm))
theorem keys_dropT (T : TS) (i : Int) : keysT (dropT T i) = (keysT T).filter fun j => decide (j ≠ i) := by
 unfold keysT dropT popN setF
 rw [List.filter_map]
 rfl
theorem FreeOK.dropT {T : TS} (h : FreeOK T) {i : Int} (hi : i ∈ keysT T) : FreeOK (dropT T i) ∧ (dropT T i).frees.length = T.frees.length + 1 ∧ (dropT T i).nodes.length + 1 = T.nodes.length := by
 have hp := filter_ne_perm h.keys hi
 have e1 : (Mine.dropT T i).frees = T.frees ++ [i] := rfl
 have e2 : (Mine.dropT T i).nodes.length + 1 = T.nodes.length := by
  have h1 := hp.length_eq
  have h2 : (keysT (Mine.dropT T i)).length = (Mine.dropT T i).nodes.length := by simp [keysT]
  have h3 : (keysT T).length = T.nodes.length := by simp [keysT]
  rw [List.length_append, ← keys_dropT, h2, h3] at h1
  simpa using h1
 refine ⟨?_, by rw [e1]; simp, e2⟩
 unfold FreeOK at *
 rw [keys_dropT, e1]
 have e3 : (Mine.dropT T i).nodes.length + (T.frees ++ [i]).length = T.nodes.length + T.frees.length := by simp; lia
 rw [e3]
 refine List.Perm.trans ?_ h
 refine (List.Perm.append_left _ List.perm_append_comm).trans ?_
 rw [← List.append_assoc]
 exact List.Perm.append_right _ hp
theorem keys_setN (T : TS) (i : Int) (a : Nd) : keysT (setN T i a) = keysT T := setN_keys T i a
theorem FreeOK.setN {T : TS} (h : FreeOK T) (i : Int) (a : Nd) : FreeOK (setN T i a) := by
 unfold FreeOK at *
 rw [keys_setN]
 have : (Mine.setN T i a).nodes.length = T.nodes.length := by simp [Mine.setN]
 rw [this]; exact h
theorem getN_newT {T : TS} (h : FreeOK T) (a : Nd) (j : Int) : getN (newT T a) j = if j = newId T then some a else getN T j := by
 unfold newT
 exact getN_addN (T := setF T T.frees.dropLast) h.getN_new j
noncomputable def entL (n : Nat) (l : List (Int × Nd)) : List (List Nat × Int) := (l.filter fun p => p.2.slot != -1).map fun p => (K n p.2, p.2.slot)
theorem entL_append (n : Nat) (l m : List (Int × Nd)) : entL n (l ++ m) = entL n l ++ entL n m := by unfold entL; rw [List.filter_append, List.map_append]
theorem entL_cons (n : Nat) (p : Int × Nd) (l : List (Int × Nd)) : entL n (p :: l) = (if p.2.slot = -1 then [] else [(K n p.2, p.2.slot)]) ++ entL n l := by
 unfold entL
 by_cases h : p.2.slot = -1
 ·rw [List.filter_cons_of_neg (by simp [h]), if_pos h]; rfl
 ·rw [List.filter_cons_of_pos (by simp [h]), if_neg h]; rfl
theorem entL_perm {n : Nat} {l m : List (Int × Nd)} (h : l.Perm m) : (entL n l).Perm (entL n m) := (h.filter _).map _
theorem setC_slot (a : Nd) (b : Nat) (x : Int) : (setC a b x).slot = a.slot := by unfold setC; split <;> rfl
theorem setC_wl (a : Nd) (b : Nat) (x : Int) : (setC a b x).w = a.w ∧ (setC a b x).len = a.len := by unfold setC; split <;> exact ⟨rfl, rfl⟩
theorem entC_indep (n : Nat) : ∀ (C : List Fm) (x y : Int), entL n (preC C x) = entL n (preC C y)
 | [], _, _ => rfl
 | f :: C, x, y => by
  show entL n ((f.i, setC f.a f.b x) :: _) = entL n ((f.i, setC f.a f.b y) :: _)
  rw [entL_cons, entL_cons, setC_slot, setC_slot, K_setC, K_setC]
noncomputable def parC : List Fm → Int
 | [] => -1
 | f :: _ => f.i
noncomputable def sideC : List Fm → Nat
 | [] => 0
 | f :: _ => f.b
theorem plug_id : ∀ (C : List Fm) (s s' : Tr), C ≠ [] → (plug C s).id = (plug C s').id
 | [], _, _, h => absurd rfl h
 | [f], s, s', _ => by show (f.tr s).id = (f.tr s').id; rw [Fm.tr_id, Fm.tr_id]
 | f :: g :: C, s, s', _ => plug_id (g :: C) (f.tr s) (f.tr s') (by simp)
theorem hang_ok {T : TS} {C : List Fm} {x root : Int} {s s' : Tr} (hn : (keysT T).Nodup) (hC : RepC T C x) (hd : (idsC C).Nodup) (hs : Rep T s') (hdis : ∀ j ∈ ids s', j ∉ idsC C) (hroot : root = (plug C s).id) :
  Rep (hangT T root (parC C) (sideC C) s'.id).1 (plug C s') ∧ (hangT T root (parC C) (sideC C) s'.id).2 = (plug C s').id ∧ keysT (hangT T root (parC C) (sideC C) s'.id).1 = keysT T ∧ (FreeOK T → FreeOK (hangT T root (parC C) (sideC C) s'.id).1) ∧
   (hangT T root (parC C) (sideC C) s'.id).1.used = T.used ∧ (hangT T root (parC C) (sideC C) s'.id).1.vals = T.vals ∧ (hangT T root (parC C) (sideC C) s'.id).1.frees = T.frees := by
 cases C with
 | nil =>
  show Rep (if (-1 : Int) = -1 then (T, s'.id) else _).1 s' ∧ _
  unfold hangT
  rw [if_pos rfl]
  exact ⟨hs, rfl, rfl, fun h => h, rfl, rfl, rfl⟩
 | cons f C =>
  have h0 : 0 ≤ f.i := hC.1
  have hg : getN T f.i = some (setC f.a f.b x) := hC.2.2.1
  have e : hangT T root (parC (f :: C)) (sideC (f :: C)) s'.id = (setN T f.i (setC (setC f.a f.b x) f.b s'.id), root) := by
   unfold hangT
   show (if f.i = -1 then _ else _) = _
   rw [if_neg (by lia)]
   show (match getN T f.i with | some a => _ | none => _) = _
   rw [hg]
   rfl
  rw [e]
  refine ⟨rep_plug (repC_hang hn hC hd) (rep_congr hs fun j hj => ?_), by rw [hroot]; exact plug_id _ _ _ (by simp), keys_setN _ _ _, fun h => h.setN _ _, rfl, rfl, rfl⟩
  rw [getN_setN' hn hg, if_neg]
  intro ej
  exact hdis j hj (by rw [ej]; exact .head _)
structure Inv (n : Nat) (T : TS) (root : Int) (t : Tr) : Prop where
 rep : Rep T t
 rid : root = t.id
 wf : WF n [] t
 idp : (keysT T).Perm (ids t)
 free : FreeOK T
theorem Inv.keys {n : Nat} {T : TS} {root : Int} {t : Tr} (I : Inv n T root t) : (keysT T).Nodup := I.free.keys
theorem Inv.nodup {n : Nat} {T : TS} {root : Int} {t : Tr} (I : Inv n T root t) : (ids t).Nodup := I.idp.nodup_iff.mp I.keys
noncomputable def ents (n : Nat) (t : Tr) : List (List Nat × Int) := entL n (pre t)
theorem ids_plug (C : List Fm) (s : Tr) (hB : Bits C) : (ids (plug C s)).Perm (idsC C ++ ids s) := by
 have := (pre_plug C s hB).map (·.1)
 rw [List.map_append, preC_ids] at this
 exact this
theorem ents_plug (n : Nat) (C : List Fm) (s : Tr) (hB : Bits C) (x : Int) : (ents n (plug C s)).Perm (entL n (preC C x) ++ ents n s) := by
 have := entL_perm (n := n) (pre_plug C s hB)
 rw [entL_append, entC_indep n C s.id x] at this
 exact this
theorem locate_inv {n len w : Nat} {T : TS} {root : Int} {t : Tr} (I : Inv n T root t) (hw : w < 2 ^ n) (hlen : len ≤ n) :
  ∃ (C : List Fm) (s : Tr), t = plug C s ∧ Bits C ∧ RepC T C s.id ∧ Rep T s ∧ WFC n C ∧ WF n (holeP n C) s ∧ (idsC C).Nodup ∧ (ids s).Nodup ∧ (∀ j ∈ ids s, j ∉ idsC C) ∧ FoundF n len w (path n len w t) s C ∧ holeP n C <+: kb n w len := by
 obtain ⟨F, hF, hfound⟩ := locate_spec n len w t []
 have hp := locate_plug n len w (t := t) [] I.rep
 rw [List.append_nil] at hF
 rw [hF] at hp
 generalize hs : (locate n len w t []).2 = s at hp hfound
 have hp : plug F s = t := hp
 have hB : Bits F := fun f hf => by rw [(hfound.2 f hf).1]; exact bitTop_lt _ _ _
 have hR := I.rep
 rw [← hp] at hR
 obtain ⟨h1, h2⟩ := plug_rep hB hR
 have hW := I.wf
 rw [← hp, wf_plug hB] at hW
 have hN := I.nodup
 rw [← hp, (ids_plug F s hB).nodup_iff, List.nodup_append] at hN
 refine ⟨F, s, hp.symm, hB, h1, h2, hW.1, hW.2, hN.1, hN.2.1, fun j hj hj2 => hN.2.2 j hj2 j hj rfl, hfound, ?_⟩
 cases F with
 | nil => exact List.nil_prefix
 | cons f C =>
  obtain ⟨hb, hsh, hne⟩ := hfound.2 f (.head _)
  show K n f.a ++ [f.b] <+: _
  have hcut := hW.1.2.1
  have hk : K n f.a <+: kb n w len := by
   false_or_by_contra
   rename_i h
   exact hsh ((shared_iff hcut.2.1 hw hcut.1 hlen).mpr h)
  have hl := hk.length_le
  rw [K_len, kb_len] at hl
  rw [hb]
  exact prefix_next hk (by lia)
structure IsNew (n len w : Nat) (slot : Int) (a : Nd) : Prop where
 hl : a.len = len
 hw : a.w = cutB w len n
 hs : a.slot = slot
 h0 : a.c0 = -1
 h1 : a.c1 = -1
theorem IsNew.K {n len w : Nat} {slot : Int} {a : Nd} (h : IsNew n len w slot a) (hl : len ≤ n) : K n a = kb n w len := by unfold Mine.K; rw [h.hw, h.hl]; exact kb_cut hl
theorem IsNew.cut {n len w : Nat} {slot : Int} {a : Nd} (h : IsNew n len w slot a) (hl : len ≤ n) (hw : w < 2 ^ n) : Cut n a := ⟨by rw [h.hl]; exact hl, by rw [h.hw]; exact cutB_lt hw, by rw [h.hw, h.hl]; exact cut_cut.symm⟩
theorem put_inv {n : Nat} {T T1 : TS} {root x : Int} {C : List Fm} {s s' : Tr} {more : List Int} (I : Inv n T root (plug C s)) (hB : Bits C) (hC : RepC T1 C x) (hWC : WFC n C) (hWs : WF n (holeP n C) s') (hRs : Rep T1 s') (hF : FreeOK T1)
  (hk : (keysT T1).Perm (keysT T ++ more)) (hids : (ids s').Perm (more ++ ids s)) :
  Inv n (hangT T1 root (parC C) (sideC C) s'.id).1 (hangT T1 root (parC C) (sideC C) s'.id).2 (plug C s') := by
 have hN := I.nodup
 rw [(ids_plug C s hB).nodup_iff, List.nodup_append] at hN
 have hperm : (keysT T1).Perm (idsC C ++ ids s') := by
  refine hk.trans ((List.Perm.append_right _ (I.idp.trans (ids_plug C s hB))).trans ?_)
  rw [List.append_assoc]
  refine List.Perm.append_left _ (List.perm_append_comm.trans hids.symm)
 have hN1 := hperm.nodup_iff.mp hF.keys
 rw [List.nodup_append] at hN1
 obtain ⟨h1, h2, h3, h4, h5, h6⟩ := hang_ok (s := s) hF.keys hC hN.1 hRs (fun j hj hj2 => hN1.2.2 j hj2 j hj rfl) I.rid
 exact ⟨h1, h2, (wf_plug hB).mpr ⟨hWC, hWs⟩, by rw [h3]; exact hperm.trans (ids_plug C s' hB).symm, h4 hF⟩
theorem lt_new {T : TS} (hF : FreeOK T) {j : Int} (hj : j ∈ keysT T) : j ≠ newId T := fun e => hF.fresh.1 (e ▸ hj)
theorem ins_leaf {n len w : Nat} {T : TS} {root slot : Int} {C : List Fm} {am : Nd} (I : Inv n T root (plug C .nil)) (hB : Bits C) (hC : RepC T C (-1)) (hWC : WFC n C) (hk : holeP n C <+: kb n w len) (hw : w < 2 ^ n) (hlen : len ≤ n) (ha : IsNew n len w slot am) :
  Inv n (hangT (newT T am) root (parC C) (sideC C) (newId T)).1 (hangT (newT T am) root (parC C) (sideC C) (newId T)).2 (plug C (.nd (newId T) am .nil .nil)) := by
 have hF := I.free
 have hids : ∀ j ∈ idsC C, j ∈ keysT T := fun j hj => I.idp.mem_iff.mpr ((ids_plug C .nil hB).mem_iff.mpr (List.mem_append_left _ hj))
 refine put_inv (s' := .nd (newId T) am .nil .nil) (more := [newId T]) I hB (repC_congr hC fun j hj => ?_) hWC ⟨(ha.K hlen).symm ▸ hk, ha.cut hlen hw, trivial, trivial⟩ ⟨hF.fresh.2, (getN_newT hF _ _).trans (if_pos rfl), ha.h0, ha.h1, trivial, trivial⟩ (hF.newT am) (by rw [keys_newT]) (List.Perm.refl _)
 rw [getN_newT hF, if_neg (lt_new hF (hids j hj))]
theorem ins_over {n len w : Nat} {T : TS} {root slot : Int} {C : List Fm} {ib : Int} {ab : Nd} {lb rb : Tr} {am : Nd} (I : Inv n T root (plug C (.nd ib ab lb rb))) (hB : Bits C) (hC : RepC T C ib) (hs : Rep T (.nd ib ab lb rb)) (hWC : WFC n C) (hWs : WF n (holeP n C) (.nd ib ab lb rb)) (hk : holeP n C <+: kb n w len) (hw : w < 2 ^ n) (hlen : len ≤ n)
  (ha : IsNew n len w slot am) (hoff : sharedLen n ab.w w (min ab.len len) < ab.len) (hcom : sharedLen n ab.w w (min ab.len len) = len) :
  Inv n (hangT (setN (newT T am) (newId T) (setC am (bitTop ab.w len n) ib)) root (parC C) (sideC C) (newId T)).1 (hangT (setN (newT T am) (newId T) (setC am (bitTop ab.w len n) ib)) root (parC C) (sideC C) (newId T)).2
   (plug C (Fm.tr ⟨newId T, am, bitTop ab.w len n, .nil⟩ (.nd ib ab lb rb))) := by
 have hF := I.free
 have hids : ∀ j ∈ idsC C ++ ids (.nd ib ab lb rb), j ∈ keysT T := fun j hj => I.idp.mem_iff.mpr ((ids_plug C _ hB).mem_iff.mpr hj)
 have hb := bitTop_lt ab.w len n
 have hcut : Cut n ab := hWs.2.1
 have hgm : getN (newT T am) (newId T) = some am := (getN_newT hF _ _).trans (if_pos rfl)
 have hF1 := hF.newT am
 have q : ∀ j ∈ keysT T, getN (setN (newT T am) (newId T) (setC am (bitTop ab.w len n) ib)) j = getN T j := fun j hj => by
  rw [getN_setN' hF1.keys hgm, if_neg (lt_new hF hj), getN_newT hF, if_neg (lt_new hF hj)]
 have hmn : kb n w len <+: kb n ab.w ab.len := by
  rw [kb_prefix_iff]
  refine ⟨by lia, fun i hi => ?_⟩
  exact (shared_same (m := min ab.len len) (by lia)).symm
 have hmn2 : kb n w len ++ [bitTop ab.w len n] <+: K n ab := by
  have h := prefix_next (n := n) (w := ab.w) (len := ab.len) (a := am) (by rw [ha.K hlen]; exact hmn) (by rw [ha.hl]; lia)
  rw [ha.K hlen, ha.hl] at h
  exact h
 have hid := Fm.tr_id ⟨newId T, am, bitTop ab.w len n, .nil⟩ (.nd ib ab lb rb)
 have := put_inv (s' := Fm.tr ⟨newId T, am, bitTop ab.w len n, .nil⟩ (.nd ib ab lb rb)) (more := [newId T]) I hB (repC_congr hC fun j hj => q j (hids j (List.mem_append_left _ hj))) hWC ?_ ?_ (hF1.setN (newId T) (setC am (bitTop ab.w len n) ib)) (by rw [keys_setN, keys_newT]) ?_
 ·rw [hid] at this; exact this
 ·have hWm : WF n (K n am ++ [bitTop ab.w len n]) (.nd ib ab lb rb) := ⟨by rw [ha.K hlen]; exact hmn2, hWs.2⟩
  unfold Fm.tr
  rcases b01 hb with h0 | h0
  ·rw [h0] at hWm ⊢
   rw [if_pos rfl]
   refine ⟨by rw [K_setC, ha.K hlen]; exact hk, Cut_setC.mpr (ha.cut hlen hw), by rw [K_setC]; exact hWm, trivial⟩
  ·rw [h0] at hWm ⊢
   rw [if_neg Nat.one_ne_zero]
   refine ⟨by rw [K_setC, ha.K hlen]; exact hk, Cut_setC.mpr (ha.cut hlen hw), trivial, by rw [K_setC]; exact hWm⟩
 ·refine tr_rep hb hF.fresh.2 ((getN_setN' hF1.keys hgm _).trans (if_pos rfl)) ?_ trivial (rep_congr hs fun j hj => q j (hids j (List.mem_append_right _ hj)))
  show child am _ = -1
  unfold child
  split
  ·exact ha.h0
  ·exact ha.h1
 ·have := (pre_tr ⟨newId T, am, bitTop ab.w len n, .nil⟩ (.nd ib ab lb rb) hb).map (·.1)
  exact this
theorem ins_fork {n len w : Nat} {T : TS} {root slot : Int} {C : List Fm} {ib : Int} {ab : Nd} {lb rb : Tr} {am af : Nd} {co : Nat} (I : Inv n T root (plug C (.nd ib ab lb rb))) (hB : Bits C) (hC : RepC T C ib) (hs : Rep T (.nd ib ab lb rb)) (hWC : WFC n C) (hWs : WF n (holeP n C) (.nd ib ab lb rb)) (hk : holeP n C <+: kb n w len) (hw : w < 2 ^ n) (hlen : len ≤ n)
  (ha : IsNew n len w slot am) (hoff : sharedLen n ab.w w (min ab.len len) < ab.len) (hcom : sharedLen n ab.w w (min ab.len len) ≠ len) (hco : co = sharedLen n ab.w w (min ab.len len)) (hf : IsNew n co w (-1) af) :
  Inv n (hangT (setN (setN (newT (newT T am) af) (newId (newT T am)) (setC af (bitTop w co n) (newId T))) (newId (newT T am)) (setC (setC af (bitTop w co n) (newId T)) (1 - bitTop w co n) ib)) root (parC C) (sideC C) (newId (newT T am))).1
   (hangT (setN (setN (newT (newT T am) af) (newId (newT T am)) (setC af (bitTop w co n) (newId T))) (newId (newT T am)) (setC (setC af (bitTop w co n) (newId T)) (1 - bitTop w co n) ib)) root (parC C) (sideC C) (newId (newT T am))).2
   (plug C (Fm.tr ⟨newId (newT T am), setC af (1 - bitTop w co n) ib, bitTop w co n, .nd ib ab lb rb⟩ (.nd (newId T) am .nil .nil))) := by
 have hF := I.free
 have hids : ∀ j ∈ idsC C ++ ids (.nd ib ab lb rb), j ∈ keysT T := fun j hj => I.idp.mem_iff.mpr ((ids_plug C _ hB).mem_iff.mpr hj)
 have hb := bitTop_lt w co n
 have hcut : Cut n ab := hWs.2.1
 have hF1 := hF.newT am
 have hF2 := hF1.newT af
 have hgf : getN (newT (newT T am) af) (newId (newT T am)) = some af := (getN_newT hF1 _ _).trans (if_pos rfl)
 have hgf2 : getN (setN (newT (newT T am) af) (newId (newT T am)) (setC af (bitTop w co n) (newId T))) (newId (newT T am)) = some (setC af (bitTop w co n) (newId T)) := (getN_setN' hF2.keys hgf _).trans (if_pos rfl)
 have hmf : newId T ∈ keysT (newT T am) := by rw [keys_newT]; simp
 have hup : ∀ j ∈ keysT T, j ∈ keysT (newT T am) := fun j hj => by rw [keys_newT]; exact List.mem_append_left _ hj
 have q1 : ∀ j ∈ keysT (newT T am), getN (setN (setN (newT (newT T am) af) (newId (newT T am)) (setC af (bitTop w co n) (newId T))) (newId (newT T am)) (setC (setC af (bitTop w co n) (newId T)) (1 - bitTop w co n) ib)) j = getN (newT T am) j := fun j hj => by
  rw [getN_setN' (hF2.setN _ _).keys hgf2, if_neg (lt_new hF1 hj), getN_setN' hF2.keys hgf, if_neg (lt_new hF1 hj), getN_newT hF1, if_neg (lt_new hF1 hj)]
 have q : ∀ j ∈ keysT T, getN (setN (setN (newT (newT T am) af) (newId (newT T am)) (setC af (bitTop w co n) (newId T))) (newId (newT T am)) (setC (setC af (bitTop w co n) (newId T)) (1 - bitTop w co n) ib)) j = getN T j := fun j hj => by
  rw [q1 j (hup j hj), getN_newT hF, if_neg (lt_new hF hj)]
 have hcl : co ≤ min ab.len len := by rw [hco]; unfold sharedLen; lia
 have hc1 : co < len := by lia
 have hc2 : co < ab.len := by lia
 have hcn : co ≤ n := by lia
 have hsw : kb n w co <+: kb n w len := kb_prefix (by lia) fun _ _ => rfl
 have hsa : kb n w co <+: kb n ab.w ab.len := kb_prefix (by lia) fun i hi => (shared_same (m := min ab.len len) (by lia)).symm
 have hKf : K n af = kb n w co := hf.K hcn
 have e1 : kb n w co ++ [bitTop w co n] <+: kb n w len := by
  have h := prefix_next (n := n) (w := w) (len := len) (a := af) (by rw [hKf]; exact hsw) (by rw [hf.hl]; lia)
  rwa [hKf, hf.hl] at h
 have e2 : kb n w co ++ [bitTop ab.w co n] <+: K n ab := by
  have h := prefix_next (n := n) (w := ab.w) (len := ab.len) (a := af) (by rw [hKf]; exact hsa) (by rw [hf.hl]; lia)
  rwa [hKf, hf.hl] at h
 have hdiff : bitTop ab.w co n ≠ bitTop w co n := by
  have := shared_diff (m := min ab.len len) hcut.2.1 hw (by lia) (by lia)
  rwa [← hco] at this
 have hbo : bitTop ab.w co n = 1 - bitTop w co n := by have := bitTop_lt ab.w co n; lia
 rw [hbo] at e2
 have hhole : holeP n C <+: kb n w co := by
  refine List.prefix_of_prefix_length_le hk hsw ?_
  rw [kb_len]
  have h1 : (holeP n C).length ≤ co := by
   cases C with
   | nil => exact Nat.zero_le _
   | cons f C =>
    false_or_by_contra
    rename_i h
    have p1 := hWs.1
    have hl1 := p1.length_le
    rw [K_len] at hl1
    have hl2 := hk.length_le
    rw [kb_len] at hl2
    have g1 : (holeP n (f :: C))[co]? = some (bitTop ab.w co n) := by
     obtain ⟨t, e⟩ := p1
     have h1 : (holeP n (f :: C) ++ t)[co]? = (K n ab)[co]? := by rw [e]
     rw [List.getElem?_append_left (by lia)] at h1
     rw [h1]; exact kb_get hc2
    have g2 : (holeP n (f :: C))[co]? = some (bitTop w co n) := by
     obtain ⟨t, e⟩ := hk
     have h1 : (holeP n (f :: C) ++ t)[co]? = (kb n w len)[co]? := by rw [e]
     rw [List.getElem?_append_left (by lia)] at h1
     rw [h1]; exact kb_get hc1
    exact hdiff (Option.some.inj (g1.symm.trans g2))
  exact h1
 have hid := Fm.tr_id ⟨newId (newT T am), setC af (1 - bitTop w co n) ib, bitTop w co n, .nd ib ab lb rb⟩ (.nd (newId T) am .nil .nil)
 have hWo : WF n (K n af ++ [1 - bitTop w co n]) (.nd ib ab lb rb) := ⟨by rw [hKf]; exact e2, hWs.2⟩
 have hWm : WF n (K n af ++ [bitTop w co n]) (.nd (newId T) am .nil .nil) := ⟨by rw [hKf, ha.K hlen]; exact e1, ha.cut hlen hw, trivial, trivial⟩
 have := put_inv (s' := Fm.tr ⟨newId (newT T am), setC af (1 - bitTop w co n) ib, bitTop w co n, .nd ib ab lb rb⟩ (.nd (newId T) am .nil .nil)) (more := [newId T] ++ [newId (newT T am)]) I hB (repC_congr hC fun j hj => q j (hids j (List.mem_append_left _ hj))) hWC ?_ ?_ ((hF2.setN _ _).setN (newId (newT T am)) (setC (setC af (bitTop w co n) (newId T)) (1 - bitTop w co n) ib)) (by rw [keys_setN, keys_setN, keys_newT, keys_newT, List.append_assoc]) ?_
 ·rw [hid] at this; exact this
 ·unfold Fm.tr
  rcases b01 hb with h0 | h0
  ·rw [h0] at hWm hWo ⊢
   rw [if_pos rfl]
   refine ⟨by rw [K_setC, K_setC, hKf]; exact hhole, Cut_setC.mpr (Cut_setC.mpr (hf.cut hcn hw)), by rw [K_setC, K_setC]; exact hWm, by rw [K_setC, K_setC]; exact hWo⟩
  ·rw [h0] at hWm hWo ⊢
   rw [if_neg Nat.one_ne_zero]
   refine ⟨by rw [K_setC, K_setC, hKf]; exact hhole, Cut_setC.mpr (Cut_setC.mpr (hf.cut hcn hw)), by rw [K_setC, K_setC]; exact hWo, by rw [K_setC, K_setC]; exact hWm⟩
 ·have hcomm : setC (setC af (bitTop w co n) (newId T)) (1 - bitTop w co n) ib = setC (setC af (1 - bitTop w co n) ib) (bitTop w co n) (newId T) := by
   rcases b01 hb with h0 | h0 <;> rw [h0] <;> rfl
  refine tr_rep hb hF1.fresh.2 (((getN_setN' (hF2.setN _ _).keys hgf2 _).trans (if_pos rfl)).trans (congrArg some hcomm)) ?_ (rep_congr hs fun j hj => q j (hids j (List.mem_append_right _ hj))) ⟨hF.fresh.2, ?_, ha.h0, ha.h1, trivial, trivial⟩
  ·show child (setC af (1 - bitTop w co n) ib) (1 - bitTop w co n) = ib
   rcases b01 hb with h0 | h0 <;> rw [h0] <;> rfl
  ·rw [q1 _ hmf]
   exact (getN_newT hF _ _).trans (if_pos rfl)
 ·have := (pre_tr ⟨newId (newT T am), setC af (1 - bitTop w co n) ib, bitTop w co n, .nd ib ab lb rb⟩ (.nd (newId T) am .nil .nil) hb).map (·.1)
  refine List.Perm.trans this ?_
  show List.Perm (newId (newT T am) :: ((pre (.nd ib ab lb rb) ++ [(newId T, am)]).map (·.1))) (([newId T] ++ [newId (newT T am)]) ++ ids (.nd ib ab lb rb))
  rw [List.map_append]
  refine (List.Perm.cons _ List.perm_append_comm).trans ?_
  exact List.Perm.swap _ _ _
noncomputable def pathC : List Fm → Int → List (Int × Nd)
 | [], _ => []
 | f :: C, id => pathC C f.i ++ [(f.i, setC f.a f.b id)]
theorem pathC_ids : ∀ (C : List Fm) (x : Int), (pathC C x).map (·.1) = C.reverse.map (·.i)
 | [], _ => rfl
 | f :: C, x => by
  show (pathC C f.i ++ [(f.i, setC f.a f.b x)]).map (·.1) = _
  rw [List.map_append, pathC_ids C f.i, List.reverse_cons, List.map_append]; rfl
theorem path_plug {n len w : Nat} : ∀ {C : List Fm} {s : Tr}, (∀ f ∈ C, f.b = bitTop w f.a.len n ∧ ¬ sharedLen n f.a.w w (min f.a.len len) < f.a.len ∧ f.a.len ≠ len) → path n len w (plug C s) = pathC C s.id ++ path n len w s
 | [], s, _ => rfl
 | f :: C, s, h => by
  obtain ⟨hb, h1, h2⟩ := h f (.head _)
  show path n len w (plug C (f.tr s)) = (pathC C f.i ++ [(f.i, setC f.a f.b s.id)]) ++ path n len w s
  rw [path_plug (C := C) (s := f.tr s) fun g hg => h g (.tail _ hg), Fm.tr_id, List.append_assoc]
  congr 1
  have hb2 : f.b < 2 := by rw [hb]; exact bitTop_lt _ _ _
  unfold Fm.tr
  rcases b01 hb2 with h0 | h0
  ·rw [if_pos h0, h0]
   show (if sharedLen n (setC f.a 0 s.id).w w (min (setC f.a 0 s.id).len len) < (setC f.a 0 s.id).len then [] else if (setC f.a 0 s.id).len = len then _ else _ :: (if bitTop w (setC f.a 0 s.id).len n = 0 then path n len w s else path n len w f.o)) = _
   rw [(setC_wl _ _ _).1, (setC_wl _ _ _).2, if_neg h1, if_neg h2, if_pos (by rw [← hb, h0])]
   rfl
  ·rw [if_neg (by lia), h0]
   show (if sharedLen n (setC f.a 1 s.id).w w (min (setC f.a 1 s.id).len len) < (setC f.a 1 s.id).len then [] else if (setC f.a 1 s.id).len = len then _ else _ :: (if bitTop w (setC f.a 1 s.id).len n = 0 then path n len w f.o else path n len w s)) = _
   rw [(setC_wl _ _ _).1, (setC_wl _ _ _).2, if_neg h1, if_neg h2, if_neg (by rw [← hb, h0]; decide)]
   rfl
theorem id_neg {T : TS} {t : Tr} (h : Rep T t) : t.id = -1 ↔ t = .nil := by
 cases t with
 | nil => exact ⟨fun _ => rfl, fun _ => rfl⟩
 | nd i a l r => exact ⟨fun e => by have h0 := h.1; have e : i = -1 := e; lia, fun e => by cases e⟩
theorem id_mem {t : Tr} (h : t.id ≠ -1) : t.id ∈ ids t := by
 cases t with
 | nil => exact absurd rfl h
 | nd i a l r => exact .head _
theorem repC_setC {f : Fm} {i c : Int} (hb : f.b < 2) (ho : child f.a (1 - f.b) ≠ i) : repC (setC f.a f.b i) i c = setC (setC f.a f.b i) f.b c := by
 unfold repC
 rcases b01 hb with h0 | h0
 ·rw [h0]
  have : (setC f.a 0 i).c0 = i := rfl
  rw [if_pos this]
 ·rw [h0]
  rw [h0] at ho
  have : (setC f.a 1 i).c0 ≠ i := ho
  rw [if_neg this]
theorem rd_ok {T : TS} {C : List Fm} {i root : Int} {s ct : Tr} (hF : FreeOK T) (hC : RepC T C i) (hsi : s.id = i) (hd : (idsC C).Nodup) (hi : i ∉ idsC C) (hi0 : 0 ≤ i) (hik : i ∈ keysT T) (hct : Rep T ct) (hict : i ∉ ids ct) (hdis : ∀ j ∈ ids ct, j ∉ idsC C) (hroot : root = (plug C s).id) :
  Rep (dropT (replT T root (parC C) i ct.id).1 i) (plug C ct) ∧ (replT T root (parC C) i ct.id).2 = (plug C ct).id ∧ FreeOK (dropT (replT T root (parC C) i ct.id).1 i) ∧ (keysT (dropT (replT T root (parC C) i ct.id).1 i) ++ [i]).Perm (keysT T) := by
 have key : ∀ T2 : TS, keysT T2 = keysT T → FreeOK T2 → RepC T2 C ct.id → Rep T2 ct → Rep (dropT T2 i) (plug C ct) ∧ FreeOK (dropT T2 i) ∧ (keysT (dropT T2 i) ++ [i]).Perm (keysT T) := by
  intro T2 hk hF2 hC2 hct2
  refine ⟨rep_plug (repC_congr hC2 fun j hj => ?_) (rep_congr hct2 fun j hj => ?_), (hF2.dropT (hk ▸ hik)).1, ?_⟩
  ·rw [getN_dropT, if_neg (fun (e : j = i) => hi (e ▸ hj))]
  ·rw [getN_dropT, if_neg (fun (e : j = i) => hict (e ▸ hj))]
  ·rw [keys_dropT, ← hk]; exact filter_ne_perm hF2.keys (hk ▸ hik)
 cases C with
 | nil =>
  have e : replT T root (parC []) i ct.id = (T, ct.id) := by unfold replT; exact if_pos rfl
  rw [e]
  obtain ⟨h1, h2, h3⟩ := key T rfl hF trivial hct
  exact ⟨h1, rfl, h2, h3⟩
 | cons f C =>
  have h0 : 0 ≤ f.i := hC.1
  have hg : getN T f.i = some (setC f.a f.b i) := hC.2.2.1
  have hfo : child f.a (1 - f.b) ≠ i := by
   rw [hC.2.2.2.1]
   intro e
   refine hi ?_
   have : f.o.id ≠ -1 := by rw [e]; lia
   have := id_mem this
   rw [e] at this
   exact .tail _ (List.mem_append_left _ this)
  have e : replT T root (parC (f :: C)) i ct.id = (setN T f.i (setC (setC f.a f.b i) f.b ct.id), root) := by
   unfold replT
   show (if f.i = -1 then _ else _) = _
   rw [if_neg (by lia)]
   show (match getN T f.i with | some a => (setN T f.i (repC a i ct.id), root) | none => _) = _
   rw [hg]
   show (setN T f.i (repC (setC f.a f.b i) i ct.id), root) = _
   rw [repC_setC hC.2.1 hfo]
  rw [e]
  obtain ⟨h1, h2, h3⟩ := key (setN T f.i (setC (setC f.a f.b i) f.b ct.id)) (keys_setN _ _ _) (hF.setN _ _) (repC_hang hF.keys hC hd) (rep_congr hct fun j hj => by
   rw [getN_setN' hF.keys hg, if_neg]
   intro ej
   exact hdis j hj (by rw [ej]; exact .head _))
  exact ⟨h1, by show root = _; rw [hroot]; exact plug_id _ _ _ (by simp), h2, h3⟩
noncomputable def onlyTr (ah : Nd) (l r : Tr) : Tr := if ah.c0 ≠ -1 then l else r
theorem only_id {T : TS} {i : Int} {ah : Nd} {l r : Tr} (h : Rep T (.nd i ah l r)) : (onlyTr ah l r).id = onlyC ah := by
 obtain ⟨_, _, h0, h1, _, _⟩ := h
 unfold onlyTr
 show _ = if ah.c0 ≠ -1 then ah.c0 else ah.c1
 split
 ·exact h0.symm
 ·exact h1.symm
theorem only_pre {T : TS} {i : Int} {ah : Nd} {l r : Tr} (h : Rep T (.nd i ah l r)) (hcc : ccnt ah < 2) : pre l ++ pre r = pre (onlyTr ah l r) := by
 obtain ⟨_, _, h0, h1, hl, hr⟩ := h
 unfold ccnt at hcc
 unfold onlyTr
 by_cases e0 : ah.c0 = -1
 ·have : l = .nil := (id_neg hl).mp (by rw [← h0]; exact e0)
  rw [if_neg (by simp [e0]), this]; rfl
 ·have e1 : ah.c1 = -1 := by
   rw [if_pos e0] at hcc
   false_or_by_contra
   rename_i h9
   rw [if_pos h9] at hcc
   lia
  have : r = .nil := (id_neg hr).mp (by rw [← h1]; exact e1)
  rw [if_pos e0, this]
  exact List.append_nil _
theorem only_wf {n : Nat} {i : Int} {ah : Nd} {l r : Tr} {p : List Nat} (h : WF n p (.nd i ah l r)) : WF n p (onlyTr ah l r) := by
 obtain ⟨h1, _, h3, h4⟩ := h
 unfold onlyTr
 split
 ·exact h3.mono (h1.trans (List.prefix_append _ _))
 ·exact h4.mono (h1.trans (List.prefix_append _ _))
theorem perm_cancel {α : Type} {l m : List α} {x : α} (h : (l ++ [x]).Perm (m ++ [x])) : l.Perm m := (List.perm_append_right_iff [x]).mp h
theorem del_inv {n : Nat} {T : TS} {root i : Int} {C : List Fm} {ah : Nd} {l r : Tr} (I : Inv n T root (plug C (.nd i ah l r))) (hB : Bits C) (hs : ah.slot = -1) (hcc : ccnt ah < 2) :
  ∃ T' root' t', SplR T root i ah (C.reverse.map (·.i) ++ [i]) T' root' ∧ Inv n T' root' t' ∧ (ents n t').Perm (ents n (plug C (.nd i ah l r))) ∧ T'.used = T.used ∧ T'.vals = T.vals ∧ T'.nodes.length ≤ T.nodes.length ∧ T'.frees.length ≤ T.frees.length + 2 := by
 obtain ⟨hC, hR⟩ := plug_rep hB I.rep
 obtain ⟨hWC, hWs⟩ := (wf_plug hB).mp I.wf
 have hN := I.nodup
 rw [(ids_plug C _ hB).nodup_iff, List.nodup_append] at hN
 obtain ⟨hd, hds, hdis⟩ := hN
 have hi0 : 0 ≤ i := hR.1
 have hgi : getN T i = some ah := hR.2.1
 have hiC : i ∉ idsC C := fun h => hdis i h i (.head _) rfl
 have hik : i ∈ keysT T := I.idp.mem_iff.mpr ((ids_plug C _ hB).mem_iff.mpr (List.mem_append_right _ (.head _)))
 have hpre := only_pre hR hcc
 have hids : ids (.nd i ah l r) = i :: ids (onlyTr ah l r) := by
  show i :: ((pre l ++ pre r).map (·.1)) = _
  rw [hpre]; rfl
 have hct : Rep T (onlyTr ah l r) := by
  unfold onlyTr
  split
  ·exact hR.2.2.2.2.1
  ·exact hR.2.2.2.2.2
 rw [hids, List.nodup_cons] at hds
 have hdc : ∀ j ∈ ids (onlyTr ah l r), j ∉ idsC C := fun j hj hj2 => hdis j hj2 j (by rw [hids]; exact .tail _ hj) rfl
 obtain ⟨g1, g2, g3, g4⟩ := rd_ok (s := .nd i ah l r) I.free hC rfl hd hiC hi0 hik hct hds.1 hdc I.rid
 have hW1 : WF n [] (plug C (onlyTr ah l r)) := (wf_plug hB).mpr ⟨hWC, only_wf hWs⟩
 have hperm : (keysT (dropT (replT T root (parC C) i (onlyTr ah l r).id).1 i)).Perm (ids (plug C (onlyTr ah l r))) := by
  refine List.Perm.trans ?_ (ids_plug C _ hB).symm
  refine perm_cancel (g4.trans (I.idp.trans ((ids_plug C _ hB).trans ?_)))
  rw [hids, List.append_assoc]
  exact List.Perm.append_left _ (List.perm_append_comm (l₁ := [i]))
 have I1 : Inv n (dropT (replT T root (parC C) i (onlyTr ah l r).id).1 i) (replT T root (parC C) i (onlyTr ah l r).id).2 (plug C (onlyTr ah l r)) := ⟨g1, g2, hW1, hperm, g3⟩
 have hent : (ents n (plug C (onlyTr ah l r))).Perm (ents n (plug C (.nd i ah l r))) := by
  refine (ents_plug n C _ hB 0).trans (List.Perm.trans ?_ (ents_plug n C _ hB 0).symm)
  refine List.Perm.append_left _ ?_
  show (entL n (pre (onlyTr ah l r))).Perm (entL n ((i, ah) :: (pre l ++ pre r)))
  rw [entL_cons, if_pos hs, hpre]
  exact List.Perm.refl _
 rw [only_id hR] at I1 g4
 cases C with
 | nil =>
  have e : replT T root (parC []) i (onlyC ah) = (T, onlyC ah) := by unfold replT; exact if_pos rfl
  rw [e] at I1
  dsimp only at I1
  obtain ⟨_, f1, f2⟩ := I.free.dropT hik
  exact ⟨_, _, _, .one, I1, hent, rfl, rfl, by lia, by rw [f1]; lia⟩
 | cons f C =>
  have hf0 : 0 ≤ f.i := hC.1
  have hgf : getN T f.i = some (setC f.a f.b i) := hC.2.2.1
  have hfi : f.i ≠ i := fun e => hiC (by rw [← e]; exact .head _)
  have e : replT T root (parC (f :: C)) i (onlyC ah) = (setN T f.i (repC (setC f.a f.b i) i (onlyC ah)), root) := by
   unfold replT
   show (if f.i = -1 then _ else _) = _
   rw [if_neg (by lia)]
   show (match getN T f.i with | some a => (setN T f.i (repC a i (onlyC ah)), root) | none => _) = _
   rw [hgf]
  rw [e] at I1
  dsimp only at I1
  have hFs := I.free.setN f.i (repC (setC f.a f.b i) i (onlyC ah))
  obtain ⟨_, f1, f2⟩ := hFs.dropT (i := i) (by rw [keys_setN]; exact hik)
  have l1 : (setN T f.i (repC (setC f.a f.b i) i (onlyC ah))).nodes.length = T.nodes.length := by simp [setN]
  have l2 : (setN T f.i (repC (setC f.a f.b i) i (onlyC ah))).frees = T.frees := rfl
  by_cases hcond : onlyC ah = -1 ∧ (setC f.a f.b i).slot = -1
  ·
   have hnil : onlyTr ah l r = .nil := (id_neg hct).mp (by rw [only_id hR]; exact hcond.1)
   rw [hnil] at I1 hent
   have hBC : Bits C := fun g hg => hB g (.tail _ hg)
   obtain ⟨hC1, _⟩ := plug_rep hB I1.rep
   have hCc : RepC (dropT (setN T f.i (repC (setC f.a f.b i) i (onlyC ah))) i) C f.i := hC1.2.2.2.2.2
   have hfo : Rep (dropT (setN T f.i (repC (setC f.a f.b i) i (onlyC ah))) i) f.o := hC1.2.2.2.2.1
   have hd' : (f.i :: (ids f.o ++ idsC C)).Nodup := hd
   rw [List.nodup_cons, List.nodup_append, List.mem_append, not_or] at hd'
   obtain ⟨⟨hn1, hn2⟩, hn3, hn4, hn5⟩ := hd'
   have hfk : f.i ∈ keysT (dropT (setN T f.i (repC (setC f.a f.b i) i (onlyC ah))) i) := I1.idp.mem_iff.mpr ((ids_plug (f :: C) .nil hB).mem_iff.mpr (List.mem_append_left _ (.head _)))
   obtain ⟨k1, k2, k3, k4⟩ := rd_ok (s := f.tr .nil) (root := root) I1.free hCc (Fm.tr_id _ _) hn4 hn2 hf0 hfk hfo hn1 (fun j hj hj2 => hn5 j hj j hj2 rfl) I1.rid
   have hon : onlyC (repC (setC f.a f.b i) i (onlyC ah)) = f.o.id := by
    have hfo2 : child f.a (1 - f.b) ≠ i := by
     rw [hC.2.2.2.1]
     intro e
     refine hiC ?_
     have : f.o.id ≠ -1 := by rw [e]; lia
     have := id_mem this
     rw [e] at this
     exact .tail _ (List.mem_append_left _ this)
    rw [repC_setC hC.2.1 hfo2, setC_setC, hcond.1, ← hC.2.2.2.1]
    rcases b01 hC.2.1 with h0 | h0
    ·rw [h0]; show (if (-1 : Int) ≠ -1 then (-1 : Int) else f.a.c1) = f.a.c1; exact if_neg (by simp)
    ·rw [h0]; show (if f.a.c0 ≠ -1 then f.a.c0 else (-1 : Int)) = f.a.c0
     split
     ·rfl
     ·rename_i h9; exact (Classical.not_not.mp h9).symm
   have hW2 : WF n [] (plug C f.o) := (wf_plug hBC).mpr ⟨hWC.2.2.2, hWC.2.2.1.mono (hWC.1.trans (List.prefix_append _ _))⟩
   have hperm2 : (keysT (dropT (replT (dropT (setN T f.i (repC (setC f.a f.b i) i (onlyC ah))) i) root (parC C) f.i f.o.id).1 f.i)).Perm (ids (plug C f.o)) := by
    refine List.Perm.trans ?_ (ids_plug C _ hBC).symm
    refine perm_cancel (k4.trans (I1.idp.trans ((ids_plug (f :: C) .nil hB).trans ?_)))
    show ((f.i :: (ids f.o ++ idsC C)) ++ []).Perm ((idsC C ++ ids f.o) ++ [f.i])
    rw [List.append_nil]
    exact (List.Perm.cons _ List.perm_append_comm).trans (List.perm_append_comm (l₁ := [f.i]))
   have hent2 : (ents n (plug C f.o)).Perm (ents n (plug (f :: C) (.nd i ah l r))) := by
    refine List.Perm.trans ?_ hent
    refine (ents_plug n C _ hBC f.i).trans (List.Perm.trans ?_ (ents_plug n (f :: C) _ hB 0).symm)
    show (entL n (preC C f.i) ++ entL n (pre f.o)).Perm (entL n ((f.i, setC f.a f.b 0) :: (pre f.o ++ preC C f.i)) ++ [])
    rw [entL_cons, if_pos (by rw [setC_slot, ← setC_slot f.a f.b i]; exact hcond.2), List.append_nil, List.nil_append, entL_append]
    exact List.perm_append_comm
   cases C with
   | nil =>
    have e2 : replT (dropT (setN T f.i (repC (setC f.a f.b i) i (onlyC ah))) i) root (parC []) f.i f.o.id = (dropT (setN T f.i (repC (setC f.a f.b i) i (onlyC ah))) i, f.o.id) := by unfold replT; exact if_pos rfl
    rw [e2] at k1 k2 k3 hperm2
    dsimp only at k1 k2 k3 hperm2
    obtain ⟨_, m1, m2⟩ := I1.free.dropT hfk
    have S : SplR T root i ah (([] : List Fm).reverse.map (·.i) ++ [f.i] ++ [i]) _ _ := SplR.three f.i (setC f.a f.b i) hf0 hgf hfi hcond.1 hcond.2
    rw [hon] at S
    exact ⟨_, _, _, S, ⟨k1, k2, hW2, hperm2, k3⟩, hent2, rfl, rfl, by lia, by rw [m1, f1, l2]; lia⟩
   | cons g C =>
    have hg0 : 0 ≤ g.i := hCc.1
    have hgg : getN (dropT (setN T f.i (repC (setC f.a f.b i) i (onlyC ah))) i) g.i = some (setC g.a g.b f.i) := hCc.2.2.1
    have hgi' : g.i ≠ i := fun e => hiC (by rw [← e]; exact .tail _ (List.mem_append_right _ (.head _)))
    have hgf' : g.i ≠ f.i := fun e => hn2 (by rw [← e]; exact .head _)
    have hgT : getN T g.i = some (setC g.a g.b f.i) := hC.2.2.2.2.2.2.2.1
    have e2 : replT (dropT (setN T f.i (repC (setC f.a f.b i) i (onlyC ah))) i) root (parC (g :: C)) f.i f.o.id = (setN (dropT (setN T f.i (repC (setC f.a f.b i) i (onlyC ah))) i) g.i (repC (setC g.a g.b f.i) f.i f.o.id), root) := by
     unfold replT
     show (if g.i = -1 then _ else _) = _
     rw [if_neg (by lia)]
     show (match getN (dropT (setN T f.i (repC (setC f.a f.b i) i (onlyC ah))) i) g.i with | some a => (setN _ g.i (repC a f.i f.o.id), root) | none => _) = _
     rw [hgg]
    rw [e2] at k1 k2 k3 hperm2
    dsimp only at k1 k2 k3 hperm2
    obtain ⟨_, m1, m2⟩ := (I1.free.setN g.i (repC (setC g.a g.b f.i) f.i f.o.id)).dropT (i := f.i) (by rw [keys_setN]; exact hfk)
    have l3 : (setN (dropT (setN T f.i (repC (setC f.a f.b i) i (onlyC ah))) i) g.i (repC (setC g.a g.b f.i) f.i f.o.id)).nodes.length = (dropT (setN T f.i (repC (setC f.a f.b i) i (onlyC ah))) i).nodes.length := by simp [setN]
    have l4 : (setN (dropT (setN T f.i (repC (setC f.a f.b i) i (onlyC ah))) i) g.i (repC (setC g.a g.b f.i) f.i f.o.id)).frees = (dropT (setN T f.i (repC (setC f.a f.b i) i (onlyC ah))) i).frees := rfl
    have S : SplR T root i ah (C.reverse.map (·.i) ++ [g.i] ++ [f.i] ++ [i]) _ _ := SplR.four (C.reverse.map (·.i)) f.i g.i (setC f.a f.b i) (setC g.a g.b f.i) hf0 hg0 hgf hgT hfi hgi' hgf' hcond.1 hcond.2
    rw [hon] at S
    refine ⟨_, _, _, ?_, ⟨k1, k2, hW2, hperm2, k3⟩, hent2, rfl, rfl, ?_, ?_⟩
    rotate_left 1
    ·show (dropT _ f.i).nodes.length ≤ _; lia
    ·rw [m1, l4, f1, l2]; lia
    have ew : (f :: g :: C).reverse.map (·.i) ++ [i] = C.reverse.map (·.i) ++ [g.i] ++ [f.i] ++ [i] := by simp
    rw [ew]; exact S
  ·have ew : (f :: C).reverse.map (·.i) ++ [i] = C.reverse.map (·.i) ++ [f.i] ++ [i] := by simp
   refine ⟨_, _, _, ?_, I1, hent, rfl, rfl, by lia, by rw [f1, l2]; lia⟩
   rw [ew]
   exact SplR.two _ _ _ hf0 hgf hfi hcond
section
variable {w : World} {Ar : Around} {E : Value → Shared → Prop} {s : Shared} {g : Heap} {L : Addr} {m : Str → Option Value} {news news' : Led} {l : Addr} {x y v : Value} {e : Nat} {value slice : PySem.Expr} {t u : Tok}
theorem two_set0 {Q : Unit → Shared → Prop} (F : Fr g L s.heap m) (N : News g L s.heap news) (U : Upd l (listOf #[x, y] e) (listOf #[v, y] e) news news')
  (h : ∀ h', Fr g L h' m → News g L h' news' → Q () { s with heap := h' }) : wpAny (model PR w) Ar (setItem (.ref l) (.int 0 t) v) Q E s :=
 ki_set (its := #[x, y]) (q := [v, y]) F N (by lia) (by lia) rfl U h
theorem two_set1 {Q : Unit → Shared → Prop} (F : Fr g L s.heap m) (N : News g L s.heap news) (U : Upd l (listOf #[x, y] e) (listOf #[x, v] e) news news')
  (h : ∀ h', Fr g L h' m → News g L h' news' → Q () { s with heap := h' }) : wpAny (model PR w) Ar (setItem (.ref l) (.int 1 t) v) Q E s :=
 ki_set (its := #[x, y]) (q := [x, v]) F N (by lia) (by lia) rfl U h
theorem divmod9 {a b : Int} {Q : Value → Shared → Prop} (F : Fr g L s.heap m) (N : News g L s.heap news) (hb : 1 ≤ b ∧ b ≤ 256)
  (h : ∀ d h' t1 t2 tk, Fr g L h' m → News g L h' ((d, { cls := .type "tuple", data := .seq #[.int (a.fdiv b) t1, .int (a.fmod b) t2] }) :: news) → (∀ p ∈ news, p.1 < d) → Q (.ref d) { s with toks := tk, heap := h' }) :
  wpAny (model PR w) Ar (call (.builtin "divmod") [.int a t, .int b u]) Q E s :=
 divmod_N F N (by lia) (fun h' F' N' => h _ h' _ _ _ F' N' fun p hp => Heap.lt_size (N p hp).1) (.inl (PyProof.noPylong_small (by lia)))
end
theorem grain_end {x many : Int} (hx : 0 ≤ x ∧ x < 2 ^ 420) (hm : 1 ≤ many ∧ many ≤ 256) : 0 ≤ x.fmod many ∧ x.fmod many < many ∧ 0 ≤ x.fdiv many ∧ x.fdiv many < 2 ^ 420 := by
 rw [Int.fmod_eq_emod_of_nonneg _ (by lia), Int.fdiv_eq_ediv_of_nonneg _ (by lia)]
 refine ⟨Int.emod_nonneg _ (by lia), Int.emod_lt_of_pos _ (by lia), Int.ediv_nonneg hx.1 (by lia), ?_⟩
 exact Int.lt_of_le_of_lt (Int.ediv_le_self _ hx.1) hx.2
theorem grain_new {c : Int} (hc : 0 ≤ c ∧ c ≤ 1000) : 0 ≤ 7 * (c + 1) * (c + 1) + 30011 ∧ 7 * (c + 1) * (c + 1) + 30011 ≤ 2 ^ 23 := by
 have h1 : 0 ≤ 7 * (c + 1) * (c + 1) := Int.mul_nonneg (by lia) (by lia)
 have h2 : 7 * (c + 1) * (c + 1) ≤ 7007 * 1001 := Int.mul_le_mul (by lia) (by lia) (by lia) (by lia)
 constructor
 ·lia
 ·have : (2 : Int) ^ 23 = 8388608 := by decide
  lia
theorem grain_pow {x : Int} (h : 0 ≤ x ∧ x ≤ 2 ^ 23) : 0 ≤ x ^ Int.toNat 9 ∧ x ^ Int.toNat 9 < 2 ^ 420 := by
 refine ⟨Int.pow_nonneg h.1, ?_⟩
 have h1 : x ^ 9 ≤ (2 ^ 23) ^ 9 := by
  obtain ⟨n, rfl⟩ := Int.eq_ofNat_of_zero_le h.1
  have h2 : n ≤ 2 ^ 23 := by have := h.2; lia
  have h3 := Nat.pow_le_pow_left h2 9
  have : ((n ^ 9 : Nat) : Int) ≤ (((2 ^ 23) ^ 9 : Nat) : Int) := Int.ofNat_le.mpr h3
  simpa using this
 have h2 : ((2 : Int) ^ 23) ^ 9 < 2 ^ 420 := by decide +kernel
 exact Int.lt_of_le_of_lt h1 h2
structure JS where
 g : Int
 c : Int
 tg : Tok
 tc : Tok
 e : Nat
noncomputable abbrev jobj (j : JS) : Obj := listOf #[.int j.g j.tg, .int j.c j.tc] j.e
noncomputable def JOK (K : Int) (j : JS) : Prop := (0 ≤ j.g ∧ j.g < 2 ^ 420) ∧ 0 ≤ j.c ∧ j.c ≤ K
theorem JOK.le {K K' : Int} {j : JS} (h : JOK K j) (hk : K ≤ K') : JOK K' j := ⟨h.1, h.2.1, Int.le_trans h.2.2 hk⟩
inductive GrainR (jr : Addr) (many K : Int) : Value → Led → Prop
 | mk (r : Int) (t : Tok) (j : JS) (h0 : 0 ≤ r) (h1 : r < many) (hj : JOK K j) : GrainR jr many K (.int r t) [(jr, jobj j)]
section
variable {d : Df} {c : Cx} {l : Fs} {N : Led} {K : KE}
theorem assign_Sub {M : Model} {A : Around} {E : Value → Shared → Prop} {s : Shared} {env : Env} {o i : PySem.Expr} {pos : Pos} {v : Value} {Q : Unit → Shared → Prop}
  (h : wpAny M A (eval o env) (fun ov s₁ => wpAny M A (eval i env) (fun iv s₂ => wpAny M A (setItem ov iv v) Q E s₂) E s₁) E s) : wpAny M A (assign (.Subscript o i pos) env v) Q E s := by
 rw [assign_Subscript]
 exact wpAny_bind (wpAny_holding (wpAny_mono h (fun ov s₁ h₁ => wpAny_bind (wpAny_holding (wpAny_mono h₁ (fun iv s₂ h₂ => wpAny_bind (wpAny_standAt (wpAny_bind (wpAny_holding (wpAny_mono h₂ (fun _ s₃ h₃ => wpAny_release' h₃) fun _ _ x => x))))) fun _ _ x => x))) fun _ _ x => x))
theorem Bk.tupSN {o i value : PySem.Expr} {x : Str} {p p2 tpos pos : Pos} {k : Nat} {rest : List Stmt} {R : KS}
  (h : vc d c 30 (.E l N value fun sh N1 => ∃ r a b N2, sh = .v (.ref r) ∧ (r, tupO [a, b]) ∈ N1 ∧ (∀ p ∈ N2, p ∈ N1) ∧ vc d c 30 (.E l N2 o fun y N3 => vc d c 30 (.E l N3 i fun z N4 => SetIS d c l y z (Sh.of a) N4 fun N5 => Bk d c (up x (Sh.of b) l) N5 rest R))))
  (hk : autoParam ((cE d c).kindOf x = some .local) name_B._auto_3) (hs : autoParam (swapsWithSole [.Tuple [.Subscript o i p, .Name x p2] k tpos] value pos.line (cE d c) = pure false) name_B._auto_3) (hw : autoParam (swappedStores [.Tuple [.Subscript o i p, .Name x p2] k tpos] value (cE d c) = pure none) name_B._auto_3) (ht : autoParam (d.top = true) name_B._auto_3) :
  Bk d c l N (.Assign [.Tuple [.Subscript o i p, .Name x p2] k tpos] value pos :: rest) R := fun s hS => by
 refine wpAny_execs_cons (Assign_Tuple (vc_sound 30 _ h s _ hS ?_) hs hw)
 rintro v sh N1 s1 ⟨t, rfl⟩ ⟨r, a, b, N2, rfl, hm, hsub, h1⟩ hS1
 obtain ⟨ok, ⟨hp, tk, rfl⟩, ⟨m, F, H⟩, hN⟩ := hS1
 refine unpackN_ F hN (News.isTup hN hm) rfl rfl rfl fun h2 F2 N2' => ?_
 obtain ⟨ta, ha⟩ := Sh.of_val a
 show wpAny _ _ (assignInOrder [assign (.Subscript o i p) (cE d c), assign (.Name x p2) (cE d c)] [a, b]) _ _ _
 refine assignInOrder_cons (assign_Sub (vc_sound 30 _ h1 _ _ ⟨ok, ⟨_, _, rfl⟩, ⟨m, F2, H⟩, fun p hp => N2' p (hsub p hp)⟩ ?_))
 rintro _ y N3 s3 ⟨t3, rfl⟩ h3 hS3
 refine vc_sound 30 _ h3 s3 _ hS3 ?_
 rintro _ z N4 s4 ⟨t4, rfl⟩ h4 hS4
 rw [ha]
 refine h4 t3 t4 ta s4 _ hS4 fun N5 s5 h5 hS5 => ?_
 exact assignInOrder_cons (assign_Name (store9 hS5 (Sh.of_val b) hk ht fun s' hS' => assignInOrder_nil (h5 s' hS')))
theorem ItemS.at {ie : PySem.Expr} {r : Addr} {its : List Value} {n : Nat} {k : Int} {v : Value} (hm : (r, listOf its.toArray n) ∈ N) (h0 : 0 ≤ k) (h1 : k < 2 ^ 62) (hv : its[k.toNat]? = some v) (h : K (Sh.of v) N)
  (hs : autoParam (∀ u, subscripted ie false (.ref r) (.int k u) = operate [.ref r, (.int k u)] (getItem (.ref r) (.int k u))) kim_tup._auto_3) : ItemS d c l ie (.v (.ref r)) (.i k) N K := fun t u s Q hS hQ => by
 have hl := News.isList hS.news hm
 exact tail_any hl.typeIs slot_list_getitem.lookup (wpAny_getItem_list hl h0 (by lia) (x := v) (by simpa using hv) (hQ _ _ _ _ (Sh.of_val v) h hS)) (hs u)
theorem SetIS.two0 {jr : Addr} {a b : Value} {e : Nat} {v : Sh} {K : Led → Prop} (N' : Value → Led) (U : ∀ w, Upd jr (listOf #[a, b] e) (listOf #[w, b] e) N (N' w)) (h : ∀ t, K (N' (v.val t))) : SetIS d c l (.v (.ref jr)) (.i 0) v N K := fun t u r s Q hS hQ => by
 obtain ⟨ok, ⟨hp, tk, rfl⟩, ⟨m, F, H⟩, hN⟩ := hS
 exact two_set0 F hN (U _) fun h' F' N' => hQ _ _ (h r) ⟨ok, ⟨_, _, rfl⟩, ⟨m, F', H⟩, N'⟩
theorem SetIS.two1 {jr : Addr} {a b : Value} {e : Nat} {v : Sh} {K : Led → Prop} (N' : Value → Led) (U : ∀ w, Upd jr (listOf #[a, b] e) (listOf #[a, w] e) N (N' w)) (h : ∀ t, K (N' (v.val t))) : SetIS d c l (.v (.ref jr)) (.i 1) v N K := fun t u r s Q hS hQ => by
 obtain ⟨ok, ⟨hp, tk, rfl⟩, ⟨m, F, H⟩, hN⟩ := hS
 exact two_set1 F hN (U _) fun h' F' N' => hQ _ _ (h r) ⟨ok, ⟨_, _, rfl⟩, ⟨m, F', H⟩, N'⟩
theorem CallB.divmod {a b : Int} (hb : 1 ≤ b ∧ b ≤ 256) (h : ∀ r t u, K (.v (.ref r)) ((r, tupO [.int (a.fdiv b) t, .int (a.fmod b) u]) :: N)) : CallB d c l "divmod" [] [.i a, .i b] N K := fun ts s Q hS hQ => by
 obtain ⟨ok, ⟨hp, tk, rfl⟩, ⟨m, F, H⟩, hN⟩ := hS
 exact divmod9 F hN hb fun r h' t1 t2 tk F' N' _ => hQ.use (sh := .v (.ref r)) 0 (h r t1 t2) ⟨ok, ⟨_, _, rfl⟩, ⟨m, F', H⟩, N'⟩
end
theorem bDivmod (w : World) : BuiltAt w "divmod" (.builtin "divmod") := by
 exact ⟨by k_is, by boot_by_name, by decide⟩
theorem U1j {jr : Addr} {o : Obj} (o' : Obj) : Upd jr o o' [(jr, o)] [(jr, o')] := Upd.head fun _ h => absurd h List.not_mem_nil
noncomputable def St_sp_law_grain (w : World) (jr : Addr) (many K0 : Int) (tm : Tok) : Prop := ∀ (j : JS) (hj : JOK K0 j) (hK : K0 ≤ 1000) (hm : 1 ≤ many ∧ many ≤ 256), Sp w 606 6 [.ref jr, .int many tm] [] [(jr, jobj j)] (GrainR jr many (K0 + 1))
theorem sp_law_grain : A5 St_sp_law_grain := by
 refine' ey5 (ne_P ne_W (ne_P ne_N (ne_P ne_I (ne_P ne_I ne_N)))) ((?f9 : A5 St_sp_law_grain) _ _ _ _ _)
 intro w jr many K0 tm j hj hK hm
 obtain ⟨hg, hc0, hcK⟩ := hj
 refine' Sp.of_W [("many", .i many), ("jar", .v (.ref jr))] ?ho ?hcd ?hbind ?hloc ?hco ?hgen ?hk ?hcell ?hl ?_
 walk_at "ds prem0"
 case hl => exact rfl
 refine' ent_all ((?f8 : ∀ c R', Ent _ _ _ _ _ _ c R') _ _); intro k R' l0 hP hR
 refine Bk.ifJ [("many", .i many), ("jar", .v (.ref jr))] (fun N => ∃ j', N = [(jr, jobj j')] ∧ JOK (K0 + 1) j') (vc_sound 30 (.T _ _ _ _ _) (ItemS.at (.head _) (by decide) (by decide) rfl (And.intro (fun h => ?_) fun h => ?_))) ?_
 ·have hn := grain_new (c := j.c) ⟨hc0, by lia⟩
  have hp := grain_pow hn
  have hn2 : (7 * (j.c + 1) * (j.c + 1) + 30011).natAbs < 2 ^ 64 := by
   have h3 : (2 : Int) ^ 23 = 8388608 := by decide
   have h4 : (2 : Nat) ^ 64 = 18446744073709551616 := by decide
   rw [h3] at hn
   rw [h4]
   lia
  refine vcS_sound 10 (ItemS.at (.head _) (by decide) (by decide) rfl (SetIS.two1 (fun v => [(jr, listOf #[.int j.g j.tg, v] j.e)]) (fun w => U1j _) fun t => ?_))
  refine ItemS.at (v := .int (j.c + 1) t) (.head _) (by decide) (by decide) rfl (OpS.mul (by lia) (ItemS.at (v := .int (j.c + 1) t) (.head _) (by decide) (by decide) rfl (OpS.mul (by lia) (OpS.pow 9 rfl hn2 (by decide) (SetIS.two0 (fun v => [(jr, listOf #[v, .int (j.c + 1) t] j.e)]) (fun w => U1j _) fun t2 => ?_)))))
  exact ⟨rfl, fun _ h => h, ⟨(7 * (j.c + 1) * (j.c + 1) + 30011) ^ 9, j.c + 1, t2, t, j.e⟩, rfl, hp, by show 0 ≤ j.c + 1; lia, by show j.c + 1 ≤ K0 + 1; lia⟩
 ·exact Bk.nil ⟨rfl, fun _ h => h, j, rfl, hg, hc0, by lia⟩
 ·rintro _ ⟨j, rfl, hg, hc0, hcK⟩
  obtain ⟨a1, a2, a3, a4⟩ := grain_end hg hm
  refine Bk.tupSN (RawE.bfn (bDivmod w) (ItemS.at (.head _) (by decide) (by decide) rfl (CallB.divmod hm fun r t u => ⟨r, _, _, [(jr, jobj j)], rfl, .head _, fun _ h => .tail _ h, SetIS.two0 (fun v => [(jr, listOf #[v, .int j.c j.tc] j.e)]) (fun w => U1j _) fun t2 => ?_⟩)))
  exact vcS_sound 1 fun t3 => hR _ _ (.mk _ t3 ⟨j.g.fdiv many, j.c, t2, j.tc, j.e⟩ a1 a2 ⟨⟨a3, a4⟩, hc0, hcK⟩)
theorem fn606 (w : World) : FnAt w "_law_grain" 606 := by
 refine ⟨?_, ?_⟩
 ·k_is
 ·k_is
theorem CallS.grain {d : Df} {c : Cx} {l : Fs} {N : Led} {gg : Obj → Led} {K : KE} {jr : Addr} {many K0 : Int} {j : JS} (hj : JOK K0 j) (hK : K0 ≤ 1000) (hm : 1 ≤ many ∧ many ≤ 256) (U : UpdF jr (jobj j) N gg) (hlv : 6 ≤ d.lv)
  (h : ∀ r j', 0 ≤ r → r < many → JOK (K0 + 1) j' → K (.i r) (gg (jobj j'))) : CallS d c l 606 [.v (.ref jr), .i many] N K := by
 obtain ⟨pre, post, rfl, hgg, h1, h2⟩ := U.split
 have hlt : ∀ x y : Nat, x < y → x ≤ y := fun _ _ => Nat.le_of_lt
 refine CallS.of (pre ++ post) (fun ts => sp_law_grain d.w jr many K0 (ts 1) j hj hK hm) ⟨fun _ h => absurd h List.not_mem_nil, ?_, fun _ _ _ h => absurd h List.not_mem_nil, ?_, ?_, hlv⟩ ?_
 ·intro p hp; rw [List.mem_singleton.mp hp]; simp
 ·intro p hp
  rcases List.mem_append.mp hp with hp | hp
  ·exact List.mem_append_left _ hp
  ·exact List.mem_append_right pre (.tail _ hp)
 ·intro p hp q hq
  rw [List.mem_singleton.mp hp]
  rcases List.mem_append.mp hq with hq | hq
  ·exact fun e => h1 q hq e.symm
  ·exact fun e => h2 q hq e.symm
 ·intro v O' r0 _
  cases r0 with
  | mk r t j' a1 a2 hj' =>
  refine ⟨.i r, _, ⟨t, rfl⟩, h r j' a1 a2 hj', ?_⟩
  rw [hgg]
  intro p hp
  rcases List.mem_append.mp hp with hp | hp
  ·exact List.mem_append_right _ (List.mem_append_left _ hp)
  rcases List.mem_cons.mp hp with rfl | hp
  ·exact List.mem_append_left _ (.head _)
  ·exact List.mem_append_right _ (List.mem_append_right _ hp)
theorem ints_bytes : ∀ {ns : List Int}, (∀ x ∈ ns, 0 ≤ x ∧ x < 256) → ∃ d : List UInt8, ns = byteInts d
 | [], _ => ⟨[], rfl⟩
 | x :: ns, h => by
  obtain ⟨d, hd⟩ := ints_bytes (ns := ns) fun y hy => h y (.tail _ hy)
  have hx := h x (.head _)
  refine ⟨UInt8.ofNat x.toNat :: d, ?_⟩
  show x :: ns = ((UInt8.ofNat x.toNat).toNat : Int) :: byteInts d
  rw [hd, UInt8.toNat_ofNat']
  congr 1
  have : x.toNat % 2 ^ 8 = x.toNat := Nat.mod_eq_of_lt (by have : (2 : Nat) ^ 8 = 256 := rfl; lia)
  rw [this]; lia
noncomputable def By (x : Int) : Prop := 0 ≤ x ∧ x < 256
theorem if_bnd {p : Prop} [Decidable p] {a b : Int} (ha : By a) (hb : By b) : By (if p then a else b) := by split <;> assumption
theorem menuA (i : Nat) : By ([1, 2, 128, 255].getD i 0) := by
 have := kmn_any (l := [1, 2, 128, 255]) (i := i) (d := 0) (lo := 0) (hi := 255) (by decide)
 exact ⟨this.1, by lia⟩
theorem menuB (i : Nat) : By ([170, 160, 191, 85, 0, 255].getD i 0) := by
 have := kmn_any (l := [170, 160, 191, 85, 0, 255]) (i := i) (d := 0) (lo := 0) (hi := 255) (by decide)
 exact ⟨this.1, by lia⟩
theorem rep_ns {c : Nat} {X Y : Int} (hc : 1 ≤ c) (hX : By X) (hY : By Y) : ((List.replicate ((c : Int) - 1).toNat [X]).flatten ++ [Y]).length = c ∧ ∀ x ∈ (List.replicate ((c : Int) - 1).toNat [X]).flatten ++ [Y], 0 ≤ x ∧ x < 256 := by
 have e : ((c : Int) - 1).toNat = c - 1 := by lia
 rw [e]
 constructor
 ·simp; lia
 ·intro x hx
  rcases List.mem_append.mp hx with hx | hx
  ·obtain ⟨l, hl, hx⟩ := List.mem_flatten.mp hx
   rw [List.eq_of_mem_replicate hl] at hx
   rw [List.mem_singleton.mp hx]; exact hX
  ·rw [List.mem_singleton.mp hx]; exact hY
theorem by_byte {x : Int} (h : By x) : ∃ a : UInt8, x = (a.toNat : Int) := by
 obtain ⟨d, hd⟩ := ints_bytes (ns := [x]) (fun y hy => by rw [List.mem_singleton.mp hy]; exact h)
 match d, hd with
 | [a], hd => exact ⟨a, (List.cons.inj hd).1⟩
inductive DrawnR (jr : Addr) (n : Nat) (K : Int) : Value → Led → Prop
 | mk (r hl dl : Addr) (a b c' e : UInt8) (ds : List UInt8) (ta tb tc te : Tok) (its : List Value) (e1 e2 : Nat) (j' : JS) : ds.length = n → IntsAre its (byteInts ds) → JOK K j' →
  DrawnR jr n K (.ref r) [(r, tup2 (.ref hl) (.ref dl)), (hl, listOf #[.int (a.toNat : Int) ta, .int (b.toNat : Int) tb, .int (c'.toNat : Int) tc, .int (e.toNat : Int) te] e1), (dl, listOf its.toArray e2), (jr, jobj j')]
theorem drawn_fin {jr r hl dl : Addr} {ws : List Value} {ns : List Int} {a0 a1 a2 a3 K : Int} {t0 t1 t2 t3 : Tok} {c e1 e2 : Nat} {j : JS}
  (hw : IntsAre ws ns) (hns : ns.length = c ∧ ∀ x ∈ ns, 0 ≤ x ∧ x < 256) (b0 : By a0) (b1 : By a1) (b2 : By a2) (b3 : By a3) (hJ : JOK K j) :
  DrawnR jr c K (.ref r) [(r, tup2 (.ref hl) (.ref dl)), (hl, listOf #[.int a0 t0, .int a1 t1, .int a2 t2, .int a3 t3] e1), (dl, listOf ws.toArray e2), (jr, jobj j)] := by
 obtain ⟨d, rfl⟩ := ints_bytes hns.2
 obtain ⟨a, rfl⟩ := by_byte b0
 obtain ⟨b, rfl⟩ := by_byte b1
 obtain ⟨c', rfl⟩ := by_byte b2
 obtain ⟨e, rfl⟩ := by_byte b3
 exact .mk r hl dl a b c' e d t0 t1 t2 t3 ws e1 e2 j (by rw [← hns.1, byteInts_len]) hw hJ
structure HS where
 a0 : Int
 a1 : Int
 a2 : Int
 a3 : Int
 t0 : Tok
 t1 : Tok
 t2 : Tok
 t3 : Tok
 e : Nat
noncomputable abbrev hobj (h : HS) : Obj := listOf #[.int h.a0 h.t0, .int h.a1 h.t1, .int h.a2 h.t2, .int h.a3 h.t3] h.e
noncomputable def HOK (h : HS) : Prop := By h.a0 ∧ By h.a1 ∧ By h.a2 ∧ By h.a3
theorem by0 : By 0 := ⟨by decide, by decide⟩
theorem hok_new {x : Int} {t0 t1 t2 t3 : Tok} {e : Nat} (h0 : 0 ≤ x) (h1 : x < 256) : HOK ⟨x, 0, 0, 0, t0, t1, t2, t3, e⟩ := ⟨⟨h0, h1⟩, by0, by0, by0⟩
theorem hok_set {k x : Int} {h : HS} {u : Tok} (hh : HOK h) (hx : By x) : HOK ⟨if k = 0 then x else h.a0, if k = 1 then x else h.a1, if k = 2 then x else h.a2, if k = 3 then x else h.a3, if k = 0 then u else h.t0, if k = 1 then u else h.t1, if k = 2 then u else h.t2, if k = 3 then u else h.t3, h.e⟩ :=
 ⟨if_bnd hx hh.1, if_bnd hx hh.2.1, if_bnd hx hh.2.2.1, if_bnd hx hh.2.2.2⟩
noncomputable def St_sp_law_drawn_key (w : World) (jr : Addr) (g0 c0 : Int) (c : Nat) (tg tc tm : Tok) (e : Nat) : Prop := ∀ (hg : 0 ≤ g0 ∧ g0 < 2 ^ 420) (hc : 0 ≤ c0 ∧ c0 ≤ 900) (hc1 : 1 ≤ c ∧ c ≤ 8), Sp w 613 9 [.ref jr, .int (c : Int) tm] [] [(jr, listOf #[.int g0 tg, .int c0 tc] e)] (DrawnR jr c (c0 + 8))
theorem sp_law_drawn_key : A9 St_sp_law_drawn_key := by
 refine' ey9 (ne_P ne_W (ne_P ne_N (ne_P ne_I (ne_P ne_I (ne_P ne_N (ne_P ne_N (ne_P ne_N (ne_P ne_N ne_N)))))))) ((?f9 : A9 St_sp_law_drawn_key) _ _ _ _ _ _ _ _ _)
 intro w jr g0 c0 c tg tc tm e hg hc hc1
 refine' Sp.of_W [("count", .i c), ("jar", .v (.ref jr))] ?ho ?hcd ?hbind ?hloc ?hco ?hgen ?hk ?hcell ?hl ?_
 walk_at "ds prem0"
 case hl => exact rfl
 refine' ent_all ((?f8 : ∀ c R', Ent _ _ _ _ _ _ c R') _ _); intro k R' l0 hP hR
 have hJ0 : JOK c0 ⟨g0, c0, tg, tc, e⟩ := ⟨hg, hc.1, Int.le_refl _⟩
 have hlv : 6 ≤ 8 := lb9 rfl
 refine vcS_sound 1 ?_
 refine RawE.fn (fn606 w) ?_
 refine OpS.mul (by lia) ?_
 refine CallS.grain hJ0 (by lia) (by lia) (gg := fun o => [(jr, o)]) (by k_updF) hlv (fun r j h0 h1 hJ => ?_)
 clear hJ0
 intro ts hr hlt
 have hne : @LT.lt Nat _ jr hr := hlt _ (.head _)
 have hH : HOK ⟨r, 0, 0, 0, ts 0, ts 1, ts 2, ts 3, 0⟩ := hok_new h0 (by lia)
 refine Bk.cut (α := HS × JS) (fun a => [("head", .v (.ref hr)), ("count", .i c), ("jar", .v (.ref jr))]) (fun a => [(hr, hobj a.1), (jr, jobj a.2)]) (fun a => HOK a.1 ∧ JOK (c0 + 4) a.2) ?_ ?_
 ·refine vcS_sound 5 ?_
  refine RawE.fn (fn606 w) ?_
  refine CallS.grain hJ (by lia) (by lia) (gg := fun o => [(hr, _), (jr, o)]) (by k_updF) hlv (fun r2 j2 _ _ hJ2 => ?_)
  clear hJ
  refine And.intro (fun hz => ?_) (fun hz => ?_)
  ·refine RawE.fn (fn606 w) ?_
   refine CallS.grain hJ2 (by lia) (by lia) (gg := fun o => [(hr, _), (jr, o)]) (by k_updF) hlv (fun r3 j3 h03 h13 hJ3 => ?_)
   clear hJ2
   intro ts2 mr hlt2
   have hne2 : @LT.lt Nat _ jr mr ∧ @LT.lt Nat _ hr mr := ⟨hlt2 _ (.tail _ (.head _)), hlt2 _ (.head _)⟩
   refine RawE.fn (fn606 w) ?_
   refine CallS.grain hJ3 (by lia) (by lia) (gg := fun o => [(mr, _), (hr, _), (jr, o)]) (by k_updF) hlv (fun r4 j4 h04 h14 hJ4 => ?_)
   clear hJ3
   refine ItemS.menu [(hr, _), (jr, _)] (.head _) (ints_valsO [1, 2, 128, 255] 0) h04 h14 (by lia) (fun _ h => .tail _ h) ?_
   refine SetIS.ints (ps := [(r, ts 0), (0, ts 1), (0, ts 2), (0, ts 3)]) (gg := fun o => [(hr, o), (jr, _)]) (fun _ => by k_upd) (by lia) (by show (1 : Int) + r3 < 4; lia) (lb9 rfl) (fun u => ?_)
   exact ⟨rfl, (⟨_, _, _, _, _, _, _, _, _⟩, j4), ⟨hok_set hH (menuA _), hJ4.le (by lia)⟩, subF_of ⟨rfl, rfl, rfl, trivial⟩, sub_cons (.head _) (sub_cons (.tail _ (.head _)) sub_nil)⟩
  ·exact ⟨rfl, (_, j2), ⟨hH, hJ2.le (by lia)⟩, fun _ h => h, fun _ h => h⟩
 clear hH hJ
 rintro ⟨h, j⟩ ⟨hH, hJ⟩
 dsimp only at hH hJ ⊢
 refine vcS_sound 1 ?_
 intro ts2 mr hlt2
 have hne2 : @LT.lt Nat _ hr mr ∧ @LT.lt Nat _ jr mr := ⟨hlt2 _ (.head _), hlt2 _ (.tail _ (.head _))⟩
 refine RawE.fn (fn606 w) ?_
 refine CallS.grain hJ (by lia) (by lia) (gg := fun o => [(mr, _), (hr, _), (jr, o)]) (by k_updF) hlv (fun r4 j4 h04 h14 hJ4 => ?_)
 clear hJ
 refine ItemS.menu [(hr, _), (jr, _)] (.head _) (ints_valsO [170, 160, 191, 85, 0, 255] 0) h04 h14 (by lia) (fun _ h => .tail _ h) ?_
 clear hlt2 hne2
 generalize hx : ([170, 160, 191, 85, 0, 255] : List Int).getD r4.toNat 0 = x
 have hx9 : By x := by rw [← hx]; exact menuB _
 clear hx h04 h14
 refine Bk.asgI (α := Int × JS) (va := fun a => a.1) (nf := fun a => [(hr, hobj h), (jr, jobj a.2)]) (I := fun a => By a.1 ∧ JOK (c0 + 7) a.2) ?_ ?_
 ·refine RawE.fn (fn606 w) ?_
  refine CallS.grain hJ4 (by lia) (by lia) (gg := fun o => [(hr, _), (jr, o)]) (by k_updF) hlv (fun r2 j2 _ _ hJ2 => ?_)
  refine And.intro (fun hz => ?_) (fun hz => ?_)
  ·exact ⟨(x, j2), _, rfl, rfl, ⟨hx9, hJ2.le (by lia)⟩, rfl⟩
  ·refine RawE.fn (fn606 w) ?_
   refine CallS.grain hJ2 (by lia) (by lia) (gg := fun o => [(hr, _), (jr, o)]) (by k_updF) hlv (fun r3 j3 h03 h13 hJ3 => ?_)
   exact ⟨(r3, j3), _, rfl, rfl, ⟨⟨h03, by lia⟩, hJ3.le (by lia)⟩, rfl⟩
 clear hJ4
 rintro ⟨y, j⟩ ⟨hy, hJ⟩
 dsimp only at hy hJ ⊢
 refine vcS_sound 1 ?_
 intro ts1 r1 hlt1
 refine OpS.mulL [(hr, _), (jr, _)] (.head _) (ints_valsO [x] 0) (by lia) (by lia) (by show 1 * ((c : Int) - 1).toNat ≤ 256; lia) (fun _ h => .tail _ h) (fun D1 us1 hlt2 hu1 => ?_)
 intro ts3 r3 hlt3
 refine OpS.addL (fun D us => [(hr, hobj h), (D, listOf us.toArray 0), (jr, jobj j)]) (.tail _ (.head _)) (.head _) hu1 (ints_valsO [y] 0) (by have := (rep_ns (c := c) (X := x) (Y := y) hc1.1 hx9 hy).1; rw [List.length_append] at this; show _ + 1 ≤ 256; lia) (fun _ _ => sub_cons (.tail _ (.tail _ (.tail _ (.head _)))) (sub_cons (.head _) (sub_cons (.tail _ (.tail _ (.tail _ (.tail _ (.head _))))) sub_nil))) (fun D2 us hlt4 hu => ?_)
 intro ts5 r5 hlt5
 intro t
 exact hR _ _ (drawn_fin hu (rep_ns hc1.1 hx9 hy) hH.1 hH.2.1 hH.2.2.1 hH.2.2.2 (hJ.le (by lia)))
section
open LCg LCt
variable {d : Df} {c : Cx} {l : Fs} {N : Led} {K : KE}
theorem StrsAre.snoc9 {vs : List Value} {ys : List Str} (h : StrsAre vs ys) (y : Str) (t : Tok) : StrsAre (vs ++ [.str y t]) (ys ++ [y]) := by
 induction h with
 | nil => exact .cons y t .nil
 | cons z u _ ih => exact .cons z u ih
theorem map_getD9 {α : Type} (f : UInt8 → α) (ds : List UInt8) : (List.range ds.length).map (fun i => f (ds.getD i 0)) = ds.map f := by
 refine List.ext_getElem (by simp) fun i h1 h2 => ?_
 have h3 : i < ds.length := by simpa using h2
 simp [h3]
theorem OpS.addS {x y : Str} (hz : x.length + y.length ≤ 100000) (h : K (.s (x ++ y)) N) : OpS d c l .Add (.s x) (.s y) N K := fun t u s Q hS hQ => add_str9 hz fun t' k => hQ.use (sh := .s _) t' h (hS.tok _)
theorem CallT.str {n : Nat} (hn : n < 10 ^ 12) (h : K (.s (decS n)) N) : CallT d c l "str" [.i (n : Int)] N K := fun ts s Q hS hQ => str_of_int_fit (N := 10 ^ 12) (by rw [if_neg (by lia)]; lia) (by decide) fun _ => hQ.use (sh := .s (decS n)) _ h (hS.tok _)
theorem ItemS.hex {ie : PySem.Expr} {i : Int} {j : Nat} (e : i = (j : Int)) (hj : j < 16) (h : K (.s (hexc j)) N)
  (hs : ∀ t u, subscripted ie false (.str hexT t) (.int i u) = operate [.str hexT t, .int i u] (getItem (.str hexT t) (.int i u)) := by intro t u; with_unfolding_all rfl) : ItemS d c l ie (.s hexT) (.i i) N K := fun t u s Q hS hQ =>
 hexItem e hj (hQ.use (sh := .s _) _ h (hS.tok _)) (hs t u) (fun _ => rfl)
theorem mJoin {y : Str} : MethV d c y "join" "str.join" := ⟨fun t pl s Q h => by apply GM.join; exact h⟩
theorem CallB.join {D : Addr} {vs : List Value} {n : Nat} {x : Str} {ys : List Str} (hm : (D, listOf vs.toArray n) ∈ N) (hi : StrsAre vs ys) (hx : x.length ≤ 16) (hz : (ys.map (·.length)).sum + ys.length ≤ 100000) {N' : Led} (hs : ∀ p ∈ N', p ∈ N) (h : K (.s (Txt.join x ys)) N') (t : Tok) : CallB d c l "str.join" [.str x t] [.v (.ref D)] N K := fun ts s Q hS hQ =>
 join9 (News.isList hS.news hm) hi hx hz fun t' k => hQ.use (sh := .s _) t' h ((hS.sub (fun _ h => h) hs).tok _)
theorem SrcC.bytesL {ds : List UInt8} {news₀ : Led} (hz : ds.length ≤ 1000) : SrcC d c l N (.b ds.toArray) ds.length (fun i sh => ∃ y, ds[i]? = some y ∧ sh = .i (y.toNat : Int)) (fun _ => True) news₀ := by
 have h := SrcC.bytes (d := d) (c := c) (l := l) (N := N) (b := ds.toArray) (news₀ := news₀) (by rw [List.size_toArray]; exact hz)
 rw [List.size_toArray] at h
 exact ⟨h.sz, trivial, fun s1 t hS => by
  obtain ⟨P9, h1, h2⟩ := h.ok s1 t hS
  exact ⟨P9, fun i v hv => by obtain ⟨sh, u, e, y, hy, e2⟩ := h1 i v hv; exact ⟨sh, u, e, y, by simpa using hy, e2⟩, h2⟩⟩
noncomputable def Js (f : Nat → Str) (news₀ : Led) (i : Nat) (ys : List Value) (news : Led) : Prop := news = news₀ ∧ StrsAre ys ((List.range i).map f)
theorem compS {elt : PySem.Expr} {x : Str} {scope : Scope} {cl : List (Str × Addr)} {n : Nat} {P : Nat → Sh → Prop} {f : Nat → Str} {N1 news₀ : Led} {sh : Sh} (src : SrcC d c l N1 sh n P (fun _ => True) news₀) (hn : ∀ p ∈ news₀, p ∈ N1)
  (turn : ∀ I oI C oC D m₂ i ys sh t m, i < n → P i sh → NsObj oC m₂ → m₂ x = some (sh.val t) → RawE d.cmp (c.cmp (compEnvC scope cl C (cE d c)) m) l ((I, oI) :: (C, oC) :: (D, lst ys) :: news₀) elt (fun sy N2 => sy = .s (f i) ∧ ∀ p ∈ (I, oI) :: (C, oC) :: (D, lst ys) :: news₀, p ∈ N2))
  (fin : ∀ D its, StrsAre its ((List.range n).map f) → K (.v (.ref D)) ((D, lst its) :: news₀)) : SrcC d c l N1 sh n P (fun _ => True) news₀ ∧ CompV d c l elt x scope cl n P (fun _ => True) (Js f news₀) N1 news₀ K := by
 refine ⟨src, hn, ⟨rfl, .nil⟩, ?_, ?_⟩
 ·rintro I oI C oC D m₂ i ys news sh t m hi hP ⟨rfl, hys⟩ hC hx off _ s Q hS hQ
  refine turn I oI C oC D m₂ i ys sh t m hi hP hC hx s Q hS ?_
  rintro v sy N2 s2 ⟨u, rfl⟩ ⟨rfl, hs⟩ hS2
  refine hQ.use (sh := .s (f i)) u (fun u2 => ⟨_, hs, off, trivial, rfl, ?_⟩) hS2
  rw [List.range_succ, List.map_append]
  exact Mine.StrsAre.snoc9 hys _ _
 ·rintro ys news D ⟨rfl, hys⟩ _
  exact fin D ys hys
end
theorem bStr (w : World) : BuiltAt w "str" (.type "str") := by
 exact ⟨by k_is, by boot_by_name, by decide⟩
section
noncomputable def St_sp_show_prefix (w : World) (a b c e : UInt8) (d : List UInt8) (t : Tok) : Prop := ∀ (hd : d.length ≤ 8), Sp w 592 3 [.bytes (a :: b :: c :: e :: d).toArray t] [] [] (fun v O' => O' = [] ∧ ∃ t, v = .str (figS d ++ Str.ofString "/" ++ decS (kl a b c e)) t)
theorem sp_show_prefix : A7 St_sp_show_prefix := by
 refine' ey7 (ne_P ne_W (ne_P ne_U (ne_P ne_U (ne_P ne_U (ne_P ne_U (ne_P ne_L ne_N)))))) ((?f9 : A7 St_sp_show_prefix) _ _ _ _ _ _ _)
 intro w a b c e d t hd
 have hkl : kl a b c e < 10 ^ 10 := by
  have := a.toNat_lt; have := b.toNat_lt; have := c.toNat_lt; have := e.toNat_lt
  unfold kl; lia
 have ldk : (Str.ofString (toString ((kl a b c e : Nat) : Int))).length ≤ 11 := decS_len hkl
 have lsl : (Str.ofString "/").length = 1 := by decide
 have ldot : (Str.ofString ".").length = 1 := by decide
 have lnil : (Str.ofString "").length = 0 := by decide
 refine' Sp.of_W [("key", .b (a :: b :: c :: e :: d).toArray)] ?ho ?hcd ?hbind ?hloc ?hco ?hgen ?hk ?hcell ?hl ?_
 walk_at "ds prem0"
 case hl => exact rfl
 refine' ent_all ((?f8 : ∀ c R', Ent _ _ _ _ _ _ c R') _ _); intro k R' l0 hP hR
 have hzk : (a :: b :: c :: e :: d).toArray.size ≤ 1000 := by simp only [List.size_toArray, List.length_cons]; lia
 have lf : (figS d).length ≤ 1000 := by
  unfold figS
  split
  ·have := join_len (sep := Str.ofString ".") 11 (decs_le d)
   rw [ldot, List.length_map] at this
   lia
  ·have := join_len (sep := Str.ofString "") 2 (hexs_le d)
   rw [lnil, List.length_map] at this
   lia
 refine Bk.tupC ["length", "worth"] (RawE.fn (fn318 w) (CallS.key_parts (lb9 rfl) hd fun r t1 t2 _ => TupK.mk _ [] (.head _) rfl sub_nil ?_)) (hk := all2 rfl rfl)
 refine vcS_sound 10 (RawE.slice (RawE.LW ⟨4, rfl, SlcS.bytes hzk (picked_from4 a b c e d) (RawE.bfn (bLen w) (CallB.lenB (by rw [List.size_toArray]; lia) (And.intro (fun h4 => ?_) fun h4 => ?_)))⟩))
 ·have h4 : d.length = 4 := by rw [List.size_toArray] at h4; lia
  have hw := sum_len (decs_le d)
  rw [List.length_map] at hw
  refine RawE.smeth (y := ".") mJoin (And.intro rfl (RawE.comp d.length (fun i sh => ∃ y, d[i]? = some y ∧ sh = .i (y.toNat : Int)) (Js (fun i => decS (d.getD i 0).toNat) []) [] (compS (SrcC.bytesL (by lia)) sub_nil ?_ fun D its hs => CallB.join (.head _) hs (by decide) ?_ (N' := []) sub_nil ?_) rfl))
  ·rintro I oI C oC D m₂ i ys sh u m hi ⟨y, hy, rfl⟩ hC hx
   have hy9 : y = d.getD i 0 := by rw [List.getD_eq_getElem?_getD, hy]; rfl
   have := y.toNat_lt
   exact RawE.tfn (bStr w) (RawE.cvar (.tail _ (.head _)) hC hx (CallT.str (by lia) ⟨by rw [hy9], fun _ h => h⟩))
  ·rw [map_getD9 (fun x => decS x.toNat), List.length_map]; lia
  ·rw [map_getD9 (fun x => decS x.toNat)]
   have e1 : Txt.join (Str.ofString ".") (d.map fun x => decS x.toNat) = figS d := by unfold figS; rw [if_pos h4]
   rw [e1]
   exact OpS.addS (by lia) (RawE.tfn (bStr w) (CallT.str (by lia) (OpS.addS (by rw [Str.length_append]; lia) fun t => hR _ _ ⟨rfl, t, rfl⟩)))
 ·have h4 : d.length ≠ 4 := by rw [List.size_toArray] at h4; lia
  have hw := sum_len (hexs_le d)
  rw [List.length_map] at hw
  refine RawE.smeth (y := "") mJoin (And.intro rfl (RawE.comp d.length (fun i sh => ∃ y, d[i]? = some y ∧ sh = .i (y.toNat : Int)) (Js (fun i => hexc ((d.getD i 0).toNat / 16) ++ hexc ((d.getD i 0).toNat % 16)) []) [] (compS (SrcC.bytesL (by lia)) sub_nil ?_ fun D its hs => CallB.join (.head _) hs (by decide) ?_ (N' := []) sub_nil ?_) rfl))
  ·rintro I oI C oC D m₂ i ys sh u m hi ⟨y, hy, rfl⟩ hC hx
   have hy9 : y = d.getD i 0 := by rw [List.getD_eq_getElem?_getD, hy]; rfl
   have := y.toNat_lt
   have l1 := hexc_len (y.toNat / 16) (by lia)
   have l2 := hexc_len (y.toNat % 16) (by lia)
   refine vc_sound 30 (.E _ _ _ _) (RawE.cvar (.tail _ (.head _)) hC hx (OpS.shr y.toNat 4 rfl rfl (ItemS.hex (j := y.toNat / 16) (by lia) (by lia) ?_)))
   refine RawE.cvar (.tail _ (.head _)) hC hx (OpS.and9 (bitAnd15_nat _) (ItemS.hex (j := y.toNat % 16) (by lia) (by lia) (OpS.addS (by lia) ⟨by rw [hy9], fun _ h => h⟩)))
  ·rw [map_getD9 (fun x => hexc (x.toNat / 16) ++ hexc (x.toNat % 16)), List.length_map]; lia
  ·rw [map_getD9 (fun x => hexc (x.toNat / 16) ++ hexc (x.toNat % 16))]
   have e1 : Txt.join (Str.ofString "") (d.map fun x => hexc (x.toNat / 16) ++ hexc (x.toNat % 16)) = figS d := by unfold figS; rw [if_neg h4]
   rw [e1]
   exact OpS.addS (by lia) (RawE.tfn (bStr w) (CallT.str (by lia) (OpS.addS (by rw [Str.length_append]; lia) fun t => hR _ _ ⟨rfl, t, rfl⟩)))
end
noncomputable def octS (x : Nat) : Str := Txt.join (Str.ofString "") ((List.range 8).map fun i => decS (x / 2 ^ (7 - i) % 2))
noncomputable def textS (d : List UInt8) : Str := d.foldl (fun z x => z ++ octS x.toNat) (Str.ofString "")
theorem fmod2_nat (x : Nat) : (x : Int).fmod 2 = ((x % 2 : Nat) : Int) := by rw [Int.fmod_eq_emod_of_nonneg _ (by lia)]; simp
theorem bitdec_le (x : Nat) : ∀ y ∈ (List.range 8).map (fun i => decS (x / 2 ^ (7 - i) % 2)), y.length ≤ 11 := by
 intro y hy
 obtain ⟨j, _, rfl⟩ := List.mem_map.mp hy
 exact decS_len (by lia)
theorem octS_len (x : Nat) : (octS x).length ≤ 88 := by
 have h := join_len (sep := Str.ofString "") 11 (bitdec_le x)
 have lnil : (Str.ofString "").length = 0 := by decide
 rw [lnil, List.length_map, List.length_range] at h
 exact h
theorem textS_aux : ∀ (d : List UInt8) (z : Str), (d.foldl (fun z x => z ++ octS x.toNat) z).length ≤ z.length + 88 * d.length
 | [], z => by simp
 | x :: d, z => by
  have h1 := textS_aux d (z ++ octS x.toNat)
  have h2 := octS_len x.toNat
  rw [Str.length_append] at h1
  rw [List.foldl_cons, List.length_cons]
  lia
theorem textS_len (d : List UInt8) : (textS d).length ≤ 88 * d.length := by
 have h := textS_aux d (Str.ofString "")
 have lnil : (Str.ofString "").length = 0 := by decide
 rw [lnil, Nat.zero_add] at h
 exact h
theorem textS_snoc (d : List UInt8) (x : UInt8) : textS (d ++ [x]) = textS d ++ octS x.toNat := by unfold textS; rw [List.foldl_append]; rfl
section
noncomputable def St_sp_law_text (w : World) (dl : Addr) (its : List Value) (d : List UInt8) (e : Nat) : Prop := ∀ (hi : IntsAre its (byteInts d)) (hd : d.length ≤ 8), Sp w 618 6 [.ref dl] [(dl, listOf its.toArray e)] [] (fun v _ => ∃ t, v = .str (textS d) t)
theorem sp_law_text : A5 St_sp_law_text := by
 refine' ey5 (ne_P ne_W (ne_P ne_N (ne_P ne_L (ne_P ne_L ne_N)))) ((?f9 : A5 St_sp_law_text) _ _ _ _ _)
 intro w dl its d e hi hd
 refine' Sp.of_WC [("data", .v (.ref dl))] ?ho ?hcd ?hbind ?hkind ?hnd ?hco ?hgen ?hk ?hl ?_
 case ho => k_is
 case hcd => k_is
 case hbind => (intro s9 hX9; first | exact BindsTo.of_eq rfl | exact binds_K hX9 rfl (by k_is) rfl rfl rfl)
 case hkind => exact rfl
 case hnd => decide
 case hco => exact rfl
 case hgen => exact rfl
 case hk => exact rfl
 case hl => exact fun _ => ⟨⟨0, rfl⟩, trivial⟩
 refine' entC_all ((?f8 : ∀ c R' cells, EntC _ _ _ _ _ _ _ c R' cells) _ _ _); intro k R' cells hcl Y l0 hP hR
 obtain ⟨o, rfl, ho⟩ := CellsAre.one Y
 have ho : o.data = .cell none := ho
 have hck : k.cl.lookup (Str.ofString "octet") = some (k.L + 1) := by rw [hcl]; rfl
 have hdl : ∀ N, OAt k N dl (listOf its.toArray e) := fun N => .inr (hP _ (.head _))
 clear Y l0
 refine vcS_sound 1 (Bk.forW (α := Str × Obj) (fun _ z => [("text", .s z.1)]) (fun _ z => [(k.L + 1, z.2)]) (fun i z => z.1 = textS (d.take i) ∧ ∃ v, z.2.data = .cell v) ("", o) ⟨_, _, _, SrcW.list (hdl _) (fun s hS => ?_), ⟨rfl, _, ho⟩, subF_of ⟨rfl, trivial⟩, fun _ h => h, ?_, ?_⟩)
 ·obtain ⟨m, F, _⟩ := hS.fr
  exact Nat.ne_of_lt (Nat.lt_of_lt_of_le (Heap.lt_size (hP _ (.head _))) F.above)
 ·rintro I i _ ⟨z, o⟩ own - ⟨v, hv, rfl⟩ ⟨hz, v0, ho⟩ hnI hown
  dsimp only at hz ho
  obtain ⟨n, t9, hn, rfl⟩ := ints_get hi hv
  obtain ⟨x, hdx, rfl⟩ : ∃ x, d[i]? = some x ∧ (x.toNat : Int) = n := by simpa [byteInts] using hn
  have hx := x.toNat_lt
  have h9 : ∀ p ∈ own, p.1 ≠ k.L + 1 := fun p hp e9 => by
   rcases (hown p hp).1 with h | h
   ·exact hnI _ (.head _) (e9.symm.trans h)
   ·have h2 := (hown p hp).2
    rw [List.mem_singleton.mp h, hP _ (.head _)] at h2
    cases h2
  refine AsgS.cell (fun o' => (k.L + 1, o') :: own) hck (UpdF.head h9) ho fun o' t9 ho' => ?_
  have hzl : z.length ≤ 704 := by
   rw [hz]
   have h1 := textS_len (d.take i)
   have h2 : (d.take i).length ≤ 8 := by rw [List.length_take]; lia
   lia
  have hw := sum_len (bitdec_le x.toNat)
  have hj := octS_len x.toNat
  rw [List.length_map, List.length_range] at hw
  refine vcS_sound 10 (RawE.smeth (y := "") mJoin (And.intro rfl (RawE.comp (cl := [(Str.ofString "octet", k.L + 1)]) 8 (fun j sh => sh = .i (0 + j)) (Js (fun j => decS (x.toNat / 2 ^ (7 - j) % 2)) ((k.L + 1, o') :: own)) ((k.L + 1, o') :: own) (RawE.tfn (bRange w) (CallT.range1 fun r t u v _ => compS (SrcC.range (.head _) (by decide) (by decide) (by decide)) (fun _ h => .tail _ h) ?_ fun D its hs => ?_)) ?_)))
  ·rintro I2 oI C oC D m₂ j ys sh u m hj8 rfl hC hx2
   refine RawE.tfn (bStr w) (RawE.cell (a := k.L + 1) rfl (.tail _ (.tail _ (.tail _ (.head _)))) ho' (RawE.cvar (.tail _ (.head _)) hC hx2 (OpS.pow (7 - j) (by lia) (by decide) (by lia) (OpS.fdiv ?_ (z := ((x.toNat / 2 ^ (7 - j) : Nat) : Int)) ?_ (OpS.mod (by decide) (fmod2_nat _) (CallT.str (by lia) ⟨rfl, fun _ h => h⟩))))))
   ·have h1 : 0 < 2 ^ (7 - j) := Nat.pow_pos (by decide)
    have h2 : 2 ^ (7 - j) ≤ 2 ^ 7 := Nat.pow_le_pow_right (by decide) (by lia)
    have e2 : (2 : Int) ^ (7 - j) = ((2 ^ (7 - j) : Nat) : Int) := (Int.natCast_pow 2 (7 - j)).symm
    rw [e2]
    lia
   ·exact fdiv_nat x.toNat (7 - j)
  ·refine CallB.join (.head _) hs (by decide) (by rw [List.length_map, List.length_range]; lia) (N' := (k.L + 1, o') :: own) (fun _ h => .tail _ h) (OpS.addS (by show z.length + (octS x.toNat).length ≤ _; lia) ⟨(z ++ octS x.toNat, o'), ⟨?_, _, ho'⟩, subF_of ⟨rfl, trivial⟩, fun _ h => h, fun p hp => ?_⟩)
   ·show z ++ octS x.toNat = _
    rw [hz, ← textS_snoc, List.take_add_one, hdx]; rfl
   ·rw [List.mem_singleton.mp hp]; exact hnI (k.L + 1, o) (.head _)
  ·show closureFor _ (envX _ _ _ _ _ k.cl) = _
   rw [hcl]; rfl
 ·rintro ⟨z, o⟩ ⟨hz, _⟩
  dsimp only at hz
  refine vcS_sound 1 fun t => hR _ _ ⟨t, ?_⟩
  rw [show its.length = d.length by rw [hi.length, byteInts_len], List.take_length] at hz
  rw [hz]; rfl
end
noncomputable def bitS (bs : List Nat) : Str := ⟨(bs.map (48 + ·)).toArray⟩
theorem bitS_len (bs : List Nat) : (bitS bs).length = bs.length := by simp [bitS, Str.length]
theorem bitS_append (a b : List Nat) : bitS a ++ bitS b = bitS (a ++ b) := by
 show Str.append _ _ = _
 simp [bitS, Str.append]
noncomputable def octN (l : List Nat) (j : Nat) : Nat := ((List.range 8).map fun i => l.getD (8 * j + i) 0 * 2 ^ (7 - i)).sum
noncomputable def padB (c : Nat) (bs : List Nat) : List Nat := bs ++ List.replicate (8 * c - bs.length) 0
noncomputable def toldB (c : Nat) (bs : List Nat) : List UInt8 := le4 bs.length ++ (List.range c).map fun j => UInt8.ofNat (octN (padB c bs) j)
theorem getD_bs {l : List Nat} {i : Nat} (h : i < l.length) : l[i]? = some (l.getD i 0) := by rw [List.getD_eq_getElem?_getD, List.getElem?_eq_getElem h]; rfl
theorem bitS_item {l : List Nat} {i : Nat} (h : i < l.length) : Txt.item (bitS l) (i : Int) = bitS [l.getD i 0] := by
 have h1 := getD_bs h
 have hs : seqIndex? (i : Int) (bitS l).length = some i := by
  rw [bitS_len]
  unfold seqIndex?
  rw [if_neg (by lia : ¬ (i : Int) < 0)]
  show (if (decide ((0 : Int) ≤ (i : Int)) && decide ((i : Int) < (l.length : Int))) = true then some (i : Int).toNat else none) = some i
  rw [if_pos (by simp; lia)]
  rfl
 have hc : (bitS l).cps[i]? = some (48 + l.getD i 0) := by
  show ((l.map (48 + ·)).toArray)[i]? = _
  rw [List.getElem?_toArray, List.getElem?_map, h1]; rfl
 unfold Txt.item Txt.charAt
 rw [hs]
 show (⟨#[((bitS l).cps[i]?).getD 0]⟩ : Str) = _
 rw [hc]
 rfl
theorem foldl_one : ∀ (n : Nat) (z : Array Nat), (List.replicate n #[48]).foldl (· ++ ·) z = z ++ (List.replicate n 48).toArray
 | 0, z => by simp
 | n + 1, z => by
  rw [List.replicate_succ, List.foldl_cons, foldl_one n, List.replicate_succ]
  apply Array.toList_inj.mp
  simp
theorem bitS_mul (n : Nat) : Txt.mul (Str.ofString "0") (n : Int) = bitS (List.replicate n 0) := by
 have hz : (Str.ofString "0") = ⟨#[48]⟩ := by decide
 rw [hz]
 unfold Txt.mul
 by_cases h0 : (n : Int) < 1
 ·have : n = 0 := by lia
  subst this
  rw [if_pos h0]; rfl
 ·rw [if_neg h0]
  split
  ·rename_i h1
   have : n = 1 := by
    simp [Str.length] at h1
    lia
   subst this; rfl
  ·show (⟨_⟩ : Str) = ⟨_⟩
   congr 1
   rw [Int.toNat_natCast, foldl_one]
   apply Array.toList_inj.mp
   simp
theorem bitS_inj {a b : List Nat} (h : bitS a = bitS b) : a = b := by
 unfold bitS at h
 injection h with h
 have h1 : a.map (48 + ·) = b.map (48 + ·) := by simpa using congrArg Array.toList h
 have : ∀ {a b : List Nat}, a.map (48 + ·) = b.map (48 + ·) → a = b := by
  intro a
  induction a with
  | nil => intro b h; cases b with | nil => rfl | cons y b => cases h
  | cons x a ih =>
   intro b h
   cases b with
   | nil => cases h
   | cons y b =>
    rw [List.map_cons, List.map_cons] at h
    injection h with h1 h2
    rw [ih h2]
    congr 1
    lia
 exact this h1
theorem one_bitS : Str.ofString "1" = bitS [1] := by decide
theorem bit_eq2 {x : Nat} : (bitS [x] == Str.ofString "1") = decide (x = 1) := by
 rw [one_bitS]
 by_cases h : x = 1
 ·subst h; simp
 ·have : bitS [x] ≠ bitS [1] := fun e => h (by have := bitS_inj e; simpa using this)
  simp [h, this]
section
variable {w : World} {Ar : Around} {E : Value → Shared → Prop} {s : Shared} {value slice : PySem.Expr} {t u : Tok} {Q : Value → Shared → Prop}
theorem bit_item9 {l : List Nat} {i : Int} (h0 : 0 ≤ i) (hj : i.toNat < l.length) (hz : l.length ≤ 1000) (h : Q (.str (bitS [l.getD i.toNat 0]) s.toks) { s with toks := s.toks + 1 })
  (hs : autoParam (subscripted slice false (.str (bitS l) t) (.int i u) = operate [.str (bitS l) t, .int i u] (getItem (.str (bitS l) t) (.int i u))) sub_K._auto_1)
  (ht : autoParam (∀ r, letTemporaryGo value (.str (bitS l) t) r = pure ()) kim_tup._auto_3) :
  wpAny (model PR w) Ar (subscriptTail value slice (.str (bitS l) t) (.int i u)) Q E s := by
 obtain ⟨n, rfl⟩ := Int.eq_ofNat_of_zero_le h0
 have e := bitS_item (l := l) (i := n) hj
 refine KXi.item (bitS_len l) (by lia) (by rw [Int.toNat_natCast] at hj; lia) (by lia) (fun _ => ?_) hs ht
 rw [e]; exact h
theorem eq_bit9 {x : Nat} (h : Q (.bool (decide (x = 1))) s) : wpAny (model PR w) Ar (compareOp .Eq (.str (bitS [x]) t) (.str (Str.ofString "1") u)) Q E s :=
 eq_str (by rw [bit_eq2]; exact h)
end
noncomputable def bitsI (l : List Nat) (j i : Nat) : List Int := (List.range i).flatMap fun t => if l.getD (8 * j + t) 0 = 1 then [((2 ^ (7 - t) : Nat) : Int)] else []
theorem bitsI_succ (l : List Nat) (j i : Nat) : bitsI l j (i + 1) = if l.getD (8 * j + i) 0 = 1 then bitsI l j i ++ [((2 ^ (7 - i) : Nat) : Int)] else bitsI l j i := by
 unfold bitsI
 rw [List.range_succ, List.flatMap_append, List.flatMap_cons, List.flatMap_nil, List.append_nil]
 by_cases h : l.getD (8 * j + i) 0 = 1
 ·rw [if_pos h, if_pos h]
 ·rw [if_neg h, if_neg h, List.append_nil]
theorem bitsI_sum {l : List Nat} (hb : ∀ x ∈ l, x < 2) (j : Nat) : ∀ i, (bitsI l j i).sum = ((((List.range i).map fun t => l.getD (8 * j + t) 0 * 2 ^ (7 - t)).sum : Nat) : Int)
 | 0 => rfl
 | i + 1 => by
  have h1 : l.getD (8 * j + i) 0 < 2 := by
   rw [List.getD_eq_getElem?_getD]
   cases h : l[8 * j + i]? with
   | none => simp
   | some x => exact hb x (List.mem_of_getElem? h)
  have ih := bitsI_sum hb j i
  rw [bitsI_succ, List.range_succ, List.map_append, List.sum_append, List.map_cons, List.map_nil, List.sum_cons, List.sum_nil]
  by_cases h : l.getD (8 * j + i) 0 = 1
  ·rw [if_pos h, List.sum_append, ih, h, List.sum_cons, List.sum_nil]
   lia
  ·have h0 : l.getD (8 * j + i) 0 = 0 := by lia
   rw [if_neg h, ih, h0]
   lia
noncomputable abbrev HT := List (List Nat × UInt8)
noncomputable def setH (H : HT) (k : List Nat) (b : UInt8) : HT := H.map fun p => if p.1 = k then (k, b) else p
noncomputable def putH (H : HT) (k : List Nat) (b : UInt8) : HT := if k ∈ H.map (·.1) then setH H k b else H ++ [(k, b)]
noncomputable def okIs : Option (List Nat) → Value → Bool
 | none, .none => true
 | some k, .str x _ => x == bitS k
 | _, _ => false
theorem okIs_none {v : Value} (h : okIs none v = true) : v = .none := by cases v <;> simp_all [okIs]
theorem okIs_some {k : List Nat} {v : Value} (h : okIs (some k) v = true) : ∃ t, v = .str (bitS k) t := by
 cases v <;> simp_all [okIs]
theorem okIs_str (k : List Nat) (t : Tok) : okIs (some k) (.str (bitS k) t) = true := by simp [okIs]
theorem okIs_inj (v : Value) (a b : Option (List Nat)) (ha : okIs a v = true) (hb : okIs b v = true) : a = b := by
 cases a with
 | none =>
  have := okIs_none ha
  subst this
  cases b with
  | none => rfl
  | some l => simp [okIs] at hb
 | some k =>
  obtain ⟨t, rfl⟩ := okIs_some ha
  cases b with
  | none => simp [okIs] at hb
  | some l =>
   have e : bitS k = bitS l := by simpa [okIs] using hb
   rw [bitS_inj e]
noncomputable def okHash (w : World) : Option (List Nat) → Int
 | none => reduceHash 0xFCA86420
 | some k => hashStr w (bitS k)
noncomputable def okKind (w : World) : PySem.KeyKind PR w (Option (List Nat)) where
 is := okIs
 hash := okHash w
 inj := okIs_inj
 byValue := fun k v h => by
  cases k with
  | none => rw [okIs_none h]; rfl
  | some k => obtain ⟨t, rfl⟩ := okIs_some h; rfl
 pyHash := fun {A E s k v Q} hv h => by
  cases k with
  | none =>
   rw [okIs_none hv]
   exact pyHash_slot (T := "NoneType") rfl F.slot_NoneType_hash F.entry_NoneType_hash (F.args_NoneType_hash_1 _) (beq_builtin_none _) (.inl rfl) (wpAny_bind (wpAny_pure (wpAny_bind (wpAny_mkInt (wpAny_pure ⟨_, _, rfl, h⟩)))))
  | some k => obtain ⟨t, rfl⟩ := okIs_some hv; exact wpAny_pyHash_str h
 eqBool := fun {A E s a b u v Q} hu hv h => by
  cases a with
  | none =>
   rw [okIs_none hu]
   cases b with
   | none =>
    rw [okIs_none hv]
    unfold eqBool
    refine wpAny_holding ?_
    refine wpAny_ite_split (fun _ => wpAny_bind (wpAny_rule (wpAny_pure (by simpa using h)))) (fun hab => absurd rfl hab)
   | some l => obtain ⟨t, rfl⟩ := okIs_some hv; exact PySem.SeqAt.EqAt.none_str _ _ _ _ _ _ (by simpa using h)
  | some k =>
   obtain ⟨t, rfl⟩ := okIs_some hu
   cases b with
   | none => rw [okIs_none hv]; exact PySem.SeqAt.EqAt.str_none _ _ _ _ _ _ (by simpa using h)
   | some l =>
    obtain ⟨t', rfl⟩ := okIs_some hv
    refine wpAny_eqBool_str ?_
    have e : decide (bitS k = bitS l) = decide (some k = some l) := by
     by_cases hkl : k = l
     ·subst hkl; simp
     ·rw [decide_eq_false (fun e => hkl (bitS_inj e)), decide_eq_false (fun e => hkl (Option.some.inj e))]
    rw [e]; exact h
 «strs» := fun k x t v h => by
  cases k with
  | none => simp [okIs] at h
  | some k =>
   have e : x = bitS k := by simpa [okIs] using h
   subst e
   cases v <;> rfl
inductive KVs : List (Option (List Nat) × Value) → HT → Prop
 | nil : KVs [] []
 | cons (k : List Nat) (b : UInt8) (t : Tok) {kvs : List (Option (List Nat) × Value)} {H : HT} : KVs kvs H → KVs ((some k, .bytes #[b] t) :: kvs) ((k, b) :: H)
theorem KVs.length {kvs : List (Option (List Nat) × Value)} {H : HT} (h : KVs kvs H) : kvs.length = H.length := by
 induction h with
 | nil => rfl
 | cons _ _ _ _ ih => simp [ih]
theorem KVs.get {kvs : List (Option (List Nat) × Value)} {H : HT} (h : KVs kvs H) : ∀ {i : Nat} {k : Option (List Nat)} {x : Value}, kvs[i]? = some (k, x) → ∃ p, H[i]? = some p ∧ k = some p.1 := by
 induction h with
 | nil => intro i k x hi; simp at hi
 | cons k b t _ ih =>
  intro i k' x hi
  cases i with
  | zero => simp at hi; exact ⟨(k, b), rfl, hi.1.symm⟩
  | succ i => simp at hi; simpa using ih hi
theorem KVs.val {kvs : List (Option (List Nat) × Value)} {H : HT} (h : KVs kvs H) : ∀ {k : List Nat} {b : UInt8}, (H.map (·.1)).Nodup → (k, b) ∈ H → ∃ t, valueAt kvs (some k) = some (.bytes #[b] t) := by
 induction h with
 | nil => intro k b _ hm; cases hm
 | @cons k b t kvs H h ih =>
  intro k' b' hn hm
  rw [List.map_cons, List.nodup_cons] at hn
  unfold valueAt
  rw [List.find?_cons]
  by_cases e : k = k'
  ·subst e
   rcases List.mem_cons.mp hm with e2 | hm
   ·injection e2 with _ e2
    subst e2
    simp
   ·exact absurd (List.mem_map.mpr ⟨_, hm, rfl⟩) hn.1
  ·rcases List.mem_cons.mp hm with e2 | hm
   ·injection e2 with e2; exact absurd e2.symm e
   ·simp only [Option.some.injEq, e, decide_false]
    exact ih hn.2 hm
theorem KVs.isSome {kvs : List (Option (List Nat) × Value)} {H : HT} (h : KVs kvs H) (k : Option (List Nat)) : (valueAt kvs k).isSome = (match k with | some k => decide (k ∈ H.map (·.1)) | none => false) := by
 induction h with
 | nil => cases k <;> rfl
 | @cons k' b t kvs H h ih =>
  unfold valueAt at ih ⊢
  rw [List.find?_cons]
  cases k with
  | none => simpa using ih
  | some k =>
   by_cases e : k' = k
   ·subst e; simp
   ·have e' : ¬ k = k' := fun h => e h.symm
    simp only [Option.some.injEq, e, decide_false] at ih ⊢
    rw [ih]
    simp [e']
theorem KVs.stored {kvs : List (Option (List Nat) × Value)} {H : HT} (h : KVs kvs H) (k : List Nat) (b : UInt8) (t : Tok) : KVs (stored kvs (some k) (.bytes #[b] t)) (putH H k b) := by
 have hs : kvs.any (fun kv => kv.1 = some k) = decide (k ∈ H.map (·.1)) := by
  induction h with
  | nil => rfl
  | @cons k' b' t' kvs H h ih =>
   rw [List.any_cons, ih]
   by_cases e : k' = k
   ·subst e; simp
   ·have e' : ¬ k = k' := fun h => e h.symm
    simp [e, e']
 unfold PySem.stored putH
 rw [hs]
 by_cases hk : k ∈ H.map (·.1)
 ·rw [if_pos (decide_eq_true hk), if_pos hk]
  clear hs hk
  unfold setH
  induction h with
  | nil => exact .nil
  | @cons k' b' t' kvs H h ih =>
   rw [List.map_cons, List.map_cons]
   by_cases e : k' = k
   ·subst e
    simp only [if_true]
    exact .cons _ _ _ ih
   ·simp only [Option.some.injEq, e, if_false]
    exact .cons _ _ _ ih
 ·rw [if_neg (by simpa using hk), if_neg hk]
  clear hs hk
  induction h with
  | nil => exact .cons _ _ _ .nil
  | @cons k' b' t' kvs H h ih => exact .cons _ _ _ ih
theorem KVs.without {kvs : List (Option (List Nat) × Value)} {H : HT} (h : KVs kvs H) (k : List Nat) : KVs (without kvs (some k)) (H.filter fun p => decide (p.1 ≠ k)) := by
 unfold PySem.without
 induction h with
 | nil => exact .nil
 | @cons k' b' t' kvs H h ih =>
  by_cases e : k' = k
  ·subst e
   rw [List.filter_cons_of_neg (by simp), List.filter_cons_of_neg (by simp)]
   exact ih
  ·rw [List.filter_cons_of_pos (by simpa using e), List.filter_cons_of_pos (by simpa using e)]
   exact .cons _ _ _ ih
noncomputable def HD (w : World) (o : Obj) (H : HT) : Prop := ∃ kvs, o.IsDictOf (okKind w) kvs ∧ KVs kvs H
section
variable {w : World} {Ar : Around} {E : Value → Shared → Prop} {s : Shared} {g : Heap} {L : Addr} {m : Str → Option Value} {news : Led} {d : Addr} {o : Obj} {H : HT} {k : Option (List Nat)} {tv : Value} {value slice : PySem.Expr}
noncomputable def inH (H : HT) (k : Option (List Nat)) : Bool := match k with | some k => decide (k ∈ H.map (·.1)) | none => false
theorem held_in {Q : Value → Shared → Prop} (ho : s.heap.get? d = some o) (hd : HD w o H) (lo : (d == sysModules) = false) (hk : okIs k tv = true) (h : Q (.bool (inH H k)) { s with toks := s.toks + 1 }) :
  wpAny (model PR w) Ar (compareOp .In tv (.ref d)) Q E s := by
 obtain ⟨kvs, h1, h2⟩ := hd
 have hD : s.heap.DictOf (okKind w) d kvs := Heap.dictOf_iff.mpr ⟨o, ho, h1⟩
 refine wpAny_in_of (knd := okKind w) (k := k) hk lo hD.mapOf ?_
 rw [h2.isSome]; exact h
theorem held_notin {Q : Value → Shared → Prop} (ho : s.heap.get? d = some o) (hd : HD w o H) (lo : (d == sysModules) = false) (hk : okIs k tv = true) (h : Q (.bool (!inH H k)) { s with toks := s.toks + 1 }) :
  wpAny (model PR w) Ar (compareOp .NotIn tv (.ref d)) Q E s := by
 obtain ⟨kvs, h1, h2⟩ := hd
 have hD : s.heap.DictOf (okKind w) d kvs := Heap.dictOf_iff.mpr ⟨o, ho, h1⟩
 refine wpAny_notIn_of (knd := okKind w) (k := k) hk lo hD.mapOf ?_
 rw [h2.isSome]; exact h
theorem held_len {Q : Value → Shared → Prop} (ho : s.heap.get? d = some o) (hd : HD w o H) (lo : (d == sysModules) = false) (hz : H.length ≤ 1000) (h : ∀ t k, Q (.int (H.length : Int) t) { s with toks := k }) :
  wpAny (model PR w) Ar (call (.builtin "len") [.ref d]) Q E s := by
 obtain ⟨kvs, h1, h2⟩ := hd
 have hD : s.heap.DictOf (okKind w) d kvs := Heap.dictOf_iff.mpr ⟨o, ho, h1⟩
 refine call_len_dict lo hD (by rw [h2.length]; lia) ?_
 rw [h2.length]; exact h _ _
theorem held_item {Q : Value → Shared → Prop} {b : UInt8} {kk : List Nat} {x : Str} {t : Tok} (ho : s.heap.get? d = some o) (hd : HD w o H) (hx : x = bitS kk) (hn : (H.map (·.1)).Nodup) (hb : (kk, b) ∈ H) (h : ∀ t k, Q (.bytes #[b] t) { s with toks := k })
  (hs : autoParam (subscripted slice false (.ref d) (.str x t) = operate [.ref d, .str x t] (getItem (.ref d) (.str x t))) sub_K._auto_1) (hg : autoParam (∀ r, letTemporaryGo value (.ref d) r = pure ()) kim_tup._auto_3) :
  wpAny (model PR w) Ar (subscriptTail value slice (.ref d) (.str x t)) Q E s := by
 obtain ⟨kvs, h1, h2⟩ := hd
 have hD : s.heap.DictOf (okKind w) d kvs := Heap.dictOf_iff.mpr ⟨o, ho, h1⟩
 obtain ⟨tb, hv⟩ := h2.val hn hb
 exact subscriptTail_builtin hD.typeIs slot_dict_getitem.lookup (wpAny_getItem_of (knd := okKind w) (k := some kk) (by rw [hx]; exact okIs_str kk t) hD.mapOf hv (h _ _)) hs hg
theorem held_set {Q : Unit → Shared → Prop} {b : UInt8} {kk : List Nat} {t tb : Tok} {gg : Obj → Led} (F : Fr g L s.heap m) (N : News g L s.heap news) (U : UpdF d o news gg) (hd : HD w o H) (hz : H.length ≤ 1000)
  (h : ∀ h' o' k, Fr g L h' m → News g L h' (gg o') → HD w o' (putH H kk b) → Q () { s with heap := h', toks := k }) : wpAny (model PR w) Ar (setItem (.ref d) (.str (bitS kk) t) (.bytes #[b] tb)) Q E s := by
 obtain ⟨kvs, h1, h2⟩ := hd
 exact kda_set (knd := okKind w) (k := some kk) F N U h1 (okIs_str kk t) (by rw [h2.length, sizeLine_eq]; lia) fun h' o' F' N' hd' => h h' o' _ F' N' ⟨_, hd', h2.stored kk b tb⟩
theorem held_pop {Q : Value → Shared → Prop} {b : UInt8} {kk : List Nat} {t : Tok} {gg : Obj → Led} (F : Fr g L s.heap m) (N : News g L s.heap news) (U : UpdF d o news gg) (hd : HD w o H) (hz : H.length ≤ 1000) (hn : (H.map (·.1)).Nodup) (hb : (kk, b) ∈ H)
  (h : ∀ h' o' v k, Fr g L h' m → News g L h' (gg o') → HD w o' (H.filter fun p => decide (p.1 ≠ kk)) → Q v { s with heap := h', toks := k }) : wpAny (model PR w) Ar (call (.builtin "dict.pop") [.ref d, .str (bitS kk) t]) Q E s := by
 obtain ⟨kvs, h1, h2⟩ := hd
 obtain ⟨tb, hv⟩ := h2.val hn hb
 exact kob_pop (knd := okKind w) (k := some kk) (more := []) F N U h1 (okIs_str kk t) (.inl rfl) (by rfl) (PySem.F.args_dict_pop_2 _ _) hv (by rw [h2.length, sizeLine_eq]; lia) fun h' o' F' N' hd' => h h' o' _ _ F' N' ⟨_, hd', h2.without kk⟩
theorem held_meth {pl : Sem Bool} {Q : Value × List Value → Shared → Prop} (ho : s.heap.get? d = some o) (hd : HD w o H) (h : Q (.builtin "dict.pop", [.ref d]) s) : wpAny (model PR w) Ar (getMethod (.ref d) (Str.ofString "pop") pl) Q E s := by
 obtain ⟨kvs, h1, h2⟩ := hd
 have hD : s.heap.DictOf (okKind w) d kvs := Heap.dictOf_iff.mpr ⟨o, ho, h1⟩
 exact getMethod_builtin hD.typeIs PySem.F.plainAttrs_dict PySem.F.slot_dict_pop PySem.F.type_dict_pop hD.mapOf.noDict h
end
theorem HD.empty {w : World} {K : Type} [DecidableEq K] {knd : PySem.KeyKind PR w K} {o : Obj} (h : o.IsDictOf knd []) : HD w o [] := by
 obtain ⟨es, ep, h1, h2, h3, h4, h5⟩ := h
 refine ⟨[], ⟨es, ep, h1, h2, ?_, ?_, List.nodup_nil⟩, .nil⟩
 ·have e : es.toList = [] := by
   generalize es.toList = l at h4
   cases h4; rfl
  intro x hx
  have := Array.mem_toList_iff.mpr hx
  rw [e] at this; cases this
 ·generalize es.toList = l at h4 ⊢
  cases h4; exact .nil
section
open LCg LCt
variable {w : World} {A : Around} {E : Value → Shared → Prop} {s : Shared} {h₀ : Heap} {L : Addr} {m : Str → Option Value} {env : Env}
theorem held_walks (hh : A.handled = none) (I d : Addr) (hne : d ≠ I) (kvs : List (Option (List Nat) × Value)) (H : HT) (hk : KVs kvs H) (ep : Nat) :
  Walks PR w A I [I, d] [I] H.length (fun i v => ∃ p, H[i]? = some p ∧ ∃ t, v = .str (bitS p.1) t) (fun i h => h.IsKeyIter I d i kvs.length ep ∧ h.DictAt (okKind w) d kvs ep) := by
 have W := Walks.dictKeys (prog := PR) (w := w) (knd := okKind w) hh I d hne kvs ep
 rw [hk.length] at W
 rw [hk.length]
 refine { sub := W.sub, frame := W.frame, done := W.done, self := W.self, item := fun i s Q E hi st hQ => W.item i s Q E hi st fun v h' tk hP => hQ v h' tk ?_ }
 obtain ⟨k, x, hx, hv⟩ := hP
 obtain ⟨p, hp, rfl⟩ := hk.get hx
 obtain ⟨t, rfl⟩ := okIs_some (show okIs (some p.1) v = true from hv)
 exact ⟨p, hp, t, rfl⟩
theorem held_st {I d : Addr} {o₀ : Obj} {kvs : List (Option (List Nat) × Value)} {ep : Nat} (hd₀ : h₀.get? d = some o₀) (hD : ∀ h : Heap, h.get? d = some o₀ → h.DictAt (okKind w) d kvs ep) : ∀ i (h h' : Heap) (o : Obj) (nw : Led), (h.IsKeyIter I d i kvs.length ep ∧ h.DictAt (okKind w) d kvs ep) → h.get? I = some o → h'.get? I = some o → (∀ b o, h₀.get? b = some o → h'.get? b = some o) → News h₀ L h' nw → True → (h'.IsKeyIter I d i kvs.length ep ∧ h'.DictAt (okKind w) d kvs ep) :=
 fun i h h' o nw st e e' k _ _ => ⟨by obtain ⟨o', q, r⟩ := st.1; rw [e] at q; cases q; exact ⟨o, e', r⟩, hD h' (k _ _ hd₀)⟩
end
structure LayP (T T' : TS) (sl : Int) (b : UInt8) : Prop where
 nodes : T'.nodes = T.nodes
 used : T'.used = T.used
 frees : T'.frees = T.frees
 len : T'.vals.length ≤ T.vals.length + 1
 here : ∃ p, getV T' sl = some (p, b)
 other : ∀ j, j ≠ sl → getV T' j = getV T j
theorem layP_set {T : TS} {sl : Int} {p0 : Addr} {u b : UInt8} (hn : (T.vals.map (·.1)).Nodup) (hv : getV T sl = some (p0, u)) : LayP T (setV T (T.vals.map fun p => if p.1 = sl then (sl, p0, b) else p)) sl b := by
 have hm := (find_keys hn).mp hv
 have hk : ∀ p : Int × Addr × UInt8, (if p.1 = sl then (sl, p0, b) else p).1 = p.1 := by
  intro p
  split
  ·rename_i h; exact h.symm
  ·rfl
 have hn' : ((T.vals.map fun p => if p.1 = sl then (sl, p0, b) else p).map (·.1)).Nodup := by
  rw [List.map_map]
  have : ((fun x : Int × Addr × UInt8 => x.1) ∘ fun p => if p.1 = sl then (sl, p0, b) else p) = (·.1) := funext fun p => hk p
  rw [this]; exact hn
 have e1 : ∀ j v, getV (setV T (T.vals.map fun p => if p.1 = sl then (sl, p0, b) else p)) j = some v ↔ (j, v) ∈ T.vals.map fun p => if p.1 = sl then (sl, p0, b) else p := fun j v => find_keys hn'
 have e2 : ∀ j v, getV T j = some v ↔ (j, v) ∈ T.vals := fun j v => find_keys hn
 refine ⟨rfl, rfl, rfl, by simp [setV], ⟨p0, (e1 _ _).mpr (List.mem_map.mpr ⟨_, hm, by simp⟩)⟩, fun j hj => ?_⟩
 have key : ∀ v, getV (setV T (T.vals.map fun p => if p.1 = sl then (sl, p0, b) else p)) j = some v ↔ getV T j = some v := by
  intro v
  rw [e1, e2]
  constructor
  ·intro h
   obtain ⟨q, hq, e⟩ := List.mem_map.mp h
   split at e
   ·injection e with e3 _; exact absurd e3.symm hj
   ·rw [← e]; exact hq
  ·intro h
   exact List.mem_map.mpr ⟨_, h, by simp [hj]⟩
 cases h1 : getV T j with
 | some v => exact (key v).mpr h1
 | none =>
  cases h2 : getV (setV T (T.vals.map fun p => if p.1 = sl then (sl, p0, b) else p)) j with
  | none => rfl
  | some v => rw [(key v).mp h2] at h1; cases h1
theorem layP_add {T : TS} {sl : Int} {p0 : Addr} {b : UInt8} (hv : getV T sl = none) : LayP T (setV T (T.vals ++ [(sl, p0, b)])) sl b := by
 unfold getV at hv
 rw [Option.map_eq_none_iff] at hv
 refine ⟨rfl, rfl, rfl, by simp [setV], ⟨p0, ?_⟩, fun j hj => ?_⟩
 ·unfold getV setV
  dsimp only
  rw [List.find?_append, hv]
  simp
 ·unfold getV setV
  dsimp only
  rw [List.find?_append]
  cases h1 : T.vals.find? fun p => p.1 == j with
  | some p => simp
  | none => simp; exact fun e => hj e.symm
section
variable {w : World} {Ar : Around} {E : Value → Shared → Prop} {s : Shared} {g : Heap} {L : Addr} {m : Str → Option Value} {news : Led} {A : TA} {T : TS} {D : Led} {root : Int} {rt : Tok}
theorem lay_set9 {sl : Int} {pv : Addr} {u b : UInt8} {t : Tok} {k : Nat} {os : Obj} {Q : Unit → Shared → Prop} (hg : Ar.guards = some []) (F : Fr g L s.heap m) (N : News g L s.heap news) (hs : ∀ p ∈ TP A root rt D, p ∈ news) (R : TR w A T D) (hv : getV T sl = some (pv, u)) (ho : os = { cls := Value.type "slice", data := .fields #[.none, .none, .none] })
  (h : ∀ h' T' D', Fr g L h' m → News g L h' (TP A root rt D') → TR w A T' D' → LayP T T' sl b → Q () { s with heap := h', toks := k }) :
  wpG (model PR w) Ar (setItem (.ref pv) (.ref s.heap.objs.size) (.bytes #[b] t)) Q E { s with heap := s.heap.push os, toks := k } := by
 subst ho
 have hm := getV_mem hv
 have hb := R.val _ hm
 have P := R.disP
 have N1 := tp_out N hs hb
 have r1 : ∀ p ∈ TP A root rt (D.filter fun p => !(p.1 == pv)), p.1 ≠ pv := tp_rest (P.fv _ (by simp [fixA]) _ hm) (P.fv _ (by simp [fixA]) _ hm)
 have hp0 := N1 _ (.head _)
 have hlt := Heap.lt_size hp0.1
 refine setItem_ba_G (s := { s with heap := s.heap.push _, toks := k }) hg (Heap.get?_push_of_some _ hp0.1) (Heap.IsSliceOf.new _ _ _ _) fun h₁ h' hS hS' hget => ?_
 have keep1 : ∀ a o, s.heap.get? a = some o → h₁.get? a = some o := fun a o ha => hS.extBut a o (Nat.ne_of_lt (Nat.lt_of_lt_of_le (Heap.lt_size ha) (by show s.heap.objs.size ≤ (s.heap.push _).objs.size; rw [Heap.size_push]; exact Nat.le_succ _))) (Heap.get?_push_of_some _ (Heap.get?_push_of_some _ ha))
 have F1 : Fr g L h₁ m := F.keeps keep1
 have F2 : Fr g L h' m := F1.change hS' hp0.2.1 hp0.2.2
 refine h h' _ (put D pv (baObj b)) F2 (tp_in fun p hp => ?_) (R.setB hv put_here fun p hp hne => put_ne hp hne) (layP_set R.vkeys hv)
 rcases List.mem_cons.mp hp with rfl | hp
 ·exact ⟨hget, hp0.2⟩
 ·have := N1 _ (.tail _ hp)
  exact ⟨hS'.extBut _ _ (r1 p hp) (keep1 _ _ this.1), this.2⟩
theorem lay_new9 {sl : Int} {b : UInt8} {r : Addr} {t : Tok} {Q : Unit → Shared → Prop} (F : Fr g L s.heap m) (N : News g L s.heap ((r, baObj b) :: TP A root rt D)) (R : TR w A T D) (hv : getV T sl = none) (hz : T.vals.length + 1 ≤ 1000) (hr : ∀ p ∈ TP A root rt D, p.1 < r)
  (h : ∀ h' T' D', Fr g L h' m → News g L h' (TP A root rt D') → TR w A T' D' → LayP T T' sl b → Q () { s with heap := h', toks := s.toks + 1 }) :
  wpAny (model PR w) Ar (setItem (.ref A.vd) (.int sl t) (.ref r)) Q E s := by
 have P := R.disP
 obtain ⟨n1, n2, n3, n4, n5, n6, n7, n8, n9, n10, n11, n12, n13, n14, n15⟩ := fixNe P
 have hne : ∀ y ∈ tAddrs A T, y ≠ r := fun y hy e => by
  obtain ⟨o, ho⟩ := taddr_mem R root rt y hy
  exact Nat.ne_of_lt (hr _ ho) e
 have N1 : News g L s.heap (TP A root rt (D ++ [(r, baObj b)])) := by
  intro p hp
  rcases List.mem_cons.mp hp with rfl | hp
  ·exact N _ (.tail _ (.head _))
  rcases List.mem_cons.mp hp with rfl | hp
  ·exact N _ (.tail _ (.tail _ (.head _)))
  rcases List.mem_append.mp hp with hp | hp
  ·exact N _ (.tail _ (.tail _ (.tail _ hp)))
  ·rw [List.mem_singleton.mp hp]
   exact N _ (.head _)
 obtain ⟨o, ho, hd⟩ := R.vd
 refine kda_set (knd := ik w) F (tp_out N1 (fun _ h => h) (List.mem_append_left _ ho)) (UpdF.head (tp_rest n2 n6)) hd (isI w sl t) (by rw [List.length_map, sizeLine_eq]; have := R.sz.2.2.1; lia) ?_
 intro h' o' F' N' hd'
 refine h h' _ _ F' (tp_in N') (R.addV (put_ne (List.mem_append_right _ (.head _)) (hne A.vd (by simp [tAddrs])).symm) ⟨o', put_here, ?_⟩ (fun p hp hne => put_ne (List.mem_append_left _ hp) hne) hne hz) (layP_add hv)
 have e : stored (T.vals.map fun p => (p.1, Value.ref p.2.1)) sl (.ref r) = (T.vals.map fun p => (p.1, Value.ref p.2.1)) ++ [(sl, .ref r)] := by
  unfold stored
  rw [if_neg]
  simp only [List.any_map, List.any_eq_true, not_exists, not_and, Function.comp_apply, decide_eq_true_eq]
  intro x hx e
  unfold getV at hv
  rw [Option.map_eq_none_iff, List.find?_eq_none] at hv
  exact hv x hx (by simpa using e)
 rw [← e]; exact hd'
end
section
variable {d : Df} {c : Cx} {l : Fs} {N : Led} {A : TA} {T : TS} {root : Int} {rt : Tok} {D : Led} {K : KE}
theorem CmpS.vals_in {sl : Int} {KT KF : Led → Prop} (hT : TrO d.w c N A T root) (h : condP (getV T sl).isSome (KT N) (KF N)) : CmpS d c l .In (.i sl) (.v (.ref A.vd)) N KT KF := fun t u s Q hS hQ => by
 obtain ⟨rt, D, R, hA⟩ := hT.at hS
 exact Mine.vals_in hA.tail.tail R (hQ _ N _ (fun e => h.elim (fun _ k => k) fun e2 _ => by rw [e] at e2; cases e2) (fun e => h.elim (fun e2 _ => by rw [e] at e2; cases e2) fun _ k => k) (hS.tok _))
theorem SetIS.vals {sl : Int} {b : UInt8} {r : Addr} {K : Led → Prop} (R : TR d.w A T D) (hv : getV T sl = none) (hz : T.vals.length + 1 ≤ 1000) (hr : ∀ p ∈ TP A root rt D, p.1 < r) (h : ∀ T' D', TR d.w A T' D' → LayP T T' sl b → K (TP A root rt D')) :
  SetIS d c l (.v (.ref A.vd)) (.i sl) (.v (.ref r)) ((r, baObj b) :: TP A root rt D) K := fun t u v s Q hS hQ => by
 obtain ⟨ok, ⟨hp, tk, rfl⟩, ⟨m, F, H⟩, hN⟩ := hS
 exact lay_new9 F hN R hv hz hr fun h' T' D' F' N' R' hL => hQ _ _ (h T' D' R' hL) ⟨ok, ⟨_, _, rfl⟩, ⟨m, F', H⟩, N'⟩
theorem RawEG.ba {x : Str} {p pos : Pos} {e : PySem.Expr} (hf : BuiltAt d.w x (.type "bytearray")) (h : vc d c 30 (.L l N [e] fun shs N1 => ∃ b : Array UInt8, shs = [.b b] ∧ b.size ≤ 1000 ∧ ∀ r, (∀ p ∈ N1, p.1 < r) → K (.v (.ref r)) ((r, { cls := .type "bytearray", data := .bytearray b 0 }) :: N1)))
  (hx : autoParam ((cE d c).kindOf x = some .globalImplicit) name_B._auto_3) (hd : autoParam ((x == ("__debug__" : Str)) = false) ldc._auto_1) (hp : autoParam (plainE e = true) name_B._auto_3) (hgl : GlEnv (cE d c) := by exact ⟨rfl, rfl, rfl⟩)
  (hc : autoParam (eval (.Call (.Name x p) [e] [] pos) (cE d c) = (do callWith pos (← eval (.Name x p) (cE d c)) [] (backTo pos (starEach [e] (cE d c))) (backToKw pos (keywordEach [] (cE d c))))) name_B._auto_3) :
  RawEG d c l N (.Call (.Name x p) [e] [] pos) K := fun s Q hS hQ => by
 refine wpG_Call (nameB hS hf.1 hf.2.1 hf.2.2 ?_ hx hd hgl) hc
 refine wpG_callWith_type1 ?_ (starEach_plain hp) rfl
 refine vc_sound 30 _ h pos 0 s _ hS ?_
 rintro ts _ N1 s1 ⟨b, rfl, hz, k⟩ hS1
 refine call_ba_G rfl hz fun h₁ hget hSB => ?_
 obtain ⟨ok, ⟨hp, tk, rfl⟩, ⟨m, F, H⟩, hN⟩ := hS1
 have keep1 : ∀ a o, hp.get? a = some o → h₁.get? a = some o := fun a o ha => hSB.extBut a o (Nat.ne_of_lt (Heap.lt_size ha)) (Heap.get?_push_of_some _ ha)
 exact hQ.use (sh := .v (.ref _)) 0 (k _ fun p hp => Heap.lt_size (hN p hp).1) ⟨ok, ⟨_, _, rfl⟩, ⟨m, F.keeps keep1, H⟩, News.kept_cons F hN keep1 (Nat.le_refl _) hget⟩
theorem WG.setAll {e o : PySem.Expr} {p sp pos : Pos} {rest : List Stmt} {R : KS} {sl : Int} {pv : Addr} {u b : UInt8} (R9 : TR d.w A T D) (hv : getV T sl = some (pv, u))
  (h : vc d c 30 (.E l (TP A root rt D) e fun v N1 => v = .b #[b] ∧ N1 = TP A root rt D ∧ vc d c 30 (.E l (TP A root rt D) o fun x N2 => x = .v (.ref pv) ∧ N2 = TP A root rt D ∧ ∀ T' D', TR d.w A T' D' → LayP T T' sl b → WG d c l (TP A root rt D') rest R)))
  (hx : autoParam (notComp e = true) name_B._auto_3) : WG d c l (TP A root rt D) (.Assign [.Subscript o (.Slice none none none sp) p] e pos :: rest) R := fun s hS => wpG_execs_cons (wpG_Assign_Subscript (wpG_of (vc_sound 30 _ h s _ hS (by
 rintro _ _ _ s1 ⟨t1, rfl⟩ ⟨rfl, rfl, h1⟩ hS1
 refine wpG_of (vc_sound 30 _ h1 s1 _ hS1 ?_)
 rintro _ _ _ s2 ⟨t2, rfl⟩ ⟨rfl, rfl, h2⟩ hS2
 refine wpG_of (wpAny_Slice (wpAny_pure (wpAny_pure (wpAny_pure ?_))))
 obtain ⟨ok, ⟨hp, tk, rfl⟩, ⟨m, F, H⟩, hN⟩ := hS2
 exact lay_set9 rfl F hN (fun _ h => h) R9 hv rfl fun h' T' D' F' N' R' hL => h2 T' D' R' hL _ ⟨ok, ⟨_, _, rfl⟩, ⟨m, F', H⟩, N'⟩))) (swaps_no hx))
end
noncomputable def St_spG_lay (w : World) (A : TA) (D : Led) (root : Int) (rt : Tok) (T : TS) (sl : Int) (t1 t2 : Tok) (b : UInt8) : Prop := ∀ (R : TR w A T D) (hz : T.vals.length + 1 ≤ 1000), SpG w 257 6 [.ref A.self, .int sl t1, .bytes #[b] t2] [] (TP A root rt D) (fun v O' => v = .none ∧ ∃ T' D', O' = TP A root rt D' ∧ TR w A T' D' ∧ LayP T T' sl b)
theorem spG_lay : A10 St_spG_lay := by
 refine' ey10 (ne_P ne_W (ne_P ne_TA (ne_P ne_L (ne_P ne_I (ne_P ne_N (ne_P ne_TS (ne_P ne_I (ne_P ne_N (ne_P ne_N ne_U))))))))) ((?f9 : A10 St_spG_lay) _ _ _ _ _ _ _ _ _ _)
 intro w A D root rt T sl t1 t2 b R hz
 refine' SpG.of_W [("octets", .b #[b]), ("slot", .i sl), ("self", .v (.ref A.self))] ?ho ?hcd ?hbind ?hloc ?hco ?hgen ?hk ?hcell ?hl ?_
 walk_at "ds prem0"
 case hl => exact rfl
 refine' entG_all ((?f8 : ∀ c R', EntG _ _ _ _ _ _ c R') _ _); intro k R' l0 hP hR
 have hT : ∀ N, (∀ p ∈ TP A root rt D, p ∈ N) → TrO w k N A T root := fun N hs => TrO.led R hs
 refine vcG_sound 1 (AttrS.values (hT _ fun _ h => h) (CmpS.vals_in (hT _ fun _ h => h) ?_))
 cases hgv : getV T sl with
 | none =>
  refine vcG_sound 3 (RawEG.ba (bInt w).2.2 ⟨#[b], rfl, lb9 rfl, fun r hr => AttrS.values (hT _ fun _ h => .tail _ h) (SetIS.vals R hgv hz hr fun T' D' R9 hL => vcG_sound 1 (hR _ _ ⟨rfl, T', D', rfl, R9, hL⟩))⟩)
 | some pv =>
  obtain ⟨pv, u⟩ := pv
  refine WG.setAll R hgv (And.intro rfl (And.intro rfl (AttrS.values (hT _ fun _ h => h) (ItemS.val (hT _ fun _ h => h) hgv fun _ => And.intro rfl (And.intro rfl fun T' D' R9 hL => ?_)))))
  exact vcG_sound 1 (vcG_sound 1 (hR _ _ ⟨rfl, T', D', rfl, R9, hL⟩))
structure SlotP (T T' : TS) (k : Int) (b : UInt8) : Prop where
 nodes : T'.nodes = T.nodes
 used : T'.used = T.used ++ [k]
 new : k ∉ T.used
 pos : 0 ≤ k
 frees : T'.frees = T.frees
 len : T'.vals.length ≤ T.vals.length + 1
 here : ∃ p, getV T' k = some (p, b)
 other : ∀ j, j ≠ k → getV T' j = getV T j
theorem meSlot (w : World) : MethAt w 585 "least_free" 459 ∧ MethAt w 585 "lay" 257 := by
 exact ⟨⟨by k_is, by k_is, by k_is, by k_is⟩, by k_is, by k_is, by k_is, by k_is⟩
section
variable {d : Df} {c : Cx} {l : Fs} {N : Led} {A : TA} {T : TS} {root : Int} {rt : Tok} {D : Led} {K : KE}
theorem CallM.least_free (hT : TrO d.w c N A T root) (hlv : 1 ≤ d.lv) (h : ∀ k : Nat, (k : Int) ∉ T.used → K (.i k) N) : CallM d c l 459 A.self [] N K :=
 CallM.read hT (fun _ rt D R => sp_least_free d.w A T D root rt R) hlv fun v O' ⟨e1, k, t, ev, hk, _⟩ _ => ⟨.i k, N, ⟨t, ev⟩, h k hk, by rw [e1]; exact fun _ h => h⟩
theorem CallGM.lay {sl : Int} {b : UInt8} (hlv : 6 ≤ d.lv) (R : TR d.w A T D) (hz : T.vals.length + 1 ≤ 1000) (h : ∀ T' D', TR d.w A T' D' → LayP T T' sl b → K (.v .none) (TP A root rt D')) : CallGM d c l 257 A.self [.i sl, .b #[b]] (TP A root rt D) K :=
 CallGM.write (fun ts => spG_lay d.w A D root rt T sl (ts 0) (ts 1) b R hz) (footW hlv) fun v O' ⟨ev, T', D', eO, R', hL⟩ _ => ⟨.v .none, _, ⟨0, ev⟩, h T' D' R' hL, by rw [eO]; exact fun _ h => List.mem_append_left _ h⟩
end
inductive NewSlotR (w : World) (A : TA) (T : TS) (root : Int) (rt : Tok) (b : UInt8) : Value → Led → Prop
 | mk (k : Int) (t : Tok) (T' : TS) (D' : Led) (R : TR w A T' D') (hS : SlotP T T' k b) : NewSlotR w A T root rt b (.int k t) (TP A root rt D')
noncomputable def St_spG_new_slot (w : World) (A : TA) (D : Led) (root : Int) (rt : Tok) (T : TS) (t2 : Tok) (b : UInt8) : Prop := ∀ (R : TR w A T D) (hz : T.vals.length + 1 ≤ 1000) (hzu : T.used.length + 1 ≤ 1000), SpG w 466 9 [.ref A.self, .bytes #[b] t2] [] (TP A root rt D) (NewSlotR w A T root rt b)
theorem spG_new_slot : A8 St_spG_new_slot := by
 refine' ey8 (ne_P ne_W (ne_P ne_TA (ne_P ne_L (ne_P ne_I (ne_P ne_N (ne_P ne_TS (ne_P ne_N ne_U))))))) ((?f9 : A8 St_spG_new_slot) _ _ _ _ _ _ _ _)
 intro w A D root rt T t2 b R hz hzu
 refine' SpG.of_W [("octets", .b #[b]), ("self", .v (.ref A.self))] ?ho ?hcd ?hbind ?hloc ?hco ?hgen ?hk ?hcell ?hl ?_
 walk_at "ds prem0"
 case hl => exact rfl
 refine' entG_all ((?f8 : ∀ c R', EntG _ _ _ _ _ _ c R') _ _); intro k R' l0 hP hR
 have hT : ∀ {T D} (R : TR w A T D), TrO w k (TP A root rt D) A T root := fun R => TrO.led R fun _ h => h
 refine vcG_sound 10 (RawEG.of (RawE.mself (x := "least_free") (meSlot w).1 (And.intro rfl (And.intro (hT R) (CallM.least_free (hT R) (lb9 rfl) fun i hi => ?_)))))
 refine AttrS.used (hT R) (SetIS.used R hi hzu fun D1 R1 => ?_)
 refine RawEG.mself (x := "lay") (meSlot w).2 (And.intro rfl (And.intro (hT R1) (RawLG.of (CallGM.lay (lb9 rfl) R1 hz fun T' D' R2 hL t => hR _ _ ?_))))
 exact .mk i t T' D' R2 ⟨hL.nodes, hL.used, hi, by lia, hL.frees, hL.len, hL.here, hL.other⟩
theorem SlotP.free {T T1 : TS} {k : Int} {b : UInt8} (h : SlotP T T1 k b) (hF : FreeOK T) : FreeOK T1 := by
 unfold FreeOK keysT at *
 rw [h.nodes, h.frees]; exact hF
theorem SlotP.getN {T T1 : TS} {k : Int} {b : UInt8} (h : SlotP T T1 k b) (j : Int) : Mine.getN T1 j = Mine.getN T j := by
 unfold Mine.getN; rw [h.nodes]
inductive InsQ (n len w : Nat) (T1 : TS) (root p : Int) (b : Nat) (x slot : Int) : TS → Int → Prop
 | leaf (am : Nd) : IsNew n len w slot am → x = -1 → InsQ n len w T1 root p b x slot (hangT (newT T1 am) root p b (newId T1)).1 (hangT (newT T1 am) root p b (newId T1)).2
 | over (am ab : Nd) : IsNew n len w slot am → 0 ≤ x → getN T1 x = some ab → sharedLen n ab.w w (min ab.len len) = len →
   InsQ n len w T1 root p b x slot (hangT (setN (newT T1 am) (newId T1) (setC am (bitTop ab.w len n) x)) root p b (newId T1)).1 (hangT (setN (newT T1 am) (newId T1) (setC am (bitTop ab.w len n) x)) root p b (newId T1)).2
 | fork (am af ab : Nd) (co : Nat) : IsNew n len w slot am → IsNew n co w (-1) af → 0 ≤ x → getN T1 x = some ab → co = sharedLen n ab.w w (min ab.len len) → co ≠ len →
   InsQ n len w T1 root p b x slot
    (hangT (setN (setN (newT (newT T1 am) af) (newId (newT T1 am)) (setC af (bitTop w co n) (newId T1))) (newId (newT T1 am)) (setC (setC af (bitTop w co n) (newId T1)) (1 - bitTop w co n) x)) root p b (newId (newT T1 am))).1
    (hangT (setN (setN (newT (newT T1 am) af) (newId (newT T1 am)) (setC af (bitTop w co n) (newId T1))) (newId (newT T1 am)) (setC (setC af (bitTop w co n) (newId T1)) (1 - bitTop w co n) x)) root p b (newId (newT T1 am))).2
noncomputable def InsCase (n len w : Nat) (t : Tr) (root p : Int) (b : Nat) (x : Int) : Prop :=
 (path n len w t = [] ∧ p = -1 ∧ b = 0 ∧ x = root) ∨ (∃ ini pa, path n len w t = ini ++ [(p, pa)] ∧ b = bitTop w pa.len n ∧ x = child pa b ∧ pa.len + 1 ≤ n)
section
variable {d : Df} {c : Cx} {l : Fs} {N : Led} {A : TA} {T : TS} {root : Int} {rt : Tok} {D : Led} {K : KE}
theorem CallM.hang {p cc : Int} {b : Nat} (hlv : 1 ≤ d.lv) (R : TR d.w A T D) (hp : p = -1 ∨ (0 ≤ p ∧ ∃ a, getN T p = some a)) (hb : b < 2)
  (h : ∀ rt' D', TR d.w A (hangT T root p b cc).1 D' → K (.v .none) (TP A (hangT T root p b cc).2 rt' D')) : CallM d c l 487 A.self [.i p, .i b, .i cc] (TP A root rt D) K :=
 CallM.write (fun ts => sp_hang d.w A T D root rt p b cc (ts 0) (ts 1) (ts 2) R hp hb) (footW hlv) fun v O' ⟨ev, rt', D', eO, R'⟩ _ => ⟨.v .none, _, ⟨0, ev⟩, h rt' D' R', by rw [eO]; exact fun _ h => List.mem_append_left _ h⟩
theorem CallM.new_node {ln wv : Nat} {sl : Int} (hlv : 20 ≤ d.lv) (R : TR d.w A T D) (hnew : getN T (newId T) = none) (hz : T.nodes.length + 1 ≤ 1000) (hl : ln ≤ 8 * A.c) (hw : wv < 2 ^ (8 * A.c))
  (h : ∀ a D', IsNew (8 * A.c) ln wv sl a → TR d.w A (newT T a) D' → K (.i (newId T)) (TP A root rt D')) : CallM d c l 473 A.self [.i ln, .i wv, .i sl] (TP A root rt D) K :=
 CallM.write (fun ts => sp_new_node d.w A T D root rt ln wv sl (ts 0) (ts 1) (ts 2) R hnew hz hl hw) (footW hlv) fun v O' r _ => by
  cases r with
  | mk t a D' hl hw hs h0 h1 R' => exact ⟨.i _, _, ⟨t, rfl⟩, h a D' ⟨hl, hw, hs, h0, h1⟩ R', fun _ h => List.mem_append_left _ h⟩
theorem CallGM.new_slot {b : UInt8} (hlv : 9 ≤ d.lv) (R : TR d.w A T D) (hz : T.vals.length + 1 ≤ 1000) (hzu : T.used.length + 1 ≤ 1000) (h : ∀ k T' D', TR d.w A T' D' → SlotP T T' k b → K (.i k) (TP A root rt D')) : CallGM d c l 466 A.self [.b #[b]] (TP A root rt D) K :=
 CallGM.write (fun ts => spG_new_slot d.w A D root rt T (ts 0) b R hz hzu) (footW hlv) fun v O' r _ => by
  cases r with
  | mk k t T' D' R' hS => exact ⟨.i k, _, ⟨t, rfl⟩, h k T' D' R' hS, fun _ h => List.mem_append_left _ h⟩
end
theorem me502 (w : World) : MethAt w 585 "new_node" 473 ∧ MethAt w 585 "new_slot" 466 ∧ MethAt w 585 "hang" 487 := by
 refine ⟨?_, ?_, ?_⟩ <;> exact ⟨by k_is, by k_is, by k_is, by k_is⟩
noncomputable def St_spG_insert (w : World) (A : TA) (D : Led) (root : Int) (rt : Tok) (T : TS) (t : Tr) (len wv : Nat) (t1 t2 t3 : Tok) (bv : UInt8) (p : Int) (b : Nat) (x : Int) : Prop := ∀ (R : TR w A T D) (ht : Rep T t) (hroot : root = t.id) (hz : t.size ≤ 1000) (hF : FreeOK T) (hzn : T.nodes.length + 2 ≤ 1000) (hzv : T.vals.length + 1 ≤ 1000) (hzu : T.used.length + 1 ≤ 1000) (hl : len ≤ 8 * A.c) (hw : wv < 2 ^ (8 * A.c)) (hc : InsCase (8 * A.c) len wv t root p b x) (hx : x = -1 ∨ (0 ≤ x ∧ ∃ ab, getN T x = some ab ∧ sharedLen (8 * A.c) ab.w wv (min ab.len len) < ab.len)), SpG w 502 40 [.ref A.self, .int len t1, .int wv t2, .bytes #[bv] t3] [] (TP A root rt D) (fun v O' => v = .none ∧ ∃ k T1 T' root' rt' D', SlotP T T1 k bv ∧ InsQ (8 * A.c) len wv T1 root p b x k T' root' ∧ O' = TP A root' rt' D' ∧ TR w A T' D')
theorem spG_insert : A16 St_spG_insert := by
 refine' ey16 (ne_P ne_W (ne_P ne_TA (ne_P ne_L (ne_P ne_I (ne_P ne_N (ne_P ne_TS (ne_P ne_Tr (ne_P ne_N (ne_P ne_N (ne_P ne_N (ne_P ne_N (ne_P ne_N (ne_P ne_U (ne_P ne_I (ne_P ne_N ne_I))))))))))))))) ((?f9 : A16 St_spG_insert) _ _ _ _ _ _ _ _ _ _ _ _ _ _ _ _)
 intro w A D root rt T t len wv t1 t2 t3 bv p b x R ht hroot hz hF hzn hzv hzu hl hw hc hx
 have hc8 := R.cb.2
 refine' SpG.of_W [("octets", .b #[bv]), ("worth", .i wv), ("length", .i len), ("self", .v (.ref A.self))] ?ho ?hcd ?hbind ?hloc ?hco ?hgen ?hk ?hcell ?hl ?_
 walk_at "ds prem0"
 case hl => exact rfl
 refine' entG_all ((?f8 : ∀ c R', EntG _ _ _ _ _ _ c R') _ _); intro k R' l0 hP hR
 clear l0 hP
 refine WG.pre (α := Unit) [_, _, _, _] (fun _ => [("length", .i len), ("worth", .i wv), ("octets", .b #[bv]), ("parent", .i p), ("side", .i b), ("below", .i x), ("self", .v (.ref A.self))]) (fun _ => TP A root rt D) (fun _ => True) ?_ (fun _ _ => ?_)
 ·refine vcS_sound 10 ?_
  refine RawE.mself (x := "path") (me445 w).2 (And.intro rfl (And.intro (TrO.led R fun _ h => h) ?_))
  refine CallM.path (TrO.led R fun _ h => h) (lb9 rfl) ht hroot hz hl hw (fun wy its e9 _ hi => ?_)
  refine Bk.tupD (names := ["parent", "side"]) ?_ (hk := all2 rfl rfl)
  refine RawE.NODE (And.intro rfl ?_)
  rcases hc with ⟨hpath, rfl, rfl, rfl⟩ | ⟨ini, pa, hpath, rfl, rfl, hpl⟩
  ·rw [hpath] at hi
   refine vcS_sound 10 ?_
   intro ts er _
   refine CmpS.neL [] (TP A x rt D) (lb9 rfl) (.tail _ (.head _)) hi (.head _) .nil sub_nil (fun _ h => .tail _ (.tail _ h)) (fun he => absurd rfl he) (fun _ => ?_)
   refine RawE.NODE ?_
   refine And.intro (fun _ => ?_) (fun he => absurd rfl he)
   refine AttrS.root9 (TrO.led R fun _ h => h) ?_
   exact ⟨rfl, (), trivial, subF_of ⟨rfl, rfl, rfl, rfl, rfl, rfl, rfl, trivial⟩, fun _ h => h⟩
  ·obtain ⟨hgi, hi0⟩ := path_rep _ _ _ ht (p, pa) (by rw [hpath]; simp)
   dsimp only at hgi hi0
   rw [hpath, List.map_append] at hi
   have hlen : (ini.map (·.1) ++ [(p, pa)].map (·.1)).length = ini.length + 1 := by simp
   have hx9 : (ini.map (·.1) ++ [(p, pa)].map (·.1)).getD (-1 + ((ini.map (·.1) ++ [(p, pa)].map (·.1)).length : Int)).toNat 0 = p := by
    rw [hlen, show (-1 + ((ini.length + 1 : Nat) : Int)).toNat = ini.length by lia]
    simp
   refine vcS_sound 10 ?_
   intro ts er _
   refine CmpS.neL ((wy, _) :: TP A root rt D) [] (lb9 rfl) (.tail _ (.head _)) hi (.head _) .nil (fun _ h => .tail _ h) sub_nil (fun _ => ?_) (fun he => absurd he (by simp))
   refine ItemS.neg (TP A root rt D) (.head _) hi (by decide) (by rw [hlen]; lia) (by decide) hx9 (fun _ h => .tail _ h) ?_
   refine RawE.fn (fn332 w) ?_
   refine AttrS.nodes (TrO.led R fun _ h => h) ?_
   refine ItemS.node (TrO.led R fun _ h => h) hgi ?_
   refine AttrS.len (TrO.led R fun _ h => h) hgi ?_
   refine RawE.mself (x := "size") (me423 w).2 (And.intro rfl (And.intro (TrO.led R fun _ h => h) ?_))
   refine CallM.size (TrO.led R fun _ h => h) (lb9 rfl) ?_
   refine CallS.bft (lb9 rfl) hpl ?_
   refine RawE.NODE ?_
   refine And.intro (fun he => absurd he (by lia)) (fun _ => ?_)
   refine AttrS.nodes (TrO.led R fun _ h => h) ?_
   refine ItemS.node (TrO.led R fun _ h => h) hgi ?_
   refine AttrS.children (TrO.led R fun _ h => h) hgi ?_
   refine ItemS.child (TrO.led R fun _ h => h) hgi rfl (bitTop_lt _ _ _) ?_
   exact ⟨rfl, (), trivial, subF_of ⟨rfl, rfl, rfl, rfl, rfl, rfl, rfl, trivial⟩, fun _ h => h⟩
 ·refine WG.asgR (RawEG.mself (x := "new_node") (me502 w).1 (And.intro rfl (And.intro (TrO.led R fun _ h => h) ?_)))
  refine RawLG.cons (RawEG.of (RawLG.cons (RawEG.of (RawLG.cons ?_))))
  refine RawEG.mself (x := "new_slot") (me502 w).2.1 (And.intro rfl (And.intro (TrO.led R fun _ h => h) ?_))
  refine RawLG.cons (RawEG.of (RawLG.nil ?_))
  refine CallGM.new_slot (lb9 rfl) R hzv hzu (fun ks T1 D1 R1 hSl => ?_)
  refine RawLG.nil ?_
  have hF1 : FreeOK T1 := hSl.free hF
  have hn1 : getN T1 (newId T1) = none := hF1.getN_new
  have hz1 : T1.nodes.length + 2 ≤ 1000 := by rw [hSl.nodes]; exact hzn
  have hpT : p = -1 ∨ (0 ≤ p ∧ ∃ a, getN T p = some a) := by
   rcases hc with ⟨hpath, rfl, rfl, rfl⟩ | ⟨ini, pa, hpath, rfl, rfl, hpl⟩
   ·exact .inl rfl
   ·have := path_rep _ _ _ ht (p, pa) (by rw [hpath]; simp)
    exact .inr ⟨this.2, pa, this.1⟩
  have hb2 : b < 2 := by
   rcases hc with ⟨hpath, rfl, rfl, rfl⟩ | ⟨ini, pa, hpath, rfl, rfl, hpl⟩
   ·lia
   ·exact bitTop_lt _ _ _
  refine CallGM.any (CallM.new_node (lb9 rfl) R1 hn1 (by lia) hl hw (fun am D2 hnm R2 => ?_))
  have hF2 : FreeOK (newT T1 am) := hF1.newT am
  have up : ∀ j a, getN T j = some a → getN (newT T1 am) j = some a ∧ j ≠ newId T1 := by
   intro j a hj
   have h1 : getN T1 j = some a := by rw [hSl.getN]; exact hj
   have h2 : j ≠ newId T1 := by intro e; rw [e, hn1] at h1; cases h1
   rw [getN_newT hF1, if_neg h2]
   exact ⟨h1, h2⟩
  refine WG.of (vcS_sound 30 ?_)
  refine RawE.NODE ?_
  rcases hx with rfl | ⟨hx0, ab, hxa, hoff⟩
  ·refine And.intro (fun _ => ?_) (fun he => absurd rfl he)
   have hhp : p = -1 ∨ (0 ≤ p ∧ ∃ a, getN (newT T1 am) p = some a) := hpT.imp id fun ⟨h0, a, ha⟩ => ⟨h0, a, (up _ _ ha).1⟩
   refine RawE.mself (x := "hang") (me502 w).2.2 (And.intro rfl (And.intro (TrO.led R2 fun _ h => h) ?_))
   refine CallM.hang (lb9 rfl) R2 hhp hb2 (fun rt' D' R' => ?_)
   exact hR _ _ ⟨rfl, ks, T1, _, _, _, _, hSl, InsQ.leaf am hnm rfl, rfl, R'⟩
  ·refine And.intro (fun he => absurd he (by lia)) (fun _ => ?_)
   obtain ⟨hvx, hxm⟩ := up _ _ hxa
   obtain ⟨haw, hal⟩ := R.wb _ (getN_mem hxa)
   dsimp only at haw hal
   have hgm : getN (newT T1 am) (newId T1) = some am := (getN_newT hF1 _ _).trans (if_pos rfl)
   have hsl : sharedLen (8 * A.c) ab.w wv (min ab.len len) ≤ min ab.len len := by unfold sharedLen; lia
   refine AttrS.nodes (TrO.led R2 fun _ h => h) ?_
   refine ItemS.node (TrO.led R2 fun _ h => h) hvx ?_
   refine RawE.mself (x := "shared") (me423 w).1 (And.intro rfl (And.intro (TrO.led R2 fun _ h => h) ?_))
   refine CallM.shared (TrO.led R2 fun _ h => h) (lb9 rfl) hvx (by lia) haw hw ?_
   refine And.intro (fun hcom => ?_) (fun hcom => ?_)
   ·have hcom : sharedLen (8 * A.c) ab.w wv (min ab.len len) = len := by lia
    have hhp : p = -1 ∨ (0 ≤ p ∧ ∃ a, getN (setN (newT T1 am) (newId T1) (setC am (bitTop ab.w len (8 * A.c)) x)) p = some a) := hpT.imp id fun ⟨h0, a, ha⟩ => ⟨h0, a, by rw [getN_setN' hF2.keys hgm, if_neg (up _ _ ha).2]; exact (up _ _ ha).1⟩
    refine AttrS.nodes (TrO.led R2 fun _ h => h) ?_
    refine ItemS.node (TrO.led R2 fun _ h => h) hgm ?_
    refine AttrS.children (TrO.led R2 fun _ h => h) hgm ?_
    refine RawE.fn (fn332 w) ?_
    refine AttrS.worth (TrO.led R2 fun _ h => h) hvx ?_
    refine RawE.mself (x := "size") (me423 w).2 (And.intro rfl (And.intro (TrO.led R2 fun _ h => h) ?_))
    refine CallM.size (TrO.led R2 fun _ h => h) (lb9 rfl) ?_
    refine CallS.bft (lb9 rfl) (by lia) ?_
    refine SetIS.child R2 hgm rfl (bitTop_lt _ _ _) (fun D3 R3 => ?_)
    refine RawE.mself (x := "hang") (me502 w).2.2 (And.intro rfl (And.intro (TrO.led R3 fun _ h => h) ?_))
    refine CallM.hang (lb9 rfl) R3 hhp hb2 (fun rt' D' R' => ?_)
    exact hR _ _ ⟨rfl, ks, T1, _, _, _, _, hSl, InsQ.over am ab hnm hx0 (by rw [hSl.getN]; exact hxa) hcom, rfl, R'⟩
   ·have hcom : ¬ sharedLen (8 * A.c) ab.w wv (min ab.len len) = len := by lia
    have hn2 : getN (newT T1 am) (newId (newT T1 am)) = none := hF2.getN_new
    have hz2 : (newT T1 am).nodes.length + 1 ≤ 1000 := by rw [(newT_len T1 am).1]; exact hz1
    have hb9 := bitTop_lt wv (sharedLen (8 * A.c) ab.w wv (min ab.len len)) (8 * A.c)
    refine RawE.mself (x := "new_node") (me502 w).1 (And.intro rfl (And.intro (TrO.led R2 fun _ h => h) ?_))
    refine RawE.SLOT ?_
    refine CallM.new_node (lb9 rfl) R2 hn2 hz2 (by lia) hw (fun af D3 hnf R3 => ?_)
    have hF3 : FreeOK (newT (newT T1 am) af) := hF2.newT af
    have hgf : getN (newT (newT T1 am) af) (newId (newT T1 am)) = some af := (getN_newT hF2 _ _).trans (if_pos rfl)
    refine RawE.fn (fn332 w) ?_
    refine RawE.mself (x := "size") (me423 w).2 (And.intro rfl (And.intro (TrO.led R3 fun _ h => h) ?_))
    refine CallM.size (TrO.led R3 fun _ h => h) (lb9 rfl) ?_
    refine CallS.bft (lb9 rfl) (by lia) ?_
    refine AttrS.nodes (TrO.led R3 fun _ h => h) ?_
    refine ItemS.node (TrO.led R3 fun _ h => h) hgf ?_
    refine AttrS.children (TrO.led R3 fun _ h => h) hgf ?_
    refine SetIS.child R3 hgf rfl hb9 (fun D4 R4 => ?_)
    have hgf2 : getN (setN (newT (newT T1 am) af) (newId (newT T1 am)) (setC af (bitTop wv (sharedLen (8 * A.c) ab.w wv (min ab.len len)) (8 * A.c)) (newId T1))) (newId (newT T1 am)) = some (setC af (bitTop wv (sharedLen (8 * A.c) ab.w wv (min ab.len len)) (8 * A.c)) (newId T1)) := (getN_setN' hF3.keys hgf _).trans (if_pos rfl)
    refine AttrS.nodes (TrO.led R4 fun _ h => h) ?_
    refine ItemS.node (TrO.led R4 fun _ h => h) hgf2 ?_
    refine AttrS.children (TrO.led R4 fun _ h => h) hgf2 ?_
    refine SetIS.child R4 hgf2 (by lia) (b := 1 - bitTop wv (sharedLen (8 * A.c) ab.w wv (min ab.len len)) (8 * A.c)) (by lia) (fun D5 R5 => ?_)
    refine RawE.mself (x := "hang") (me502 w).2.2 (And.intro rfl (And.intro (TrO.led R5 fun _ h => h) ?_))
    refine CallM.hang (lb9 rfl) R5 ?_ hb2 (fun rt' D' R' => ?_)
    ·exact hpT.imp id fun ⟨h0, a, ha⟩ => by
      obtain ⟨g1, g2⟩ := up _ _ ha
      have g3 : p ≠ newId (newT T1 am) := by intro e; rw [e, hn2] at g1; cases g1
      exact ⟨h0, a, by rw [getN_setN' (hF3.setN _ _).keys hgf2, if_neg g3, getN_setN' hF3.keys hgf, if_neg g3, getN_newT hF2, if_neg g3]; exact g1⟩
    exact hR _ _ ⟨rfl, ks, T1, _, _, _, _, hSl, InsQ.fork am af ab _ hnm hnf hx0 (by rw [hSl.getN]; exact hxa) rfl hcom, rfl, R'⟩
structure LI (n : Nat) (T : TS) (root : Int) (t : Tr) (H : HT) (j : Nat) : Prop where
 inv : Inv n T root t
 keys : ((ents n t).map (·.1)).Perm (H.map (·.1))
 hn : (H.map (·.1)).Nodup
 val : ∀ e ∈ ents n t, ∃ x b, getV T e.2 = some (x, b) ∧ (e.1, b) ∈ H
 used : T.used.Perm ((ents n t).map (·.2))
 ud : T.used.Nodup
 sz : T.nodes.length ≤ 2 * j ∧ T.frees.length ≤ 2 * j ∧ T.vals.length ≤ j
theorem ent_mem {n : Nat} {t : Tr} {e : List Nat × Int} : e ∈ ents n t ↔ ∃ q ∈ pre t, K n q.2 = e.1 ∧ q.2.slot = e.2 ∧ e.2 ≠ -1 := by
 unfold ents entL
 rw [List.mem_map]
 constructor
 ·rintro ⟨q, hq, rfl⟩
  obtain ⟨h1, h2⟩ := List.mem_filter.mp hq
  exact ⟨q, h1, rfl, rfl, by simpa using h2⟩
 ·rintro ⟨q, hq, h1, h2, h3⟩
  refine ⟨q, List.mem_filter.mpr ⟨hq, by simpa using (h2 ▸ h3)⟩, ?_⟩
  rw [h1, h2]
theorem Inv.size {n : Nat} {T : TS} {root : Int} {t : Tr} (I : Inv n T root t) : t.size = T.nodes.length := by
 have h := I.idp.length_eq
 unfold ids keysT at h
 rw [List.length_map, List.length_map, pre_len] at h
 exact h.symm
theorem LI.size {n : Nat} {T : TS} {root : Int} {t : Tr} {H : HT} {j : Nat} (I : LI n T root t H j) : t.size ≤ 2 * j := by rw [I.inv.size]; exact I.sz.1
theorem LI.ulen {n : Nat} {T : TS} {root : Int} {t : Tr} {H : HT} {j : Nat} (I : LI n T root t H j) : T.used.length = H.length := by
 have h1 := I.used.length_eq
 have h2 := I.keys.length_eq
 rw [List.length_map] at h1
 rw [List.length_map, List.length_map] at h2
 lia
theorem LI.enn {n : Nat} {T : TS} {root : Int} {t : Tr} {H : HT} {j : Nat} (I : LI n T root t H j) : ((ents n t).map (·.1)).Nodup := I.keys.nodup_iff.mpr I.hn
theorem LI.esn {n : Nat} {T : TS} {root : Int} {t : Tr} {H : HT} {j : Nat} (I : LI n T root t H j) : ((ents n t).map (·.2)).Nodup := I.used.nodup_iff.mp I.ud
theorem nodup_fst {α β : Type} {l : List (α × β)} (h : (l.map (·.1)).Nodup) {a : α} {x y : β} (h1 : (a, x) ∈ l) (h2 : (a, y) ∈ l) : x = y := by
 induction l with
 | nil => cases h1
 | cons p l ih =>
  rw [List.map_cons, List.nodup_cons] at h
  rcases List.mem_cons.mp h1 with e1 | h1
  ·rcases List.mem_cons.mp h2 with e2 | h2
   ·rw [← e1] at e2; injection e2 with _ e2; exact e2.symm
   ·exact absurd (List.mem_map.mpr ⟨_, h2, by rw [← e1]⟩) h.1
  ·rcases List.mem_cons.mp h2 with e2 | h2
   ·exact absurd (List.mem_map.mpr ⟨_, h1, by rw [← e2]⟩) h.1
   ·exact ih h.2 h1 h2
theorem nodup_snd {α β : Type} {l : List (α × β)} (h : (l.map (·.2)).Nodup) {x y : α} {b : β} (h1 : (x, b) ∈ l) (h2 : (y, b) ∈ l) : x = y := by
 have : ((l.map Prod.swap).map (·.1)).Nodup := by rw [List.map_map]; exact h
 exact nodup_fst this (List.mem_map.mpr ⟨_, h1, rfl⟩) (List.mem_map.mpr ⟨_, h2, rfl⟩)
theorem LI.entry {n : Nat} {T : TS} {root : Int} {t : Tr} {H : HT} {j : Nat} (I : LI n T root t H j) {k : List Nat} {b : UInt8} (h : (k, b) ∈ H) : ∃ s x, (k, s) ∈ ents n t ∧ getV T s = some (x, b) := by
 have hk : k ∈ (ents n t).map (·.1) := I.keys.mem_iff.mpr (List.mem_map.mpr ⟨_, h, rfl⟩)
 obtain ⟨⟨k', s⟩, he, rfl⟩ := List.mem_map.mp hk
 obtain ⟨x, b', h1, h2⟩ := I.val _ he
 have : b' = b := nodup_fst I.hn h2 h
 subst this
 exact ⟨s, x, he, h1⟩
theorem LI.peer_in {n : Nat} {T : TS} {root : Int} {t : Tr} {H : HT} {j : Nat} (I : LI n T root t H j) {w len : Nat} (hw : w < 2 ^ n) (hl : len ≤ n) {b : UInt8} (h : (kb n w len, b) ∈ H) : ∃ s x, peerT T n len w t = some s ∧ (kb n w len, s) ∈ ents n t ∧ getV T s = some (x, b) := by
 obtain ⟨s, x, he, hv⟩ := I.entry h
 obtain ⟨q, hq, h1, h2, h3⟩ := ent_mem.mp he
 dsimp only at h1 h2 h3
 refine ⟨s, x, ?_, he, hv⟩
 rw [← h2]
 exact peer_some hw hl I.inv.rep I.inv.wf hq h1 (by rw [h2]; exact h3)
theorem LI.peer_out {n : Nat} {T : TS} {root : Int} {t : Tr} {H : HT} {j : Nat} (I : LI n T root t H j) {w len : Nat} (hw : w < 2 ^ n) (hl : len ≤ n) (h : kb n w len ∉ H.map (·.1)) : peerT T n len w t = none := by
 refine peer_none hw hl I.inv.rep I.inv.wf fun q hq hk => ?_
 false_or_by_contra
 rename_i hs
 exact h (I.keys.mem_iff.mp (List.mem_map.mpr ⟨(kb n w len, q.2.slot), ent_mem.mpr ⟨q, hq, hk, rfl, hs⟩, rfl⟩))
theorem setH_keys (H : HT) (k : List Nat) (b : UInt8) : (setH H k b).map (·.1) = H.map (·.1) := by
 unfold setH
 rw [List.map_map]
 apply List.map_congr_left
 intro p _
 show (if p.1 = k then (k, b) else p).1 = p.1
 split
 ·rename_i e; exact e.symm
 ·rfl
theorem getN_same {T T' : TS} (h : T'.nodes = T.nodes) (i : Int) : getN T' i = getN T i := by unfold getN; rw [h]
theorem Inv.same {n : Nat} {T T' : TS} {root : Int} {t : Tr} (I : Inv n T root t) (h1 : T'.nodes = T.nodes) (h2 : T'.frees = T.frees) : Inv n T' root t := by
 refine ⟨rep_congr I.rep fun i _ => getN_same h1 i, I.rid, I.wf, ?_, ?_⟩
 ·unfold keysT; rw [h1]; exact I.idp
 ·have := I.free
  unfold FreeOK keysT at *
  rw [h1, h2]; exact this
theorem LI.lay {n : Nat} {T T' : TS} {root : Int} {t : Tr} {H : HT} {j : Nat} (I : LI n T root t H j) {k : List Nat} {sl : Int} {b : UInt8} (he : (k, sl) ∈ ents n t) (hL : LayP T T' sl b) : LI n T' root t (setH H k b) (j + 1) := by
 refine ⟨I.inv.same hL.nodes hL.frees, by rw [setH_keys]; exact I.keys, by rw [setH_keys]; exact I.hn, fun e hm => ?_, by rw [hL.used]; exact I.used, by rw [hL.used]; exact I.ud, ?_⟩
 ·obtain ⟨x, b', h1, h2⟩ := I.val e hm
  by_cases hs : e.2 = sl
  ·obtain ⟨p, hp⟩ := hL.here
   have hk : e.1 = k := nodup_snd I.esn (b := sl) (by rw [← hs]; exact hm) he
   refine ⟨p, b, by rw [hs]; exact hp, ?_⟩
   unfold setH
   exact List.mem_map.mpr ⟨_, h2, by rw [if_pos hk, hk]⟩
  ·refine ⟨x, b', by rw [hL.other _ hs]; exact h1, ?_⟩
   have hk : e.1 ≠ k := fun hk => hs (nodup_fst I.enn (a := k) (by rw [← hk]; exact hm) he)
   unfold setH
   exact List.mem_map.mpr ⟨_, h2, if_neg hk⟩
 ·have := I.sz
  have := hL.len
  rw [hL.nodes, hL.frees]
  lia
theorem LI.grow {n : Nat} {T T1 T' : TS} {root root' : Int} {t t' : Tr} {H : HT} {j : Nat} (I : LI n T root t H j) {k : List Nat} {ks : Int} {b : UInt8} (hk : k ∉ H.map (·.1)) (hS : SlotP T T1 ks b) (hI : Inv n T' root' t') (he : (ents n t').Perm (ents n t ++ [(k, ks)])) (hu : T'.used = T1.used) (hv : T'.vals = T1.vals)
  (hz : T'.nodes.length ≤ T.nodes.length + 2 ∧ T'.frees.length ≤ T.frees.length) : LI n T' root' t' (H ++ [(k, b)]) (j + 1) := by
 have gv : ∀ s, getV T' s = getV T1 s := fun s => by unfold getV; rw [hv]
 refine ⟨hI, ?_, ?_, fun e hm => ?_, ?_, ?_, ?_⟩
 ·refine (he.map _).trans ?_
  rw [List.map_append, List.map_append]
  exact List.Perm.append_right _ I.keys
 ·rw [List.map_append, List.nodup_append]
  refine ⟨I.hn, by simp, fun a ha b' hb e => ?_⟩
  rw [List.map_cons, List.map_nil, List.mem_singleton] at hb
  exact hk ((show k = a from hb.symm.trans e.symm) ▸ ha)
 ·rcases List.mem_append.mp (he.mem_iff.mp hm) with hm | hm
  ·obtain ⟨x, b', h1, h2⟩ := I.val e hm
   have hne : e.2 ≠ ks := fun e1 => hS.new (I.used.mem_iff.mpr (List.mem_map.mpr ⟨e, hm, e1⟩))
   exact ⟨x, b', by rw [gv, hS.other _ hne]; exact h1, List.mem_append_left _ h2⟩
  ·rw [List.mem_singleton.mp hm]
   obtain ⟨p, hp⟩ := hS.here
   exact ⟨p, b, by rw [gv]; exact hp, by simp⟩
 ·rw [hu, hS.used]
  refine (List.Perm.append_right _ I.used).trans ?_
  have := he.map (·.2)
  rw [List.map_append] at this
  exact this.symm
 ·rw [hu, hS.used, List.nodup_append]
  refine ⟨I.ud, by simp, fun a ha b' hb e => ?_⟩
  rw [List.mem_singleton] at hb
  exact hS.new (by rw [← hb, ← e]; exact ha)
 ·have := I.sz
  have := hS.len
  rw [hv]
  lia
theorem LI.shrink {n : Nat} {T T' : TS} {root root' : Int} {t t' : Tr} {H : HT} {j : Nat} (I : LI n T root t H j) {k : List Nat} {sl : Int} (he : (ents n t).Perm ((k, sl) :: ents n t')) (hI : Inv n T' root' t') (hu : T'.used = T.used.filter fun j => decide (j ≠ sl)) (hv : T'.vals = T.vals)
  (hz : T'.nodes.length ≤ T.nodes.length ∧ T'.frees.length ≤ T.frees.length + 2) : LI n T' root' t' (H.filter fun p => decide (p.1 ≠ k)) (j + 1) := by
 have gv : ∀ s, getV T' s = getV T s := fun s => by unfold getV; rw [hv]
 have hnk := I.enn
 rw [(he.map _).nodup_iff, List.map_cons, List.nodup_cons] at hnk
 have hns := I.esn
 rw [(he.map _).nodup_iff, List.map_cons, List.nodup_cons] at hns
 have hf : (H.filter fun p => decide (p.1 ≠ k)).map (·.1) = (H.map (·.1)).filter fun x => decide (x ≠ k) := by
  rw [List.filter_map]; rfl
 have hs : ((ents n t').map (·.1)).filter (fun x => decide (x ≠ k)) = (ents n t').map (·.1) := List.filter_eq_self.mpr fun x hx => by
  have : x ≠ k := fun e => hnk.1 (e ▸ hx)
  simpa using this
 have hs2 : ((ents n t').map (·.2)).filter (fun x => decide (x ≠ sl)) = (ents n t').map (·.2) := List.filter_eq_self.mpr fun x hx => by
  have : x ≠ sl := fun e => hns.1 (e ▸ hx)
  simpa using this
 refine ⟨hI, ?_, ?_, fun e hm => ?_, ?_, ?_, ?_⟩
 ·rw [hf]
  have h1 := ((he.map (·.1)).symm.trans I.keys).filter fun x => decide (x ≠ k)
  rw [List.map_cons, List.filter_cons_of_neg (by simp), hs] at h1
  exact h1
 ·rw [hf]; exact I.hn.filter _
 ·have hm' := he.mem_iff.mpr (.tail _ hm)
  obtain ⟨x, b', h1, h2⟩ := I.val e hm'
  have hne : e.1 ≠ k := fun e1 => hnk.1 (List.mem_map.mpr ⟨e, hm, e1⟩)
  exact ⟨x, b', by rw [gv]; exact h1, List.mem_filter.mpr ⟨h2, by simpa using hne⟩⟩
 ·rw [hu]
  have h1 := (I.used.trans (he.map (·.2))).filter fun x => decide (x ≠ sl)
  rw [List.map_cons, List.filter_cons_of_neg (by simp), hs2] at h1
  exact h1
 ·rw [hu]; exact I.ud.filter _
 ·have := I.sz
  rw [hv]
  lia
theorem exact_off {n len w : Nat} {t s : Tr} {C : List Fm} (hF : FoundF n len w (path n len w t) s C) (ho : Off n len w s) : exactT n len w t = -1 := by
 unfold exactT
 split
 ·rfl
 ·unfold pathAt
  have hp : path n len w t = C.reverse.map fun f => (f.i, f.a) := by
   rcases hF.1 with ⟨_, h⟩ | ⟨i, a, l, r, rfl, h2, h3⟩
   ·exact h
   ·exact absurd ho h2.1
  rw [hp]
  cases C with
  | nil => rfl
  | cons f C =>
   rw [List.reverse_cons, List.map_append, List.map_cons, List.map_nil, List.getLast?_concat]
   show (if f.a.len = len then f.i else -1) = -1
   rw [if_neg (hF.2 f (.head _)).2.2]
theorem exact_at {n len w : Nat} {t : Tr} {i : Int} {a : Nd} {l r : Tr} {C : List Fm} (hl : len ≤ n) (hF : FoundF n len w (path n len w t) (.nd i a l r) C) (he : ExactAt n len w (.nd i a l r)) : exactT n len w t = i := by
 unfold exactT
 rw [if_neg (by lia)]
 unfold pathAt
 have hp : path n len w t = (C.reverse.map fun f => (f.i, f.a)) ++ [(i, a)] := by
  rcases hF.1 with ⟨h, _⟩ | ⟨i', a', l', r', h1, h2, h3⟩
  ·exact absurd h he.1
  ·cases h1; exact h3
 rw [hp, List.getLast?_concat]
 show (if a.len = len then i else -1) = i
 rw [if_pos he.2]
theorem exact_K {n len w : Nat} {p : List Nat} {i : Int} {a : Nd} {l r : Tr} (hw : w < 2 ^ n) (hl : len ≤ n) (hW : WF n p (.nd i a l r)) (he : ExactAt n len w (.nd i a l r)) : K n a = kb n w len := by
 have hk : K n a <+: kb n w len := by
  false_or_by_contra
  rename_i h
  exact he.1 ((shared_iff hW.2.1.2.1 hw hW.2.1.1 hl).mpr h)
 exact hk.eq_of_length (by rw [K_len, kb_len, he.2])
theorem off_or {n len w : Nat} {t s : Tr} {C : List Fm} (hF : FoundF n len w (path n len w t) s C) : Off n len w s ∨ ∃ i a l r, s = .nd i a l r ∧ ExactAt n len w (.nd i a l r) := by
 rcases hF.1 with ⟨h, _⟩ | ⟨i, a, l, r, h1, h2, h3⟩
 ·exact .inl h
 ·exact .inr ⟨i, a, l, r, h1, h2⟩
theorem setC_child {a : Nd} {b : Nat} {x : Int} (hb : b < 2) (h : a = setC a b x) : child a b = x := by
 rcases b01 hb with rfl | rfl
 ·have : a.c0 = (setC a 0 x).c0 := congrArg Nd.c0 h
  exact this
 ·have : a.c1 = (setC a 1 x).c1 := congrArg Nd.c1 h
  exact this
theorem ins_case {n len w : Nat} {T : TS} {root : Int} {t s : Tr} {C : List Fm} (I : Inv n T root t) (hw : w < 2 ^ n) (hl : len ≤ n) (ht : t = plug C s) (hC : RepC T C s.id) (hs : Rep T s) (hWC : WFC n C) (hF : FoundF n len w (path n len w t) s C) (ho : Off n len w s) :
  InsCase n len w t root (parC C) (sideC C) s.id ∧ (s.id = -1 ∨ (0 ≤ s.id ∧ ∃ ab, getN T s.id = some ab ∧ sharedLen n ab.w w (min ab.len len) < ab.len)) := by
 have hp : path n len w t = C.reverse.map fun f => (f.i, f.a) := by
  rcases hF.1 with ⟨_, h⟩ | ⟨i, a, l, r, rfl, h2, h3⟩
  ·exact h
  ·exact absurd ho h2.1
 constructor
 ·cases C with
  | nil =>
   left
   exact ⟨hp, rfl, rfl, by rw [I.rid, ht]; rfl⟩
  | cons f C =>
   right
   rw [List.reverse_cons, List.map_append, List.map_cons, List.map_nil] at hp
   obtain ⟨hb, hsh, hne⟩ := hF.2 f (.head _)
   have hg := (path_rep n len w I.rep (f.i, f.a) (by rw [hp]; simp)).1
   have hg2 := hC.2.2.1
   have ea : f.a = setC f.a f.b s.id := by
    rw [hg] at hg2
    exact Option.some.inj hg2
   have hcut := hWC.2.1
   have hk : K n f.a <+: kb n w len := by
    false_or_by_contra
    rename_i h
    exact hsh ((shared_iff hcut.2.1 hw hcut.1 hl).mpr h)
   have hln := hk.length_le
   rw [K_len, kb_len] at hln
   exact ⟨C.reverse.map (fun f => (f.i, f.a)), f.a, hp, hb, (setC_child hC.2.1 ea).symm, by lia⟩
 ·cases s with
  | nil => exact .inl rfl
  | nd i a l r => exact .inr ⟨hs.1, a, hs.2.1, ho⟩
theorem hangT_uv (T : TS) (root p : Int) (b : Nat) (c : Int) : (hangT T root p b c).1.used = T.used ∧ (hangT T root p b c).1.vals = T.vals ∧ (hangT T root p b c).1.nodes.length = T.nodes.length ∧ (hangT T root p b c).1.frees = T.frees := by
 unfold hangT
 split
 ·exact ⟨rfl, rfl, rfl, rfl⟩
 ·split
  ·exact ⟨rfl, rfl, by simp [setN], rfl⟩
  ·exact ⟨rfl, rfl, rfl, rfl⟩
theorem ents_leaf (n : Nat) (i : Int) (a : Nd) (hs : a.slot ≠ -1) : ents n (.nd i a .nil .nil) = [(K n a, a.slot)] := by
 show entL n ((i, a) :: ([] ++ [])) = _
 rw [entL_cons, if_neg hs]
 rfl
theorem ents_tr (n : Nat) (f : Fm) (s : Tr) (hb : f.b < 2) : (ents n (f.tr s)).Perm ((if f.a.slot = -1 then [] else [(K n f.a, f.a.slot)]) ++ (ents n f.o ++ ents n s)) := by
 have h := entL_perm (n := n) (pre_tr f s hb)
 rw [entL_cons, entL_append, setC_slot, K_setC] at h
 exact h
theorem LI.insert {n len w : Nat} {T T1 T' : TS} {root root' : Int} {t : Tr} {H : HT} {j : Nat} {b : UInt8} {ks : Int} (I : LI n T root t H j) (hw : w < 2 ^ n) (hl : len ≤ n) (hk : kb n w len ∉ H.map (·.1)) (hS : SlotP T T1 ks b) {C : List Fm} {s : Tr} (ht : t = plug C s) (hB : Bits C) (hC : RepC T C s.id) (hs : Rep T s) (hWC : WFC n C) (hWs : WF n (holeP n C) s)
  (hh : holeP n C <+: kb n w len) (ho : Off n len w s) (hQ : InsQ n len w T1 root (parC C) (sideC C) s.id ks T' root') : ∃ t', LI n T' root' t' (H ++ [(kb n w len, b)]) (j + 1) := by
 have hp := hS.pos
 have I1 : Inv n T1 root (plug C s) := by rw [← ht]; exact I.inv.same hS.nodes hS.frees
 have hC1 : RepC T1 C s.id := repC_congr hC fun i _ => hS.getN i
 have hs1 : Rep T1 s := rep_congr hs fun i _ => hS.getN i
 have l1 : T1.nodes.length = T.nodes.length := by rw [hS.nodes]
 have l2 : T1.frees.length = T.frees.length := by rw [hS.frees]
 have he0 : (ents n t).Perm (entL n (preC C 0) ++ ents n s) := by rw [ht]; exact ents_plug n C s hB 0
 cases hQ with
 | leaf am hn hx =>
  have hsn : s = .nil := (id_neg hs).mp hx
  subst hsn
  obtain ⟨u1, u2, u3, u4⟩ := hangT_uv (newT T1 am) root (parC C) (sideC C) (newId T1)
  obtain ⟨v1, v2, v3, v4⟩ := newT_len T1 am
  refine ⟨_, I.grow hk hS (ins_leaf I1 hB hC1 hWC hh hw hl hn) ?_ (u1.trans v3) (u2.trans v4) ⟨by rw [u3, v1]; lia, by rw [u4]; lia⟩⟩
  refine (ents_plug n C _ hB 0).trans ?_
  rw [ents_leaf n _ _ (by rw [hn.hs]; lia), hn.K hl, hn.hs]
  refine (List.Perm.append_right _ ?_)
  have h := he0.symm
  rw [show ents n .nil = [] from rfl, List.append_nil] at h
  exact h
 | over am ab hn hx0 hab hcom =>
  cases s with
  | nil => have hx0' : (0 : Int) ≤ -1 := hx0; lia
  | nd ib ab' lb rb =>
   have e1 : ab' = ab := by
    have h1 : getN T1 ib = some ab' := hs1.2.1
    have h2 : getN T1 ib = some ab := hab
    rw [h1] at h2; exact Option.some.inj h2
   subst e1
   obtain ⟨u1, u2, u3, u4⟩ := hangT_uv (setN (newT T1 am) (newId T1) (setC am (bitTop ab'.w len n) ib)) root (parC C) (sideC C) (newId T1)
   obtain ⟨v1, v2, v3, v4⟩ := newT_len T1 am
   have w1 : (setN (newT T1 am) (newId T1) (setC am (bitTop ab'.w len n) ib)).nodes.length = (newT T1 am).nodes.length := by simp [setN]
   refine ⟨_, I.grow hk hS (ins_over I1 hB hC1 hs1 hWC hWs hh hw hl hn ho hcom) ?_ (u1.trans v3) (u2.trans v4) ⟨?_, ?_⟩⟩
   ·refine (ents_plug n C _ hB 0).trans ?_
    have h := ents_tr n ⟨newId T1, am, bitTop ab'.w len n, .nil⟩ (.nd ib ab' lb rb) (bitTop_lt _ _ _)
    dsimp only at h
    rw [if_neg (by rw [hn.hs]; lia), hn.K hl, hn.hs, show ents n .nil = [] from rfl, List.nil_append] at h
    refine (List.Perm.append_left _ (h.trans List.perm_append_comm)).trans ?_
    rw [← List.append_assoc]
    exact List.Perm.append_right _ he0.symm
   ·show (hangT _ _ _ _ _).1.nodes.length ≤ _
    refine Nat.le_trans (Nat.le_of_eq (u3.trans (w1.trans v1))) (by lia)
   ·show (hangT _ _ _ _ _).1.frees.length ≤ _
    refine Nat.le_trans (Nat.le_of_eq (congrArg List.length u4)) ?_
    exact Nat.le_trans v2 (Nat.le_of_eq l2)
 | fork am af ab co hn hf hx0 hab hco hcom =>
  cases s with
  | nil => have hx0' : (0 : Int) ≤ -1 := hx0; lia
  | nd ib ab' lb rb =>
   have e1 : ab' = ab := by
    have h1 : getN T1 ib = some ab' := hs1.2.1
    have h2 : getN T1 ib = some ab := hab
    rw [h1] at h2; exact Option.some.inj h2
   subst e1
   obtain ⟨v1, v2, v3, v4⟩ := newT_len T1 am
   obtain ⟨x1, x2, x3, x4⟩ := newT_len (newT T1 am) af
   obtain ⟨u1, u2, u3, u4⟩ := hangT_uv (setN (setN (newT (newT T1 am) af) (newId (newT T1 am)) (setC af (bitTop w co n) (newId T1))) (newId (newT T1 am)) (setC (setC af (bitTop w co n) (newId T1)) (1 - bitTop w co n) ib)) root (parC C) (sideC C) (newId (newT T1 am))
   have w1 : (setN (setN (newT (newT T1 am) af) (newId (newT T1 am)) (setC af (bitTop w co n) (newId T1))) (newId (newT T1 am)) (setC (setC af (bitTop w co n) (newId T1)) (1 - bitTop w co n) ib)).nodes.length = (newT (newT T1 am) af).nodes.length := by simp [setN]
   refine ⟨_, I.grow hk hS (ins_fork I1 hB hC1 hs1 hWC hWs hh hw hl hn ho (by rw [← hco]; exact hcom) hco hf) ?_ (u1.trans (x3.trans v3)) (u2.trans (x4.trans v4)) ⟨?_, ?_⟩⟩
   ·refine (ents_plug n C _ hB 0).trans ?_
    have h := ents_tr n ⟨newId (newT T1 am), setC af (1 - bitTop w co n) ib, bitTop w co n, .nd ib ab' lb rb⟩ (.nd (newId T1) am .nil .nil) (bitTop_lt _ _ _)
    dsimp only at h
    rw [if_pos (by rw [setC_slot, hf.hs]), List.nil_append, ents_leaf n _ _ (by rw [hn.hs]; lia), hn.K hl, hn.hs] at h
    refine (List.Perm.append_left _ h).trans ?_
    rw [← List.append_assoc]
    exact List.Perm.append_right _ he0.symm
   ·show (hangT _ _ _ _ _).1.nodes.length ≤ _
    refine Nat.le_trans (Nat.le_of_eq (u3.trans (w1.trans x1))) (by lia)
   ·show (hangT _ _ _ _ _).1.frees.length ≤ _
    refine Nat.le_trans (Nat.le_of_eq (congrArg List.length u4)) ?_
    refine Nat.le_trans x2 ?_
    exact Nat.le_trans v2 (Nat.le_of_eq l2)
theorem slot_inv {n : Nat} {T : TS} {root i : Int} {C : List Fm} {a : Nd} {l r : Tr} (I : Inv n T root (plug C (.nd i a l r))) (hB : Bits C) (s : Int) : Inv n (setN T i { a with slot := s }) root (plug C (.nd i { a with slot := s } l r)) := by
 obtain ⟨hC, hR⟩ := plug_rep hB I.rep
 obtain ⟨hWC, hWs⟩ := (wf_plug hB).mp I.wf
 have hN := I.nodup
 rw [(ids_plug C _ hB).nodup_iff, List.nodup_append] at hN
 obtain ⟨hd, hds, hdis⟩ := hN
 have hg : getN T i = some a := hR.2.1
 have hds' : (i :: ((pre l ++ pre r).map (·.1))).Nodup := hds
 rw [List.nodup_cons, List.map_append, List.mem_append, not_or] at hds'
 have q : ∀ j, j ≠ i → getN (setN T i { a with slot := s }) j = getN T j := fun j hj => by rw [getN_setN' I.keys hg, if_neg hj]
 have hids : ids (.nd i { a with slot := s } l r) = ids (.nd i a l r) := rfl
 refine ⟨rep_plug (repC_congr hC fun j hj => q j fun e => hdis j hj i (.head _) e) ?_, by rw [I.rid]; cases C with | nil => rfl | cons f C => exact plug_id _ _ _ (by simp), (wf_plug hB).mpr ⟨hWC, hWs⟩, ?_, I.free.setN _ _⟩
 ·exact ⟨hR.1, by rw [getN_setN' I.keys hg, if_pos rfl], hR.2.2.1, hR.2.2.2.1, rep_congr hR.2.2.2.2.1 fun j hj => q j fun e => hds'.1.1 (by rw [← e]; exact hj), rep_congr hR.2.2.2.2.2 fun j hj => q j fun e => hds'.1.2 (by rw [← e]; exact hj)⟩
 ·rw [keys_setN]
  refine I.idp.trans ((ids_plug C _ hB).trans ?_)
  rw [← hids]
  exact (ids_plug C _ hB).symm
theorem ents_nd (n : Nat) (i : Int) (a : Nd) (l r : Tr) : ents n (.nd i a l r) = (if a.slot = -1 then [] else [(K n a, a.slot)]) ++ entL n (pre l ++ pre r) := entL_cons n (i, a) _
theorem LI.fork {n : Nat} {T T1 : TS} {root i : Int} {H : HT} {j : Nat} {b : UInt8} {ks : Int} {C : List Fm} {a : Nd} {l r : Tr} (I : LI n T root (plug C (.nd i a l r)) H j) (hB : Bits C) (hk : K n a ∉ H.map (·.1)) (ha : a.slot = -1) (hS : SlotP T T1 ks b) : LI n (setN T1 i { a with slot := ks }) root (plug C (.nd i { a with slot := ks } l r)) (H ++ [(K n a, b)]) (j + 1) := by
 have hp := hS.pos
 have I1 := I.inv.same hS.nodes hS.frees
 refine I.grow hk hS (slot_inv I1 hB ks) ?_ rfl rfl ⟨?_, ?_⟩
 ·refine (ents_plug n C _ hB 0).trans (List.Perm.trans ?_ (List.Perm.append_right _ (ents_plug n C _ hB 0).symm))
  rw [ents_nd, ents_nd, if_pos ha, List.nil_append, if_neg (by show ¬ ks = -1; lia), List.append_assoc]
  exact List.Perm.append_left _ List.perm_append_comm
 ·have : (setN T1 i { a with slot := ks }).nodes.length = T1.nodes.length := by simp [setN]
  rw [this, hS.nodes]; lia
 ·show T1.frees.length ≤ _
  rw [hS.frees]; exact Nat.le_refl _
theorem setU_inv {n : Nat} {T : TS} {root : Int} {t : Tr} (I : Inv n T root t) (l : List Int) : Inv n (setU T l) root t := I.same rfl rfl
theorem path_one {n len w : Nat} {i : Int} {a : Nd} {l r : Tr} (he : ExactAt n len w (.nd i a l r)) : path n len w (.nd i a l r) = [(i, a)] := by
 unfold path
 rw [if_neg he.1, if_pos he.2]
theorem LI.delete {n len w : Nat} {T : TS} {root i : Int} {H : HT} {j : Nat} {C : List Fm} {a : Nd} {l r : Tr} (I : LI n T root (plug C (.nd i a l r)) H j) (hB : Bits C) (hF : ∀ f ∈ C, f.b = bitTop w f.a.len n ∧ ¬ sharedLen n f.a.w w (min f.a.len len) < f.a.len ∧ f.a.len ≠ len) (he : ExactAt n len w (.nd i a l r)) (ha : a.slot ≠ -1) :
  ∃ T' root' t', LI n T' root' t' (H.filter fun p => decide (p.1 ≠ K n a)) (j + 1) ∧ (ccnt { a with slot := -1 } < 2 → SplR (delT T i a) root i { a with slot := -1 } ((path n len w (plug C (.nd i { a with slot := -1 } l r))).map (·.1)) T' root') ∧ (¬ ccnt { a with slot := -1 } < 2 → T' = delT T i a ∧ root' = root) := by
 have I1 : Inv n (delT T i a) root (plug C (.nd i { a with slot := -1 } l r)) := slot_inv (setU_inv I.inv (T.used.filter fun j => decide (j ≠ a.slot))) hB (-1)
 have hen : (ents n (plug C (.nd i a l r))).Perm ((K n a, a.slot) :: ents n (plug C (.nd i { a with slot := -1 } l r))) := by
  refine (ents_plug n C _ hB 0).trans (List.Perm.trans ?_ (List.Perm.cons _ (ents_plug n C _ hB 0).symm))
  rw [ents_nd, ents_nd, if_neg ha, if_pos rfl, List.nil_append]
  exact List.perm_middle
 have hpath : (path n len w (plug C (.nd i { a with slot := -1 } l r))).map (·.1) = C.reverse.map (·.i) ++ [i] := by
  rw [path_plug hF, path_one (show ExactAt n len w (.nd i { a with slot := -1 } l r) from he), List.map_append, pathC_ids]
  rfl
 have l1 : (delT T i a).nodes.length = T.nodes.length := by simp [delT, setN, setU]
 by_cases hcc : ccnt { a with slot := -1 } < 2
 ·obtain ⟨T', root', t', hSp, hI, hE, hu, hv, hz1, hz2⟩ := del_inv I1 hB rfl hcc
  refine ⟨T', root', t', I.shrink (hen.trans (List.Perm.cons _ hE.symm)) hI hu hv ⟨by lia, hz2⟩, fun _ => ?_, fun h => absurd hcc h⟩
  rw [hpath]; exact hSp
 ·exact ⟨_, _, _, I.shrink hen I1 rfl rfl ⟨by lia, Nat.le_add_right _ _⟩, fun h => absurd h hcc, fun _ => ⟨rfl, rfl⟩⟩
theorem rng8 {c : Nat} (h : 1 ≤ c ∧ c ≤ 8) : Builtin.Range.small 0 (8 * (c : Int)) 8 = true ∧ Builtin.Range.rangeSize 0 (8 * (c : Int)) 8 = (c : Int) := by
 have : ∀ c : Nat, c < 9 → Builtin.Range.small 0 (8 * (c : Int)) 8 = true ∧ Builtin.Range.rangeSize 0 (8 * (c : Int)) 8 = (c : Int) := by decide
 exact this c (by lia)
noncomputable def toldI (c : Nat) (bs : List Nat) (i : Nat) : List Int := [(bs.length : Int), 0, 0, 0] ++ (List.range i).map fun j => (octN (padB c bs) j : Int)
theorem getD_lt2 {l : List Nat} (hb : ∀ x ∈ l, x < 2) (i : Nat) : l.getD i 0 < 2 := by
 rw [List.getD_eq_getElem?_getD]
 cases h : l[i]? with
 | none => simp
 | some x => exact hb x (List.mem_of_getElem? h)
theorem octN_eq (l : List Nat) (j : Nat) : octN l j = l.getD (8 * j) 0 * 128 + (l.getD (8 * j + 1) 0 * 64 + (l.getD (8 * j + 2) 0 * 32 + (l.getD (8 * j + 3) 0 * 16 + (l.getD (8 * j + 4) 0 * 8 + (l.getD (8 * j + 5) 0 * 4 + (l.getD (8 * j + 6) 0 * 2 + (l.getD (8 * j + 7) 0 * 1 + 0))))))) := rfl
theorem octN_lt {l : List Nat} (hb : ∀ x ∈ l, x < 2) (j : Nat) : octN l j < 256 := by
 have h := fun i => getD_lt2 hb (8 * j + i)
 have h0 := h 0; have h1 := h 1; have h2 := h 2; have h3 := h 3; have h4 := h 4; have h5 := h 5; have h6 := h 6; have h7 := h 7
 rw [Nat.add_zero] at h0
 rw [octN_eq]
 lia
theorem toldI_succ (c : Nat) (bs : List Nat) (i : Nat) : toldI c bs (i + 1) = toldI c bs i ++ [(octN (padB c bs) i : Int)] := by
 unfold toldI
 rw [List.range_succ, List.map_append, List.append_assoc]
 rfl
theorem toldI_len (c : Nat) (bs : List Nat) (i : Nat) : (toldI c bs i).length = 4 + i := by unfold toldI; simp; lia
theorem toldI_in {c : Nat} {bs : List Nat} (hlen : bs.length ≤ 64) (hb : ∀ x ∈ padB c bs, x < 2) (i : Nat) : ∀ n ∈ toldI c bs i, 0 ≤ n ∧ n < 256 := by
 intro n hn
 unfold toldI at hn
 rcases List.mem_append.mp hn with hn | hn
 ·simp only [List.mem_cons, List.not_mem_nil, or_false] at hn
  rcases hn with rfl | rfl | rfl | rfl <;> lia
 ·obtain ⟨j, _, rfl⟩ := List.mem_map.mp hn
  have := octN_lt hb j
  lia
theorem told_bytes {c : Nat} {bs : List Nat} (hlen : bs.length ≤ 64) : (toldI c bs c).map (fun n => n.toNat.toUInt8) = toldB c bs := by
 unfold toldI toldB
 rw [List.map_append, List.map_map]
 have e1 : bs.length % 256 = bs.length := Nat.mod_eq_of_lt (by lia)
 have e2 : bs.length / 2 ^ 8 % 256 = 0 := by have : bs.length / 2 ^ 8 = 0 := Nat.div_eq_of_lt (by lia); rw [this]
 have e3 : bs.length / 2 ^ 16 % 256 = 0 := by have : bs.length / 2 ^ 16 = 0 := Nat.div_eq_of_lt (by lia); rw [this]
 have e4 : bs.length / 2 ^ 24 % 256 = 0 := by have : bs.length / 2 ^ 24 = 0 := Nat.div_eq_of_lt (by lia); rw [this]
 unfold le4
 rw [e1, e2, e3, e4]
 rfl
theorem bSum (w : World) : BuiltAt w "sum" (.builtin "sum") := by
 exact ⟨by k_is, by boot_by_name, by decide⟩
section
variable {d : Df} {c : Cx} {l : Fs} {N : Led} {K : KE}
theorem CallB.lenS {x : Str} {k : Int} (hk : (x.length : Int) = k) (hz : x.length ≤ 1000) (h : K (.i k) N) : CallB d c l "len" [] [.s x] N K := fun ts s Q hS hQ => len_str (by lia) (by rw [hk]; exact hQ.use (sh := .i k) _ h (hS.tok _))
theorem OpS.mul0 {n : Nat} {k : Int} (hk : k = n) (hn : n ≤ 1000) (h : K (.s (bitS (List.replicate n 0))) N) : OpS d c l .Mult (.s (Str.ofString "0")) (.i k) N K := fun t u s Q hS hQ => by
 subst hk
 refine SB.mul ⟨by simp; lia, fun h1 _ => ?_, fun h1 _ => ?_⟩ fun t' k => ?_
 ·have h2 : (1 : Int) ≤ (2 ^ 63 - 1) / (n : Int) := Int.le_ediv_of_mul_le (by lia) (by lia)
  show ¬ ((1 : Int) > _)
  lia
 ·show Builtin.Str.tooLong (1 * (n : Int).toNat) = false
  rw [Int.toNat_natCast, Nat.one_mul]
  exact decide_eq_false (by rw [sizeLine_eq]; lia)
 ·rw [bitS_mul]; exact hQ.use (sh := .s _) t' h (hS.tok _)
theorem ItemS.bit {ie : PySem.Expr} {b : List Nat} {i : Int} (h0 : 0 ≤ i) (hj : i.toNat < b.length) (hz : b.length ≤ 1000) (h : K (.s (bitS [b.getD i.toNat 0])) N)
  (hs : ∀ t u, subscripted ie false (.str (bitS b) t) (.int i u) = operate [.str (bitS b) t, .int i u] (getItem (.str (bitS b) t) (.int i u)) := by intro t u; with_unfolding_all rfl) : ItemS d c l ie (.s (bitS b)) (.i i) N K := fun t u s Q hS hQ =>
 bit_item9 h0 hj hz (hQ.use (sh := .s _) _ h (hS.tok _)) (hs t u) (fun _ => rfl)
theorem CmpS.eqBit {x : Nat} {KT KF : Led → Prop} (hT : x = 1 → KT N) (hF : x ≠ 1 → KF N) : CmpS d c l .Eq (.s (bitS [x])) (.s (Str.ofString "1")) N KT KF := fun t u s Q hS hQ => eq_bit9 (hQ _ N s (fun h => hT (of_decide_eq_true h)) (fun h => hF (of_decide_eq_false h)) hS)
theorem CallB.sum {r : Addr} {vs : List Value} {ns : List Int} {n : Nat} {N' : Led} (hm : (r, listOf vs.toArray n) ∈ N) (hi : IntsAre vs ns) (hs : ∀ p ∈ N', p ∈ N) (h : K (.i ns.sum) N') : CallB d c l "sum" [] [.v (.ref r)] N K := fun ts s Q hS hQ => by
 obtain ⟨ok, ⟨hp, tk, rfl⟩, ⟨m, F, H⟩, hN⟩ := hS
 exact LSm.sum_ints F hN rfl (News.isList hN hm) hi fun h' tk t' F' N9 => hQ.use (sh := .i _) t' h ⟨ok, ⟨_, _, rfl⟩, ⟨m, F', H⟩, fun p hp => N9 p (hs p hp)⟩
theorem CallT.range3 {a b st : Int} (hc : 1 ≤ st ∧ st ≤ 1000) (h : ∀ r t u v, (∀ p ∈ N, p.1 < r) → K (.v (.ref r)) ((r, rngO a b st t u v) :: N)) : CallT d c l "range" [.i a, .i b, .i st] N K := fun ts s Q hS hQ => by
 obtain ⟨ok, ⟨hp, tk, rfl⟩, ⟨m, F, H⟩, hN⟩ := hS
 exact call_range_3 (by lia) (hQ.use (sh := .v (.ref _)) 0 (h _ _ _ _ fun p hp => Heap.lt_size (hN p hp).1) ⟨ok, ⟨_, _, rfl⟩, ⟨m, F.push _, H⟩, hN.push F _⟩) (Or.inl (PyProof.noPylong_small (by lia)))
theorem Bk.tupCC {value : PySem.Expr} {k : Nat} {tpos p1 p2 pos : Pos} {x y : Str} {rest : List Stmt} {R : KS}
  (h : vc d c 30 (.E l N value fun sh N1 => ∃ r a b C o v0 N2 N', sh = .v (.ref r) ∧ (r, tupO [a, b]) ∈ N1 ∧ (∀ p ∈ N2, p ∈ N1) ∧ c.cl.lookup x = some C ∧ UpdF C o N2 N' ∧ o.data = .cell v0 ∧ ∀ o', o'.data = .cell (some a) → Bk d c (up y (Sh.of b) l) (N' o') rest R))
  (hs : autoParam (swapsWithSole [.Tuple [.Name x p1, .Name y p2] k tpos] value pos.line (cE d c) = pure false) name_B._auto_3) (hw : autoParam (swappedStores [.Tuple [.Name x p1, .Name y p2] k tpos] value (cE d c) = pure none) name_B._auto_3) (hx : autoParam ((cE d c).kindOf x = some .cell) name_B._auto_3) (hy : autoParam ((cE d c).kindOf y = some .local) name_B._auto_3) (ht : autoParam (d.top = true) name_B._auto_3) :
  Bk d c l N (.Assign [.Tuple [.Name x p1, .Name y p2] k tpos] value pos :: rest) R := fun s hS => by
 refine wpAny_execs_cons (Assign_Tuple (vc_sound 30 _ h s _ hS ?_) hs hw)
 rintro _ sh N1 s1 ⟨t, rfl⟩ ⟨r, a, b, C, o, v0, N2, N', rfl, hm, hsub, hc, U, ho, h1⟩ hS1
 obtain ⟨ok, ⟨hp, tk, rfl⟩, ⟨m, F, H⟩, hN⟩ := hS1
 refine unpackN_ F hN (News.isTup hN hm) rfl rfl rfl fun h2 F2 N2' => ?_
 show wpAny _ _ (assignInOrder [assign (.Name x p1) (cE d c), assign (.Name y p2) (cE d c)] [a, b]) _ _ _
 refine assignInOrder_cons (assign_Name (storeC9 (N := N2) ⟨ok, ⟨_, _, rfl⟩, ⟨m, F2, H⟩, fun p hp => N2' p (hsub p hp)⟩ hc U ho hx ht fun s2 o' hd hS2 => ?_))
 exact assignInOrder_cons (assign_Name (store9 hS2 (Sh.of_val b) hy ht fun s' hS' => assignInOrder_nil (h1 o' hd s' hS')))
end
structure TK where
 its : List Value
 e : Nat
 o2 : Obj
section
noncomputable def St_sp_law_told_key (w : World) (c : Nat) (bs : List Nat) (t1 t2 : Tok) : Prop := ∀ (hc : 1 ≤ c ∧ c ≤ 8) (hb : bs.length ≤ 8 * c) (hbit : ∀ x ∈ bs, x < 2), Sp w 623 6 [.str (bitS bs) t1, .int (c : Int) t2] [] [] (fun v _ => ∃ t, v = .bytes (toldB c bs).toArray t)
theorem sp_law_told_key : A5 St_sp_law_told_key := by
 refine' ey5 (ne_P ne_W (ne_P ne_N (ne_P ne_L (ne_P ne_N ne_N)))) ((?f9 : A5 St_sp_law_told_key) _ _ _ _ _)
 intro w c bs t1 t2 hc hb hbit
 have hzl : (bitS bs).length = bs.length := bitS_len bs
 have hpl : (padB c bs).length = 8 * c := by unfold padB; rw [List.length_append, List.length_replicate]; lia
 have hpb : ∀ x ∈ padB c bs, x < 2 := by
  intro x hx
  rcases List.mem_append.mp hx with hx | hx
  ·exact hbit x hx
  ·rw [List.eq_of_mem_replicate hx]; lia
 refine' Sp.of_WC [("count", .i c), ("text", .s (bitS bs))] ?ho ?hcd ?hbind ?hkind ?hnd ?hco ?hgen ?hk ?hl ?_
 case ho => k_is
 case hcd => k_is
 case hbind => (intro s9 hX9; first | exact BindsTo.of_eq rfl | exact binds_K hX9 rfl (by k_is) rfl rfl rfl)
 case hkind => exact rfl
 case hnd => decide
 case hco => exact rfl
 case hgen => exact rfl
 case hk => exact rfl
 case hl => exact fun _ => ⟨⟨_, rfl⟩, ⟨_, rfl⟩, trivial⟩
 refine' entC_all ((?f8 : ∀ c R' cells, EntC _ _ _ _ _ _ _ c R' cells) _ _ _); intro k R' cells hcl Y l0 hP hR
 obtain ⟨o2, o1, rfl, ho2, ho1⟩ := CellsAre.two Y
 have ho1 : o1.data = .cell none := ho1
 have ho2 : o2.data = .cell none := ho2
 have hck1 : k.cl.lookup (Str.ofString "whole") = some (k.L + 1) := by rw [hcl]; rfl
 have hck2 : k.cl.lookup (Str.ofString "begin") = some (k.L + 1 + 1) := by rw [hcl]; rfl
 have ew : bitS bs ++ bitS (List.replicate (8 * c - bs.length) 0) = bitS (padB c bs) := bitS_append _ _
 clear Y l0
 refine Bk.tupCC (OpS.mul (by lia) (RawE.bfn (bLen w) (CallB.lenS (k := bs.length) (by rw [hzl]) (by lia) (OpS.mul0 (n := 8 * c - bs.length) (by lia) (by lia) (OpS.addS (by rw [bitS_len, bitS_len, List.length_replicate]; lia) ?_)))))
 rw [ew]
 refine RawE.bfn (bLen w) (CallB.lenS (k := bs.length) (by rw [hzl]) (by lia) fun ts ol hlt ts2 r hlt2 => ⟨r, _, _, _, _, _, _, fun o => [(ol, _), (k.L + 1 + 1, o2), (k.L + 1, o)], rfl, .head _, fun _ h => .tail _ h, hck1, UpdF.tail (Nat.ne_of_gt (hlt _ (.tail _ (.head _)))) (UpdF.tail ?_ (UpdF.head fun _ h => absurd h List.not_mem_nil)), ho1, fun o1 ho1 => ?_⟩)
 ·exact Nat.ne_of_gt (Nat.lt_succ_self _)
 have n1 : ol ≠ k.L + 1 := Nat.ne_of_gt (hlt _ (.tail _ (.head _)))
 have n2 : ol ≠ k.L + 1 + 1 := Nat.ne_of_gt (hlt _ (.head _))
 have n3 : k.L + 1 ≠ k.L + 1 + 1 := Nat.ne_of_lt (Nat.lt_succ_self _)
 refine Bk.forW (α := TK) (fun _ _ => [("octets", .v (.ref ol))]) (fun _ z => [(k.L + 1 + 1, z.o2), (k.L + 1, o1), (ol, listOf z.its.toArray z.e)]) (fun i z => IntsAre z.its (toldI c bs i) ∧ ∃ v, z.o2.data = .cell v) ⟨_, _, o2⟩ (RawE.tfn (bRange w) (OpS.mul (by lia) (CallT.range3 (by lia) fun r u v x _ => ⟨c, _, _, SrcW.range (.head _) (rng8 hc).1 (rng8 hc).2, ⟨⟨?_, _, ho2⟩, subF_of ⟨rfl, trivial⟩, sub_cons (.tail _ (.tail _ (.head _))) (sub_cons (.tail _ (.tail _ (.tail _ (.head _)))) (sub_cons (.tail _ (.head _)) sub_nil)), ?_, ?_⟩⟩)))
 ·exact .cons _ _ (.cons _ _ (.cons _ _ (.cons _ _ .nil)))
 ·rintro I i _ ⟨its, e, o2⟩ own hi rfl ⟨hJ, v0, ho2⟩ hnI hown
  dsimp only at hJ ho2
  have h9 : ∀ p ∈ (k.L + 1, o1) :: (ol, listOf its.toArray e) :: own, p.1 ≠ k.L + 1 + 1 := by
   intro p hp
   rcases List.mem_cons.mp hp with rfl | hp
   ·exact n3
   rcases List.mem_cons.mp hp with rfl | hp
   ·exact n2
   ·rw [(hown p hp).1.elim id fun h => absurd h List.not_mem_nil]; exact fun e => hnI _ (.head _) e.symm
  have h8 : ∀ p ∈ own, p.1 ≠ ol := fun p hp => by
   rw [(hown p hp).1.elim id fun h => absurd h List.not_mem_nil]; exact fun e => hnI _ (.tail _ (.tail _ (.head _))) e.symm
  refine AsgS.cell (fun o => (k.L + 1 + 1, o) :: (k.L + 1, o1) :: (ol, listOf its.toArray e) :: own) hck2 (UpdF.head h9) ho2 fun o2 t9 ho2 => ?_
  refine vcS_sound 10 (RawE.append (D := ol) (its := its) (n := e) (fun v => (k.L + 1 + 1, o2) :: (k.L + 1, o1) :: (ol, listOf (its ++ [v]).toArray (e + 1)) :: own) (And.intro rfl (And.intro (.tail _ (.tail _ (.head _))) ?_)))
  refine RawE.bfn (bSum w) (RawE.compT (cl := [(Str.ofString "whole", k.L + 1), (Str.ofString "begin", k.L + 1 + 1)]) (RawE.tfn (bRange w) (CallT.range1 fun r u v x _ => ⟨fun _ => True, 8, fun j sh => sh = .i (0 + j), fun j ys nw => nw = (k.L + 1 + 1, o2) :: (k.L + 1, o1) :: (ol, listOf its.toArray e) :: own ∧ IntsAre ys (bitsI (padB c bs) i j), (k.L + 1 + 1, o2) :: (k.L + 1, o1) :: (ol, listOf its.toArray e) :: own, SrcC.range (.head _) (by decide) (by decide) (by decide), fun _ h => .tail _ h, ⟨rfl, .nil⟩, ?_, ?_⟩)) ?_)
  ·rintro I2 oI C oC D m₂ j ys news sh u m hj rfl ⟨rfl, hys⟩ hC hx off ne
   have hij : (0 + (i : Int) * 8 + (0 + (j : Int))).toNat = 8 * i + j := by lia
   refine vc_sound 30 (.T _ _ _ _ _) (RawE.cell (a := k.L + 1) rfl (.tail _ (.tail _ (.tail _ (.tail _ (.head _))))) ho1 (RawE.cell (a := k.L + 1 + 1) rfl (.tail _ (.tail _ (.tail _ (.head _)))) ho2 (RawE.cvar (.tail _ (.head _)) hC hx (ItemS.bit (by lia) (by lia) (by lia) ?_))))
   rw [hij]
   refine CmpS.eqBit (fun h => ?_) fun h => ?_
   ·refine vc_sound 30 (.E _ _ _ _) (RawE.cvar (.tail _ (.head _)) hC hx (OpS.pow (7 - j) (by lia) (by decide) (by lia) fun u => ⟨_, fun _ h => h, off, trivial, rfl, ?_⟩))
    rw [bitsI_succ, if_pos h, Int.natCast_pow]
    exact Mine.IntsAre.snoc hys _ _
   ·refine ⟨_, fun _ h => h, off, trivial, rfl, ?_⟩
    rw [bitsI_succ, if_neg h]
    exact hys
  ·rintro ys news D ⟨rfl, hys⟩ _
   have hsum : (bitsI (padB c bs) i 8).sum = (octN (padB c bs) i : Int) := bitsI_sum hpb i 8
   refine CallB.sum (.head _) hys (fun _ h => .tail _ h) ⟨by rw [hJ.length, toldI_len]; lia, fun t => And.intro (Upd.tail n2.symm (Upd.tail n1.symm (Upd.head h8))) ⟨⟨_, _, o2⟩, ⟨?_, _, ho2⟩, subF_of ⟨rfl, trivial⟩, fun _ h => h, ?_⟩⟩
   ·show IntsAre (its ++ [.int _ t]) _
    rw [toldI_succ, ← hsum]
    exact Mine.IntsAre.snoc hJ _ _
   ·intro p hp
    simp only [List.mem_cons, List.not_mem_nil, or_false] at hp
    rcases hp with rfl | rfl | rfl
    ·have h := hnI _ (.head _); exact h
    ·exact hnI _ (.tail _ (.head _))
    ·have h := hnI _ (.tail _ (.tail _ (.head _))); exact h
  ·show closureFor _ (envX _ _ _ _ _ k.cl) = _
   rw [hcl]; rfl
 ·rintro ⟨its, e, o2⟩ ⟨hJ, v0, ho2⟩
  dsimp only at hJ ho2
  refine vcS_sound 1 (RawE.tfn (bBytes w) (CallT.bytes [] (.tail _ (.tail _ (.head _))) hJ (toldI_in (by lia) hpb c) (by rw [toldI_len]; lia) sub_nil fun t => hR _ _ ⟨t, ?_⟩))
  rw [told_bytes (by lia)]; rfl
end
noncomputable def num (B : Nat) (l : List Nat) : Nat := l.foldl (fun a x => a * B + x) 0
theorem num_aux (B : Nat) : ∀ (l : List Nat) (a : Nat), l.foldl (fun a x => a * B + x) a = a * B ^ l.length + num B l
 | [], a => by simp [num]
 | x :: l, a => by
  have h1 := num_aux B l (a * B + x)
  have h2 := num_aux B l (0 * B + x)
  unfold num at *
  rw [List.foldl_cons, h1, List.foldl_cons, h2, List.length_cons, Nat.pow_succ, Nat.add_mul, Nat.add_mul, Nat.mul_assoc a, Nat.mul_comm B]
  simp [Nat.add_assoc]
theorem num_cons (B x : Nat) (l : List Nat) : num B (x :: l) = x * B ^ l.length + num B l := by
 have h := num_aux B l (0 * B + x)
 unfold num at *
 rw [List.foldl_cons, h]; simp
theorem num_append (B : Nat) (l m : List Nat) : num B (l ++ m) = num B l * B ^ m.length + num B m := by
 have h := num_aux B m (num B l)
 unfold num at *
 rw [List.foldl_append, h]
theorem num_snoc (B : Nat) (l : List Nat) (x : Nat) : num B (l ++ [x]) = num B l * B + x := by rw [num_append]; simp [num]
theorem num_lt {B : Nat} : ∀ {l : List Nat}, (∀ x ∈ l, x < B) → num B l < B ^ l.length
 | [], _ => by simp [num]
 | x :: l, h => by
  have h1 := num_lt fun y hy => h y (.tail _ hy)
  have h2 := h x (.head _)
  rw [num_cons, List.length_cons, Nat.pow_succ]
  calc x * B ^ l.length + num B l < x * B ^ l.length + B ^ l.length := by lia
   _ = (x + 1) * B ^ l.length := by rw [Nat.add_mul, Nat.one_mul]
   _ ≤ B * B ^ l.length := Nat.mul_le_mul_right _ h2
   _ = B ^ l.length * B := Nat.mul_comm _ _
theorem ltri (a b : List Nat) : a < b ∨ a = b ∨ b < a := by
 by_cases h1 : a < b
 ·exact .inl h1
 ·by_cases h2 : b < a
  ·exact .inr (.inr h2)
  ·exact .inr (.inl (List.le_antisymm (List.not_lt.mp h2) (List.not_lt.mp h1)))
theorem lex_num {B : Nat} : ∀ {a b : List Nat}, a.length = b.length → (∀ x ∈ a, x < B) → (∀ x ∈ b, x < B) → (a < b ↔ num B a < num B b)
 | [], [], _, _, _ => by simp [num]
 | x :: a, y :: b, hl, ha, hb => by
  have hl' : a.length = b.length := by simpa using hl
  have ih := lex_num hl' (fun z hz => ha z (.tail _ hz)) (fun z hz => hb z (.tail _ hz))
  have h1 := num_lt (B := B) (l := a) fun z hz => ha z (.tail _ hz)
  have h2 := num_lt (B := B) (l := b) fun z hz => hb z (.tail _ hz)
  rw [List.cons_lt_cons_iff, num_cons, num_cons, hl']
  rw [hl'] at h1
  rcases Nat.lt_trichotomy x y with h | h | h
  ·have h3 : (x + 1) * B ^ b.length ≤ y * B ^ b.length := Nat.mul_le_mul_right _ h
   rw [Nat.add_mul, Nat.one_mul] at h3
   constructor
   ·intro _; lia
   ·intro _; exact .inl h
  ·subst h
   constructor
   ·rintro (h | ⟨_, h⟩)
    ·lia
    ·have := ih.mp h; lia
   ·intro h; exact .inr ⟨rfl, ih.mpr (by lia)⟩
  ·have h3 : (y + 1) * B ^ b.length ≤ x * B ^ b.length := Nat.mul_le_mul_right _ h
   rw [Nat.add_mul, Nat.one_mul] at h3
   constructor
   ·rintro (h' | ⟨h', _⟩) <;> lia
   ·intro _; lia
 | [], _ :: _, h, _, _ => by simp at h
 | _ :: _, [], h, _, _ => by simp at h
noncomputable def W (c : Nat) (x : List Nat) : Nat := num 2 (padB c x)
theorem padB_len {c : Nat} {x : List Nat} (h : x.length ≤ 8 * c) : (padB c x).length = 8 * c := by unfold padB; rw [List.length_append, List.length_replicate]; lia
theorem padB_bit {c : Nat} {x : List Nat} (h : ∀ y ∈ x, y < 2) : ∀ y ∈ padB c x, y < 2 := by
 intro y hy
 rcases List.mem_append.mp hy with hy | hy
 ·exact h y hy
 ·rw [List.eq_of_mem_replicate hy]; lia
theorem W_lt {c : Nat} {x : List Nat} (hl : x.length ≤ 8 * c) (h : ∀ y ∈ x, y < 2) : W c x < 2 ^ (8 * c) := by
 have := num_lt (padB_bit (c := c) h)
 rwa [padB_len hl] at this
theorem kb_num {n w : Nat} (hw : w < 2 ^ n) : ∀ i, i ≤ n → num 2 (kb n w i) = w / 2 ^ (n - i)
 | 0, _ => by
  rw [Nat.sub_zero, Nat.div_eq_of_lt hw]; rfl
 | i + 1, hi => by
  have ih := kb_num hw i (by lia)
  have e : kb n w (i + 1) = kb n w i ++ [bitTop w i n] := by unfold kb; rw [List.range_succ, List.map_append]; rfl
  rw [e, num_snoc, ih]
  unfold bitTop
  have e1 : n - i = n - 1 - i + 1 := by lia
  have e2 : n - (i + 1) = n - 1 - i := by lia
  rw [e1, e2, Nat.pow_succ, ← Nat.div_div_eq_div_mul]
  lia
theorem kb_bit (n w l : Nat) : ∀ y ∈ kb n w l, y < 2 := by
 intro y hy
 obtain ⟨i, _, rfl⟩ := List.mem_map.mp hy
 exact bitTop_lt _ _ _
theorem num_inj {B : Nat} {a b : List Nat} (hl : a.length = b.length) (ha : ∀ x ∈ a, x < B) (hb : ∀ x ∈ b, x < B) (h : num B a = num B b) : a = b := by
 rcases ltri a b with h1 | h1 | h1
 ·have := (lex_num hl ha hb).mp h1; lia
 ·exact h1
 ·have := (lex_num hl.symm hb ha).mp h1; lia
theorem kb_W {c : Nat} {x : List Nat} (hl : x.length ≤ 8 * c) (h : ∀ y ∈ x, y < 2) : kb (8 * c) (W c x) x.length = x := by
 have hw := W_lt hl h
 have e : kb (8 * c) (W c x) (8 * c) = padB c x := by
  refine num_inj (B := 2) (by rw [kb_len, padB_len hl]) (kb_bit _ _ _) (padB_bit h) ?_
  rw [kb_num hw _ (Nat.le_refl _), Nat.sub_self, Nat.pow_zero, Nat.div_one]; rfl
 have e2 : kb (8 * c) (W c x) x.length = (kb (8 * c) (W c x) (8 * c)).take x.length := by
  unfold kb
  rw [← List.map_take, List.take_range, Nat.min_eq_left hl]
 rw [e2, e]
 unfold padB
 rw [List.take_left']
 rfl
theorem W_kb {c w l : Nat} (hw : w < 2 ^ (8 * c)) (hl : l ≤ 8 * c) (hc : w = cutB w l (8 * c)) : W c (kb (8 * c) w l) = w := by
 have e : padB c (kb (8 * c) w l) = kb (8 * c) w (8 * c) := by
  apply List.ext_getElem?
  intro i
  unfold padB
  rw [kb_len]
  by_cases hi : i < l
  ·rw [List.getElem?_append_left (by rw [kb_len]; exact hi), kb_get hi, kb_get (by lia)]
  ·by_cases hi2 : i < 8 * c
   ·rw [List.getElem?_append_right (by rw [kb_len]; lia), kb_len, kb_get hi2, List.getElem?_replicate, if_pos (by lia), hc, bitTop_cut0 (by lia) hi2]
   ·rw [List.getElem?_eq_none (by rw [List.length_append, kb_len, List.length_replicate]; lia), List.getElem?_eq_none (by rw [kb_len]; lia)]
 unfold W
 rw [e, kb_num hw _ (Nat.le_refl _), Nat.sub_self, Nat.pow_zero, Nat.div_one]
theorem take_getD {l : List Nat} {k n : Nat} (h : k < l.length) : (l.drop k).take (n + 1) = l.getD k 0 :: (l.drop (k + 1)).take n := by
 rw [List.drop_eq_getElem_cons h, List.take_succ_cons, List.getD_eq_getElem?_getD, List.getElem?_eq_getElem h, Option.getD_some]
theorem getD_take8 (l : List Nat) (j : Nat) (h : 8 * j + 8 ≤ l.length) : (l.drop (8 * j)).take 8 = [l.getD (8 * j) 0, l.getD (8 * j + 1) 0, l.getD (8 * j + 2) 0, l.getD (8 * j + 3) 0, l.getD (8 * j + 4) 0, l.getD (8 * j + 5) 0, l.getD (8 * j + 6) 0, l.getD (8 * j + 7) 0] := by
 have a (i : Nat) (hi : i < 8) : 8 * j + i < l.length := Nat.lt_of_lt_of_le (Nat.add_lt_add_left hi _) h
 exact (take_getD (a 0 (by decide))).trans (congrArg (List.cons _) ((take_getD (a 1 (by decide))).trans (congrArg (List.cons _) ((take_getD (a 2 (by decide))).trans (congrArg (List.cons _) ((take_getD (a 3 (by decide))).trans (congrArg (List.cons _) ((take_getD (a 4 (by decide))).trans (congrArg (List.cons _) ((take_getD (a 5 (by decide))).trans (congrArg (List.cons _) ((take_getD (a 6 (by decide))).trans (congrArg (List.cons _) ((take_getD (n := 0) (a 7 (by decide)))))))))))))))))
theorem oct_W {l : List Nat} {c j : Nat} (hl : l.length = 8 * c) (hb : ∀ x ∈ l, x < 2) (hj : j < c) : octN l j = num 2 l / 2 ^ (8 * (c - 1 - j)) % 256 := by
 have e : l = l.take (8 * j) ++ ((l.drop (8 * j)).take 8 ++ (l.drop (8 * j)).drop 8) := by rw [List.take_append_drop, List.take_append_drop]
 have hm : ∀ x ∈ (l.drop (8 * j)).drop 8, x < 2 := fun x hx => hb x (List.mem_of_mem_drop (List.mem_of_mem_drop hx))
 have h1 := num_lt hm
 have hlen : ((l.drop (8 * j)).drop 8).length = 8 * (c - 1 - j) := by rw [List.length_drop, List.length_drop]; lia
 rw [hlen] at h1
 have h8 : ((l.drop (8 * j)).take 8).length = 8 := by rw [List.length_take, List.length_drop]; lia
 have hn : num 2 l = (num 2 (l.take (8 * j)) * 2 ^ 8 + num 2 ((l.drop (8 * j)).take 8)) * 2 ^ (8 * (c - 1 - j)) + num 2 ((l.drop (8 * j)).drop 8) := by
  conv => lhs; rw [e]
  rw [num_append, num_append, List.length_append, h8, hlen, Nat.pow_add, ← Nat.mul_assoc, Nat.add_mul, Nat.add_assoc]
 have h2 := num_lt (B := 2) (l := (l.drop (8 * j)).take 8) fun x hx => hb x (List.mem_of_mem_drop (List.mem_of_mem_take hx))
 rw [h8] at h2
 have e8 : num 2 ((l.drop (8 * j)).take 8) = octN l j := by
  rw [getD_take8 l j (by lia), octN_eq]
  unfold num
  simp only [List.foldl_cons, List.foldl_nil]
  lia
 rw [hn, Nat.mul_comm _ (2 ^ (8 * (c - 1 - j))), Nat.mul_add_div (Nat.two_pow_pos _), Nat.div_eq_of_lt h1, Nat.add_zero, ← e8]
 lia
theorem told_key {c : Nat} {x : List Nat} (hl : x.length ≤ 8 * c) (h : ∀ y ∈ x, y < 2) : toldB c x = keyB c x.length (W c x) := by
 unfold toldB keyB octs
 congr 1
 apply List.map_congr_left
 intro j hj
 unfold oc
 rw [oct_W (padB_len hl) (padB_bit h) (List.mem_range.mp hj)]
 rfl
theorem octs_num {w c : Nat} (hw : w < 2 ^ (8 * c)) : num 256 (bNat (octs w c)) = w ∧ (∀ x ∈ bNat (octs w c), x < 256) ∧ (bNat (octs w c)).length = c := by
 have hb : bNat (octs w c) = (List.range c).map fun j => w / 2 ^ (8 * (c - 1 - j)) % 256 := by
  unfold bNat octs oc
  rw [List.map_map]
  apply List.map_congr_left
  intro j _
  show (UInt8.ofNat _).toNat = _
  rw [UInt8.toNat_ofNat']
  lia
 rw [hb]
 refine ⟨?_, fun x hx => ?_, by simp⟩
 ·have : ∀ i, i ≤ c → num 256 ((List.range i).map fun j => w / 2 ^ (8 * (c - 1 - j)) % 256) = w / 2 ^ (8 * (c - i)) := by
   intro i
   induction i with
   | zero => intro _; rw [Nat.sub_zero, Nat.div_eq_of_lt hw]; rfl
   | succ i ih =>
    intro hi
    rw [List.range_succ, List.map_append, List.map_cons, List.map_nil, num_snoc, ih (by lia)]
    have e1 : 8 * (c - i) = 8 * (c - 1 - i) + 8 := by lia
    have e2 : 8 * (c - (i + 1)) = 8 * (c - 1 - i) := by lia
    rw [e1, e2, Nat.pow_add, ← Nat.div_div_eq_div_mul]
    lia
  have h := this c (Nat.le_refl _)
  rwa [Nat.sub_self, Nat.mul_zero, Nat.pow_zero, Nat.div_one] at h
 ·obtain ⟨j, _, rfl⟩ := List.mem_map.mp hx
  lia
theorem le4_num {l : Nat} (h : l ≤ 64) : bNat (le4 l) = [l, 0, 0, 0] := by
 unfold le4 bNat
 have e1 : l % 256 = l := Nat.mod_eq_of_lt (by lia)
 have e2 : l / 2 ^ 8 % 256 = 0 := by have : l / 2 ^ 8 = 0 := Nat.div_eq_of_lt (by lia); rw [this]
 have e3 : l / 2 ^ 16 % 256 = 0 := by have : l / 2 ^ 16 = 0 := Nat.div_eq_of_lt (by lia); rw [this]
 have e4 : l / 2 ^ 24 % 256 = 0 := by have : l / 2 ^ 24 = 0 := Nat.div_eq_of_lt (by lia); rw [this]
 rw [e1, e2, e3, e4]
 simp only [List.map_cons, List.map_nil, UInt8.toNat_ofNat']
 rw [show l % 2 ^ 8 = l by lia]
theorem key_lt {c l l' w w' : Nat} (h : l ≤ 64) (h' : l' ≤ 64) (hw : w < 2 ^ (8 * c)) (hw' : w' < 2 ^ (8 * c)) : bNat (keyB c l w) < bNat (keyB c l' w') ↔ l < l' ∨ l = l' ∧ w < w' := by
 obtain ⟨n1, b1, z1⟩ := octs_num hw
 obtain ⟨n2, b2, z2⟩ := octs_num hw'
 have e : ∀ l w, bNat (keyB c l w) = bNat (le4 l) ++ bNat (octs w c) := fun l w => by unfold keyB bNat; rw [List.map_append]
 rw [e, e, le4_num h, le4_num h']
 show (l :: 0 :: 0 :: 0 :: _) < (l' :: 0 :: 0 :: 0 :: _) ↔ _
 rw [List.cons_lt_cons_iff, List.cons_lt_cons_iff, List.cons_lt_cons_iff, List.cons_lt_cons_iff]
 have hx : ([].append (bNat (octs w c)) < [].append (bNat (octs w' c))) ↔ w < w' := by
  show (bNat (octs w c) < bNat (octs w' c)) ↔ w < w'
  rw [lex_num (B := 256) (z1.trans z2.symm) b1 b2, n1, n2]
 rw [hx]
 lia
theorem bNat_inj {a b : List UInt8} (h : bNat a = bNat b) : a = b := by
 unfold bNat at h
 exact (List.map_inj_right fun x y e => UInt8.toNat_inj.mp e).mp h
theorem kle_unique : ∀ {a b : List (List UInt8)}, a.Perm b → a.Pairwise KLe → b.Pairwise KLe → a = b := by
 intro a b hp ha hb
 refine hp.eq_of_pairwise (fun x y _ _ h1 h2 => ?_) ha hb
 unfold KLe at h1 h2
 rcases ltri (bNat x) (bNat y) with h | h | h
 ·exact absurd h h2
 ·exact bNat_inj h
 ·exact absurd h h1
noncomputable def sN (x : List Nat) : List Nat := x.map (48 + ·)
theorem sN_bitS (x : List Nat) : (bitS x).cps.toList = sN x := by simp [bitS, sN]
theorem sN_lt : ∀ {x y : List Nat}, sN x < sN y ↔ x < y
 | [], [] => by simp [sN]
 | [], _ :: _ => by simp [sN]
 | _ :: _, [] => by simp [sN]
 | a :: x, b :: y => by
  have ih := sN_lt (x := x) (y := y)
  unfold sN at *
  have e1 : 48 + a < 48 + b ↔ a < b := by lia
  have e2 : 48 + a = 48 + b ↔ a = b := by lia
  rw [List.map_cons, List.map_cons, List.cons_lt_cons_iff, List.cons_lt_cons_iff, ih, e1, e2]
noncomputable def ltK (x y : List Nat) : Bool := decide (x.length < y.length ∨ x.length = y.length ∧ sN x < sN y)
theorem ltK_so : SO ltK := by
 have as : ∀ a b : List Nat, a < b → ¬ b < a := fun a b h h' => List.lt_irrefl _ (List.lt_trans h h')
 constructor
 ·intro x y h
  unfold ltK at *
  rw [decide_eq_true_eq] at h
  rw [decide_eq_false_iff_not]
  rintro (h2 | ⟨h2, h3⟩)
  ·lia
  ·rcases h with h | ⟨_, h⟩
   ·lia
   ·exact as _ _ h h3
 ·intro x y z h1 h2
  unfold ltK at *
  rw [decide_eq_true_eq] at *
  rcases h1 with h1 | ⟨h1, h1'⟩ <;> rcases h2 with h2 | ⟨h2, h2'⟩
  ·left; lia
  ·left; lia
  ·left; lia
  ·right; exact ⟨by lia, List.lt_trans h1' h2'⟩
 ·intro x y z h
  unfold ltK at *
  rw [decide_eq_true_eq] at *
  rw [decide_eq_true_eq]
  rcases Nat.lt_trichotomy x.length y.length with h1 | h1 | h1
  ·exact .inl (.inl h1)
  ·rcases h with h | ⟨h, h'⟩
   ·exact .inr (.inl (by lia))
   ·rcases ltri (sN x) (sN y) with h2 | h2 | h2
    ·exact .inl (.inr ⟨h1, h2⟩)
    ·exact .inr (.inr ⟨by lia, h2 ▸ h'⟩)
    ·exact .inr (.inr ⟨by lia, List.lt_trans h2 h'⟩)
  ·rcases h with h | ⟨h, h'⟩
   ·exact .inr (.inl (by lia))
   ·exact .inr (.inl (by lia))
section
variable {c : Nat} {T : TS} {root : Int} {t : Tr} {H : HT} {j : Nat}
theorem LI.bits (I : LI (8 * c) T root t H j) : ∀ p ∈ H, p.1.length ≤ 8 * c ∧ ∀ y ∈ p.1, y < 2 := by
 intro p hp
 have hk : p.1 ∈ (ents (8 * c) t).map (·.1) := I.keys.mem_iff.mpr (List.mem_map.mpr ⟨p, hp, rfl⟩)
 obtain ⟨e, he, e1⟩ := List.mem_map.mp hk
 obtain ⟨q, hq, h1, _, _⟩ := ent_mem.mp he
 rw [← e1, ← h1]
 have := (WF.pre I.inv.wf q hq).2
 exact ⟨by rw [K_len]; exact this.1, kb_bit _ _ _⟩
theorem told_node {nd : Nd} (h : Cut (8 * c) nd) : keyB c nd.len nd.w = toldB c (K (8 * c) nd) := by
 have hl : (K (8 * c) nd).length ≤ 8 * c := by rw [K_len]; exact h.1
 rw [told_key hl (kb_bit _ _ _), K_len]
 unfold K
 rw [W_kb h.2.1 h.1 h.2.2]
theorem entKeys_eq (hw : WF (8 * c) [] t) : entKeys c (pre t) = (ents (8 * c) t).map fun e => toldB c e.1 := by
 unfold entKeys ents entL
 rw [List.map_map]
 apply List.map_congr_left
 intro q hq
 exact told_node (WF.pre hw q (List.mem_filter.mp hq).1).2
theorem LI.keysP (I : LI (8 * c) T root t H j) : (entKeys c (pre t)).Perm ((H.map (·.1)).map (toldB c)) := by
 rw [entKeys_eq I.inv.wf]
 have := I.keys.map (toldB c)
 rwa [List.map_map] at this
theorem W_num {x : List Nat} : W c x = num 2 x * 2 ^ (8 * c - x.length) := by
 unfold W padB
 rw [num_append, List.length_replicate]
 have : num 2 (List.replicate (8 * c - x.length) 0) = 0 := by
  generalize 8 * c - x.length = k
  induction k with
  | zero => rfl
  | succ k ih => rw [List.replicate_succ, num_cons, ih]; lia
 rw [this, Nat.add_zero]
theorem told_lt {x y : List Nat} (hc : c ≤ 8) (hx : x.length ≤ 8 * c ∧ ∀ z ∈ x, z < 2) (hy : y.length ≤ 8 * c ∧ ∀ z ∈ y, z < 2) (h : bNat (toldB c y) < bNat (toldB c x)) : ltK y x = true := by
 rw [told_key hx.1 hx.2, told_key hy.1 hy.2, key_lt (Nat.le_trans hy.1 (by lia)) (Nat.le_trans hx.1 (by lia)) (W_lt hy.1 hy.2) (W_lt hx.1 hx.2)] at h
 unfold ltK
 rw [decide_eq_true_eq]
 rcases h with h | ⟨h1, h2⟩
 ·exact .inl h
 ·refine .inr ⟨h1, sN_lt.mpr ((lex_num h1 hy.2 hx.2).mpr ?_)⟩
  rw [W_num, W_num, h1] at h2
  exact Nat.lt_of_mul_lt_mul_right h2
theorem row_eq (hc : c ≤ 8) (I : LI (8 * c) T root t H j) {ks : List (List Nat)} (hp : ks.Perm (H.map (·.1))) (hs : ks.Pairwise fun x y => ltK y x = false) {bs : List (List UInt8)} (hb : bs.Perm (entKeys c (pre t))) (hbs : bs.Pairwise KLe) : bs = ks.map (toldB c) := by
 refine kle_unique (hb.trans (I.keysP.trans ((hp.map _).symm))) hbs ?_
 rw [List.pairwise_map]
 refine hs.imp_of_mem fun {x y} hx hy h => ?_
 unfold KLe
 intro hlt
 have bx : ∀ z ∈ ks, z.length ≤ 8 * c ∧ ∀ b ∈ z, b < 2 := fun z hz => by
  obtain ⟨p, hp', e⟩ := List.mem_map.mp (hp.mem_iff.mp hz)
  rw [← e]; exact I.bits p hp'
 rw [told_lt hc (bx x hx) (bx y hy) hlt] at h
 cases h
theorem exact_node {w len : Nat} (I : LI (8 * c) T root t H j) (hw : w < 2 ^ (8 * c)) (hl : len ≤ 8 * c) :
  (exactT (8 * c) len w t = -1 ∧ kb (8 * c) w len ∉ H.map (·.1)) ∨ ∃ i nd, exactT (8 * c) len w t = i ∧ 0 ≤ i ∧ getN T i = some nd ∧ K (8 * c) nd = kb (8 * c) w len ∧ Cut (8 * c) nd ∧ (nd.slot = -1 ↔ kb (8 * c) w len ∉ H.map (·.1)) := by
 obtain ⟨C, s, htp, hB, hC, hs, hWC, hWs, hd1, hd2, hd3, hF, hh⟩ := locate_inv I.inv hw hl
 have peer : kb (8 * c) w len ∈ H.map (·.1) → ∃ s, peerT T (8 * c) len w t = some s := fun h => by
  obtain ⟨⟨k, b⟩, hm, e⟩ := List.mem_map.mp h
  dsimp only at e
  subst e
  obtain ⟨s, x, h1, _⟩ := I.peer_in hw hl hm
  exact ⟨s, h1⟩
 rcases off_or hF with ho | ⟨i, nd, l, r, rfl, he⟩
 ·left
  refine ⟨exact_off hF ho, fun hin => ?_⟩
  obtain ⟨s, h1⟩ := peer hin
  unfold peerT at h1
  rw [if_pos (exact_off hF ho)] at h1
  cases h1
 ·right
  have hex := exact_at hl hF he
  have hK := exact_K hw hl hWs he
  refine ⟨i, nd, hex, hs.1, hs.2.1, hK, hWs.2.1, ?_⟩
  constructor
  ·intro hsl hin
   obtain ⟨s, h1⟩ := peer hin
   unfold peerT at h1
   have h0 := hs.1
   rw [hex, if_neg (by lia), hs.2.1] at h1
   have h2 : (if nd.slot = -1 then none else some nd.slot) = some s := h1
   rw [if_pos hsl] at h2
   cases h2
  ·intro hno
   false_or_by_contra
   rename_i hn
   refine hno (I.keys.mem_iff.mp (List.mem_map.mpr ⟨(kb (8 * c) w len, nd.slot), ent_mem.mpr ⟨(i, nd), ?_, hK, rfl, hn⟩, rfl⟩))
   rw [htp]
   exact (pre_plug C _ hB).mem_iff.mpr (List.mem_append_right _ (.head _))
theorem next_eq {w len : Nat} (I : LI (8 * c) T root t H j) (hw : w < 2 ^ (8 * c)) (hl : len ≤ 8 * c) (bs : List (List UInt8)) : nextI T (8 * c) c len w t bs = if kb (8 * c) w len ∈ H.map (·.1) then bs.idxOf (toldB c (kb (8 * c) w len)) + 1 else 0 := by
 unfold nextI
 rcases exact_node I hw hl with ⟨h1, h2⟩ | ⟨i, nd, h1, h0, h2, h3, h4, h5⟩
 ·rw [if_pos h1, if_neg h2]
 ·rw [h1, if_neg (by lia), h2]
  dsimp only
  by_cases hs : nd.slot = -1
  ·rw [if_pos hs, if_neg (h5.mp hs)]
  ·rw [if_neg hs, if_pos (Classical.not_not.mp fun h => hs (h5.mpr h)), told_node h4, h3]
theorem val_in {w len : Nat} {b : UInt8} (I : LI (8 * c) T root t H j) (hw : w < 2 ^ (8 * c)) (hl : len ≤ 8 * c) (h : (kb (8 * c) w len, b) ∈ H) : valT T (8 * c) len w t = some b := by
 obtain ⟨s, x, h1, h2, h3⟩ := I.peer_in hw hl h
 unfold valT
 rw [h1]
 show (getV T s).map (·.2) = some b
 rw [h3]; rfl
theorem val_out {w len : Nat} (I : LI (8 * c) T root t H j) (hw : w < 2 ^ (8 * c)) (hl : len ≤ 8 * c) (h : kb (8 * c) w len ∉ H.map (·.1)) : valT T (8 * c) len w t = none := by
 unfold valT
 rw [I.peer_out hw hl h]; rfl
theorem far_none {w len : Nat} (hl : 8 * c < len) : exactT (8 * c) len w t = -1 ∧ peerT T (8 * c) len w t = none ∧ valT T (8 * c) len w t = none ∧ lookT (8 * c) len w t = none := by
 have h1 : exactT (8 * c) len w t = -1 := by unfold exactT; rw [if_pos hl]
 have h2 : peerT T (8 * c) len w t = none := by unfold peerT; rw [if_pos h1]
 refine ⟨h1, h2, by unfold valT; rw [h2]; rfl, by unfold lookT; rw [if_pos hl]⟩
theorem rising_pw : ∀ (l : List Str) (p : Str), risingS p l = true → (p :: l).Pairwise fun a b => ¬ b.cps.toList < a.cps.toList
 | [], p, _ => List.pairwise_singleton _ _
 | x :: r, p, h => by
  unfold risingS at h
  rw [Bool.and_eq_true, Bool.not_eq_true', ltCps_eq, decide_eq_false_iff_not] at h
  have ih := rising_pw r x h.2
  refine List.Pairwise.cons (fun y hy => ?_) ih
  rcases List.mem_cons.mp hy with rfl | hy
  ·exact h.1
  ·have h2 := (List.pairwise_cons.mp ih).1 y hy
   intro h3
   exact List.not_lt.mpr (List.le_trans (List.not_lt.mp h.1) (List.not_lt.mp h2)) h3
theorem sorted_pw {l : List Str} (h : sortedS l = true) : l.Pairwise fun a b => ¬ b.cps.toList < a.cps.toList := by
 cases l with
 | nil => exact List.Pairwise.nil
 | cons x r => exact rising_pw r x h
theorem lt_of_prefix : ∀ {x y : List Nat}, x <+: y → x.length < y.length → x < y
 | [], [], _, h => by simp at h
 | [], _ :: _, _, _ => by simp
 | a :: x, [], h, _ => by have := h.length_le; simp at this
 | a :: x, b :: y, h, hl => by
  obtain ⟨r, e⟩ := h
  injection e with e1 e2
  subst e1
  rw [List.cons_lt_cons_iff]
  exact .inr ⟨rfl, lt_of_prefix ⟨r, e2⟩ (by simpa using hl)⟩
theorem starts_iff {x y : List Nat} : PySem.Txt.startswith (bitS x) (bitS y) = decide (y <+: x) := by
 unfold PySem.Txt.startswith
 rw [StrLaws.subAt_eq, List.drop_zero, sN_bitS, sN_bitS, bitS_len, bitS_len, Nat.zero_add]
 by_cases h : y <+: x
 ·have hl := h.length_le
  obtain ⟨r, rfl⟩ := h
  simp [sN]
 ·rw [decide_eq_false h]
  by_cases hl : y.length ≤ x.length
  ·have : (List.take y.length (sN x) == sN y) = false := by
    refine beq_eq_false_iff_ne.mpr fun e => h ?_
    unfold sN at e
    rw [← List.map_take] at e
    have e2 : x.take y.length = y := (List.map_inj_right fun a b e => by lia).mp e
    exact List.prefix_iff_eq_take.mpr e2.symm
   simp [this]
  ·simp [hl]
theorem look_nil {w len : Nat} (I : LI (8 * c) T root t H j) (hw : w < 2 ^ (8 * c)) (hl : len ≤ 8 * c) (hno : ∀ p ∈ H, ¬ p.1 <+: kb (8 * c) w len) : lookT (8 * c) len w t = none := by
 refine look_none hw hl I.inv.wf fun q hq hk => ?_
 false_or_by_contra
 rename_i hs
 obtain ⟨p, hp, e⟩ := List.mem_map.mp (I.keys.mem_iff.mp (List.mem_map.mpr ⟨(K (8 * c) q.2, q.2.slot), ent_mem.mpr ⟨q, hq, rfl, rfl, hs⟩, rfl⟩))
 exact hno p hp (by rw [e]; exact hk)
theorem look_last {w len : Nat} (I : LI (8 * c) T root t H j) (hw : w < 2 ^ (8 * c)) (hl : len ≤ 8 * c) {so : List (List Nat)} {x : List Nat} (hp : (so ++ [x]).Perm ((H.map (·.1)).filter fun k => decide (k <+: kb (8 * c) w len))) (hs : (so ++ [x]).Pairwise fun a b => ¬ sN b < sN a) :
  ∃ s, lookT (8 * c) len w t = some s ∧ peerT T (8 * c) x.length (W c x) t = some s ∧ x.length ≤ 8 * c ∧ ∀ y ∈ x, y < 2 := by
 have hx := hp.mem_iff.mp (List.mem_append_right so (.head [] : x ∈ [x]))
 obtain ⟨hx1, hx2⟩ := List.mem_filter.mp hx
 have hx2 : x <+: kb (8 * c) w len := by simpa using hx2
 obtain ⟨⟨k, b⟩, hkb, e⟩ := List.mem_map.mp hx1
 dsimp only at e
 subst e
 obtain ⟨b1, b2⟩ := I.bits _ hkb
 dsimp only at b1 b2
 obtain ⟨s, z, he, hv⟩ := I.entry hkb
 obtain ⟨q, hq, h1, h2, h3⟩ := ent_mem.mp he
 dsimp only at h1 h2 h3
 refine ⟨s, ?_, ?_, b1, b2⟩
 ·rw [← h2]
  refine look_some hw hl I.inv.wf hq (by rw [h1]; exact hx2) (by rw [h2]; exact h3) fun q' hq' hk' hs' => ?_
  have hm : K (8 * c) q'.2 ∈ so ++ [k] := hp.mem_iff.mpr (List.mem_filter.mpr ⟨I.keys.mem_iff.mp (List.mem_map.mpr ⟨(K (8 * c) q'.2, q'.2.slot), ent_mem.mpr ⟨q', hq', rfl, rfl, hs'⟩, rfl⟩), by simpa using hk'⟩)
  have hle : (K (8 * c) q'.2).length ≤ k.length := by
   false_or_by_contra
   rename_i hgt
   have hpre : k <+: K (8 * c) q'.2 := List.prefix_of_prefix_length_le hx2 hk' (by lia)
   have hlt := lt_of_prefix hpre (by lia)
   rcases List.mem_append.mp hm with hm | hm
   ·exact (List.pairwise_append.mp hs).2.2 _ hm k (.head _) (sN_lt.mpr hlt)
   ·rw [List.mem_singleton.mp hm] at hgt; lia
  rw [K_len, ← h1, K_len] at hle
  exact hle
 ·rw [← h2]
  exact peer_some (W_lt b1 b2) b1 I.inv.rep I.inv.wf hq (by rw [h1, kb_W b1 b2]) (by rw [h2]; exact h3)
end
section
variable {prog : Program} {w : World} {A : Around} {E : Value → Shared → Prop} {s : Shared}
theorem sort_few {a : Addr} {vs : List Value} {n : Nat} {P : PySem.Fin → Shared → Prop} (ho : s.heap.get? a = some (seqObj "list" vs.toArray n)) (hv : vs.length < 2)
  (h : P (.done (.ret .none)) { s with heap := sortedHeap s.heap a vs vs.toArray }) : wpAny (model prog w) A (Builtin.«list.sort» ⟨[.ref a], []⟩) P E s := by
 rw [list_sort_plain]
 have ha : a < s.heap.objs.size := Heap.lt_size ho
 refine wpAny_bind (listItems_at ho rfl ?_)
 refine wpAny_bind (listUpdate_at ho rfl ?_ (by rw [List.size_toArray, sizeLine_eq]; lia) (Nat.zero_le _))
 obtain ⟨e1, ho1⟩ : ∃ e1, (s.heap.update a (Obj.mapSeq fun _ => #[])).get? a = some (seqObj "list" #[] e1) := ⟨_, get?_update_seq ho (fun _ => #[])⟩
 refine wpAny_bind (seqEpoch_at ho1 rfl ?_)
 refine wpAny_bind (wpAny_newTuple ?_ (by show vs.length ≤ _; rw [sizeLine_eq]; lia))
 refine wpAny_bind (wpAny_newList ?_ (Nat.zero_le _))
 refine wpAny_holding ?_
 have ho6 : (((s.heap.update a (Obj.mapSeq fun _ => #[])).push (seqObj "tuple" vs.toArray 0)).push (seqObj "list" #[] 0)).get? a = some (seqObj "list" #[] e1) := by
  rw [Heap.get?_push_ne _ _ _ (by rw [size_push', Heap.size_update]; exact Nat.ne_of_lt (Nat.lt_succ_of_lt ha)), Heap.get?_push_ne _ _ _ (by rw [Heap.size_update]; exact Nat.ne_of_lt ha)]
  exact ho1
 show wpAny (model prog w) A _ P E { s with heap := ((s.heap.update a (Obj.mapSeq fun _ => #[])).push (seqObj "tuple" vs.toArray 0)).push (seqObj "list" #[] 0) }
 dsimp only
 have h2 : vs.toArray.size < 2 := by rw [List.size_toArray]; exact hv
 rw [if_pos h2, if_pos h2]
 refine wpAny_bind (wpAny_pure ?_)
 rw [StateT.run_pure]
 refine wpAny_bind (wpAny_pure ?_)
 dsimp only
 refine wpAny_bind (seqEpoch_at ho6 rfl ?_)
 refine wpAny_bind (listUpdate_at ho6 rfl ?_ (Nat.zero_le _) (by rw [Array.size_map]; show (pairsOf vs).size ≤ _; rw [pairsOf_size, sizeLine_eq]; lia))
 simp only [bne_self_eq_false, Bool.false_eq_true, if_false]
 refine wpAny_pure ?_
 have e : (arrOf (SortSt.mk' general' (vs.toArray.zip vs.toArray) #[] 7 none)).map (·.2) = vs.toArray := by
  apply Array.toList_inj.mp
  rw [Array.toList_map]
  show ((pairsOf vs).toList).map (·.2) = _
  rw [pairsOf_toList, List.map_snd_zip (Nat.le_refl _)]
 have h' : P (.done (.ret .none)) { s with heap := sortedHeap s.heap a vs ((arrOf (SortSt.mk' general' (vs.toArray.zip vs.toArray) #[] 7 none)).map (·.2)) } := by rw [e]; exact h
 exact h'
theorem sorted_few {l : Addr} {vs : List Value} {Q : Value → Shared → Prop} (hl : s.heap.IsList l vs.toArray) (hv : vs.length < 2)
  (h : Q (.ref (s.heap.objs.size + 1)) { s with heap := sortedAll s.heap vs vs.toArray }) : wpAny (model prog w) A (call (.builtin "sorted") [.ref l]) Q E s := by
 refine Calls.call_function_entry kind_sorted plain_sorted entry_sorted (args_sorted1 _) ?_
 unfold Builtin.«sorted»
 refine wpAny_bind (m := checkCount "sorted" 1 1 _) (wpAny_pure ?_)
 refine wpAny_bind (collect_list hl ?_ (by rw [sizeLine_eq]; lia))
 refine wpAny_bind (wpAny_newList ?_ (by rw [sizeLine_eq]; lia))
 have hsz : ((s.heap.push (seqObj "list" #[] 0)).update s.heap.objs.size (Obj.mapSeq (· ++ vs.toArray))).objs.size = s.heap.objs.size + 1 := by
  rw [Heap.size_update, size_push']
 have hoL : (((s.heap.push (seqObj "list" #[] 0)).update s.heap.objs.size (Obj.mapSeq (· ++ vs.toArray))).push (seqObj "list" vs.toArray 0)).get? (s.heap.objs.size + 1) = some (seqObj "list" vs.toArray 0) := by
  rw [← hsz]; exact Heap.get?_push_size _ rfl
 show wpAny _ _ _ _ _ { s with heap := ((s.heap.push (seqObj "list" #[] 0)).update s.heap.objs.size (Obj.mapSeq (· ++ vs.toArray))).push (seqObj "list" vs.toArray 0) }
 rw [hsz]
 refine wpAny_bind (wpAny_holding (wpAny_call_entry slot_list_sort ⟨_, hoL, rfl⟩ entry_list_sort (sort_few hoL hv ⟨_, rfl, ?_⟩) (args_list_sort _)))
 exact wpAny_pure ⟨_, rfl, h⟩
end
noncomputable def TupIn (news : Led) (ts : List (Addr × List Nat)) : Prop := ∀ p ∈ ts, ∃ t1 t2, (p.1, tup2 (.int (p.2.length : Int) t1) (.str (bitS p.2) t2)) ∈ news
section
variable {w : World} {A : Around} {E : Value → Shared → Prop} {s : Shared} {h₀ : Heap} {L : Addr} {m : Str → Option Value} {news : Led}
theorem tup_firsts {h : Heap} (N : News h₀ L h news) : ∀ (ts : List (Addr × List Nat)), TupIn news ts → ∃ fs, KatTups h (ts.map fun p => Value.ref p.1) fs ∧ fs.length = ts.length ∧ ∀ v ∈ fs, ∃ i t, v = Value.int i t
 | [], _ => ⟨[], KatTups.nil, rfl, fun v hv => nomatch hv⟩
 | p :: ts, ht => by
  obtain ⟨fs, h1, h2, h3⟩ := tup_firsts N ts fun q hq => ht q (.tail _ hq)
  obtain ⟨t1, t2, hp⟩ := ht p (.head _)
  refine ⟨.int (p.2.length : Int) t1 :: fs, KatTups.cons (N _ hp).1 rfl rfl rfl h1, by simp [h2], fun v hv => ?_⟩
  rcases List.mem_cons.mp hv with rfl | hv
  ·exact ⟨_, _, rfl⟩
  ·exact h3 v hv
theorem tup_lt {x y : List Nat} {a b : Addr} {t1 t2 t3 t4 : Tok} {C : Bool → Shared → Prop} (ha : s.heap.get? a = some (tup2 (.int (x.length : Int) t1) (.str (bitS x) t2))) (hb : s.heap.get? b = some (tup2 (.int (y.length : Int) t3) (.str (bitS y) t4))) (h : C (ltK x y) s) :
  wpAny (model PR w) A (keyLt' (tuples' true) (.ref a) (.ref b)) C E s := by
 refine kat_lt ha rfl hb rfl ?_
 show KatLex _ _ _ true (decide (2 < 2)) C [(.int (x.length : Int) t1, .int (y.length : Int) t3), (.str (bitS x) t2, .str (bitS y) t4)] 0 s
 refine kat_cons (wpAny_eqBool_int (kat_go (fun he => kat_yes (kat_cons (wpAny_eqBool_str (kat_go (fun he2 => kat_yes (kat_nil ?_)) fun he2 => kat_no ?_)))) fun he => kat_no ?_))
 ·have e1 : bitS x = bitS y := of_decide_eq_true he2
  have e2 : x = y := bitS_inj e1
  have e3 : ltK x y = false := by rw [e2]; exact ltK_so.irr _
  rw [e3] at h
  exact h
 ·have e1 : (x.length : Int) = (y.length : Int) := by simpa using he
  have e3 : ltK x y = decide ((bitS x).cps.toList < (bitS y).cps.toList) := by
   unfold ltK
   rw [sN_bitS, sN_bitS]
   by_cases hs : sN x < sN y
   ·rw [decide_eq_true hs, decide_eq_true (.inr ⟨by lia, hs⟩)]
   ·rw [decide_eq_false hs, decide_eq_false]
    rintro (h1 | ⟨_, h1⟩)
    ·lia
    ·exact hs h1
  rw [e3] at h
  exact kat_one _ _ (lt_str h)
 ·have e1 : (x.length : Int) ≠ (y.length : Int) := by simpa using he
  have e3 : ltK x y = decide ((x.length : Int) < (y.length : Int)) := by
   unfold ltK
   by_cases hs : (x.length : Int) < (y.length : Int)
   ·rw [decide_eq_true hs, decide_eq_true (.inl (by lia))]
   ·rw [decide_eq_false hs, decide_eq_false]
    rintro (h1 | ⟨h1, _⟩) <;> lia
  rw [e3] at h
  exact oneLt_int h
theorem getD_ref {ts : List (Addr × List Nat)} {i : Nat} (h : i < ts.length) : (ts.map fun p => Value.ref p.1).getD i Value.none = .ref ts[i].1 := by
 rw [List.getD_eq_getElem?_getD, List.getElem?_map, List.getElem?_eq_getElem h]; rfl
theorem perm_places {α : Type} (l : List α) (d : α) {ps : List Nat} (hp : ps.Perm (List.range l.length)) : (ps.map fun i => l.getD i d).Perm l := by
 refine (hp.map _).trans ?_
 have e : (List.range l.length).map (fun i => l.getD i d) = l := by
  apply List.ext_getElem?
  intro i
  by_cases h : i < l.length
  ·rw [List.getElem?_map, List.getElem?_range h]
   simp [h]
  ·rw [List.getElem?_eq_none (by simp; lia), List.getElem?_eq_none (by lia)]
 rw [e]
theorem sorted_tups {l : Addr} {ts : List (Addr × List Nat)} {Q : Value → Shared → Prop} (F : Fr h₀ L s.heap m) (N : News h₀ L s.heap news) (hl : s.heap.IsList l (ts.map fun p => Value.ref p.1).toArray) (ht : TupIn news ts) (hz : ts.length ≤ 3)
  (h : ∀ (h' : Heap) (D : Addr) (e : Nat) (ts' : List (Addr × List Nat)) (tk : Nat), Fr h₀ L h' m → News h₀ L h' ((D, listOf (ts'.map fun p => Value.ref p.1).toArray e) :: news) → ts'.Perm ts → (ts'.Pairwise fun x y => ltK y.2 x.2 = false) → (∀ q ∈ news, q.1 < D) → Q (.ref D) { s with heap := h', toks := tk }) :
  wpAny (model PR w) A (call (.builtin "sorted") [.ref l]) Q E s := by
 by_cases h2 : 2 ≤ ts.length
 ·refine kat_sorted F N hl (by rw [List.length_map]; exact h2) (by rw [List.length_map]; lia) fun D e1 h' F' N' hD => ?_
  have N0 : News h₀ L h' news := fun p hp => N' p (.tail _ hp)
  obtain ⟨fs, k1, k2, k3⟩ := tup_firsts N0 ts ht
  refine kat_kind (T := .type "int") k1 (by lia) (fun v hv => ?_) (by decide) ?_
  ·obtain ⟨i, t, rfl⟩ := k3 v hv
   exact Looks.of_pure rfl
  obtain ⟨g1, g2, g3⟩ := kas_so ltK_so (fun i => (ts.getD i (0, [])).2) ts.length h2 hz
  rw [List.length_map]
  have hget : ∀ i, i < ts.length → ts.getD i (0, []) = ts[i]! := fun i hi => by simp [hi]
  refine kRun_wp (lt := fun i j => ltK ((ts.getD i (0, [])).2) ((ts.getD j (0, [])).2)) { s with heap := h' } (fun i j C tk hi hj hC => ?_) _ s.toks g1 (fun tk' => ?_)
  ·unfold kas_ask
   rw [getD_ref hi, getD_ref hj]
   obtain ⟨t1, t2, p1⟩ := ht ts[i] (List.getElem_mem _)
   obtain ⟨t3, t4, p2⟩ := ht ts[j] (List.getElem_mem _)
   have hx : (ts.getD i (0, [])).2 = ts[i].2 := by simp [hi]
   have hy : (ts.getD j (0, [])).2 = ts[j].2 := by simp [hj]
   refine tup_lt (N0 _ p1).1 (N0 _ p2).1 ?_
   have := hC tk
   rw [hx, hy] at this
   exact this
  ·refine KasFin.intro F' N' (UpdF.head fun p hp e => ?_) fun h'' c F'' N'' => ?_
   ·have := hD p hp; rw [e] at this; exact Nat.lt_irrefl _ this
   ·have e : ((kRun (fun i j => ltK ((ts.getD i (0, [])).2) ((ts.getD j (0, [])).2)) (kas_sort ts.length)).toList.map fun i => (ts.map fun p => Value.ref p.1).getD i Value.none) = (((kRun (fun i j => ltK ((ts.getD i (0, [])).2) ((ts.getD j (0, [])).2)) (kas_sort ts.length)).toList.map fun i => ts.getD i (0, [])).map fun p => Value.ref p.1) := by
     rw [List.map_map]
     apply List.map_congr_left
     intro i hi
     have hi' := List.mem_range.mp (g2.mem_iff.mp hi)
     rw [getD_ref hi']
     simp [hi']
    rw [e] at N''
    refine h h'' D c _ tk' F'' N'' (perm_places ts (0, []) g2) ?_ hD
    rw [List.pairwise_map]
    exact g3
 ·refine sorted_few hl (by rw [List.length_map]; lia) ?_
  obtain ⟨e, he⟩ := sortedAll_at s.heap (ts.map fun p => Value.ref p.1) (ts.map fun p => Value.ref p.1).toArray
  refine h _ _ e ts s.toks (F.kept fun _ _ => sortedAll_old) (N.kept_cons F (fun _ _ => sortedAll_old) (Nat.le_succ _) he) (List.Perm.refl _) ?_ (fun p hp => Nat.lt_succ_of_lt (Heap.lt_size (N p hp).1))
  match ts, h2 with
  | [], _ => exact List.Pairwise.nil
  | [_], _ => exact List.pairwise_singleton _ _
  | _ :: _ :: _, h2 => simp at h2
end
theorem gl9 (w : World) : GlAt w "EINVAL" (.int 22 291) ∧ GlAt w "ENOSPC" (.int 28 575) ∧ GlAt w "ENOENT" (.int 2 287) ∧ GlAt w "EEXIST" (.int 17 289) := by
 refine ⟨?_, ?_, ?_, ?_⟩ <;> (show nsIn _ _ _ = _; k_is)
theorem fn304 (w : World) : FnAt w "flags_answer" 304 := by
 refine ⟨?_, ?_⟩ <;> k_is
theorem me495 (w : World) : MethAt w 585 "check_value" 136 ∧ MethAt w 585 "peer" 452 ∧ MethAt w 585 "lay" 257 ∧ MethAt w 585 "count" 416 ∧ MethAt w 585 "exact" 445 ∧ MethAt w 585 "insert" 502 ∧ MethAt w 585 "splice" 516 ∧ MethAt w 585 "replace_child" 523 ∧ MethAt w 585 "drop_node" 480 := by
 refine ⟨?_, ?_, ?_, ?_, ?_, ?_, ?_, ?_, ?_⟩ <;> exact ⟨by k_is, by k_is, by k_is, by k_is⟩
section
variable {d : Df} {c : Cx} {l : Fs} {N : Led} {A : TA} {T : TS} {root : Int} {rt : Tok} {D : Led} {K : KE}
theorem CallS.flags {fl : Nat} {b : Bool} (hlv : 1 ≤ d.lv) (hf : fl = 0 ∨ fl = 1 ∨ fl = 2) (h : K (.i (if fl = 1 ∧ b = true then -17 else if fl = 2 ∧ b = false then -2 else 0)) N) : CallS d c l 304 [.i (fl : Int), .v (.bool b)] N K :=
 CallS.pureK (sh := .i _) hlv (fun ts => sp_flags_answer d.w fl (ts 0) b hf) h
theorem CallM.splice {hi : Int} {ah : Nd} {ws : List Int} {T' : TS} {root' : Int} {wy : Addr} {its : List Value} {e : Nat} (hlv : 8 ≤ d.lv) (R : TR d.w A T D) (hv : getN T hi = some ah) (hz : T.frees.length + 2 ≤ 1000) (S : SplR T root hi ah ws T' root') (hI : IntsAre its ws) (hl : its.length ≤ 1000) (hap : ∀ p ∈ TP A root rt D, p.1 ≠ wy)
  (h : ∀ rt' D', TR d.w A T' D' → K (.v .none) (TP A root' rt' D')) : CallM d c l 516 A.self [.i hi, .v (.ref wy)] ((wy, listOf its.toArray e) :: TP A root rt D) K :=
 CallM.write (Z := []) (fun ts => sp_splice d.w A T D root rt hi ah ws T' root' wy its e (ts 0) R hv hz S hI hl) ⟨fun p hp => by rw [List.mem_singleton.mp hp]; exact .inl (.head _), fun p hp => .tail _ hp, fun p hp q hq => by rw [List.mem_singleton.mp hq]; exact hap p hp, fun _ h => absurd h List.not_mem_nil, fun _ _ _ h => absurd h List.not_mem_nil, hlv⟩
  fun v O' ⟨ev, rt', D', eO, R'⟩ _ => ⟨.v .none, _, ⟨0, ev⟩, h rt' D' R', by rw [eO]; exact fun _ h => List.mem_append_left _ h⟩
theorem CallGM.insert {t : Tr} {ln wv : Nat} {bv : UInt8} {p : Int} {b : Nat} {x : Int} (hlv : 40 ≤ d.lv) (R : TR d.w A T D) (ht : Rep T t) (hroot : root = t.id) (hz : t.size ≤ 1000) (hF : FreeOK T) (hzn : T.nodes.length + 2 ≤ 1000) (hzv : T.vals.length + 1 ≤ 1000) (hzu : T.used.length + 1 ≤ 1000)
  (hl : ln ≤ 8 * A.c) (hw : wv < 2 ^ (8 * A.c)) (hc : InsCase (8 * A.c) ln wv t root p b x) (hx : x = -1 ∨ (0 ≤ x ∧ ∃ ab, getN T x = some ab ∧ sharedLen (8 * A.c) ab.w wv (min ab.len ln) < ab.len))
  (h : ∀ k T1 T' root' rt' D', SlotP T T1 k bv → InsQ (8 * A.c) ln wv T1 root p b x k T' root' → TR d.w A T' D' → K (.v .none) (TP A root' rt' D')) : CallGM d c l 502 A.self [.i ln, .i wv, .b #[bv]] (TP A root rt D) K :=
 CallGM.write (fun ts => spG_insert d.w A D root rt T t ln wv (ts 0) (ts 1) (ts 2) bv p b x R ht hroot hz hF hzn hzv hzu hl hw hc hx) (footW hlv) fun v O' ⟨ev, k, T1, T', root', rt', D', hS, hQ, eO, R'⟩ _ => ⟨.v .none, _, ⟨0, ev⟩, h k T1 T' root' rt' D' hS hQ R', by rw [eO]; exact fun _ h => List.mem_append_left _ h⟩
end
theorem LI.up {n : Nat} {T : TS} {root : Int} {t : Tr} {H : HT} {j : Nat} (I : LI n T root t H j) : LI n T root t H (j + 1) :=
 ⟨I.inv, I.keys, I.hn, I.val, I.used, I.ud, by have := I.sz; lia⟩
noncomputable def keyT (c len : Nat) (d : List UInt8) : Option (List Nat) := if len ≤ 8 * c then some (kb (8 * c) (dw d) len) else none
noncomputable def dueU (H : HT) (k : Option (List Nat)) (fl most : Nat) : Int := match k with
 | none => -22
 | some k => if k ∈ H.map (·.1) then (if fl = 1 then -17 else 0) else if fl = 2 then -2 else if H.length = most then -28 else 0
noncomputable def nextU (H : HT) (k : Option (List Nat)) (fl most : Nat) (b : UInt8) : HT := match k with
 | none => H
 | some k => if dueU H (some k) fl most = 0 then putH H k b else H
noncomputable def dueD (H : HT) (k : Option (List Nat)) : Int := match k with
 | none => -22
 | some k => if k ∈ H.map (·.1) then 0 else -2
noncomputable def popH (H : HT) (k : Option (List Nat)) : HT := match k with
 | none => H
 | some k => H.filter fun p => decide (p.1 ≠ k)
theorem popH_out {H : HT} {k : List Nat} (h : k ∉ H.map (·.1)) : H.filter (fun p => decide (p.1 ≠ k)) = H := List.filter_eq_self.mpr fun p hp => by
 have : p.1 ≠ k := fun e => h (List.mem_map.mpr ⟨p, hp, e⟩)
 simpa using this
inductive OpR (w : World) (A : TA) (x : Int) (H : HT) (j : Nat) : Value → Led → Prop
 | mk (u : Tok) (T' : TS) (D' : Led) (root' : Int) (rt' : Tok) (t' : Tr) : TR w A T' D' → LI (8 * A.c) T' root' t' H j → OpR w A x H j (.int x u) (TP A root' rt' D')
noncomputable def St_spG_update (w : World) (A : TA) (T : TS) (D : Led) (t : Tr) (rt : Tok) (a b c e : UInt8) (d : List UInt8) (k k2 k3 : Tok) (bv : UInt8) (fl : Nat) (root : Int) (H : HT) (j : Nat) : Prop := ∀ (R : TR w A T D) (hfl : fl = 0 ∨ fl = 1 ∨ fl = 2) (hd : d.length = A.c) (I : LI (8 * A.c) T root t H j) (hj : j ≤ 100) (hm : H.length ≤ A.most) (hm3 : A.most ≤ 3), SpG w 495 50 [.ref A.self, .bytes (a :: b :: c :: e :: d).toArray k, .bytes #[bv] k2, .int (fl : Int) k3] [] (TP A root rt D)
   (OpR w A (dueU H (keyT A.c (kl a b c e) d) fl A.most) (nextU H (keyT A.c (kl a b c e) d) fl A.most bv) (j + 1))
theorem spG_update : A19 St_spG_update := by
 refine' ey19 (ne_P ne_W (ne_P ne_TA (ne_P ne_TS (ne_P ne_L (ne_P ne_Tr (ne_P ne_N (ne_P ne_U (ne_P ne_U (ne_P ne_U (ne_P ne_U (ne_P ne_L (ne_P ne_N (ne_P ne_N (ne_P ne_N (ne_P ne_U (ne_P ne_N (ne_P ne_I (ne_P ne_L ne_N)))))))))))))))))) ((?f9 : A19 St_spG_update) _ _ _ _ _ _ _ _ _ _ _ _ _ _ _ _ _ _ _)
 intro w A T D t rt a b c e d k k2 k3 bv fl root H j R hfl hd I hj hm hm3
 have hsz := I.sz
 have hts := I.size
 have hul := I.ulen
 have hdw : dw d < 2 ^ (8 * A.c) := dw_lt hd
 have hroot := I.inv.rid
 have ht := I.inv.rep
 have hz : t.size ≤ 1000 := by lia
 have hc8 := R.cb.2
 refine' SpG.of_W [("processor", .i 0), ("flags", .i fl), ("octets", .b #[bv]), ("key", .b (a :: b :: c :: e :: d).toArray), ("self", .v (.ref A.self))] ?ho ?hcd ?hbind ?hloc ?hco ?hgen ?hk ?hcell ?hl ?_
 walk_at "ds prem0"
 case hl => exact rfl
 refine' entG_all ((?f8 : ∀ c R', EntG _ _ _ _ _ _ c R') _ _); intro q R' l0 hP hR
 clear l0 hP
 have fin : ∀ x t' T' D' root' rt' tt H', dueU H (keyT A.c (kl a b c e) d) fl A.most = x → nextU H (keyT A.c (kl a b c e) d) fl A.most bv = H' → TR w A T' D' → LI (8 * A.c) T' root' tt H' (j + 1) → R' (.int x t') (TP A root' rt' D') :=
  fun x t' T' D' root' rt' tt H' e1 e2 r i => hR _ _ (by subst e1; subst e2; exact .mk t' T' D' root' rt' tt r i)
 refine WG.one (Bk.tupC ["length", "worth"] ?_ (hk := all2 rfl rfl))
 refine RawE.fn (fn318 w) ?_
 refine RawE.mself (me445 w).1 (And.intro rfl (And.intro (TrO.led R fun _ h => h) ?_))
 refine CallM.check_key (TrO.led R fun _ h => h) (lb9 rfl) hd hc8 ?_
 refine CallS.key_parts (lb9 rfl) (by lia) (fun r u1 u2 _ => ?_)
 refine TupK.mk _ (TP A root rt D) (.head _) rfl (fun _ h => .tail _ h) (Bk.nil ?_)
 refine WG.one (Bk.tupD (names := ["told", "slot"]) ?_ (hk := all2 rfl rfl))
 refine RawE.mself (x := "check_value") (me495 w).1 (And.intro rfl (And.intro (TrO.led R fun _ h => h) ?_))
 refine CallM.check_value (TrO.led R fun _ h => h) (lb9 rfl) ?_
 refine RawE.mself (x := "peer") (me495 w).2.1 (And.intro rfl (And.intro (TrO.led R fun _ h => h) ?_))
 refine CallM.peer (TrO.led R fun _ h => h) (lb9 rfl) ht hroot hz hd (fun hpe => And.intro rfl (Bk.nil ?_)) (fun sl hpe => And.intro rfl (Bk.nil ?_))
 ·refine vcG_sound 20 ?_
  refine RawE.mself (x := "size") (me423 w).2 (And.intro rfl (And.intro (TrO.led R fun _ h => h) ?_))
  refine CallM.size (TrO.led R fun _ h => h) (lb9 rfl) ?_
  refine And.intro (fun hlt => ?_) (fun hge => ?_)
  ·refine RawE.glob (sh := .i 22) (gl9 w).1 ⟨291, rfl⟩ ?_
   have hk : keyT A.c (kl a b c e) d = none := if_neg (by lia)
   exact fun t' => fin _ t' T D root rt t H (by rw [hk]; rfl) (by rw [hk]; rfl) R I.up
  have hle : kl a b c e ≤ 8 * A.c := by lia
  have hk : keyT A.c (kl a b c e) d = some (kb (8 * A.c) (dw d) (kl a b c e)) := if_pos hle
  rw [hk] at fin
  have hin : kb (8 * A.c) (dw d) (kl a b c e) ∉ H.map (·.1) := fun hin => by
   obtain ⟨⟨k', b'⟩, hb', hk'⟩ := List.mem_map.mp hin
   dsimp only at hk'
   subst hk'
   obtain ⟨s, x, hpe', _⟩ := I.peer_in hdw hle hb'
   rw [hpe] at hpe'; cases hpe'
  refine RawEG.of (RawE.fn (fn304 w) ?_)
  refine CallS.flags (lb9 rfl) hfl ?_
  refine And.intro (fun hne => ?_) (fun heq => ?_)
  ·have h2 : fl = 2 := by rcases hfl with rfl | rfl | rfl <;> simp_all
   have hdue : dueU H (some (kb (8 * A.c) (dw d) (kl a b c e))) fl A.most = -2 := by unfold dueU; dsimp only; rw [if_neg hin, if_pos h2]
   exact fun t' => fin _ t' T D root rt t H (by rw [hdue, h2]; rfl) (by unfold nextU; dsimp only; rw [hdue, if_neg (by lia)]) R I.up
  have h2 : fl ≠ 2 := fun h => by subst h; exact absurd heq (by decide)
  refine RawE.mself (x := "count") (me495 w).2.2.2.1 (And.intro rfl (And.intro (TrO.led R fun _ h => h) ?_))
  refine CallM.count (TrO.led R fun _ h => h) (lb9 rfl) ?_
  refine AttrS.most (TrO.led R fun _ h => h) ?_
  refine And.intro (fun hfull => ?_) (fun hroom => ?_)
  ·refine RawE.glob (sh := .i 28) (gl9 w).2.1 ⟨575, rfl⟩ ?_
   have hdue : dueU H (some (kb (8 * A.c) (dw d) (kl a b c e))) fl A.most = -28 := by unfold dueU; dsimp only; rw [if_neg hin, if_neg h2, if_pos (by lia)]
   exact fun t' => fin _ t' T D root rt t H hdue (by unfold nextU; dsimp only; rw [hdue, if_neg (by lia)]) R I.up
  have hdue : dueU H (some (kb (8 * A.c) (dw d) (kl a b c e))) fl A.most = 0 := by unfold dueU; dsimp only; rw [if_neg hin, if_neg h2, if_neg (by lia)]
  have hnx : nextU H (some (kb (8 * A.c) (dw d) (kl a b c e))) fl A.most bv = H ++ [(kb (8 * A.c) (dw d) (kl a b c e), bv)] := by
   unfold nextU putH; dsimp only; rw [hdue, if_pos rfl, if_neg hin]
  refine RawEG.of (RawE.mself (x := "exact") (me495 w).2.2.2.2.1 (And.intro rfl (And.intro (TrO.led R fun _ h => h) ?_)))
  refine CallM.exact (TrO.led R fun _ h => h) (lb9 rfl) ht hroot hz hd ?_
  refine RawE.NODE ?_
  obtain ⟨C, s, htp, hB, hC, hs, hWC, hWs, hd1, hd2, hd3, hF, hh⟩ := locate_inv I.inv hdw hle
  rcases off_or hF with ho | ⟨i, na, l, r, rfl, he⟩
  ·refine And.intro (fun hn => absurd (exact_off hF ho) hn) (fun _ => ?_)
   obtain ⟨hIc, hIx⟩ := ins_case I.inv hdw hle htp hC hs hWC hF ho
   refine RawEG.mself (x := "insert") (me495 w).2.2.2.2.2.1 (And.intro rfl (And.intro (TrO.led R fun _ h => h) ?_))
   refine RawLG.cons (RawEG.of (RawLG.cons (RawEG.of (RawLG.cons (RawEG.of (RawLG.nil ?_))))))
   refine CallGM.insert (lb9 rfl) R ht hroot hz I.inv.free (by lia) (by lia) (by lia) hle hdw hIc hIx (fun ks T1 T' root' rt' D' hS hQ R' => ?_)
   obtain ⟨tt, hI'⟩ := I.insert hdw hle hin hS htp hB hC hs hWC hWs hh ho hQ
   exact fun t' => fin _ t' T' D' root' rt' tt _ hdue hnx R' hI'
  ·have hex := exact_at hle hF he
   have hgi := hs.2.1
   have hKa := exact_K hdw hle hWs he
   refine And.intro (fun _ => ?_) (fun hn => absurd hn (by rw [hex]; have := hs.1; lia))
   rw [hex]
   have hslot : na.slot = -1 := by
    false_or_by_contra
    rename_i hn
    refine hin (I.keys.mem_iff.mp (List.mem_map.mpr ⟨(kb (8 * A.c) (dw d) (kl a b c e), na.slot), ent_mem.mpr ⟨(i, na), ?_, hKa, rfl, hn⟩, rfl⟩))
    rw [htp]
    exact (pre_plug C _ hB).mem_iff.mpr (List.mem_append_right _ (.head _))
   refine RawEG.mself (x := "new_slot") (me502 w).2.1 (And.intro rfl (And.intro (TrO.led R fun _ h => h) ?_))
   refine RawLG.cons (RawEG.of (RawLG.nil ?_))
   refine CallGM.new_slot (lb9 rfl) R (by lia) (by lia) (fun ks T1 D1 R1 hS => ?_)
   have hg1 : getN T1 i = some na := by rw [hS.getN]; exact hgi
   refine AttrS.nodes (TrO.led R1 fun _ h => h) ?_
   refine ItemS.node (TrO.led R1 fun _ h => h) hg1 ?_
   refine SetAS.slot R1 hg1 (fun D2 R2 => ?_)
   have I' := I
   rw [htp] at I'
   have h9 := I'.fork hB (by rw [hKa]; exact hin) hslot hS
   rw [hKa] at h9
   exact fun t' => fin _ t' _ D2 root rt _ _ hdue hnx R2 h9
 ·have hle : kl a b c e ≤ 8 * A.c := by
   false_or_by_contra
   unfold peerT exactT at hpe
   rw [if_pos (by lia)] at hpe
   cases hpe
  have hk : keyT A.c (kl a b c e) d = some (kb (8 * A.c) (dw d) (kl a b c e)) := if_pos hle
  rw [hk] at fin
  have hin : kb (8 * A.c) (dw d) (kl a b c e) ∈ H.map (·.1) := by
   false_or_by_contra
   rename_i hn
   have := I.peer_out hdw hle hn
   rw [hpe] at this; cases this
  obtain ⟨⟨k', b'⟩, hb', hk'⟩ := List.mem_map.mp hin
  dsimp only at hk'
  subst hk'
  obtain ⟨s, x, hpe', hes, hvs⟩ := I.peer_in hdw hle hb'
  obtain rfl : sl = s := Option.some.inj (hpe.symm.trans hpe')
  refine vcG_sound 20 ?_
  refine RawE.mself (x := "size") (me423 w).2 (And.intro rfl (And.intro (TrO.led R fun _ h => h) ?_))
  refine CallM.size (TrO.led R fun _ h => h) (lb9 rfl) ?_
  refine And.intro (fun hlt => absurd hle (by lia)) (fun hge => ?_)
  refine RawEG.of (RawE.fn (fn304 w) ?_)
  refine CallS.flags (lb9 rfl) hfl ?_
  refine And.intro (fun hne => ?_) (fun heq => ?_)
  ·have h1 : fl = 1 := by rcases hfl with rfl | rfl | rfl <;> simp_all
   have hdue : dueU H (some (kb (8 * A.c) (dw d) (kl a b c e))) fl A.most = -17 := by unfold dueU; dsimp only; rw [if_pos hin, if_pos h1]
   exact fun t' => fin _ t' T D root rt t H (by rw [hdue, h1]; rfl) (by unfold nextU; dsimp only; rw [hdue, if_neg (by lia)]) R I.up
  have h1 : fl ≠ 1 := fun h => by subst h; exact absurd heq (by decide)
  refine RawEG.mself (x := "lay") (me495 w).2.2.1 (And.intro rfl (And.intro (TrO.led R fun _ h => h) ?_))
  refine RawLG.cons (RawEG.of (RawLG.cons (RawEG.of (RawLG.nil ?_))))
  refine CallGM.lay (lb9 rfl) R (by lia) (fun T' D' R' hL => ?_)
  have hdue : dueU H (some (kb (8 * A.c) (dw d) (kl a b c e))) fl A.most = 0 := by unfold dueU; dsimp only; rw [if_pos hin, if_neg h1]
  exact fun t' => fin _ t' T' D' root rt t _ hdue (by unfold nextU putH; dsimp only; rw [hdue, if_pos rfl, if_pos hin]) R' (I.lay hes hL)
noncomputable def St_sp_delete (w : World) (A : TA) (T : TS) (D : Led) (t : Tr) (rt : Tok) (a b c e : UInt8) (d : List UInt8) (k : Tok) (root : Int) (H : HT) (j : Nat) : Prop := ∀ (R : TR w A T D) (hd : d.length = A.c) (I : LI (8 * A.c) T root t H j) (hj : j ≤ 100), Sp w 509 30 [.ref A.self, .bytes (a :: b :: c :: e :: d).toArray k] [] (TP A root rt D)
   (OpR w A (dueD H (keyT A.c (kl a b c e) d)) (popH H (keyT A.c (kl a b c e) d)) (j + 1))
theorem sp_delete : A15 St_sp_delete := by
 refine' ey15 (ne_P ne_W (ne_P ne_TA (ne_P ne_TS (ne_P ne_L (ne_P ne_Tr (ne_P ne_N (ne_P ne_U (ne_P ne_U (ne_P ne_U (ne_P ne_U (ne_P ne_L (ne_P ne_N (ne_P ne_I (ne_P ne_L ne_N)))))))))))))) ((?f9 : A15 St_sp_delete) _ _ _ _ _ _ _ _ _ _ _ _ _ _ _)
 intro w A T D t rt a b c e d k root H j R hd I hj
 have hsz := I.sz
 have hts := I.size
 have hul := I.ulen
 have hdw : dw d < 2 ^ (8 * A.c) := dw_lt hd
 have hroot := I.inv.rid
 have ht := I.inv.rep
 have hz : t.size ≤ 1000 := by lia
 have hc8 := R.cb.2
 refine' Sp.of_W [("key", .b (a :: b :: c :: e :: d).toArray), ("self", .v (.ref A.self))] ?ho ?hcd ?hbind ?hloc ?hco ?hgen ?hk ?hcell ?hl ?_
 walk_at "ds prem0"
 case hl => exact rfl
 refine' ent_all ((?f8 : ∀ c R', Ent _ _ _ _ _ _ c R') _ _); intro q R' l0 hP hR
 clear l0 hP
 have fin : ∀ x t' T' D' root' rt' tt H', dueD H (keyT A.c (kl a b c e) d) = x → popH H (keyT A.c (kl a b c e) d) = H' → TR w A T' D' → LI (8 * A.c) T' root' tt H' (j + 1) → R' (.int x t') (TP A root' rt' D') :=
  fun x t' T' D' root' rt' tt H' e1 e2 r i => hR _ _ (by subst e1; subst e2; exact .mk t' T' D' root' rt' tt r i)
 refine Bk.tupC ["length", "worth"] ?_ (hk := all2 rfl rfl)
 refine RawE.fn (fn318 w) ?_
 refine RawE.mself (me445 w).1 (And.intro rfl (And.intro (TrO.led R fun _ h => h) ?_))
 refine CallM.check_key (TrO.led R fun _ h => h) (lb9 rfl) hd hc8 ?_
 refine CallS.key_parts (lb9 rfl) (by lia) (fun r u1 u2 _ => ?_)
 refine TupK.mk _ (TP A root rt D) (.head _) rfl (fun _ h => .tail _ h) ?_
 refine vcS_sound 20 ?_
 refine RawE.mself (x := "size") (me423 w).2 (And.intro rfl (And.intro (TrO.led R fun _ h => h) ?_))
 refine CallM.size (TrO.led R fun _ h => h) (lb9 rfl) ?_
 refine And.intro (fun hlt => ?_) (fun hge => ?_)
 ·refine RawE.glob (sh := .i 22) (gl9 w).1 ⟨291, rfl⟩ ?_
  have hk : keyT A.c (kl a b c e) d = none := if_neg (by lia)
  exact fun t' => fin _ t' T D root rt t H (by rw [hk]; rfl) (by rw [hk]; rfl) R I.up
 have hle : kl a b c e ≤ 8 * A.c := by lia
 have hk : keyT A.c (kl a b c e) d = some (kb (8 * A.c) (dw d) (kl a b c e)) := if_pos hle
 rw [hk] at fin
 refine RawE.mself (x := "exact") (me495 w).2.2.2.2.1 (And.intro rfl (And.intro (TrO.led R fun _ h => h) ?_))
 refine CallM.exact (TrO.led R fun _ h => h) (lb9 rfl) ht hroot hz hd ?_
 refine RawE.NODE ?_
 have none9 : kb (8 * A.c) (dw d) (kl a b c e) ∉ H.map (·.1) → ∀ t', R' (.int (-2) t') (TP A root rt D) := fun hin t' =>
  fin _ t' T D root rt t H (if_neg hin) (popH_out hin) R I.up
 obtain ⟨C, s, htp, hB, hC, hs, hWC, hWs, hd1, hd2, hd3, hF, hh⟩ := locate_inv I.inv hdw hle
 rcases off_or hF with ho | ⟨i, na, l, r, rfl, he⟩
 ·have hin : kb (8 * A.c) (dw d) (kl a b c e) ∉ H.map (·.1) := fun hin => by
   obtain ⟨⟨k', b'⟩, hb', hk'⟩ := List.mem_map.mp hin
   dsimp only at hk'
   subst hk'
   obtain ⟨s0, x, hpe, _⟩ := I.peer_in hdw hle hb'
   unfold peerT at hpe
   rw [if_pos (exact_off hF ho)] at hpe
   cases hpe
  refine And.intro (fun _ => ?_) (fun hn => absurd (exact_off hF ho) hn)
  exact RawE.glob (sh := .i 2) (gl9 w).2.2.1 ⟨287, rfl⟩ (none9 hin)
 have hex := exact_at hle hF he
 have hgi := hs.2.1
 have hKa := exact_K hdw hle hWs he
 refine And.intro (fun hn => absurd hn (by rw [hex]; have := hs.1; lia)) (fun _ => ?_)
 rw [hex]
 refine RawT.bool (RawE.mnode (A := A) (root := root) (x := "is_entry") (me360 w) hgi ?_)
 refine AttrS.nodes (TrO.led R fun _ h => h) (ItemS.node (TrO.led R fun _ h => h) hgi (And.intro rfl (And.intro (TrO.led R fun _ h => h) ?_)))
 refine CallM.is_entry (TrO.led R fun _ h => h) (lb9 rfl) hgi ⟨_, rfl, fun hb => ?_, fun hb => ?_⟩
 rotate_left
 ·have hsl := Decidable.not_not.mp (of_decide_eq_false hb)
  refine RawE.glob (sh := .i 2) (gl9 w).2.2.1 ⟨287, rfl⟩ (none9 fun hin => ?_)
  obtain ⟨⟨k', b'⟩, hb', hk'⟩ := List.mem_map.mp hin
  dsimp only at hk'
  subst hk'
  obtain ⟨s0, x, hpe, _⟩ := I.peer_in hdw hle hb'
  unfold peerT at hpe
  have h0 := hs.1
  rw [hex, if_neg (by lia), hgi] at hpe
  have : (if na.slot = -1 then none else some na.slot) = some s0 := hpe
  rw [if_pos hsl] at this
  cases this
 have hsl := of_decide_eq_true hb
 have hus : na.slot ∈ T.used := by
  refine I.used.mem_iff.mpr (List.mem_map.mpr ⟨(K (8 * A.c) na, na.slot), ent_mem.mpr ⟨(i, na), ?_, rfl, rfl, hsl⟩, rfl⟩)
  rw [htp]
  exact (pre_plug C _ hB).mem_iff.mpr (List.mem_append_right _ (.head _))
 have I' := I
 rw [htp] at I'
 obtain ⟨T', root', t', hI', hSp, hno⟩ := I'.delete hB hF.2 he hsl
 rw [hKa] at hI'
 have I1 : Inv (8 * A.c) (delT T i na) root (plug C (.nd i { na with slot := -1 } l r)) := slot_inv (setU_inv I'.inv (T.used.filter fun j => decide (j ≠ na.slot))) hB (-1)
 have l1 : (delT T i na).nodes.length = T.nodes.length := by simp [delT, setN, setU]
 have hz1 : (plug C (.nd i { na with slot := -1 } l r)).size ≤ 1000 := by rw [I1.size, l1]; lia
 have hg1 : getN (setU T (T.used.filter fun j => decide (j ≠ na.slot))) i = some na := hgi
 have hg2 : getN (delT T i na) i = some { na with slot := -1 } := (getN_setN' (T := setU T (T.used.filter fun j => decide (j ≠ na.slot))) I.inv.keys hgi i).trans (if_pos rfl)
 have hdue : dueD H (some (kb (8 * A.c) (dw d) (kl a b c e))) = 0 := by
  refine if_pos (I.keys.mem_iff.mp (List.mem_map.mpr ⟨(kb (8 * A.c) (dw d) (kl a b c e), na.slot), ent_mem.mpr ⟨(i, na), ?_, hKa, rfl, hsl⟩, rfl⟩))
  rw [htp]
  exact (pre_plug C _ hB).mem_iff.mpr (List.mem_append_right _ (.head _))
 refine AttrS.nodes (TrO.led R fun _ h => h) (ItemS.node (TrO.led R fun _ h => h) hgi ?_)
 refine RawE.bmeth (AttrS.used (TrO.led R fun _ h => h) (And.intro rfl (And.intro (MethB.ud_pop R) ?_)))
 refine AttrS.slot (TrO.led R fun _ h => h) hgi (CallB.ud_pop R hus (fun D1 R1 => ?_))
 refine RawE.SLOT (SetAS.slot R1 hg1 (fun D2 R2 => ?_))
 have R2 : TR w A (delT T i na) D2 := R2
 refine RawE.mnode (a := 374) (nd := { na with slot := -1 }) (A := A) (root := root) (x := "child_count") (me367 w).2 hg2 (And.intro rfl (And.intro (TrO.led R2 fun _ h => h) ?_))
 refine CallM.child_count (TrO.led R2 fun _ h => h) (lb9 rfl) hg2 (And.intro (fun h2 => ?_) (fun h2 => ?_))
 ·refine RawE.mself (x := "splice") (me516 w).1 (And.intro rfl (And.intro (TrO.led R2 fun _ h => h) ?_))
  refine RawE.mself (x := "path") (me445 w).2 (And.intro rfl (And.intro (TrO.led R2 fun _ h => h) ?_))
  refine CallM.path (TrO.led R2 fun _ h => h) (lb9 rfl) I1.rep I1.rid hz1 hle hdw (fun wy its e9 hap hi => ?_)
  have hpl := path_len (8 * A.c) (kl a b c e) (dw d) (plug C (.nd i { na with slot := -1 } l r))
  refine CallM.splice (lb9 rfl) R2 hg2 (by show T.frees.length + 2 ≤ 1000; lia) (hSp h2) hi (by rw [hi.length, List.length_map]; lia) hap (fun rt' D' R' => ?_)
  exact fun t1 => fin _ t1 T' D' root' rt' t' _ hdue rfl R' hI'
 ·obtain ⟨e1, e2⟩ := hno (fun h => absurd h2 (by have : ccnt { na with slot := -1 } < 2 := h; unfold ccnt at this; lia))
  subst e1; subst e2
  exact fun t1 => fin _ t1 _ D2 _ rt t' _ hdue rfl R2 hI'
noncomputable def txS : Option (List Nat) → Sh
 | none => .v .none
 | some k => .s (bitS k)
theorem txS_of {k : Option (List Nat)} {v : Value} (h : okIs k v = true) : Sh.of v = txS k := by
 cases k with
 | none => rw [okIs_none h]; rfl
 | some k => obtain ⟨t, rfl⟩ := okIs_some h; rfl
theorem txS_ok (k : Option (List Nat)) (t : Tok) : okIs k ((txS k).val t) = true := by
 cases k with
 | none => rfl
 | some k => exact okIs_str k t
section
variable {d : Df} {c : Cx} {l : Fs} {N : Led} {K : KE} {hr : Addr} {ho : Obj} {H : HT}
theorem CmpS.held_in {k : List Nat} {KT KF : Led → Prop} (h : OAt c N hr ho) (hH : HD d.w ho H) (lo : (hr == sysModules) = false) (hT : k ∈ H.map (·.1) → KT N) (hF : k ∉ H.map (·.1) → KF N) : CmpS d c l .In (.s (bitS k)) (.v (.ref hr)) N KT KF := fun t u s Q hS hQ =>
 Mine.held_in (k := some k) (h.at hS) hH lo (okIs_str k t) (hQ _ N _ (fun e => hT (of_decide_eq_true e)) (fun e => hF (of_decide_eq_false e)) (hS.tok _))
theorem CmpS.held_inN {KT KF : Led → Prop} (h : OAt c N hr ho) (hH : HD d.w ho H) (lo : (hr == sysModules) = false) (hF : KF N) : CmpS d c l .In (.v .none) (.v (.ref hr)) N KT KF := fun t u s Q hS hQ =>
 Mine.held_in (k := none) (h.at hS) hH lo rfl (hQ _ N _ (fun e => nomatch e) (fun _ => hF) (hS.tok _))
theorem CallB.held_len (h : OAt c N hr ho) (hH : HD d.w ho H) (lo : (hr == sysModules) = false) (hz : H.length ≤ 1000) (hk : K (.i (H.length : Int)) N) : CallB d c l "len" [] [.v (.ref hr)] N K := fun ts s Q hS hQ =>
 Mine.held_len (h.at hS) hH lo hz fun t _ => hQ.use (sh := .i _) t hk (hS.tok _)
end
noncomputable def St_sp_law_put_due (w : World) (hr : Addr) (ho : Obj) (H : HT) (k : Option (List Nat)) (tv : Value) (fl most : Nat) (t1 t2 : Tok) : Prop := ∀ (hH : HD w ho H) (lo : (hr == sysModules) = false) (hk : okIs k tv = true) (hz : H.length ≤ 1000), Sp w 635 4 [.ref hr, tv, .int (fl : Int) t1, .int (most : Int) t2] [(hr, ho)] [] (fun v O' => O' = [] ∧ ∃ t, v = .int (dueU H k fl most) t)
theorem sp_law_put_due : A10 St_sp_law_put_due := by
 refine' ey10 (ne_P ne_W (ne_P ne_N (ne_P ne_Ob (ne_P ne_L (ne_P ne_O (ne_P ne_V (ne_P ne_N (ne_P ne_N (ne_P ne_N ne_N))))))))) ((?f9 : A10 St_sp_law_put_due) _ _ _ _ _ _ _ _ _ _)
 intro w hr ho H k tv fl most t1 t2 hH lo hk hz
 have htv := txS_of hk
 refine' Sp.of_W [("most", .i most), ("flags", .i fl), ("text", txS k), ("held", .v (.ref hr))] ?ho ?hcd ?hbind ?hloc ?hco ?hgen ?hk ?hcell ?hl ?_
 walk_at "ds prem0"
 case hl => exact congrArg (fun z => [(Str.ofString "most", Sh.i most), (Str.ofString "flags", .i fl), (Str.ofString "text", z), (Str.ofString "held", .v (.ref hr))]) htv
 refine' ent_all ((?f8 : ∀ c R', Ent _ _ _ _ _ _ c R') _ _); intro q R' l0 hP hR
 have hO : ∀ N, OAt q N hr ho := fun N => .inr (hP _ (.head _))
 have fin : ∀ x t, dueU H k fl most = x → R' (.int x t) [] := fun x t e => hR _ _ ⟨rfl, t, e ▸ rfl⟩
 clear hR hP htv hk l0
 refine vcS_sound 10 ?_
 cases k with
 | none => exact fun t => fin _ t rfl
 | some kk =>
  refine CmpS.held_in (hO _) hH lo (fun hin => And.intro (fun h1 t => ?_) (fun h1 t => ?_)) (fun hin => And.intro (fun h2 t => ?_) (fun h2 => ?_))
  ·exact fin _ t (by unfold dueU; dsimp only; rw [if_pos hin, if_pos (by lia)])
  ·exact fin _ t (by unfold dueU; dsimp only; rw [if_pos hin, if_neg (by lia)])
  ·exact fin _ t (by unfold dueU; dsimp only; rw [if_neg hin, if_pos (by lia)])
  ·refine RawE.bfn (bLen w) (CallB.held_len (hO _) hH lo hz (And.intro (fun h3 t => ?_) (fun h3 t => ?_)))
   ·exact fin _ t (by unfold dueU; dsimp only; rw [if_neg hin, if_neg (by lia), if_pos (by lia)])
   ·exact fin _ t (by unfold dueU; dsimp only; rw [if_neg hin, if_neg (by lia), if_neg (by lia)])
section
variable {prog : Program} {w : World} {A : Around} {E : Value → Shared → Prop} {s : Shared} {env : Env}
theorem keys_ne {a b : Addr} {vs us : List Value} {bs : List (List UInt8)} {Q : Value → Shared → Prop} (hl : s.heap.IsList a vs.toArray) (hr : s.heap.IsList b us.toArray) (h1 : KeysAre vs bs) (h2 : KeysAre us bs) (hu : A.units < cLine) (h : Q (.bool false) s) :
  wpAny (model prog w) A (compareOp .NotEq (.ref a) (.ref b)) Q E s := by
 have hsz : vs.toArray.size = us.toArray.size := by rw [List.size_toArray, List.size_toArray, h1.length, h2.length]
 refine PySem.SeqAt.RcNeAt.lists (e := fun _ => true) hl hr hsz hu (fun j j1 j2 => ?_) prog w E Q ?_
 ·have hj : j < bs.length := by rw [← h1.length]; simpa using j1
  obtain ⟨x, t, ex⟩ := h1.all (vs[j]'(by simpa using j1)) (List.getElem_mem _)
  obtain ⟨y, u, ey⟩ := h2.all (us[j]'(by simpa using j2)) (List.getElem_mem _)
  have e1 : (vs.map bOf)[j]? = bs[j]? := by rw [h1.bs]
  have e2 : (us.map bOf)[j]? = bs[j]? := by rw [h2.bs]
  rw [List.getElem?_map, List.getElem?_eq_getElem (by simpa using j1), ex] at e1
  rw [List.getElem?_map, List.getElem?_eq_getElem (by simpa using j2), ey] at e2
  have e3 : x = y := by
   have := e1.trans e2.symm
   have h3 : x.toList = y.toList := by simpa [bOf] using this
   exact Array.toList_inj.mp h3
  have := eqGives_bytes x y t u
  rw [decide_eq_true e3] at this
  have k1 : vs.toArray[j] = .bytes x t := by rw [List.getElem_toArray]; exact ex
  have k2 : us.toArray[j] = .bytes y u := by rw [List.getElem_toArray]; exact ey
  rw [k1, k2]
  exact this.at _ _
 ·have : (List.range vs.toArray.size).all (fun _ => true) = true := List.all_eq_true.mpr fun _ _ => rfl
  rw [this]; exact h
theorem nil_eq {a b : Addr} {vs : List Value} {Q : Value → Shared → Prop} (hl : s.heap.IsList a vs.toArray) (hr : s.heap.IsList b #[]) (hu : A.units < cLine) (h : Q (.bool (decide (vs = []))) s) :
  wpAny (model prog w) A (compareOp .Eq (.ref a) (.ref b)) Q E s := by
 by_cases hv : vs = []
 ·subst hv
  exact PySem.SeqAt.RcAt.lists (e := fun _ => true) hl hr rfl hu (fun j j1 _ => absurd j1 (by simp)) prog w E Q (by simpa using h)
 ·refine PySem.SeqAt.RcAt.lists_lengths hl hr ?_ hu prog w E Q ?_
  ·have : vs.length ≠ 0 := fun e => hv (List.length_eq_zero_iff.mp e)
   simpa using hv
  ·rw [decide_eq_false hv] at h; exact h
end
section
open LCg LCp
variable {prog : Program} {w : World} {A : Around} {s : Shared} {h₀ : Heap} {L : Addr} {m : Str → Option Value} {env : Env}
theorem comp_invP {elt : Expr} {x x₂ : Str} {scope : Scope} {cl : List (Str × Addr)} {S : Led → Prop} {P : Nat → Value → Prop} {Fin : List Value → Led → Prop} (n : Nat) (J : Nat → List Value → Led → Prop)
  (fin : ∀ ys news, J n ys news → Fin ys news)
  (turn : ∀ i ys news v, i < n → J i ys news → P i v → ∃ (t : Addr) (ot : Obj) (v₁ v₂ : Value) (nt : Nat), v = .ref t ∧ (t, ot) ∈ news ∧ ot.cls = .type "tuple" ∧ ot.data = .seq #[v₁, v₂] nt ∧
   ∀ I oI C oC D m₂ h tk (E' : Value → Shared → Prop), NsObj oC m₂ → m₂ x = some v₁ → m₂ x₂ = some v₂ → Fr h₀ L h m → News h₀ L h ((I, oI) :: (C, oC) :: (D, lst ys) :: news) → Off3 I C D news → ((@Ne Nat I C) ∧ (@Ne Nat I D) ∧ (@Ne Nat C D)) →
   wpAny (model prog w) A (eval elt (compEnvC scope cl C env)) (CompEnd h₀ L m { s with heap := h, toks := tk } I oI C oC D (lst ys) S (Turn1 (J (i + 1)) ys)) E' { s with heap := h, toks := tk }) :
  ∀ k i ys news, i + k = n → J i ys news → CompRestP prog w A h₀ L m env elt x x₂ scope cl s S P Fin k i ys news := by
 intro k
 induction k with
 | zero => intro i ys news e hj; exact CompRestP.zero (fin ys news (by rw [← e]; exact hj))
 | succ k ih =>
  intro i ys news e hj
  refine CompRestP.succ fun v hP => ?_
  obtain ⟨t, ot, v₁, v₂, nt, h1, h2, h3, h4, h5⟩ := turn i ys news v (by lia) hj hP
  refine ⟨t, ot, v₁, v₂, nt, h1, h2, h3, h4, fun I oI C oC D m₂ h tk E' hC hx hx2 F N off ne => ?_⟩
  exact wpAny_mono (h5 I oI C oC D m₂ h tk E' hC hx hx2 F N off ne) (fun y s' hy => compEnd_mono hy fun y nw hJ => ih (i + 1) (ys ++ [y]) nw (by lia) hJ) fun _ _ e => e
end
theorem TupIn.cons {news : Led} {ts : List (Addr × List Nat)} (h : TupIn news ts) (p : Addr × Obj) : TupIn (p :: news) ts := fun q hq => by
 obtain ⟨t1, t2, h1⟩ := h q hq
 exact ⟨t1, t2, .tail _ h1⟩
theorem TupIn.snoc {news : Led} {ts : List (Addr × List Nat)} (h : TupIn news ts) {a : Addr} {x : List Nat} {t1 t2 : Tok} : TupIn ((a, tup2 (.int (x.length : Int) t1) (.str (bitS x) t2)) :: news) (ts ++ [(a, x)]) := fun q hq => by
 rcases List.mem_append.mp hq with hq | hq
 ·exact h.cons _ q hq
 ·rw [List.mem_singleton.mp hq]
  exact ⟨t1, t2, .head _⟩
theorem sub_tup {i c d c1 c2 x : Addr × Obj} {tl : Led} : ∀ p ∈ i :: c :: d :: c1 :: c2 :: x :: tl, p ∈ x :: i :: c :: d :: c1 :: c2 :: tl := by
 intro p hp
 simp only [List.mem_cons] at hp ⊢
 rcases hp with h | h | h | h | h | h | h <;> simp [h]
theorem off_tup {I C D : Addr} {c1 c2 x : Addr × Obj} {tl : Led} (off : LCg.Off3 I C D (c1 :: c2 :: tl)) (h : (@Ne Nat x.1 I) ∧ (@Ne Nat x.1 C) ∧ (@Ne Nat x.1 D)) : LCg.Off3 I C D (c1 :: c2 :: x :: tl) := ⟨off.1, off.2.1, h, off.2.2⟩
theorem optk_lt {ks : List (List Nat)} {f : List Nat → List UInt8} {n : Nat} {v : Value} (h : n < ks.length) (ho : OptK v ((ks.map f)[n]?)) : ∃ t, v = .bytes ((ks.map f).getD n []).toArray t := by
 rw [List.getElem?_eq_getElem (by rw [List.length_map]; exact h)] at ho
 obtain ⟨t, rfl⟩ := ho
 exact ⟨t, by simp [h]⟩
theorem optk_ge {ks : List (List Nat)} {f : List Nat → List UInt8} {n : Nat} {v : Value} (h : ks.length ≤ n) (ho : OptK v ((ks.map f)[n]?)) : v = .none := by
 rw [List.getElem?_eq_none (by rw [List.length_map]; exact h)] at ho
 exact ho
noncomputable def spotOf (c : Nat) (H : HT) (ks : List (List Nat)) (k : Option (List Nat)) : Nat := match k with
 | none => 0
 | some kk => if kk ∈ H.map (·.1) then (ks.map (toldB c)).idxOf (toldB c kk) + 1 else 0
theorem keyT_some {c l : Nat} {d : List UInt8} {kk : List Nat} (h : keyT c l d = some kk) : kk.length ≤ 8 * c ∧ (∀ y ∈ kk, y < 2) ∧ l ≤ 8 * c ∧ kk = kb (8 * c) (dw d) l := by
 unfold keyT at h
 by_cases hl : l ≤ 8 * c
 ·rw [if_pos hl] at h
  cases h
  exact ⟨by rw [kb_len]; exact hl, kb_bit _ _ _, hl, rfl⟩
 ·rw [if_neg hl] at h; cases h
theorem spotOf_le {c : Nat} {H : HT} {ks : List (List Nat)} {k : Option (List Nat)} (hp : ks.Perm (H.map (·.1))) : spotOf c H ks k ≤ ks.length := by
 unfold spotOf
 cases k with
 | none => exact Nat.zero_le _
 | some kk =>
  dsimp only
  split
  ·rename_i hin
   have := List.idxOf_lt_length_iff.mpr (List.mem_map_of_mem (f := toldB c) (hp.mem_iff.mpr hin))
   rw [List.length_map] at this
   lia
  ·exact Nat.zero_le _
theorem spot_eq {c : Nat} {T : TS} {root : Int} {t : Tr} {H : HT} {j l : Nat} {d : List UInt8} {ks : List (List Nat)} {k : Option (List Nat)} (I : LI (8 * c) T root t H j) (hw : dw d < 2 ^ (8 * c)) (h : keyT c l d = k) : nextI T (8 * c) c l (dw d) t (ks.map (toldB c)) = spotOf c H ks k := by
 unfold spotOf
 cases k with
 | none =>
  dsimp only
  have hf : 8 * c < l := by
   false_or_by_contra
   unfold keyT at h
   rw [if_pos (by lia)] at h; cases h
  unfold nextI
  rw [if_pos (far_none (T := T) (t := t) (w := dw d) hf).1]
 | some kk =>
  dsimp only
  obtain ⟨_, _, h3, rfl⟩ := keyT_some h
  exact next_eq I hw h3 _
theorem keyT_none {c l : Nat} {d : List UInt8} (h : keyT c l d = none) : 8 * c < l := by
 false_or_by_contra
 unfold keyT at h
 rw [if_pos (by lia)] at h; cases h
noncomputable def unS (s : Str) : List Nat := s.cps.toList.map (· - 48)
theorem unS_bitS (x : List Nat) : unS (bitS x) = x := by
 unfold unS
 rw [sN_bitS]
 unfold sN
 rw [List.map_map]
 conv => rhs; rw [← List.map_id x]
 apply List.map_congr_left
 intro a _
 show 48 + a - 48 = a
 lia
theorem strs_back {ss : List Str} {xs : List (List Nat)} (h : ss.Perm (xs.map bitS)) : ∃ zs : List (List Nat), zs.Perm xs ∧ ss = zs.map bitS := by
 refine ⟨ss.map unS, ?_, ?_⟩
 ·have h1 := h.map unS
  rw [List.map_map] at h1
  have e : xs.map (unS ∘ bitS) = xs := by
   conv => rhs; rw [← List.map_id xs]
   apply List.map_congr_left
   intro a _
   exact unS_bitS a
  rw [e] at h1
  exact h1
 ·rw [List.map_map]
  conv => lhs; rw [← List.map_id ss]
  apply List.map_congr_left
  intro a ha
  obtain ⟨x, _, rfl⟩ := List.mem_map.mp (h.mem_iff.mp ha)
  show bitS x = bitS (unS (bitS x))
  rw [unS_bitS]
theorem sorted_back {zs : List (List Nat)} (h : sortedS (zs.map bitS) = true) : zs.Pairwise fun a b => ¬ sN b < sN a := by
 have h1 := sorted_pw h
 rw [List.pairwise_map] at h1
 exact h1.imp fun {a b} q => by rwa [sN_bitS, sN_bitS] at q
theorem told_split {c : Nat} {x : List Nat} (hc : c ≤ 8) (hl : x.length ≤ 8 * c) (hb : ∀ y ∈ x, y < 2) : ∃ a b e f d, toldB c x = a :: b :: e :: f :: d ∧ d.length = c ∧ kl a b e f = x.length ∧ dw d = W c x := by
 obtain ⟨n1, b1, z1⟩ := octs_num (c := c) (W_lt hl hb)
 have hle := le4_num (l := x.length) (by lia)
 refine ⟨_, _, _, _, octs (W c x) c, told_key hl hb, by unfold bNat at z1; rwa [List.length_map] at z1, ?_, ?_⟩
 ·unfold le4 bNat at hle
  simp only [List.map_cons, List.map_nil, List.cons.injEq] at hle
  unfold kl
  lia
 ·refine Eq.trans ?_ n1
  unfold num bNat dw
  rw [List.foldl_map]
theorem nil_or_snoc {α : Type} (l : List α) : l = [] ∨ ∃ i x, l = i ++ [x] := by
 rcases List.eq_nil_or_concat l with h | ⟨i, x, h⟩
 ·exact .inl h
 ·exact .inr ⟨i, x, by rw [h, List.concat_eq_append]⟩
theorem strs_last : ∀ {vs : List Value} {ss : List Str} {y : Str}, StrsAre vs (ss ++ [y]) → ∃ us t, vs = us ++ [.str y t]
 | _, [], y, .cons _ t h => by cases h; exact ⟨[], t, rfl⟩
 | _, _ :: ss, y, .cons _ _ h => by
  obtain ⟨us, t, rfl⟩ := strs_last h
  exact ⟨_ :: us, t, rfl⟩
theorem by_md {a m : Nat} (h : a < 256) : (a + 256 * m) % 256 = a := by rw [Nat.add_mul_mod_self_left, Nat.mod_eq_of_lt h]
theorem by_dv {a m : Nat} (h : a < 256) : (a + 256 * m) / 256 = m := by rw [Nat.add_mul_div_left _ _ (by decide), Nat.div_eq_of_lt h, Nat.zero_add]
theorem le4_kl (a b c e : UInt8) : le4 (kl a b c e) = [a, b, c, e] := by
 have ha := a.toNat_lt; have hb := b.toNat_lt; have hc := c.toNat_lt; have he := e.toNat_lt
 unfold le4
 have hk : kl a b c e = a.toNat + 256 * (b.toNat + 256 * (c.toNat + 256 * (e.toNat + 256 * 0))) := by unfold kl; lia
 rw [hk, show (2 : Nat) ^ 8 = 256 from rfl, show (2 : Nat) ^ 16 = 256 * 256 from rfl, show (2 : Nat) ^ 24 = 256 * 256 * 256 from rfl]
 simp only [← Nat.div_div_eq_div_mul, by_dv ha, by_dv hb, by_dv hc, by_md ha, by_md hb, by_md hc, by_md he, UInt8.ofNat_toNat]
theorem fn592 (w : World) : FnAt w "show_prefix" 592 ∧ FnAt w "make_key" 311 := by
 exact ⟨⟨by k_is, by k_is⟩, by k_is, by k_is⟩
section
open LCg LCt
variable {d : Df} {c : Cx} {l : Fs} {N : Led} {K : KE} {KT KF : Led → Prop}
theorem ItemS.atO {ie : PySem.Expr} {r : Addr} {its : List Value} {n : Nat} {k : Int} {v : Value} (hm : OAt c N r (listOf its.toArray n)) (h0 : 0 ≤ k) (h1 : k < 2 ^ 62) (hv : its[k.toNat]? = some v) (h : K (Sh.of v) N)
  (hs : autoParam (∀ u, subscripted ie false (.ref r) (.int k u) = operate [.ref r, (.int k u)] (getItem (.ref r) (.int k u))) kim_tup._auto_3) : ItemS d c l ie (.v (.ref r)) (.i k) N K := fun t u s Q hS hQ => by
 have hl := hm.isList hS
 exact tail_any hl.typeIs slot_list_getitem.lookup (wpAny_getItem_list hl h0 (by lia) (x := v) (by simpa using hv) (hQ _ _ _ _ (Sh.of_val v) h hS)) (hs u)
theorem OpS.addO {r1 r2 : Addr} {vs us : List Value} {n1 n2 : Nat} (h1 : OAt c N r1 (listOf vs.toArray n1)) (h2 : OAt c N r2 (listOf us.toArray n2)) (hz : vs.length + us.length ≤ 1000) (h : ∀ D, K (.v (.ref D)) ((D, listOf (vs ++ us).toArray 0) :: N)) : OpS d c l .Add (.v (.ref r1)) (.v (.ref r2)) N K := fun t u s Q hS hQ => by
 have g1 := h1.isList hS
 have g2 := h2.isList hS
 obtain ⟨ok, ⟨hp, tk, rfl⟩, ⟨m, F, H⟩, hN⟩ := hS
 exact kmk_add_lit F hN g1 g2 rfl (fun D h' F' N' _ => hQ.use (sh := .v (.ref D)) 0 (h D) ⟨ok, ⟨_, _, rfl⟩, ⟨m, F', H⟩, N'⟩) (by rw [sizeLine_eq]; show vs.length + us.length ≤ _; lia)
theorem SrcC.listO {r : Addr} {its : List Value} {k : Nat} {news₀ : Led} (ho : c.g.get? r = some (listOf its.toArray k)) (hz : its.length ≤ 1000) : SrcC d c l N (.v (.ref r)) its.length (fun i sh => ∃ v, its[i]? = some v ∧ sh = Sh.of v) (fun _ => True) news₀ :=
 ⟨hz, trivial, fun s1 t hS => by
  have hl := OAt.isList (N := N) (.inr ho) hS
  have hlt : r < s1.heap.objs.size := Heap.lt_size ((OAt.at (N := N) (.inr ho)) hS)
  refine ⟨fun i v => its.toArray[i]? = some v, fun i v hv => ?_, _, _, _, Walks.list rfl s1.heap.objs.size r (Nat.ne_of_lt hlt) its.toArray, fun i h st => by obtain ⟨o, e, _⟩ := st.1; exact ⟨o, e⟩, fun i h h' o nw st e e' hb _ _ => ?_, ⟨⟨_, Heap.get?_push_size _ rfl, rfl, rfl⟩, hl.push _⟩, fun b hb => ?_, fun Q h => wpAny_pyIter_list hl h⟩
  ·obtain ⟨u, h⟩ := Sh.of_val v
   exact ⟨Sh.of v, u, h, v, by simpa using hv, rfl⟩
  ·obtain ⟨⟨o', q, r9⟩, _⟩ := st
   rw [e] at q
   cases q
   exact ⟨⟨o, e', r9⟩, ⟨_, hb _ _ ho, rfl, _, rfl⟩⟩
  ·rw [Heap.size_push]
   rcases List.mem_cons.mp hb with rfl | hb
   ·exact Nat.lt_succ_self _
   ·rw [List.mem_singleton.mp hb]; exact Nat.lt_succ_of_lt hlt⟩
theorem CmpS.neTup2 {r1 r2 : Addr} {a b : Int} {t1 t2 u1 u2 : Tok} (hlv : 8 ≤ d.lv) {N' : Led} (h1 : (r1, tupO [.int a t1, .int b t2]) ∈ N) (h2 : (r2, tupO [.int a u1, .int b u2]) ∈ N) (hs : ∀ p ∈ N', p ∈ N) (h : KF N') : CmpS d c l .NotEq (.v (.ref r1)) (.v (.ref r2)) N KT KF := fun t u s Q hS hQ => by
 refine ne_dataH (reads_tuple_at (hS.news _ h1).1 rfl rfl (.cons (.int _ _) (.cons (.int _ _) .nil))) (reads_tuple_at (hS.news _ h2).1 rfl rfl (.cons (.int _ _) (.cons (.int _ _) .nil))) rfl rfl (by have := hS.ok.hu; show c.un + 64 < cLine; lia) ?_
 simp only [PyData.eqv, PyData.eqvAll, beq_self_eq_true, Bool.and_true, Bool.not_true]
 exact hQ _ N' _ (fun e => by cases e) (fun _ => h) (hS.sub (fun _ h => h) hs)
theorem CmpS.neB {x : Array UInt8} (h : KF N) : CmpS d c l .NotEq (.b x) (.b x) N KT KF := fun t u s Q hS hQ => ne_bytes (by rw [bne_self_eq_false]; exact hQ _ N s (fun e => by cases e) (fun _ => h) hS)
theorem CmpS.neS {x : Str} (h : KF N) : CmpS d c l .NotEq (.s x) (.s x) N KT KF := fun t u s Q hS hQ => ne_str (by rw [bne_self_eq_false]; exact hQ _ N s (fun e => by cases e) (fun _ => h) hS)
theorem CallS.show_prefix {a b c' e : UInt8} {ds : List UInt8} (hlv : 3 ≤ d.lv) (hd : ds.length ≤ 8) (h : K (.s (figS ds ++ Str.ofString "/" ++ decS (kl a b c' e))) N) : CallS d c l 592 [.b (a :: b :: c' :: e :: ds).toArray] N K :=
 CallS.pureK (sh := .s _) hlv (fun ts => sp_show_prefix d.w a b c' e ds (ts 0) hd) h
end
section
noncomputable def St_sp_law_parts_right (w : World) (hl dl : Addr) (a b c e : UInt8) (d : List UInt8) (ta tb tc te : Tok) (its : List Value) (e1 e2 : Nat) : Prop := ∀ (hi : IntsAre its (byteInts d)) (hd : 1 ≤ d.length ∧ d.length ≤ 8), Sp w 628 30 [.ref hl, .ref dl] [(hl, listOf #[.int (a.toNat : Int) ta, .int (b.toNat : Int) tb, .int (c.toNat : Int) tc, .int (e.toNat : Int) te] e1), (dl, listOf its.toArray e2)] [] (fun v _ => ∃ t, v = .int (kl a b c e : Int) t)
theorem sp_law_parts_right : A15 St_sp_law_parts_right := by
 refine' ey15 (ne_P ne_W (ne_P ne_N (ne_P ne_N (ne_P ne_U (ne_P ne_U (ne_P ne_U (ne_P ne_U (ne_P ne_L (ne_P ne_N (ne_P ne_N (ne_P ne_N (ne_P ne_N (ne_P ne_L (ne_P ne_N ne_N)))))))))))))) ((?f9 : A15 St_sp_law_parts_right) _ _ _ _ _ _ _ _ _ _ _ _ _ _ _)
 intro w hl dl a b c e d ta tb tc te its e1 e2 hi hd
 have ha := a.toNat_lt; have hb := b.toNat_lt; have hc := c.toNat_lt; have he := e.toNat_lt
 have hz : IntsAre ([.int (a.toNat : Int) ta, .int (b.toNat : Int) tb, .int (c.toNat : Int) tc, .int (e.toNat : Int) te] ++ its) (byteInts (a :: b :: c :: e :: d)) := .cons _ _ (.cons _ _ (.cons _ _ (.cons _ _ hi)))
 have hil : its.length = d.length := by rw [hi.length, byteInts_len]
 have hkl : kl a b c e < 10 ^ 10 := by unfold kl; lia
 have ldk : (Str.ofString (toString ((kl a b c e : Nat) : Int))).length ≤ 11 := decS_len hkl
 have lsl : (Str.ofString "/").length = 1 := by decide
 have ldot : (Str.ofString ".").length = 1 := by decide
 have lnil : (Str.ofString "").length = 0 := by decide
 refine' Sp.of_W [("data", .v (.ref dl)), ("head", .v (.ref hl))] ?ho ?hcd ?hbind ?hloc ?hco ?hgen ?hk ?hcell ?hl ?_
 walk_at "ds prem0"
 case hl => exact rfl
 refine' ent_all ((?f8 : ∀ c R', Ent _ _ _ _ _ _ c R') _ _); intro k R' l0 hP hR
 have hH : ∀ N, OAt k N hl (listOf #[.int (a.toNat : Int) ta, .int (b.toNat : Int) tb, .int (c.toNat : Int) tc, .int (e.toNat : Int) te] e1) := fun N => .inr (hP _ (.head _))
 have hD : ∀ N, OAt k N dl (listOf its.toArray e2) := fun N => .inr (hP _ (.tail _ (.head _)))
 have hDg : k.g.get? dl = some (listOf its.toArray e2) := hP _ (.tail _ (.head _))
 clear hP l0
 refine Bk.tupD (names := ["key", "length"]) (RawE.tfn (bBytes w) (OpS.addO (hH _) (hD _) (by show 4 + its.length ≤ 1000; lia) fun D => CallT.bytes [] (.head _) hz byteInts_in (by rw [byteInts_len]; show d.length + 1 + 1 + 1 + 1 ≤ _; lia) sub_nil ?_)) (hk := all2 rfl rfl)
 rw [byteInts_back]
 refine ItemS.atO (hH _) (by decide) (by decide) rfl (ItemS.atO (hH _) (by decide) (by decide) rfl (OpS.mul (by lia) (ItemS.atO (hH _) (by decide) (by decide) rfl (OpS.mul (by lia) (ItemS.atO (hH _) (by decide) (by decide) rfl (OpS.mul (by lia) ⟨rfl, ?_⟩))))))
 have ekl : (a.toNat : Int) + 256 * b.toNat + 65536 * c.toNat + 16777216 * e.toNat = (kl a b c e : Nat) := by unfold kl; lia
 rw [ekl]
 refine vcS_sound 1 (Bk.forW (α := Unit) (fun i _ => [("worth", .i (dw (d.take i))), ("length", .i (kl a b c e)), ("key", .b (a :: b :: c :: e :: d).toArray), ("data", .v (.ref dl))]) (fun _ _ => []) (fun _ _ => True) () ⟨_, _, _, SrcW.list (hD _) (fun s hS => ?_), .loc trivial (subF_of ⟨rfl, rfl, rfl, rfl, trivial⟩) sub_nil ?_ ?_⟩)
 ·obtain ⟨m, F, _⟩ := hS.fr
  exact Nat.ne_of_lt (Nat.lt_of_lt_of_le (Heap.lt_size hDg) F.above)
 ·rintro I i _ - own - ⟨v, hv, rfl⟩ - - -
  obtain ⟨n, t9, hn, rfl⟩ := ints_get hi hv
  obtain ⟨x, hdx, rfl⟩ : ∃ x, d[i]? = some x ∧ (x.toNat : Int) = n := by simpa [byteInts] using hn
  refine vcS_sound 10 (OpS.mul (by lia) ⟨(), trivial, subF_of ⟨?_, rfl, rfl, rfl, trivial⟩, fun _ h => h, fun _ h => absurd h List.not_mem_nil⟩)
  have e9 : dw (d.take (i + 1)) = 256 * dw (d.take i) + x.toNat := by
   rw [List.take_add_one, hdx]
   simp [dw]
   lia
  rw [e9]; rfl
 ·intro _ _
  rw [hil, List.take_length]
  have hx4 : d.length ≠ 4 → Txt.join (Str.ofString "") (d.map fun x => hexc (x.toNat / 16) ++ hexc (x.toNat % 16)) = figS d := fun h => (if_neg h).symm
  have hd4 : d.length = 4 → Txt.join (Str.ofString ".") (d.map fun x => decS x.toNat) = figS d := fun h => (if_pos h).symm
  have hwx := sum_len (hexs_le d)
  have hwd := sum_len (decs_le d)
  have lf : (figS d).length ≤ 1000 := by
   unfold figS
   split
   ·have := join_len (sep := Str.ofString ".") 11 (decs_le d)
    rw [ldot, List.length_map] at this
    lia
   ·have := join_len (sep := Str.ofString "") 2 (hexs_le d)
    rw [lnil, List.length_map] at this
    lia
  rw [List.length_map] at hwx hwd
  have oct : ∀ {i : Nat} {v : Value}, its[i]? = some v → ∃ x t, d[i]? = some x ∧ v = .int (x.toNat : Int) t := fun hv => by
   obtain ⟨n, t9, hn, rfl⟩ := ints_get hi hv
   obtain ⟨x, hdx, rfl⟩ : ∃ x : UInt8, d[_]? = some x ∧ (x.toNat : Int) = n := by simpa [byteInts] using hn
   exact ⟨x, t9, hdx, rfl⟩
  refine vcS_sound 1 (RawE.smeth (y := "") mJoin (And.intro rfl (RawE.comp its.length (fun i sh => ∃ v, its[i]? = some v ∧ sh = Sh.of v) (Js (fun i => hexc ((d.getD i 0).toNat / 16) ++ hexc ((d.getD i 0).toNat % 16)) []) [] (compS (SrcC.listO hDg (by lia)) sub_nil ?_ fun D ys hs => ?_) rfl)))
  ·rintro I oI C oC D m₂ i ys _ u m - ⟨v, hv, rfl⟩ hC hx
   obtain ⟨x, t9, hdx, rfl⟩ := oct hv
   have hx9 : x = d.getD i 0 := by rw [List.getD_eq_getElem?_getD, hdx]; rfl
   have := x.toNat_lt
   have l1 := hexc_len (x.toNat / 16) (by lia)
   have l2 := hexc_len (x.toNat % 16) (by lia)
   refine vc_sound 30 (.E _ _ _ _) (RawE.cvar (.tail _ (.head _)) hC hx (OpS.fdiv (by decide) (fdiv16 x.toNat) (ItemS.hex (j := x.toNat / 16) rfl (by lia) ?_)))
   refine RawE.cvar (.tail _ (.head _)) hC hx (OpS.mod (by decide) (fmod16 x.toNat) (ItemS.hex (j := x.toNat % 16) rfl (by lia) (OpS.addS (by lia) ⟨by rw [hx9], fun _ h => h⟩)))
  ·rw [hil, map_getD9 (fun x : UInt8 => hexc (x.toNat / 16) ++ hexc (x.toNat % 16))] at hs
   refine CallB.join (.head _) hs (by decide) (by rw [List.length_map]; lia) (N' := []) sub_nil ?_
   have out : ∀ t, R' (.int (kl a b c e : Int) t) [] := fun t => hR _ _ ⟨t, rfl⟩
   refine Bk.ifJ [("figures", .s (figS d)), ("worth", .i (dw d)), ("length", .i (kl a b c e)), ("key", .b (a :: b :: c :: e :: d).toArray), ("data", .v (.ref dl))] (fun N => N = []) (vc_sound 30 (.T _ _ _ _ _) (RawE.bfn (bLen w) (CallB.lenO (hD _) (k := d.length) (by rw [hil]) (by lia) (And.intro (fun h => ?_) fun h => ?_)))) ?_
   ·have h4 : d.length = 4 := by lia
    refine vcS_sound 10 (RawE.smeth (y := ".") mJoin (And.intro rfl (RawE.comp its.length (fun i sh => ∃ v, its[i]? = some v ∧ sh = Sh.of v) (Js (fun i => decS (d.getD i 0).toNat) []) [] (compS (SrcC.listO hDg (by lia)) sub_nil ?_ fun D ys hs => ?_) rfl)))
    ·rintro I oI C oC D m₂ i ys _ u m - ⟨v, hv, rfl⟩ hC hx
     obtain ⟨x, t9, hdx, rfl⟩ := oct hv
     have hx9 : x = d.getD i 0 := by rw [List.getD_eq_getElem?_getD, hdx]; rfl
     have := x.toNat_lt
     exact RawE.tfn (bStr w) (RawE.cvar (.tail _ (.head _)) hC hx (CallT.str (by lia) ⟨by rw [hx9], fun _ h => h⟩))
    ·rw [hil, map_getD9 (fun x : UInt8 => decS x.toNat)] at hs
     refine CallB.join (.head _) hs (by decide) (by rw [List.length_map]; lia) (N' := []) sub_nil ?_
     rw [hd4 h4]
     exact ⟨rfl, subF_of ⟨rfl, rfl, rfl, rfl, rfl, trivial⟩, rfl⟩
   ·rw [hx4 (by lia)]
    exact Bk.nil ⟨rfl, subF_of ⟨rfl, rfl, rfl, rfl, rfl, trivial⟩, rfl⟩
   ·rintro _ rfl
    refine vcS_sound 10 (RawE.fn (fn318 w) (CallS.key_parts (lb9 rfl) hd.2 fun r t1 t2 _ ts r2 _ => CmpS.neTup2 (lb9 rfl) (.tail _ (.head _)) (.head _) sub_nil ?_))
    refine RawE.fn (fn592 w).2 (CallS.make_key (lb9 rfl) (hD _) hi (by lia) (N' := []) sub_nil ?_)
    rw [le4_kl]
    refine CmpS.neB (RawE.fn (fn592 w).1 (CallS.show_prefix (lb9 rfl) hd.2 (OpS.addS (by lia) (RawE.tfn (bStr w) (CallT.str (by lia) (OpS.addS (by rw [Str.length_append]; lia) (CmpS.neS out)))))))
end
theorem pick22 (vs : List Value) : kms_pick vs.toArray.toList none (some 22) = vs.take 22 := by
 show (vs.drop 0).take (min 22 vs.length - 0) = vs.take 22
 rw [List.drop_zero, Nat.sub_zero]
 by_cases h : vs.length ≤ 22
 ·rw [Nat.min_eq_right h, List.take_of_length_le (Nat.le_refl _), List.take_of_length_le h]
 ·rw [Nat.min_eq_left (by lia)]
noncomputable def jarN (i : Nat) : Nat := 10 ^ 39 * 1052 ^ i
noncomputable def jarB (i : Nat) : Int := (jarN i : Int)
theorem jarB_step {z y b : Int} {i : Nat} (h0 : 0 ≤ z) (h1 : z ≤ jarB i) (hy : 0 ≤ y ∧ y < 10 ^ 38) (hb : 0 ≤ b ∧ b ≤ 1) : 0 ≤ z * 1051 + 3 * y + b ∧ z * 1051 + 3 * y + b ≤ jarB (i + 1) := by
 have e : jarN (i + 1) = jarN i * 1052 := (Nat.mul_assoc (10 ^ 39) (1052 ^ i) 1052).symm
 have hB : 10 ^ 39 ≤ jarN i := Nat.le_mul_of_pos_right _ (Nat.pow_pos (by decide))
 have h38 : (10 : Int) ^ 38 = 100000000000000000000000000000000000000 := by decide +kernel
 have h39 : (10 : Nat) ^ 39 = 1000000000000000000000000000000000000000 := by decide +kernel
 unfold jarB at *
 rw [e]
 rw [h38] at hy
 rw [h39] at hB
 lia
theorem jarB_end {i : Nat} (h : i ≤ 22) : jarB i < 2 ^ 420 := by
 have : ∀ j, j < 23 → jarB j < 2 ^ 420 := by unfold jarB jarN; decide +kernel
 exact this i (by lia)
theorem bAbs (w : World) : BuiltAt w "abs" (.builtin "abs") := by
 exact ⟨by k_is, by boot_by_name, by decide⟩
section
variable {d : Df} {c : Cx} {l : Fs} {N : Led} {K : KE}
theorem CallT.inti {n : Int} (h : K (.i n) N) : CallT d c l "int" [.i n] N K := fun ts s Q hS hQ => call_int_int (hQ.use (sh := .i n) _ h hS)
theorem CallB.abs {n : Int} (h : K (.i (if n < 0 then -n else n)) N) : CallB d c l "abs" [] [.i n] N K := fun ts s Q hS hQ => call_abs_int fun u tk => hQ.use (sh := .i _) u h (hS.tok _)
theorem SlcS.listH {i : PySem.Expr} {r : Addr} {o : Obj} {vs zs : List Value} {lo hi : Option Int} (ho : OAt c N r o) (hl : ∀ h : Heap, h.get? r = some o → h.IsList r vs.toArray) (e : kms_pick vs.toArray.toList lo hi = zs) (hz : vs.length ≤ 1000) (h : ∀ D, K (.v (.ref D)) ((D, listOf zs.toArray 0) :: N))
  (hs : autoParam (∀ u, subscripted i false (.ref r) (.ref u) = operate [.ref u, .ref r] (getItem (.ref r) (.ref u))) kim_tup._auto_3) : SlcS d c l i lo hi (.v (.ref r)) N K := fun t vl vu s Q e1 e2 hS hQ => by
 have hL := hl _ (ho.at hS)
 obtain ⟨ok, ⟨hp, tk, rfl⟩, ⟨m, F, H⟩, hN⟩ := hS
 exact kms_slice_lit F hN hL e1 e2 e (fun D h' F' N' _ => hQ.use (sh := .v (.ref D)) 0 (h D) ⟨ok, ⟨_, _, rfl⟩, ⟨m, F', H⟩, N'⟩) (hs _) (fun _ => rfl) (by rw [sizeLine_eq, List.size_toArray]; lia)
end
inductive JarR : Value → Led → Prop
 | mk (jr : Addr) (j : JS) (hj : JOK 0 j) : JarR (.ref jr) [(jr, jobj j)]
noncomputable def St_sp_law_jar (w : World) (sc : Addr) (o : Obj) (vs : List Value) (ns : List Int) : Prop := ∀ (hl : ∀ h : Heap, h.get? sc = some o → h.IsList sc vs.toArray) (hi : IntsAre vs ns) (hlen : vs.length ≤ 63), Sp w 599 6 [.ref sc] [(sc, o)] [] JarR
theorem sp_law_jar : A5 St_sp_law_jar := by
 refine' ey5 (ne_P ne_W (ne_P ne_N (ne_P ne_Ob (ne_P ne_L ne_L)))) ((?f9 : A5 St_sp_law_jar) _ _ _ _ _)
 intro w sc o vs ns hl hi hlen
 refine' Sp.of_W [("script", .v (.ref sc))] ?ho ?hcd ?hbind ?hloc ?hco ?hgen ?hk ?hcell ?hl ?_
 walk_at "ds prem0"
 case hl => exact rfl
 refine' ent_all ((?f8 : ∀ c R', Ent _ _ _ _ _ _ c R') _ _); intro k R' l0 hP hR
 have ho : OAt k [] sc o := .inr (hP _ (.head _))
 clear hP l0
 refine vcS_sound 1 (Bk.forW (α := Int) (fun i z => [("grains", .i z)]) (fun _ _ => []) (fun i z => 0 ≤ z ∧ z ≤ jarB i) 37 (RawE.slice ⟨22, rfl, SlcS.listH ho hl (pick22 vs) (by lia) fun D => ⟨_, _, _, SrcW.list (.inl (.head _)) (fun s hS => (hS.news _ (.head _)).2.1), .loc ⟨by decide, by unfold jarB jarN; decide +kernel⟩ (subF_of ⟨rfl, trivial⟩) sub_nil ?_ ?_⟩⟩))
 ·rintro I i _ z own - ⟨v, hv, rfl⟩ ⟨hJ0, hJ1⟩ hnI -
  obtain ⟨n, t9, hn, rfl⟩ := ints_get hi (v := v) (i := i) (by
   rw [List.getElem?_take] at hv
   split at hv
   ·exact hv
   ·cases hv)
  have e38 : (10 : Int) ^ 38 = 100000000000000000000000000000000000000 := by decide +kernel
  have hm := Int.emod_nonneg (if n < 0 then -n else n) (b := 10 ^ 38) (by rw [e38]; decide)
  have hm2 := Int.emod_lt_of_pos (if n < 0 then -n else n) (b := 10 ^ 38) (by rw [e38]; decide)
  refine vcS_sound 10 (OpS.mul (by lia) (RawE.bfn (bAbs w) (RawE.tfn (bInt w).1 (CallT.inti (CallB.abs (OpS.pow 38 rfl (by decide) (by decide) (OpS.mod (by rw [e38]; decide) (Int.fmod_eq_emod_of_nonneg _ (by rw [e38]; decide)) (OpS.mul (by lia) (RawE.tfn (bInt w).1 (And.intro (fun _ => CallT.intb ?_) fun _ => CallT.intb ?_))))))))))
  ·exact ⟨_, jarB_step hJ0 hJ1 ⟨hm, hm2⟩ ⟨by decide, by decide⟩, subF_of ⟨rfl, trivial⟩, fun _ h => h, fun _ h => absurd h List.not_mem_nil⟩
  ·exact ⟨_, jarB_step hJ0 hJ1 ⟨hm, hm2⟩ ⟨by decide, by decide⟩, subF_of ⟨rfl, trivial⟩, fun _ h => h, fun _ h => absurd h List.not_mem_nil⟩
 ·rintro z ⟨hJ0, hJ1⟩
  refine vcS_sound 1 fun ts r _ t => hR _ _ (.mk r ⟨z, 0, ts 0, ts 1, 0⟩ ⟨⟨hJ0, Int.lt_of_le_of_lt hJ1 (jarB_end ?_)⟩, Int.le_refl _, Int.le_refl _⟩)
  exact Nat.le_trans (by rw [List.length_take]; exact Nat.min_le_left _ _) (Nat.le_refl 22)
theorem nextU_len {H : HT} {k : Option (List Nat)} {fl most : Nat} {b : UInt8} (h : H.length ≤ most) : (nextU H k fl most b).length ≤ most := by
 unfold nextU
 cases k with
 | none => exact h
 | some k =>
  dsimp only
  split
  ·rename_i h0
   unfold putH
   by_cases hk : k ∈ H.map (·.1)
   ·rw [if_pos hk]; unfold setH; rw [List.length_map]; exact h
   ·rw [if_neg hk, List.length_append, List.length_singleton]
    unfold dueU at h0
    dsimp only at h0
    rw [if_neg hk] at h0
    by_cases h2 : fl = 2
    ·rw [if_pos h2] at h0; lia
    ·rw [if_neg h2] at h0
     by_cases h3 : H.length = most
     ·rw [if_pos h3] at h0; lia
     ·lia
  ·exact h
theorem popH_len {H : HT} {k : Option (List Nat)} : (popH H k).length ≤ H.length := by
 cases k with
 | none => exact Nat.le_refl _
 | some k => exact List.length_filter_le _ _
theorem menuC (i : Nat) : ∃ fl : Nat, [0, 0, 1, 2].getD i (0 : Int) = (fl : Int) ∧ (fl = 0 ∨ fl = 1 ∨ fl = 2) := by
 match i with
 | 0 => exact ⟨0, rfl, .inl rfl⟩
 | 1 => exact ⟨0, rfl, .inl rfl⟩
 | 2 => exact ⟨1, rfl, .inr (.inl rfl)⟩
 | 3 => exact ⟨2, rfl, .inr (.inr rfl)⟩
 | _ + 4 => exact ⟨0, rfl, .inl rfl⟩
structure Ap2 (jr hr : Addr) (O : Led) : Prop where
 jh : hr ≠ jr
 j : ∀ p ∈ O, p.1 ≠ jr
 h : ∀ p ∈ O, p.1 ≠ hr
section
variable {d : Df} {c : Cx} {l : Fs} {N : Led} {K : KE} {A : TA} {T : TS} {root : Int} {rt : Tok} {D : Led} {jr hr : Addr} {oj oh : Obj} {O : Led}
theorem z2all : ∀ p ∈ O, p ∈ (jr, oj) :: (hr, oh) :: O := fun _ h => .tail _ (.tail _ h)
theorem foot2 {lv' : Nat} (hlv : lv' ≤ d.lv) (ap : Ap2 jr hr O) : Foot d c ((jr, oj) :: (hr, oh) :: O) [] O [(jr, oj), (hr, oh)] lv' :=
 ⟨fun _ h => absurd h List.not_mem_nil, z2all, fun _ _ _ h => absurd h List.not_mem_nil, sub_cons (.head _) (sub_cons (.tail _ (.head _)) sub_nil), fun p hp q hq => by
  rcases List.mem_cons.mp hq with rfl | hq
  ·exact ap.j p hp
  ·rw [List.mem_singleton.mp hq]; exact ap.h p hp, hlv⟩
theorem ap2_out {O' : Led} (jh : hr ≠ jr) (ap : ∀ p ∈ [(jr, oj), (hr, oh)], ∀ q ∈ O', p.1 ≠ q.1) : Ap2 jr hr O' ∧ ∀ p ∈ (jr, oj) :: (hr, oh) :: O', p ∈ O' ++ [(jr, oj), (hr, oh)] :=
 ⟨⟨jh, fun p hp e => ap _ (.head _) p hp e.symm, fun p hp e => ap _ (.tail _ (.head _)) p hp e.symm⟩, sub_cons (List.mem_append_right _ (.head _)) (sub_cons (List.mem_append_right _ (.tail _ (.head _))) fun _ h => List.mem_append_left _ h)⟩
theorem CallGM.update {t : Tr} {a b c' e : UInt8} {ds : List UInt8} {bv : UInt8} {fl : Nat} {H : HT} {j : Nat} (hlv : 50 ≤ d.lv) (R : TR d.w A T D) (ap : Ap2 jr hr (TP A root rt D)) (hfl : fl = 0 ∨ fl = 1 ∨ fl = 2) (hd : ds.length = A.c) (I : LI (8 * A.c) T root t H j) (hj : j ≤ 100) (hm : H.length ≤ A.most) (hm3 : A.most ≤ 3)
  (h : ∀ T' D' root' rt' t', TR d.w A T' D' → Ap2 jr hr (TP A root' rt' D') → LI (8 * A.c) T' root' t' (nextU H (keyT A.c (kl a b c' e) ds) fl A.most bv) (j + 1) → K (.i (dueU H (keyT A.c (kl a b c' e) ds) fl A.most)) ((jr, oj) :: (hr, oh) :: TP A root' rt' D')) :
  CallGM d c l 495 A.self [.b (a :: b :: c' :: e :: ds).toArray, .b #[bv], .i fl] ((jr, oj) :: (hr, oh) :: TP A root rt D) K :=
 CallGM.write (fun ts => spG_update d.w A T D t rt a b c' e ds (ts 0) (ts 1) (ts 2) bv fl root H j R hfl hd I hj hm hm3) (foot2 hlv ap) fun v O' r ap' => by
  cases r with
  | mk u T' D' root' rt' t' R' I' =>
   obtain ⟨h1, h2⟩ := ap2_out ap.jh ap'
   exact ⟨.i _, _, ⟨u, rfl⟩, h T' D' root' rt' t' R' h1 I', h2⟩
theorem CallM.delete {t : Tr} {a b c' e : UInt8} {ds : List UInt8} {H : HT} {j : Nat} (hlv : 30 ≤ d.lv) (R : TR d.w A T D) (ap : Ap2 jr hr (TP A root rt D)) (hd : ds.length = A.c) (I : LI (8 * A.c) T root t H j) (hj : j ≤ 100)
  (h : ∀ T' D' root' rt' t', TR d.w A T' D' → Ap2 jr hr (TP A root' rt' D') → LI (8 * A.c) T' root' t' (popH H (keyT A.c (kl a b c' e) ds)) (j + 1) → K (.i (dueD H (keyT A.c (kl a b c' e) ds))) ((jr, oj) :: (hr, oh) :: TP A root' rt' D')) :
  CallM d c l 509 A.self [.b (a :: b :: c' :: e :: ds).toArray] ((jr, oj) :: (hr, oh) :: TP A root rt D) K :=
 CallM.write (fun ts => sp_delete d.w A T D t rt a b c' e ds (ts 0) root H j R hd I hj) (foot2 hlv ap) fun v O' r ap' => by
  cases r with
  | mk u T' D' root' rt' t' R' I' =>
   obtain ⟨h1, h2⟩ := ap2_out ap.jh ap'
   exact ⟨.i _, _, ⟨u, rfl⟩, h T' D' root' rt' t' R' h1 I', h2⟩
theorem upd_h (ap : Ap2 jr hr O) : UpdF hr oh ((jr, oj) :: (hr, oh) :: O) (fun o => (jr, oj) :: (hr, o) :: O) := UpdF.tail (fun e => ap.jh e.symm) (UpdF.head ap.h)
theorem upd_j (ap : Ap2 jr hr O) : UpdF jr oj ((jr, oj) :: (hr, oh) :: O) (fun o => (jr, o) :: (hr, oh) :: O) := UpdF.head fun p hp => by
 rcases List.mem_cons.mp hp with rfl | hp
 ·exact ap.jh
 ·exact ap.j p hp
theorem SetIS.held {H : HT} {kk : List Nat} {b : UInt8} {K : Led → Prop} (ap : Ap2 jr hr O) (hH : HD d.w oh H) (hz : H.length ≤ 1000) (h : ∀ o', HD d.w o' (putH H kk b) → K ((jr, oj) :: (hr, o') :: O)) :
  SetIS d c l (.v (.ref hr)) (.s (bitS kk)) (.b #[b]) ((jr, oj) :: (hr, oh) :: O) K := fun t u v s Q hS hQ => by
 obtain ⟨ok, ⟨hp, tk, rfl⟩, ⟨m, F, H⟩, hN⟩ := hS
 exact held_set F hN (upd_h ap) hH hz fun h' o' k F' N' hH' => hQ _ _ (h o' hH') ⟨ok, ⟨_, _, rfl⟩, ⟨m, F', H⟩, N'⟩
theorem CallB.held_pop {H : HT} {kk : List Nat} {b : UInt8} (ap : Ap2 jr hr O) (hH : HD d.w oh H) (hz : H.length ≤ 1000) (hn : (H.map (·.1)).Nodup) (hb : (kk, b) ∈ H) (h : ∀ o' v, HD d.w o' (H.filter fun p => decide (p.1 ≠ kk)) → K (.v v) ((jr, oj) :: (hr, o') :: O)) :
  CallB d c l "dict.pop" [.ref hr] [.s (bitS kk)] ((jr, oj) :: (hr, oh) :: O) K := fun ts s Q hS hQ => by
 obtain ⟨ok, ⟨hp, tk, rfl⟩, ⟨m, F, H⟩, hN⟩ := hS
 exact Mine.held_pop F hN (upd_h ap) hH hz hn hb fun h' o' v k F' N' hH' => hQ.use (sh := .v v) 0 (h o' v hH') ⟨ok, ⟨_, _, rfl⟩, ⟨m, F', H⟩, N'⟩
theorem MethB.held_pop {H : HT} {ho : Obj} (h : OAt c N hr ho) (hH : HD d.w ho H) : MethB d c l N hr (Str.ofString "pop") "dict.pop" := fun pl s Q hS hQ => held_meth (h.at hS) hH hQ
theorem CallS.put_due {H : HT} {ho : Obj} {k : Option (List Nat)} {fl most : Nat} (hlv : 4 ≤ d.lv) (hm : (hr, ho) ∈ N) (hH : HD d.w ho H) (lo : (hr == sysModules) = false) (hz : H.length ≤ 1000) (h : K (.i (dueU H k fl most)) N) :
  CallS d c l 635 [.v (.ref hr), txS k, .i fl, .i most] N K :=
 CallS.of N (fun ts => sp_law_put_due d.w hr ho H k _ fl most (ts 2) (ts 3) hH lo (txS_ok k (ts 1)) hz) ⟨fun p hp => by rw [List.mem_singleton.mp hp]; exact .inl hm, fun _ h => absurd h List.not_mem_nil, fun _ h => absurd h List.not_mem_nil, fun _ h => h, fun _ h => absurd h List.not_mem_nil, hlv⟩
  fun v O' ⟨e1, t, ev⟩ _ => ⟨.i _, N, ⟨t, ev⟩, h, by rw [e1]; exact fun _ h => h⟩
end
theorem fn635 (w : World) : FnAt w "_law_put_due" 635 := by
 refine ⟨?_, ?_⟩ <;> k_is
theorem meUD (w : World) : MethAt w 585 "update" 495 ∧ MethAt w 585 "delete" 509 := by
 refine ⟨?_, ?_⟩ <;> exact ⟨by k_is, by k_is, by k_is, by k_is⟩
inductive DeedR (w : World) (A : TA) (jr hr : Addr) (K : Int) (j : Nat) : Value → Led → Prop
 | mk (js : JS) (ho : Obj) (H : HT) (T : TS) (D : Led) (root : Int) (rt : Tok) (t : Tr) : JOK K js → HD w ho H → H.length ≤ A.most → TR w A T D → LI (8 * A.c) T root t H j → Ap2 jr hr (TP A root rt D) → DeedR w A jr hr K j (.bool true) ((jr, jobj js) :: (hr, ho) :: TP A root rt D)
noncomputable def St_spG_law_deed_right (w : World) (A : TA) (T : TS) (D : Led) (t : Tr) (rt : Tok) (a b c e : UInt8) (d : List UInt8) (kt tm : Tok) (root : Int) (H : HT) (j : Nat) (jr hr : Addr) (ho : Obj) (c0 : Int) (k : Option (List Nat)) (tv : Value) : Prop := ∀ (R : TR w A T D) (hd : d.length = A.c) (I : LI (8 * A.c) T root t H j) (hj : j ≤ 100) (hm : H.length ≤ A.most) (hm3 : A.most ≤ 3) (j0 : JS) (hkT : keyT A.c (kl a b c e) d = k) (hk : okIs k tv = true) (hH : HD w ho H) (lo : (hr == sysModules) = false) (hJ0 : JOK c0 j0) (hc : c0 ≤ 900) (ap : Ap2 jr hr (TP A root rt D)), SpG w 642 60 [.ref jr, .ref A.self, .bytes (a :: b :: c :: e :: d).toArray kt, tv, .ref hr, .int (A.most : Int) tm] [] ((jr, jobj j0) :: (hr, ho) :: TP A root rt D) (DeedR w A jr hr (c0 + 3) (j + 1))
theorem spG_law_deed_right : A22 St_spG_law_deed_right := by
 refine' ey22 (ne_P ne_W (ne_P ne_TA (ne_P ne_TS (ne_P ne_L (ne_P ne_Tr (ne_P ne_N (ne_P ne_U (ne_P ne_U (ne_P ne_U (ne_P ne_U (ne_P ne_L (ne_P ne_N (ne_P ne_N (ne_P ne_I (ne_P ne_L (ne_P ne_N (ne_P ne_N (ne_P ne_N (ne_P ne_Ob (ne_P ne_I (ne_P ne_O ne_V))))))))))))))))))))) ((?f9 : A22 St_spG_law_deed_right) _ _ _ _ _ _ _ _ _ _ _ _ _ _ _ _ _ _ _ _ _ _)
 intro w A T D t rt a b c e d kt tm root H j jr hr ho c0 k tv R hd I hj hm hm3 j0 hkT hk hH lo hJ0 hc ap
 have htv := txS_of hk
 refine' SpG.of_W [("most", .i A.most), ("held", .v (.ref hr)), ("text", txS k), ("key", .b (a :: b :: c :: e :: d).toArray), ("trie", .v (.ref A.self)), ("jar", .v (.ref jr))] ?ho ?hcd ?hbind ?hloc ?hco ?hgen ?hk ?hcell ?hl ?_
 walk_at "ds prem0"
 case hl => exact congrArg (fun z => [(Str.ofString "most", Sh.i A.most), (Str.ofString "held", .v (.ref hr)), (Str.ofString "text", z), (Str.ofString "key", .b (a :: b :: c :: e :: d).toArray), (Str.ofString "trie", .v (.ref A.self)), (Str.ofString "jar", .v (.ref jr))]) htv
 refine' entG_all ((?f8 : ∀ c R', EntG _ _ _ _ _ _ c R') _ _); intro q R' l0 hP hR
 clear l0 hP htv
 have fin : ∀ v j' ho' H' T' D' root' rt' t', v = .bool true → JOK (c0 + 3) j' → HD w ho' H' → H'.length ≤ A.most → TR w A T' D' → LI (8 * A.c) T' root' t' H' (j + 1) → Ap2 jr hr (TP A root' rt' D') → R' v ((jr, jobj j') :: (hr, ho') :: TP A root' rt' D') :=
  fun v j' ho' H' T' D' root' rt' t' e1 hJ h1 h2 h3 h4 ap' => hR _ _ (by subst e1; exact .mk j' ho' H' T' D' root' rt' t' hJ h1 h2 h3 h4 ap')
 clear hR
 refine vcG_sound 3 ?_
 refine RawEG.of (RawE.fn (fn606 w) ?_)
 refine CallS.grain hJ0 (by lia) (by lia) (upd_j ap) (lb9 rfl) (fun r1 j1 _ _ hJ1 => ?_)
 refine And.intro (fun hw => ?_) (fun hw => ?_)
 ·refine WG.one (Bk.tupD (names := ["value", "flags"]) ?_ (hk := all2 rfl rfl))
  refine RawE.tfn (bBytes w) ?_
  refine RawE.fn (fn606 w) ?_
  refine CallS.grain hJ1 (by lia) (by lia) (upd_j ap) (lb9 rfl) (fun r2 j2 h20 h21 hJ2 => ?_)
  intro ts1 lr _
  refine CallT.bytes ((jr, jobj j2) :: (hr, ho) :: TP A root rt D) (.head _) (ints_valsO [r2] 0) (fun n hn => by rw [List.mem_singleton.mp hn]; lia) (lb9 rfl) (fun _ h => .tail _ h) ?_
  intro ts2 mr hlt
  have hmj : @LT.lt Nat _ jr mr := hlt _ (.head _)
  refine RawE.fn (fn606 w) ?_
  refine CallS.grain (gg := fun o => (mr, _) :: (jr, o) :: (hr, ho) :: TP A root rt D) hJ2 (by lia) (by lia) (UpdF.tail (Nat.ne_of_gt hmj) (upd_j ap)) (lb9 rfl) (fun r3 j3 h30 h31 hJ3 => ?_)
  refine ItemS.menu ((jr, jobj j3) :: (hr, ho) :: TP A root rt D) (.head _) (ints_valsO [0, 0, 1, 2] 0) h30 h31 (by lia) (fun _ h => .tail _ h) ?_
  obtain ⟨fl, hfl, hfl3⟩ := menuC r3.toNat
  rw [hfl]
  refine And.intro rfl (Bk.nil (vcG_sound 20 ?_))
  refine RawEG.of (RawE.fn (fn635 w) ?_)
  refine CallS.put_due (lb9 rfl) (.tail _ (.head _)) hH lo (by lia) ?_
  refine And.intro (fun h0 => ?_) (fun h0 => ?_)
  ·cases k with
   | none => exact absurd (show (-22 : Int) = 0 from h0) (by decide)
   | some kk =>
    refine SetIS.held (H := H) ap hH (by lia) (fun ho' hH' => ?_)
    refine RawEG.mself (x := "update") (meUD w).1 (And.intro rfl (And.intro (TrO.led R z2all) ?_))
    refine RawLG.cons (RawEG.of (RawLG.cons (RawEG.of (RawLG.cons (RawEG.of (RawLG.nil ?_))))))
    refine CallGM.update (bv := r2.toNat.toUInt8) (lb9 rfl) R ap hfl3 hd I hj hm hm3 (fun T' D' root' rt' t' R1 ap1 I1 => ?_)
    rw [hkT] at I1 ⊢
    have e9 : nextU H (some kk) fl A.most r2.toNat.toUInt8 = putH H kk r2.toNat.toUInt8 := if_pos h0
    have hl9 := nextU_len (k := some kk) (fl := fl) (b := r2.toNat.toUInt8) hm
    rw [e9] at I1 hl9
    exact And.intro (fun _ t => fin _ j3 ho' _ T' D' root' rt' t' rfl (hJ3.le (by lia)) hH' hl9 R1 I1 ap1) (fun hn => absurd rfl hn)
  ·refine RawEG.mself (x := "update") (meUD w).1 (And.intro rfl (And.intro (TrO.led R z2all) ?_))
   refine RawLG.cons (RawEG.of (RawLG.cons (RawEG.of (RawLG.cons (RawEG.of (RawLG.nil ?_))))))
   refine CallGM.update (bv := r2.toNat.toUInt8) (lb9 rfl) R ap hfl3 hd I hj hm hm3 (fun T' D' root' rt' t' R1 ap1 I1 => ?_)
   rw [hkT] at I1 ⊢
   have e9 : nextU H k fl A.most r2.toNat.toUInt8 = H := by
    cases k with
    | none => rfl
    | some kk => exact if_neg h0
   rw [e9] at I1
   exact And.intro (fun _ t => fin _ j3 ho _ T' D' root' rt' t' rfl (hJ3.le (by lia)) hH hm R1 I1 ap1) (fun hn => absurd rfl hn)
 refine And.intro (fun hw4 => ?_) (fun hw4 => ?_)
 rotate_left
 ·refine WG.of (Bk.nil (vcG_sound 1 ?_))
  exact fun u => fin _ j1 ho H T D root rt _ rfl (hJ1.le (by lia)) hH hm R I.up ap
 have hO : OAt q ((jr, jobj j1) :: (hr, ho) :: TP A root rt D) hr ho := .inl (.tail _ (.head _))
 refine WG.one ?_
 refine Bk.asgI (α := Unit) (va := fun _ => dueD H k) (nf := fun _ => (jr, jobj j1) :: (hr, ho) :: TP A root rt D) (I := fun _ => True) ?_ (fun _ _ => Bk.nil (vcG_sound 20 ?_))
 ·cases k with
  | none => exact ⟨(), _, rfl, rfl, trivial, rfl⟩
  | some kk => exact CmpS.held_in hO hH lo (fun hin => ⟨(), _, rfl, (if_pos hin).symm, trivial, rfl⟩) (fun hin => ⟨(), _, rfl, (if_neg hin).symm, trivial, rfl⟩)
 refine And.intro (fun h0 => ?_) (fun h0 => ?_)
 ·cases k with
  | none => exact absurd (show (-22 : Int) = 0 from h0) (by decide)
  | some kk =>
   have hin : kk ∈ H.map (·.1) := by
    false_or_by_contra
    rename_i hn
    rw [show dueD H (some kk) = -2 from if_neg hn] at h0
    cases h0
   obtain ⟨⟨kk', b9⟩, hb9, hkk'⟩ := List.mem_map.mp hin
   dsimp only at hkk'
   subst hkk'
   refine RawEG.of (RawE.bmeth (And.intro rfl (And.intro (MethB.held_pop hO hH) ?_)))
   refine CallB.held_pop ap hH (by lia) I.hn hb9 (fun ho' v hH' => ?_)
   refine RawEG.of (RawE.mself (x := "delete") (meUD w).2 (And.intro rfl (And.intro (TrO.led R z2all) ?_)))
   refine CallM.delete (lb9 rfl) R ap hd I hj (fun T' D' root' rt' t' R1 ap1 I1 => ?_)
   rw [hkT] at I1 ⊢
   exact And.intro (fun _ t => fin _ j1 ho' _ T' D' root' rt' t' rfl (hJ1.le (by lia)) hH' (Nat.le_trans (popH_len (k := some _)) hm) R1 I1 ap1) (fun hn => absurd rfl hn)
 ·refine RawEG.of (RawE.mself (x := "delete") (meUD w).2 (And.intro rfl (And.intro (TrO.led R z2all) ?_)))
  refine CallM.delete (lb9 rfl) R ap hd I hj (fun T' D' root' rt' t' R1 ap1 I1 => ?_)
  rw [hkT] at I1 ⊢
  have e9 : popH H k = H := by
   cases k with
   | none => rfl
   | some kk => exact popH_out fun hin => h0 (if_pos hin)
  rw [e9] at I1
  exact And.intro (fun _ t => fin _ j1 ho _ T' D' root' rt' t' rfl (hJ1.le (by lia)) hH hm R1 I1 ap1) (fun hn => absurd rfl hn)
section
open LCg LCt LCp
variable {d : Df} {c : Cx} {l : Fs} {N : Led} {K : KE} {KT KF : Led → Prop}
theorem SrcC.held {H : HT} {ho : Obj} {hr : Addr} {news₀ : Led} (lo : (hr == sysModules) = false) (hg : c.g.get? hr = some ho) (hd : HD d.w ho H) (hz : H.length ≤ 1000) : SrcC d c l N (.v (.ref hr)) H.length (fun i sh => ∃ p, H[i]? = some p ∧ sh = .s (bitS p.1)) (fun _ => True) news₀ :=
 ⟨hz, trivial, fun s1 t hS => by
  obtain ⟨kvs, ⟨es, ep, q1, q2, q3, q4, q5⟩, hk⟩ := hd
  have hD : ∀ h : Heap, h.get? hr = some ho → h.DictAt (okKind d.w) hr kvs ep := fun h e => ⟨ho, es, e, q1, q2, q3, q4, q5⟩
  have hg1 := (OAt.at (N := N) (.inr hg)) hS
  have hlt : hr < s1.heap.objs.size := Heap.lt_size hg1
  refine ⟨_, fun i v ⟨p, hp, u, hv⟩ => ⟨.s (bitS p.1), u, hv, p, hp, rfl⟩, _, _, _, held_walks rfl s1.heap.objs.size hr (Nat.ne_of_lt hlt) kvs H hk ep, fun i h st => by obtain ⟨o', e, _⟩ := st.1; exact ⟨o', e⟩, fun i h h' o nw st e e' hb n _ => held_st hg hD i h h' o nw st e e' hb n trivial, ⟨⟨_, Heap.get?_push_size _ rfl, rfl, rfl⟩, hD _ (Heap.get?_push_of_some _ hg1)⟩, fun b hb => ?_, fun Q h => wpAny_pyIter_dict lo (hD _ hg1) h⟩
  rw [Heap.size_push]
  rcases List.mem_cons.mp hb with rfl | hb
  ·exact Nat.lt_succ_self _
  ·rw [List.mem_singleton.mp hb]; exact Nat.lt_succ_of_lt hlt⟩
structure CompP (d : Df) (c : Cx) (l : Fs) (elt : PySem.Expr) (x x₂ : Str) (scope : Scope) (cl : List (Str × Addr)) (K : KE) (N1 : Led) (ax : Addr) (its : List Value) (k : Nat) (news₀ : Led) (J : Nat → List Value → Prop) : Prop where
 hm : (ax, listOf its.toArray k) ∈ news₀
 hn : ∀ p ∈ news₀, p ∈ N1
 hz : its.length ≤ 1000
 h0 : J 0 []
 turn : ∀ i ys v, its[i]? = some v → J i ys → ∃ t v1 v2, v = .ref t ∧ (t, tupO [v1, v2]) ∈ news₀ ∧ ∀ I oI C oC D m₂ m, NsObj oC m₂ → m₂ x = some v1 → m₂ x₂ = some v2 → Off3 I C D news₀ →
  RawE d.cmp (c.cmp (compEnvC scope cl C (cE d c)) m) l ((I, oI) :: (C, oC) :: (D, lst ys) :: news₀) elt (fun sy N2 => (∀ p ∈ (I, oI) :: (C, oC) :: (D, lst ys) :: news₀, p ∈ N2) ∧ ∀ u, J (i + 1) (ys ++ [sy.val u]))
 fin : ∀ ys D, J its.length ys → K (.v (.ref D)) ((D, lst ys) :: news₀)
theorem Bk.asgP {elt iter : PySem.Expr} {x x₂ y : Str} {px px₂ tp py : Pos} {tk9 : Nat} {scope : Scope} {cl : List (Str × Addr)} {pos spos : Pos} {rest : List Stmt} {R : KS} (h : vc d c 30 (.E l N iter fun sh N1 => ∃ ax its k news₀ J, sh = .v (.ref ax) ∧ CompP d c l elt x x₂ scope cl (fun sh N2 => Bk d c (up y sh l) N2 rest R) N1 ax its k news₀ J))
  (hclos : closureFor scope (cE d c) = pure cl) (hsw : autoParam (swapsWith (.ListComp elt [⟨.Tuple [.Name x px, .Name x₂ px₂] tk9 tp, iter, [], 0⟩] scope pos) (some (.Name y py)) spos.line (cE d c) = pure true) sub_K._auto_1) (hcell : autoParam (∀ y ∈ scope.names, y.2 ≠ .cell) ldc._auto_1) (hkind : autoParam (scope.kind = .function) name_B._auto_3)
  (hnames : autoParam (∀ y ∈ scope.names, y.2 = .local → scope.names.lookup y.1 = some .local) ldc._auto_1) (hx : autoParam (scope.names.lookup x = some .local) name_B._auto_3) (hx₂ : autoParam (scope.names.lookup x₂ = some .local) name_B._auto_3) (hxx : autoParam (x ≠ x₂) ldc._auto_1) (hy : autoParam ((cE d c).kindOf y = some .local) name_B._auto_3) (ht : autoParam (d.top = true) name_B._auto_3) (hs : autoParam (∀ x, foldedSetIterable iter (cE d c) x = pure x) wpAny_For._auto_3) :
  Bk d c l N (.Assign [.Name y py] (.ListComp elt [⟨.Tuple [.Name x px, .Name x₂ px₂] tk9 tp, iter, [], 0⟩] scope pos) spos :: rest) R := fun s hS => by
 refine wpAny_execs_cons ?_
 rw [exec_Assign_Name_used _ _ _ _ hsw]
 refine wpAny_bind (wpAny_standAt (wpAny_bind ?_))
 show wpAny _ _ (do let _ ← comprehension (.ListComp elt [⟨.Tuple [.Name x px, .Name x₂ px₂] tk9 tp, iter, [], 0⟩] scope pos) scope (cE d c) _ (newList []) false (eval iter (cE d c)) (some (assign (.Name y py) (cE d c)))) _ _ s
 refine wpAny_bind (wpAny_mono (wpAny_comprehension_free (use := some (assign (.Name y py) (cE d c))) (Q := fun _ s' => (match Flow.next with | .next => wpAny (model PR d.w) (cA d c) (execs rest (cE d c)) (PB d c R) EF s' | f => PB d c R f s')) rfl hs hclos hkind hnames (vc_sound 30 _ h s _ hS ?_)) (fun _ s' hq => wpAny_pure (wpAny_pure hq)) fun _ _ e => e)
 rintro _ sh N1 s1 ⟨t, rfl⟩ ⟨ax, its, k, news₀, J, rfl, f⟩ hS1
 have hl : s1.heap.IsList ax its.toArray := News.isList hS1.news (f.hn _ f.hm)
 have hlt : ax < s1.heap.objs.size := Heap.lt_size (hS1.news _ (f.hn _ f.hm)).1
 obtain ⟨ok, ⟨hp, tk, rfl⟩, ⟨m, F, H⟩, hN⟩ := hS1
 refine wpAny_pyIter_list hl ?_
 refine block_P (S := SrcAt c.g ax its.toArray) (Walks.list rfl hp.objs.size ax (Nat.ne_of_lt hlt) its.toArray) (by rw [sizeLine_eq, List.size_toArray]; have := f.hz; lia) (fun i h st => by obtain ⟨o, e, _⟩ := st.1; exact ⟨o, e⟩) list_st hcell hkind hx hx₂ hxx rfl (fun i h st => ⟨_, _, st.1⟩) ⟨⟨_, Heap.get?_push_size _ rfl, rfl, rfl⟩, hl.push _⟩ (fun b hb => ?_)
  (F.keeps fun _ _ e => Heap.get?_push_of_some _ e) (News.grown (fun p hp => hN p (f.hn p hp)) fun _ _ e => Heap.get?_push_of_some _ e) (Nat.ne_of_lt F.ns.lt) (next_is_new F) (fun p hp => Nat.ne_of_lt (Heap.lt_size (hN p (f.hn p hp)).1)) (.inr ⟨_, f.hm, rfl, _, rfl⟩)
  (Fin := fun ys nw => nw = news₀ ∧ J its.length ys) (comp_invP (s := { c.s₀ with heap := _, toks := tk }) its.toArray.size (fun i ys nw => nw = news₀ ∧ J i ys) (fun ys news h => ⟨h.1, by simpa using h.2⟩) ?_ _ 0 [] news₀ (Nat.zero_add _) ⟨rfl, f.h0⟩) ?_
 ·rw [Heap.size_push]
  rcases List.mem_cons.mp hb with rfl | hb
  ·exact Nat.lt_succ_self _
  ·rw [List.mem_singleton.mp hb]; exact Nat.lt_succ_of_lt hlt
 ·rintro i ys news v hi ⟨rfl, hj⟩ hv
  obtain ⟨t, v1, v2, rfl, hm, ht⟩ := f.turn i ys v (by simpa using hv) hj
  refine ⟨t, _, v1, v2, 0, rfl, hm, rfl, rfl, fun I oI C oC D m₂ h9 tk9 E' hC hx1 hx2 F' N' off ne => ?_⟩
  refine wpAny_mono (ht I oI C oC D m₂ m hC hx1 hx2 off { c.s₀ with heap := h9, toks := tk9 } _ ⟨⟨ok.B, ok.X, ok.T, ok.hd, ok.hu, ok.hk⟩, ⟨_, _, rfl⟩, ⟨m, F', H.has, fun _ => rfl⟩, N'⟩ ?_) (fun _ _ h => h) fun _ _ e => (show False from e).elim
  rintro v9 sy N2 s2 ⟨u, rfl⟩ ⟨hs, hJ⟩ ⟨_, ⟨h2, tk2, rfl⟩, ⟨m9, F2, H2⟩, hN2⟩
  obtain rfl : m9 = m := H2.fix rfl
  exact CompEnd.intro F2 hN2 news hs off (.inr ⟨_, f.hm, rfl, _, rfl⟩) ⟨rfl, hJ u⟩
 ·rintro D C h tk m' ys _ F' N' o1 hn hC₀ hD₀ hCL hDL hCD offC ⟨rfl, hj⟩
  show wpAny _ _ (assign (.Name y py) (cE d c) (.ref D)) _ _ _
  have hL : (cE d c).locals = c.L := by rw [cE_top ht]
  refine wpAny_assign_Name (wpAny_storeName_local hy (by rw [hL]; exact F'.ns) (fun h₂ hn₂ hs₂ => ?_) (by rw [cE_top ht]; show (d.scope.kind == .class || (d.scope.kind == .module && c.L != mainGlobals)) = false; rw [ok.hk]; rfl))
  rw [hL] at hn₂ hs₂
  have F₂ := F'.set hn₂ hs₂
  have N₂ := N'.set hs₂
  refine ⟨m', hn.sameBut hs₂ hCL, fun h'' hs'' => ?_⟩
  refine f.fin ys D hj _ ⟨ok, ⟨_, _, rfl⟩, ⟨_, F₂.change hs'' hCL hC₀, H.has.up ⟨0, rfl⟩, fun h => by rw [ht] at h; cases h⟩, fun p hp => ?_⟩
  refine ⟨hs''.extBut _ _ ?_ (N₂ p hp).1, (N₂ p hp).2⟩
  rcases List.mem_cons.mp hp with rfl | hp
  ·exact Ne.symm hCD
  ·exact offC p hp
end
section
variable {d : Df} {c : Cx} {l : Fs} {N : Led} {K : KE} {KT KF : Led → Prop} {A : TA} {T : TS} {root : Int} {t : Tr}
theorem CallB.sortedT {r : Addr} {ts : List (Addr × List Nat)} {e : Nat} (hm : (r, listOf (ts.map fun p => Value.ref p.1).toArray e) ∈ N) (ht : TupIn N ts) (hz : ts.length ≤ 3)
  (h : ∀ D e (ts' : List (Addr × List Nat)), ts'.Perm ts → (ts'.Pairwise fun x y => ltK y.2 x.2 = false) → K (.v (.ref D)) ((D, listOf (ts'.map fun p => Value.ref p.1).toArray e) :: N)) : CallB d c l "sorted" [] [.v (.ref r)] N K := fun us s Q hS hQ => by
 obtain ⟨ok, ⟨hp, tk, rfl⟩, ⟨m, F, H⟩, hN⟩ := hS
 exact sorted_tups F hN (News.isList hN hm) ht hz fun h' D e ts' tk' F' N' h1 h2 _ => hQ.use (sh := .v (.ref D)) 0 (h D e ts' h1 h2) ⟨ok, ⟨_, _, rfl⟩, ⟨m, F', H⟩, N'⟩
theorem CallB.sortedS {r : Addr} {vs : List Value} {xs : List (List Nat)} {e : Nat} {N' : Led} (hm : (r, listOf vs.toArray e) ∈ N) (hi : StrsAre vs (xs.map bitS)) (hz : vs.length < 64) (hs : ∀ p ∈ N', p ∈ N)
  (h : ∀ D e vs (zs : List (List Nat)), StrsAre vs (zs.map bitS) → zs.Perm xs → (zs.Pairwise fun a b => ¬ sN b < sN a) → K (.v (.ref D)) ((D, listOf vs.toArray e) :: N')) : CallB d c l "sorted" [] [.v (.ref r)] N K := fun us s Q hS hQ => by
 obtain ⟨ok, ⟨hp, tk, rfl⟩, ⟨m, F, H⟩, hN⟩ := hS
 refine sorted_N_str F hN (News.isList hN hm) hi hz fun h' vs' ss' e' F' N9 h1 h2 h3 => ?_
 obtain ⟨zs, hp, rfl⟩ := strs_back h2
 exact hQ.use (sh := .v (.ref _)) 0 (h _ e' vs' zs h1 hp (sorted_back h3)) ⟨ok, ⟨_, _, rfl⟩, ⟨m, F', H⟩, fun p hp => (List.mem_cons.mp hp).elim (fun e => e ▸ N9 _ (.head _)) fun hp => N9 p (.tail _ (hs p hp))⟩
theorem CallM.next_key {a b c' e : UInt8} {ds : List UInt8} (hT : TrO d.w c N A T root) (hlv : 26 ≤ d.lv) (ht : Rep T t) (hz : t.size ≤ 1000) (hd : ds.length = A.c) (hr : root = t.id) (hen : (entKeys A.c (pre t)).length ≤ 60)
  (h : ∀ v (bs : List (List UInt8)), bs.Perm (entKeys A.c (pre t)) → bs.Pairwise KLe → OptK v (bs[nextI T (8 * A.c) A.c (kl a b c' e) (dw ds) t bs]?) → K (Sh.of v) N) : CallM d c l 549 A.self [.b (a :: b :: c' :: e :: ds).toArray] N K :=
 CallM.read hT (fun us rt D R => sp_next_key d.w A T D t rt a b c' e ds (us 0) root R ht hz hd hr hen) hlv fun v O' ⟨bs, h1, h2, h3⟩ _ => ⟨Sh.of v, N, Sh.of_val v, h v bs h1 h2 h3, fun _ h => List.mem_append_right _ h⟩
theorem CallM.value {a b c' e : UInt8} {ds : List UInt8} (hT : TrO d.w c N A T root) (hlv : 24 ≤ d.lv) (ht : Rep T t) (hz : t.size ≤ 1000) (hd : ds.length = A.c) (hr : root = t.id) (hsv : ∀ s, peerT T (8 * A.c) (kl a b c' e) (dw ds) t = some s → ∃ p, getV T s = some p)
  (h : ∀ v, OptB v (valT T (8 * A.c) (kl a b c' e) (dw ds) t) → K (Sh.of v) N) : CallM d c l 222 A.self [.b (a :: b :: c' :: e :: ds).toArray] N K :=
 CallM.read hT (fun us rt D R => sp_value d.w A T D t rt a b c' e ds (us 0) root R ht hz hd hr hsv) hlv fun v O' ⟨e1, h1⟩ _ => ⟨Sh.of v, N, Sh.of_val v, h v h1, by rw [e1]; exact fun _ h => h⟩
theorem CallM.lookup {a b c' e : UInt8} {ds : List UInt8} (hT : TrO d.w c N A T root) (hlv : 22 ≤ d.lv) (ht : Rep T t) (hz : t.size ≤ 1000) (hd : ds.length = A.c) (hr : root = t.id)
  (h : ∀ v, OptI v (lookT (8 * A.c) (kl a b c' e) (dw ds) t) → K (Sh.of v) N) : CallM d c l 438 A.self [.b (a :: b :: c' :: e :: ds).toArray] N K :=
 CallM.read hT (fun us rt D R => sp_lookup d.w A T D t rt a b c' e ds (us 0) root R ht hz hd hr) hlv fun v O' ⟨e1, h1⟩ _ => ⟨Sh.of v, N, Sh.of_val v, h v h1, by rw [e1]; exact fun _ h => h⟩
theorem CallS.told_key {n : Nat} {bs : List Nat} (hlv : 6 ≤ d.lv) (hc : 1 ≤ n ∧ n ≤ 8) (hb : bs.length ≤ 8 * n) (hbit : ∀ x ∈ bs, x < 2) (h : K (.b (toldB n bs).toArray) N) : CallS d c l 623 [.s (bitS bs), .i n] N K :=
 CallS.of N (fun us => sp_law_told_key d.w n bs (us 0) (us 1) hc hb hbit) ⟨fun _ h => absurd h List.not_mem_nil, fun _ h => absurd h List.not_mem_nil, fun _ h => absurd h List.not_mem_nil, fun _ h => h, fun _ h => absurd h List.not_mem_nil, hlv⟩
  fun v O' ⟨u, ev⟩ _ => ⟨.b _, N, ⟨u, ev⟩, h, fun _ h => List.mem_append_right _ h⟩
theorem CmpS.neKeys {r1 r2 : Addr} {vs us : List Value} {bs : List (List UInt8)} {n1 n2 : Nat} {N' : Led} (hlv : 8 ≤ d.lv) (h1 : (r1, listOf vs.toArray n1) ∈ N) (k1 : KeysAre vs bs) (h2 : (r2, listOf us.toArray n2) ∈ N) (k2 : KeysAre us bs) (hs : ∀ p ∈ N', p ∈ N) (h : KF N') : CmpS d c l .NotEq (.v (.ref r1)) (.v (.ref r2)) N KT KF := fun t u s Q hS hQ =>
 keys_ne (News.isList hS.news h1) (News.isList hS.news h2) k1 k2 (by have := hS.ok.hu; show c.un < cLine; lia) (hQ _ N' s (fun e => nomatch e) (fun _ => h) (hS.sub (fun _ h => h) hs))
theorem CmpS.eqNil {r1 r2 : Addr} {vs : List Value} {n1 n2 : Nat} (hlv : 8 ≤ d.lv) (h1 : (r1, listOf vs.toArray n1) ∈ N) (h2 : (r2, listOf #[] n2) ∈ N) (hT : vs = [] → KT N) (hF : vs ≠ [] → KF N) : CmpS d c l .Eq (.v (.ref r1)) (.v (.ref r2)) N KT KF := fun t u s Q hS hQ =>
 nil_eq (News.isList hS.news h1) ⟨_, (hS.news _ h2).1, rfl, _, rfl⟩ (by have := hS.ok.hu; show c.un < cLine; lia) (hQ _ N s (fun e => hT (of_decide_eq_true e)) (fun e => hF (of_decide_eq_false e)) hS)
theorem CmpS.neNone (h : KF N) : CmpS d c l .NotEq (.v .none) (.v .none) N KT KF := fun t u s Q hS hQ => EqNone.ne_none_none (hQ _ N s (fun e => nomatch e) (fun _ => h) hS)
theorem CmpS.eqNone (h : KT N) : CmpS d c l .Eq (.v .none) (.v .none) N KT KF := fun t u s Q hS hQ => EqNone.eq_none_none (hQ _ N s (fun _ => h) (fun e => nomatch e) hS)
theorem ItemS.last {ie : PySem.Expr} {r : Addr} {its0 : List Value} {x : Value} {n : Nat} (hm : (r, listOf (its0 ++ [x]).toArray n) ∈ N) (h : K (Sh.of x) N) (hs : autoParam (∀ u, subscripted ie false (.ref r) (.int (-1) u) = operate [.ref r, .int (-1) u] (getItem (.ref r) (.int (-1) u))) kim_tup._auto_3) : ItemS d c l ie (.v (.ref r)) (.i (-1)) N K := fun t u s Q hS hQ =>
 last_item (its0 := its0) (x := x) (News.isList hS.news hm) (hQ _ _ _ _ (Sh.of_val x) h hS) (hs u)
theorem mStarts {y : Str} : MethV d c y "startswith" "str.startswith" := ⟨fun t pl s Q h => by apply GM.startswith; exact h⟩
theorem CmpS.neBool {a b : Bool} (h : condP (a != b) (KT N) (KF N)) : CmpS d c l .NotEq (.v (.bool a)) (.v (.bool b)) N KT KF := fun t u s Q hS hQ => ne_bool (hQ _ N s (fun e => h.elim (fun _ k => k) fun e2 _ => by rw [e] at e2; cases e2) (fun e => h.elim (fun e2 _ => by rw [e] at e2; cases e2) fun _ k => k) hS)
theorem CallB.starts {x y : List Nat} (h : K (.v (.bool (decide (y <+: x)))) N) (t : Tok) : CallB d c l "str.startswith" [.str (bitS x) t] [.s (bitS y)] N K := fun us s Q hS hQ => SC.startswith (by rw [starts_iff]; exact hQ.use (sh := .v (.bool _)) 0 h hS)
theorem CmpS.held_notin {H : HT} {ho : Obj} {hr : Addr} {k : List Nat} (h : OAt c N hr ho) (hH : HD d.w ho H) (lo : (hr == sysModules) = false) (hT : k ∉ H.map (·.1) → KT N) (hF : k ∈ H.map (·.1) → KF N) : CmpS d c l .NotIn (.s (bitS k)) (.v (.ref hr)) N KT KF := fun t u s Q hS hQ =>
 Mine.held_notin (k := some k) (h.at hS) hH lo (okIs_str k t) (hQ _ N _ (fun e => hT (of_decide_eq_false (by simpa [inH] using e))) (fun e => hF (of_decide_eq_true (by simpa [inH] using e))) (hS.tok _))
theorem CmpS.held_notinN {H : HT} {ho : Obj} {hr : Addr} (h : OAt c N hr ho) (hH : HD d.w ho H) (lo : (hr == sysModules) = false) (hT : KT N) : CmpS d c l .NotIn (.v .none) (.v (.ref hr)) N KT KF := fun t u s Q hS hQ =>
 Mine.held_notin (k := none) (h.at hS) hH lo rfl (hQ _ N _ (fun _ => hT) (fun e => nomatch e) (hS.tok _))
theorem ItemS.held {H : HT} {ho : Obj} {hr : Addr} {ie : PySem.Expr} {k : List Nat} {b : UInt8} (h : OAt c N hr ho) (hH : HD d.w ho H) (hn : (H.map (·.1)).Nodup) (hb : (k, b) ∈ H) (hK : K (.b #[b]) N)
  (hs : autoParam (∀ t, subscripted ie false (.ref hr) (.str (bitS k) t) = operate [.ref hr, .str (bitS k) t] (getItem (.ref hr) (.str (bitS k) t))) kim_tup._auto_3) : ItemS d c l ie (.v (.ref hr)) (.s (bitS k)) N K := fun t u s Q hS hQ =>
 held_item (h.at hS) hH rfl hn hb (fun t' k => hQ.use (sh := .b #[b]) t' hK (hS.tok _)) (hs u) (fun _ => rfl)
end
inductive RowJ (c1 c2 : Addr × Obj) (H : HT) (i : Nat) : List Value → Led → Prop
 | mk (ts : List (Addr × List Nat)) (tl : Led) (hts : ts.map (·.2) = (H.map (·.1)).take i) (ht : TupIn tl ts) : RowJ c1 c2 H i (ts.map fun p => Value.ref p.1) (c1 :: c2 :: tl)
theorem fn623 (w : World) : FnAt w "_law_told_key" 623 := by
 exact ⟨by k_is, by k_is⟩
theorem meLaw (w : World) : MethAt w 585 "next_key" 549 ∧ MethAt w 585 "value" 222 ∧ MethAt w 585 "lookup" 438 := by
 exact ⟨⟨by k_is, by k_is, by k_is, by k_is⟩, ⟨by k_is, by k_is, by k_is, by k_is⟩, by k_is, by k_is, by k_is, by k_is⟩
section
noncomputable def St_sp_law_known_right (w : World) (A : TA) (T : TS) (D : Led) (t : Tr) (rt : Tok) (a b c e : UInt8) (d : List UInt8) (kt tm : Tok) (root : Int) (H : HT) (j : Nat) (hr : Addr) (ho : Obj) (k : Option (List Nat)) (tv : Value) : Prop := ∀ (R : TR w A T D) (hd : d.length = A.c) (I : LI (8 * A.c) T root t H j) (hj : j ≤ 100) (hm : H.length ≤ A.most) (hm3 : A.most ≤ 3) (hkT : keyT A.c (kl a b c e) d = k) (hk : okIs k tv = true) (hH : HD w ho H) (lo : (hr == sysModules) = false), Sp w 647 40 [.ref A.self, .bytes (a :: b :: c :: e :: d).toArray kt, tv, .ref hr, .int (A.c : Int) tm] ((hr, ho) :: TP A root rt D) [] (fun v _ => v = .bool true)
theorem sp_law_known_right : A20 St_sp_law_known_right := by
 refine' ey20 (ne_P ne_W (ne_P ne_TA (ne_P ne_TS (ne_P ne_L (ne_P ne_Tr (ne_P ne_N (ne_P ne_U (ne_P ne_U (ne_P ne_U (ne_P ne_U (ne_P ne_L (ne_P ne_N (ne_P ne_N (ne_P ne_I (ne_P ne_L (ne_P ne_N (ne_P ne_N (ne_P ne_Ob (ne_P ne_O ne_V))))))))))))))))))) ((?f9 : A20 St_sp_law_known_right) _ _ _ _ _ _ _ _ _ _ _ _ _ _ _ _ _ _ _ _)
 intro w A T D t rt a b c e d kt tm root H j hr ho k tv R hd I hj hm hm3 hkT hk hH lo
 have hc := R.cb
 have hdw : dw d < 2 ^ (8 * A.c) := dw_lt hd
 have hroot := I.inv.rid
 have ht := I.inv.rep
 have hz : t.size ≤ 1000 := Nat.le_trans I.size (by lia)
 refine' Sp.of_WC [("held", .v (.ref hr)), ("key", .b (a :: b :: c :: e :: d).toArray), ("trie", .v (.ref A.self))] ?ho ?hcd ?hbind ?hkind ?hnd ?hco ?hgen ?hk ?hl ?_
 case ho => k_is
 case hcd => k_is
 case hbind => (intro s9 hX9; first | exact BindsTo.of_eq rfl | exact binds_K hX9 rfl (by k_is) rfl rfl rfl)
 case hkind => exact rfl
 case hnd => decide
 case hco => exact rfl
 case hgen => exact rfl
 case hk => exact rfl
 case hl => exact fun _ => ⟨⟨0, rfl⟩, ⟨_, rfl⟩, ⟨0, rfl⟩, trivial⟩
 refine' entC_all ((?f8 : ∀ c R' cells, EntC _ _ _ _ _ _ _ c R' cells) _ _ _); intro q R' cells hcl Y l0 hP hR
 obtain ⟨o1, o2, rfl, h1, h2⟩ := CellsAre.two Y
 have h1 : o1.data = .cell (some (.int (A.c : Int) tm)) := h1
 have h2 : o2.data = .cell (some tv) := h2
 have hck1 : q.cl.lookup (Str.ofString "count") = some (q.L + 1 + 1) := by rw [hcl]; rfl
 have hck2 : q.cl.lookup (Str.ofString "text") = some (q.L + 1) := by rw [hcl]; rfl
 have hT : ∀ N, TrO w q N A T root := fun N => ⟨rt, D, R, fun p hp => .inr (hP p (.tail _ hp))⟩
 have hg : q.g.get? hr = some ho := hP _ (.head _)
 clear Y l0 hP
 refine Bk.asgP (cl := [(Str.ofString "count", q.L + 1 + 1)]) (RawE.bfn (bSorted w) (RawE.comp (S := fun _ => True) (cl := []) H.length (fun i sh => ∃ p, H[i]? = some p ∧ sh = .s (bitS p.1)) (RowJ (q.L + 1 + 1, o1) (q.L + 1, o2) H) [(q.L + 1 + 1, o1), (q.L + 1, o2)] ⟨SrcC.held lo hg hH (by lia), fun _ h => h, .mk [] [] rfl (fun p hp => nomatch hp), ?_, ?_⟩ rfl)) ?_
 ·rintro I9 oI C9 oC D9 m₂ i ys news sh u m hi ⟨p, hp, rfl⟩ hJ hC hx off ne
  cases hJ with
  | mk ts tl hts htl =>
  have hbl := (LI.bits I p (List.mem_of_getElem? hp)).1
  refine vc_sound 30 (.E _ _ _ _) (RawE.bfn (bLen w) (RawE.cvar (.tail _ (.head _)) hC hx (CallB.lenS (k := p.1.length) (by rw [bitS_len]) (by rw [bitS_len]; lia) ?_)))
  refine RawE.cvar (.tail _ (.head _)) hC hx fun us r hlt u2 => ⟨(q.L + 1 + 1, o1) :: (q.L + 1, o2) :: (r, _) :: tl, sub_tup, off_tup off ⟨?_, ?_, ?_⟩, trivial, ?_⟩
  ·exact Nat.ne_of_gt (hlt _ (.head _))
  ·exact Nat.ne_of_gt (hlt _ (.tail _ (.head _)))
  ·exact Nat.ne_of_gt (hlt _ (.tail _ (.tail _ (.head _))))
  ·have := RowJ.mk (c1 := (q.L + 1 + 1, o1)) (c2 := (q.L + 1, o2)) (H := H) (i := i + 1) (ts ++ [(r, p.1)]) ((r, tup2 (.int (p.1.length : Int) (us 0)) (.str (bitS p.1) (us 1))) :: tl) (by
    rw [List.map_append, hts, List.take_add_one, List.getElem?_map, hp]
    rfl) htl.snoc
   rw [List.map_append] at this
   exact this
 ·rintro ys news D9 hJ _
  cases hJ with
  | mk ts tl hts htl =>
  rw [List.take_of_length_le (by rw [List.length_map]; exact Nat.le_refl _)] at hts
  have hts3 : ts.length ≤ 3 := by
   have := congrArg List.length hts
   rw [List.length_map, List.length_map] at this
   lia
  refine CallB.sortedT (.head _) (((htl.cons _).cons _).cons _) hts3 fun D2 e2 ts' hp' hpw => ⟨D2, _, e2, _, fun i ys => KeysAre ys ((ts'.take i).map fun q => toldB A.c q.2), rfl, .head _, fun _ h => h, ?_, .nil, ?_, ?_⟩
  ·rw [List.length_map, hp'.length_eq]; lia
  ·intro i ys v hv hys
   obtain ⟨y, hy, rfl⟩ : ∃ y, ts'[i]? = some y ∧ Value.ref y.1 = v := by simpa using hv
   have hym := List.mem_of_getElem? hy
   obtain ⟨t1, t2, hm9⟩ := htl y (hp'.mem_iff.mp hym)
   have hb9 : y.2.length ≤ 8 * A.c ∧ ∀ z ∈ y.2, z < 2 := by
    have h9 : y.2 ∈ H.map (·.1) := by rw [← hts]; exact List.mem_map.mpr ⟨y, hp'.mem_iff.mp hym, rfl⟩
    obtain ⟨z, hz1, hz2⟩ := List.mem_map.mp h9
    rw [← hz2]; exact LI.bits I z hz1
   refine ⟨y.1, _, _, rfl, .tail _ (.tail _ (.tail _ (.tail _ hm9))), fun I9 oI C9 oC D9 m₂ m hC hx hx2 off => ?_⟩
   refine RawE.fn (fn623 w) (RawE.cvar (sh := .s (bitS y.2)) (t := t2) (.tail _ (.head _)) hC hx2 (RawE.cell (sh := .i (A.c : Int)) (a := q.L + 1 + 1) rfl (.tail _ (.tail _ (.tail _ (.tail _ (.tail _ (.head _)))))) h1 (CallS.told_key (lb9 rfl) hc hb9.1 hb9.2 ⟨fun _ h => h, fun u => ?_⟩)))
   rw [List.take_add_one, hy, List.map_append]
   exact hys.snoc _ _
  ·intro ys D3 hys
   rw [List.length_map, List.take_length, show ts'.map (fun q => toldB A.c q.2) = (ts'.map (·.2)).map (toldB A.c) by rw [List.map_map]; rfl] at hys
   refine Bk.sub (N' := [(D3, LCg.lst ys), (q.L + 1 + 1, o1), (q.L + 1, o2)]) ?_ (fun _ h => h) (sub_cons (.head _) (sub_cons (.tail _ (.tail _ (.tail _ (.head _)))) (sub_cons (.tail _ (.tail _ (.tail _ (.tail _ (.head _))))) sub_nil)))
   have hkp : (ts'.map (·.2)).Perm (H.map (·.1)) := by rw [← hts]; exact hp'.map _
   have hkw : (ts'.map (·.2)).Pairwise fun x y => ltK y x = false := by rw [List.pairwise_map]; exact hpw
   generalize ts'.map (·.2) = ks at hys hkp hkw
   clear hp' hpw hts htl hts3
   have hrow : ∀ bs : List (List UInt8), bs.Perm (entKeys A.c (pre t)) → bs.Pairwise KLe → bs = ks.map (toldB A.c) := fun bs h1 h2 => row_eq hc.2 I hkp hkw h1 h2
   have hen : (entKeys A.c (pre t)).length ≤ 60 := by
    have := (LI.keysP I).length_eq
    rw [List.length_map, List.length_map] at this
    lia
   have hkl3 : ks.length ≤ 3 := by have := hkp.length_eq; rw [List.length_map] at this; lia
   refine Bk.asgI (α := Unit) (va := fun _ => (spotOf A.c H ks k : Nat)) (nf := fun _ => [(D3, LCg.lst ys), (q.L + 1 + 1, o1), (q.L + 1, o2)]) (I := fun _ => True) ?_ ?_
   ·cases k with
    | none =>
     obtain rfl := okIs_none hk
     exact RawE.cell (sh := .v .none) (t := 0) (a := q.L + 1) hck2 (.tail _ (.tail _ (.head _))) h2 (CmpS.held_inN (.inr hg) hH lo ⟨(), 0, rfl, rfl, trivial, rfl⟩)
    | some kk =>
     obtain ⟨tkk, rfl⟩ := okIs_some hk
     have hkb := keyT_some hkT
     refine RawE.cell (sh := .s (bitS kk)) (t := tkk) (a := q.L + 1) hck2 (.tail _ (.tail _ (.head _))) h2 (CmpS.held_in (.inr hg) hH lo (fun hin => ?_) fun hin => ?_)
     ·have hmem9 : toldB A.c kk ∈ ks.map (toldB A.c) := List.mem_map_of_mem (hkp.mem_iff.mpr hin)
      refine RawE.bmeth (And.intro rfl (And.intro (MethB.index (.head _)) (RawE.fn (fn623 w) (RawE.cell (sh := .s (bitS kk)) (t := tkk) (a := q.L + 1) hck2 (.tail _ (.tail _ (.head _))) h2 (RawE.cell (sh := .i (A.c : Int)) (a := q.L + 1 + 1) hck1 (.tail _ (.head _)) h1 (CallS.told_key (lb9 rfl) hc hkb.1 hkb.2.1 (CallB.indexK (.head _) hys hmem9 (by rw [List.length_map]; lia) ⟨(), _, rfl, ?_, trivial, rfl⟩)))))))
      show _ = ((spotOf A.c H ks (some kk) : Nat) : Int)
      unfold spotOf
      dsimp only
      rw [if_pos hin]; rfl
     ·refine ⟨(), 0, rfl, ?_, trivial, rfl⟩
      show _ = ((spotOf A.c H ks (some kk) : Nat) : Int)
      unfold spotOf
      dsimp only
      rw [if_neg hin]; rfl
   ·intro _ _
    have hsb : spotOf A.c H ks k ≤ ks.length := spotOf_le hkp
    have hnext : ∀ bs : List (List UInt8), bs = ks.map (toldB A.c) → nextI T (8 * A.c) A.c (kl a b c e) (dw d) t bs = spotOf A.c H ks k := by
     intro bs hbs
     rw [hbs]
     exact spot_eq I hdw hkT
    generalize spotOf A.c H ks k = spot at hsb hnext
    refine Bk.ifJ [("held", .v (.ref hr)), ("key", .b (a :: b :: c :: e :: d).toArray), ("trie", .v (.ref A.self))] (fun N => ∀ p ∈ [(q.L + 1 + 1, o1), (q.L + 1, o2)], p ∈ N) (vc_sound 30 (.T _ _ _ _ _) (RawE.mself (x := "keys") (T := T) (A := A) (root := root) (meKeys w).2.2 (And.intro rfl (And.intro (hT _) (CallM.keys (hT _) (lb9 rfl) ht hz hroot hen ?_))))) ?_
    ·rintro v O' ⟨r, its, n, bs, hks, hperm, hpw⟩
     rw [hrow bs hperm hpw] at hks
     refine CmpS.neKeys (lb9 rfl) (.head _) hks (.tail _ (.head _)) hys (N' := [(D3, LCg.lst ys), (q.L + 1 + 1, o1), (q.L + 1, o2)]) (fun _ h => .tail _ h) ?_
     refine RawE.mself (x := "next_key") (T := T) (A := A) (root := root) (meLaw w).1 (And.intro rfl (And.intro (hT _) (CallM.next_key (hT _) (lb9 rfl) ht hz hd hroot hen fun v bs hp9 hw9 ho9 => ?_)))
     rw [hnext _ (hrow bs hp9 hw9), hrow bs hp9 hw9] at ho9
     have hlen : (ys.length : Int) = (ks.length : Int) := by rw [hys.length, List.length_map]
     rcases Nat.lt_or_ge spot ks.length with hsl | hsl
     ·obtain ⟨tv9, rfl⟩ := optk_lt hsl ho9
      refine RawE.bfn (bLen w) (CallB.lenO (.inl (.head _)) hlen (by lia) (And.intro (fun h => ?_) fun h => absurd h (by lia)))
      exact ItemS.key (.head _) hys (by lia) (by rw [List.length_map]; lia) (by rw [List.length_map]; lia) (CmpS.neB (Bk.nil ⟨rfl, subF_of ⟨rfl, rfl, rfl, trivial⟩, fun _ h => .tail _ h⟩))
     ·obtain rfl := optk_ge hsl ho9
      refine RawE.bfn (bLen w) (CallB.lenO (.inl (.head _)) hlen (by lia) (And.intro (fun h => absurd h (by lia)) fun h => ?_))
      exact CmpS.neNone (Bk.nil ⟨rfl, subF_of ⟨rfl, rfl, rfl, trivial⟩, fun _ h => .tail _ h⟩)
    ·intro N9 hN9
     refine Bk.sub (N' := [(q.L + 1 + 1, o1), (q.L + 1, o2)]) ?_ (fun _ h => h) hN9
     clear hys hrow hnext hsb hkl3 hkp hkw
     have m1 : (q.L + 1 + 1, o1) ∈ [(q.L + 1 + 1, o1), (q.L + 1, o2)] := .head _
     have m2 : (q.L + 1, o2) ∈ [(q.L + 1 + 1, o1), (q.L + 1, o2)] := .tail _ (.head _)
     refine Bk.ifJ [("held", .v (.ref hr)), ("key", .b (a :: b :: c :: e :: d).toArray), ("trie", .v (.ref A.self))] (fun N => N = [(q.L + 1 + 1, o1), (q.L + 1, o2)]) (vc_sound 30 (.T _ _ _ _ _) (RawE.mself (x := "value") (T := T) (A := A) (root := root) (meLaw w).2.1 (And.intro rfl (And.intro (hT _) ?_)))) ?_
     ·cases k with
      | none =>
       obtain rfl := okIs_none hk
       obtain ⟨_, hpe, hval, _⟩ := far_none (T := T) (t := t) (w := dw d) (keyT_none hkT)
       refine CallM.value (hT _) (lb9 rfl) ht hz hd hroot (fun s h => by rw [hpe] at h; cases h) fun v hv => ?_
       rw [hval] at hv
       obtain rfl := hv
       refine RawE.cell (sh := .v .none) (t := 0) (a := q.L + 1) hck2 m2 h2 (CmpS.held_inN (.inr hg) hH lo (CmpS.neNone ?_))
       refine RawE.mself (x := "peer") (T := T) (A := A) (root := root) (meVal w) (And.intro rfl (And.intro (hT _) (CallM.peer (hT _) (lb9 rfl) ht hroot hz hd (fun _ => ?_) fun i h => by rw [hpe] at h; cases h)))
       exact RawE.cell (sh := .v .none) (t := 0) (a := q.L + 1) hck2 m2 h2 (CmpS.held_notinN (.inr hg) hH lo (CmpS.neBool (Bk.nil ⟨rfl, subF_of ⟨rfl, rfl, rfl, trivial⟩, rfl⟩)))
      | some kk =>
       obtain ⟨tkk, rfl⟩ := okIs_some hk
       obtain ⟨hbl, hbb, hlen, hkk⟩ := keyT_some hkT
       subst hkk
       by_cases hin : kb (8 * A.c) (dw d) (kl a b c e) ∈ H.map (·.1)
       ·obtain ⟨⟨k9, b9⟩, hb9, hkk⟩ := List.mem_map.mp hin
        dsimp only at hkk
        subst hkk
        obtain ⟨s9, x9, hpe, he9, hv9⟩ := I.peer_in hdw hlen hb9
        have hval := val_in I hdw hlen hb9
        refine CallM.value (hT _) (lb9 rfl) ht hz hd hroot (fun s h => by rw [hpe] at h; cases h; exact ⟨_, hv9⟩) fun v hv => ?_
        rw [hval] at hv
        obtain ⟨tv9, rfl⟩ := hv
        refine RawE.cell (sh := .s (bitS (kb (8 * A.c) (dw d) (kl a b c e)))) (t := tkk) (a := q.L + 1) hck2 m2 h2 (CmpS.held_in (.inr hg) hH lo (fun _ => ?_) fun h => absurd hin h)
        refine RawE.cell (sh := .s (bitS (kb (8 * A.c) (dw d) (kl a b c e)))) (t := tkk) (a := q.L + 1) hck2 m2 h2 (ItemS.held (.inr hg) hH I.hn hb9 (CmpS.neB ?_))
        refine RawE.mself (x := "peer") (T := T) (A := A) (root := root) (meVal w) (And.intro rfl (And.intro (hT _) (CallM.peer (hT _) (lb9 rfl) ht hroot hz hd (fun h => by rw [hpe] at h; cases h) fun i _ => ?_)))
        exact RawE.cell (sh := .s (bitS (kb (8 * A.c) (dw d) (kl a b c e)))) (t := tkk) (a := q.L + 1) hck2 m2 h2 (CmpS.held_notin (.inr hg) hH lo (fun h => absurd hin h) fun _ => CmpS.neBool (Bk.nil ⟨rfl, subF_of ⟨rfl, rfl, rfl, trivial⟩, rfl⟩))
       ·have hpe := I.peer_out hdw hlen hin
        have hval := val_out I hdw hlen hin
        refine CallM.value (hT _) (lb9 rfl) ht hz hd hroot (fun s h => by rw [hpe] at h; cases h) fun v hv => ?_
        rw [hval] at hv
        obtain rfl := hv
        refine RawE.cell (sh := .s (bitS (kb (8 * A.c) (dw d) (kl a b c e)))) (t := tkk) (a := q.L + 1) hck2 m2 h2 (CmpS.held_in (.inr hg) hH lo (fun h => absurd h hin) fun _ => CmpS.neNone ?_)
        refine RawE.mself (x := "peer") (T := T) (A := A) (root := root) (meVal w) (And.intro rfl (And.intro (hT _) (CallM.peer (hT _) (lb9 rfl) ht hroot hz hd (fun _ => ?_) fun i h => by rw [hpe] at h; cases h)))
        exact RawE.cell (sh := .s (bitS (kb (8 * A.c) (dw d) (kl a b c e)))) (t := tkk) (a := q.L + 1) hck2 m2 h2 (CmpS.held_notin (.inr hg) hH lo (fun _ => CmpS.neBool (Bk.nil ⟨rfl, subF_of ⟨rfl, rfl, rfl, trivial⟩, rfl⟩)) fun h => absurd h hin)
     ·rintro _ rfl
      cases k with
      | none =>
       obtain rfl := okIs_none hk
       obtain ⟨_, hpe, _, hlk⟩ := far_none (T := T) (t := t) (w := dw d) (keyT_none hkT)
       refine vcS_sound 10 (RawE.cell (sh := .v .none) (t := 0) (a := q.L + 1) hck2 m2 h2 fun us r _ => ?_)
       refine RawE.mself (x := "lookup") (T := T) (A := A) (root := root) (meLaw w).2.2 (And.intro rfl (And.intro (hT _) (CallM.lookup (hT _) (lb9 rfl) ht hz hd hroot fun v hv => ?_)))
       rw [hlk] at hv
       obtain rfl := hv
       exact fun us2 r2 _ => CmpS.eqNil (vs := []) (lb9 rfl) (.tail _ (.head _)) (.head _) (fun _ => CmpS.eqNone fun _ => hR _ _ rfl) fun h => absurd rfl h
      | some kk =>
       obtain ⟨tkk, rfl⟩ := okIs_some hk
       obtain ⟨hbl, hbb, hlen, hkk⟩ := keyT_some hkT
       subst hkk
       refine vcS_sound 10 (RawE.cell (sh := .s (bitS (kb (8 * A.c) (dw d) (kl a b c e)))) (t := tkk) (a := q.L + 1) hck2 m2 h2 (RawE.bfn (bSorted w) (RawE.compT (cl := [(Str.ofString "text", q.L + 1)]) ⟨fun _ => True, H.length, fun i sh => ∃ p, H[i]? = some p ∧ sh = .s (bitS p.1), fun i ys nw => nw = [(q.L + 1 + 1, o1), (q.L + 1, o2)] ∧ StrsAre ys ((((H.map (·.1)).take i).filter fun k => decide (k <+: kb (8 * A.c) (dw d) (kl a b c e))).map bitS), [(q.L + 1 + 1, o1), (q.L + 1, o2)], SrcC.held lo hg hH (by lia), fun _ h => h, ⟨rfl, .nil⟩, ?_, ?_⟩ ?_)))
       ·rintro I9 oI C9 oC D9 m₂ i ys news sh u m hi ⟨p, hp, rfl⟩ ⟨rfl, hS9⟩ hC hx off ne
        have hst : ((H.map (·.1)).take (i + 1)).filter (fun k => decide (k <+: kb (8 * A.c) (dw d) (kl a b c e))) = ((H.map (·.1)).take i).filter (fun k => decide (k <+: kb (8 * A.c) (dw d) (kl a b c e))) ++ if p.1 <+: kb (8 * A.c) (dw d) (kl a b c e) then [p.1] else [] := by
         rw [List.take_add_one, List.getElem?_map, hp, List.filter_append]
         by_cases h9 : p.1 <+: kb (8 * A.c) (dw d) (kl a b c e) <;> simp [h9]
        refine RawT.bool (RawE.smeth (y := bitS (kb (8 * A.c) (dw d) (kl a b c e))) mStarts (RawE.cell (sh := .s (bitS (kb (8 * A.c) (dw d) (kl a b c e)))) (t := tkk) (a := q.L + 1) rfl (.tail _ (.tail _ (.tail _ (.tail _ (.head _))))) h2 (And.intro rfl (RawE.cvar (.tail _ (.head _)) hC hx (CallB.starts ⟨_, rfl, fun h9 => ?_, fun h9 => ?_⟩)))))
        ·refine RawE.cvar (.tail _ (.head _)) hC hx fun u2 => ⟨_, fun _ h => h, off, trivial, rfl, ?_⟩
         rw [hst, if_pos (of_decide_eq_true h9), List.map_append]
         exact Mine.StrsAre.snoc9 hS9 _ _
        ·refine ⟨_, fun _ h => h, off, trivial, rfl, ?_⟩
         rw [hst, if_neg (of_decide_eq_false h9), List.append_nil]
         exact hS9
       ·rintro ys news D9 ⟨rfl, hS9⟩ _
        rw [List.take_of_length_le (by rw [List.length_map]; exact Nat.le_refl _)] at hS9
        have hz9 : ys.length < 64 := by
         rw [hS9.length, List.length_map]
         have := List.length_filter_le (fun k => decide (k <+: kb (8 * A.c) (dw d) (kl a b c e))) (H.map (·.1))
         rw [List.length_map] at this
         lia
        refine CallB.sortedS (.head _) hS9 hz9 (fun _ h => .tail _ h) fun D2 e2 zvs zs hz1 hzp hzs => ?_
        refine RawE.mself (x := "lookup") (T := T) (A := A) (root := root) (meLaw w).2.2 (And.intro rfl (And.intro (hT _) (CallM.lookup (hT _) (lb9 rfl) ht hz hd hroot fun v hv => ?_)))
        rcases nil_or_snoc zs with rfl | ⟨so, x9, rfl⟩
        ·cases hz1
         have hlk : lookT (8 * A.c) (kl a b c e) (dw d) t = none := look_nil I hdw hlen fun p hp hpre => by
          have := hzp.mem_iff.mpr (List.mem_filter.mpr ⟨List.mem_map_of_mem hp, decide_eq_true hpre⟩)
          cases this
         rw [hlk] at hv
         obtain rfl := hv
         exact fun us2 r2 _ => CmpS.eqNil (vs := []) (lb9 rfl) (.tail _ (.head _)) (.head _) (fun _ => CmpS.eqNone fun _ => hR _ _ rfl) fun h => absurd rfl h
        ·obtain ⟨s9, hlk, hp9, hbl, hbb⟩ := look_last I hdw hlen hzp hzs
         obtain ⟨a9, b9, e9, f9, d9, htold, hd9, hk9, hw9⟩ := told_split hc.2 hbl hbb
         have hpe : peerT T (8 * A.c) (kl a9 b9 e9 f9) (dw d9) t = some s9 := by rw [hk9, hw9]; exact hp9
         rw [hlk] at hv
         obtain ⟨tv9, rfl⟩ := hv
         rw [List.map_append] at hz1
         obtain ⟨its0, tx9, rfl⟩ := strs_last hz1
         refine fun us2 r2 _ => CmpS.eqNil (lb9 rfl) (.tail _ (.head _)) (.head _) (fun h => by simp at h) fun _ => ?_
         refine RawE.mself (x := "peer") (T := T) (A := A) (root := root) (meVal w) (And.intro rfl (And.intro (hT _) (RawE.fn (fn623 w) (ItemS.last (.tail _ (.head _)) (RawE.cell (sh := .i (A.c : Int)) (a := q.L + 1 + 1) hck1 (.tail _ (.tail _ (.head _))) h1 (CallS.told_key (lb9 rfl) hc hbl hbb ?_))))))
         rw [htold]
         exact CallM.peer (hT _) (lb9 rfl) ht hroot hz hd9 (fun h => by rw [hpe] at h; cases h) fun i h => by
          rw [hpe] at h
          cases h
          exact And.intro (fun _ _ => hR _ _ rfl) fun h => absurd rfl h
       ·show closureFor _ (envX _ _ _ _ _ q.cl) = _
        rw [hcl]; rfl
 ·show closureFor _ (envX _ _ _ _ _ q.cl) = _
  rw [hcl]; rfl
end
noncomputable def mdict (kd : Nat → Int × Tok) (tk : Nat → Tok) (c most : Nat) (vd : Addr) : List DictEntry :=
 [⟨(kd 0).1, .str "kind" (kd 0).2, .str "trie" (tk 0)⟩, ⟨(kd 1).1, .str "number" (kd 1).2, .int 9 (tk 1)⟩, ⟨(kd 2).1, .str "key_width" (kd 2).2, .int ((4 + c : Nat) : Int) (tk 2)⟩,
 ⟨(kd 3).1, .str "value_width" (kd 3).2, .int 1 (tk 3)⟩, ⟨(kd 4).1, .str "most" (kd 4).2, .int (most : Int) (tk 4)⟩, ⟨(kd 5).1, .str "values" (kd 5).2, .ref vd⟩]
inductive MapR (w : World) (x dx : Addr) (c most : Nat) : Value → Led → Prop
 | mk (vd : Addr) (o : Obj) (kd : Nat → Int × Tok) (tk : Nat → Tok) (hd : o.IsDictOf (ik w) []) (lo : (vd == sysModules) = false) (n1 : @Ne Nat vd dx) (n2 : @Ne Nat vd x) : MapR w x dx c most .none [(vd, o), (x, instObj 585 dx), (dx, dictOf (mdict kd tk c most vd) 6)]
theorem mapR_mk {w : World} {x dx vd : Addr} {o : Obj} {c most : Nat} {h0 h1 h2 h3 h4 h5 : Int} {k0 k1 k2 k3 k4 k5 t0 t1 t2 t3 t4 : Tok} (hd : o.IsDictOf (ik w) []) (lo : (vd == sysModules) = false) (n1 : @Ne Nat vd dx) (n2 : @Ne Nat vd x) :
  MapR w x dx c most .none [(vd, o), (x, instObj 585 dx), (dx, dictOf [⟨h0, .str "kind" k0, .str "trie" t0⟩, ⟨h1, .str "number" k1, .int 9 t1⟩, ⟨h2, .str "key_width" k2, .int ((4 + c : Nat) : Int) t2⟩, ⟨h3, .str "value_width" k3, .int 1 t3⟩, ⟨h4, .str "most" k4, .int (most : Int) t4⟩, ⟨h5, .str "values" k5, .ref vd⟩] 6)] :=
 .mk vd o (fun j => match j with | 0 => (h0, k0) | 1 => (h1, k1) | 2 => (h2, k2) | 3 => (h3, k3) | 4 => (h4, k4) | _ => (h5, k5)) (fun j => match j with | 0 => t0 | 1 => t1 | 2 => t2 | 3 => t3 | _ => t4) hd lo n1 n2
theorem set585 (w : World) : SetAt w 585 (Str.ofString "kind") ∧ SetAt w 585 (Str.ofString "number") ∧ SetAt w 585 (Str.ofString "key_width") ∧ SetAt w 585 (Str.ofString "value_width") ∧ SetAt w 585 (Str.ofString "most") ∧ SetAt w 585 (Str.ofString "values") ∧
  SetAt w 585 (Str.ofString "nodes") ∧ SetAt w 585 (Str.ofString "root") ∧ SetAt w 585 (Str.ofString "free_nodes") ∧ SetAt w 585 (Str.ofString "used") := by
 refine ⟨?_, ?_, ?_, ?_, ?_, ?_, ?_, ?_, ?_, ?_⟩ <;> exact ⟨by k_is, by k_is, by k_is, by k_is⟩
theorem U2i {x dx : Addr} (ne : x ≠ dx) {o : Obj} {es : List DictEntry} {n : Nat} (es' : List DictEntry) (n' : Nat) : Upd dx (dictOf es n) (dictOf es' n') [(x, o), (dx, dictOf es n)] [(x, o), (dx, dictOf es' n')] := Upd.tail ne (Upd.head fun _ h => absurd h List.not_mem_nil)
noncomputable def St_sp_Map_init (w : World) (x dx : Addr) (c most : Nat) (t1 t2 t3 t4 t5 : Tok) : Prop := ∀ (hlt : @LT.lt Nat _ dx x) (hc1 : 1 ≤ c) (hc8 : c ≤ 8) (hm1 : 1 ≤ most) (hm3 : most ≤ 3), Sp w 122 6 [.ref x, .str "trie" t1, .int 9 t2, .int ((4 + c : Nat) : Int) t3, .int 1 t4, .int (most : Int) t5] [] [(x, instObj 585 dx), (dx, dictOf [] 0)] (MapR w x dx c most)
theorem sp_Map_init : A10 St_sp_Map_init := by
 refine' ey10 (ne_P ne_W (ne_P ne_N (ne_P ne_N (ne_P ne_N (ne_P ne_N (ne_P ne_N (ne_P ne_N (ne_P ne_N (ne_P ne_N ne_N))))))))) ((?f9 : A10 St_sp_Map_init) _ _ _ _ _ _ _ _ _ _)
 intro w x dx c most t1 t2 t3 t4 t5 hlt hc1 hc8 hm1 hm3
 refine' Sp.of_W [("most", .i (most : Int)), ("value_width", .i 1), ("key_width", .i ((4 + c : Nat) : Int)), ("number", .i 9), ("kind", .s "trie"), ("self", .v (.ref x))] ?ho ?hcd ?hbind ?hloc ?hco ?hgen ?hk ?hcell ?hl ?_
 walk_at "ds prem0"
 case hl => exact rfl
 refine' ent_all ((?f8 : ∀ c R', Ent _ _ _ _ _ _ c R') _ _); intro k R' l0 hP hR
 have ne : x ≠ dx := fun e => Nat.lt_irrefl _ (e ▸ hlt)
 refine vcS_sound 20 (RawE.fn (fnM w).2.2 (CallS.pureK (sh := .v .none) (lb9 rfl) (fun ts => sp_check_widths w c most (ts 0) (ts 1) (ts 2) (ts 3) hc1 hc8 hm1 hm3) ?_))
 refine RawT.chain (And.intro (fun _ => RawE.glob (sh := .i 64) (glM w).2.2.2.2.2.2.2 ⟨293, rfl⟩ (And.intro (fun _ => ?_) fun h => absurd h (by decide))) fun h => absurd h (by decide))
 refine SetAS.inst (set585 w).1 (fun es n => [(x, instObj 585 dx), (dx, dictOf es n)]) (.head _) (U2i ne) fun h0 k0 u0 => ?_
 refine SetAS.inst (set585 w).2.1 (fun es n => [(x, instObj 585 dx), (dx, dictOf es n)]) (.head _) (U2i ne) fun h1 k1 u1 => ?_
 refine SetAS.inst (set585 w).2.2.1 (fun es n => [(x, instObj 585 dx), (dx, dictOf es n)]) (.head _) (U2i ne) fun h2 k2 u2 => ?_
 refine SetAS.inst (set585 w).2.2.2.1 (fun es n => [(x, instObj 585 dx), (dx, dictOf es n)]) (.head _) (U2i ne) fun h3 k3 u3 => ?_
 refine SetAS.inst (set585 w).2.2.2.2.1 (fun es n => [(x, instObj 585 dx), (dx, dictOf es n)]) (.head _) (U2i ne) fun h4 k4 u4 => ?_
 refine RawE.dictI fun vd o hl lo hd => ?_
 have n2 := Nat.ne_of_gt (hl _ (.head _))
 have n3 := Nat.ne_of_gt (hl _ (.tail _ (.head _)))
 refine SetAS.inst (set585 w).2.2.2.2.2.1 (fun es n => [(vd, o), (x, instObj 585 dx), (dx, dictOf es n)]) (.tail _ (.head _)) (fun es' n' => Upd.tail n3 (U2i ne es' n')) fun h5 k5 u5 => ?_
 exact hR _ _ (mapR_mk hd lo n3 n2)
inductive TrieR (w : World) (c most : Nat) : Value → Led → Prop
 | mk (A : TA) (rt : Tok) (D : Led) (hc : A.c = c) (hm : A.most = most) (R : TR w A ⟨[], [], [], []⟩ D) : TrieR w c most (.ref A.self) (TP A (-1) rt D)
theorem trie_mk {w : World} {x dx vd nd fr ud : Addr} {ov on ou : Obj} {c most e : Nat} {kd : Nat → Int × Tok} {tk : Nat → Tok} {h6 h7 h8 h9 : Int} {k6 k7 k8 k9 rt : Tok} (hc1 : 1 ≤ c) (hc8 : c ≤ 8)
  (dv : ov.IsDictOf (ik w) []) (dn : on.IsDictOf (ik w) []) (du : ou.IsDictOf (ik w) []) (lv : (vd == sysModules) = false) (ln : (nd == sysModules) = false) (lu : (ud == sysModules) = false)
  (q1 : @LT.lt Nat _ dx x) (q2 : @Ne Nat vd dx) (q3 : @Ne Nat vd x) (q4 : @LT.lt Nat _ vd nd ∧ @LT.lt Nat _ x nd ∧ @LT.lt Nat _ dx nd) (q5 : @LT.lt Nat _ nd fr ∧ @LT.lt Nat _ vd fr ∧ @LT.lt Nat _ x fr ∧ @LT.lt Nat _ dx fr)
  (q6 : @LT.lt Nat _ fr ud ∧ @LT.lt Nat _ nd ud ∧ @LT.lt Nat _ vd ud ∧ @LT.lt Nat _ x ud ∧ @LT.lt Nat _ dx ud) :
  ∃ O', (∀ p ∈ O', p ∈ [(ud, ou), (fr, listOf #[] e), (nd, on), (vd, ov), (x, instObj 585 dx), (dx, dictOf [⟨(kd 0).1, .str "kind" (kd 0).2, .str "trie" (tk 0)⟩, ⟨(kd 1).1, .str "number" (kd 1).2, .int 9 (tk 1)⟩, ⟨(kd 2).1, .str "key_width" (kd 2).2, .int ((4 + c : Nat) : Int) (tk 2)⟩,
   ⟨(kd 3).1, .str "value_width" (kd 3).2, .int 1 (tk 3)⟩, ⟨(kd 4).1, .str "most" (kd 4).2, .int (most : Int) (tk 4)⟩, ⟨(kd 5).1, .str "values" (kd 5).2, .ref vd⟩, ⟨h6, .str "nodes" k6, .ref nd⟩, ⟨h7, .str "root" k7, .int (-1) rt⟩, ⟨h8, .str "free_nodes" k8, .ref fr⟩, ⟨h9, .str "used" k9, .ref ud⟩] 10)]) ∧ TrieR w c most (.ref x) O' := by
 let A : TA := ⟨x, dx, vd, nd, fr, ud, fun j => match j with | 6 => (h6, k6) | 7 => (h7, k7) | 8 => (h8, k8) | 9 => (h9, k9) | j => kd j, tk, c, most⟩
 refine ⟨TP A (-1) rt [(ud, ou), (fr, listOf #[] e), (nd, on), (vd, ov)], fun p hp => ?_, .mk A rt _ rfl rfl ?_⟩
 ·rcases List.mem_cons.mp hp with rfl | hp
  ·exact .tail _ (.tail _ (.tail _ (.tail _ (.head _))))
  rcases List.mem_cons.mp hp with rfl | hp
  ·exact .tail _ (.tail _ (.tail _ (.tail _ (.tail _ (.head _)))))
  ·simp only [List.mem_cons, List.not_mem_nil, or_false] at hp ⊢
   rcases hp with rfl | rfl | rfl | rfl <;> simp
 ·refine ⟨⟨on, by simp [A], dn⟩, ⟨ou, by simp [A], du⟩, ⟨ov, by simp [A], dv⟩, ⟨[], e, by simp [A], IntsAre.nil⟩, fun p hp => absurd hp List.not_mem_nil, fun p hp => absurd hp List.not_mem_nil, ?_, ⟨ln, lu, lv⟩, fun p hp => absurd hp List.not_mem_nil, ⟨hc1, hc8⟩, by simp⟩
  show ([x, dx, vd, nd, fr, ud] ++ [] ++ []).Nodup
  have e : ∀ {a b : Addr}, @Ne Nat a b → a ≠ b := fun h => h
  simp only [List.append_nil, List.nodup_cons, List.mem_cons, List.not_mem_nil, or_false, not_or, not_false_eq_true, List.nodup_nil, and_true]
  refine ⟨⟨e ?_, e ?_, e ?_, e ?_, e ?_⟩, ⟨e ?_, e ?_, e ?_, e ?_⟩, ⟨e ?_, e ?_, e ?_⟩, ⟨e ?_, e ?_⟩, e ?_⟩ <;> lia
noncomputable def ClsAt (w : World) (C : Addr) (x : Str) (a : Addr) : Prop := specialIn (K9 w.params) (.ref C) "__getattribute__" = some (some (.builtin "type.__getattribute__")) ∧ keepIn (K9 w.params) (.ref a) = true ∧
 ∃ mc, typeIn (K9 w.params) (.ref C) = some mc ∧ readsIn (K9 w.params) C mc = true ∧ findCls (K9 w.params) (.ref C) mc x = some (.val (.ref a))
theorem cls293 (w : World) : ClsAt w 293 (Str.ofString "__init__") 122 ∧ GlAt w "Map" (.ref 293) := by
 exact ⟨⟨by k_is, by k_is, _, by k_is, by k_is, by k_is⟩, by show nsIn _ _ _ = _; k_is⟩
theorem cls585 (w : World) : makesIn (K9 w.params) 585 = true ∧ findIn (K9 w.params) (.ref 585) "__init__" = some (some (.ref 402)) ∧ isFn (K9 w.params) (.ref 402) = true := by
 exact ⟨by k_is, by k_is, by k_is⟩
section
variable {d : Df} {c : Cx} {l : Fs} {N : Led} {K : KE}
theorem RawE.cmeth {x : Str} {o e : PySem.Expr} {apos pos : Pos} {C a : Addr} {es : List PySem.Expr} (hf : ClsAt d.w C x a)
  (h : vc d c 30 (.E l N o fun sh N1 => sh = .v (.ref C) ∧ vc d c 30 (.L l N1 (e :: es) fun shs N2 => CallS d c l a shs N2 K)))
  (hp : autoParam ((e :: es).all plainE = true) name_B._auto_3) (hplain : autoParam ((backTo pos (starEach es (cE d c))).any (·.1) = false) name_B._auto_3) {pl : Sem Bool}
  (hc : autoParam (eval (.Call (.Attribute o x apos) (e :: es) [] pos) (cE d c) = (do
   let ov ← eval o (cE d c)
   standAt apos.atName
   let (f, first) ← holding [ov] (getMethod ov x pl)
   callWith pos f first (backTo pos (starEach (e :: es) (cE d c))) [])) name_B._auto_3) :
  RawE d c l N (.Call (.Attribute o x apos) (e :: es) [] pos) K := fun s Q hS hQ => by
 refine MethodCall_ (pl := pl) (vc_sound 30 _ h s _ hS ?_) hc
 rintro v _ N1 s₁ ⟨t, rfl⟩ ⟨rfl, h2⟩ h₁
 obtain ⟨h1, h3, mc, h4, h5, h6⟩ := hf
 obtain ⟨m, F, H⟩ := h₁.fr
 have he1 : plainE e = true := by rw [List.all_cons, Bool.and_eq_true] at hp; exact hp.1
 refine method_of_cls F h₁.ok.X h1 (cls_val F h₁.ok.X h4 h5 h6 rfl ?_)
 refine callWith_K h₁.ok.X h3 ?_ (starEach_plain he1) hplain
 exact vc_sound 30 _ h2 pos 0 _ _ (h₁.tok _) fun ts shs N2 s2 k hS2 => ⟨hS2.kin, k ts s2 Q hS2 hQ⟩
theorem CallS.mapInit {x dx : Addr} {cc most : Nat} (hlv : 6 ≤ d.lv) (hlt : @LT.lt Nat _ dx x) (hc1 : 1 ≤ cc) (hc8 : cc ≤ 8) (hm1 : 1 ≤ most) (hm3 : most ≤ 3) (h : ∀ v O', MapR d.w x dx cc most v O' → K (.v v) O') :
  CallS d c l 122 [.v (.ref x), .s "trie", .i 9, .i ((4 + cc : Nat) : Int), .i 1, .i (most : Int)] [(x, instObj 585 dx), (dx, dictOf [] 0)] K :=
 CallS.of [] (fun ts => sp_Map_init d.w x dx cc most (ts 1) (ts 2) (ts 3) (ts 4) (ts 5) hlt hc1 hc8 hm1 hm3) ⟨fun _ h => absurd h List.not_mem_nil, fun _ h => h, fun _ _ _ h => absurd h List.not_mem_nil, fun _ h => absurd h List.not_mem_nil, fun _ _ _ h => absurd h List.not_mem_nil, hlv⟩
  fun v O' r _ => ⟨.v v, O', ⟨0, rfl⟩, h v O' r, fun _ h => List.mem_append_left _ h⟩
theorem SetAS.post {a : Str} {x v : Sh} {K : Led → Prop} (h : SetAS d c l a x v N fun N1 => ∃ N2, (∀ p ∈ N2, p ∈ N1) ∧ K N2) : SetAS d c l a x v N K := fun t r s Q hS hQ => h t r s Q hS fun N1 s1 ⟨N2, hs, k⟩ hS1 => hQ N2 s1 k (hS1.sub (fun _ h => h) hs)
end
theorem sc_TrieMap (w : World) (x dx : Addr) (hlt : @LT.lt Nat _ dx x) (c most : Nat) (t2 t3 t4 t5 : Tok) (hc1 : 1 ≤ c) (hc8 : c ≤ 8) (hm1 : 1 ≤ most) (hm3 : most ≤ 3) :
  SpC w 402 8 [.ref x, .int 9 t2, .int ((4 + c : Nat) : Int) t3, .int 1 t4, .int (most : Int) t5] [] [(x, instObj 585 dx), (dx, dictOf [] 0)] (fun v O' => v = .none ∧ TrieR w c most (.ref x) O') := by
 refine' SpC.of_W [("most", .i (most : Int)), ("value_width", .i 1), ("key_width", .i ((4 + c : Nat) : Int)), ("number", .i 9), ("self", .v (.ref x))] ?ho ?hcd ?hbind ?hloc ?hco ?hgen ?hk ?hcell ?hl ?_
 walk_at "ds prem0"
 case hl => exact rfl
 refine' ent_all ((?f8 : ∀ c R', Ent _ _ _ _ _ _ c R') _ _); intro k R' l0 hP hR
 have ne : x ≠ dx := fun e => Nat.lt_irrefl _ (e ▸ hlt)
 refine vcS_sound 10 (RawE.cmeth (cls293 w).1 (RawE.glob (sh := .v (.ref 293)) (cls293 w).2 ⟨0, rfl⟩ (And.intro rfl (CallS.mapInit (lb9 rfl) hlt hc1 hc8 hm1 hm3 fun v O' r => ?_))))
 cases r with
 | mk vd ov kd tk hdv lov q2 q3 =>
  refine RawE.dictI fun nd on hln lon hdn => ?_
  refine SetAS.inst (set585 w).2.2.2.2.2.2.1 (fun es n => [(nd, on), (vd, ov), (x, instObj 585 dx), (dx, dictOf es n)]) (.tail _ (.tail _ (.head _))) (fun es' n' => Upd.tail (Nat.ne_of_gt (hln _ (.tail _ (.tail _ (.head _))))) (Upd.tail q2 (U2i ne es' n'))) fun h6 k6 u6 => ?_
  refine RawE.NODE ?_
  refine SetAS.inst (set585 w).2.2.2.2.2.2.2.1 (fun es n => [(nd, on), (vd, ov), (x, instObj 585 dx), (dx, dictOf es n)]) (.tail _ (.tail _ (.head _))) (fun es' n' => Upd.tail (Nat.ne_of_gt (hln _ (.tail _ (.tail _ (.head _))))) (Upd.tail q2 (U2i ne es' n'))) fun h7 k7 u7 => ?_
  intro ts fr hlf
  refine SetAS.inst (set585 w).2.2.2.2.2.2.2.2.1 (fun es n => [(fr, listOf #[] 0), (nd, on), (vd, ov), (x, instObj 585 dx), (dx, dictOf es n)]) (.tail _ (.tail _ (.tail _ (.head _)))) (fun es' n' => Upd.tail (Nat.ne_of_gt (hlf _ (.tail _ (.tail _ (.tail _ (.head _)))))) (Upd.tail (Nat.ne_of_gt (hln _ (.tail _ (.tail _ (.head _))))) (Upd.tail q2 (U2i ne es' n')))) fun h8 k8 u8 => ?_
  refine RawE.dictI fun ud ou hlu lou hdu => ?_
  refine SetAS.post (SetAS.inst (set585 w).2.2.2.2.2.2.2.2.2 (fun es n => [(ud, ou), (fr, listOf #[] 0), (nd, on), (vd, ov), (x, instObj 585 dx), (dx, dictOf es n)]) (.tail _ (.tail _ (.tail _ (.tail _ (.head _))))) (fun es' n' => Upd.tail (Nat.ne_of_gt (hlu _ (.tail _ (.tail _ (.tail _ (.tail _ (.head _))))))) (Upd.tail (Nat.ne_of_gt (hlf _ (.tail _ (.tail _ (.tail _ (.head _)))))) (Upd.tail (Nat.ne_of_gt (hln _ (.tail _ (.tail _ (.head _))))) (Upd.tail q2 (U2i ne es' n'))))) fun h9 k9 u9 => ?_)
  obtain ⟨O', hs, r⟩ := trie_mk (w := w) (e := 0) (kd := kd) (tk := tk) (h6 := h6) (h7 := h7) (h8 := h8) (h9 := h9) (k6 := k6) (k7 := k7) (k8 := k8) (k9 := k9) (rt := u7) (most := most) hc1 hc8 hdv hdn hdu lov lon lou hlt q2 q3
   ⟨hln _ (.head _), hln _ (.tail _ (.head _)), hln _ (.tail _ (.tail _ (.head _)))⟩ ⟨hlf _ (.head _), hlf _ (.tail _ (.head _)), hlf _ (.tail _ (.tail _ (.head _))), hlf _ (.tail _ (.tail _ (.tail _ (.head _))))⟩
   ⟨hlu _ (.head _), hlu _ (.tail _ (.head _)), hlu _ (.tail _ (.tail _ (.head _))), hlu _ (.tail _ (.tail _ (.tail _ (.head _)))), hlu _ (.tail _ (.tail _ (.tail _ (.tail _ (.head _)))))⟩
  exact ⟨O', hs, hR _ _ ⟨rfl, r⟩⟩
theorem sp_TrieMap (w : World) (c most : Nat) (t2 t3 t4 t5 : Tok) (hc1 : 1 ≤ c) (hc8 : c ≤ 8) (hm1 : 1 ≤ most) (hm3 : most ≤ 3) :
  Sp w 585 9 [.int 9 t2, .int ((4 + c : Nat) : Int) t3, .int 1 t4, .int (most : Int) t5] [] [] (TrieR w c most) :=
 Sp.of_class (cls585 w).1 (cls585 w).2.1 (cls585 w).2.2 fun x dx hlt => sc_TrieMap w x dx hlt c most t2 t3 t4 t5 hc1 hc8 hm1 hm3
section
variable {prog : Program} {w : World} {A : Around} {E : Value → Shared → Prop} {s : Shared} {env : Env} {M : Model}
theorem wpG_onRaise {α : Type} {m : Sem α} {f : Value → Sem Unit} {Q : α → Shared → Prop} (h : wpG M A m Q (fun _ _ => False) s) : wpG M A (m.onRaise f) Q E s := fun Γ p hΓ h1 h2 => by
 rw [Sem.wp_onRaise]
 exact Sem.wp_mono _ Γ _ (fun _ _ _ h' => h') (fun _ _ _ h' => h'.elim) p s (h Γ p hΓ h1 h2)
theorem codeG_loop' {c : Code} {R : Result → Shared → Prop} (hq : c.quiet = true) (hd : decC c = false) (I : Nat → Shared → Prop)
  (turn : ∀ n s, I n s → wpG M (A.under c) (M.den c)
   (fun fin s' => match fin with
    | .done f => R (.ok f) s'
    | .again c' => (c' = c ∧ ∃ m, m < n ∧ I m s') ∨ (c'.quiet = true ∧ codeG M A c' R s')) (fun e s' => R (.error e) s') s)
  (n : Nat) (h : I n s) : codeG M A c R s := by
 induction n using Nat.strongRecOn generalizing s with
 | ind n ih =>
  refine codeG_of_tree hd (wpG_mono (turn n s h) (fun fin s' hf => ?_) fun _ _ h' => h')
  cases fin with
  | done f => exact hf
  | again c' =>
   rcases hf with ⟨rfl, m, hm, hI⟩ | hf
   ·exact ⟨hq, ih m hm hI⟩
   ·exact hf
theorem codeG_forLoop {R : Result → Shared → Prop} {target : PySem.Expr} {it : Value} {body : List Stmt} (I : Nat → Shared → Prop)
  (turn : ∀ n s, I n s → wpAny (model prog w) A (pyNext it) (fun r s₁ => match r with
   | none => R (.ok .next) s₁
   | some v => wpAny (model prog w) A (assign target env v) (fun _ s₂ => wpG (model prog w) A (execs body env) (fun f s₃ => match f with
     | .next | .cont => ∃ m, m < n ∧ I m s₃
     | .brk => R (.ok .next) s₃
     | .ret v => R (.ok (.ret v)) s₃) (fun _ _ => False) s₂) (fun _ _ => False) s₁) (fun _ _ => False) s)
  (n : Nat) (h : I n s) (ht : autoParam (∀ v, letOwnedTupleGo target it v = pure ()) wpAny_For._auto_3) : codeG (model prog w) A (.forLoop target it body [] env) R s := by
 refine codeG_loop' rfl rfl I (fun n s hI => ?_) n h
 show wpG _ _ ((forTurn target it body [] env).onRaise (fun x => do noteFrame x env; theTreesLotGoes x)) _ _ s
 refine wpG_onRaise ?_
 simp only [forTurn]
 refine wpG_step (wpAny_standAt (wpG_step (wpAny_onRaise (wpAny_mono (turn n s hI) (fun r s₁ h₁ => ?_) fun _ _ h' => h'.elim))))
 cases r with
 | none => exact wpG_pure (.inr ⟨rfl, codeG_of (codeAny_block (wpAny_execs_nil h₁))⟩)
 | some v =>
  refine wpG_step (wpAny_of_eq (ht v) ?_)
  refine wpG_step (wpAny_mono h₁ (fun _ s₂ h₂ => wpG_bind (wpG_mono h₂ (fun f s₃ h₃ => ?_) fun _ _ h' => h')) fun _ _ h' => h')
  cases f with
  | next => exact wpG_pure (.inl ⟨rfl, h₃⟩)
  | cont => exact wpG_pure (.inl ⟨rfl, h₃⟩)
  | brk => exact wpG_pure h₃
  | ret v => exact wpG_pure h₃
theorem wpG_runOwn {c : Code} {Q : Flow → Shared → Prop}
  (hc : codeG M A c (fun r s' => match r with | .ok f => Q f s' | .error _ => False) s) : wpG M A (runOwn c env none) Q E s := by
 unfold runOwn
 exact wpG_onRaise (wpG_run hc)
theorem wpG_For {target iter : PySem.Expr} {body : List Stmt} {pos : Pos} {Q : Flow → Shared → Prop}
  (h : wpAny M A (eval iter env) (fun x s₁ => wpAny M A (pyIter x) (fun it s₂ =>
   codeG M A (.forLoop target it body [] env) (fun r s' => match r with | .ok f => Q f s' | .error _ => False) s₂) E s₁) E s)
  (hs : autoParam (∀ x, foldedSetIterable iter env x = pure x) wpAny_For._auto_3) :
  wpG M A (exec (.For target iter body [] pos) env) Q E s := by
 rw [exec_For]
 exact wpG_step (wpAny_standAt (wpG_step (wpAny_mono h (fun x s₁ h₁ => wpG_step (wpAny_of_eq (hs x) (wpG_step (wpAny_standAt (wpG_step (wpAny_holding
  (wpAny_mono h₁ (fun it s₂ h₂ => wpG_runOwn h₂) fun _ _ h' => h'))))))) fun _ _ h' => h')))
theorem wpG_isTrue_not {x : PySem.Expr} {pos : Pos} {whole : Sem Value} {Q : Bool → Shared → Prop} (h : wpG M A (isTrue x env (eval x env)) (fun c s' => Q (!c) s') E s) :
  wpG M A (isTrue (.UnaryOp .Not x pos) env whole) Q E s := by
 show wpG M A (do return !(← isTrue x env (eval x env))) Q E s
 exact wpG_bind (wpG_mono h (fun c s' h' => wpG_pure h') fun _ _ x => x)
theorem wpG_isTrue_or {x : PySem.Expr} {rest : List PySem.Expr} {pos : Pos} {whole : Sem Value} {Q : Bool → Shared → Prop}
  (h : wpG M A (isTrue x env (eval x env)) (fun c s' => if c then Q true s' else wpG M A (isTrue (.BoolOp .Or rest pos) env whole) Q E s') E s) :
  wpG M A (isTrue (.BoolOp .Or (x :: rest) pos) env whole) Q E s := by
 show wpG M A (do
  match BoolOp.Or, ← isTrue x env (eval x env) with
  | .And, false => pure false
  | .Or, true => pure true
  | _, _ => allTrue .Or rest env) Q E s
 refine wpG_bind (wpG_mono h (fun c s' h' => ?_) fun _ _ x => x)
 cases c with
 | false => exact h'
 | true => exact wpG_pure h'
theorem wpG_isTrue_plain {e : PySem.Expr} {whole : Sem Value} {Q : Bool → Shared → Prop} (h : wpG M A whole (fun v s₁ => wpAny M A (truthy v) Q E s₁) E s)
  (he : autoParam (isTrue e env whole = (do let v ← whole; standAt e.pos; holding [v] (truthy v))) name_B._auto_3) : wpG M A (isTrue e env whole) Q E s := by
 rw [he]
 exact wpG_bind (wpG_mono h (fun v s₁ h₁ => wpG_step (wpAny_standAt (wpG_holding (wpG_of h₁)))) fun _ _ x => x)
end
section
variable {prog : Program} {w : World} {A : Around} {s : Shared} {env : Env} {body : List Stmt} {Q : Flow → Shared → Prop} {g : Heap} {x : Str}
inductive LoopStG (prog : Program) (w : World) (A : Around) (g : Heap) (env : Env) (x : Str) (px : Pos) (body : List Stmt) (Q : Flow → Shared → Prop) (s : Shared) : Value → Prop
 | mk (α : Type) (I : Addr) (fp : List Addr) (n : Nat) (P : Nat → Value → Prop) (St : Nat → Heap → Prop) (l : Nat → α → List (Str × Sh)) (J : Nat → α → Led → Prop) (a₀ : α) (m₀ : Str → Option Value) (news₀ : Led)
  (W : Walks prog w A I fp [I] n P St) (hIs : ∀ i h, St i h → ∃ o, h.get? I = some o) (hI : g.get? I = none) (hLf : env.locals ∉ fp) (hst : St 0 s.heap) (F₀ : Fr g env.locals s.heap m₀) (N₀ : News g env.locals s.heap news₀) (hn : ∀ p ∈ news₀, p.1 ≠ I) (hm : Has m₀ (l 0 a₀)) (hJ : J 0 a₀ news₀)
  (turn : ∀ i v (a : α) (news own : Led) h tk (τ : Str → Tok) (u : Str → Option Value), i < n → P i v → J i a news → (∀ p ∈ news, p.1 ≠ I) → (∃ o, (I, o) ∈ own) → (∀ p ∈ own, p.1 ∈ fp) →
   Fr g env.locals h (ov (l i a) τ u) → News g env.locals h (news ++ own) →
   wpAny (model prog w) A (assign (.Name x px) env v) (fun _ s' => wpG (model prog w) A (execs body env) (FPost g env.locals I own (l (i + 1)) (J (i + 1)) s Q) (fun _ _ => False) s') (fun _ _ => False) { s with heap := h, toks := tk })
  (done : ∀ (a : α) (news : Led) h tk (τ : Str → Tok) (u : Str → Option Value), J n a news → Fr g env.locals h (ov (l n a) τ u) → News g env.locals h news → Q .next { s with heap := h, toks := tk }) : LoopStG prog w A g env x px body Q s (.ref I)
inductive InvG {α : Type} (g : Heap) (L I : Addr) (n : Nat) (St : Nat → Heap → Prop) (l : Nat → α → List (Str × Sh)) (J : Nat → α → Led → Prop) (s : Shared) : Nat → Shared → Prop
 | mk (h' : Heap) (tk : Nat) (m' : Str → Option Value) (news' : Led) (i : Nat) (a : α) (hst : St i h') (F : Fr g L h' m') (hm : Has m' (l i a)) (N : News g L h' news') (hn : ∀ p ∈ news', p.1 ≠ I) (hJ : J i a news') (hi : i ≤ n) : InvG g L I n St l J s (n + 1 - i) { s with heap := h', toks := tk }
theorem For_stG {px pos : Pos} {iter : PySem.Expr}
  (h : wpAny (model prog w) A (eval iter env) (fun xv s₁ => wpAny (model prog w) A (pyIter xv) (fun it s₂ => LoopStG prog w A g env x px body Q s₂ it) (fun _ _ => False) s₁) (fun _ _ => False) s)
  (hs : autoParam (∀ x, foldedSetIterable iter env x = pure x) wpAny_For._auto_3) :
  wpG (model prog w) A (exec (.For (.Name x px) iter body [] pos) env) Q (fun _ _ => False) s := by
 refine wpG_For (wpAny_mono h (fun xv s₁ h₁ => wpAny_mono h₁ (fun it s h₂ => ?_) fun _ _ e => e) fun _ _ e => e) hs
 obtain ⟨α, I, fp, n, P, St, l, J, a₀, m₀, news₀, W, hIs, hI, hLf, hst, F₀, N₀, hn, hm, hJ, turn, done⟩ := h₂
 have hIL : env.locals ≠ I := fun e => hLf (e ▸ W.sub I (List.mem_singleton.mpr rfl))
 refine codeG_forLoop (InvG g env.locals I n St l J s) ?_ (n + 1) ⟨s.heap, s.toks, m₀, news₀, 0, a₀, hst, F₀, hm, N₀, hn, hJ, Nat.zero_le _⟩
 rintro k s' ⟨h', tk, m', news', i, a, hst', F', hm', N', hn', hJ', hi⟩
 have next : ∀ h₁ : Heap, (∀ b o, b ∉ [I] → h'.get? b = some o → h₁.get? b = some o) → Fr g env.locals h₁ m' ∧ News g env.locals h₁ news' := fun h₁ hk₁ =>
  ⟨⟨F'.ns.at' fun o e => hk₁ _ o (by simpa using hIL) e, fun b o e => hk₁ b o (by intro hb; rw [List.mem_singleton.mp hb, hI] at e; cases e) (F'.keep b o e), F'.above⟩, fun p hp => ⟨hk₁ _ _ (by simpa using hn' p hp) (N' p hp).1, (N' p hp).2⟩⟩
 by_cases hlt : i < n
 ·refine W.item i _ _ _ hlt hst' fun v h₁ tk₁ hP hst₁ hk₁ => ?_
  obtain ⟨F₁, N₁⟩ := next h₁ hk₁
  obtain ⟨τ, FO⟩ := Fr.ov F₁ hm'
  have Nown : News g env.locals h₁ (ownOf g fp h₁) := news_ownOf hLf
  have back : ∀ s₃, FEnd g env.locals I (ownOf g fp h₁) (l (i + 1)) (J (i + 1)) s s₃ → ∃ m, m < n + 1 - i ∧ InvG g env.locals I n St l J s m s₃ := by
   rintro s₃ ⟨a', news₃, h₃, tk₃, m₃, F₃, hm₃, N₃, hne₃, hJ₃⟩
   refine ⟨n + 1 - (i + 1), by lia, h₃, tk₃, m₃, news₃, i + 1, a', ?_, F₃, hm₃, fun p hp => N₃ p (List.mem_append_left _ hp), hne₃, hJ₃, hlt⟩
   refine W.frame _ _ _ hst₁ fun b hb o e => ?_
   cases hn₀ : g.get? b with
   | some o₀ =>
    have : o₀ = o := by have := F₁.keep b o₀ hn₀; rw [e] at this; exact (Option.some.inj this).symm
    exact this ▸ F₃.keep b o₀ hn₀
   | none => exact (N₃ _ (List.mem_append_right _ (mem_ownOf hb hn₀ e))).1
  have hIo : ∃ o, (I, o) ∈ ownOf g fp h₁ := by
   obtain ⟨o, ho⟩ := hIs _ _ hst₁
   exact ⟨o, mem_ownOf (W.sub I (List.mem_singleton.mpr rfl)) hI ho⟩
  have t1 := turn i v a news' (ownOf g fp h₁) h₁ tk₁ τ m' hlt hP hJ' hn' hIo ownOf_sub FO (fun p hp => (List.mem_append.mp hp).elim (fun hp => N₁ p hp) fun hp => Nown p hp)
  refine wpAny_mono t1 (fun _ s₂ h₂ => wpG_mono h₂ (fun f s₃ h₃ => ?_) fun _ _ e => e) fun _ _ e => e
  cases f with
  | ret v => exact h₃
  | brk => exact h₃
  | cont => exact back _ h₃
  | next => exact back _ h₃
 ·have hin : i = n := by lia
  subst hin
  refine W.done _ _ _ hst' fun h₁ tk₁ hk₁ => ?_
  obtain ⟨F₁, N₁⟩ := next h₁ hk₁
  obtain ⟨τ, FO⟩ := Fr.ov F₁ hm'
  exact done a news' h₁ tk₁ τ m' hJ' FO N₁
theorem FPost.heap {α : Type} {L I : Addr} {own : Led} {l : α → List (Str × Sh)} {J : α → Led → Prop} {s s' : Shared} {H : Heap} {f : Flow} (h : FPost g L I own l J s Q f s') : FPost g L I own l J { s with heap := H } Q f s' := by
 have k : FEnd g L I own l J s s' → FEnd g L I own l J { s with heap := H } s' := fun ⟨a', n', h', tk', m', F, hm, N, hn, hJ⟩ => ⟨a', n', h', tk', m', F, hm, N, hn, hJ⟩
 cases f with
 | next => exact k h
 | cont => exact k h
 | brk => exact h
 | ret v => exact h
theorem st_rangeG {α : Type} {px : Pos} {L : Addr} {r : Addr} {a b : Int} {t1 t2 t3 : Tok} (n : Nat) (l : Nat → α → List (Str × Sh)) (J : Nat → α → Led → Prop) (hL : env.locals = L) (hh : A.handled = none) (hr : IsRange s.heap r a b 1 t1 t2 t3) (hab : b = a + n) (ha : 0 ≤ a) (ha2 : a ≤ 1000000) (hnn : n ≤ 1000000) (a₀ : α) {m₀ : Str → Option Value} {news₀ : Led}
  (F₀ : Fr g L s.heap m₀) (N₀ : News g L s.heap news₀) (hm : Has m₀ (l 0 a₀)) (hJ : J 0 a₀ news₀)
  (turn : ∀ I i (k : Int) t (z : α) (news own : Led) h tk (τ : Str → Tok) (u : Str → Option Value), i < n → k = a + i → J i z news → (∀ p ∈ news, p.1 ≠ I) → (∃ o, (I, o) ∈ own) → (∀ p ∈ own, p.1 ∈ [I]) →
   Fr g L h (ov (l i z) τ u) → News g L h (news ++ own) →
   wpAny (model prog w) A (assign (.Name x px) env (.int k t)) (fun _ s' => wpG (model prog w) A (execs body env) (FPost g L I own (l (i + 1)) (J (i + 1)) s Q) (fun _ _ => False) s') (fun _ _ => False) { s with heap := h, toks := tk })
  (done : ∀ (z : α) (news : Led) h tk (τ : Str → Tok) (u : Str → Option Value), J n z news → Fr g L h (ov (l n z) τ u) → News g L h news → Q .next { s with heap := h, toks := tk }) :
  wpAny (model prog w) A (pyIter (.ref r)) (fun it s₂ => LoopStG prog w A g env x px body Q s₂ it) (fun _ _ => False) s := by
 subst hL
 have hsm : Builtin.Range.small a b 1 = true := small_one (by lia) (by lia) (by lia) (by lia)
 have hn : Builtin.Range.rangeSize a b 1 = (n : Int) := by rw [rangeSize_nat]; lia
 refine wpAny_pyIter_range hr hsm ?_
 have W := Walks.range (prog := prog) (w := w) hh s.heap.objs.size a 1 n
 have fn := fresh_ne F₀
 refine ⟨α, _, _, _, _, _, l, J, a₀, m₀, news₀, W, fun i h hs => ⟨_, hs⟩, fn.2, fun hm => fn.1 (List.mem_singleton.mp hm), ?_, F₀.push _, fun p hp => ⟨Heap.get?_push_of_some _ (N₀ p hp).1, (N₀ p hp).2⟩, fun p hp e => ?_, hm, hJ, ?_, ?_⟩
 ·show IsRangeIter _ _ (a + ((0 : Nat) : Int) * 1) ((n : Int) - ((0 : Nat) : Int)) 1
  have e1 : a + ((0 : Nat) : Int) * 1 = a := by simp
  have e2 : (n : Int) - ((0 : Nat) : Int) = Builtin.Range.rangeSize a b 1 := by rw [hn]; simp
  rw [e1, e2]
  exact Heap.get?_push_size _ rfl
 ·exact absurd (Heap.lt_size (N₀ p hp).1) (e ▸ Nat.lt_irrefl _)
 ·rintro i v a' news own h tk τ u hi ⟨t, rfl⟩ hJ₁ h1 h2 h3 F₁ N₁
  exact wpAny_mono (turn _ i (a + (i : Int) * 1) t a' news own h tk τ u hi (by lia) hJ₁ h1 h2 h3 F₁ N₁) (fun _ _ h => wpG_mono h (fun _ _ h => h.heap) fun _ _ e => e) fun _ _ e => e
 ·exact fun a news h tk τ u hJ F N => done a news h tk τ u hJ F N
end
theorem callG_top {prog : Program} {w : World} {R : Result → Shared → Prop} {s : Shared} {name : Str} {params : Arguments} {body : List Stmt} {scope : Scope}
  {dV kV pm cd doc : Value} {a : Addr} {o : Obj} {args : Args} {binds : List (Str × Value)}
  (ho : s.heap.get? a = some o) (hdata : o.data = .func { docDef name params body scope pm cd doc with defaults := dV, kwdefaults := kV }) (hlim : s.heap.NoLimit) (hcd : s.heap.CodeRec cd name)
  (hbind : BindsTo s { docDef name params body scope pm cd doc with defaults := dV, kwdefaults := kV } args binds)
  (hloc : ∀ x ∈ binds, scope.names.lookup x.1 = some .local)
  (h : ∀ h₁, Fr s.heap s.heap.objs.size h₁ (fun x => binds.reverse.lookup x) →
   wpG (model prog w) (ktrTop (callerA.depth + 1) (callerA.units + 3) (some []) name scope s.heap.objs.size a cd [] []) (execs body (envOf name scope s.heap.objs.size a cd))
    (fun f s' => R (.ok (.ret (match f with | .ret v => v | _ => .none))) s') (fun _ _ => False) { s with heap := h₁, toks := s.toks + binds.length })
  (hco : autoParam (scope.isCoroutine = false) name_B._auto_3) (hgen : autoParam (scope.isGenerator = false) name_B._auto_3) (hk : autoParam (scope.kind = .function) name_B._auto_3)
  (hcell : autoParam (∀ x ∈ scope.names, x.2 ≠ .cell) ldc._auto_1) :
  codeG (model prog w) callerA (.call (.ref a) args) R s :=
 codeG_call_def (by decide) ho hdata hlim hcd rfl hbind hcell hloc (fun h₁ hns hkeep => h h₁ ⟨hns, hkeep, Nat.le_refl _⟩) hco hgen hk
theorem decS_bit {x : Nat} (h : x < 2) : decS x = bitS [x] := by
 match x, h with
 | 0, _ => decide +kernel
 | 1, _ => decide +kernel
theorem octS_bits (x : Nat) : octS x = bitS ((List.range 8).map fun i => x / 2 ^ (7 - i) % 2) := by
 unfold octS
 have e : (List.range 8).map (fun i => decS (x / 2 ^ (7 - i) % 2)) = (List.range 8).map (fun i => bitS [x / 2 ^ (7 - i) % 2]) := List.map_congr_left fun i _ => decS_bit (Nat.mod_lt _ (by lia))
 rw [e]
 rfl
theorem dw_snoc (d : List UInt8) (x : UInt8) : dw (d ++ [x]) = dw d * 256 + x.toNat := by unfold dw; rw [List.foldl_append]; rfl
theorem low_bit (w x j : Nat) (h : j < 8) : (w * 256 + x) / 2 ^ j % 2 = x / 2 ^ j % 2 := by
 have e1 : 2 ^ j * 2 ^ (7 - j) = 128 := by rw [← Nat.pow_add, show j + (7 - j) = 7 by lia]
 have e2 : w * 256 + x = x + 2 ^ j * (2 * (w * 2 ^ (7 - j))) := by
  have e3 : 2 ^ j * (2 * (w * 2 ^ (7 - j))) = 2 * (w * (2 ^ j * 2 ^ (7 - j))) := by
   rw [Nat.mul_left_comm, Nat.mul_left_comm (2 ^ j) w]
  rw [e3, e1]; lia
 rw [e2, Nat.add_mul_div_left _ _ (Nat.two_pow_pos j), Nat.add_mul_mod_self_left]
theorem bits_snoc (n w x : Nat) (hx : x < 256) : kb (n + 8) (w * 256 + x) (n + 8) = kb n w n ++ (List.range 8).map fun i => x / 2 ^ (7 - i) % 2 := by
 apply List.ext_getElem?
 intro i
 by_cases h1 : i < n
 ·rw [List.getElem?_append_left (by rw [kb_len]; exact h1), kb_get (by lia), kb_get h1]
  congr 1
  unfold bitTop
  have e : n + 8 - 1 - i = 8 + (n - 1 - i) := by lia
  rw [e, Nat.pow_add, ← Nat.div_div_eq_div_mul]
  have e2 : (w * 256 + x) / 2 ^ 8 = w := by lia
  rw [e2]
 ·by_cases h2 : i < n + 8
  ·rw [List.getElem?_append_right (by rw [kb_len]; lia), kb_len, kb_get h2, List.getElem?_map, List.getElem?_range (by lia)]
   show some _ = some _
   congr 1
   unfold bitTop
   have e : n + 8 - 1 - i = 7 - (i - n) := by lia
   rw [e]
   have h3 : 7 - (i - n) < 8 := by lia
   exact low_bit w x _ h3
  ·rw [List.getElem?_eq_none (by rw [kb_len]; lia), List.getElem?_eq_none (by simp [kb_len]; lia)]
theorem textS_bits (d : List UInt8) : textS d = bitS (kb (8 * d.length) (dw d) (8 * d.length)) := by
 have key : ∀ (n : Nat) (d : List UInt8), d.length = n → textS d = bitS (kb (8 * n) (dw d) (8 * n)) := by
  intro n
  induction n with
  | zero =>
   intro d hd
   obtain rfl := List.length_eq_zero_iff.mp hd
   rfl
  | succ n ih =>
   intro d hd
   rcases nil_or_snoc d with rfl | ⟨d0, x, rfl⟩
   ·cases hd
   ·rw [List.length_append, List.length_singleton] at hd
    have h0 : d0.length = n := by lia
    rw [textS_snoc, ih d0 h0, octS_bits, bitS_append, dw_snoc, show 8 * (n + 1) = 8 * n + 8 by lia, bits_snoc _ _ _ x.toNat_lt]
 exact key _ d rfl
theorem kb_take (n w l : Nat) (h : l ≤ n) : (kb n w n).take l = kb n w l := by
 unfold kb
 rw [← List.map_take, List.take_range, Nat.min_eq_left h]
theorem slice_text {d : List UInt8} {c l : Nat} (hd : d.length = c) (hl : l ≤ 8 * c) : Txt.slice (textS d) none (some (l : Int)) = bitS (kb (8 * c) (dw d) l) := by
 subst hd
 rw [textS_bits]
 have hlen : (bitS (kb (8 * d.length) (dw d) (8 * d.length))).cps.toList.length = 8 * d.length := by simp [bitS, kb_len]
 have h := slice_closes_to (x := bitS (kb (8 * d.length) (dw d) (8 * d.length))) (j := (l : Int)) ⟨by lia, by rw [hlen]; lia⟩
 rw [eq_of_beq h]
 have e : (bitS (kb (8 * d.length) (dw d) (8 * d.length))).cps.toList = (kb (8 * d.length) (dw d) (8 * d.length)).map (48 + ·) := by simp [bitS]
 rw [e]
 simp only [Int.toNat_zero, List.drop_zero, Int.sub_zero, Int.toNat_natCast]
 unfold bitS
 rw [← List.map_take, kb_take _ _ _ hl]
theorem text_ok {d : List UInt8} {c l : Nat} {t : Tok} (hd : d.length = c) (hl : l ≤ 8 * c) : okIs (keyT c l d) (.str (Txt.slice (textS d) none (some (l : Int))) t) = true := by
 rw [slice_text hd hl]
 unfold keyT
 rw [if_pos hl]
 exact okIs_str _ _
theorem text_no {d : List UInt8} {c l : Nat} (hl : ¬ l ≤ 8 * c) : okIs (keyT c l d) .none = true := by
 unfold keyT
 rw [if_neg hl]
 rfl
noncomputable def TurnG {α : Type} (d : Df) (c : Cx) (lf : α → Fs) (nf : α → Led) (J : α → Prop) (I : Addr) (own : Led) (rest : List Stmt) (R : KS) (fl : Flow) (l' : Fs) (N' : Led) : Prop := match fl with
 | .next => ∃ a, J a ∧ (∀ p ∈ lf a, p ∈ l') ∧ (∀ p ∈ nf a ++ own, p ∈ N') ∧ ∀ p ∈ nf a, p.1 ≠ I
 | .cont => ∃ a, J a ∧ (∀ p ∈ lf a, p ∈ l') ∧ (∀ p ∈ nf a ++ own, p ∈ N') ∧ ∀ p ∈ nf a, p.1 ≠ I
 | .brk => WG d c l' N' rest R
 | .ret v => R (.ret v) l' N'
structure ForG {α : Type} (d : Df) (c : Cx) (l : Fs) (x : Str) (body rest : List Stmt) (R : KS) (n : Nat) (lf : Nat → α → Fs) (nf : Nat → α → Led) (J : Nat → α → Prop) (a₀ : α) (N1 : Led) : Prop where
 h0 : J 0 a₀
 hl : ∀ p ∈ lf 0 a₀, p ∈ l
 hn : ∀ p ∈ nf 0 a₀, p ∈ N1
 nd : ∀ i a, nodupB ((lf i a).map (·.1)) = true
 turn : ∀ I i a own, i < n → J i a → (∀ p ∈ nf i a, p.1 ≠ I) → (∃ o, (I, o) ∈ own) → (∀ p ∈ own, p.1 = I) → WG d c (up x (.i (i : Int)) (lf i a)) (nf i a ++ own) body (TurnG d c (lf (i + 1)) (nf (i + 1)) (J (i + 1)) I own rest R)
 done : ∀ a, J n a → WG d c (lf n a) (nf n a) rest R
theorem WG.forR {α : Type} {d : Df} {c : Cx} {l : Fs} {N : Led} {x : Str} {px pos : Pos} {iter : PySem.Expr} {body rest : List Stmt} {R : KS} (n : Nat) (lf : Nat → α → Fs) (nf : Nat → α → Led) (J : Nat → α → Prop) (a₀ : α) (hn : n ≤ 1000)
  (h : vc d c 30 (.E l N iter fun sh N1 => ∃ r t1 t2 t3, sh = .v (.ref r) ∧ (r, rngO 0 n 1 t1 t2 t3) ∈ N1 ∧ ForG d c l x body rest R n lf nf J a₀ N1)) (hx : autoParam ((cE d c).kindOf x = some .local) name_B._auto_3) (hs : autoParam (∀ x, foldedSetIterable iter (cE d c) x = pure x) wpAny_For._auto_3) (ht : autoParam (d.top = true) name_B._auto_3) :
  WG d c l N (.For (.Name x px) iter body [] pos :: rest) R := fun s hS => by
 refine wpG_execs_cons (For_stG (g := c.g) (vc_sound 30 _ h s _ hS ?_) hs)
 rintro v sh N1 s1 ⟨t, rfl⟩ ⟨r, t1, t2, t3, rfl, hm, f⟩ hS1
 obtain ⟨ok, ⟨hp, tk, rfl⟩, ⟨m, F, H⟩, hN⟩ := hS1
 refine st_rangeG (α := α) (L := c.L) n lf (fun i a news => J i a ∧ news = nf i a) (by rw [cE_top ht]) rfl (hN _ hm).1 (Int.zero_add _).symm (Int.le_refl 0) (by lia) (by lia) a₀ F (fun p hp => hN p (f.hn p hp)) (has_sub H.has f.hl) ⟨f.h0, rfl⟩ ?_ ?_
 ·rintro I i k t z news own h tk5 τ u hi hk ⟨hJ, rfl⟩ hnI hIo hown F' N'
  obtain rfl : k = (i : Int) := by lia
  refine assign_Name (store9 (sh := .i (i : Int)) ⟨ok, ⟨_, _, rfl⟩, ⟨_, F', has_ov (nodup_of (f.nd i z)), fun h => by rw [ht] at h; cases h⟩, N'⟩ ⟨t, rfl⟩ hx ht fun s' hS' => ?_)
  refine wpG_mono (f.turn I i z own hi hJ hnI hIo (fun p hp => List.mem_singleton.mp (hown p hp)) s' hS') (fun fl s2 hp2 => ?_) fun _ _ e => e
  obtain ⟨l', N2, ⟨ok2, ⟨hp3, tk3, rfl⟩, ⟨m3, F3, H3⟩, hN3⟩, hf⟩ := hp2
  have go : (∃ a', J (i + 1) a' ∧ (∀ p ∈ lf (i + 1) a', p ∈ l') ∧ (∀ p ∈ nf (i + 1) a' ++ own, p ∈ N2) ∧ ∀ p ∈ nf (i + 1) a', p.1 ≠ I) → FEnd c.g c.L I own (lf (i + 1)) (fun a news => J (i + 1) a ∧ news = nf (i + 1) a) { c.s₀ with heap := hp, toks := tk } { c.s₀ with heap := hp3, toks := tk3 } := by
   rintro ⟨a', h1, h2, h3, h4⟩
   exact FEnd.intro (s := { c.s₀ with heap := hp, toks := tk }) a' F3 (fun p hp => hN3 p (h3 p hp)) ⟨has_sub H3.has h2, h4, h1, rfl⟩
  cases fl with
  | next => exact go hf
  | cont => exact go hf
  | brk => exact hf _ ⟨ok2, ⟨_, _, rfl⟩, ⟨m3, F3, H3⟩, hN3⟩
  | ret v => exact ⟨l', N2, ⟨ok2, ⟨_, _, rfl⟩, ⟨m3, F3, H3⟩, hN3⟩, hf⟩
 ·rintro z news h tk τ u ⟨hJ, rfl⟩ F' N'
  exact f.done z hJ _ ⟨ok, ⟨_, _, rfl⟩, ⟨_, F', has_ov (nodup_of (f.nd _ z)), fun h => by rw [ht] at h; cases h⟩, N'⟩
section
variable {d : Df} {c : Cx} {l : Fs} {N : Led} {K : KE}
end
theorem li_nil (n : Nat) : LI n ⟨[], [], [], []⟩ (-1) .nil [] 0 := by
 refine ⟨?_, ?_, ?_, ?_, ?_, ?_, ?_⟩
 ·exact ⟨trivial, rfl, trivial, List.Perm.refl _, by constructor <;> simp [keysT]⟩
 ·exact List.Perm.refl _
 ·exact List.nodup_nil
 ·intro e he; cases he
 ·exact List.Perm.refl _
 ·exact List.nodup_nil
 ·exact ⟨Nat.le_refl _, Nat.le_refl _, Nat.le_refl _⟩
theorem menu4 {r : Int} (h0 : 0 ≤ r) (h4 : r < 4) : 0 ≤ [1, 2, 4, 8].getD r.toNat (0 : Int) ∧ 1 ≤ ([1, 2, 4, 8].getD r.toNat (0 : Int)).toNat ∧ ([1, 2, 4, 8].getD r.toNat (0 : Int)).toNat ≤ 8 := by
 obtain ⟨k, rfl⟩ : ∃ k : Nat, r = (k : Int) := ⟨r.toNat, by lia⟩
 rw [Int.toNat_natCast]
 match k, h4 with
 | 0, _ => decide
 | 1, _ => decide
 | 2, _ => decide
 | 3, _ => decide
 | k + 4, h => lia
section
variable {d : Df} {c : Cx} {l : Fs} {N : Led} {K : KE} {jr hr : Addr} {A : TA} {T : TS} {D : Led} {root : Int} {rt : Tok} {t : Tr}
theorem CallS.law_jar {sc : Addr} {o : Obj} {vs : List Value} {ns : List Int} (hlv : 6 ≤ d.lv) (ho : c.g.get? sc = some o) (hl : ∀ h : Heap, h.get? sc = some o → h.IsList sc vs.toArray) (hi : IntsAre vs ns) (hlen : vs.length ≤ 63) (h : ∀ jr j, JOK 0 j → K (.v (.ref jr)) [(jr, jobj j)]) : CallS d c l 599 [.v (.ref sc)] N K :=
 CallS.of N (fun _ => sp_law_jar d.w sc o vs ns hl hi hlen) ⟨fun p hp => by rw [List.mem_singleton.mp hp]; exact .inr ho, fun _ h => absurd h List.not_mem_nil, fun _ h => absurd h List.not_mem_nil, fun _ h => h, fun _ h => absurd h List.not_mem_nil, hlv⟩
  fun v O' r _ => by
   cases r with
   | mk jr j hj => exact ⟨.v (.ref jr), _, ⟨0, rfl⟩, h jr j hj, fun _ h => List.mem_append_left _ h⟩
theorem CallS.trie {n most : Nat} (hlv : 9 ≤ d.lv) (hc1 : 1 ≤ n) (hc8 : n ≤ 8) (hm1 : 1 ≤ most) (hm3 : most ≤ 3) (h : ∀ A rt D, A.c = n → A.most = most → TR d.w A ⟨[], [], [], []⟩ D → (∀ p ∈ N, ∀ q ∈ TP A (-1) rt D, p.1 ≠ q.1) → K (.v (.ref A.self)) (TP A (-1) rt D ++ N)) : CallS d c l 585 [.i 9, .i (4 + (n : Int)), .i 1, .i most] N K :=
 CallS.of N (fun ts => sp_TrieMap d.w n most (ts 0) (ts 1) (ts 2) (ts 3) hc1 hc8 hm1 hm3) ⟨fun _ h => absurd h List.not_mem_nil, fun _ h => absurd h List.not_mem_nil, fun _ h => absurd h List.not_mem_nil, fun _ h => h, fun _ h => absurd h List.not_mem_nil, hlv⟩
  fun v O' r ap => by
   cases r with
   | mk A rt D e1 e2 R => exact ⟨.v (.ref A.self), _, ⟨0, rfl⟩, h A rt D e1 e2 R ap, fun _ h => h⟩
theorem CallS.drawn_key {n : Nat} {c0 : Int} {j : JS} {Z : Led} (hlv : 9 ≤ d.lv) (hJ : JOK c0 j) (hc0 : c0 ≤ 900) (hc1 : 1 ≤ n ∧ n ≤ 8) (hZ : ∀ p ∈ Z, p.1 ≠ jr)
  (h : ∀ r hl dl a b c' e ds ta tb tc te its e1 e2 j', ds.length = n → IntsAre its (byteInts ds) → JOK (c0 + 8) j' → K (.v (.ref r)) ((r, tupO [.ref hl, .ref dl]) :: (hl, listOf #[.int (UInt8.toNat a : Int) ta, .int (UInt8.toNat b : Int) tb, .int (UInt8.toNat c' : Int) tc, .int (UInt8.toNat e : Int) te] e1) :: (dl, listOf its.toArray e2) :: (jr, jobj j') :: Z)) :
  CallS d c l 613 [.v (.ref jr), .i n] ((jr, jobj j) :: Z) K :=
 CallS.of Z (fun ts => sp_law_drawn_key d.w jr j.g j.c n j.tg j.tc (ts 1) j.e hJ.1 ⟨hJ.2.1, Int.le_trans hJ.2.2 hc0⟩ hc1) ⟨fun _ h => absurd h List.not_mem_nil, fun p hp => by rw [List.mem_singleton.mp hp]; exact .head _, fun _ _ _ h => absurd h List.not_mem_nil, fun _ h => .tail _ h, fun p hp q hq e => by rw [List.mem_singleton.mp hp] at e; exact hZ q hq e.symm, hlv⟩
  fun v O' r _ => by
   cases r with
   | mk r hl dl a b c' e ds ta tb tc te its e1 e2 j' hdl hi hJ' => exact ⟨.v (.ref r), _, ⟨0, rfl⟩, h r hl dl a b c' e ds ta tb tc te its e1 e2 ⟨j'.g, j'.c, j'.tg, j'.tc, j'.e⟩ hdl hi ⟨hJ'.1, hJ'.2.1, Int.le_trans hJ'.2.2 (Int.add_le_add_right hJ.2.2 8)⟩, fun _ h => h⟩
theorem CallS.parts_right {hl dl : Addr} {a b c' e : UInt8} {ds : List UInt8} {ta tb tc te : Tok} {its : List Value} {e1 e2 : Nat} (hlv : 30 ≤ d.lv) (h1 : (hl, listOf #[.int (a.toNat : Int) ta, .int (b.toNat : Int) tb, .int (c'.toNat : Int) tc, .int (e.toNat : Int) te] e1) ∈ N) (h2 : (dl, listOf its.toArray e2) ∈ N) (hi : IntsAre its (byteInts ds)) (hd : 1 ≤ ds.length ∧ ds.length ≤ 8) (h : K (.i (kl a b c' e : Int)) N) : CallS d c l 628 [.v (.ref hl), .v (.ref dl)] N K :=
 CallS.of N (fun _ => sp_law_parts_right d.w hl dl a b c' e ds ta tb tc te its e1 e2 hi hd) ⟨fun p hp => by
   rcases List.mem_cons.mp hp with rfl | hp
   ·exact .inl h1
   ·rw [List.mem_singleton.mp hp]; exact .inl h2, fun _ h => absurd h List.not_mem_nil, fun _ h => absurd h List.not_mem_nil, fun _ h => h, fun _ h => absurd h List.not_mem_nil, hlv⟩
  fun v O' ⟨t, ev⟩ _ => ⟨.i _, N, ⟨t, ev⟩, h, fun _ h => List.mem_append_right _ h⟩
theorem CallS.law_text {dl : Addr} {ds : List UInt8} {its : List Value} {e2 : Nat} (hlv : 6 ≤ d.lv) (h2 : (dl, listOf its.toArray e2) ∈ N) (hi : IntsAre its (byteInts ds)) (hd : ds.length ≤ 8) (h : K (.s (textS ds)) N) : CallS d c l 618 [.v (.ref dl)] N K :=
 CallS.of N (fun _ => sp_law_text d.w dl its ds e2 hi hd) ⟨fun p hp => by rw [List.mem_singleton.mp hp]; exact .inl h2, fun _ h => absurd h List.not_mem_nil, fun _ h => absurd h List.not_mem_nil, fun _ h => h, fun _ h => absurd h List.not_mem_nil, hlv⟩
  fun v O' ⟨t, ev⟩ _ => ⟨.s _, N, ⟨t, ev⟩, h, fun _ h => List.mem_append_right _ h⟩
theorem CallGS.deed {a b c' e : UInt8} {ds : List UInt8} {H : HT} {j : Nat} {js : JS} {ho : Obj} {c0 : Int} {k : Option (List Nat)} {own : Led} (hlv : 60 ≤ d.lv) (hd : ds.length = A.c) (R : TR d.w A T D) (I : LI (8 * A.c) T root t H j) (hj : j ≤ 100) (hm : H.length ≤ A.most) (hm3 : A.most ≤ 3) (hkT : keyT A.c (kl a b c' e) ds = k) (hH : HD d.w ho H) (lo : (hr == sysModules) = false) (hJ : JOK c0 js) (hc0 : c0 ≤ 900) (ap : Ap2 jr hr (TP A root rt D)) (hown : ∀ p ∈ (jr, jobj js) :: (hr, ho) :: TP A root rt D, ∀ q ∈ own, p.1 ≠ q.1)
  (h : ∀ js' ho' H' T' D' root' rt' t', JOK (c0 + 3) js' → HD d.w ho' H' → H'.length ≤ A.most → TR d.w A T' D' → LI (8 * A.c) T' root' t' H' (j + 1) → Ap2 jr hr (TP A root' rt' D') → (∀ q ∈ own, ∀ p ∈ (jr, jobj js') :: (hr, ho') :: TP A root' rt' D', q.1 ≠ p.1) → K (.v (.bool true)) ((jr, jobj js') :: (hr, ho') :: TP A root' rt' D' ++ own)) :
  CallGS d c l 642 [.v (.ref jr), .v (.ref A.self), .b (a :: b :: c' :: e :: ds).toArray, txS k, .v (.ref hr), .i A.most] ((jr, jobj js) :: (hr, ho) :: TP A root rt D ++ own) K :=
 CallGS.of (Z := own) (fun ts => spG_law_deed_right d.w A T D t rt a b c' e ds (ts 2) (ts 5) root H j jr hr ho c0 k _ R hd I hj hm hm3 js hkT (txS_ok k (ts 3)) hH lo hJ hc0 ap) ⟨fun _ h => absurd h List.not_mem_nil, fun p hp => List.mem_append_left _ hp, fun _ _ _ h => absurd h List.not_mem_nil, fun p hp => List.mem_append_right _ hp, hown, hlv⟩
  fun v O' r ap' => by
   cases r with
   | mk js' ho' H' T' D' root' rt' t' hJ' hH' hm' R' I' ap2 => exact ⟨.v (.bool true), _, ⟨0, rfl⟩, h js' ho' H' T' D' root' rt' t' hJ' hH' hm' R' I' ap2 ap', fun _ h => h⟩
theorem CallS.known {a b c' e : UInt8} {ds : List UInt8} {H : HT} {j : Nat} {ho : Obj} {k : Option (List Nat)} (hlv : 40 ≤ d.lv) (hd : ds.length = A.c) (R : TR d.w A T D) (I : LI (8 * A.c) T root t H j) (hj : j ≤ 100) (hm : H.length ≤ A.most) (hm3 : A.most ≤ 3) (hkT : keyT A.c (kl a b c' e) ds = k) (hH : HD d.w ho H) (lo : (hr == sysModules) = false) (hs : ∀ p ∈ (hr, ho) :: TP A root rt D, p ∈ N) (h : K (.v (.bool true)) N) :
  CallS d c l 647 [.v (.ref A.self), .b (a :: b :: c' :: e :: ds).toArray, txS k, .v (.ref hr), .i A.c] N K :=
 CallS.of N (fun ts => sp_law_known_right d.w A T D t rt a b c' e ds (ts 1) (ts 4) root H j hr ho k _ R hd I hj hm hm3 hkT (txS_ok k (ts 2)) hH lo) ⟨fun p hp => .inl (hs p hp), fun _ h => absurd h List.not_mem_nil, fun _ h => absurd h List.not_mem_nil, fun _ h => h, fun _ h => absurd h List.not_mem_nil, hlv⟩
  fun v O' ev _ => ⟨.v _, N, ⟨0, ev⟩, h, fun _ h => List.mem_append_right _ h⟩
theorem WG.ifNN {e1 e2 : PySem.Expr} {b rest : List Stmt} {p1 p2 p3 pos : Pos} {R : KS} (h : RawEG d c l N e1 fun sh N1 => sh = .v (.bool true) ∧ RawE d c l N1 e2 fun sh2 N2 => sh2 = .v (.bool true) ∧ WG d c l N2 rest R)
  (h1 : autoParam (∀ whole, isTrue e1 (cE d c) whole = (do let v ← whole; standAt e1.pos; holding [v] (truthy v))) wpAny_For._auto_3) (h2 : autoParam (∀ whole, isTrue e2 (cE d c) whole = (do let v ← whole; standAt e2.pos; holding [v] (truthy v))) wpAny_For._auto_3) :
  WG d c l N (.If (.BoolOp .Or [.UnaryOp .Not e1 p1, .UnaryOp .Not e2 p2] p3) b [] pos :: rest) R := WG.cons fun s hS => by
 refine wpG_If (wpG_isTrue_or (wpG_isTrue_not (wpG_isTrue_plain (h s _ hS ?_) (h1 _))))
 rintro _ sh N1 s1 ⟨t, rfl⟩ ⟨rfl, k2⟩ hS1
 refine wpAny_truthy_bool ?_
 show wpG _ _ (isTrue _ _ _) _ _ _
 refine wpG_isTrue_or (wpG_isTrue_not (wpG_isTrue_plain (wpG_of (k2 s1 _ hS1 ?_)) (h2 _)))
 rintro _ sh2 N2 s2 ⟨u, rfl⟩ ⟨rfl, k3⟩ hS2
 refine wpAny_truthy_bool ?_
 show wpG _ _ (isTrue (.BoolOp .Or [] p3) _ _) _ _ _
 exact wpG_of (isTrue_or_nil (WG.of (Bk.nil k3) s2 hS2))
theorem Bk.asg9 {x : Str} {p pos : Pos} {e : PySem.Expr} {rest : List Stmt} {R : KS} (sh : Sh) (nf : Led) (he : vc d c 30 (.E l N e fun sh' N' => sh' = sh ∧ ∀ p ∈ nf, p ∈ N')) (h : Bk d c (up x sh l) nf rest R)
  (hx : autoParam ((cE d c).kindOf x = some .local) name_B._auto_3) (hs : autoParam (swapsWith e (some (.Name x p)) pos.line (cE d c) = pure false) name_B._auto_3) (ht : autoParam (d.top = true) name_B._auto_3) : Bk d c l N (.Assign [.Name x p] e pos :: rest) R :=
 fun s hS => wpAny_execs_cons (wpAny_Assign_Name (vc_sound 30 _ he s _ hS (by
  rintro v sh' N' s' hv ⟨rfl, hsub⟩ hS'
  exact store9 (hS'.sub (fun _ h => h) hsub) hv hx ht fun s2 hS2 => h s2 hS2)) hs)
end
theorem WG.top {d : Df} {c : Cx} {l : Fs} {N : Led} {body : List Stmt} {R : Result → Shared → Prop} {s : Shared} (h : WG d c l N body (RF fun v _ => v = .bool true)) (hS : St d c l N s) (hR : ∀ h' tk m' N', Fr c.g c.L h' m' → News c.g c.L h' N' → R (.ok (.ret (.bool true))) { c.s₀ with heap := h', toks := tk }) :
  wpG (model PR d.w) (cA d c) (execs body (cE d c)) (fun f s' => R (.ok (.ret (match f with | .ret v => v | _ => .none))) s') (fun _ _ => False) s :=
 wpG_mono (h s hS) (fun fl s' hp => by
  obtain ⟨l', N', ⟨_, ⟨h', tk, rfl⟩, ⟨m', F', _⟩, hN'⟩, r⟩ := hp
  cases fl with
  | ret v => cases (show v = .bool true from r); exact hR h' tk m' N' F' hN'
  | _ => cases (show Value.none = .bool true from r)) fun _ _ x => x
theorem fnLaw (w : World) : FnAt w "_law_jar" 599 ∧ FnAt w "_law_drawn_key" 613 ∧ FnAt w "_law_parts_right" 628 ∧ FnAt w "_law_text" 618 ∧ FnAt w "_law_deed_right" 642 ∧ FnAt w "_law_known_right" 647 ∧ FnAt w "TrieMap" 585 := by
 refine ⟨⟨?_, ?_⟩, ⟨?_, ?_⟩, ⟨?_, ?_⟩, ⟨?_, ?_⟩, ⟨?_, ?_⟩, ⟨?_, ?_⟩, ⟨?_, ?_⟩⟩ <;> k_is
structure LwS where
 j : JS
 ho : Obj
 H : HT
 T : TS
 D : Led
 root : Int
 rt : Tok
 t : Tr
structure LwJ (w : World) (A : TA) (jr hr : Addr) (i : Nat) (z : LwS) : Prop where
 j : JOK (3 + 12 * (i : Int)) z.j
 hd : HD w z.ho z.H
 hm : z.H.length ≤ A.most
 R : TR w A z.T z.D
 I : LI (8 * A.c) z.T z.root z.t z.H i
 ap : Ap2 jr hr (TP A z.root z.rt z.D)
noncomputable abbrev LwS.led (A : TA) (jr hr : Addr) (z : LwS) : Led := (jr, jobj z.j) :: (hr, z.ho) :: TP A z.root z.rt z.D
theorem law_holds : PySem.Challenge.rw_sj0163_01.Holds := by
 refine holds_law (by decide +kernel) fun said => ?_
 refine openG (q := V9) (loose := ["GateError", "TrieMap"]) (Xt := X9) (XP := XL V9 []) (Yf := H9.obs) (Ya := H9.val) (YP := H9.says) (N := 5000) left9 H9.of H9.keeps (fun s e => xl_of s (Bool.and_eq_true_iff.mp e).1) XL.keeps rfl rfl rfl (fun s e => recFacts_of (Bool.and_eq_true_iff.mp e).2) rfl said (by decide +kernel) ⟨rfl, rfl, rfl, rfl, rfl, by decide +kernel⟩ ?hw ?_
 case hw => w_witness2
 intro w s₀ s₁ mg mb G Y fa o pm cd doc dV kV ho hd hcd hD hmg hg args vals as hpre hlay hrd hwl hlo
 have KX := kIn_of Y
 refine Ground.open G ?_
 intro T B D TE TW
 obtain ⟨_, _, he, B0⟩ := based_of_top T rfl hmg ho hd
 have he' : cd = _ := he
 subst he'
 clear he
 wrow_args hpre hlay hrd hwl hlo
 rename_i ns _ _ _ _ _ _ _ sl its _ hsl _ _ _ hits _ hlen _
 have he := Dflts.none hD rfl
 subst he
 refine callG_top ho hd (Top.nolimit T) hcd (BindsTo.of_eq rfl) (locs rfl) fun h₁ F => ?_
 clear ho hd hD hcd
 obtain ⟨os, hsl1, hsl2⟩ : ∃ os, s₁.heap.get? sl = some os ∧ ∀ h : Heap, h.get? sl = some os → h.IsList sl its.toArray := by
  obtain ⟨os, h1, h2, n, h3⟩ := hsl
  exact ⟨os, h1, fun h h4 => ⟨os, h4, h2, n, h3⟩⟩
 have hl63 : its.length ≤ 63 := by rw [hits.length]; lia
 refine WG.top (d := ⟨w, 70, _, _, _, _, true⟩) (c := ⟨callerA.depth + 1, callerA.units + 3, [], callerA, s₁.heap, s₁.heap, _, { s₁ with heap := h₁ }, _, _, _, [], envX "" ⟨.function, [], false, false, []⟩ 0 0 .none [], fun _ => none⟩) (l := [("script", .v (.ref sl))]) (N := []) ?_ ⟨⟨below_caller s₁.heap, KX, T, by show (callerA.depth + 1) + 70 < recursionLimit; decide, by show callerA.units + 3 + 8 * 70 < cLine; decide, rfl⟩, ⟨_, _, rfl⟩, ⟨_, F, ⟨⟨0, rfl⟩, trivial⟩, fun h => nomatch h⟩, News.nil⟩ (fun h' tk m' N' F' hN' => by dsimp only; wrow_closeG)
 generalize hc9 : (⟨_, _, _, _, _, _, _, _, _, _, _, _, _, _⟩ : Cx) = q
 have hg : q.g.get? sl = some os := by subst hc9; exact hsl1
 clear hc9
 refine vcG_sound 1 (RawEG.of (RawE.fn (fnLaw w).1 ?_))
 refine CallS.law_jar (lb9 rfl) hg hsl2 hits hl63 (fun jr j0 hJ0 => ?_)
 refine WG.one (Bk.tupD (names := ["count", "most", "turns"]) ?_ (hk := all3 rfl rfl rfl))
 intro ts1 mr hlt
 have hmj : @LT.lt Nat _ jr mr := hlt _ (.head _)
 refine RawE.fn (fn606 w) ?_
 refine CallS.grain (gg := fun o => [(mr, _), (jr, o)]) hJ0 (by lia) (by lia) (UpdF.tail (Nat.ne_of_gt hmj) (UpdF.head fun _ h => absurd h List.not_mem_nil)) (lb9 rfl) (fun r1 j1 h10 h11 hJ1 => ?_)
 refine ItemS.menu [(jr, jobj j1)] (.head _) (ints_valsO [1, 2, 4, 8] 0) h10 h11 (by lia) (fun _ h => .tail _ h) ?_
 obtain ⟨c, hc, hc1, hc8⟩ : ∃ c : Nat, [1, 2, 4, 8].getD r1.toNat (0 : Int) = (c : Int) ∧ 1 ≤ c ∧ c ≤ 8 := ⟨_, (Int.toNat_of_nonneg (menu4 h10 h11).1).symm, (menu4 h10 h11).2⟩
 rw [hc]
 refine RawE.fn (fn606 w) ?_
 refine CallS.grain (gg := fun o => [(jr, o)]) hJ1 (by lia) (by lia) (UpdF.head fun _ h => absurd h List.not_mem_nil) (lb9 rfl) (fun r2 j2 h20 h21 hJ2 => ?_)
 obtain ⟨most, hmo, hm1, hm3⟩ : ∃ most : Nat, 1 + r2 = (most : Int) ∧ 1 ≤ most ∧ most ≤ 3 := ⟨(1 + r2).toNat, by lia, by lia, by lia⟩
 refine RawE.fn (fn606 w) ?_
 refine CallS.grain (gg := fun o => [(jr, o)]) hJ2 (by lia) (by lia) (UpdF.head fun _ h => absurd h List.not_mem_nil) (lb9 rfl) (fun r3 j3 h30 h31 hJ3 => ?_)
 obtain ⟨turns, htu, ht9⟩ : ∃ turns : Nat, 6 + r3 = (turns : Int) ∧ turns ≤ 8 := ⟨(6 + r3).toNat, by lia, by lia⟩
 show _ ∧ Bk _ _ (upAll _ [.i (c : Int), .i (1 + r2), .i (6 + r3)] _) _ _ _
 rw [hmo, htu]
 refine And.intro rfl (Bk.nil ?_)
 refine WG.one (Bk.tupD (names := ["trie", "held"]) ?_ (hk := all2 rfl rfl))
 refine RawE.fn (fnLaw w).2.2.2.2.2.2 ?_
 refine CallS.trie (lb9 rfl) hc1 hc8 hm1 hm3 (fun A rt D hAc hAm R apA => ?_)
 subst hAc hAm
 refine RawE.dict0 (fun hr ho hlt lo hd0 => And.intro rfl (Bk.nil ?_))
 have hst : LwJ w A jr hr 0 ⟨j3, ho, [], ⟨[], [], [], []⟩, D, -1, rt, .nil⟩ := ⟨hJ3.le (by lia), HD.empty hd0, Nat.zero_le _, R, li_nil _, ⟨Nat.ne_of_gt (hlt (jr, jobj j3) (List.mem_append_right _ (.head _))), fun p hp e => apA _ (.head _) p hp e.symm, fun p hp => Nat.ne_of_lt (hlt p (List.mem_append_left _ hp))⟩⟩
 refine WG.forR turns (fun _ _ => [("jar", .v (.ref jr)), ("count", .i A.c), ("most", .i A.most), ("trie", .v (.ref A.self)), ("held", .v (.ref hr))]) (fun _ z => z.led A jr hr) (LwJ w A jr hr) ⟨j3, ho, [], ⟨[], [], [], []⟩, D, -1, rt, .nil⟩ (by lia) ?_
 refine RawE.tfn (bRange w) (CallT.range1 fun r t u v _ => ⟨r, t, u, v, rfl, .head _, hst, subF_of ⟨rfl, rfl, rfl, rfl, rfl, trivial⟩, fun p hp => .tail _ ?_, fun _ _ => rfl, ?_, ?_⟩)
 ·rcases List.mem_cons.mp hp with rfl | hp
  ·exact .tail _ (List.mem_append_right _ (.head _))
  rcases List.mem_cons.mp hp with rfl | hp
  ·exact .head _
  ·exact .tail _ (List.mem_append_left _ hp)
 ·rintro I i ⟨j, ho, H, TT, D, root, rt, tr⟩ own hi ⟨hJ, hH, hm9, R, II, ap⟩ hnI hIo hown
  dsimp only at hJ hH hm9 R II ap hnI
  have hOw : ∀ o, ∀ p ∈ (jr, o) :: (hr, ho) :: TP A root rt D, ∀ q ∈ own, p.1 ≠ q.1 := fun o p hp q hq e => by
   rcases List.mem_cons.mp hp with rfl | hp
   ·exact hnI (jr, jobj j) (.head _) (e.trans (hown q hq))
   ·exact hnI p (.tail _ hp) (e.trans (hown q hq))
  obtain ⟨Z, hZ⟩ : ∃ Z, Z = (hr, ho) :: TP A root rt D ++ own := ⟨_, rfl⟩
  have hZj : ∀ p ∈ Z, p.1 ≠ jr := by
   intro p hp
   rw [hZ] at hp
   rcases List.mem_append.mp hp with hp | hp
   ·rcases List.mem_cons.mp hp with rfl | hp
    ·exact ap.jh
    ·exact ap.j p hp
   ·exact fun e => hOw (jobj j) _ (.head _) p hp e.symm
  show WG _ _ _ ((jr, jobj j) :: ((hr, ho) :: TP A root rt D ++ own)) _ _
  rw [← hZ]
  refine WG.one (Bk.tupC ["head", "data"] ?_ (hk := all2 rfl rfl))
  refine RawE.fn (fnLaw w).2.1 ?_
  refine CallS.drawn_key (lb9 rfl) hJ (by lia) ⟨hc1, hc8⟩ hZj (fun r hl dl a b c e ds ta tb tc te its e1 e2 j4 hdl hi4 hJ4 => ?_)
  refine TupK.mk _ ((hl, _) :: (dl, listOf its.toArray e2) :: (jr, jobj j4) :: Z) (.head _) rfl (fun _ h => .tail _ h) (Bk.nil ?_)
  refine WG.one (Bk.tupD (names := ["length", "key"]) ?_ (hk := all2 rfl rfl))
  refine RawE.fn (fnLaw w).2.2.1 ?_
  refine CallS.parts_right (lb9 rfl) (.head _) (.tail _ (.head _)) hi4 (by lia) ?_
  refine RawE.tfn (bBytes w) ?_
  refine OpS.addL (ns := byteInts [a, b, c, e]) (ms := byteInts ds) (vs := [_, _, _, _]) (fun D us => (D, listOf us.toArray 0) :: (dl, listOf its.toArray e2) :: (jr, jobj j4) :: Z) (.head _) (.tail _ (.head _)) (.cons _ _ (.cons _ _ (.cons _ _ (.cons _ _ .nil)))) hi4 (by rw [byteInts_len, byteInts_len, hdl]; show 4 + A.c ≤ 256; lia) (fun D us => sub_cons (.head _) fun _ h => .tail _ (.tail _ h)) (fun D us _ hus => ?_)
  refine CallT.bytes ((dl, listOf its.toArray e2) :: (jr, jobj j4) :: Z) (.head _) hus (byteInts_in (d := a :: b :: c :: e :: ds)) (by rw [List.length_append, byteInts_len, byteInts_len, hdl]; show 4 + A.c ≤ 1000; lia) (fun _ h => .tail _ h) ?_
  rw [show (byteInts [a, b, c, e] ++ byteInts ds).map (fun n => n.toNat.toUInt8) = a :: b :: c :: e :: ds from byteInts_back (a :: b :: c :: e :: ds)]
  refine And.intro rfl (Bk.nil (vcG_sound 1 (And.intro (fun h => absurd h (by lia)) fun _ => ?_)))
  refine WG.of (Bk.nil (WG.one (Bk.asg9 (txS (keyT A.c (kl a b c e) ds)) ((jr, jobj j4) :: Z) ?_ (Bk.nil ?_))))
  ·refine OpS.mul (by lia) (And.intro (fun hle => ?_) (fun hgt => ?_))
   ·refine RawE.slice (RawE.fn (fnLaw w).2.2.2.1 (CallS.law_text (lb9 rfl) (.head _) hi4 (by lia) ⟨_, rfl, SlcS.strH (by have := textS_len ds; lia) ⟨?_, fun _ h => .tail _ h⟩⟩))
    exact txS_of (text_ok (t := 0) hdl (by lia))
   ·exact ⟨txS_of (text_no (d := ds) (by lia)), fun _ h => .tail _ h⟩
  rw [hZ]
  refine WG.ifNN ?_
  refine RawEG.fn (fnLaw w).2.2.2.2.1 (RawLG.of ?_)
  refine CallGS.deed (lb9 rfl) hdl R II (by lia) hm9 (by lia) rfl hH lo hJ4 (by lia) ap (hOw _) (fun j5 ho5 H5 T5 D5 root5 rt5 t5 hJ5 hH5 hm5 R5 I5 ap5 hOw5 => ?_)
  refine And.intro rfl (RawE.fn (fnLaw w).2.2.2.2.2.1 ?_)
  refine CallS.known (lb9 rfl) hdl R5 I5 (by lia) hm5 (by lia) rfl hH5 lo (fun p hp => List.mem_append_left _ (.tail _ hp)) ?_
  refine And.intro rfl (vcG_sound 1 ⟨⟨j5, ho5, H5, T5, D5, root5, rt5, t5⟩, ⟨hJ5.le (by lia), hH5, hm5, R5, I5, ap5⟩, subF_of ⟨rfl, rfl, rfl, rfl, rfl, trivial⟩, fun _ h => h, fun p hp e => ?_⟩)
  obtain ⟨oI, hoI⟩ := hIo
  exact hOw5 _ hoI p hp e.symm
 ·intro z _
  exact vcG_sound 1 fun _ => rfl
end Mine
theorem PySem.Challenge.cw_sj0163_01_holds : PySem.Challenge.rw_sj0163_01.Holds := by
  exact Mine.law_holds
