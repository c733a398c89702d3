import PyProof.Rows.All
import Wide.All
import OpenK.AllK
import Wide.FinOn
import Open.Head
import Lean
import PySem.Challenge.RW_rg0257_01
set_option rowWalk.seconds 0
namespace Mine
section
open _root_.PySem _root_.PySem.W _root_.PyProof.Rows _root_.PySem.Calls _root_.PySem.Spec
set_option Elab.async false
set_option maxRecDepth 100000
set_option maxHeartbeats 800000

def decFree : Code → Bool
  | .builtin id _ => !(Builtin.Bytes.decodersThatHold.contains id) && !(guardIds.contains id)
  | _ => true
def NoDec (Γ : PySem.Ctx) : Prop := decFree Γ.code = true ∧ ∀ x ∈ Γ.below, decFree x.1 = true
theorem NoDec.enter {Γ : PySem.Ctx} (h : NoDec Γ) {c : Code} (hc : decFree c = true) (hd : Option Value) (p : Pos) : NoDec (Γ.enter c hd p) :=
  ⟨hc, fun x hx => by
    rcases List.mem_cons.mp hx with rfl | hx
    · exact h.1
    · exact h.2 x hx⟩
theorem NoDec.goto {Γ : PySem.Ctx} (h : NoDec Γ) {c : Code} (hc : decFree c = true) : NoDec (Γ.goto c) := ⟨hc, h.2⟩

def wpG {α : Type} (M : Model) (A : Around) (t : Sem α) (Q : α → Shared → Prop) (E : Value → Shared → Prop) (s : Shared) : Prop :=
  ∀ Γ p, Γ.In A → NoDec Γ → Sem.wp M Γ t (fun a _ s' => Q a s') (fun e _ s' => E e s') p s
def codeG (M : Model) (A : Around) (c : Code) (R : Result → Shared → Prop) (s : Shared) : Prop :=
  ∀ Γ p, Γ.code = c → Γ.Below A → NoDec Γ → wpCode M Γ R p s

section
variable {α β : Type} {M : Model} {A : Around} {E : Value → Shared → Prop} {s : Shared}
theorem wpG_any {t : Sem α} {Q : α → Shared → Prop} (h : wpAny M A t Q E s) : wpG M A t Q E s := fun Γ p hΓ _ => h Γ p hΓ
theorem wpG_mono {t : Sem α} {Q Q' : α → Shared → Prop} {E' : Value → Shared → Prop} (h : wpG M A t Q E s) (hQ : ∀ a s, Q a s → Q' a s) (hE : ∀ e s, E e s → E' e s) : wpG M A t Q' E' s :=
  fun Γ p hΓ hD => Sem.wp_mono M Γ t (fun a _ s => hQ a s) (fun e _ s => hE e s) p s (h Γ p hΓ hD)
theorem wpG_bind {m : Sem α} {f : α → Sem β} {Q : β → Shared → Prop} (h : wpG M A m (fun a s' => wpG M A (f a) Q E s') E s) : wpG M A (m >>= f) Q E s := fun Γ p hΓ hD => by
  rw [Sem.wp_bind']
  exact Sem.wp_mono M Γ m (fun a p' s' h' => h' Γ p' hΓ hD) (fun _ _ _ h' => h') p s (h Γ p hΓ hD)
theorem wpG_holding {vs : List Value} {m : Sem α} {Q : α → Shared → Prop} (h : wpG M A m Q E s) : wpG M A (holding vs m) Q E s :=
  fun Γ p hΓ hD => by rw [Sem.wp_holding]; exact h Γ p hΓ hD
theorem wpG_keep {vs : List Value} {m : Sem α} {Q : α → Shared → Prop} (h : wpG M A m Q E s) : wpG M A (m.keep vs) Q E s :=
  fun Γ p hΓ hD => by rw [Sem.wp_keep]; exact h Γ p hΓ hD
theorem wpG_operate {vs : List Value} {m : Sem Value} {Q : Value → Shared → Prop} (h : wpG M A m Q E s) : wpG M A (operate vs m) Q E s :=
  fun Γ p hΓ hD => by rw [Sem.wp_operate]; exact h Γ p hΓ hD
theorem wpG_onRaise {m : Sem α} {k : Value → Sem Unit} {Q : α → Shared → Prop} (h : wpG M A m Q (fun _ _ => False) s) : wpG M A (m.onRaise k) Q E s := fun Γ p hΓ hD => by
  rw [Sem.wp_onRaise]
  exact Sem.wp_mono M Γ m (fun _ _ _ h' => h') (fun _ _ _ h' => h'.elim) p s (h Γ p hΓ hD)
theorem wpG_noE {t : Sem α} {Q : α → Shared → Prop} (h : wpG M A t Q (fun _ _ => False) s) : wpG M A t Q E s := wpG_mono h (fun _ _ x => x) fun _ _ x => x.elim
theorem wpG_call {f : Value} {pos : List Value} {kw : List (Str × Value)} {Q : Value → Shared → Prop}
    (hc : codeG M A (.call f ⟨pos, kw⟩) (fun r s' => match r with | .ok (.ret v) => Q v s' | .ok _ => False | .error e => E e s') s) :
    wpG M A (call f pos kw) Q E s := fun Γ p hΓ hD => by
  show Sem.wp M Γ (runValue (.call f ⟨pos, kw⟩)) _ _ p s
  rw [Sem.wp_runValue]
  exact hc _ p rfl (hΓ.enter _ none p (by intro x; cases x)) (hD.enter rfl none p)
theorem codeG_mono {c : Code} {R R' : Result → Shared → Prop} (h : codeG M A c R s) (hR : ∀ r s, R r s → R' r s) : codeG M A c R' s :=
  fun Γ p hc hΓ hD => wpCode_mono hR (h Γ p hc hΓ hD)
theorem codeG_any {c : Code} {R : Result → Shared → Prop} (h : codeAny M A c R s) : codeG M A c R s := fun Γ p hc hΓ _ => h Γ p hc hΓ
theorem codeG_of_tree {c : Code} {R : Result → Shared → Prop}
    (h : wpG M (A.under c) (M.den c) (fun fin s' => match fin with | .done f => R (.ok f) s' | .again c' => c'.quiet = true ∧ decFree c' = true ∧ codeG M A c' R s')
      (fun e s' => R (.error e) s') s) : codeG M A c R s := fun Γ p hc hΓ hD => by
  rw [wpCode_iff_wp, hc]
  refine Sem.wp_mono M Γ _ (fun fin p' s' h' => ?_) (fun _ _ _ h' => h') p s (h Γ p (hc ▸ hΓ.in) hD)
  cases fin with
  | done f => exact h'
  | again c' => exact ⟨h'.1, h'.2.2 (Γ.goto c') p' rfl (hΓ.goto c') (hD.goto h'.2.1)⟩
end

section
variable {prog : Program} {w : World} {A : Around} {s : Shared} {R : Result → Shared → Prop}
theorem codeG_func {body env} (h : wpG (model prog w) (A.deeper env) (execs body env) (fun f s' => R (.ok (.ret (match f with | .ret v => v | _ => .none))) s') (fun _ _ => False) s) :
    codeG (model prog w) A (.func body env) R s := by
  refine codeG_of_tree ?_
  show wpG _ (A.deeper env) (do point; match ← (execs body env).onRaise (leaving env) with | .ret v => ret v | _ => ret .none) _ _ s
  refine wpG_bind (wpG_any (wpAny_point (wpG_bind (wpG_onRaise (wpG_mono h (fun f s' h' => ?_) fun _ _ h' => h')))))
  cases f <;> exact wpG_any (wpAny_pure h')

theorem codeG_call_def {a : Addr} {o : Obj} {fd : FuncData} {body : List Stmt} {args : Args} {binds : List (Str × Value)}
    (hroom : A.depth < recursionLimit) (ho : s.heap.get? a = some o) (hdata : o.data = .func fd) (hlim : s.heap.NoLimit) (hcd : s.heap.CodeRec fd.code fd.qualname)
    (hbody : fd.body = .stmts body) (hbind : BindsTo s fd args binds)
    (hcell : ∀ x ∈ fd.scope.names, x.2 ≠ .cell) (hloc : ∀ x ∈ binds, fd.scope.names.lookup x.1 = some .local)
    (h : ∀ h₀, h₀.Ns s.heap.objs.size (fun x => binds.reverse.lookup x) → (∀ b o, s.heap.get? b = some o → h₀.get? b = some o) →
      wpG (model prog w) (A.deeper (callEnv fd s.heap.objs.size a)) (execs body (callEnv fd s.heap.objs.size a)) (fun f s' => R (.ok (.ret (match f with | .ret v => v | _ => .none))) s')
        (fun _ _ => False) { s with heap := h₀, toks := s.toks + binds.length })
    (hco : fd.scope.isCoroutine = false) (hgen : fd.scope.isGenerator = false) (hk : fd.scope.kind = .function) :
    codeG (model prog w) A (.call (.ref a) args) R s := by
  refine codeG_of_tree ?_
  show wpG _ A.in1 (callAny (.ref a) args) _ _ s
  simp only [callAny]
  refine wpG_bind (wpG_any (wpAny_load ho ?_))
  obtain ⟨c, oc, vs, tq, hc, hoc, hdc, hq⟩ := hcd
  simp only [hdata, callFunction, hco, hgen, hbody, hc]
  refine wpG_bind (m := field (.ref c) 1) (wpG_any (wpAny_field hoc hdc hq (wpG_bind (wpG_any (wpAny_pure ?_)))))
  refine wpG_bind (wpG_any (hbind _ _ _ _ ?_))
  refine wpG_bind (wpG_any (wpAny_newFunctionEnv hcell hloc (fun h₁ hns₁ hsb₁ => ?_) hk))
  refine wpG_bind (wpG_any (wpAny_enterFrame (hlim.fresh _ hsb₁) hroom ?_))
  refine wpG_any (wpAny_pure ⟨rfl, rfl, ?_⟩)
  rw [← hc]
  exact codeG_func (h h₁ hns₁ fun b o e => hsb₁.extBut b o (Nat.ne_of_lt (Heap.lt_size e)) (Heap.get?_push_of_some _ e))
end
end
section
open _root_.PySem _root_.PySem.W _root_.PyProof.Rows _root_.PySem.Calls _root_.PySem.Spec
set_option Elab.async false
set_option maxRecDepth 100000
set_option maxHeartbeats 800000
theorem caller_noDec : NoDec (⟨.builtin "claim.caller" {}, none, none, [], none⟩ : PySem.Ctx) := ⟨by decide +kernel, fun _ h => nomatch h⟩
theorem wp_callerG {M : Model} {t : Sem Fin} {R : Result → Shared → Prop} {s : Shared}
    (h : wpG M callerA t (fun fin s' => ∃ f, fin = .done f ∧ R (.ok f) s') (fun e s' => R (.error e) s') s) (p : Pos) :
    Sem.wp M (⟨.builtin "claim.caller" {}, none, none, [], none⟩ : PySem.Ctx) t (Sem.finPost M ⟨.builtin "claim.caller" {}, none, none, [], none⟩ R) (fun e _ s' => R (.error e) s') p s := by
  refine Sem.wp_mono M _ t (fun fin p' s' h' => ?_) (fun _ _ _ h' => h') p s (h _ p caller_in caller_noDec)
  obtain ⟨f, rfl, hf⟩ := h'
  exact hf
theorem specGG {c : ClaimW} {tree : List Value → Sem Fin} {w : World} {s : Shared} {free : Addr → Prop} {gens : Prop} {kept : Heap → Prop} (hz : s.asleep) (hgens : s.gens = #[])
    (hspec : ∀ args, c.pre args = true → WData.layableAll args = true → ∀ ord : List DictEntry → List DictEntry, (∀ l, (ord l).Perm l) →
      ∃ vs s₁, layAllW c.records (classAt s.heap) w.params ord args s = some (vs, s₁) ∧
        wpG (model c.prog w) callerA (tree vs) (fun fin s' => ∃ f, fin = .done f ∧ (c.Ends s args vs s₁ (.ok f) s' ∧ s'.os = s.os ∧ AllBare s'.gens ∧ kept s'.heap))
          (fun e s' => c.Ends s args vs s₁ (.error e) s' ∧ s'.os = s.os ∧ AllBare s'.gens ∧ kept s'.heap) s₁) :
    c.CallFrom (fun vs => ⟨tree vs, .builtin "claim.caller" {}, default, []⟩) w free gens kept s := by
  intro args hpre hlay ord hord
  obtain ⟨vs, s₁, hlaid, hcode⟩ := hspec args hpre hlay ord hord
  have hal := layAllW_rest _ _ _ hlaid
  obtain ⟨k, r, σ, s', hsched, hrun, hfo, hcase, hos, hkp⟩ := wp_halts_full (M := model c.prog w) (R := fun r s' => (c.Ends s args vs s₁ r s' ∧ s'.os = s.os ∧ kept s'.heap)) (Shared.asleep_of_life hal.2.2.2 hz)
    (wp_callerG (R := fun r s' => (c.Ends s args vs s₁ r s' ∧ s'.os = s.os ∧ kept s'.heap) ∧ leftWithCleanup s'.gens = false)
      (wpG_mono hcode (fun fin s' ⟨f, e, h1, h2, h3, h4⟩ => ⟨f, e, ⟨h1, h2, h4⟩, leftWithCleanup_false_of_bare h3⟩) fun e s' ⟨h1, h2, h3, h4⟩ => ⟨⟨h1, h2, h4⟩, leftWithCleanup_false_of_bare h3⟩) default)
  obtain ⟨eh, _, _, eo, _⟩ := Shared.forget_eq hfo
  have hcase := ClaimW.Ends.congr eh hcase
  have hkp : kept s'.heap := by first | exact eh ▸ hkp | (rw [eh]; exact hkp) | (rw [← eh] at hkp; exact hkp)
  rw [← eo] at hos
  have hlife : s'.heap.life = s.heap.life := (runN_life _ _ _ hrun).trans hal.2.2.2
  refine ⟨vs, s₁, hlaid, k, _, s', hsched, ?_, (fun _ i x hx => by rw [hgens] at hx; simp at hx), hkp, by rw [hlife], Shared.rest_eq hos⟩
  rcases hcase with ⟨v, rfl, d1, d2, d3, d4, d5⟩ | ⟨e, ob, cls, rfl, d1, d2, d3, d4, d5⟩
  · exact .inl ⟨v, rfl, d1, d2, d3, fun b o y _ => d4 b o y, d5⟩
  · exact .inr ⟨e, ob, cls, rfl, d1, d2, d3, d4, fun b o y _ => d5 b o y⟩

theorem openGG {r : RowW} {run : Value → List Value → Sem Value} {tree : List Value → Sem Fin} {q : Program} {loose defs kps : List Str} {writes : Bool} {Xt : Shared → Bool} {XP : (Str → Option Value) → Heap → Prop} {α : Type} {Yf : Shared → α} {Ya : World → α} {YP : World → Heap → Prop} {N : Nat}
    (left : LeftO r.prog q loose Xt Yf Ya N) (hY : ∀ w s, Yf s = Ya w → YP w s.heap) (hYk : ∀ w h h', YP w h → (∀ b o, h.get? b = some o → h'.get? b = some o) → YP w h') (hX : ∀ s, Xt s = true → XP (s.heap.nsMap mainGlobals) s.heap) (hXk : ∀ mg h h', XP mg h → (∀ b o, h.get? b = some o → h'.get? b = some o) → XP mg h')
    (hRf : ∀ s, Xt s = true → RecFacts r.records s.heap) (hwr : (!writes || r.records.isEmpty) = true) (ok : (chainsOk q && opensWell r.prog && (frees r && r.within.isEmpty)) = true) (hb : r.prog.bare) (hw : r.promised)
    (ht : ∀ vs (w : World) (s : Shared) mg f (Q : Fin → Shared → Prop) (E : Value → Shared → Prop), s.heap.Ns mainGlobals mg → mg r.name = some f → wpG (model r.prog w) callerA (run f vs) (fun v s' => Q (.done (.ret v)) s') E s → wpG (model r.prog w) callerA (tree vs) Q E s)
    (pin : ∀ w s, s.heap.isNs mainGlobals = true → Ground q loose [] XP w s (s.heap.nsMap mainGlobals) (s.heap.nsMap builtinsNs) s.heap → ∀ n ∈ defs, isTheDefsW r.prog s.heap n)
    (call : ∀ (w : World) (s₀ s₁ : Shared) (mg mb : Str → Option Value), Ground q loose r.records XP w s₀ mg mb s₁.heap → YP w s₁.heap → ∀ (args : List WData) (vs : List Value) (as : List Addr),
      r.claim.pre args = true → WData.layableAll args = true → Laid r.records w s₀ s₁ args vs as → sysModules < s₀.heap.objs.size → ∃ f, mg r.name = some f ∧
        wpG (model r.prog w) callerA (run f vs) (fun v s' => GoodWG r.claim (classAt s₀.heap) (ExcName.means s₀.heap) args s₁ (.ok (.ret v)) s')
          (fun e s' => GoodWG r.claim (classAt s₀.heap) (ExcName.means s₀.heap) args s₁ (.error e) s') s₁) : r.claim.HoldsOpenBy (fun vs => ⟨tree vs, .builtin "claim.caller" {}, default, []⟩) defs kps writes := by
  obtain ⟨ok, k5⟩ := Bool.and_eq_true_iff.mp ok
  obtain ⟨hch, o1⟩ := Bool.and_eq_true_iff.mp ok
  obtain ⟨k5, k6⟩ := Bool.and_eq_true_iff.mp k5
  obtain ⟨hsame, hu, ha, hap, hm⟩ := frees_parts k5
  refine ⟨⟨hb, o1, by show r.makers.map _ = []; rw [hm]; rfl⟩, hw.witness, fun w => ⟨(left.behind hX hch w).1, fun s' hs' => ?_⟩⟩
  obtain ⟨s₀, hf, hg0, s, hT, hz, hgens, hg, G00, y⟩ := (left.behind (XP := fun mg h => XP mg h ∧ RecFacts r.records h) (fun s hs => ⟨hX s hs, hRf s hs⟩) hch w).2 s' hs'
  have G0 : Ground q loose [] XP w s (s.heap.nsMap mainGlobals) (s.heap.nsMap builtinsNs) s.heap := ⟨G00.T, G00.B, G00.D, G00.TE, G00.TD, G00.W, G00.X.1, G00.cls, G00.has, G00.apart, G00.once, G00.K⟩
  have RF := G00.X.2
  have hT' := hT
  refine ⟨s₀, hf, hg0, s, hT, pin w s hg G0, RF.1, RF.2.1, ?_⟩
  have hgens : s.gens = #[] := Array.eq_empty_of_size_eq_zero (beq_iff_eq.mp hgens)
  have G : Ground q loose r.records XP w s _ _ s.heap := RF.ground G0
  refine specGG (c := r.claim) hz hgens fun args hpre hlay ord hord => ?_
  obtain ⟨⟨vs, s₁⟩, hlaid⟩ := Option.isSome_iff_exists.mp (layAllW_isSome (P := w.params) (ord := ord) G.has args r.args s (pre_splitW hpre).1)
  have keeps := layAllW_keeps _ _ _ hlaid
  have hal := layAllW_rest _ _ _ hlaid
  obtain ⟨as, hrd, hin, hold⟩ := reads_layAllW hord _ _ _ hlaid hlay s₁.heap (fun _ _ e => e)
  have LL : Laid r.records w s s₁ args vs as := ⟨⟨ord, hord, hlaid⟩, hrd, hin, hold, keeps, hal.1.trans hgens, hal.2.2.1⟩
  have G₁ := G.keeps hXk keeps
  obtain ⟨f, hf, h⟩ := call w s s₁ _ _ G₁ (hYk _ _ _ (hY w s y) keeps) args vs as hpre hlay LL G.low
  have hi := ident_freeW hu ha hap
  have hwi : r.claim.within = [] := List.isEmpty_iff.mp k6
  have zz : ∀ res s', GoodWG r.claim (classAt s.heap) (ExcName.means s.heap) args s₁ res s' → _ := fun res s' g => g.laid (c := r.claim) hsame hwi hi LL
  exact ⟨vs, s₁, hlaid, ht vs w s₁ _ f _ _ G₁.T.g hf (wpG_mono h (fun v s' g => ⟨_, rfl, (zz _ _ g).1, (zz _ _ g).2.1, (zz _ _ g).2.2, fun q => ⟨namesKept_of hT' hg kps keeps g.2.1.old, noTable hwr q⟩⟩)
    fun e s' g => ⟨(zz _ _ g).1, (zz _ _ g).2.1, (zz _ _ g).2.2, fun q => ⟨namesKept_of hT' hg kps keeps g.2.1.old, noTable hwr q⟩⟩)⟩

abbrev WalkG (q : Program) (loose : List Str) (XP : (Str → Option Value) → Heap → Prop) (YP : World → Heap → Prop) (r : RowW) (d : DefRec) (kwd : List (Str × Expr)) (run : Value → List Value → Sem Value) : Prop :=
  ∀ (w : World) (s₀ s₁ : Shared) (mg mb : Str → Option Value), Ground q loose r.records XP w s₀ mg mb s₁.heap → YP w s₁.heap → ∀ (a : Addr) (o : Obj) (pm cd doc dV kV : Value), s₁.heap.get? a = some o →
    o.data = .func { docDef d.name d.params d.body d.scope pm cd doc with defaults := dV, kwdefaults := kV } → s₁.heap.CodeRec cd d.name → Dflts mg s₁.heap d.params kwd dV kV → mg d.name = some (.ref a) → s₁.gens = #[] →
    ∀ (args : List WData) (vals : List Value) (as : List Addr), r.claim.pre args = true → WData.layableAll args = true → ReadsAllW r.records (classAt s₀.heap) s₁.heap vals args as → WellAll w.params s₁.heap vals args → (∀ a ∈ as, (a == sysModules) = false) →
      wpG (model r.prog w) callerA (run (.ref a) vals) (fun v s' => GoodWG r.claim (classAt s₀.heap) (ExcName.means s₀.heap) args s₁ (.ok (.ret v)) s')
        (fun e s' => GoodWG r.claim (classAt s₀.heap) (ExcName.means s₀.heap) args s₁ (.error e) s') s₁

theorem B.PySem.W.holds_open {r : OpenRow} {q : Program} {loose : List Str} {Xt : Shared → Bool} {XP : (Str → Option Value) → Heap → Prop} {α : Type} {Yf : Shared → α} {Ya : World → α} {YP : World → Heap → Prop} {d : DefRec} {kwd : List (Str × Expr)} {N : Nat}
    (left : LeftO r.prog q loose Xt Yf Ya N) (hY : ∀ w s, Yf s = Ya w → YP w s.heap) (hYk : ∀ w h h', YP w h → (∀ b o, h.get? b = some o → h'.get? b = some o) → YP w h')
    (hX : ∀ s, Xt s = true → XP (s.heap.nsMap mainGlobals) s.heap) (hXk : ∀ mg h h', XP mg h → (∀ b o, h.get? b = some o → h'.get? b = some o) → XP mg h')
    (hdef : defOf q r.name = some (d, kwd)) (hp : r.prog.theDef r.name = some (d.params, d.body, d.scope)) (hk : kwWritten? d.params.kwonlyargs d.params.kw_defaults = some kwd) (hRf : ∀ s, Xt s = true → RecFacts r.records s.heap) (hwr : (!r.writes || r.records.isEmpty) = true)
    (k1 : r.wellSaid = true) (ok : (chainsOk q && opensWell r.prog && (frees r.toRowW && r.within.isEmpty)) = true) (hb : r.prog.bare) (hw : r.toRowW.promised)
    (call : WalkG q loose XP YP r.toRowW d kwd fun f vs => PySem.call f vs) : r.Holds := by
  refine ⟨k1, hw, openGG (r := r.toRowW) (run := fun f vs => PySem.call f vs) (tree := fun vs => do match ← nsGet mainNs r.name with
      | some f => do ret (← PySem.call f vs)
      | none => unsupported "claim.caller:no-such-global") left hY hYk hX hXk hRf hwr ok hb hw
    (fun vs w s mg f Q E hg hf h => wpG_bind (wpG_any (wpAny_nsGet hg (by rw [hf]; exact wpG_bind (wpG_mono h (fun _ _ x => wpG_any (wpAny_pure x)) fun _ _ x => x)))))
    (fun w s hg G n hn => ?_) fun w s₀ s₁ mg mb G Y args vs as hpre hlay L low => ?_⟩
  · obtain rfl : n = r.name := by split at hn <;> simp_all
    exact pinned_of_view hg G hdef hp hk
  · obtain ⟨a, o, pm, cd, doc, dV, kV, h1, h2, h3, h4, h5⟩ := G.fn hdef
    exact ⟨.ref a, h1, call w s₀ s₁ mg mb G Y a o pm cd doc dV kV h2 h3 h4 h5 (defOf_name hdef ▸ h1) L.gens args vs as hpre hlay L.reads L.well (L.low low)⟩
end
section
open _root_.PySem _root_.PySem.W _root_.PyProof.Rows _root_.PySem.Calls _root_.PySem.Spec
set_option Elab.async false
set_option maxRecDepth 100000
set_option maxHeartbeats 8000000
abbrev Prem {a b c d e H : Prop} (_ : a ∧ b ∧ c ∧ d ∧ e → H) : Prop := e
theorem PySem.W.holds_open {r : OpenRow} {q : Program} {loose : List Str} {Xt : Shared → Bool} {XP : (Str → Option Value) → Heap → Prop} {α : Type} {Yf : Shared → α} {Ya : World → α} {YP : World → Heap → Prop} {d : DefRec} {kwd : List (Str × Expr)} {N : Nat}
    (_left : True) (hY : ∀ w s, Yf s = Ya w → YP w s.heap) (hYk : ∀ w h h', YP w h → (∀ b o, h.get? b = some o → h'.get? b = some o) → YP w h')
    (hX : ∀ s, Xt s = true → XP (s.heap.nsMap mainGlobals) s.heap) (hXk : ∀ mg h h', XP mg h → (∀ b o, h.get? b = some o → h'.get? b = some o) → XP mg h')
    (hdef : defOf q r.name = some (d, kwd)) (hp : r.prog.theDef r.name = some (d.params, d.body, d.scope)) (hk : kwWritten? d.params.kwonlyargs d.params.kw_defaults = some kwd) (hRf : ∀ s, Xt s = true → RecFacts r.records s.heap) (hwr : (!r.writes || r.records.isEmpty) = true)
    (_k1 _ok : True) (_hb : 0 = 0 ∧ 0 = 0 ∧ 0 = 0 ∧ 0 = 0 ∧ 0 = 0 ∧ True) (hw : r.toRowW.promised)
    (call : r.wellSaid = true ∧ (chainsOk q && opensWell r.prog && (frees r.toRowW && r.within.isEmpty)) = true ∧ r.prog.bare ∧ LeftO r.prog q loose Xt Yf Ya N ∧ WalkG q loose XP YP r.toRowW d kwd fun f vs => PySem.call f vs) : r.Holds :=
  Mine.B.PySem.W.holds_open call.2.2.2.1 hY hYk hX hXk hdef hp hk hRf hwr call.1 call.2.1 call.2.2.1 hw call.2.2.2.2
theorem w3 {H : Prop} (_hl : True) (m : H) : H := m
section
theorem rowsA : True := by
  k_with_none
  (k_with "won" => (refine w3 ?hl ?_; trivial))
  trivial
local macro_rules | `(tactic| w_on) => `(tactic| k_extra "won")
open_top hd for (OpenLaw.row PySem.Challenge.rw_rg0257_01)
end
end

section
open _root_.PySem _root_.PySem.W _root_.PyProof.Rows _root_.PySem.Calls _root_.PySem.Spec
set_option Elab.async false
set_option maxRecDepth 100000
set_option maxHeartbeats 8000000

def epsW : World := ⟨fun _ _ => 0, { strHash := fun _ => 0, shareClass := fun _ => 0, mergeTok := id, idOf := fun _ => 0, idOfShared := fun _ _ => 0, followText := fun _ => true, idOfImm := fun _ => 0 }⟩
def Keep {P : Prop} (_ : P) : Prop := True
theorem kp9 {P : Prop} {q : P} (h : P) (_ : Keep h → Keep q) : Keep q := trivial
def Bx (P : Prop) : Prop := P
theorem bxT {P : Prop} (h : P) : Bx P = True := eq_true h
theorem ubx {P : Prop} (h : Bx P) : P := h
theorem tyP {P : Prop} (h : P) : P := h
@[reducible] def Cl (α : Type) : Type := α
noncomputable def epsC {α : Type} [Inhabited α] (P : α → Prop) : α := @Classical.epsilon α ⟨default⟩ fun e => ¬ P e
def Ap {α : Type} (P : α → Prop) (x : α) : Prop := P x
theorem eps_cl {α : Type} [Inhabited α] {P : α → Prop} (h : Ap P (epsC P)) : ∀ e, P e := fun e => Classical.byContradiction fun he => (@Classical.epsilon_spec α (fun e => ¬ P e) ⟨e, he⟩) h
theorem eps_lt {α : Type} [Inhabited α] {P : α → Prop} (h : let x : Cl α := epsC P; Ap P x) : ∀ e, P e := eps_cl h
theorem eps_lp {α : Type} [Inhabited α] {P : α → Prop} (h : let x : α := epsC P; Ap P x) : ∀ e, P e := eps_cl h
theorem eps_lts {P : Shared → Prop} (h : let x : Cl Shared := @epsC Shared ⟨{}⟩ P; Ap P x) : ∀ e, P e := @eps_cl Shared ⟨{}⟩ P h
theorem eps_lps {P : Shared → Prop} (h : let x : Shared := @epsC Shared ⟨{}⟩ P; Ap P x) : ∀ e, P e := @eps_cl Shared ⟨{}⟩ P h
theorem eps_ltw {P : World → Prop} (h : let x : Cl World := @epsC World ⟨epsW⟩ P; Ap P x) : ∀ e, P e := @eps_cl World ⟨epsW⟩ P h
theorem eps_lpw {P : World → Prop} (h : let x : World := @epsC World ⟨epsW⟩ P; Ap P x) : ∀ e, P e := @eps_cl World ⟨epsW⟩ P h
def Hd (P : Prop) : Prop := P
def hd_in {P : Prop} (h : Hd P) : P := h
def hd_out {P : Prop} (h : P) : Hd P := h
def ap_mk {α : Type} {P : α → Prop} {x : α} (h : P x) : Ap P x := h
def LtK (D : Nat) : List (Addr × Obj) → Prop → Prop
  | [], G => G
  | (x, _) :: l, G => @LT.lt Nat _ x D → LtK D l G
theorem ltk_of {D : Nat} {G : Prop} (g : G) : ∀ {l : List (Addr × Obj)}, LtK D l G
  | [] => g
  | (_, _) :: _ => fun _ => ltk_of g
theorem lt_all {D : Addr} {G : Prop} : ∀ {l : List (Addr × Obj)}, (∀ p ∈ l, p.1 < D) → LtK D l G → G
  | [], _, k => k
  | (_, _) :: _, h, k => lt_all (fun p hp => h p (.tail _ hp)) (k (h _ (.head _)))
theorem ltk_nil {D : Nat} {G : Prop} (g : G) : LtK D [] G := g
theorem ltk_tail {D : Addr} {G : Prop} {l : List (Addr × Obj)} (h : ∀ p ∈ l, p.1 < D) (k : AllLt D l → G) : LtK D l G := ltk_of (k (allLt_of h))
def NeK (D : Nat) : List (Addr × Obj) → Prop → Prop
  | [], G => G
  | (x, _) :: l, G => @Ne Nat x D → NeK D l G
theorem nek_of {D : Nat} {G : Prop} (g : G) : ∀ {l : List (Addr × Obj)}, NeK D l G
  | [] => g
  | (_, _) :: _ => fun _ => nek_of g
theorem ne_all {D : Nat} {G : Prop} : ∀ {l : List (Addr × Obj)}, (∀ p ∈ l, @Ne Nat p.1 D) → NeK D l G → G
  | [], _, k => k
  | (_, _) :: _, h, k => ne_all (fun p hp => h p (.tail _ hp)) (k (h _ (.head _)))
theorem nek_nil {D : Nat} {G : Prop} (g : G) : NeK D [] G := g
theorem nek_tail {D : Nat} {G : Prop} {l : List (Addr × Obj)} (h : ∀ p ∈ l, @Ne Nat p.1 D) (k : (∀ p ∈ l, @Ne Nat p.1 D) → G) : NeK D l G := nek_of (k h)
def OffK (I C D : Addr) : List (Addr × Obj) → Prop → Prop
  | [], G => G
  | (x, _) :: l, G => @Ne Nat x I → @Ne Nat x C → @Ne Nat x D → OffK I C D l G
theorem offk_of {I C D : Addr} {G : Prop} (g : G) : ∀ {l : List (Addr × Obj)}, OffK I C D l G
  | [] => g
  | (_, _) :: _ => fun _ _ _ => offk_of g
theorem off_all {I C D : Addr} {G : Prop} : ∀ {l : List (Addr × Obj)}, LCg.Off3 I C D l → OffK I C D l G → G
  | [], _, k => k
  | (_, _) :: _, h, k => off_all h.2 (k h.1.1 h.1.2.1 h.1.2.2)
theorem offk_nil {I C D : Addr} {G : Prop} (g : G) : OffK I C D [] G := g
theorem offk_tail {I C D : Addr} {G : Prop} {l : List (Addr × Obj)} (h : LCg.Off3 I C D l) (k : LCg.Off3 I C D l → G) : OffK I C D l G := offk_of (k h)
theorem bytes_elim {A : Array UInt8 → List Int → Prop} {C : List Int → Prop} {v : Value} {G : Value → Prop} (h : ∃ b t ks, v = .bytes b t ∧ A b ks ∧ C ks) (k : ∀ b t ks, A b ks → C ks → G (.bytes b t)) : G v :=
  Exists.elim h fun b h => Exists.elim h fun t h => Exists.elim h fun ks h => h.1 ▸ k b t ks h.2.1 h.2.2
theorem int_elim {A C : Int → Prop} {v : Value} {G : Value → Prop} (h : ∃ r t, v = .int r t ∧ A r ∧ C r) (k : ∀ r t, A r → C r → G (.int r t)) : G v :=
  Exists.elim h fun r h => Exists.elim h fun t h => h.1 ▸ k r t h.2.1 h.2.2
theorem eq_elim {α : Type} {V : Tok → α} {v : α} {G : α → Prop} (h : ∃ t, v = V t) (k : ∀ t, G (V t)) : G v := Exists.elim h fun t h => h ▸ k t
theorem nameL {M : Model} {A : Around} {h₀ : Heap} {L a : Addr} {cn : Str} {cs : Scope} {ccd : Value} {cl : List (Str × Addr)} {m : Str → Option Value} {x : Str} (hk : cs.kind = .function) (hx : (envX cn cs L a ccd cl).kindOf x = some .local) (hd : (x == ("__debug__" : Str)) = false) {pos : Pos} {E : Value → Shared → Prop} {s : Shared} {v : Value} {Q : Value → Shared → Prop} (F : Fr h₀ L s.heap m) (hv : m x = some v) (h : Q v s) :
    wpAny M A (eval (.Name x pos) (envX cn cs L a ccd cl)) Q E s := nameX_L F hv h hk hx hd
theorem mem_hd {a : Addr × Obj} {l : List (Addr × Obj)} : a ∈ a :: l := List.Mem.head _
theorem mem_tl {a b : Addr × Obj} {l : List (Addr × Obj)} (h : a ∈ l) : a ∈ b :: l := List.Mem.tail _ h
theorem and3 {a b c G : Prop} (h : a ∧ b ∧ c) (k : a → b → c → G) : G := k h.1 h.2.1 h.2.2
theorem off_tl {I C D : Addr} {p : Addr × Obj} {l : List (Addr × Obj)} (h : LCg.Off3 I C D (p :: l)) : LCg.Off3 I C D l := h.2
noncomputable def epsOf {α : Type} (a : α) (P : α → Prop) : α := @Classical.epsilon α ⟨a⟩ fun e => ¬ P e
theorem eps_all {α : Type} (a : α) (P : α → Prop) (h : P (epsOf a P)) : ∀ e, P e := fun e => Classical.byContradiction fun he => (@Classical.epsilon_spec α (fun e => ¬ P e) ⟨e, he⟩) h
theorem room9 {a c d r : Nat} (h : a + d < r) (e : c ≤ d) : a + c < r := Nat.lt_of_le_of_lt (Nat.add_le_add_left e a) h
set_option genInjectivity false in
set_option genSizeOf false in
structure KV where
  p : Program
  loose : List Str
  mean : ExcName → Option Value
  mg : Str → Option Value
  mb : Str → Option Value
  dp : Nat
  un : Nat
  gd : Option (List Code)
  cn : Str
  cs : Scope
  a : Addr
  ccd : Value
  cl : List (Str × Addr)
  outer : List Env
  A₀ : Around
  base : Heap
  h₀ : Heap
  L : Addr
  m : Str → Option Value
  news : List (Addr × Obj)
  s : Shared
  Q : Value → Shared → Prop
  E : Value → Shared → Prop
def kv9 : KV := ⟨default, default, default, default, default, default, default, default, default, default, default, default, default, default, {}, default, default, default, default, default, {}, default, default⟩
theorem eps_ltk {P : KV → Prop} (h : let x : Cl KV := @epsC KV ⟨kv9⟩ P; Ap P x) : ∀ e, P e := @eps_cl KV ⟨kv9⟩ P h
def KV.to (v : KV) (f : Program → List Str → (ExcName → Option Value) → (Str → Option Value) → (Str → Option Value) → Nat → Nat → Option (List Code) → Str → Scope → Addr → Value → List (Str × Addr) → List Env → Around → Heap → Heap → Addr → (Str → Option Value) → List (Addr × Obj) → Shared → (Value → Shared → Prop) → (Value → Shared → Prop) → Prop) : Prop := f v.p v.loose v.mean v.mg v.mb v.dp v.un v.gd v.cn v.cs v.a v.ccd v.cl v.outer v.A₀ v.base v.h₀ v.L v.m v.news v.s v.Q v.E
abbrev PR : Program := PySem.Challenge.rw_rg0257_01.row.prog
abbrev RW : PySem.W.OpenLaw := PySem.Challenge.rw_rg0257_01

def PureC (w : World) (d : Nat) (f : Addr) (vs : List Value) (P : Value → Prop) : Prop :=
  ∀ (p : Program) (loose : List Str) (mean : ExcName → Option Value) (mg mb : Str → Option Value)
    (dp un : Nat) (gd : Option (List Code)) (cn : Str) (cs : Scope) (a : Addr) (ccd : Value) (cl : List (Str × Addr)) (outer : List Env) (A₀ : Around) (base h₀ : Heap) (L : Addr) (m : Str → Option Value) (news : List (Addr × Obj)) (s : Shared) (Q E : Value → Shared → Prop),
    Below A₀ base outer h₀ → Fr h₀ L s.heap m → (hd.heap_1 w.params).In h₀ → News h₀ L s.heap news → Top p loose mean mg mb h₀ → cs.kind = .function →
    dp + d < recursionLimit → un + 8 * d < cLine →
    (∀ v h' tk', Fr h₀ L h' m → News h₀ L h' news → P v → Q v { s with heap := h', toks := tk' }) →
    wpAny (model PR w) (ktrTop dp un gd cn cs L a ccd cl outer) (call (.ref f) vs) Q E s
def PureC9 (w : World) (d : Nat) (f : Addr) (vs : List Value) (P : Value → Prop) (p : Program) (loose : List Str) (mean : ExcName → Option Value) (mg : Str → Option Value) (mb : Str → Option Value) (dp : Nat) (un : Nat) (gd : Option (List Code)) (cn : Str) (cs : Scope) (a : Addr) (ccd : Value) (cl : List (Str × Addr)) (outer : List Env) (A₀ : Around) (base : Heap) (h₀ : Heap) (L : Addr) (m : Str → Option Value) (news : List (Addr × Obj)) (s : Shared) (Q : Value → Shared → Prop) (E : Value → Shared → Prop) : Prop :=
    Below A₀ base outer h₀ → Fr h₀ L s.heap m → (hd.heap_1 w.params).In h₀ → News h₀ L s.heap news → Top p loose mean mg mb h₀ → cs.kind = .function →
    dp + d < recursionLimit → un + 8 * d < cLine →
    (∀ v h' tk', Fr h₀ L h' m → News h₀ L h' news → P v → Q v { s with heap := h', toks := tk' }) →
    wpAny (model PR w) (ktrTop dp un gd cn cs L a ccd cl outer) (call (.ref f) vs) Q E s
theorem PureC_of (w : World) (d : Nat) (f : Addr) (vs : List Value) (P : Value → Prop) (h : ∀  (v : KV), v.to (PureC9 w d f vs P)) : PureC w d f vs P := fun p loose mean mg mb dp un gd cn cs a ccd cl outer A₀ base h₀ L m news s Q E => h  ⟨p, loose, mean, mg, mb, dp, un, gd, cn, cs, a, ccd, cl, outer, A₀, base, h₀, L, m, news, s, Q, E⟩


theorem PureC.use {w : World} {d : Nat} {f : Addr} {vs : List Value} {P : Value → Prop} {p : Program} {loose : List Str} {mean : ExcName → Option Value} {mg mb : Str → Option Value}
    {dp un : Nat} {gd : Option (List Code)} {cn : Str} {cs : Scope} {a : Addr} {ccd : Value} {cl : List (Str × Addr)} {outer : List Env} {A₀ : Around} {base h₀ : Heap} {L : Addr} {m : Str → Option Value} {news : List (Addr × Obj)} {s : Shared} {Q E : Value → Shared → Prop}
    (C : PureC w d f vs P) (B : Below A₀ base outer h₀) (F : Fr h₀ L s.heap m) (X : (hd.heap_1 w.params).In h₀) (N : News h₀ L s.heap news) (T : Top p loose mean mg mb h₀) (hk : cs.kind = .function)
    (h1 : dp + d < recursionLimit) (h2 : un + 8 * d < cLine)
    (ret : ∀ v h' tk', Fr h₀ L h' m → News h₀ L h' news → P v → Q v { s with heap := h', toks := tk' }) :
    wpAny (model PR w) (ktrTop dp un gd cn cs L a ccd cl outer) (call (.ref f) vs) Q E s :=
  C _ _ _ _ _ _ _ _ _ _ _ _ _ _ _ _ _ _ _ _ _ _ _ B F X N T hk h1 h2 ret

def IntIn (lo hi : Int) (v : Value) : Prop := ∃ r t, v = .int r t ∧ lo ≤ r ∧ r < hi
def BytesOf (n : Nat) (v : Value) : Prop := ∃ b t ks, v = .bytes b t ∧ PySem.W.KBw.bInts b = ks ∧ ks.length = n

abbrev MODV : Int := 170141183460469231731687303715884105727
end
section

end
section
open _root_.PySem _root_.PySem.W _root_.PyProof.Rows _root_.PySem.Calls _root_.PySem.Spec
set_option Elab.async false
set_option maxRecDepth 100000
set_option maxHeartbeats 800000
open _root_.PySem.Builtin.Bytes (exported exportsOf)

def expF (a : Addr) (x : Code × Pos) : Bool :=
  PySem.Builtin.Bytes.exported.match_1 (fun _ => Bool) x (fun v _ _ _ => Builtin.Bytes.sameRef v (.ref a)) (fun v _ _ _ => Builtin.Bytes.sameRef v (.ref a))
    (fun _ v _ _ _ => Builtin.Bytes.sameRef v (.ref a)) (fun v _ _ _ => Builtin.Bytes.sameRef v (.ref a))
    (fun _ _ held _ _ => held.any (Builtin.Bytes.sameRef (.ref a)))
    (fun id v _ _ _ => Builtin.Bytes.sameRef v (.ref a) && Builtin.Bytes.decodersThatHold.contains id) (fun _ => false)
theorem ne_held {id k : String} (h : Builtin.Bytes.decodersThatHold.contains id = false ∧ guardIds.contains id = false) (hk : (Builtin.Bytes.decodersThatHold.contains k || guardIds.contains k) = true) : ¬ id = k := fun e => by
  subst e
  rw [h.1, h.2] at hk
  exact Bool.false_ne_true hk
theorem exported_false {a : Addr} {c : Code} {p : Pos} (h : decFree c = true) : expF a (c, p) = false := by
  cases c with
  | builtin id args =>
    have n : ∀ k, (Builtin.Bytes.decodersThatHold.contains k || guardIds.contains k) = true → ¬ id = k := fun k hk => ne_held (by
      have h1 := (Bool.and_eq_true _ _).mp (show ((!Builtin.Bytes.decodersThatHold.contains id) && (!guardIds.contains id)) = true from h)
      exact ⟨(Bool.not_eq_true' _).mp h1.1, (Bool.not_eq_true' _).mp h1.2⟩) hk
    have h' : Builtin.Bytes.decodersThatHold.contains id = false ∧ guardIds.contains id = false := by
      have h1 := (Bool.and_eq_true _ _).mp (show ((!Builtin.Bytes.decodersThatHold.contains id) && (!guardIds.contains id)) = true from h)
      exact ⟨(Bool.not_eq_true' _).mp h1.1, (Bool.not_eq_true' _).mp h1.2⟩
    delta expF PySem.Builtin.Bytes.exported.match_1
    show dite (id = "bytearray.__contains__") _ _ = false
    rw [dif_neg (n "bytearray.__contains__" (by decide +kernel))]
    rw [dif_neg (n "bytearray.__mod__" (by decide +kernel))]
    rw [dif_neg (n "bytearray.__rmod__" (by decide +kernel))]
    rw [dif_neg (n "_struct.pack_into.held" (by decide +kernel))]
    rw [dif_neg (n "bytearray.find.held" (by decide +kernel))]
    rcases args with ⟨_ | ⟨v, l⟩, kw⟩
    · rfl
    · show (_ && _) = false
      rw [h'.1, Bool.and_false]
  | _ => rfl

theorem wpG_exported {M : Model} {A : Around} {E : Value → Shared → Prop} {s : Shared} {a : Addr} {Q : Bool → Shared → Prop} (h : Q false s) : wpG M A (exported (.ref a)) Q E s := fun Γ p hΓ hD => by
  show Q (((Γ.code, p) :: Γ.below).any _) s
  have e : ∀ l : List (Code × Pos), (∀ x ∈ l, decFree x.1 = true) → l.any (expF a) = false := fun l hl => by
    rw [List.any_eq_false]
    intro x hx
    rw [exported_false (hl x hx)]
    exact Bool.false_ne_true
  have e' := e ((Γ.code, p) :: Γ.below) (fun x hx => by
    rcases List.mem_cons.mp hx with rfl | hx
    · exact hD.1
    · exact hD.2 x hx)
  exact (congrArg (fun b => Q b s) e').mpr h
end
section
open _root_.PySem _root_.PySem.W _root_.PyProof.Rows _root_.PySem.Calls _root_.PySem.Spec
set_option Elab.async false
set_option maxRecDepth 100000
set_option maxHeartbeats 800000
open _root_.PySem.Builtin.Bytes (exported exportsOf)
namespace FB
theorem mro_ba : mroOf (.type "bytearray") = pure [.type "bytearray", .type "object"] := by rw [mroOf_type]; kernel_rfl
theorem lookup_new : typeLookup (.type "bytearray") "__new__" = pure (some (.builtin "bytearray.__new__")) := by rw [typeLookup_type, builtinLookup_eq_fast]; kernel_rfl
theorem slot_init : Slot "bytearray" "__init__" "bytearray.__init__" :=
  .of (owner := "bytearray") (n := "__init__") (by rw [typeLookup_type, builtinLookup_eq_fast]; kernel_rfl) (by decide +kernel) (by decide +kernel) (by decide +kernel)
    (by first | exact .inl (by decide +kernel) | exact .inr (by decide +kernel)) (by rw [isSubtype_type]; kernel_rfl)
theorem made : Bind.madeBy (.type "bytearray") = pure (some "bytearray.__new__") := madeBy_type mro_ba lookup_new (by decide +kernel)
theorem sub : isSubtype (.type "bytearray") (.type "bytearray") = pure true := by rw [isSubtype_type]; kernel_rfl
theorem typeCall (a : Value) : checkTypeCall "bytearray" ⟨[a], []⟩ = pure () := by kernel_rfl
theorem newCall (a : Value) : checkBuiltinCall "bytearray.__new__" ⟨[.type "bytearray", a], []⟩ = pure () := by kernel_rfl
theorem entry_new : entryFor table "bytearray.__new__" = some Builtin.«list.__new__» := entryFor_alias (id' := "list.__new__") (by rw [fastTable_eq_tree]; kernel_rfl) (by first | rfl | decide +kernel) (by decide +kernel) (by rw [fastTable_eq_tree]; kernel_rfl)
theorem entry_init : entryFor table "bytearray.__init__" = some Builtin.«bytearray.__init__» := entryFor_of_tree (by kernel_rfl)
theorem plain_new : plainId "bytearray.__new__" = true := by decide +kernel
theorem plain_init : plainId "bytearray.__init__" = true := by decide +kernel
theorem init_args (a b : Value) : argsOk "bytearray.__init__" ⟨[a, b], []⟩ := by kernel_rfl
theorem bind1 (v : Value) : Builtin.Bytes.bindOptional "bytearray.__init__" "bytearray" ["source", "encoding", "errors"] [v] [] = pure [some v, none, none] := by kernel_rfl
theorem rel : typeLookup (.type "bytearray") "__release_buffer__" = pure (some (.builtin "bytearray.__release_buffer__")) := by rw [typeLookup_type, builtinLookup_eq_fast]; kernel_rfl
theorem owner : ("bytearray.__new__".splitOn ".__new__").headD "" = "bytearray" := by rw [split_bytearray]; rfl
theorem cannot : ((Manifest.find? "bytearray").bind (·.mro.findSome? fun t => (Manifest.find? t).bind fun b => if b.noNew then some true else if b.attrs.any (·.1 == "__new__") then some false else none)).getD false = false := by decide +kernel
end FB
abbrev baObj (b : Array UInt8) : Obj := { cls := .type "bytearray", data := .bytearray b }

section
variable {prog : Program} {w : World} {A : Around} {E : Value → Shared → Prop} {s : Shared}
theorem ba_new (a : Value) {Q₁ : Value → Shared → Prop}
    (h : Q₁ (.ref s.heap.objs.size) { s with heap := s.heap.push (baObj #[]) }) :
    codeAny (model prog w) A (.call (.builtin "bytearray.__new__") ⟨[.type "bytearray", a], []⟩) (wants Q₁ E) s := by
  refine codeAny_of_tree ?_
  show wpAny _ A.in1 (do checkBuiltinCall "bytearray.__new__" ⟨[.type "bytearray", a], []⟩; again (.builtin "bytearray.__new__" ⟨[.type "bytearray", a], []⟩)) _ _ s
  refine wpAny_bind (wpAny_of_eq (FB.newCall a) (wpAny_pure ⟨plainId_quiet FB.plain_new _, codeAny_builtin_stack FB.entry_new rfl fun p st => ?_⟩))
  rw [Around.under_plainId FB.plain_new _]
  have hsub := FB.sub
  have hown := FB.owner
  obtain ⟨hp, g, d, tk, os⟩ := s
  simp only [hown]
  wp_walk
  exact h
end
end
section
open _root_.PySem _root_.PySem.W _root_.PyProof.Rows _root_.PySem.Calls _root_.PySem.Spec
set_option Elab.async false
set_option maxRecDepth 100000
set_option maxHeartbeats 800000
open _root_.PySem.Builtin.Bytes (exported exportsOf)
section
variable {prog : Program} {w : World} {A : Around} {E : Value → Shared → Prop} {s : Shared}
theorem ba_write {M : Model} {a : Addr} {b : Array UInt8} {f : Array UInt8 → Array UInt8} {Q : Unit → Shared → Prop} (ho : s.heap.get? a = some (baObj b)) (hz : (f b).size ≤ sizeLine)
    (h : ∀ h', h'.get? a = some (baObj (f b)) → Heap.SameBut a s.heap h' → Q () { s with heap := h' }) : wpAny M A (Builtin.Bytes.write (.ref a) f) Q E s := by
  show wpAny _ _ (updateBytearray a f) _ _ _
  unfold updateBytearray
  refine wpAny_bind (wpAny_load ho ?_)
  show wpAny _ _ (update a (Obj.mapBytearray f) >>= fun _ => lookBehind a) _ _ _
  refine wpAny_bind (wpAny_update ho ?_)
  have h2 : (s.heap.update a (Obj.mapBytearray f)).get? a = some (baObj (f b)) := Heap.get?_update_self (Obj.mapBytearray f) ho rfl
  refine wpAny_lookBehind h2 ?_ (h _ h2 (Heap.SameBut.update ..))
  show (if (f b).size > sizeLine then some "bytearray:memory" else none) = none
  rw [if_neg (Nat.not_lt.mpr hz)]

def ba_init_B (prog : Program) (w : World) (A : Around) (E : Value → Shared → Prop) (s : Shared) (a : Addr) (n : Nat) (k : Int) (t : Tok) (Q : Fin → Shared → Prop) : Prop := ∀ (hk : k = n) (ho : s.heap.get? a = some (baObj #[])) (h0 : 0 < n) (hn : n ≤ 1000) (h : ∀ h', h'.get? a = some (baObj (Array.replicate n 0)) → Heap.SameBut a s.heap h' → Q (.done (.ret .none)) { s with heap := h' }), wpG (model prog w) A (Builtin.«bytearray.__init__» ⟨[.ref a, .int k t], []⟩) Q E s
def ba_init_P (e : Program × World × Around × (Value → Shared → Prop) × Shared × Addr × Nat × Int × Tok × (Fin → Shared → Prop)) : Prop := ba_init_B e.1 e.2.1 e.2.2.1 e.2.2.2.1 e.2.2.2.2.1 e.2.2.2.2.2.1 e.2.2.2.2.2.2.1 e.2.2.2.2.2.2.2.1 e.2.2.2.2.2.2.2.2.1 e.2.2.2.2.2.2.2.2.2
@[irreducible] noncomputable def ba_init_e : Program × World × Around × (Value → Shared → Prop) × Shared × Addr × Nat × Int × Tok × (Fin → Shared → Prop) := epsOf (default, epsW, {}, default, {}, default, default, default, default, default) ba_init_P
@[irreducible] noncomputable def ba_init_k_prog : Program := ba_init_e.1
@[irreducible] noncomputable def ba_init_k_w : World := ba_init_e.2.1
@[irreducible] noncomputable def ba_init_k_A : Around := ba_init_e.2.2.1
@[irreducible] noncomputable def ba_init_k_E : Value → Shared → Prop := ba_init_e.2.2.2.1
@[irreducible] noncomputable def ba_init_k_s : Shared := ba_init_e.2.2.2.2.1
@[irreducible] noncomputable def ba_init_k_a : Addr := ba_init_e.2.2.2.2.2.1
@[irreducible] noncomputable def ba_init_k_n : Nat := ba_init_e.2.2.2.2.2.2.1
@[irreducible] noncomputable def ba_init_k_k : Int := ba_init_e.2.2.2.2.2.2.2.1
@[irreducible] noncomputable def ba_init_k_t : Tok := ba_init_e.2.2.2.2.2.2.2.2.1
@[irreducible] noncomputable def ba_init_k_Q : Fin → Shared → Prop := ba_init_e.2.2.2.2.2.2.2.2.2
theorem ba_init_0 : ba_init_B ba_init_k_prog ba_init_k_w ba_init_k_A ba_init_k_E ba_init_k_s ba_init_k_a ba_init_k_n ba_init_k_k ba_init_k_t ba_init_k_Q := by
  unfold ba_init_B
  generalize ba_init_k_prog = prog
  generalize ba_init_k_w = w
  generalize ba_init_k_A = A
  generalize ba_init_k_E = E
  generalize ba_init_k_s = s
  generalize ba_init_k_a = a
  generalize ba_init_k_n = n
  generalize ba_init_k_k = k
  generalize ba_init_k_t = t
  generalize ba_init_k_Q = Q
  intro hk ho h0 hn h
  have hT : s.TypeIs (.ref a) "bytearray" := ⟨_, ho, rfl⟩
  unfold Builtin.«bytearray.__init__»
  refine wpG_bind ?_
  show wpG _ _ (Builtin.Bytes.slotIsOwn (.ref a) "__release_buffer__" >>= fun b => pure !b) _ _ _
  unfold Builtin.Bytes.slotIsOwn
  refine wpG_bind (wpG_bind (wpG_any (wpAny_specialOf hT FB.rel ?_)))
  dsimp only
  rw [if_neg (show ¬ ((!"bytearray.__release_buffer__".endsWith ("." ++ "__release_buffer__")) = true) by decide +kernel)]
  rw [show ("bytearray.__release_buffer__".dropRight ("__release_buffer__".length + 1)) = "bytearray" from by decide +kernel]
  refine wpG_any (wpAny_isInstance hT FB.sub ?_)
  refine wpG_any (wpAny_pure ?_)
  show wpG _ _ (if (!true) = true then _ else _) _ _ _
  rw [if_neg (by decide)]
  refine wpG_bind (wpG_any (wpAny_of_eq (FB.bind1 _) ?_))
  dsimp only
  refine wpG_bind (wpG_any (wpAny_pure ?_))
  refine wpG_bind (wpG_any (wpAny_pure ?_))
  refine wpG_bind ?_
  unfold orM
  refine wpG_bind (wpG_exported ?_)
  show wpG _ _ (exportsOf (.ref a) >>= fun n => pure (decide (n > 0))) _ _ _
  refine wpG_bind ?_
  unfold exportsOf
  refine wpG_bind (wpG_any (wpAny_load ho (wpG_any (wpAny_pure ?_))))
  refine wpG_any (wpAny_pure ?_)
  rw [if_neg (by decide)]
  refine wpG_bind (wpG_any (ba_write ho (Nat.zero_le _) fun h1 hh1 hs1 => ?_))
  have eA : asStr? (.int k t) = pure none := rfl
  refine wpG_bind ?_
  rw [eA]
  refine wpG_any (wpAny_pure ?_)
  rw [if_neg (by decide), if_neg (by decide), if_neg (by decide)]
  refine wpG_bind (wpG_any (wpAny_pure ?_))
  refine wpG_bind (wpG_any (wpAny_specialOf (typeIs_int _ _ _) int_index ?_))
  rw [if_pos (by rfl)]
  refine wpG_bind (wpG_any (wpAny_attempt (wpAny_of_eq (rfl : asIndex (.int k t) = pure k) ?_)))
  dsimp only
  have e1 : (!Builtin.Bytes.fitsIndex k) = false := by
    unfold Builtin.Bytes.fitsIndex
    simp only [Bool.not_eq_false', Bool.and_eq_true, decide_eq_true_eq]
    omega
  rw [if_neg (by rw [e1]; exact Bool.false_ne_true), if_neg (by omega), if_neg (by simp only [beq_iff_eq]; omega)]
  have e2 : Builtin.Bytes.tooLong k.toNat = false := by
    unfold Builtin.Bytes.tooLong
    simp only [decide_eq_false_iff_not, sizeLine_eq]
    omega
  rw [if_neg (by rw [e2]; exact Bool.false_ne_true)]
  refine wpG_bind (wpG_any (wpAny_rule ?_))
  rw [if_pos (by omega)]
  refine wpG_bind (wpG_any (ba_write hh1 (by simp only [Array.size_replicate, sizeLine_eq]; omega) fun h2 hh2 hs2 => ?_))
  refine wpG_any (wpAny_pure ?_)
  have e3 : k.toNat = n := by omega
  rw [e3] at hh2
  exact h h2 hh2 (hs1.trans hs2)
theorem ba_init {a : Addr} {n : Nat} {k : Int} {t : Tok} {Q : Fin → Shared → Prop} (hk : k = n) (ho : s.heap.get? a = some (baObj #[])) (h0 : 0 < n) (hn : n ≤ 1000)
    (h : ∀ h', h'.get? a = some (baObj (Array.replicate n 0)) → Heap.SameBut a s.heap h' → Q (.done (.ret .none)) { s with heap := h' }) :
    wpG (model prog w) A (Builtin.«bytearray.__init__» ⟨[.ref a, .int k t], []⟩) Q E s := by
  exact eps_all (default, epsW, {}, default, {}, default, default, default, default, default) ba_init_P (by with_unfolding_all exact ba_init_0) (prog, w, A, E, s, a, n, k, t, Q) hk ho h0 hn h
end
end
section
open _root_.PySem _root_.PySem.W _root_.PyProof.Rows _root_.PySem.Calls _root_.PySem.Spec
set_option Elab.async false
set_option maxRecDepth 100000
set_option maxHeartbeats 800000
section
variable {prog : Program} {w : World} {A : Around} {E : Value → Shared → Prop} {s : Shared} {R : Result → Shared → Prop}
theorem codeG_builtin {id : String} {args : Args} {b : Builtin} (hb : entryFor table id = some b)
    (h : wpG (model prog w) (A.under (.builtin id args)) (b args)
      (fun fin s' => match fin with | .done f => R (.ok f) s' | .again c' => c'.quiet = true ∧ decFree c' = true ∧ codeG (model prog w) A c' R s') (fun e s' => R (.error e) s') s) :
    codeG (model prog w) A (.builtin id args) R s := by
  refine codeG_of_tree ?_
  show wpG _ _ (match entryFor table id with | some b => b args | none => unsupported ((withoutEnding? id "#data").getD id)) _ _ s
  rw [hb]; exact h
theorem decFree_type : decFree (.builtin "type.__call__" args) = true := by show (!(Builtin.Bytes.decodersThatHold.contains "type.__call__") && !(guardIds.contains "type.__call__")) = true; decide +kernel
theorem decFree_init : decFree (.builtin "bytearray.__init__" args) = true := by show (!(Builtin.Bytes.decodersThatHold.contains "bytearray.__init__") && !(guardIds.contains "bytearray.__init__")) = true; decide +kernel

theorem ba_call {n : Nat} {k : Int} {t : Tok} {Q : Value → Shared → Prop} (hk : k = n) (h0 : 0 < n) (hn : n ≤ 1000)
    (h : ∀ h' a, a = s.heap.objs.size → h'.get? a = some (baObj (Array.replicate n 0)) → (∀ b o, s.heap.get? b = some o → h'.get? b = some o) → Q (.ref a) { s with heap := h' }) :
    wpG (model prog w) A (call (.type "bytearray") [.int k t]) Q E s := by
  refine wpG_call (codeG_of_tree ?_)
  show wpG _ _ (callAny (.type "bytearray") _) _ _ _
  refine wpG_any (wpAny_pure ⟨Code.quiet_builtin _ (by decide +kernel), decFree_type, codeG_builtin F.entry_type_call ?_⟩)
  rw [Around.under_plain (weight_type_call_type "bytearray" [.int k t] []) rfl]
  unfold Builtin.«type.__call__»
  dsimp only
  rw [if_neg (by decide)]
  rw [if_neg (show ¬ (_ = true) by rw [show (((Manifest.find? "bytearray").bind fun x => List.findSome? (fun t => (Manifest.find? t).bind fun b => if b.noNew = true then some true else if (b.attrs.any fun x => x.fst == "__new__") = true then some false else none) x.mro).getD false) = false from FB.cannot]; exact Bool.false_ne_true)]
  refine wpG_bind (wpG_any (wpAny_of_eq (FB.typeCall _) ?_))
  refine wpG_bind (wpG_any (wpAny_of_eq FB.mro_ba ?_))
  rw [if_neg (by decide)]
  refine wpG_bind (wpG_any (wpAny_of_eq FB.made ?_))
  dsimp only
  refine wpG_bind (wpG_any (wpAny_pure ?_))
  refine wpG_bind (wpG_any (wpAny_holding (wpAny_call (codeAny_mono (ba_new (E := fun _ _ => False) (Q₁ := fun v s' => v = .ref s.heap.objs.size ∧ s' = { s with heap := s.heap.push (baObj #[]) }) _ ⟨rfl, rfl⟩) ?_))))
  rintro r s' hr
  cases r with
  | error e => exact hr.elim
  | ok fl =>
    cases fl with
    | ret v =>
      obtain ⟨rfl, rfl⟩ := hr
      have ho : (s.heap.push (baObj #[])).get? s.heap.objs.size = some (baObj #[]) := Heap.get?_push_size _ rfl
      have hT : ({ s with heap := s.heap.push (baObj #[]) } : Shared).TypeIs (.ref s.heap.objs.size) "bytearray" := ⟨_, ho, rfl⟩
      show wpG _ _ _ _ _ _
      refine wpG_bind (wpG_any (wpAny_isInstance hT FB.sub ?_))
      rw [if_neg (by decide)]
      refine wpG_bind (wpG_holding ?_)
      unfold callSpecial?
      refine wpG_bind (wpG_any (wpAny_specialOf hT FB.slot_init.lookup ?_))
      dsimp only
      refine wpG_holding ?_
      refine wpG_bind (wpG_any (wpAny_of_eq (FB.slot_init.bind _) ?_))
      dsimp only
      refine wpG_bind (wpG_call (codeG_of_tree ?_))
      show wpG _ _ (do checkBuiltinCall "bytearray.__init__" ⟨[.ref s.heap.objs.size, .int k t], []⟩; again (.builtin "bytearray.__init__" ⟨[.ref s.heap.objs.size, .int k t], []⟩)) _ _ _
      refine wpG_bind (wpG_any (FB.slot_init.check _ _ _ _ _ _ _ _ hT (FB.init_args _ _) (wpG_any (wpAny_pure ⟨plainId_quiet FB.plain_init _, decFree_init, codeG_builtin FB.entry_init ?_⟩))))
      refine ba_init hk ho h0 hn fun h' hh' hs' => ?_
      refine wpG_any (wpAny_pure ?_)
      show wpG _ _ (if (Value.none != Value.none) = true then _ else _) _ _ _
      rw [if_neg (by decide)]
      refine wpG_any (wpAny_pure ?_)
      exact h h' _ rfl hh' fun b o e => hs'.extBut b o (Nat.ne_of_lt (Heap.lt_size e)) (Heap.get?_push_of_some _ e)
    | _ => exact hr.elim
end
end
section
open _root_.PySem _root_.PySem.W _root_.PyProof.Rows _root_.PySem.Calls _root_.PySem.Spec
set_option Elab.async false
set_option maxRecDepth 100000
set_option maxHeartbeats 800000

def spineName (n : Str) : Bool := ([Str.ofString "bytearray", Str.ofString "put_whole", Str.ofString "put_varint", Str.ofString "put_numbers", Str.ofString "put_ack", Str.ofString "put_frame", Str.ofString "put_frames", Str.ofString "cut_number", Str.ofString "tag_of", Str.ofString "head_mask", Str.ofString "seal_payload", Str.ofString "protected_packet", Str.ofString "put_packet", Str.ofString "sealed"] : List Str).contains n
def spineE : Nat → Expr → Bool
  | 0, _ => true
  | k + 1, e => match e with
    | .Call (.Name id _) args _ _ => spineName id || args.any (spineE k)
    | .Call (.Attribute o _ _) args _ _ => spineE k o || args.any (spineE k)
    | .BinOp l _ r _ => spineE k l || spineE k r
    | .Subscript a b _ => spineE k a || spineE k b
    | .Slice _ _ _ _ => false
    | .List es _ => es.any (spineE k)
    | .Tuple es _ _ => es.any (spineE k)
    | .ListComp elt _ _ _ => spineE k elt
    | .Compare l _ rs _ => spineE k l || rs.any (spineE k)
    | .BoolOp _ es _ => es.any (spineE k)
    | .UnaryOp _ a _ => spineE k a
    | .IfExp a b c _ => spineE k a || spineE k b || spineE k c
    | .Attribute o _ _ => spineE k o
    | .Name _ _ => false
    | .Constant _ _ _ => false
    | _ => true
def spineS : Nat → Stmt → Bool
  | 0, _ => true
  | k + 1, st => match st with
    | .Assign _ e _ => spineE 9 e
    | .AugAssign _ _ e _ => spineE 9 e
    | .Expr e _ => spineE 9 e
    | .Return (some e) _ => spineE 9 e
    | .If t b o _ => spineE 9 t || b.any (spineS k) || o.any (spineS k)
    | .For _ i b o _ => spineE 9 i || b.any (spineS k) || o.any (spineS k)
    | .Raise _ _ _ => false
    | .Return none _ => false
    | _ => true

section
variable {M : Model} {A : Around} {E : Value → Shared → Prop} {s : Shared} {env : Env}
theorem g_leafS {st : Stmt} {Q : Flow → Shared → Prop} (_h : spineS 4 st = false) (h : wpAny M A (exec st env) Q E s) : wpG M A (exec st env) Q E s := wpG_any h
theorem g_leafE {e : Expr} {Q : Value → Shared → Prop} (_h : spineE 9 e = false) (h : wpAny M A (eval e env) Q E s) : wpG M A (eval e env) Q E s := wpG_any h
theorem g_execs_nil {Q : Flow → Shared → Prop} (h : Q .next s) : wpG M A (execs [] env) Q E s := wpG_any (wpAny_execs_nil h)
theorem g_execs_cons {st : Stmt} {rest : List Stmt} {Q : Flow → Shared → Prop}
    (h : wpG M A (exec st env) (fun f s' => match f with | .next => wpG M A (execs rest env) Q E s' | f => Q f s') E s) : wpG M A (execs (st :: rest) env) Q E s := by
  rw [execs_cons]
  refine wpG_bind (wpG_mono h (fun f s' h' => ?_) fun _ _ x => x)
  cases f <;> first | exact h' | exact wpG_any (wpAny_pure h')
theorem g_Return {e : Expr} {pos : Pos} {Q : Flow → Shared → Prop} (h : wpG M A (eval e env) (fun v => Q (.ret v)) E s) : wpG M A (exec (.Return (some e) pos) env) Q E s := by
  rw [exec_Return_some]
  exact wpG_bind (wpG_any (wpAny_standAt (wpG_bind (wpG_mono h (fun _ _ h' => wpG_any (wpAny_pure h')) fun _ _ x => x))))
theorem g_Assign {x : Str} {pos' : Pos} {value : Expr} {pos : Pos} {Q : Flow → Shared → Prop}
    (h : wpG M A (eval value env) (fun v s₁ => wpAny M A (storeName env x v) (fun _ => Q .next) E s₁) E s)
    (hs : swapsWith value (some (.Name x pos')) pos.line env = pure false := by rfl) : wpG M A (exec (.Assign [.Name x pos'] value pos) env) Q E s := by
  rw [exec_Assign_Name env x pos' value pos hs]
  refine wpG_bind (wpG_any (wpAny_standAt (wpG_bind (wpG_mono h (fun v s₁ h₁ => ?_) fun _ _ x => x))))
  exact wpG_bind (wpG_any (wpAny_standAt (wpG_bind (wpG_any (wpAny_bindName (wpAny_mono h₁ (fun _ _ q => wpG_any (wpAny_pure q)) fun _ _ x => x))))))
theorem g_If {test : Expr} {body orelse : List Stmt} {pos : Pos} {Q : Flow → Shared → Prop}
    (h : wpAny M A (isTrue test env (eval test env)) (fun b s₂ => if b = true then wpG M A (execs body env) Q E s₂ else wpG M A (execs orelse env) Q E s₂) E s) : wpG M A (exec (.If test body orelse pos) env) Q E s := by
  rw [exec_If]
  refine wpG_bind (wpG_any (wpAny_standAt (wpG_bind (wpG_any (wpAny_mono h (fun b s₂ h₂ => ?_) fun _ _ x => x)))))
  cases b <;> simpa using h₂
theorem g_CallName {id : Str} {p pos : Pos} {args : List Expr} {Q : Value → Shared → Prop}
    (h : wpAny M A (eval (.Name id p) env) (fun f s₁ => wpG M A (callWith pos f [] (backTo pos (starEach args env)) []) Q E s₁) E s) :
    wpG M A (eval (.Call (.Name id p) args [] pos) env) Q E s := by
  rw [arm_eval_Call_Name']
  exact wpG_bind (wpG_any h)
theorem g_spliced_nil {Q : List Value → Shared → Prop} (h : Q [] s) : wpG M A (spliced []) Q E s := wpG_any (wpAny_pure h)
theorem g_spliced_cons {x : Sem Value} {rest : List (Bool × Sem Value)} {Q : List Value → Shared → Prop}
    (h : wpG M A x (fun v s₁ => wpG M A (spliced rest) (fun vs s₂ => Q (v :: vs) s₂) E s₁) E s) : wpG M A (spliced ((false, x) :: rest)) Q E s := by
  rw [spliced]
  refine wpG_bind (wpG_mono h (fun v s₁ h₁ => ?_) fun _ _ x => x)
  simp only [Bool.false_eq_true, if_false]
  exact wpG_bind (wpG_any (wpAny_pure (wpG_bind (wpG_holding (wpG_mono h₁ (fun vs s₂ h₂ => wpG_any (wpAny_pure h₂)) fun _ _ x => x)))))
theorem g_evalArgs {f : Value} {x : Sem Value} {rest : List (Bool × Sem Value)} {Q : Args → Shared → Prop}
    (h : wpG M A (spliced ((false, x) :: rest)) (fun vs s' => Q ⟨vs, []⟩ s') E s) : wpG M A (evalArgs f true ((false, x) :: rest) []) Q E s := by
  unfold evalArgs
  show wpG M A (spliced ((false, x) :: rest) >>= _) Q E s
  refine wpG_bind (wpG_mono h (fun vs s' h' => ?_) fun _ _ x => x)
  refine wpG_holding ?_
  exact wpG_bind (wpG_any (wpAny_pure (wpG_bind (wpG_any (wpAny_pure (wpG_any (wpAny_pure h')))))))
theorem g_callWith_of {pos : Pos} {f : Value} {first : List Value} {P : Heap → Prop} {x : Sem Value} {rest : List (Bool × Sem Value)} {Q : Value → Shared → Prop} (hplain : rest.any (·.1) = false)
    (hk : ∀ h, P h → ∃ k, Looks M h (keeperOf f) k)
    (h : wpG M A (spliced ((false, x) :: rest)) (fun vs s₁ => P s₁.heap ∧ wpG M A (call f (first ++ vs)) Q E s₁) E s) : wpG M A (callWith pos f first ((false, x) :: rest) []) Q E s := by
  unfold callWith
  refine wpG_bind (wpG_holding (wpG_mono (g_evalArgs (Q := fun a s₁ => P s₁.heap ∧ wpG M A (call f (first ++ a.pos) a.kw) Q E s₁) h) (fun a s₁ h₁ => wpG_bind (wpG_any (wpAny_standAt ?_))) fun _ _ x => x))
  obtain ⟨k, L⟩ := hk _ h₁.1
  have hp : (((false, x) :: rest).any (·.1) || ([] : List (Option Str × Sem Value)).any (·.1.isNone)) = false := by
    show ((false || rest.any (·.1)) || false) = false
    rw [hplain]; rfl
  rw [hp]
  refine wpG_bind (wpG_any (L.here ?_))
  have tail : ∀ {t : Sem Value}, wpG M A t Q E s₁ → wpG M A (t >>= fun r => holding [r] point >>= fun _ => pure r) Q E s₁ :=
    fun ht => wpG_bind (wpG_mono ht (fun r s₂ hr => wpG_bind (wpG_holding (wpG_any (wpAny_point (wpG_any (wpAny_pure hr)))))) fun _ _ x => x)
  have marked (mk : Value) : wpG M A (callMarked mk f (first ++ a.pos) a.kw) Q E s₁ := by unfold callMarked; exact wpG_keep h₁.2
  cases k <;> dsimp only <;> first | exact tail h₁.2 | exact tail (wpG_operate h₁.2) | (split <;> first | exact tail h₁.2 | exact tail (marked _))
theorem g_callWith_K {K : Frag} {pos : Pos} {f : Value} {first : List Value} {h₀ : Heap} {e : Expr} {rest : List Expr} {Q : Value → Shared → Prop} (_X : K.In h₀) (hk : keepIn K f = true)
    (h : wpG M A (spliced (backTo pos (starEach (e :: rest) env))) (fun vs s₁ => K.In s₁.heap ∧ wpG M A (call f (first ++ vs)) Q E s₁) E s)
    (he : starEach (e :: rest) env = (false, eval e env) :: starEach rest env := by rfl) (hplain : (backTo pos (starEach rest env)).any (·.1) = false := by rfl) :
    wpG M A (callWith pos f first (backTo pos (starEach (e :: rest) env)) []) Q E s := by
  rw [he] at h ⊢
  refine g_callWith_of (P := fun h => K.In h) hplain (fun h X => ?_) h
  obtain ⟨k, _, b⟩ := looks_keep (M := M) hk X
  exact ⟨k, b⟩
theorem g_callWith_type {pos : Pos} {T : String} {first : List Value} {e : Expr} {rest : List Expr} {Q : Value → Shared → Prop}
    (h : wpG M A (spliced (backTo pos (starEach (e :: rest) env))) (fun vs s₁ => True ∧ wpG M A (call (.type T) (first ++ vs)) Q E s₁) E s)
    (he : starEach (e :: rest) env = (false, eval e env) :: starEach rest env := by rfl) (hplain : (backTo pos (starEach rest env)).any (·.1) = false := by rfl) :
    wpG M A (callWith pos (.type T) first (backTo pos (starEach (e :: rest) env)) []) Q E s := by
  rw [he] at h ⊢
  exact g_callWith_of (P := fun _ => True) hplain (fun h _ => ⟨_, Looks.of_pure rfl⟩) h
theorem g_spliced_backTo {pos : Pos} {e : Expr} {rest : List Expr} {Q : List Value → Shared → Prop}
    (h : wpG M A (eval e env) (fun v s₁ => wpG M A (spliced (backTo pos (starEach rest env))) (fun vs s₂ => Q (v :: vs) s₂) E s₁) E s)
    (he : starEach (e :: rest) env = (false, eval e env) :: starEach rest env := by rfl) : wpG M A (spliced (backTo pos (starEach (e :: rest) env))) Q E s := by
  rw [he]
  exact g_spliced_cons h
theorem g_BinOp {l r : Expr} {op : Operator} {pos : Pos} {Q : Value → Shared → Prop}
    (h : wpG M A (eval l env) (fun a s₁ => wpG M A (eval r env) (fun b s₂ => wpAny M A (binaryOp op a b) Q E s₂) E s₁) E s) : wpG M A (eval (.BinOp l op r pos) env) Q E s := by
  rw [eval_BinOp]
  refine wpG_bind (wpG_mono h (fun a s₁ h₁ => ?_) fun _ _ x => x)
  exact wpG_bind (wpG_holding (wpG_mono h₁ (fun b s₂ h₂ => wpG_bind (wpG_any (wpAny_standAt (wpG_operate (wpG_any h₂))))) fun _ _ x => x))
end
end
section
open _root_.PySem _root_.PySem.W _root_.PyProof.Rows _root_.PySem.Calls _root_.PySem.Spec
set_option Elab.async false
set_option maxRecDepth 100000
set_option maxHeartbeats 800000
namespace FB
theorem slot_set : Slot "bytearray" "__setitem__" "bytearray.__setitem__" :=
  .of (owner := "bytearray") (n := "__setitem__") (by rw [typeLookup_type, builtinLookup_eq_fast]; kernel_rfl) (by decide +kernel) (by decide +kernel) (by decide +kernel)
    (by first | exact .inl (by decide +kernel) | exact .inr (by decide +kernel)) (by rw [isSubtype_type]; kernel_rfl)
theorem entry_set : entryFor table "bytearray.__setitem__" = some Builtin.«bytearray.__setitem__» := entryFor_of_tree (by kernel_rfl)
theorem set_args (a b c : Value) : argsOk "bytearray.__setitem__" ⟨[a, b, c], []⟩ := by kernel_rfl
theorem buf : typeLookup (.type "bytearray") "__buffer__" = pure (some (.builtin "bytearray.__buffer__")) := by rw [typeLookup_type, builtinLookup_eq_fast]; kernel_rfl
theorem no_bytes : typeLookup (.type "bytearray") "__bytes__" = pure none := by rw [typeLookup_type, builtinLookup_eq_fast]; kernel_rfl
theorem noIndex : typeLookup (.type "bytearray") "__index__" = pure none := by rw [typeLookup_type, builtinLookup_eq_fast]; kernel_rfl
end FB
section
variable {prog : Program} {w : World} {A : Around} {E : Value → Shared → Prop} {s : Shared}
def ba_set_B (prog : Program) (w : World) (A : Around) (E : Value → Shared → Prop) (s : Shared) (a : Addr) (b : Array UInt8) (i : Int) (x : Int) (u : Tok) (t : Tok) (Q : Unit → Shared → Prop) : Prop := ∀ (ho : s.heap.get? a = some (baObj b)) (hi : 0 ≤ i) (hib : i < b.size) (hx : 0 ≤ x) (hx2 : x < 256) (hb : b.size ≤ 1000) (h : ∀ h' b', b'.size = b.size → h'.get? a = some (baObj b') → Heap.SameBut a s.heap h' → Q () { s with heap := h' }), wpAny (model prog w) A (setItem (.ref a) (.int i u) (.int x t)) Q E s
def ba_set_P (e : Program × World × Around × (Value → Shared → Prop) × Shared × Addr × (Array UInt8) × Int × Int × Tok × Tok × (Unit → Shared → Prop)) : Prop := ba_set_B e.1 e.2.1 e.2.2.1 e.2.2.2.1 e.2.2.2.2.1 e.2.2.2.2.2.1 e.2.2.2.2.2.2.1 e.2.2.2.2.2.2.2.1 e.2.2.2.2.2.2.2.2.1 e.2.2.2.2.2.2.2.2.2.1 e.2.2.2.2.2.2.2.2.2.2.1 e.2.2.2.2.2.2.2.2.2.2.2
@[irreducible] noncomputable def ba_set_e : Program × World × Around × (Value → Shared → Prop) × Shared × Addr × (Array UInt8) × Int × Int × Tok × Tok × (Unit → Shared → Prop) := epsOf (default, epsW, {}, default, {}, default, default, default, default, default, default, default) ba_set_P
@[irreducible] noncomputable def ba_set_k_prog : Program := ba_set_e.1
@[irreducible] noncomputable def ba_set_k_w : World := ba_set_e.2.1
@[irreducible] noncomputable def ba_set_k_A : Around := ba_set_e.2.2.1
@[irreducible] noncomputable def ba_set_k_E : Value → Shared → Prop := ba_set_e.2.2.2.1
@[irreducible] noncomputable def ba_set_k_s : Shared := ba_set_e.2.2.2.2.1
@[irreducible] noncomputable def ba_set_k_a : Addr := ba_set_e.2.2.2.2.2.1
@[irreducible] noncomputable def ba_set_k_b : Array UInt8 := ba_set_e.2.2.2.2.2.2.1
@[irreducible] noncomputable def ba_set_k_i : Int := ba_set_e.2.2.2.2.2.2.2.1
@[irreducible] noncomputable def ba_set_k_x : Int := ba_set_e.2.2.2.2.2.2.2.2.1
@[irreducible] noncomputable def ba_set_k_u : Tok := ba_set_e.2.2.2.2.2.2.2.2.2.1
@[irreducible] noncomputable def ba_set_k_t : Tok := ba_set_e.2.2.2.2.2.2.2.2.2.2.1
@[irreducible] noncomputable def ba_set_k_Q : Unit → Shared → Prop := ba_set_e.2.2.2.2.2.2.2.2.2.2.2
theorem ba_set_0 : ba_set_B ba_set_k_prog ba_set_k_w ba_set_k_A ba_set_k_E ba_set_k_s ba_set_k_a ba_set_k_b ba_set_k_i ba_set_k_x ba_set_k_u ba_set_k_t ba_set_k_Q := by
  unfold ba_set_B
  generalize ba_set_k_prog = prog
  generalize ba_set_k_w = w
  generalize ba_set_k_A = A
  generalize ba_set_k_E = E
  generalize ba_set_k_s = s
  generalize ba_set_k_a = a
  generalize ba_set_k_b = b
  generalize ba_set_k_i = i
  generalize ba_set_k_x = x
  generalize ba_set_k_u = u
  generalize ba_set_k_t = t
  generalize ba_set_k_Q = Q
  intro ho hi hib hx hx2 hb h
  have hT : s.TypeIs (.ref a) "bytearray" := ⟨_, ho, rfl⟩
  unfold setItem
  refine wpAny_holding ?_
  unfold sequenceKey
  refine wpAny_bind (wpAny_bind (wpAny_typeOf hT ?_))
  dsimp only
  rw [if_pos (by decide)]
  refine wpAny_pure ?_
  refine wpAny_bind ?_
  unfold callSpecial?
  refine wpAny_bind (wpAny_specialOf hT FB.slot_set.lookup ?_)
  dsimp only
  refine wpAny_holding (wpAny_bind (wpAny_of_eq (FB.slot_set.bind _) ?_))
  dsimp only
  refine wpAny_bind (wpAny_call (codeAny_call_builtin FB.slot_set.plain FB.entry_set (FB.slot_set.check _ _ _ _ _ _ _ _ hT (FB.set_args _ _ _) ?_)))
  unfold Builtin.«bytearray.__setitem__»
  dsimp only
  rw [if_neg (by decide)]
  refine wpAny_bind ?_
  unfold Builtin.Bytes.subscript?
  refine wpAny_bind (wpAny_specialOf (typeIs_int _ _ _) int_index ?_)
  rw [if_neg (by decide)]
  refine wpAny_bind (wpAny_of_eq (rfl : asIndex (.int i u) = pure i) ?_)
  have e1 : (!Builtin.Bytes.fitsIndex i) = false := by
    unfold Builtin.Bytes.fitsIndex
    simp only [Bool.not_eq_false', Bool.and_eq_true, decide_eq_true_eq]
    omega
  rw [if_neg (by rw [e1]; exact Bool.false_ne_true)]
  refine wpAny_pure ?_
  dsimp only
  refine wpAny_bind ?_
  unfold Builtin.Bytes.byteValue
  refine wpAny_bind (wpAny_of_eq (rfl : asIndex (.int x t) = pure x) ?_)
  rw [if_neg (by simp only [Bool.or_eq_true, decide_eq_true_eq]; omega)]
  refine wpAny_pure ?_
  refine wpAny_bind ?_
  unfold Builtin.Bytes.payload Builtin.Bytes.payload?
  refine wpAny_bind (wpAny_bind (wpAny_load ho (wpAny_pure ?_)))
  refine wpAny_pure ?_
  have e2 : seqIndex? i b.size = some i.toNat := by
    have hj : (if i < 0 then i + (b.size : Int) else i) = i := if_neg (by omega)
    unfold seqIndex?
    simp only [hj]
    rw [if_pos (by simp only [Bool.and_eq_true, decide_eq_true_eq]; exact ⟨hi, hib⟩)]
  rw [e2]
  dsimp only
  refine wpAny_bind (ba_write (M := model prog w) ho (by rw [Array.size_setIfInBounds, sizeLine_eq]; omega) fun h' hh' hs' => ?_)
  refine wpAny_pure ?_
  show wpAny _ _ _ _ _ _
  refine wpAny_pure ?_
  exact wpAny_pure (h h' _ (Array.size_setIfInBounds) hh' hs')

theorem ba_set {a : Addr} {b : Array UInt8} {i x : Int} {u t : Tok} {Q : Unit → Shared → Prop} (ho : s.heap.get? a = some (baObj b)) (hi : 0 ≤ i) (hib : i < b.size) (hx : 0 ≤ x) (hx2 : x < 256) (hb : b.size ≤ 1000)
    (h : ∀ h' b', b'.size = b.size → h'.get? a = some (baObj b') → Heap.SameBut a s.heap h' → Q () { s with heap := h' }) : wpAny (model prog w) A (setItem (.ref a) (.int i u) (.int x t)) Q E s := by
  exact eps_all (default, epsW, {}, default, {}, default, default, default, default, default, default, default) ba_set_P (by with_unfolding_all exact ba_set_0) (prog, w, A, E, s, a, b, i, x, u, t, Q) ho hi hib hx hx2 hb h
theorem ba_fix {v : Value} {name : String} {Q : Bool → Shared → Prop} (h : Q true s) (hT : s.TypeIs v "bytearray") (hl : typeLookup (.type "bytearray") name = pure (some (.builtin ("bytearray." ++ name)))) (he : ("bytearray." ++ name).endsWith ("." ++ name) = true) (hd : ("bytearray." ++ name).dropRight (name.length + 1) = "bytearray") :
    wpAny (model prog w) A (Builtin.Bytes.slotIsOwn v name) Q E s := by
  unfold Builtin.Bytes.slotIsOwn
  refine wpAny_bind (wpAny_specialOf hT hl ?_)
  dsimp only
  rw [if_neg (by rw [he]; decide), hd]
  exact wpAny_isInstance hT FB.sub h

theorem ba_bytes_new {a : Addr} {b : Array UInt8} {Q : Value → Shared → Prop} (ho : s.heap.get? a = some (baObj b)) (hb : b.size ≤ 1000)
    (hQ : ∀ t k, Q (.bytes b t) { s with toks := k }) :
    codeAny (model prog w) A (.call (.builtin "bytes.__new__") ⟨[.type "bytes", .ref a], []⟩) (wants Q E) s := by
  have hT : s.TypeIs (.ref a) "bytearray" := ⟨_, ho, rfl⟩
  refine codeAny_of_tree ?_
  show wpAny _ A.in1 (do checkBuiltinCall "bytes.__new__" ⟨[.type "bytes", .ref a], []⟩; again (.builtin "bytes.__new__" ⟨[.type "bytes", .ref a], []⟩)) _ _ s
  refine wpAny_bind (wpAny_of_eq (F.bm_newCall _) (wpAny_pure ⟨plainId_quiet F.bm_plain _, codeAny_builtin F.bm_entry ?_⟩))
  rw [Around.under_plainId F.bm_plain _]
  unfold Builtin.«bytes.__new__»
  refine wpAny_bind (wpAny_of_eq (a := true) rfl ?_)
  refine bm_if_false rfl ?_
  refine wpAny_bind (wpAny_of_eq F.bm_sub ?_)
  refine bm_if_false rfl ?_
  refine wpAny_bind (wpAny_of_eq (F.bm_bind _) ?_)
  refine wpAny_bind (wpAny_of_eq (a := ()) rfl ?_)
  refine wpAny_bind (wpAny_of_eq (a := ()) rfl ?_)
  refine bm_if_false rfl ?_
  refine wpAny_bind (wpAny_specialOf hT FB.no_bytes ?_)
  refine wpAny_bind (wpAny_bind ?_)
  show wpAny _ _ (load a >>= _) _ _ _
  refine wpAny_bind (wpAny_load ho ?_)
  refine wpAny_pure (wpAny_pure ?_)
  refine bm_if_false rfl ?_
  refine wpAny_bind (wpAny_specialOf hT FB.noIndex ?_)
  refine bm_if_true rfl ?_
  first
    | show wpAny _ _ (Builtin.Bytes.buffer? "bytes.__new__" (.ref a) true >>= _) _ _ _
    | (refine wpAny_bind ?_; show wpAny _ _ (Builtin.Bytes.buffer? "bytes.__new__" (.ref a) true >>= _) _ _ _)
  refine wpAny_bind ?_
  unfold Builtin.Bytes.buffer?
  refine wpAny_bind (wpAny_specialOf hT FB.buf ?_)
  dsimp only
  refine wpAny_bind (ba_fix ?_ hT FB.buf (by decide +kernel) (by decide +kernel))
  refine bm_if_false rfl ?_
  refine wpAny_bind (wpAny_specialOf hT FB.buf ?_)
  try dsimp only
  refine wpAny_bind ?_
  show wpAny _ _ (Builtin.Bytes.slotIsOwn (.ref a) "__release_buffer__" >>= fun b => pure !b) _ _ _
  refine wpAny_bind (ba_fix ?_ hT FB.rel (by decide +kernel) (by decide +kernel))
  refine wpAny_pure ?_
  refine bm_if_false rfl ?_
  refine wpAny_bind ?_
  unfold Builtin.Bytes.payload Builtin.Bytes.payload?
  refine wpAny_bind (wpAny_bind (wpAny_load ho (wpAny_pure ?_)))
  refine wpAny_pure ?_
  refine wpAny_pure ?_
  dsimp only
  refine wpAny_bind (wpAny_rule ?_)
  refine wpAny_bind (wpAny_mkBytes ?_ (by rw [sizeLine_eq]; omega))
  show wpAny _ _ (if (Value.type "bytes" == Value.type "bytes") = true then _ else _) _ _ _
  refine bm_if_true (by decide) ?_
  first
    | exact wpAny_pure (hQ _ _)
    | exact wpAny_bind (wpAny_pure (wpAny_pure (hQ _ _)))

theorem call_bytes_ba {a : Addr} {b : Array UInt8} {Q : Value → Shared → Prop} (ho : s.heap.get? a = some (baObj b)) (hb : b.size ≤ 1000)
    (hQ : ∀ t k, Q (.bytes b t) { s with toks := k }) : wpAny (model prog w) A (call (.type "bytes") [.ref a]) Q E s := by
  refine callType_codes (Q₁ := fun obj s₁ => s₁.TypeIs obj "bytes" ∧ Q obj s₁) F.bm_called (F.bm_typeCall _) F.entry_object_init
    (ba_bytes_new ho hb fun t k => ⟨PySem.W.typeIs_bytes _ _ _, hQ t k⟩) fun obj s₁ h₁ => ?_
  exact ⟨h₁.1, F.args_object_init_2 obj _, object_init_meets F.bm_called.init.lookup F.bm_called.made (by decide) prog w A.in1 _ s₁ ⟨h₁.1, rfl, h₁.2⟩⟩
end
end
section
open _root_.PySem _root_.PySem.W _root_.PyProof.Rows _root_.PySem.Calls _root_.PySem.Spec
set_option Elab.async false
set_option maxRecDepth 100000
set_option maxHeartbeats 800000

section
variable {prog : Program} {w : World} {A A₀ : Around} {s : Shared} {K : Frag} {L : Addr} {h₀ base : Heap} {m mg mb : Str → Option Value} {news : List (Addr × Obj)} {p : Program} {loose : List Str} {mean : ExcName → Option Value}
theorem codeG_def {env : Env} {outer : List Env} {R : Result → Shared → Prop} {name qual : Str} {params : Arguments} {body : List Stmt} {scope : Scope} {dV kV doc pm cdv ct oc : Value} {an od : Option Addr} {osl : Array (Option Value)} {f : Addr} {args : Args} {binds : List (Str × Value)}
    (B : Below A₀ base outer h₀) (F : Fr h₀ L s.heap m) (X₀ : K.In h₀) (N : News h₀ L s.heap news) (T : Top p loose mean mg mb h₀) (hA : A.frames = some (env :: outer)) (hf : env.frame = some L) (hke : env.scope.kind = .function)
    (ho : K.lookup f = some ⟨oc, od, .func (fnOf name qual params body scope dV kV doc pm an cdv ct), osl⟩) (hcd : codeIn K cdv qual = true) (hroom : A.depth < recursionLimit)
    (hbind : BindsTo s (fnOf name qual params body scope dV kV doc pm an cdv ct) args binds) (hloc : ∀ y ∈ binds, scope.names.lookup y.1 = some .local)
    (h : ∀ g L' h₁ tk, Fr h₀ L g m → Fr g L' h₁ (fun y => binds.reverse.lookup y) → News g L' h₁ news → Below A base (env :: outer) g → K.In g → Top p loose mean mg mb g → (∀ p ∈ news, p.1 < L') →
      wpG (model prog w) (A.deeper (envOf qual scope L' f cdv)) (execs body (envOf qual scope L' f cdv))
        (fun fl s' => LeaveK h₀ L m g R (match fl with | .ret v => v | _ => .none) s') (fun _ _ => False)
        { s with heap := h₁, toks := tk })
    (hco : scope.isCoroutine = false) (hgen : scope.isGenerator = false) (hk : scope.kind = .function)
    (hcell : ∀ x ∈ scope.names, x.2 ≠ .cell) : codeG (model prog w) A (.call (.ref f) args) R s := by
  obtain ⟨FG, BG, st, lv⟩ := groundX (R := R) B F N hA hf hke
  refine codeG_call_def (fd := fnX name qual params body scope [] dV kV doc pm an cdv ct) (body := body) (binds := binds) hroom ((X₀.keeps F.keep) _ _ ho) rfl (T.nolimit.keeps F.keep) (codeRec_of (X₀.keeps F.keep) hcd) rfl hbind hcell hloc (fun h₁ hns hk₁ => ?_) hco hgen hk
  exact wpG_mono (h _ s.heap.objs.size h₁ _ FG ⟨hns, fun b o e => hk₁ b o (of_hideAll _ e), Nat.le_of_eq (hideAll_size _ _)⟩
    (fun p hp => ⟨hk₁ _ _ (N p hp).1, Nat.ne_of_lt (Heap.lt_size (N p hp).1), hideAll_none _ (List.mem_map_of_mem hp)⟩) BG (X₀.keeps st) (T.keeps st) (fun p hp => Heap.lt_size (N p hp).1)) (fun fl s' hl => lv _ _ hl) fun _ _ y => y
end

def PureG (w : World) (d : Nat) (f : Addr) (vs : List Value) (P : Value → Prop) : Prop :=
  ∀ (p : Program) (loose : List Str) (mean : ExcName → Option Value) (mg mb : Str → Option Value)
    (dp un : Nat) (gd : Option (List Code)) (cn : Str) (cs : Scope) (a : Addr) (ccd : Value) (cl : List (Str × Addr)) (outer : List Env) (A₀ : Around) (base h₀ : Heap) (L : Addr) (m : Str → Option Value) (news : List (Addr × Obj)) (s : Shared) (Q E : Value → Shared → Prop),
    Below A₀ base outer h₀ → Fr h₀ L s.heap m → (hd.heap_1 w.params).In h₀ → News h₀ L s.heap news → Top p loose mean mg mb h₀ → cs.kind = .function →
    dp + d < recursionLimit → un + 8 * d < cLine →
    (∀ v h' tk', Fr h₀ L h' m → News h₀ L h' news → P v → Q v { s with heap := h', toks := tk' }) →
    wpG (model PR w) (ktrTop dp un gd cn cs L a ccd cl outer) (call (.ref f) vs) Q E s
def PureG9 (w : World) (d : Nat) (f : Addr) (vs : List Value) (P : Value → Prop) (p : Program) (loose : List Str) (mean : ExcName → Option Value) (mg : Str → Option Value) (mb : Str → Option Value) (dp : Nat) (un : Nat) (gd : Option (List Code)) (cn : Str) (cs : Scope) (a : Addr) (ccd : Value) (cl : List (Str × Addr)) (outer : List Env) (A₀ : Around) (base : Heap) (h₀ : Heap) (L : Addr) (m : Str → Option Value) (news : List (Addr × Obj)) (s : Shared) (Q : Value → Shared → Prop) (E : Value → Shared → Prop) : Prop :=
    Below A₀ base outer h₀ → Fr h₀ L s.heap m → (hd.heap_1 w.params).In h₀ → News h₀ L s.heap news → Top p loose mean mg mb h₀ → cs.kind = .function →
    dp + d < recursionLimit → un + 8 * d < cLine →
    (∀ v h' tk', Fr h₀ L h' m → News h₀ L h' news → P v → Q v { s with heap := h', toks := tk' }) →
    wpG (model PR w) (ktrTop dp un gd cn cs L a ccd cl outer) (call (.ref f) vs) Q E s
theorem PureG_of (w : World) (d : Nat) (f : Addr) (vs : List Value) (P : Value → Prop) (h : ∀  (v : KV), v.to (PureG9 w d f vs P)) : PureG w d f vs P := fun p loose mean mg mb dp un gd cn cs a ccd cl outer A₀ base h₀ L m news s Q E => h  ⟨p, loose, mean, mg, mb, dp, un, gd, cn, cs, a, ccd, cl, outer, A₀, base, h₀, L, m, news, s, Q, E⟩


theorem PureG.use {w : World} {d : Nat} {f : Addr} {vs : List Value} {P : Value → Prop} {p : Program} {loose : List Str} {mean : ExcName → Option Value} {mg mb : Str → Option Value}
    {dp un : Nat} {gd : Option (List Code)} {cn : Str} {cs : Scope} {a : Addr} {ccd : Value} {cl : List (Str × Addr)} {outer : List Env} {A₀ : Around} {base h₀ : Heap} {L : Addr} {m : Str → Option Value} {news : List (Addr × Obj)} {s : Shared} {Q E : Value → Shared → Prop}
    (C : PureG w d f vs P) (B : Below A₀ base outer h₀) (F : Fr h₀ L s.heap m) (X : (hd.heap_1 w.params).In h₀) (N : News h₀ L s.heap news) (T : Top p loose mean mg mb h₀) (hk : cs.kind = .function)
    (h1 : dp + d < recursionLimit) (h2 : un + 8 * d < cLine)
    (ret : ∀ v h' tk', Fr h₀ L h' m → News h₀ L h' news → P v → Q v { s with heap := h', toks := tk' }) :
    wpG (model PR w) (ktrTop dp un gd cn cs L a ccd cl outer) (call (.ref f) vs) Q E s :=
  C _ _ _ _ _ _ _ _ _ _ _ _ _ _ _ _ _ _ _ _ _ _ _ B F X N T hk h1 h2 ret

section
variable {prog : Program} {w : World} {A : Around} {E : Value → Shared → Prop} {s : Shared} {h₀ : Heap} {L : Addr} {m : Str → Option Value} {news : List (Addr × Obj)}
theorem g_bytearray {n : Nat} {k : Int} {t : Tok} {Q : Value → Shared → Prop} (hk : k = n) (h0 : 0 < n) (hn : n ≤ 1000) (F : Fr h₀ L s.heap m) (N : News h₀ L s.heap news)
    (h : ∀ h' a b, b.size = n → Fr h₀ L h' m → News h₀ L h' ((a, baObj b) :: news) → (∀ p ∈ news, p.1 < a) → Q (.ref a) { s with heap := h' }) : wpG (model prog w) A (call (.type "bytearray") [.int k t]) Q E s := by
  refine ba_call hk h0 hn fun h' a ha hh' hkeep => h h' a (Array.replicate n 0) Array.size_replicate (F.keeps hkeep) (fun p hp => ?_) (fun p hp => by rw [ha]; exact Heap.lt_size (N p hp).1)
  rcases List.mem_cons.mp hp with rfl | hp
  · refine ⟨hh', ?_, ?_⟩
    · show a ≠ L
      rw [ha]; exact Nat.ne_of_gt F.ns.lt
    · show h₀.get? a = none
      cases e : h₀.get? a with
      | none => rfl
      | some o => have := Heap.lt_size (F.keep _ _ e); rw [ha] at this; exact absurd this (Nat.lt_irrefl _)
  · exact ⟨hkeep _ _ (N p hp).1, (N p hp).2⟩
theorem g_spliced_backTo_nil {M : Model} {env : Env} {pos : Pos} {Q : List Value → Shared → Prop} (h : Q [] s) : wpG M A (spliced (backTo pos (starEach [] env))) Q E s := wpG_any (wpAny_pure h)
end
end
section
open _root_.PySem _root_.PySem.W _root_.PyProof.Rows _root_.PySem.Calls _root_.PySem.Spec
set_option Elab.async false
set_option maxRecDepth 100000
set_option maxHeartbeats 800000
section
variable {prog : Program} {w : World} {A : Around} {E : Value → Shared → Prop} {s : Shared} {env : Env} {h₀ : Heap} {L : Addr} {m : Str → Option Value} {news : List (Addr × Obj)}

def BaEnd (h₀ : Heap) (L a : Addr) (n : Nat) (xv : Str) (m₀ : Str → Option Value) (led : List (Addr × Obj)) (s₁ s₂ : Shared) : Prop :=
  ∃ h' tk' x' t' b' m', s₂ = { s₁ with heap := h', toks := tk' } ∧ Array.size b' = n ∧ (0 : Int) ≤ x' ∧ Fr h₀ L h' m' ∧ News h₀ L h' ((a, baObj b') :: led) ∧ m' (Str.ofString "n") = some (.int x' t') ∧ ∀ z, z ≠ xv → z ≠ Str.ofString "n" → m' z = m₀ z

theorem ba_loop {xv : Str} {body : List Stmt} {Q : Flow → Shared → Prop} {r a : Addr} {a₀ x : Int} {t₀ u₀ v₀ tx : Tok} {n : Nat} {b : Array UInt8} {m₀ : Str → Option Value}
    (hh : A.handled = none) (hr : IsRange s.heap r a₀ (-1) (-1) t₀ u₀ v₀) (ha₀ : a₀ = (n : Int) - 1) (hn : n ≤ 1000) (F : Fr h₀ env.locals s.heap m₀) (N : News h₀ env.locals s.heap ((a, baObj b) :: news)) (off : ∀ p ∈ news, p.1 < a) (hb : b.size = n)
    (hm : m₀ (Str.ofString "n") = some (.int x tx)) (hx : 0 ≤ x)
    (turn : ∀ (x' : Int) (t' : Tok) (b' : Array UInt8) (k : Int) (t : Tok) (h : Heap) (tk : Nat) (own : List (Addr × Obj)), 0 ≤ k → k < n → (∀ p ∈ news ++ own, p.1 ≠ a) → b'.size = n → 0 ≤ x' →
      Fr h₀ env.locals h (fun y => if y = xv then some (.int k t) else if y = Str.ofString "n" then some (.int x' t') else m₀ y) → News h₀ env.locals h ((a, baObj b') :: (news ++ own)) →
      wpAny (model prog w) A (execs body env) (fun f s' => f = .next ∧ BaEnd h₀ env.locals a n xv m₀ (news ++ own) { s with heap := h, toks := tk } s') E { s with heap := h, toks := tk })
    (done : ∀ (x' : Int) (t' : Tok) (b' : Array UInt8) (u : Str → Option Value) h tk, b'.size = n → Fr h₀ env.locals h (fun y => if y = xv then u y else if y = Str.ofString "n" then some (.int x' t') else m₀ y) → News h₀ env.locals h ((a, baObj b') :: news) → Q .next { s with heap := h, toks := tk }) :
    wpAny (model prog w) A (pyIter (.ref r)) (fun it s₂ => LoopAtV prog w A h₀ env xv body Q E it s₂) E s := by
  have hsz : Builtin.Range.rangeSize a₀ (-1) (-1) = (n : Int) := by
    rw [rangeSize_down, ha₀]
    split <;> omega
  refine kst_rangeD (σ := Int × Tok × Array UInt8) (n := n) (fun c => (a, baObj c.2.2) :: news) (fun c => [(Str.ofString "n", Value.int c.1 c.2.1)]) (fun c => c.2.2.size = n) [] (fun _ c => 0 ≤ c.1) (x, tx, b)
    hh hr (small_down (by omega) (by omega) (by decide) (by decide)) hsz F N hb (fun p hp => by rw [List.mem_singleton.mp hp]; exact hm) hx ?_ ?_
  · rintro ⟨x', t', b'⟩ pre k t u h tk own hk hlt hoff hf hp Fr' N'
    have hoff' : ∀ p ∈ news ++ own, p.1 ≠ a := fun p hp => by
      rcases List.mem_append.mp hp with hp | hp
      · exact Nat.ne_of_lt (off p hp)
      · exact hoff p hp a List.mem_cons_self
    refine wpAny_mono (turn x' t' b' k t h tk own (by omega) (by omega) hoff' hf hp Fr' N') (fun f s' hq => ?_) fun _ _ e => e
    obtain ⟨rfl, h', tk', x2, t2, b2, m', rfl, hb2, hx2, F2, N2, hn2, hz2⟩ := hq
    refine kst_end (x2, t2, b2) F2 N2 (fun p hp => ?_) (fun p hp => ?_) rfl hb2 (fun p hp => by rw [List.mem_singleton.mp hp]; exact hn2) (fun z h1 h2 _ => hz2 z h1 (h2 _ (List.mem_singleton.mpr rfl))) hx2
    · rcases List.mem_cons.mp hp with rfl | hp
      · exact List.mem_cons_self
      · exact List.mem_cons_of_mem _ (List.mem_append.mpr (.inl hp))
    · exact List.mem_cons_of_mem _ (List.mem_append.mpr (.inr hp))
  · rintro ⟨x', t', b'⟩ u h tk hf _ Fr' N'
    exact done x' t' b' u h tk hf Fr' N'

theorem k_ba_set {a : Addr} {b : Array UInt8} {i x : Int} {u t : Tok} {n : Nat} {Q : Unit → Shared → Prop} (F : Fr h₀ L s.heap m) (N : News h₀ L s.heap ((a, baObj b) :: news)) (off : ∀ p ∈ news, p.1 ≠ a) (hb : b.size = n) (hi : 0 ≤ i) (hib : i < n) (hx : 0 ≤ x) (hx2 : x < 256) (hn : n ≤ 1000)
    (h : ∀ h' b', b'.size = n → Fr h₀ L h' m → News h₀ L h' ((a, baObj b') :: news) → Q () { s with heap := h' }) : wpAny (model prog w) A (setItem (.ref a) (.int i u) (.int x t)) Q E s := by
  have hN := N _ (List.mem_cons_self)
  subst hb
  refine ba_set hN.1 hi hib hx hx2 hn fun h' b' hb' hh' hs' => h h' b' hb' (F.change hs' hN.2.1 hN.2.2) fun p hp => ?_
  rcases List.mem_cons.mp hp with rfl | hp
  · exact ⟨hh', hN.2⟩
  · exact ⟨hs'.extBut _ _ (off p hp) (N p (List.mem_cons_of_mem _ hp)).1, (N p (List.mem_cons_of_mem _ hp)).2⟩
theorem k_ba_bytes {a : Addr} {b : Array UInt8} {Q : Value → Shared → Prop} (N : News h₀ L s.heap ((a, baObj b) :: news)) (hb : b.size ≤ 1000)
    (hQ : ∀ t k, Q (.bytes b t) { s with toks := k }) : wpAny (model prog w) A (call (.type "bytes") [.ref a]) Q E s := call_bytes_ba (N _ List.mem_cons_self).1 hb hQ
end
end
section
open _root_.PySem _root_.PySem.W _root_.PyProof.Rows _root_.PySem.Calls _root_.PySem.Spec
set_option Elab.async false
set_option maxRecDepth 100000
set_option maxHeartbeats 800000
open PyProof.Rows.LCg (lst NsObj)
section
variable {prog : Program} {w : World} {A : Around} {E : Value → Shared → Prop} {R : Result → Shared → Prop} {s : Shared} {env : Env} {h₀ : Heap} {L : Addr} {m : Str → Option Value} {news : List (Addr × Obj)}

theorem codeG_loop {M : Model} {c : Code} (hq : c.quiet = true) (hd : decFree c = true) (I : Nat → Shared → Prop)
    (turn : ∀ n s, I n s → wpG M (A.under c) (M.den c)
      (fun fin s' => match fin with | .done f => R (.ok f) s' | .again c' => c' = c ∧ ∃ m, m < n ∧ I m s') (fun e s' => R (.error e) s') s)
    (n : Nat) (h : I n s) : codeG M A c R s := by
  induction n using Nat.strongRecOn generalizing s with
  | ind n ih =>
    refine codeG_of_tree (wpG_mono (turn n s h) (fun fin s' hf => ?_) fun _ _ h' => h')
    cases fin with
    | done f => exact hf
    | again c' => obtain ⟨rfl, m, hm, hI⟩ := hf; exact ⟨hq, hd, ih m hm hI⟩

theorem codeG_compLoop {elt target iter : Expr} {scope : Scope} {pos : Pos} {it acc : Value} {env : Env} (I : Nat → Shared → Prop)
    (turn : ∀ n s, I n s → wpAny (model prog w) A (pyNext it) (fun r s₁ => match r with
      | none => R (.ok .next) s₁
      | some v => wpAny (model prog w) A (assign target env v) (fun _ s₂ => wpG (model prog w) A (eval elt env) (fun x s₃ =>
          wpAny (model prog w) A (call (.builtin "list.append") [acc, x]) (fun _ s₄ => ∃ m, m < n ∧ I m s₄) (fun _ _ => False) s₃)
          (fun _ _ => False) s₂) (fun _ _ => False) s₁) (fun _ _ => False) s)
    (n : Nat) (h : I n s) (ht : ∀ v, letOwnedTupleGo target it v = pure () := by intro _; rfl) :
    codeG (model prog w) A (.compLoop (.ListComp elt [⟨target, iter, [], 0⟩] scope pos) 0 it acc env) R s := by
  refine codeG_loop rfl rfl I (fun n s hI => ?_) n h
  show wpG _ A ((compTurn (.ListComp elt [⟨target, iter, [], 0⟩] scope pos) 0 it acc env).onRaise (fun x => do noteFrame x env; theTreesLotGoes x)) _ _ s
  refine wpG_onRaise ?_
  rw [compTurn_list1]
  refine wpG_bind (wpG_any (wpAny_standAt (wpG_bind (wpG_any (wpAny_mono (turn n s hI) (fun r s₁ h₁ => ?_) fun _ _ h' => h')))))
  cases r with
  | none => exact wpG_any (wpAny_pure h₁)
  | some v =>
    refine wpG_bind (wpG_any (wpAny_of_eq (ht v) ?_))
    refine wpG_bind (wpG_any (wpAny_mono h₁ (fun _ s₂ h₂ => ?_) fun _ _ h' => h'))
    refine wpG_bind (wpG_bind (wpG_mono h₂ (fun x s₃ h₃ => ?_) fun _ _ h' => h'))
    exact wpG_bind (wpG_any (wpAny_mono h₃ (fun _ s₄ h₄ => wpG_any (wpAny_pure (wpG_any (wpAny_pure ⟨rfl, h₄⟩)))) fun _ _ h' => h'))

theorem codeG_compStart {elt target iter : Expr} {scope : Scope} {pos : Pos} {it acc : Value} {env : Env}
    (h0 : codeG (model prog w) A (.compLoop (.ListComp elt [⟨target, iter, [], 0⟩] scope pos) 0 it acc env) R s)
    (h : wpAny (model prog w) A (pyIter it) (fun it' s' => codeG (model prog w) A (.compLoop (.ListComp elt [⟨target, iter, [], 0⟩] scope pos) 0 it' acc env) R s') (fun _ _ => False) s) :
    codeG (model prog w) A (.compStart (.ListComp elt [⟨target, iter, [], 0⟩] scope pos) 0 it acc env) R s := by
  refine codeG_of_tree ?_
  show wpG _ _ ((compStart (.ListComp elt [⟨target, iter, [], 0⟩] scope pos) 0 it acc env).onRaise (fun x => do noteFrame x env; standAt theWindowsPlace)) _ _ s
  refine wpG_onRaise ?_
  unfold compStart
  show wpG _ _ (ask >>= _) _ _ s
  refine wpG_bind (wpG_any (wpAny_askSetting ?_))
  split
  · first
      | exact wpG_bind (wpG_any (wpAny_pure (wpG_any (wpAny_pure ⟨rfl, rfl, h0⟩))))
      | exact wpG_any (wpAny_pure ⟨rfl, rfl, h0⟩)
  · refine wpG_bind (wpG_any (wpAny_rule ?_))
    first
      | exact wpG_bind (wpG_any (wpAny_standAt (wpG_bind (wpG_any (wpAny_mono h (fun it' s' h' => wpG_any (wpAny_pure ⟨rfl, rfl, h'⟩)) fun _ _ x => x)))))
      | (show wpG _ _ (standAt iter.pos >>= _) _ _ s; exact wpG_bind (wpG_any (wpAny_standAt (wpG_bind (wpG_any (wpAny_mono h (fun it' s' h' => wpG_any (wpAny_pure ⟨rfl, rfl, h'⟩)) fun _ _ x => x))))))

theorem wpG_attempt {α : Type} {M : Model} {t : Sem α} {Q : Except Value α → Shared → Prop} (h : wpG M A t (fun a => Q (.ok a)) (fun _ _ => False) s) : wpG M A t.attempt Q E s := fun Γ p hΓ hD => by
  rw [Sem.wp_attempt]
  exact Sem.wp_mono M Γ t (fun _ _ _ h' => h') (fun _ _ _ h' => h'.elim) p s (h Γ p hΓ hD)
theorem wpG_run {M : Model} {c : Code} {Q : Flow → Shared → Prop} (hd : decFree c = true)
    (hc : codeG M A c (fun r s' => match r with | .ok f => Q f s' | .error e => E e s') s) : wpG M A (run c) Q E s := fun Γ p hΓ hD => by
  rw [Sem.wp_run]
  exact hc _ p rfl (hΓ.enter c none p (by intro x; cases x)) (hD.enter hd none p)

theorem g_comprehension {e : Expr} {scope : Scope} {pos : Pos} {newAcc first : Sem Value} {g : Comprehension} {gs : List Comprehension} {Q : Value → Shared → Prop} {M : Model}
    (hcl : clausesOf e = g :: gs) (hs : ∀ x, foldedSetIterable g.iter env x = pure x)
    (hfree : ∀ x ∈ scope.names, x.2 ≠ .free) (hkind : scope.kind = .function) (hnames : ∀ x ∈ scope.names, x.2 = .local → scope.names.lookup x.1 = some .local)
    (h : wpAny M A first (fun x s₁ => wpAny M A (pyIter x) (fun it s₂ => wpAny M A newAcc (fun acc s₃ =>
      wpAny M A (newFunctionEnv scope env.globals [] [] env.qual none .none (some env)) (fun cenv s₄ =>
        codeG M A (.compStart e 0 it acc { cenv with scope := scope }) (fun r s' => ∃ m, s'.heap.Ns cenv.locals m ∧ ∀ h', Heap.SameBut cenv.locals s'.heap h' →
          match r with | .ok _ => Q acc { s' with heap := h' } | .error _ => False) s₄) E s₃) E s₂) E s₁) E s) :
    wpG M A (comprehension e scope env pos newAcc false first) Q E s := by
  unfold comprehension
  rw [closureFor_none hfree, hcl]
  refine wpG_bind (wpG_any (wpAny_mono h (fun x s₁ h₁ => wpG_bind (wpG_any (wpAny_standAt (wpG_bind (wpG_any (wpAny_of_eq (hs x) (wpG_bind (wpG_any (wpAny_holding (wpAny_mono h₁ (fun it s₂ h₂ => ?_) fun _ _ h' => h')))))))))) fun _ _ h' => h'))
  dsimp only
  rw [if_neg (by simp)]
  refine wpG_bind (wpG_any (wpAny_mono h₂ (fun acc s₃ h₃ => ?_) fun _ _ h' => h'))
  refine wpG_bind (wpG_any (wpAny_pure (wpG_bind (wpG_any (wpAny_mono h₃ (fun cenv s₄ h₄ => ?_) fun _ _ h' => h')))))
  rw [map_eq_self (l := scope.names) (fun x hx => by
    obtain ⟨n, k⟩ := x
    have : (k == NameKind.free) = false := by simpa using hfree _ hx
    simp [this])]
  have hv : ∀ x ∈ (scope.names.filter fun x => (x.2 == .local || x.2 == .cell) && x.1 != (".0" : Str)).reverse, x.2 = .local →
      Env.kindOf { cenv with scope := scope } x.1 = some .local := fun x hx hl => hnames x (List.mem_filter.mp (List.mem_reverse.mp hx)).1 hl
  refine wpG_holding (wpG_bind (wpG_attempt (wpG_holding (wpG_run rfl (codeG_mono h₄ fun r s' hr => ?_)))))
  obtain ⟨m, hn, hr⟩ := hr
  cases r with
  | ok f => exact wpG_bind (wpG_any (wpAny_holding (wpAny_comp_letGo (cenv := { cenv with scope := scope }) hkind _ s' m hv hn fun h' m' _ hs' => wpG_any (wpAny_pure (hr h' hs')))))
  | error x => exact (hr s'.heap (.refl ..)).elim
end
end
section
open _root_.PySem _root_.PySem.W _root_.PyProof.Rows _root_.PySem.Calls _root_.PySem.Spec
set_option Elab.async false
set_option maxRecDepth 100000
set_option maxHeartbeats 800000
open PyProof.Rows.LCg (lst NsObj ns_obj lst_snoc)
section
variable {prog : Program} {w : World} {A : Around} {E : Value → Shared → Prop} {s : Shared} {env : Env} {h₀ : Heap} {L : Addr} {m : Str → Option Value}

def EltG (prog : Program) (w : World) (A : Around) (h₀ : Heap) (L : Addr) (m : Str → Option Value) (env : Env) (elt : Expr) (x : Str) (scope : Scope) (news : List (Addr × Obj)) (P : Value → Prop) (s₁ : Shared) (v : Value) : Prop :=
  ∀ (C : Addr) (oC : Obj) (m₂ : Str → Option Value) (news' : List (Addr × Obj)) (h : Heap) (tk : Nat) (Q' : Value → Shared → Prop), (∀ p ∈ news, p ∈ news') → NsObj oC m₂ → (C, oC) ∈ news' → m₂ x = some v → Fr h₀ L h m → News h₀ L h news' →
    (∀ r h' tk', P r → Fr h₀ L h' m → News h₀ L h' news' → Q' r { s₁ with heap := h', toks := tk' }) → wpG (model prog w) A (eval elt (compEnv scope C env)) Q' (fun _ _ => False) { s₁ with heap := h, toks := tk }

def g_ListComp_B (prog : Program) (w : World) (A : Around) (E : Value → Shared → Prop) (s : Shared) (h₀ : Heap) (L : Addr) (m : Str → Option Value) (env : Env) (elt : Expr) (iter : Expr) (x : Str) (px : Pos) (scope : Scope) (pos : Pos) (P : Value → Prop) (Q : Value → Shared → Prop) : Prop := ∀ (hh : A.handled = none) (hfree : ∀ y ∈ scope.names, y.2 ≠ .free) (hcell : ∀ y ∈ scope.names, y.2 ≠ .cell) (hkind : scope.kind = .function) (hnames : ∀ y ∈ scope.names, y.2 = .local → scope.names.lookup y.1 = some .local) (hx : scope.names.lookup x = some .local) (h : wpAny (model prog w) A (eval iter env) (fun xv s₁ => ∃ ax vs c news, xv = .ref ax ∧ Fr h₀ L s₁.heap m ∧ News h₀ L s₁.heap news ∧ (ax, listOf (List.toArray vs) c) ∈ news ∧ vs.length ≤ 1000 ∧
      (∀ v ∈ vs, EltG prog w A h₀ L m env elt x scope news P s₁ v) ∧
      (∀ D ys h tk, ys.length = vs.length → (∀ y ∈ ys, P y) → Fr h₀ L h m → News h₀ L h ((D, lst ys) :: news) → (∀ p ∈ news, p.1 < D) → Q (.ref D) { s₁ with heap := h, toks := tk })) E s) (hs : ∀ x, foldedSetIterable iter env x = pure x), wpG (model prog w) A (eval (.ListComp elt [⟨.Name x px, iter, [], 0⟩] scope pos) env) Q E s
def g_ListComp_P (e : Program × World × Around × (Value → Shared → Prop) × Shared × Heap × Addr × (Str → Option Value) × Env × Expr × Expr × Str × Pos × Scope × Pos × (Value → Prop) × (Value → Shared → Prop)) : Prop := g_ListComp_B e.1 e.2.1 e.2.2.1 e.2.2.2.1 e.2.2.2.2.1 e.2.2.2.2.2.1 e.2.2.2.2.2.2.1 e.2.2.2.2.2.2.2.1 e.2.2.2.2.2.2.2.2.1 e.2.2.2.2.2.2.2.2.2.1 e.2.2.2.2.2.2.2.2.2.2.1 e.2.2.2.2.2.2.2.2.2.2.2.1 e.2.2.2.2.2.2.2.2.2.2.2.2.1 e.2.2.2.2.2.2.2.2.2.2.2.2.2.1 e.2.2.2.2.2.2.2.2.2.2.2.2.2.2.1 e.2.2.2.2.2.2.2.2.2.2.2.2.2.2.2.1 e.2.2.2.2.2.2.2.2.2.2.2.2.2.2.2.2
@[irreducible] noncomputable def g_ListComp_e : Program × World × Around × (Value → Shared → Prop) × Shared × Heap × Addr × (Str → Option Value) × Env × Expr × Expr × Str × Pos × Scope × Pos × (Value → Prop) × (Value → Shared → Prop) := epsOf (default, epsW, {}, default, {}, default, default, default, default, default, default, default, default, default, default, default, default) g_ListComp_P
@[irreducible] noncomputable def g_ListComp_k_prog : Program := g_ListComp_e.1
@[irreducible] noncomputable def g_ListComp_k_w : World := g_ListComp_e.2.1
@[irreducible] noncomputable def g_ListComp_k_A : Around := g_ListComp_e.2.2.1
@[irreducible] noncomputable def g_ListComp_k_E : Value → Shared → Prop := g_ListComp_e.2.2.2.1
@[irreducible] noncomputable def g_ListComp_k_s : Shared := g_ListComp_e.2.2.2.2.1
@[irreducible] noncomputable def g_ListComp_k_h₀ : Heap := g_ListComp_e.2.2.2.2.2.1
@[irreducible] noncomputable def g_ListComp_k_L : Addr := g_ListComp_e.2.2.2.2.2.2.1
@[irreducible] noncomputable def g_ListComp_k_m : Str → Option Value := g_ListComp_e.2.2.2.2.2.2.2.1
@[irreducible] noncomputable def g_ListComp_k_env : Env := g_ListComp_e.2.2.2.2.2.2.2.2.1
@[irreducible] noncomputable def g_ListComp_k_elt : Expr := g_ListComp_e.2.2.2.2.2.2.2.2.2.1
@[irreducible] noncomputable def g_ListComp_k_iter : Expr := g_ListComp_e.2.2.2.2.2.2.2.2.2.2.1
@[irreducible] noncomputable def g_ListComp_k_x : Str := g_ListComp_e.2.2.2.2.2.2.2.2.2.2.2.1
@[irreducible] noncomputable def g_ListComp_k_px : Pos := g_ListComp_e.2.2.2.2.2.2.2.2.2.2.2.2.1
@[irreducible] noncomputable def g_ListComp_k_scope : Scope := g_ListComp_e.2.2.2.2.2.2.2.2.2.2.2.2.2.1
@[irreducible] noncomputable def g_ListComp_k_pos : Pos := g_ListComp_e.2.2.2.2.2.2.2.2.2.2.2.2.2.2.1
@[irreducible] noncomputable def g_ListComp_k_P : Value → Prop := g_ListComp_e.2.2.2.2.2.2.2.2.2.2.2.2.2.2.2.1
@[irreducible] noncomputable def g_ListComp_k_Q : Value → Shared → Prop := g_ListComp_e.2.2.2.2.2.2.2.2.2.2.2.2.2.2.2.2
theorem g_ListComp_0 : g_ListComp_B g_ListComp_k_prog g_ListComp_k_w g_ListComp_k_A g_ListComp_k_E g_ListComp_k_s g_ListComp_k_h₀ g_ListComp_k_L g_ListComp_k_m g_ListComp_k_env g_ListComp_k_elt g_ListComp_k_iter g_ListComp_k_x g_ListComp_k_px g_ListComp_k_scope g_ListComp_k_pos g_ListComp_k_P g_ListComp_k_Q := by
  unfold g_ListComp_B
  generalize g_ListComp_k_prog = prog
  generalize g_ListComp_k_w = w
  generalize g_ListComp_k_A = A
  generalize g_ListComp_k_E = E
  generalize g_ListComp_k_s = s
  generalize g_ListComp_k_h₀ = h₀
  generalize g_ListComp_k_L = L
  generalize g_ListComp_k_m = m
  generalize g_ListComp_k_env = env
  generalize g_ListComp_k_elt = elt
  generalize g_ListComp_k_iter = iter
  generalize g_ListComp_k_x = x
  generalize g_ListComp_k_px = px
  generalize g_ListComp_k_scope = scope
  generalize g_ListComp_k_pos = pos
  generalize g_ListComp_k_P = P
  generalize g_ListComp_k_Q = Q
  intro hh hfree hcell hkind hnames hx h hs
  rw [eval_ListComp]
  refine g_comprehension rfl hs hfree hkind hnames (wpAny_mono h (fun xv s₁ h₁ => ?_) fun _ _ e => e)
  obtain ⟨ax, vs, c, news, rfl, F, N, hmem, hlen, elt9, done9⟩ := h₁
  have hl : s₁.heap.IsList ax vs.toArray := ⟨_, (N _ hmem).1, rfl, c, rfl⟩
  have hlt : ax < s₁.heap.objs.size := Heap.lt_size (N _ hmem).1
  refine wpAny_pyIter_list hl ?_
  refine wpAny_newObj_type (wpAny_newFunctionEnv hcell (by intro y hy; simp at hy) (fun h₁ hns₁ hsb₁ => ?_) hkind)
  dsimp only at hns₁ hsb₁ ⊢
  generalize hH1 : s₁.heap.push { cls := .type "list_iterator", data := .fields #[.ref ax, .int 0 0] } = H1 at hns₁ hsb₁ ⊢
  have hI : H1.get? s₁.heap.objs.size = some { cls := .type "list_iterator", data := .fields #[.ref ax, .int 0 0] } := hH1 ▸ Heap.get?_push_size _ rfl
  have s1 : H1.objs.size = s₁.heap.objs.size + 1 := by rw [← hH1, Heap.size_push]
  generalize hH2 : H1.push { cls := .type "list", dict := none, data := .seq ([] : List Value).toArray } = H2 at hns₁ hsb₁ ⊢
  have s2 : H2.objs.size = s₁.heap.objs.size + 2 := by rw [← hH2, Heap.size_push, s1]
  have hD2 : H2.get? H1.objs.size = some (lst []) := hH2 ▸ Heap.get?_push_size _ rfl
  generalize hI' : s₁.heap.objs.size = I at *
  generalize hD' : H1.objs.size = D at *
  generalize hC' : H2.objs.size = C at *
  have hID : (I : Nat) ≠ D := by omega
  have hIC : I ≠ C := by omega
  have hDC : D ≠ C := by omega
  have old : ∀ b o, s₁.heap.get? b = some o → h₁.get? b = some o := fun b o e => by
    have hb : @LT.lt Nat _ b s₁.heap.objs.size := Heap.lt_size e
    refine hsb₁.extBut b o (neN (by omega)) (Heap.get?_push_of_some _ ?_)
    rw [← hH2]
    refine Heap.get?_push_of_some _ ?_
    rw [← hH1]
    exact Heap.get?_push_of_some _ e
  have hIh : h₁.IsListIter I ax 0 := ⟨_, hsb₁.extBut _ _ hIC (Heap.get?_push_of_some _ (by rw [← hH2]; exact Heap.get?_push_of_some _ hI)), rfl, rfl⟩
  have hDh : h₁.get? D = some (lst []) := hsb₁.extBut _ _ hDC (Heap.get?_push_of_some _ hD2)
  have hLlt : @LT.lt Nat _ L I := by rw [← hI']; exact F.ns.lt
  have fresh : ∀ a : Nat, I ≤ a → h₀.get? a = none := fun a ha => by
    cases e : h₀.get? a with
    | none => rfl
    | some o => have hz : @LT.lt Nat _ a s₁.heap.objs.size := Heap.lt_size (F.keep _ _ e); omega
  have offN : ∀ p ∈ news, @LT.lt Nat _ p.1 I := fun p hp => by rw [← hI']; exact Heap.lt_size (N p hp).1
  have loop : ∀ R : Result → Shared → Prop, (∀ D' ys h tk m', D' = D → ys.length = vs.length → (∀ y ∈ ys, P y) → Fr h₀ L h m → h.Ns C m' → News h₀ L h ((D, lst ys) :: news) → R (.ok .next) { s₁ with heap := h, toks := tk }) →
      codeG (model prog w) A (.compLoop (.ListComp elt [⟨.Name x px, iter, [], 0⟩] scope pos) 0 (.ref I) (.ref D) (compEnv scope C env)) R { s₁ with heap := h₁, toks := s₁.toks + ([] : List (Str × Value)).length } := by
    intro R hR
    refine codeG_compLoop
      (fun k s' => ∃ h' tk i ys m', s' = { s₁ with heap := h', toks := tk } ∧ i ≤ vs.length ∧ k = vs.length - i ∧ ys.length = i ∧ (∀ y ∈ ys, P y) ∧ h'.IsListIter I ax i ∧ Fr h₀ L h' m ∧ h'.Ns C m' ∧ News h₀ L h' ((D, lst ys) :: news)) ?_ vs.length
      ⟨h₁, _, 0, [], _, rfl, Nat.zero_le _, rfl, rfl, (fun _ hy => nomatch hy), hIh, F.keeps old, hns₁, fun p hp => ?_⟩
    · rintro k s' ⟨h', tk, i, ys, m', rfl, hi, rfl, hyl, hP, hit, F', hn', N'⟩
      have hl' : h'.IsList ax vs.toArray := ⟨_, (N' _ (List.mem_cons_of_mem _ hmem)).1, rfl, c, rfl⟩
      by_cases hlt' : i < vs.length
      · refine wpAny_pyNext_list_item hit hl' (x := vs[i]) (by simp [hlt']) fun h₂ hit₂ hs₂ => ?_
        dsimp only
        refine wpAny_assign_Name (wpAny_storeName_local (env := compEnv scope C env) hx (hn'.sameBut hs₂ (Ne.symm hIC)) (fun h₃ hn₃ hs₃ => ?_) (by simp [compEnv, hkind]))
        obtain ⟨oC, heC, hoC⟩ := ns_obj hn₃
        have hIL : @Ne Addr I L := neN (by omega)
        have hCL : @Ne Addr C L := neN (by omega)
        have F₃ : Fr h₀ L h₃ m := (F'.change hs₂ hIL (fresh I (Nat.le_refl _))).change hs₃ hCL (fresh C (by omega))
        have hit₃ : h₃.IsListIter I ax (i + 1) := hit₂.extBut hs₃.extBut hIC
        obtain ⟨oI, heI, hrI⟩ := hit₃
        have keep2 : ∀ p ∈ ((D, lst ys) :: news), p.1 ≠ I ∧ p.1 ≠ C := fun p hp => by
          rcases List.mem_cons.mp hp with rfl | hp
          · exact ⟨Ne.symm hID, hDC⟩
          · have := offN p hp; exact ⟨neN (by omega), neN (by omega)⟩
        have N₃ : News h₀ L h₃ ((I, oI) :: (C, oC) :: (D, lst ys) :: news) := fun p hp => by
          rcases List.mem_cons.mp hp with rfl | hp
          · exact ⟨heI, hIL, fresh I (Nat.le_refl _)⟩
          · rcases List.mem_cons.mp hp with rfl | hp
            · exact ⟨heC, hCL, fresh C (by omega)⟩
            · have z := N' p hp
              exact ⟨hs₃.extBut _ _ (keep2 p hp).2 (hs₂.extBut _ _ (keep2 p hp).1 z.1), z.2⟩
        refine elt9 vs[i] (List.getElem_mem _) C oC _ ((I, oI) :: (C, oC) :: (D, lst ys) :: news) h₃ _ _ (fun p hp => List.mem_cons_of_mem _ (List.mem_cons_of_mem _ (List.mem_cons_of_mem _ hp))) hoC (List.mem_cons_of_mem _ List.mem_cons_self) (by simp) F₃ N₃ fun r h₄ tk₄ hr F₄ N₄ => ?_
        have zI := (N₄ (I, oI) List.mem_cons_self).1
        have zC := (N₄ (C, oC) (List.mem_cons_of_mem _ List.mem_cons_self)).1
        have zD := N₄ (D, lst ys) (List.mem_cons_of_mem _ (List.mem_cons_of_mem _ List.mem_cons_self))
        refine append_at (s := { s₁ with heap := h₄, toks := tk₄ }) (hsz := by show ys.toArray.size ≤ sizeLine; rw [List.size_toArray, sizeLine_eq]; omega) zD.1 fun h₅ hs₅ hD₅ => ?_
        refine ⟨vs.length - (i + 1), by omega, h₅, tk₄, i + 1, ys ++ [r], _, rfl, hlt', rfl, by rw [List.length_append, List.length_singleton, hyl], fun y hy => ?_, ?_, F₄.change hs₅ zD.2.1 zD.2.2, (hoC.ns zC).sameBut hs₅ (Ne.symm hDC), fun p hp => ?_⟩
        · rcases List.mem_append.mp hy with hy | hy
          · exact hP y hy
          · rw [List.mem_singleton.mp hy]; exact hr
        · exact (show h₄.IsListIter I ax (i + 1) from ⟨oI, zI, hrI⟩).extBut hs₅.extBut hID
        · rcases List.mem_cons.mp hp with rfl | hp
          · exact ⟨hD₅.trans (congrArg some (lst_snoc ys r)), zD.2⟩
          · have z := N₄ p (List.mem_cons_of_mem _ (List.mem_cons_of_mem _ (List.mem_cons_of_mem _ hp)))
            have := offN p hp
            exact ⟨hs₅.extBut _ _ (neN (by omega)) z.1, z.2⟩
      · have hin : i = vs.length := by omega
        subst hin
        refine wpAny_pyNext_list_end hh hit hl' (by simp) fun h₂ he => ?_
        have hIL : @Ne Addr I L := neN (by omega)
        refine hR _ ys h₂ tk m' rfl hyl hP ?_ ?_ fun p hp => ?_
        · obtain ⟨oL, a1, a2, hL, a3⟩ := F'.ns
          exact ⟨⟨oL, a1, a2, he _ _ (Ne.symm hIL) hL, a3⟩, fun b o e => he _ _ (fun q => by have := fresh I (Nat.le_refl _); rw [← q, e] at this; cases this) (F'.keep b o e), F'.above⟩
        · exact hn'.at' fun o e => he _ _ (Ne.symm hIC) e
        · refine ⟨he _ _ ?_ (N' p hp).1, (N' p hp).2⟩
          rcases List.mem_cons.mp hp with rfl | hp
          · exact Ne.symm hID
          · have := offN p hp; exact neN (by omega)
    · rcases List.mem_cons.mp hp with rfl | hp
      · exact ⟨hDh, neN (by omega), fresh D (by omega)⟩
      · exact ⟨old _ _ (N p hp).1, (N p hp).2⟩
  have fin : ∀ D' ys h tk m', D' = D → ys.length = vs.length → (∀ y ∈ ys, P y) → Fr h₀ L h m → h.Ns C m' → News h₀ L h ((D, lst ys) :: news) →
      (fun (r : Result) (s' : Shared) => ∃ m, s'.heap.Ns C m ∧ ∀ h', Heap.SameBut C s'.heap h' → match r with | .ok _ => Q (.ref D) { s' with heap := h' } | .error _ => False) (.ok .next) { s₁ with heap := h, toks := tk } := by
    rintro D' ys h tk m' - hyl hP F' hn' N'
    refine ⟨m', hn', fun h'' hs'' => done9 D ys h'' tk hyl hP (F'.change hs'' (neN (by omega)) (fresh C (by omega))) (fun p hp => ?_) fun p hp => ltN (by have := offN p hp; omega)⟩
    refine ⟨hs''.extBut _ _ ?_ (N' p hp).1, (N' p hp).2⟩
    rcases List.mem_cons.mp hp with rfl | hp
    · exact hDC
    · have := offN p hp; exact neN (by omega)
  refine codeG_compStart (loop _ fin) ?_
  exact wpAny_pyIter_listiter hIh (loop _ fin)
theorem g_ListComp {elt iter : Expr} {x : Str} {px : Pos} {scope : Scope} {pos : Pos} {P : Value → Prop} {Q : Value → Shared → Prop}
    (hh : A.handled = none) (hfree : ∀ y ∈ scope.names, y.2 ≠ .free) (hcell : ∀ y ∈ scope.names, y.2 ≠ .cell) (hkind : scope.kind = .function)
    (hnames : ∀ y ∈ scope.names, y.2 = .local → scope.names.lookup y.1 = some .local) (hx : scope.names.lookup x = some .local)
    (h : wpAny (model prog w) A (eval iter env) (fun xv s₁ => ∃ ax vs c news, xv = .ref ax ∧ Fr h₀ L s₁.heap m ∧ News h₀ L s₁.heap news ∧ (ax, listOf (List.toArray vs) c) ∈ news ∧ vs.length ≤ 1000 ∧
      (∀ v ∈ vs, EltG prog w A h₀ L m env elt x scope news P s₁ v) ∧
      (∀ D ys h tk, ys.length = vs.length → (∀ y ∈ ys, P y) → Fr h₀ L h m → News h₀ L h ((D, lst ys) :: news) → (∀ p ∈ news, p.1 < D) → Q (.ref D) { s₁ with heap := h, toks := tk })) E s)
    (hs : ∀ x, foldedSetIterable iter env x = pure x := by intro _; rfl) :
    wpG (model prog w) A (eval (.ListComp elt [⟨.Name x px, iter, [], 0⟩] scope pos) env) Q E s := by
  exact eps_all (default, epsW, {}, default, {}, default, default, default, default, default, default, default, default, default, default, default, default) g_ListComp_P (by with_unfolding_all exact g_ListComp_0) (prog, w, A, E, s, h₀, L, m, env, elt, iter, x, px, scope, pos, P, Q) hh hfree hcell hkind hnames hx h hs
end
end
section
open _root_.PySem _root_.PySem.W _root_.PyProof.Rows _root_.PySem.Calls _root_.PySem.Spec
set_option Elab.async false
set_option maxRecDepth 100000
set_option maxHeartbeats 800000
namespace FB
theorem slot_join : Slot "bytes" "join" "bytes.join" :=
  .of (owner := "bytes") (n := "join") (by rw [typeLookup_type, builtinLookup_eq_fast]; kernel_rfl) (by decide +kernel) (by decide +kernel) (by decide +kernel)
    (by first | exact .inl (by decide +kernel) | exact .inr (by decide +kernel)) (by rw [isSubtype_type]; kernel_rfl)
theorem entry_join : entryFor table "bytes.join" = some Builtin.«bytes.join» := entryFor_of_tree (by kernel_rfl)
theorem args_join (a b : Value) : argsOk "bytes.join" ⟨[a, b], []⟩ := by kernel_rfl
theorem type_join : typeOf (.builtin "bytes.join") = pure (.type "method_descriptor") := by show builtinType _ = _; rw [builtinType_eq_fast]; kernel_rfl
theorem bbuf : typeLookup (.type "bytes") "__buffer__" = pure (some (.builtin "bytes.__buffer__")) := by rw [typeLookup_type, builtinLookup_eq_fast]; kernel_rfl
theorem brel : typeLookup (.type "bytes") "__release_buffer__" = pure none := by rw [typeLookup_type, builtinLookup_eq_fast]; kernel_rfl
theorem bsub : isSubtype (.type "bytes") (.type "bytes") = pure true := by rw [isSubtype_type]; kernel_rfl
end FB
section
variable {prog : Program} {w : World} {A : Around} {E : Value → Shared → Prop} {s : Shared}
theorem take_bytes {id : String} {b : Array UInt8} {t : Tok} {Q : Option (Array UInt8 × Option Value) → Shared → Prop} (h : Q (some (b, none)) s) : wpAny (model prog w) A (Builtin.Bytes.takeBufferQuiet? id (.bytes b t) 0) Q E s := by
  have hT : s.TypeIs (.bytes b t) "bytes" := PySem.W.typeIs_bytes _ _ _
  unfold Builtin.Bytes.takeBufferQuiet?
  refine wpAny_bind (wpAny_attempt ?_)
  unfold Builtin.Bytes.takeBuffer?
  refine wpAny_bind (wpAny_specialOf hT FB.bbuf ?_)
  try dsimp only
  refine wpAny_bind ?_
  unfold Builtin.Bytes.slotIsOwn
  refine wpAny_bind (wpAny_specialOf hT FB.bbuf ?_)
  try dsimp only
  rw [if_neg (show ¬ ((!"bytes.__buffer__".endsWith ("." ++ "__buffer__")) = true) by decide +kernel)]
  rw [show ("bytes.__buffer__".dropRight ("__buffer__".length + 1)) = "bytes" from by decide +kernel]
  refine wpAny_isInstance hT FB.bsub ?_
  rw [if_neg (by decide)]
  refine wpAny_bind (wpAny_specialOf hT FB.bbuf ?_)
  try dsimp only
  refine wpAny_bind ?_
  unfold Builtin.Bytes.buffer?
  refine wpAny_bind (wpAny_specialOf hT FB.bbuf ?_)
  try dsimp only
  refine wpAny_bind ?_
  unfold Builtin.Bytes.slotIsOwn
  refine wpAny_bind (wpAny_specialOf hT FB.bbuf ?_)
  try dsimp only
  rw [if_neg (show ¬ ((!"bytes.__buffer__".endsWith ("." ++ "__buffer__")) = true) by decide +kernel)]
  rw [show ("bytes.__buffer__".dropRight ("__buffer__".length + 1)) = "bytes" from by decide +kernel]
  refine wpAny_isInstance hT FB.bsub ?_
  rw [if_neg (by decide)]
  refine wpAny_bind (wpAny_specialOf hT FB.bbuf ?_)
  try dsimp only
  refine wpAny_bind ?_
  show wpAny _ _ (Builtin.Bytes.slotIsOwn (.bytes b t) "__release_buffer__" >>= fun b => pure !b) _ _ _
  unfold Builtin.Bytes.slotIsOwn
  refine wpAny_bind (wpAny_bind (wpAny_specialOf hT FB.brel ?_))
  try dsimp only
  refine wpAny_pure (wpAny_pure ?_)
  rw [if_neg (by decide)]
  refine wpAny_bind (wpAny_of_eq (rfl : Builtin.Bytes.payload (.bytes b t) = pure b) ?_)
  refine wpAny_pure ?_
  refine wpAny_pure ?_
  exact wpAny_pure h

theorem join_one {D : Addr} {sep b : Array UInt8} {t u : Tok} {c : Nat} {Q : Value → Shared → Prop} (hD : s.heap.get? D = some (listOf #[.bytes b u] c)) (h : Q (.bytes b u) s) :
    wpAny (model prog w) A (call (.builtin "bytes.join") [.bytes sep t, .ref D]) Q E s := by
  have hT : s.TypeIs (.bytes sep t) "bytes" := PySem.W.typeIs_bytes _ _ _
  refine wpAny_call (codeAny_call_builtin FB.slot_join.plain FB.entry_join (FB.slot_join.check _ _ _ _ _ _ _ _ hT (FB.args_join _ _) ?_))
  unfold Builtin.«bytes.join» Builtin.Bytes.joinM
  try dsimp only
  refine wpAny_bind (wpAny_of_eq (a := (.bytes sep t, .ref D)) rfl ?_)
  try dsimp only
  rw [if_pos (by decide)]
  refine wpAny_bind ?_
  unfold Builtin.Bytes.joinItems
  refine wpAny_bind (wpAny_typeOf (⟨_, hD, rfl⟩ : s.TypeIs (.ref D) "list") ?_)
  rw [if_pos (by decide)]
  refine wpAny_pure ?_
  refine wpAny_bind ?_
  unfold seqItems?
  refine wpAny_bind (wpAny_load hD (wpAny_pure ?_))
  try dsimp only
  rw [if_pos (by decide)]
  refine wpAny_bind (wpAny_of_eq (a := .type "bytes") rfl ?_)
  rw [if_pos (by decide)]
  refine wpAny_bind (wpAny_rule ?_)
  exact wpAny_pure h
end
end
section
open _root_.PySem _root_.PySem.W _root_.PyProof.Rows _root_.PySem.Calls _root_.PySem.Spec
set_option Elab.async false
set_option maxRecDepth 100000
set_option maxHeartbeats 800000
section
variable {prog : Program} {w : World} {A : Around} {E : Value → Shared → Prop} {s : Shared}
abbrev bv (p : Array UInt8 × Tok) : Value := .bytes p.1 p.2

theorem wpAny_joinLetGo {taken : List (Value × Option Value)} {keep : List Value} {Q : Unit → Shared → Prop} (ht : ∀ x ∈ taken, x.2 = none) (h : Q () s) : wpAny (model prog w) A (Builtin.Bytes.joinLetGo taken keep) Q E s := by
  induction taken with
  | nil => exact wpAny_pure h
  | cons x r ih =>
    obtain ⟨v, o⟩ := x
    obtain rfl : o = none := ht (v, o) List.mem_cons_self
    unfold Builtin.Bytes.joinLetGo
    refine wpAny_bind (wpAny_letGo ?_)
    exact ih fun y hy => ht y (List.mem_cons_of_mem _ hy)
theorem joined_size (sep : Array UInt8) (hsep : sep.size = 0) (ps : List (Array UInt8)) : (Builtin.Bytes.joined sep ps).size = (ps.map Array.size).sum := by
  have key : ∀ (ps : List (Array UInt8)) (k : Nat) (acc : Array UInt8), ((ps.zipIdx k).foldl (fun out (p, i) => (if i > 0 then out ++ sep else out) ++ p) acc).size = acc.size + (ps.map Array.size).sum := by
    intro ps
    induction ps with
    | nil => intro k acc; simp
    | cons p r ih =>
      intro k acc
      rw [List.zipIdx_cons, List.foldl_cons, ih]
      simp only [List.map_cons, List.sum_cons, Array.size_append]
      split <;> (try simp only [Array.size_append, hsep]) <;> omega
  have := key ps 0 #[]
  simpa [Builtin.Bytes.joined] using this

def join_five_B (prog : Program) (w : World) (A : Around) (E : Value → Shared → Prop) (s : Shared) (D : Addr) (sep : Array UInt8) (bs : List (Array UInt8 × Tok)) (t : Tok) (c : Nat) (Q : Value → Shared → Prop) : Prop := ∀ (hD : s.heap.get? D = some (listOf (bs.map bv).toArray c)) (h5 : 2 ≤ bs.length) (h9 : bs.length ≤ 100) (hb : ∀ p ∈ bs, p.1.size ≤ 100) (hsep : sep.size = 0) (h : ∀ r t' k, Array.size r = (bs.map fun p => p.1.size).sum → Q (.bytes r t') { s with toks := k }), wpAny (model prog w) A (call (.builtin "bytes.join") [.bytes sep t, .ref D]) Q E s
def join_five_P (e : Program × World × Around × (Value → Shared → Prop) × Shared × Addr × (Array UInt8) × (List (Array UInt8 × Tok)) × Tok × Nat × (Value → Shared → Prop)) : Prop := join_five_B e.1 e.2.1 e.2.2.1 e.2.2.2.1 e.2.2.2.2.1 e.2.2.2.2.2.1 e.2.2.2.2.2.2.1 e.2.2.2.2.2.2.2.1 e.2.2.2.2.2.2.2.2.1 e.2.2.2.2.2.2.2.2.2.1 e.2.2.2.2.2.2.2.2.2.2
@[irreducible] noncomputable def join_five_e : Program × World × Around × (Value → Shared → Prop) × Shared × Addr × (Array UInt8) × (List (Array UInt8 × Tok)) × Tok × Nat × (Value → Shared → Prop) := epsOf (default, epsW, {}, default, {}, default, default, default, default, default, default) join_five_P
@[irreducible] noncomputable def join_five_k_prog : Program := join_five_e.1
@[irreducible] noncomputable def join_five_k_w : World := join_five_e.2.1
@[irreducible] noncomputable def join_five_k_A : Around := join_five_e.2.2.1
@[irreducible] noncomputable def join_five_k_E : Value → Shared → Prop := join_five_e.2.2.2.1
@[irreducible] noncomputable def join_five_k_s : Shared := join_five_e.2.2.2.2.1
@[irreducible] noncomputable def join_five_k_D : Addr := join_five_e.2.2.2.2.2.1
@[irreducible] noncomputable def join_five_k_sep : Array UInt8 := join_five_e.2.2.2.2.2.2.1
@[irreducible] noncomputable def join_five_k_bs : List (Array UInt8 × Tok) := join_five_e.2.2.2.2.2.2.2.1
@[irreducible] noncomputable def join_five_k_t : Tok := join_five_e.2.2.2.2.2.2.2.2.1
@[irreducible] noncomputable def join_five_k_c : Nat := join_five_e.2.2.2.2.2.2.2.2.2.1
@[irreducible] noncomputable def join_five_k_Q : Value → Shared → Prop := join_five_e.2.2.2.2.2.2.2.2.2.2
theorem join_five_0 : join_five_B join_five_k_prog join_five_k_w join_five_k_A join_five_k_E join_five_k_s join_five_k_D join_five_k_sep join_five_k_bs join_five_k_t join_five_k_c join_five_k_Q := by
  unfold join_five_B
  generalize join_five_k_prog = prog
  generalize join_five_k_w = w
  generalize join_five_k_A = A
  generalize join_five_k_E = E
  generalize join_five_k_s = s
  generalize join_five_k_D = D
  generalize join_five_k_sep = sep
  generalize join_five_k_bs = bs
  generalize join_five_k_t = t
  generalize join_five_k_c = c
  generalize join_five_k_Q = Q
  intro hD h5 h9 hb hsep h
  have hT : s.TypeIs (.bytes sep t) "bytes" := PySem.W.typeIs_bytes _ _ _
  refine wpAny_call (codeAny_call_builtin FB.slot_join.plain FB.entry_join (FB.slot_join.check _ _ _ _ _ _ _ _ hT (FB.args_join _ _) ?_))
  unfold Builtin.«bytes.join» Builtin.Bytes.joinM
  dsimp only
  refine wpAny_bind (wpAny_of_eq (a := (.bytes sep t, .ref D)) rfl ?_)
  dsimp only
  rw [if_pos (by decide)]
  refine wpAny_bind ?_
  unfold Builtin.Bytes.joinItems
  refine wpAny_bind (wpAny_typeOf (⟨_, hD, rfl⟩ : s.TypeIs (.ref D) "list") ?_)
  rw [if_pos (by decide)]
  refine wpAny_pure ?_
  refine wpAny_bind ?_
  unfold seqItems?
  refine wpAny_bind (wpAny_load hD (wpAny_pure ?_))
  try dsimp only
  rw [if_pos (by decide)]
  obtain ⟨b0, b1, r0, hbs⟩ : ∃ b0 b1 r0, bs = b0 :: b1 :: r0 := by
    rcases bs with _ | ⟨b0, _ | ⟨b1, r0⟩⟩
    · simp at h5
    · simp at h5
    · exact ⟨_, _, _, rfl⟩
  subst hbs
  refine wpAny_bind ?_
  generalize hbs : b0 :: b1 :: r0 = bs at *
  rw [Std.Legacy.Range.forIn_eq_forIn_range']
  refine wpAny_forIn_list _ (fun rest st s' => s' = s ∧ ∃ i, i ≤ bs.length ∧ rest = List.range' i (bs.length - i) ∧ st.1 = ((bs.take i).map (·.1)).toArray ∧ ∀ x ∈ st.2, x.1.onHeap = false ∧ x.2 = none) _ ?_ ?_ _ _
    ⟨rfl, 0, Nat.zero_le _, ?_, ?_, ?_⟩
  · rintro i rest ⟨parts, taken⟩ s' ⟨rfl, j, hj, hr, hp, ht⟩
    have hlt : j < bs.length := by
      rcases Nat.lt_or_ge j bs.length with q | q
      · exact q
      · rw [show bs.length - j = 0 by omega] at hr; cases hr
    obtain ⟨rfl, hrest⟩ : i = j ∧ rest = List.range' (j + 1) (bs.length - (j + 1)) := by
      rw [show bs.length - j = (bs.length - (j + 1)) + 1 by omega, List.range'_succ] at hr
      injection hr with q1 q2
      exact ⟨q1, q2⟩
    have hget : (List.map bv bs).toArray.getD i Value.none = bv bs[i] := by simp [hlt]
    dsimp only
    refine wpAny_bind (wpAny_bind (wpAny_load hD ?_))
    refine wpAny_pure ?_
    dsimp only
    have hno : (Builtin.Bytes.Kind.bytes == Builtin.Bytes.Kind.bytearray || taken.any fun x => x.1.onHeap) = false := by
      rw [Bool.or_eq_false_iff]
      refine ⟨by decide, ?_⟩
      rw [List.any_eq_false]
      intro x hx
      rw [(ht x hx).1]; exact Bool.false_ne_true
    rw [if_neg (by rw [hno]; exact Bool.false_ne_true)]
    rw [hget]
    refine wpAny_bind (wpAny_holding (take_bytes ?_))
    dsimp only
    refine wpAny_bind (wpAny_bind (wpAny_load hD ?_))
    refine wpAny_pure ?_
    dsimp only
    rw [if_neg (by simp)]
    refine wpAny_pure ?_
    refine ⟨rfl, i + 1, hlt, hrest, ?_, ?_⟩
    · dsimp only at hp ⊢
      have e : bs.take (i + 1) = bs.take i ++ [bs[i]] := by rw [List.take_add_one]; simp [hlt]
      rw [hp, e]
      simp only [List.map_append, List.map_cons, List.map_nil, List.push_toArray]
    · intro x hx
      rcases List.mem_append.mp hx with hx | hx
      · exact ht x hx
      · rw [List.mem_singleton.mp hx]; exact ⟨rfl, rfl⟩
  · rintro ⟨parts, taken⟩ s' ⟨rfl, j, hj, hr, hp, ht⟩
    have hjn : j = bs.length := by
      rcases Nat.lt_or_ge j bs.length with q | q
      · rw [show bs.length - j = (bs.length - (j + 1)) + 1 by omega, List.range'_succ] at hr; cases hr
      · omega
    subst hjn
    dsimp only at hp ht ⊢
    rw [List.take_length] at hp
    have hsum : ∀ (l : List (Array UInt8 × Tok)), (∀ p ∈ l, p.1.size ≤ 100) → (l.map fun p => p.1.size).sum ≤ 100 * l.length := by
      intro l
      induction l with
      | nil => intro _; simp
      | cons p r ih => intro hl; have := ih fun q hq => hl q (List.mem_cons_of_mem _ hq); have := hl p List.mem_cons_self; simp only [List.map_cons, List.sum_cons, List.length_cons]; omega
    have hsz := hsum bs hb
    have hjs : (Builtin.Bytes.joined sep parts.toList).size = (bs.map fun p => p.1.size).sum := by
      rw [joined_size _ hsep, hp, List.map_map]; rfl
    refine wpAny_bind (wpAny_of_eq (rfl : Builtin.Bytes.payload (.bytes sep t) = pure sep) ?_)
    have hfold : parts.foldl (fun x y => x + y.size) (sep.size * (parts.size - 1)) = (bs.map fun p => p.1.size).sum := by
      rw [hsep, Nat.zero_mul, hp]
      have key : ∀ (l : List (Array UInt8 × Tok)) (k : Nat), (l.map (·.1)).foldl (fun x y => x + Array.size y) k = k + (l.map fun p => p.1.size).sum := by
        intro l
        induction l with
        | nil => intro k; simp
        | cons p r ih => intro k; simp only [List.map_cons, List.foldl_cons, List.sum_cons]; rw [ih]; omega
      rw [List.foldl_toArray]
      have := key bs 0
      omega
    rw [if_neg (by
      unfold Builtin.Bytes.tooLong
      simp only [decide_eq_true_eq]
      rw [show (parts.foldl (fun x1 x2 => x1 + x2.size) (sep.size * (parts.size - 1))) = _ from hfold, sizeLine_eq]
      omega)]
    refine wpAny_bind (wpAny_mkBytes ?_ (by rw [hjs, sizeLine_eq]; omega))
    refine wpAny_bind (wpAny_holding (wpAny_point ?_))
    refine wpAny_bind (wpAny_joinLetGo (fun x hx => (ht x hx).2) ?_)
    exact wpAny_pure (h _ _ _ hjs)
  · simp
  · simp
  · intro x hx; cases hx
theorem join_five {D : Addr} {sep : Array UInt8} {bs : List (Array UInt8 × Tok)} {t : Tok} {c : Nat} {Q : Value → Shared → Prop} (hD : s.heap.get? D = some (listOf (bs.map bv).toArray c)) (h5 : 2 ≤ bs.length) (h9 : bs.length ≤ 100) (hb : ∀ p ∈ bs, p.1.size ≤ 100) (hsep : sep.size = 0)
    (h : ∀ r t' k, Array.size r = (bs.map fun p => p.1.size).sum → Q (.bytes r t') { s with toks := k }) :
    wpAny (model prog w) A (call (.builtin "bytes.join") [.bytes sep t, .ref D]) Q E s := by
  exact eps_all (default, epsW, {}, default, {}, default, default, default, default, default, default) join_five_P (by with_unfolding_all exact join_five_0) (prog, w, A, E, s, D, sep, bs, t, c, Q) hD h5 h9 hb hsep h
end
end
section
open _root_.PySem _root_.PySem.W _root_.PyProof.Rows _root_.PySem.Calls _root_.PySem.Spec
set_option Elab.async false
set_option maxRecDepth 100000
set_option maxHeartbeats 800000

def PureN (w : World) (d : Nat) (f : Addr) (need : List (Addr × Obj)) (vs : List Value) (P : Value → Prop) : Prop :=
  ∀ (p : Program) (loose : List Str) (mean : ExcName → Option Value) (mg mb : Str → Option Value)
    (dp un : Nat) (gd : Option (List Code)) (cn : Str) (cs : Scope) (a : Addr) (ccd : Value) (cl : List (Str × Addr)) (outer : List Env) (A₀ : Around) (base h₀ : Heap) (L : Addr) (m : Str → Option Value) (news : List (Addr × Obj)) (s : Shared) (Q E : Value → Shared → Prop),
    Below A₀ base outer h₀ → Fr h₀ L s.heap m → (hd.heap_1 w.params).In h₀ → News h₀ L s.heap news → Top p loose mean mg mb h₀ → cs.kind = .function →
    dp + d < recursionLimit → un + 8 * d < cLine → (∀ q ∈ need, q ∈ news) →
    (∀ v h' tk', Fr h₀ L h' m → News h₀ L h' news → P v → Q v { s with heap := h', toks := tk' }) →
    wpG (model PR w) (ktrTop dp un gd cn cs L a ccd cl outer) (call (.ref f) vs) Q E s
def PureN9 (w : World) (d : Nat) (f : Addr) (need : List (Addr × Obj)) (vs : List Value) (P : Value → Prop) (p : Program) (loose : List Str) (mean : ExcName → Option Value) (mg : Str → Option Value) (mb : Str → Option Value) (dp : Nat) (un : Nat) (gd : Option (List Code)) (cn : Str) (cs : Scope) (a : Addr) (ccd : Value) (cl : List (Str × Addr)) (outer : List Env) (A₀ : Around) (base : Heap) (h₀ : Heap) (L : Addr) (m : Str → Option Value) (news : List (Addr × Obj)) (s : Shared) (Q : Value → Shared → Prop) (E : Value → Shared → Prop) : Prop :=
    Below A₀ base outer h₀ → Fr h₀ L s.heap m → (hd.heap_1 w.params).In h₀ → News h₀ L s.heap news → Top p loose mean mg mb h₀ → cs.kind = .function →
    dp + d < recursionLimit → un + 8 * d < cLine → (∀ q ∈ need, q ∈ news) →
    (∀ v h' tk', Fr h₀ L h' m → News h₀ L h' news → P v → Q v { s with heap := h', toks := tk' }) →
    wpG (model PR w) (ktrTop dp un gd cn cs L a ccd cl outer) (call (.ref f) vs) Q E s
theorem PureN_of (w : World) (d : Nat) (f : Addr) (need : List (Addr × Obj)) (vs : List Value) (P : Value → Prop) (h : ∀  (v : KV), v.to (PureN9 w d f need vs P)) : PureN w d f need vs P := fun p loose mean mg mb dp un gd cn cs a ccd cl outer A₀ base h₀ L m news s Q E => h  ⟨p, loose, mean, mg, mb, dp, un, gd, cn, cs, a, ccd, cl, outer, A₀, base, h₀, L, m, news, s, Q, E⟩


theorem PureN.use {w : World} {d : Nat} {f : Addr} {need : List (Addr × Obj)} {vs : List Value} {P : Value → Prop} {p : Program} {loose : List Str} {mean : ExcName → Option Value} {mg mb : Str → Option Value}
    {dp un : Nat} {gd : Option (List Code)} {cn : Str} {cs : Scope} {a : Addr} {ccd : Value} {cl : List (Str × Addr)} {outer : List Env} {A₀ : Around} {base h₀ : Heap} {L : Addr} {m : Str → Option Value} {news : List (Addr × Obj)} {s : Shared} {Q E : Value → Shared → Prop}
    (C : PureN w d f need vs P) (B : Below A₀ base outer h₀) (F : Fr h₀ L s.heap m) (X : (hd.heap_1 w.params).In h₀) (N : News h₀ L s.heap news) (T : Top p loose mean mg mb h₀) (hk : cs.kind = .function)
    (h1 : dp + d < recursionLimit) (h2 : un + 8 * d < cLine) (hn : ∀ q ∈ need, q ∈ news)
    (ret : ∀ v h' tk', Fr h₀ L h' m → News h₀ L h' news → P v → Q v { s with heap := h', toks := tk' }) :
    wpG (model PR w) (ktrTop dp un gd cn cs L a ccd cl outer) (call (.ref f) vs) Q E s :=
  C _ _ _ _ _ _ _ _ _ _ _ _ _ _ _ _ _ _ _ _ _ _ _ B F X N T hk h1 h2 hn ret

section
variable {prog : Program} {w : World} {A : Around} {E : Value → Shared → Prop} {s : Shared} {env : Env} {h₀ : Heap} {L : Addr} {m : Str → Option Value} {news : List (Addr × Obj)}
theorem g_join {o e : Expr} {apos pos : Pos} {Q : Value → Shared → Prop} (hbase : ∀ t, attributeBase o (Str.ofString "join") env t = t)
    (hfew : methodCallForm (([e] : List Expr).length + ([] : List Keyword).length) (backTo pos (starEach [e] env)) (backToKw pos (keywordEach [] env)) = true) (hline : (apos.endLine == pos.line) = true)
    (hstar : starEach [e] env = [(false, eval e env)])
    (h : wpAny (model prog w) A (eval o env) (fun ov s₁ => (∃ b t, ov = .bytes b t) ∧ wpG (model prog w) A (eval e env) (fun v s₂ => wpAny (model prog w) A (call (.builtin "bytes.join") [ov, v]) Q E s₂) E s₁) E s) :
    wpG (model prog w) A (eval (.Call (.Attribute o (Str.ofString "join") apos) [e] [] pos) env) Q E s := by
  rw [arm_eval_Call, hbase]
  refine wpG_bind (wpG_any (wpAny_mono h (fun ov s₁ h₁ => ?_) fun _ _ e => e))
  obtain ⟨⟨b, t, rfl⟩, hc⟩ := h₁
  refine wpG_bind (wpG_any (wpAny_standAt ?_))
  have hT : s₁.TypeIs (.bytes b t) "bytes" := PySem.W.typeIs_bytes _ _ _
  have hpos : methodCallPos true o env apos pos = pure pos := by unfold methodCallPos; simp [hline]
  unfold methodCall
  rw [hfew]
  refine wpG_bind (wpG_any (wpAny_holding (getMethod_builtin hT PySem.W.FB.plainAttrs_bytes FB.slot_join FB.type_join (fun a e => by cases e) ?_)))
  refine wpG_bind (wpG_any (wpAny_of_eq hpos ?_))
  show wpG _ _ (callWith pos (.builtin "bytes.join") [.bytes b t] (backTo pos (starEach [e] env)) []) _ _ _
  rw [hstar]
  refine g_callWith_of (P := fun _ => True) rfl (fun h _ => ⟨_, Looks.of_pure rfl⟩) (g_spliced_cons (wpG_mono hc (fun v s₂ h₂ => g_spliced_nil ⟨trivial, wpG_any h₂⟩) fun _ _ x => x))
theorem k_join_one {D : Addr} {sep : Array UInt8} {ys : List Value} {n : Nat} {t : Tok} {c : Nat} {Q : Value → Shared → Prop} (N : News h₀ L s.heap ((D, listOf ys.toArray c) :: news)) (hP : ∀ y ∈ ys, BytesOf n y) (h1 : ys.length = 1)
    (h : ∀ v, BytesOf n v → Q v s) : wpAny (model prog w) A (call (.builtin "bytes.join") [.bytes sep t, .ref D]) Q E s := by
  rcases ys with _ | ⟨y, _ | ⟨z, r⟩⟩
  · simp at h1
  · obtain ⟨b, u, ks, rfl, hb, hl⟩ := hP y List.mem_cons_self
    exact join_one (N _ List.mem_cons_self).1 (h _ ⟨b, u, ks, rfl, hb, hl⟩)
  · simp at h1
theorem k_join_many {D : Addr} {sep : Array UInt8} {ys : List Value} {t : Tok} {c : Nat} {Q : Value → Shared → Prop} (N : News h₀ L s.heap ((D, listOf ys.toArray c) :: news)) (hP : ∀ y ∈ ys, BytesOf 1 y) (h1 : 1 ≤ ys.length) (h9 : ys.length ≤ 100) (hsep : sep.size = 0)
    (h : ∀ v h' tk', BytesOf ys.length v → h' = s.heap → Q v { s with heap := h', toks := tk' }) : wpAny (model prog w) A (call (.builtin "bytes.join") [.bytes sep t, .ref D]) Q E s := by
  rcases Nat.lt_or_ge 1 ys.length with q | q
  · obtain ⟨bs, rfl, hbs⟩ : ∃ bs : List (Array UInt8 × Tok), ys = bs.map bv ∧ ∀ p ∈ bs, p.1.size = 1 := by
      clear N h h1 h9 q
      induction ys with
      | nil => exact ⟨[], rfl, fun _ hp => nomatch hp⟩
      | cons y r ih =>
        obtain ⟨bs, rfl, hbs⟩ := ih fun z hz => hP z (List.mem_cons_of_mem _ hz)
        obtain ⟨b, u, ks, rfl, hb, hl⟩ := hP y List.mem_cons_self
        refine ⟨(b, u) :: bs, rfl, fun p hp => ?_⟩
        rcases List.mem_cons.mp hp with rfl | hp
        · rw [← hb, KBw.ints_length] at hl; exact hl
        · exact hbs p hp
    rw [List.length_map] at h9 q h
    have hsum : ∀ (l : List (Array UInt8 × Tok)), (∀ p ∈ l, p.1.size = 1) → (l.map fun p => p.1.size).sum = l.length := by
      intro l
      induction l with
      | nil => intro _; rfl
      | cons p r ih => intro hl; have := ih fun q hq => hl q (List.mem_cons_of_mem _ hq); have := hl p List.mem_cons_self; simp only [List.map_cons, List.sum_cons, List.length_cons]; omega
    refine join_five (N _ List.mem_cons_self).1 q h9 (fun p hp => by rw [hbs p hp]; decide) hsep fun r t' k hr => h _ _ _ ⟨r, t', _, rfl, rfl, ?_⟩ rfl
    rw [KBw.ints_length, hr, hsum bs hbs]
  · refine k_join_one N hP (by omega) fun v hv => ?_
    have := h v s.heap s.toks (by rw [show ys.length = 1 by omega]; exact hv) rfl
    exact this
end
end
section
open _root_.PySem _root_.PySem.W _root_.PyProof.Rows _root_.PySem.Calls _root_.PySem.Spec
set_option Elab.async false
set_option maxRecDepth 100000
set_option maxHeartbeats 800000
section
variable {prog : Program} {w : World} {A : Around} {E : Value → Shared → Prop} {s : Shared} {env : Env} {h₀ : Heap} {x : Str} {body : List Stmt} {Q : Flow → Shared → Prop} {news : List (Addr × Obj)}
theorem k_first_tup {t : Addr} {items : Array Value} {v0 : Value} {m₀ : Str → Option Value} (hh : A.handled = none) (F : Fr h₀ env.locals s.heap m₀) (N : News h₀ env.locals s.heap news) (ht : h₀.IsTuple t items) (h0 : items[0]? = some v0)
    (turn : ∀ h tk own, Fr h₀ env.locals h (fun y => if y = x then some v0 else m₀ y) → News h₀ env.locals h (news ++ own) →
      wpAny (model prog w) A (execs body env) (fun f s' => ∃ v, f = .ret v ∧ Q (.ret v) s') E { s with heap := h, toks := tk }) :
    wpAny (model prog w) A (pyIter (.ref t)) (fun it s₂ => LoopAtV prog w A h₀ env x body Q E it s₂) E s := by
  obtain ⟨ot, hot, hoc, n0, hod⟩ := id ht
  have hts : s.heap.IsTuple t items := ⟨ot, F.keep _ _ hot, hoc, n0, hod⟩
  have hlt : @LT.lt Nat _ t s.heap.objs.size := Heap.lt_size (F.keep _ _ hot)
  have hLlt : @LT.lt Nat _ env.locals s.heap.objs.size := F.ns.lt
  have htL : @Ne Nat t env.locals := fun e => by
    have h1 : @LT.lt Nat _ t h₀.objs.size := Heap.lt_size hot
    have h2 := F.above
    omega
  refine wpAny_pyIter_tuple hts ?_
  have W := Walks.tuple (prog := prog) (w := w) hh s.heap.objs.size t (Nat.ne_of_lt hlt) items
  have hpos : 0 < items.size := by
    rcases Nat.eq_zero_or_pos items.size with e | e
    · rw [Array.getElem?_eq_none (by omega)] at h0; cases h0
    · exact e
  refine loop_invN (fun i m nx => i = 0 ∧ m = m₀ ∧ nx = news) W ?_ ?_ ?_ ?_ ⟨⟨_, Heap.get?_push_size _ rfl, rfl, rfl⟩, hts.push _⟩ (F.push _) (fun p hp => ⟨Heap.get?_push_of_some _ (N p hp).1, (N p hp).2⟩) ⟨rfl, rfl, rfl⟩ ?_ ?_
  · intro hm
    rcases List.mem_cons.mp hm with e | hm
    · exact absurd e (Nat.ne_of_lt hLlt)
    · exact htL (List.mem_singleton.mp hm).symm
  · intro b hb
    rw [List.mem_singleton.mp hb]
    exact next_is_new F
  · intro p hp hI
    exact absurd (Heap.lt_size (N p hp).1) ((List.mem_singleton.mp hI) ▸ Nat.lt_irrefl _)
  · intro p hp hI
    rcases List.mem_cons.mp hI with e | hI
    · exact absurd (Heap.lt_size (N p hp).1) (e ▸ Nat.lt_irrefl _)
    · have h2 := (N p hp).2.2
      rw [List.mem_singleton.mp hI, hot] at h2
      cases h2
  · rintro i v m₁ nx h tk own hi hv _ _ ⟨rfl, rfl, rfl⟩ F₁ N₁
    rw [h0] at hv
    obtain rfl := Option.some.inj hv
    refine wpAny_mono (turn h tk own F₁ N₁) (fun f s' hf => ?_) fun _ _ e => e
    obtain ⟨v, rfl, hq⟩ := hf
    exact hq
  · rintro m₁ nx h tk ⟨hn, _, _⟩ _ _
    omega
theorem k_first_K {K : Frag} {t : Addr} {l : List Value} {n : Nat} {dd : Option Addr} {sl : Array (Option Value)} {v0 : Value} {m₀ : Str → Option Value} (hh : A.handled = none) (F : Fr h₀ env.locals s.heap m₀) (N : News h₀ env.locals s.heap news) (X : K.In h₀) (hl : K.lookup t = some ⟨.type "tuple", dd, .seq l.toArray n, sl⟩) (h0 : l[0]? = some v0)
    (turn : ∀ h tk own, Fr h₀ env.locals h (fun y => if y = x then some v0 else m₀ y) → News h₀ env.locals h (news ++ own) →
      wpAny (model prog w) A (execs body env) (fun f s' => ∃ v, f = .ret v ∧ Q (.ret v) s') E { s with heap := h, toks := tk }) :
    wpAny (model prog w) A (pyIter (.ref t)) (fun it s₂ => LoopAtV prog w A h₀ env x body Q E it s₂) E s :=
  k_first_tup hh F N ⟨_, X _ _ hl, rfl, n, rfl⟩ (by simpa using h0) turn
end
end
section
open _root_.PySem _root_.PySem.W _root_.PyProof.Rows _root_.PySem.Calls _root_.PySem.Spec
set_option Elab.async false
set_option maxRecDepth 100000
set_option maxHeartbeats 800000
section
variable {prog : Program} {w : World} {A : Around} {E : Value → Shared → Prop} {s : Shared} {K : Frag} {a : Addr} {l : List Value} {n : Nat} {dd : Option Addr} {sl : Array (Option Value)}
def isInt (x : Int) : Value → Bool
  | .int b _ => b == x
  | _ => false
def isStr9 (x : Str) : Value → Bool
  | .str b _ => b == x
  | _ => false
def allInts : List Value → Bool
  | [] => true
  | .int _ _ :: r => allInts r
  | _ => false
def allStrs : List Value → Bool
  | [] => true
  | .str _ _ :: r => allStrs r
  | _ => false
theorem allInts_mem : ∀ {l : List Value}, allInts l = true → ∀ y ∈ l, ∃ b t, y = .int b t
  | .int b t :: r, h, y, hy => by
    rcases List.mem_cons.mp hy with rfl | hy
    · exact ⟨b, t, rfl⟩
    · exact allInts_mem (l := r) h y hy
theorem allStrs_mem : ∀ {l : List Value}, allStrs l = true → ∀ y ∈ l, ∃ b t, y = .str b t
  | .str b t :: r, h, y, hy => by
    rcases List.mem_cons.mp hy with rfl | hy
    · exact ⟨b, t, rfl⟩
    · exact allStrs_mem (l := r) h y hy
theorem k_notIn_int {x : Int} {u : Tok} {Q : Value → Shared → Prop} (X : K.In s.heap) (hl : K.lookup a = some ⟨.type "tuple", dd, .seq l.toArray n, sl⟩) (hi : allInts l = true)
    (h : Q (.bool (!l.any (isInt x))) s) : wpAny (model prog w) A (compareOp .NotIn (.int x u) (.ref a)) Q E s := by
  refine SeqAt.notIn_tupleAt (isInt x) (items := l.toArray) ⟨_, X _ _ hl, rfl, n, rfl⟩ (fun y hy => ?_) (by simpa using h)
  obtain ⟨b, t, rfl⟩ := allInts_mem hi y (by simpa using hy)
  exact SeqAt.EqAt.int_int b t x u
theorem k_notIn_str {x : Str} {u : Tok} {Q : Value → Shared → Prop} (X : K.In s.heap) (hl : K.lookup a = some ⟨.type "tuple", dd, .seq l.toArray n, sl⟩) (hi : allStrs l = true)
    (h : Q (.bool (!l.any (isStr9 x))) s) : wpAny (model prog w) A (compareOp .NotIn (.str x u) (.ref a)) Q E s := by
  refine SeqAt.notIn_tupleAt (isStr9 x) (items := l.toArray) ⟨_, X _ _ hl, rfl, n, rfl⟩ (fun y hy => ?_) (by simpa using h)
  obtain ⟨b, t, rfl⟩ := allStrs_mem hi y (by simpa using hy)
  exact SeqAt.EqAt.str_str b t x u
theorem k_notIn_strs {m : Str → Option Value} {h₀ : Heap} {L : Addr} {news : List (Addr × Obj)} {x : Str} {u : Tok} {Q : Value → Shared → Prop} (N : News h₀ L s.heap news) (hl : (a, (⟨.type "tuple", dd, .seq l.toArray n, sl⟩ : Obj)) ∈ news) (hi : allStrs l = true)
    (h : Q (.bool (!l.any (isStr9 x))) s) : wpAny (model prog w) A (compareOp .NotIn (.str x u) (.ref a)) Q E s := by
  refine SeqAt.notIn_tupleAt (isStr9 x) (items := l.toArray) ⟨_, (N _ hl).1, rfl, n, rfl⟩ (fun y hy => ?_) (by simpa using h)
  obtain ⟨b, t, rfl⟩ := allStrs_mem hi y (by simpa using hy)
  exact SeqAt.EqAt.str_str b t x u
theorem k_index0 {x : Int} {t u : Tok} {r : List Value} {Q : Value → Shared → Prop} (X : K.In s.heap) (hl : K.lookup a = some ⟨.type "tuple", dd, .seq (.int x t :: r).toArray n, sl⟩)
    (h : ∀ t', Q (.int 0 t') { s with toks := s.toks + 1 }) : wpAny (model prog w) A (call (.builtin "tuple.index") [.ref a, .int x u]) Q E s := by
  have ho := X _ _ hl
  have hT : s.TypeIs (.ref a) "tuple" := ⟨_, ho, rfl⟩
  refine wpAny_call (codeAny_call_builtin F.slot_tuple_index.plain F.entry_tuple_index (F.slot_tuple_index.check _ _ _ _ _ _ _ _ hT (F.args_tuple_index_2 _ _) ?_))
  unfold Builtin.«tuple.index»
  refine wpAny_bind (wpAny_of_eq (a := (.ref a, [.int x u])) rfl ?_)
  dsimp only
  refine wpAny_bind ?_
  unfold Builtin.Tuple.tupleItemsOf seqItems?
  refine wpAny_bind (wpAny_bind (wpAny_load ho (wpAny_pure ?_)))
  refine wpAny_pure ?_
  refine wpAny_bind (wpAny_pure ?_)
  refine wpAny_bind (wpAny_pure ?_)
  rw [Std.Legacy.Range.forIn_eq_forIn_range']
  have e : List.range' [:min (Value.int x t :: r).toArray.size (Value.int x t :: r).toArray.size].start [:min (Value.int x t :: r).toArray.size (Value.int x t :: r).toArray.size].size [:min (Value.int x t :: r).toArray.size (Value.int x t :: r).toArray.size].step = 0 :: List.range' 1 r.length := by
    simp only [Nat.min_self, List.size_toArray, List.length_cons, Std.Legacy.Range.size, Nat.sub_zero, Nat.add_sub_cancel, Nat.div_one]
    rw [List.range'_succ]
  rw [e, List.forIn_cons]
  refine wpAny_bind (wpAny_bind ?_)
  show wpAny _ _ (eqBool (.int x t) (.int x u) >>= _) _ _ _
  refine wpAny_bind (SeqAt.EqAt.int_int x t x u prog w _ _ ?_)
  rw [if_pos (by simp)]
  refine wpAny_bind ?_
  unfold retInt
  refine wpAny_bind (wpAny_mkInt ?_)
  refine wpAny_pure ?_
  refine wpAny_pure ?_
  refine wpAny_pure ?_
  exact wpAny_pure (h _)
theorem k_getIndex {its : Array Value} {pl : Sem Bool} {Q : Value × List Value → Shared → Prop} (X : K.In s.heap) (hl : K.lookup a = some ⟨.type "tuple", none, .seq its n, sl⟩)
    (h : Q (.builtin "tuple.index", [.ref a]) s) : wpAny (model prog w) A (getMethod (.ref a) (Str.ofString "index") pl) Q E s :=
  getMethod_builtin (T := "tuple") ⟨_, X _ _ hl, rfl⟩ F.plainAttrs_tuple F.slot_tuple_index F.type_tuple_index (fun b e => by cases e; exact ⟨_, X _ _ hl, rfl⟩) h
end
end
open _root_.PySem _root_.PySem.W _root_.PyProof.Rows _root_.PySem.Calls _root_.PySem.Spec
local macro_rules | `(tactic| kst_allIn) => `(tactic| ((fail_if_success (with_reducible show ∀ p ∈ _ :: _, _)); (fail_if_success (with_reducible show ∀ p ∈ [], _)); intro p9 h9; kst_mem))
local macro_rules | `(tactic| walk_at "eval Name") => `(tactic| (k_here; k_dflt (refine' nameL ?a ?b ?d ?F ?v ?_; (case F => k_asm); (case a => exact rfl); (case b => exact rfl); (case v => exact @rfl _ (some _)); (case d => decide); k_whole)))
local macro_rules | `(tactic| walk_at "callWith ref") => `(tactic| (k_here; (fail_if_success (with_reducible show wpAny _ _ (callWith _ _ _ (backTo _ (starEach (_ :: _) _)) _) _ _ _)); k_dflt (refine' callWith_K0 ?k1 ?k2 ?_; (case k1 => exact Frag.In.keeps (by k_asm) (Fr.keep (by k_asm))); (case k2 => k_is); k_whole)))
local macro_rules | `(tactic| k_mem) => `(tactic| ((repeat ((fail_if_success (with_reducible apply mem_hd)); with_reducible apply mem_tl)); with_reducible apply mem_hd))
local macro_rules | `(tactic| k_ne) => `(tactic| (refine neN ?_; (try dsimp only); first | with_reducible assumption | with_reducible exact Ne.symm (by assumption) | with_reducible exact Nat.ne_of_lt (by assumption) | with_reducible exact Nat.ne_of_gt (by assumption) | omega))
local macro_rules | `(tactic| ktr_room) => `(tactic| ((try simp only [depth_under_make, depth_under_kw, depth_in1, depth_deeper, depth_caller]); (try dsimp only [ktrTop]); first | ((try simp only [Nat.add_assoc, Nat.reduceAdd]); exact room9 (by with_reducible assumption) (by decide)) | omega))
local macro_rules | `(tactic| ktr_units) => `(tactic| ((try simp only [units_under_make, units_in1, units_deeper, Around.mark_units, units_caller]); (try dsimp only [ktrTop]); first | ((try simp only [Nat.add_assoc, Nat.reduceAdd, Nat.reduceMul]); exact room9 (by with_reducible assumption) (by decide)) | (have hcL9 := cLine_is; omega)))
local macro_rules | `(tactic| walk_at "ite") => `(tactic| (k_here; first | (refine ite_pos (by with_reducible assumption) ?_) | (refine ite_neg (by with_reducible assumption) ?_) | (refine ite_isFalse (by with_reducible assumption) ?_) | (refine ite_pos (by first | omega | k_dec) ?_) | (refine ite_neg (by first | omega | k_dec) ?_)))
local macro_rules | `(tactic| k_steps) => `(tactic| (repeat' (first | ((fail_if_success ((rename (_ : Type) => hc9); (with_unfolding_none rename Cl _ => hc8); (fail_if_success (have hc7 := hc9)))); (rename (_ : Type) => hc9); (refine hd_in ?_); revert hc9; (repeat ((fail_if_success ((rename (_ : Type) => hc9); (with_unfolding_none rename Cl _ => hc8); (fail_if_success (have hc7 := hc9)))); (rename (_ : Type) => hc9); revert hc9)); (with_reducible (refine eps_lt ?_; intro xc8; refine (?_ : ∀ y : Cl _, Ap _ y) xc8; clear xc8; intro _; refine ap_mk ?_)); (repeat (with_reducible (refine eps_lt ?_; intro xc8; refine (?_ : ∀ y : Cl _, Ap _ y) xc8; clear xc8; intro _; refine ap_mk ?_))); (set_option tactic.hygienic false in intros); (refine hd_out ?_)) | (with_reducible rename ((@Ne Nat _ _ ∧ _) ∧ _) => hh9; (try k_fold); obtain ⟨hh8, hh7⟩ := hh9) | (with_reducible rename (@Ne Nat _ _ ∧ _) => hh9; (try k_fold); obtain ⟨hh8, hh7⟩ := hh9) | (with_reducible rename (@LT.lt Nat _ _ _ ∧ _) => hh9; (try k_fold); obtain ⟨hh8, hh7⟩ := hh9) | (k_unfold; (try dsimp only)) | (k_end; wrow_close) | walk1 | (dsimp only; walk1) | (leave1; walk_say "STEP leave1"; try dsimp only) | fail "no step")))
local macro_rules | `(tactic| walk_at "CL9") => `(tactic| (with_reducible ((first | refine eps_lp ?_ | refine eps_lpw ?_ | refine eps_ltk ?_); intro xc8; (first | refine (?_ : ∀ y : Cl KV, Ap _ y) xc8 | refine (?_ : ∀ y, Ap _ y) xc8); clear xc8; intro _; refine ap_mk ?_)))
local macro_rules | `(tactic| k_lt $h:ident) => `(tactic| (k_dflt ((refine lt_all $h ?_); (repeat ((with_reducible show LtK _ (_ :: _) _); intro _)); (first | (with_reducible refine ltk_nil ?_) | (with_reducible refine ltk_tail (fun p hp => $h p (by (repeat (first | exact hp | refine List.mem_cons_of_mem _ ?_)))) ?_; intro _)); (try clear $h))))
local macro_rules | `(tactic| walk_at $s:str) => `(tactic| k_extra $s)
local macro_rules | `(tactic| wtm_val) => `(tactic| k_extra "wtm_val")
local macro_rules | `(tactic| by_in) => `(tactic| k_extra "by_in")
local macro_rules | `(tactic| k_ne) => `(tactic| k_extra "k_ne")
local macro_rules | `(tactic| ktr_room) => `(tactic| k_extra "ktr_room")
local macro_rules | `(tactic| ktr_units) => `(tactic| k_extra "ktr_units")
local macro_rules | `(tactic| k_room) => `(tactic| k_extra "k_room")
local macro_rules | `(tactic| k_units) => `(tactic| k_extra "k_units")
local macro_rules | `(tactic| size_fits) => `(tactic| k_extra "size_fits")
local macro_rules | `(tactic| ke_room) => `(tactic| k_extra "ke_room")
local macro_rules | `(tactic| k_intsEnd) => `(tactic| k_extra "k_intsEnd")
local macro_rules | `(tactic| k_all) => `(tactic| k_extra "k_all")
local macro_rules | `(tactic| k_mem) => `(tactic| k_extra "k_mem")
local macro_rules | `(tactic| k_updF) => `(tactic| k_extra "k_updF")
local macro_rules | `(tactic| kst_allIn) => `(tactic| k_extra "kst_allIn")
section
set_option Elab.async false
set_option maxRecDepth 100000
set_option maxHeartbeats 800000
theorem PWh_rows0 : True := by
  k_with_none
  (have h9 : RW = RW ∧ Mine.hd.heap_1 = Mine.hd.heap_1 := by (k_fill; exact ⟨rfl, rfl⟩))
  trivial



theorem PWh_rows1 : True := by
  (k_with "wpG" => (first
      | (with_reducible refine g_execs_nil ?_)
      | (with_reducible refine g_execs_cons ?_)
      | ((with_reducible refine g_leafS ?k1 ?_); (case k1 => k_dflt (exact rfl)); (try k_fold))
      | ((with_reducible refine g_leafE ?k1 ?_); (case k1 => k_dflt (exact rfl)); (try k_fold))
      | (with_reducible refine g_Return ?_)
      | ((with_reducible refine g_Assign ?_ ?k1); (case k1 => k_dflt (exact rfl)))
      | (with_reducible refine g_If ?_)
      | (with_reducible refine g_CallName ?_)
      | (with_reducible refine g_BinOp ?_)
      | (with_reducible refine g_spliced_backTo_nil ?_)
      | ((refine g_spliced_backTo ?_ ?k1); (case k1 => k_dflt (exact rfl)))
      | ((refine' g_callWith_K ?k1 ?k2 ?_ ?k3 ?k4); (case k1 => k_asm); (case k2 => k_is); (case k3 => k_dflt (exact rfl)); (case k4 => k_dflt (exact rfl)); k_whole)
      | ((refine' g_callWith_type ?_ ?k3 ?k4); (case k3 => k_dflt (exact rfl)); (case k4 => k_dflt (exact rfl)))))
  (k_with "exec Raise some none" => (exfalso; contradiction))
  (k_with "wpG" => ((with_reducible show wpG _ _ (call (Value.type "bytearray") [Value.int _ _]) _ _ _); (refine' g_bytearray (n := n) rfl (by omega) (by omega) ?k1 ?k2 ?_); (case k1 => k_asm); (case k2 => k_asm); intro hw' a9 b9 hb9 Fw' Nw' off9; (try dsimp only); (try k_fold)))
  (k_with "pyIter ref" => ((try dsimp only); (with_reducible show wpAny _ _ (pyIter (Value.ref _)) (fun it s₂ => LoopAtV _ _ _ _ _ _ _ _ _ it s₂) _ _); k_dflt ((refine' ba_loop ?hh ?r ?a0 ?hn ?F ?N ?off ?hb ?hm ?hx ?turn ?done); (case hh => exact rfl); (case r => assumption); (case F => assumption); (case N => assumption); (case off => assumption); (case hb => assumption); (case a0 => omega); (case hn => omega); (case hm => exact rfl); (case hx => assumption); (case' turn => (intro x9 t9 b9 k9 tk9 h9 tq9 own9 hlo9 hhi9 hoff9 hb9 hx9 Fw' Nw'; (try dsimp only); (try k_fold))); (case' done => (intro x9 t9 b9 u9 h9 tq9 hb9 Fw' Nw'; (try dsimp only); (try k_fold))))))
  (k_with "setItem ref int" => ((refine' k_ba_set ?F ?N ?off ?hb ?hi ?hib ?hx ?hx2 ?hn ?_); (case F => k_asm); (case N => k_asm); (case off => assumption); (case hb => assumption); (case hi => assumption); (case hib => assumption); (case hx => exact Int.fmod_nonneg_of_pos _ (by decide)); (case hx2 => exact Int.fmod_lt_of_pos _ (by decide)); (case hn => omega); intro hw' b9 hb9 Fw' Nw'; (try dsimp only)))
  (k_with "call type:bytes" => ((refine' k_ba_bytes ?N ?hb ?_); (case N => k_asm); (case hb => omega); intro t9 k9; (try dsimp only)))
  (k_with "True" => (skip))
  (k_with "And" => (refine ⟨True.intro, ?_⟩; (try dsimp only [List.nil_append, List.cons_append])))
  (k_with "BaEnd" => ((refine' ⟨_, _, _, _, _, _, rfl, ?ba, ?bx, ?bF, ?bN, ?bn, ?bz⟩); (case bF => k_asm); (case bN => k_asm); (case ba => assumption); (case bn => exact rfl); (case bx => (rw [Int.fdiv_eq_ediv_of_nonneg _ (by decide)]; exact Int.ediv_nonneg (by assumption) (by decide))); (case bz => (intro z h1 h2; simp [h1, h2]))))
  trivial
def put_whole_n_B (w : World) (n : Nat) (x : Int) (t u : Tok) : Prop := (0 ≤ x) → (0 < n) → (n ≤ 16) → (x.fdiv (2 ^ (8 * (n : Int)).toNat) = 0) → RW = RW → PureG w 2 124 [.int x t, .int (n : Int) u] (BytesOf n)
theorem put_whole_n : ∀ w n x t u, put_whole_n_B w n x t u := by
  refine ubx ?_
  simp (disch := k_dflt (
    refine tyP ?_
    refine' (?g9 : ∀ q : (∀ w n x t u, put_whole_n_B w n x t u), Keep q → (∀ w n x t u, put_whole_n_B w n x t u)) _ ?w9
    case g9 => exact fun q _ => q
    case w9 =>
      refine' kp9 ?h9 fun k9 => ?j9
      case h9 =>
        (repeat walk_at "CL9")
        rename_i w n x t u
        unfold put_whole_n_B
        intro h0 hn0 hn1 hz _
        refine PureG_of _ _ _ _ _ ?_
        (repeat walk_at "CL9")
        rename_i  vk
        unfold KV.to PureG9
        w_on
        w_top on
        intro B F X N T hk hd hu hret
        refine wpG_call ?_
        (k_dflt (refine' codeG_def ?k1 ?k2 ?k3 ?k4 ?k5 ?kA ?kF ?kK ?k6 ?k7 ?k8 ?k9 ?kB ?_ ?c2 ?c3 ?c4 ?c5; (case kA => exact rfl); (case kF => exact rfl); (case kK => assumption); (case k1 => k_asm); (case k2 => k_asm); (case k3 => k_asm); (case k4 => k_asm); (case k5 => k_asm); (case k6 => k_is); (case k7 => k_is); (case k8 => ktr_room); (case k9 => exact BindsTo.of_eq rfl); (case c5 => decide); (case kB => exact locs (Eq.refl true)); (case c2 => exact rfl); (case c3 => exact rfl); (case c4 => exact rfl); k_whole; intro g' L' h' tk' FG' F' N' B' X' T' l1; (try dsimp only)))
        w_strict (k_steps; (all_goals exact hret _ _ _ (by k_asm) (fun p hp => (by assumption : News vk.h₀ vk.L _ _) p (List.mem_cons_of_mem _ hp)) ⟨_, _, _, rfl, rfl, by rw [KBw.ints_length]; assumption⟩))
      case j9 => revert k9; (try delta id ap_mk hd_in hd_out); intro k9; (try conv at k9 => zeta); exact k9)) only [↓bxT]
theorem put_whole_1 (w : World) (x : Int) (t : Tok) (u : Tok) (h0 : 0 ≤ x) (h1 : x < 2 ^ 8) : RW = RW → PureG w 2 124 [.int x t, .int 1 u] (BytesOf 1) :=
  put_whole_n w 1 x t u h0 (by decide) (by decide) (by
    rw [Int.fdiv_eq_ediv_of_nonneg _ (by decide)]
    exact Int.ediv_eq_zero_of_lt h0 h1)
theorem put_whole_4 (w : World) (x : Int) (t : Tok) (u : Tok) (h0 : 0 ≤ x) (h1 : x < 2 ^ 32) : RW = RW → PureG w 2 124 [.int x t, .int 4 u] (BytesOf 4) :=
  put_whole_n w 4 x t u h0 (by decide) (by decide) (by
    rw [Int.fdiv_eq_ediv_of_nonneg _ (by decide)]
    exact Int.ediv_eq_zero_of_lt h0 h1)
theorem put_whole_16 (w : World) (x : Int) (t : Tok) (u : Tok) (h0 : 0 ≤ x) (h1 : x < 2 ^ 128) : RW = RW → PureG w 2 124 [.int x t, .int 16 u] (BytesOf 16) :=
  put_whole_n w 16 x t u h0 (by decide) (by decide) (by
    rw [Int.fdiv_eq_ediv_of_nonneg _ (by decide)]
    exact Int.ediv_eq_zero_of_lt h0 h1)
end
section
set_option Elab.async false
set_option maxRecDepth 100000
set_option maxHeartbeats 800000
theorem bitOr_nat {x y : Int} (hx : 0 ≤ x) (hy : 0 ≤ y) : Builtin.bitOr x y = ((x.toNat ||| y.toNat : Nat) : Int) := by
  unfold Builtin.bitOr
  have e : Builtin.bitAnd (Builtin.bitNot x) (Builtin.bitNot y) = Builtin.bitNot ((Builtin.bitNot (Builtin.bitNot x)).toNat ||| (Builtin.bitNot (Builtin.bitNot y)).toNat : Nat) := by
    unfold Builtin.bitAnd
    rw [show decide (0 ≤ Builtin.bitNot x) = false by (unfold Builtin.bitNot; simp; omega), show decide (0 ≤ Builtin.bitNot y) = false by (unfold Builtin.bitNot; simp; omega)]
  rw [e]
  have en : ∀ z : Int, Builtin.bitNot (Builtin.bitNot z) = z := fun z => by unfold Builtin.bitNot; omega
  rw [en, en, en]
theorem bitAnd_nat {x y : Int} (hx : 0 ≤ x) (hy : 0 ≤ y) : Builtin.bitAnd x y = ((x.toNat &&& y.toNat : Nat) : Int) := by
  unfold Builtin.bitAnd
  rw [show decide (0 ≤ x) = true by simp [hx], show decide (0 ≤ y) = true by simp [hy]]
theorem bitOr_lo {x y : Int} (hx : 0 ≤ x) (hy : 0 ≤ y) : 0 ≤ Builtin.bitOr x y := by rw [bitOr_nat hx hy]; omega
theorem bitOr_hi {x y : Int} (hx : 0 ≤ x) (hy : 0 ≤ y) (hx2 : x < 256) (hy2 : y < 256) : Builtin.bitOr x y < 256 := by
  rw [bitOr_nat hx hy]
  have := Nat.or_lt_two_pow (n := 8) (x := x.toNat) (y := y.toNat) (by omega) (by omega)
  omega
theorem bitXor_in {x y : Int} (hx : 0 ≤ x) (hx2 : x < 256) (hy : 0 ≤ y) (hy2 : y < 256) : 0 ≤ Builtin.bitXor x y ∧ Builtin.bitXor x y < 256 := by
  unfold Builtin.bitXor
  rw [bitAnd_nat hx hy]
  have h1 := bitOr_nat hx hy
  have h2 := bitOr_hi hx hy hx2 hy2
  have h3 : x.toNat &&& y.toNat ≤ x.toNat := Nat.and_le_left
  have h4 : x.toNat ≤ x.toNat ||| y.toNat := Nat.left_le_or
  omega
theorem bitAnd_in {x y : Int} (hx : 0 ≤ x) (hx2 : x < 256) (hy : 0 ≤ y) : 0 ≤ Builtin.bitAnd x y ∧ Builtin.bitAnd x y < 256 := by
  rw [bitAnd_nat hx hy]
  have h3 : x.toNat &&& y.toNat ≤ x.toNat := Nat.and_le_left
  omega
end
section
set_option Elab.async false
set_option maxRecDepth 100000
set_option maxHeartbeats 8000000
theorem C1_rows0 : True := by
  k_with_none
  trivial
theorem C1_rows1 : True := by
  trivial
def mixed_c_B (w : World) (x : Int) (t : Tok) (b : Array UInt8) (tb : Tok) : Prop := (b.size ≤ 100) → RW = RW → PureC w 2 248 [.int x t, .bytes b tb] (IntIn 0 170141183460469231731687303715884105727)
theorem mixed_c : ∀ w x t b tb, mixed_c_B w x t b tb := by
  refine ubx ?_
  simp (disch := k_dflt (
    refine tyP ?_
    refine' (?g9 : ∀ q : (∀ w x t b tb, mixed_c_B w x t b tb), Keep q → (∀ w x t b tb, mixed_c_B w x t b tb)) _ ?w9
    case g9 => exact fun q _ => q
    case w9 =>
      refine' kp9 ?h9 fun k9 => ?j9
      case h9 =>
        (repeat walk_at "CL9")
        rename_i w x t b tb
        unfold mixed_c_B
        intro hb _
        refine PureC_of _ _ _ _ _ ?_
        (repeat walk_at "CL9")
        rename_i  vk
        unfold KV.to PureC9
        w_on
        w_top on
        intro B F X N T hk hd hu hret
        k_with "pyIter bytes" => k_state (fun pre f => 0 ≤ f ∧ f < 170141183460469231731687303715884105727) "found"
        w_strict (refine wpAny_call ?_; k_dflt cell_enter; k_steps; (all_goals exact hret _ _ _ (by k_asm) (by k_asm) ⟨_, _, rfl, by assumption, by assumption⟩))
      case j9 => revert k9; (try delta id ap_mk hd_in hd_out); intro k9; (try conv at k9 => zeta); exact k9)) only [↓bxT]
end
section
set_option Elab.async false
set_option maxRecDepth 100000
theorem nd1 {h₀ : Heap} {L : Addr} {h : Heap} {a : Addr × Obj} {news : List (Addr × Obj)} (N : News h₀ L h (a :: news)) : News h₀ L h news := fun p hp => N p (List.mem_cons_of_mem _ hp)
theorem nd2 {h₀ : Heap} {L : Addr} {h : Heap} {a b : Addr × Obj} {news : List (Addr × Obj)} (N : News h₀ L h (a :: b :: news)) : News h₀ L h news := nd1 (nd1 N)
theorem nd3 {h₀ : Heap} {L : Addr} {h : Heap} {a b c : Addr × Obj} {news : List (Addr × Obj)} (N : News h₀ L h (a :: b :: c :: news)) : News h₀ L h news := nd1 (nd2 N)
theorem nd4 {h₀ : Heap} {L : Addr} {h : Heap} {a b c d : Addr × Obj} {news : List (Addr × Obj)} (N : News h₀ L h (a :: b :: c :: d :: news)) : News h₀ L h news := nd1 (nd3 N)
theorem nda {h₀ : Heap} {L : Addr} {h : Heap} {a news : List (Addr × Obj)} (N : News h₀ L h (news ++ a)) : News h₀ L h news := fun p hp => N p (List.mem_append_left _ hp)


theorem fmod_in {x M : Int} (h : 0 < M) : 0 ≤ x.fmod M ∧ x.fmod M < M := ⟨Int.fmod_nonneg_of_pos _ h, Int.fmod_lt_of_pos _ h⟩
theorem turned_step {st F C M D kN : Int} {found : List Int} {pre : List Int} (hM : 0 < M) (h1 : 0 ≤ kN) (h2 : kN < 256) (h3 : found.length = pre.length) (h4 : ∀ x ∈ found, 0 ≤ x ∧ x < 256) :
    0 ≤ (st * F + C).fmod M ∧ (st * F + C).fmod M < M ∧ (found ++ [Builtin.bitXor kN ((((st * F + C).fmod M).fdiv D).fmod 256)]).length = (pre ++ [kN]).length ∧
      ∀ x : Int, x ∈ found ++ [Builtin.bitXor kN ((((st * F + C).fmod M).fdiv D).fmod 256)] → 0 ≤ x ∧ x < 256 := by
  refine ⟨(fmod_in hM).1, (fmod_in hM).2, by simp [h3], fun x hx => ?_⟩
  rcases List.mem_append.mp hx with hx | hx
  · exact h4 x hx
  · rw [List.mem_singleton.mp hx]
    exact bitXor_in h1 h2 (fmod_in (by decide)).1 (fmod_in (by decide)).2
theorem bytesOf_ints {found : List Int} {n : Nat} {t : Tok} (h : found.length = n) : BytesOf n (.bytes (found.map fun n => n.toNat.toUInt8).toArray t) :=
  ⟨_, t, _, rfl, rfl, by rw [KBw.ints_length]; simp [h]⟩
theorem size_of {b : Array UInt8} {ks : List Int} {n : Nat} (h : KBw.bInts b = ks) (hl : ks.length = n) : b.size = n := by rw [← KBw.ints_length, h]; exact hl
theorem PureC.g {w : World} {d : Nat} {f : Addr} {vs : List Value} {P : Value → Prop} (C : PureC w d f vs P) : PureG w d f vs P := by
  intro p loose mean mg mb dp un gd cn cs a ccd cl outer A₀ base h₀ L m news s Q E B F X N T hk hd hu hret
  exact wpG_any (C.use B F X N T hk hd hu hret)
end
section
set_option Elab.async false
set_option maxRecDepth 100000
set_option maxHeartbeats 800000
section
variable {M : Model} {A : Around} {E : Value → Shared → Prop} {s : Shared} {env : Env}
theorem g_Subscript {value slice : Expr} {pos : Pos} {Q : Value → Shared → Prop}
    (h : wpG M A (eval value env) (fun o s₁ => wpAny M A (eval slice env) (fun i s₂ => wpAny M A (subscriptTail value slice o i) Q E s₂) E s₁) E s) :
    wpG M A (eval (.Subscript value slice pos) env) Q E s := by
  rw [eval_Subscript]
  exact wpG_bind (wpG_mono h (fun o s₁ h₁ => wpG_any (wpAny_bind (wpAny_holding (wpAny_mono h₁ (fun i s₂ h₂ => wpAny_bind (wpAny_standAt h₂)) fun _ _ x => x)))) fun _ _ x => x)
end
section
variable {prog : Program} {w : World} {A : Around} {E : Value → Shared → Prop} {s : Shared} {env : Env}
theorem g_Expr {e : Expr} {pos : Pos} {Q : Flow → Shared → Prop} (h : wpG (model prog w) A (eval e env) (fun _ => Q .next) E s)
    (hi : interactive env = false := by rfl) (hs : swapsWith e none pos.line env = pure false := by rfl) : wpG (model prog w) A (exec (.Expr e pos) env) Q E s := by
  rw [exec_Expr env e pos hi hs]
  exact wpG_bind (wpG_any (wpAny_standAt (wpG_bind (wpG_mono h (fun v s' h' => wpG_any (wpAny_dropValue h')) fun _ _ x => x))))
end
theorem tail5 {ks : List Int} (h : ks.length = 16) : ((ks.drop (clipAt ks.length (16-5))).take (ks.length - clipAt ks.length (16-5))).length = 5 := by
  rw [List.length_take, List.length_drop, h]; decide
end
section
set_option Elab.async false
set_option maxRecDepth 100000
set_option maxHeartbeats 2000000
open KBw (IsBytesIter)
section
variable {prog : Program} {w : World} {A : Around} {E : Value → Shared → Prop} {s : Shared} {b : Array UInt8} {t : Tok}
theorem nextOf_bytes_item {it : Addr} {i : Nat} {c : UInt8} {Q : Value → Shared → Prop} (hit : IsBytesIter s.heap it b t i) (hx : b[i]? = some c)
    (hQ : ∀ h', IsBytesIter h' it b t (i + 1) → Heap.SameBut it s.heap h' → Q (.int (c.toNat : Int) s.toks) { s with heap := h', toks := s.toks + 1 }) : wpAny (model prog w) A (Builtin.SmallTypes.nextOf (.ref it)) Q E s := by
  obtain ⟨o, ho, hc, hd⟩ := id hit
  unfold Builtin.SmallTypes.nextOf
  refine wpAny_bind (wpAny_callSpecial?_slot (name := PySem.Str.ofString "__next__") (KBw.iter_typeIs hit) KBw.slot_next
    (wpAny_call_entry KBw.slot_next (KBw.iter_typeIs hit) KBw.entry_next ?_ (KBw.args_next _)))
  show wpAny _ _ (field (.ref it) 0 >>= _) _ _ s
  refine wpAny_bind (wpAny_field ho hd (x := .bytes b t) rfl ?_)
  show wpAny _ _ (if (Value.bytes b t == Value.none) = true then _ else _) _ _ s
  rw [if_neg (show ¬ ((Value.bytes b t == Value.none) = true) from Bool.false_ne_true)]
  show wpAny _ _ (field (.ref it) 1 >>= _) _ _ s
  refine wpAny_bind (wpAny_field ho hd (x := .int i 0) rfl ?_)
  refine wpAny_bind (wpAny_of_eq (a := b) rfl ?_)
  simp only [Int.toNat_natCast, hx]
  refine wpAny_bind (wpAny_setField ho hd (by simp) (wpAny_bind (wpAny_mkInt (wpAny_pure ⟨_, rfl, wpAny_pure (hQ _ ?_ (Heap.SameBut.update ..))⟩))))
  exact ⟨_, Heap.get?_update_self _ ho (Obj.isFreed_of_fields (Obj.data_mapFields hd _)), (Obj.cls_mapFields ..).trans hc, by
    rw [Obj.data_mapFields hd]; simp [rawInt]⟩
theorem nextOf_bytes_end {it : Addr} {i : Nat} {Q : Value → Shared → Prop} (hh : A.handled = none) (hit : IsBytesIter s.heap it b t i) (hx : b[i]? = none)
    (hE : ∀ h' e, Heap.ExtBut it s.heap h' → (∃ o, h'.get? e = some o ∧ o.cls = .type "StopIteration") → E (.ref e) { s with heap := h' }) : wpAny (model prog w) A (Builtin.SmallTypes.nextOf (.ref it)) Q E s := by
  obtain ⟨o, ho, hc, hd⟩ := id hit
  unfold Builtin.SmallTypes.nextOf
  refine wpAny_bind (wpAny_callSpecial?_slot (name := PySem.Str.ofString "__next__") (KBw.iter_typeIs hit) KBw.slot_next
    (wpAny_call_entry KBw.slot_next (KBw.iter_typeIs hit) KBw.entry_next ?_ (KBw.args_next _)))
  show wpAny _ _ (field (.ref it) 0 >>= _) _ _ s
  refine wpAny_bind (wpAny_field ho hd (x := .bytes b t) rfl ?_)
  show wpAny _ _ (if (Value.bytes b t == Value.none) = true then _ else _) _ _ s
  rw [if_neg (show ¬ ((Value.bytes b t == Value.none) = true) from Bool.false_ne_true)]
  show wpAny _ _ (field (.ref it) 1 >>= _) _ _ s
  refine wpAny_bind (wpAny_field ho hd (x := .int i 0) rfl ?_)
  refine wpAny_bind (wpAny_of_eq (a := b) rfl ?_)
  simp only [Int.toNat_natCast, hx]
  refine wpAny_bind (wpAny_rule (wpAny_bind (wpAny_setField ho hd (by simp) ?_)))
  show wpAny _ _ (newExc (.type "StopIteration") [] >>= _) _ _ _
  refine wpAny_bind ?_
  simp only [newExc, newTuple]
  refine wpAny_bind (wpAny_newObj_type ?_ (by size_fits))
  refine wpAny_bind (m := firstArgMember _ _) (wpAny_of_eq (a := Value.none) (by first | rfl | (simp only [firstArgMember]; rfl)) ?_)
  refine wpAny_newObj_type ?_ (by size_fits)
  simp only [raiseNew]
  refine wpAny_bind (wpAny_handled ?_)
  first | rw [show A.in1.handled = none from hh] | rw [hh]
  refine wpAny_bind (wpAny_pure (wpAny_throw ?_))
  exact hE _ _ (((Heap.SameBut.update ..).extBut.push _).push _) ⟨_, Heap.get?_push_size _ rfl, rfl⟩
end
theorem draws_bytes {prog : Program} {w : World} {A : Around} (hh : A.handled = none) (it : Addr) (b : Array UInt8) (t : Tok) :
    Draws prog w A it [it] b.size (fun i v => ∃ c u, b[i]? = some c ∧ v = .int (c.toNat : Int) u) (fun i h => IsBytesIter h it b t i) where
  live := fun _ _ st => let ⟨o, ho, _⟩ := st; ⟨o, ho⟩
  frame := fun _ _ _ st hk => let ⟨o, ho, r⟩ := st; ⟨o, hk it (by simp) o ho, r⟩
  item := fun i s Q E hi st hQ => by
    refine nextOf_bytes_item st (c := b[i]) (by simp [hi]) fun h' hit' hs' => ?_
    exact hQ _ h' (s.toks + 1) ⟨_, _, by simp [hi], rfl⟩ hit' hs'
  done := fun s Q E st hE => nextOf_bytes_end hh st (by simp) hE

theorem shareP {P G : Prop} (h : P) (k : P → G) : G := k h
theorem meets_enumerate_newB (b : Array UInt8) (t : Tok) :
    Meets (Builtin.«enumerate.__new__» ⟨[.type "enumerate", .bytes b t], []⟩) (fun _ R s =>
      R (.ok (.ret (.ref (s.heap.push { cls := .type "bytes_iterator", data := .fields #[.bytes b t, .int 0 0] }).objs.size)))
        { s with heap := (s.heap.push { cls := .type "bytes_iterator", data := .fields #[.bytes b t, .int 0 0] }).push { cls := .type "enumerate", data := .fields #[.none, .bool false, .ref s.heap.objs.size, rawInt 0, .none, .none] } }) :=
  .of_wp fun prog w A R s h => by
    obtain ⟨hp, g, d, tk, os⟩ := s
    have hsub := sub_enumerate
    wp_walk
    refine wpAny_stack_any fun st => wpAny_pure ?_
    refine' shareP ?h ?k
    case k =>
      intro H
      split
      · rename_i c _ _ _ _ _
        cases (c == Value.type "enumerate")
        · exact H
        · wp_walk using KBw.pyIter_bytes
          exact ⟨_, rfl, h⟩
      · exact H
    case h =>
      wp_walk using KBw.pyIter_bytes
      exact ⟨_, rfl, h⟩
section
variable {prog : Program} {w : World} {A : Around} {E : Value → Shared → Prop} {s : Shared}
theorem call_enumerate_bytes {b : Array UInt8} {t : Tok} {Q : Value → Shared → Prop}
    (h : ∀ h', IsEnum h' (s.heap.objs.size + 1) s.heap.objs.size 0 .none → IsBytesIter h' s.heap.objs.size b t 0 → h'.objs.size = s.heap.objs.size + 2 →
      (∀ b o, s.heap.get? b = some o → h'.get? b = some o) → Q (.ref (s.heap.objs.size + 1)) { s with heap := h' }) :
    wpAny (model prog w) A (call (.type "enumerate") [.bytes b t]) Q E s := by
  refine callType_new F.called_enumerate (by decide) (F.typeCall_enumerate_1 _) (F.newCall_enumerate_1 _) (fun obj => F.args_object_init_2 obj _) F.entry_enumerate_new
    (meets_enumerate_newB b t) ?_
  have hz : (s.heap.push { cls := .type "bytes_iterator", data := .fields #[.bytes b t, .int 0 0] }).objs.size = s.heap.objs.size + 1 := Heap.size_push ..
  show _ ∧ _
  rw [hz]
  have he : IsEnum ((s.heap.push { cls := .type "bytes_iterator", data := .fields #[.bytes b t, .int 0 0] }).push
      { cls := .type "enumerate", data := .fields #[.none, .bool false, .ref s.heap.objs.size, rawInt 0, .none, .none] }) (s.heap.objs.size + 1) s.heap.objs.size 0 .none := by
    have := Heap.get?_push_size (s.heap.push { cls := .type "bytes_iterator", data := .fields #[.bytes b t, .int 0 0] })
      (o := { cls := .type "enumerate", data := .fields #[.none, .bool false, .ref s.heap.objs.size, rawInt 0, .none, .none] }) rfl
    rw [hz] at this; exact this
  refine ⟨⟨_, he, rfl⟩, h _ he ⟨_, Heap.get?_push_of_some _ (Heap.get?_push_size _ rfl), rfl, rfl⟩ (by rw [Heap.size_push, hz]) fun b o y => Heap.get?_push_of_some _ (Heap.get?_push_of_some _ y)⟩
end
end
section
set_option Elab.async false
set_option maxRecDepth 100000
set_option maxHeartbeats 2000000
open PyProof.Rows.LCg (lst NsObj ns_obj lst_snoc)
open KBw (IsBytesIter)
section
variable {prog : Program} {w : World} {A : Around} {E : Value → Shared → Prop} {s : Shared} {h₀ : Heap} {L : Addr} {m : Str → Option Value} {env : Env}

def EltT (prog : Program) (w : World) (A : Around) (h₀ : Heap) (L : Addr) (m : Str → Option Value) (env : Env) (elt : Expr) (x x₂ : Str) (scope : Scope) (cl : List (Str × Addr)) (news : List (Addr × Obj)) (n : Nat) (PE : Value → Prop) (s₁ : Shared) : Prop :=
  ∀ (i : Nat) (c : UInt8) (t u : Tok) (C : Addr) (oC : Obj) (m₂ : Str → Option Value) (h : Heap) (tk : Nat) (E' : Value → Shared → Prop), i < n → (((c.toNat : Nat) : Int) < 256) → NsObj oC m₂ → m₂ x = some (.int (i : Int) t) → m₂ x₂ = some (.int (c.toNat : Int) u) →
    Fr h₀ L h m → News h₀ L h ((C, oC) :: news) → wpAny (model prog w) A (eval elt (compEnvC scope cl C env)) (fun y s₂ => PE y ∧ ∃ tk', s₂ = { s₁ with heap := h, toks := tk' }) E' { s₁ with heap := h, toks := tk }

def EnumSrc (prog : Program) (w : World) (A : Around) (h₀ : Heap) (L : Addr) (m : Str → Option Value) (env : Env) (elt : Expr) (x x₂ : Str) (scope : Scope) (cl : List (Str × Addr)) (PE : Value → Prop) (Q : Value → Shared → Prop) (xv : Value) (s₁ : Shared) : Prop :=
  ∃ e it b t news, xv = .ref e ∧ Fr h₀ L s₁.heap m ∧ News h₀ L s₁.heap news ∧ IsEnum s₁.heap e it 0 .none ∧ IsBytesIter s₁.heap it b t 0 ∧ e ≠ it ∧ L ≠ e ∧ L ≠ it ∧ h₀.get? e = none ∧ h₀.get? it = none ∧ (∀ p ∈ news, p.1 ≠ e ∧ p.1 ≠ it) ∧ b.size ≤ 1000 ∧
      EltT prog w A h₀ L m env elt x x₂ scope cl news b.size PE s₁ ∧
      (∀ D ys h tk, ys.length = b.size → (∀ y ∈ ys, PE y) → Fr h₀ L h m → News h₀ L h ((D, lst ys) :: news) → (∀ p ∈ news, p.1 < D) → Q (.ref D) { s₁ with heap := h, toks := tk })

def enum_comp_B (prog : Program) (w : World) (A : Around) (E : Value → Shared → Prop) (s : Shared) (h₀ : Heap) (L : Addr) (m : Str → Option Value) (env : Env) (elt : Expr) (iter : Expr) (x : Str) (x₂ : Str) (px : Pos) (px₂ : Pos) (tp : Pos) (scope : Scope) (cl : List (Str × Addr)) (pos : Pos) (PE : Value → Prop) (Q : Value → Shared → Prop) : Prop := ∀ (tk : _) (_F₀ : Fr h₀ L s.heap m) (hh : A.handled = none) (hclos : closureFor scope env = pure cl) (hcell : ∀ y ∈ scope.names, y.2 ≠ .cell) (hkind : scope.kind = .function) (hnames : ∀ y ∈ scope.names, y.2 = .local → scope.names.lookup y.1 = some .local) (hx : scope.names.lookup x = some .local) (hx₂ : scope.names.lookup x₂ = some .local) (hxx : x ≠ x₂) (h : wpAny (model prog w) A (eval iter env) (EnumSrc prog w A h₀ L m env elt x x₂ scope cl PE Q) E s) (hs : ∀ x, foldedSetIterable iter env x = pure x), wpAny (model prog w) A (eval (.ListComp elt [⟨.Tuple [.Name x px, .Name x₂ px₂] tk tp, iter, [], 0⟩] scope pos) env) Q E s
def enum_comp_P (e : Program × World × Around × (Value → Shared → Prop) × Shared × Heap × Addr × (Str → Option Value) × Env × Expr × Expr × Str × Str × Pos × Pos × Pos × Scope × (List (Str × Addr)) × Pos × (Value → Prop) × (Value → Shared → Prop)) : Prop := enum_comp_B e.1 e.2.1 e.2.2.1 e.2.2.2.1 e.2.2.2.2.1 e.2.2.2.2.2.1 e.2.2.2.2.2.2.1 e.2.2.2.2.2.2.2.1 e.2.2.2.2.2.2.2.2.1 e.2.2.2.2.2.2.2.2.2.1 e.2.2.2.2.2.2.2.2.2.2.1 e.2.2.2.2.2.2.2.2.2.2.2.1 e.2.2.2.2.2.2.2.2.2.2.2.2.1 e.2.2.2.2.2.2.2.2.2.2.2.2.2.1 e.2.2.2.2.2.2.2.2.2.2.2.2.2.2.1 e.2.2.2.2.2.2.2.2.2.2.2.2.2.2.2.1 e.2.2.2.2.2.2.2.2.2.2.2.2.2.2.2.2.1 e.2.2.2.2.2.2.2.2.2.2.2.2.2.2.2.2.2.1 e.2.2.2.2.2.2.2.2.2.2.2.2.2.2.2.2.2.2.1 e.2.2.2.2.2.2.2.2.2.2.2.2.2.2.2.2.2.2.2.1 e.2.2.2.2.2.2.2.2.2.2.2.2.2.2.2.2.2.2.2.2
@[irreducible] noncomputable def enum_comp_e : Program × World × Around × (Value → Shared → Prop) × Shared × Heap × Addr × (Str → Option Value) × Env × Expr × Expr × Str × Str × Pos × Pos × Pos × Scope × (List (Str × Addr)) × Pos × (Value → Prop) × (Value → Shared → Prop) := epsOf (default, epsW, {}, default, {}, default, default, default, default, default, default, default, default, default, default, default, default, default, default, default, default) enum_comp_P
@[irreducible] noncomputable def enum_comp_k_prog : Program := enum_comp_e.1
@[irreducible] noncomputable def enum_comp_k_w : World := enum_comp_e.2.1
@[irreducible] noncomputable def enum_comp_k_A : Around := enum_comp_e.2.2.1
@[irreducible] noncomputable def enum_comp_k_E : Value → Shared → Prop := enum_comp_e.2.2.2.1
@[irreducible] noncomputable def enum_comp_k_s : Shared := enum_comp_e.2.2.2.2.1
@[irreducible] noncomputable def enum_comp_k_h₀ : Heap := enum_comp_e.2.2.2.2.2.1
@[irreducible] noncomputable def enum_comp_k_L : Addr := enum_comp_e.2.2.2.2.2.2.1
@[irreducible] noncomputable def enum_comp_k_m : Str → Option Value := enum_comp_e.2.2.2.2.2.2.2.1
@[irreducible] noncomputable def enum_comp_k_env : Env := enum_comp_e.2.2.2.2.2.2.2.2.1
@[irreducible] noncomputable def enum_comp_k_elt : Expr := enum_comp_e.2.2.2.2.2.2.2.2.2.1
@[irreducible] noncomputable def enum_comp_k_iter : Expr := enum_comp_e.2.2.2.2.2.2.2.2.2.2.1
@[irreducible] noncomputable def enum_comp_k_x : Str := enum_comp_e.2.2.2.2.2.2.2.2.2.2.2.1
@[irreducible] noncomputable def enum_comp_k_x₂ : Str := enum_comp_e.2.2.2.2.2.2.2.2.2.2.2.2.1
@[irreducible] noncomputable def enum_comp_k_px : Pos := enum_comp_e.2.2.2.2.2.2.2.2.2.2.2.2.2.1
@[irreducible] noncomputable def enum_comp_k_px₂ : Pos := enum_comp_e.2.2.2.2.2.2.2.2.2.2.2.2.2.2.1
@[irreducible] noncomputable def enum_comp_k_tp : Pos := enum_comp_e.2.2.2.2.2.2.2.2.2.2.2.2.2.2.2.1
@[irreducible] noncomputable def enum_comp_k_scope : Scope := enum_comp_e.2.2.2.2.2.2.2.2.2.2.2.2.2.2.2.2.1
@[irreducible] noncomputable def enum_comp_k_cl : List (Str × Addr) := enum_comp_e.2.2.2.2.2.2.2.2.2.2.2.2.2.2.2.2.2.1
@[irreducible] noncomputable def enum_comp_k_pos : Pos := enum_comp_e.2.2.2.2.2.2.2.2.2.2.2.2.2.2.2.2.2.2.1
@[irreducible] noncomputable def enum_comp_k_PE : Value → Prop := enum_comp_e.2.2.2.2.2.2.2.2.2.2.2.2.2.2.2.2.2.2.2.1
@[irreducible] noncomputable def enum_comp_k_Q : Value → Shared → Prop := enum_comp_e.2.2.2.2.2.2.2.2.2.2.2.2.2.2.2.2.2.2.2.2
theorem enum_comp_0 : enum_comp_B enum_comp_k_prog enum_comp_k_w enum_comp_k_A enum_comp_k_E enum_comp_k_s enum_comp_k_h₀ enum_comp_k_L enum_comp_k_m enum_comp_k_env enum_comp_k_elt enum_comp_k_iter enum_comp_k_x enum_comp_k_x₂ enum_comp_k_px enum_comp_k_px₂ enum_comp_k_tp enum_comp_k_scope enum_comp_k_cl enum_comp_k_pos enum_comp_k_PE enum_comp_k_Q := by
  refine ubx ?_
  simp (disch := k_dflt (
    refine tyP ?_
    refine' (?g9 : ∀ q : (enum_comp_B enum_comp_k_prog enum_comp_k_w enum_comp_k_A enum_comp_k_E enum_comp_k_s enum_comp_k_h₀ enum_comp_k_L enum_comp_k_m enum_comp_k_env enum_comp_k_elt enum_comp_k_iter enum_comp_k_x enum_comp_k_x₂ enum_comp_k_px enum_comp_k_px₂ enum_comp_k_tp enum_comp_k_scope enum_comp_k_cl enum_comp_k_pos enum_comp_k_PE enum_comp_k_Q), Keep q → (enum_comp_B enum_comp_k_prog enum_comp_k_w enum_comp_k_A enum_comp_k_E enum_comp_k_s enum_comp_k_h₀ enum_comp_k_L enum_comp_k_m enum_comp_k_env enum_comp_k_elt enum_comp_k_iter enum_comp_k_x enum_comp_k_x₂ enum_comp_k_px enum_comp_k_px₂ enum_comp_k_tp enum_comp_k_scope enum_comp_k_cl enum_comp_k_pos enum_comp_k_PE enum_comp_k_Q)) _ ?w9
    case g9 => exact fun q _ => q
    case w9 =>
      refine' kp9 ?h9 fun k9 => ?j9
      case h9 =>
        unfold enum_comp_B
        generalize enum_comp_k_prog = prog
        generalize enum_comp_k_w = w
        generalize enum_comp_k_A = A
        generalize enum_comp_k_E = E
        generalize enum_comp_k_s = s
        generalize enum_comp_k_h₀ = h₀
        generalize enum_comp_k_L = L
        generalize enum_comp_k_m = m
        generalize enum_comp_k_env = env
        generalize enum_comp_k_elt = elt
        generalize enum_comp_k_iter = iter
        generalize enum_comp_k_x = x
        generalize enum_comp_k_x₂ = x₂
        generalize enum_comp_k_px = px
        generalize enum_comp_k_px₂ = px₂
        generalize enum_comp_k_tp = tp
        generalize enum_comp_k_scope = scope
        generalize enum_comp_k_cl = cl
        generalize enum_comp_k_pos = pos
        generalize enum_comp_k_PE = PE
        generalize enum_comp_k_Q = Q
        intro tk _F₀ hh hclos hcell hkind hnames hx hx₂ hxx h hs
        (refine hd_in ?_); revert tk; (with_reducible (refine eps_lp ?_; intro xc8; refine (?_ : ∀ y, Ap _ y) xc8; clear xc8; intro tk; refine ap_mk ?_)); (set_option tactic.hygienic false in intros); (refine hd_out ?_)
        rw [eval_ListComp]
        refine wpAny_comprehension_free (use := none) rfl hs hclos hkind hnames (wpAny_mono h (fun xv s₁ h₁ => ?_) fun _ _ e => e)
        obtain ⟨e, it, b, t, news, rfl, F, N, he, hit, hei, hLe, hLi, he₀, hi₀, off, hsz, elt9, fin⟩ := h₁
        (refine hd_in ?_); revert s₁ e it b t news; (with_reducible (refine eps_lps ?_; intro xc8; refine (?_ : ∀ y, Ap _ y) xc8; clear xc8; intro s₁; refine ap_mk ?_)); (set_option tactic.hygienic false in intros); (refine hd_out ?_)
        (refine hd_in ?_); revert e it b t news; (with_reducible (refine eps_lp ?_; intro xc8; refine (?_ : ∀ y, Ap _ y) xc8; clear xc8; intro e; refine ap_mk ?_)); (with_reducible (refine eps_lp ?_; intro xc8; refine (?_ : ∀ y, Ap _ y) xc8; clear xc8; intro it; refine ap_mk ?_)); (with_reducible (refine eps_lp ?_; intro xc8; refine (?_ : ∀ y, Ap _ y) xc8; clear xc8; intro b; refine ap_mk ?_)); (with_reducible (refine eps_lp ?_; intro xc8; refine (?_ : ∀ y, Ap _ y) xc8; clear xc8; intro t; refine ap_mk ?_)); (with_reducible (refine eps_lp ?_; intro xc8; refine (?_ : ∀ y, Ap _ y) xc8; clear xc8; intro news; refine ap_mk ?_)); (set_option tactic.hygienic false in intros); (refine hd_out ?_)
        have W := WalksT.enumerateD (draws_bytes (prog := prog) (w := w) (A := A.in1) (show A.in1.handled = none from hh) it b t) e hei (by simpa using hei) (by simp)
        have hst : (∃ old, IsEnum s₁.heap e it ((0 : Nat) : Int) old) ∧ IsBytesIter s₁.heap it b t 0 := ⟨⟨_, he⟩, hit⟩
        refine W.self 0 _ _ _ hst ?_
        have hsl : b.size ≤ sizeLine := by rw [sizeLine_eq]; omega
        refine wpAny_newObj_type (wpAny_newFunctionEnv hcell (by intro y hy; simp at hy) (fun h₁ hns₁ hsb₁ => ?_) hkind)
        dsimp only at hns₁ hsb₁ ⊢
        (refine hd_in ?_); revert h₁; (with_reducible (refine eps_lp ?_; intro xc8; refine (?_ : ∀ y, Ap _ y) xc8; clear xc8; intro h₁; refine ap_mk ?_)); (set_option tactic.hygienic false in intros); (refine hd_out ?_)
        generalize hH2 : s₁.heap.push { cls := .type "list", dict := none, data := .seq ([] : List Value).toArray } = H2 at hns₁ hsb₁ ⊢
        (refine hd_in ?_); revert H2; (with_reducible (refine eps_lp ?_; intro xc8; refine (?_ : ∀ y, Ap _ y) xc8; clear xc8; intro H2; refine ap_mk ?_)); (set_option tactic.hygienic false in intros); (refine hd_out ?_)
        have hC' : H2.objs.size = s₁.heap.objs.size + 1 := by rw [← hH2, Heap.size_push]
        have hD2 : H2.get? s₁.heap.objs.size = some (lst []) := hH2 ▸ Heap.get?_push_size _ rfl
        have helt : @LT.lt Nat _ e s₁.heap.objs.size := Heap.lt_size he
        have hilt : @LT.lt Nat _ it s₁.heap.objs.size := by obtain ⟨_, q, _⟩ := hit; exact Heap.lt_size q
        have hLlt : @LT.lt Nat _ L s₁.heap.objs.size := F.ns.lt
        have offN : ∀ p ∈ news, @LT.lt Nat _ p.1 s₁.heap.objs.size := fun p hp => Heap.lt_size (N p hp).1
        generalize hDg : s₁.heap.objs.size = D at *
        (refine hd_in ?_); revert D; (with_reducible (refine eps_lp ?_; intro xc8; refine (?_ : ∀ y, Ap _ y) xc8; clear xc8; intro D; refine ap_mk ?_)); (set_option tactic.hygienic false in intros); (refine hd_out ?_)
        generalize hCg : H2.objs.size = C at *
        (refine hd_in ?_); revert C; (with_reducible (refine eps_lp ?_; intro xc8; refine (?_ : ∀ y, Ap _ y) xc8; clear xc8; intro C; refine ap_mk ?_)); (set_option tactic.hygienic false in intros); (refine hd_out ?_)
        have fresh : ∀ a : Nat, D ≤ a → h₀.get? a = none := fun a ha => by
          cases e : h₀.get? a with
          | none => rfl
          | some o => have hz : @LT.lt Nat _ a s₁.heap.objs.size := Heap.lt_size (F.keep _ _ e); omega
        have old : ∀ b o, s₁.heap.get? b = some o → h₁.get? b = some o := fun b o e => by
          have hb : @LT.lt Nat _ b s₁.heap.objs.size := Heap.lt_size e
          refine hsb₁.extBut b o (neN (by omega)) ?_
          refine Heap.get?_push_of_some _ ?_
          rw [← hH2]
          exact Heap.get?_push_of_some _ e
        have hDC : @Ne Addr D C := neN (by omega)
        have hDL : @Ne Addr D L := neN (by omega)
        have hCL : @Ne Addr C L := neN (by omega)
        have hD₀ := fresh D (Nat.le_refl _)
        have hC₀ := fresh C (by omega)
        have hDe : @Ne Addr D e := neN (by omega)
        have hDi : @Ne Addr D it := neN (by omega)
        have hCe : @Ne Addr C e := neN (by omega)
        have hCi : @Ne Addr C it := neN (by omega)
        have hacc : h₁.get? D = some (lst []) := hsb₁.extBut _ _ hDC (Heap.get?_push_of_some _ hD2)
        have hst₁ := W.frame 0 _ h₁ hst fun b _ o q => old b o q
        have loop : ∀ (R : Result → Shared → Prop), (∀ h tk m' ys, ys.length = b.size → (∀ y ∈ ys, PE y) → Fr h₀ L h m → News h₀ L h ((D, lst ys) :: news) → h.Ns C m' → R (.ok .next) { s₁ with heap := h, toks := tk }) →
            codeAny (model prog w) A (.compLoop (.ListComp elt [⟨.Tuple [.Name x px, .Name x₂ px₂] tk tp, iter, [], 0⟩] scope pos) 0 (.ref e) (.ref D) (compEnvC scope cl C env)) R { s₁ with heap := h₁, toks := s₁.toks + ([] : List (Str × Value)).length } := by
          intro R hR
          (refine hd_in ?_); revert R; (with_reducible (refine eps_lp ?_; intro xc8; refine (?_ : ∀ y, Ap _ y) xc8; clear xc8; intro R; refine ap_mk ?_)); (set_option tactic.hygienic false in intros); (refine hd_out ?_)
          refine LCp.codeAny_compLoop_pair
            (fun k s' => ∃ h' tk i ys m', s' = { s₁ with heap := h', toks := tk } ∧ i ≤ b.size ∧ k = b.size + 1 - i ∧ ys.length = i ∧ (∀ y ∈ ys, PE y) ∧ ((∃ old, IsEnum h' e it ((i : Nat) : Int) old) ∧ IsBytesIter h' it b t i) ∧ Fr h₀ L h' m ∧ h'.Ns C m' ∧ News h₀ L h' ((D, lst ys) :: news)) ?_ (b.size + 1)
            ⟨h₁, _, 0, [], _, rfl, Nat.zero_le _, rfl, rfl, (fun _ hy => nomatch hy), hst₁, F.keeps old, hns₁, fun p hp => ?_⟩
          · rintro k s' ⟨h', tk, i, ys, m', rfl, hi, rfl, hyl, hP, hst', F', hn', N'⟩
            (refine hd_in ?_); revert h' tk i ys m'; (with_reducible (refine eps_lp ?_; intro xc8; refine (?_ : ∀ y, Ap _ y) xc8; clear xc8; intro h'; refine ap_mk ?_)); (with_reducible (refine eps_lp ?_; intro xc8; refine (?_ : ∀ y, Ap _ y) xc8; clear xc8; intro tk; refine ap_mk ?_)); (with_reducible (refine eps_lp ?_; intro xc8; refine (?_ : ∀ y, Ap _ y) xc8; clear xc8; intro i; refine ap_mk ?_)); (with_reducible (refine eps_lp ?_; intro xc8; refine (?_ : ∀ y, Ap _ y) xc8; clear xc8; intro ys; refine ap_mk ?_)); (with_reducible (refine eps_lp ?_; intro xc8; refine (?_ : ∀ y, Ap _ y) xc8; clear xc8; intro m'; refine ap_mk ?_)); (set_option tactic.hygienic false in intros); (refine hd_out ?_)
            by_cases hlt : i < b.size
            · refine W.item i _ _ _ hlt hst' fun T vals h₂ tk₂ hPt hTn hT hMid hk₂ => ?_
              obtain ⟨ti, xv, ⟨c, u, hc, rfl⟩, rfl⟩ := hPt
              (refine hd_in ?_); revert T h₂ tk₂ ti c u; (with_reducible (refine eps_lp ?_; intro xc8; refine (?_ : ∀ y, Ap _ y) xc8; clear xc8; intro T; refine ap_mk ?_)); (with_reducible (refine eps_lp ?_; intro xc8; refine (?_ : ∀ y, Ap _ y) xc8; clear xc8; intro h₂; refine ap_mk ?_)); (with_reducible (refine eps_lp ?_; intro xc8; refine (?_ : ∀ y, Ap _ y) xc8; clear xc8; intro tk₂; refine ap_mk ?_)); (set_option tactic.hygienic false in intros); (refine hd_out ?_)
              (refine hd_in ?_); revert ti c u; (with_reducible (refine eps_lp ?_; intro xc8; refine (?_ : ∀ y, Ap _ y) xc8; clear xc8; intro ti; refine ap_mk ?_)); (set_option tactic.hygienic false in intros); (refine hd_out ?_)
              (refine hd_in ?_); revert c u; (with_reducible (refine eps_lp ?_; intro xc8; refine (?_ : ∀ y, Ap _ y) xc8; clear xc8; intro c; refine ap_mk ?_)); (with_reducible (refine eps_lp ?_; intro xc8; refine (?_ : ∀ y, Ap _ y) xc8; clear xc8; intro u; refine ap_mk ?_)); (set_option tactic.hygienic false in intros); (refine hd_out ?_)
              have hTsz : h'.objs.size ≤ T := hTn
              refine W.go _ _ _ i T _ _ _ hMid fun h₃ hst₃ hk₃ => ?_
              (refine hd_in ?_); revert h₃; (with_reducible (refine eps_lp ?_; intro xc8; refine (?_ : ∀ y, Ap _ y) xc8; clear xc8; intro h₃; refine ap_mk ?_)); (set_option tactic.hygienic false in intros); (refine hd_out ?_)
              have hT₃ : h₃.IsTuple T #[.int (i : Int) ti, .int (c.toNat : Int) u] := by
                obtain ⟨oT, q, r⟩ := hT
                exact ⟨oT, hk₃ T oT (W.apart _ _ _ hMid) q, r⟩
              refine assign_Tuple_tuple hh hT₃ rfl rfl fun h₅ he₅ => ?_
              (refine hd_in ?_); revert h₅; (with_reducible (refine eps_lp ?_; intro xc8; refine (?_ : ∀ y, Ap _ y) xc8; clear xc8; intro h₅; refine ap_mk ?_)); (set_option tactic.hygienic false in intros); (refine hd_out ?_)
              have he' : ∀ b o, h₃.get? b = some o → h₅.get? b = some o := fun b o q => he₅ b o (Nat.ne_of_lt (Heap.lt_size q)) q
              have k23 : ∀ b o, b ≠ e → b ≠ it → h'.get? b = some o → h₅.get? b = some o := fun b o h1 h2 q => he' b o (hk₃ b o (by simp [h1, h2]) (hk₂ b o (by simp [h1, h2]) q))
              refine assignInOrder_cons (wpAny_assign_Name (wpAny_storeName_local (lookup_relabel_local hx) (hn'.at' fun o q => k23 _ o hCe hCi q) (fun h₆ hn₆ hs₆ => ?_) (by simp [compEnvC, relabel, hkind])))
              (refine hd_in ?_); revert h₆; (with_reducible (refine eps_lp ?_; intro xc8; refine (?_ : ∀ y, Ap _ y) xc8; clear xc8; intro h₆; refine ap_mk ?_)); (set_option tactic.hygienic false in intros); (refine hd_out ?_)
              refine assignInOrder_cons (wpAny_assign_Name (wpAny_storeName_local (lookup_relabel_local hx₂) hn₆ (fun h₇ hn₇ hs₇ => ?_) (by simp [compEnvC, relabel, hkind])))
              (refine hd_in ?_); revert h₇; (with_reducible (refine eps_lp ?_; intro xc8; refine (?_ : ∀ y, Ap _ y) xc8; clear xc8; intro h₇; refine ap_mk ?_)); (set_option tactic.hygienic false in intros); (refine hd_out ?_)
              refine assignInOrder_nil ?_
              have old3 : ∀ b o, b ≠ C → h₅.get? b = some o → h₇.get? b = some o := fun b o hb q => hs₇.extBut b o hb (hs₆.extBut b o hb q)
              have hst₇ := W.frame _ _ h₇ hst₃ fun b hb o q => old3 b o (by
                rcases List.mem_cons.mp hb with rfl | hb
                · exact Ne.symm hCe
                · rw [List.mem_singleton.mp hb]; exact Ne.symm hCi) (he' b o q)
              obtain ⟨oC, heC, hoC⟩ := ns_obj hn₇
              (refine hd_in ?_); revert oC; (with_reducible (refine eps_lp ?_; intro xc8; refine (?_ : ∀ y, Ap _ y) xc8; clear xc8; intro oC; refine ap_mk ?_)); (set_option tactic.hygienic false in intros); (refine hd_out ?_)
              have F₅ : Fr h₀ L h₅ m := ⟨F'.ns.at' fun o q => k23 _ o hLe hLi q, fun b o q => k23 b o (fun z => by rw [z, he₀] at q; cases q) (fun z => by rw [z, hi₀] at q; cases q) (F'.keep b o q), F'.above⟩
              have F₇ : Fr h₀ L h₇ m := (F₅.change hs₆ hCL hC₀).change hs₇ hCL hC₀
              have N₇ : News h₀ L h₇ ((D, lst ys) :: news) := fun p hp => by
                have z := N' p hp
                rcases List.mem_cons.mp hp with rfl | hp
                · exact ⟨old3 _ _ hDC (k23 _ _ hDe hDi z.1), z.2⟩
                · have := offN p hp
                  exact ⟨old3 _ _ (neN (by omega)) (k23 _ _ (off p hp).1 (off p hp).2 z.1), z.2⟩
              have NE : News h₀ L h₇ ((C, oC) :: news) := fun p hp => by
                rcases List.mem_cons.mp hp with rfl | hp
                · exact ⟨heC, hCL, hC₀⟩
                · exact N₇ p (List.mem_cons_of_mem _ hp)
              refine wpAny_mono (elt9 i c ti u C oC _ h₇ _ _ hlt (by have := c.toNat_lt; omega) hoC (by simp [hxx]) (by simp) F₇ NE) (fun y s₄ h₄ => ?_) fun _ _ q => q
              obtain ⟨hy, tk₄, rfl⟩ := h₄
              (refine hd_in ?_); revert y tk₄; (with_reducible (refine eps_lp ?_; intro xc8; refine (?_ : ∀ y, Ap _ y) xc8; clear xc8; intro y; refine ap_mk ?_)); (set_option tactic.hygienic false in intros); (refine hd_out ?_)
              (refine hd_in ?_); revert tk₄; (with_reducible (refine eps_lp ?_; intro xc8; refine (?_ : ∀ y, Ap _ y) xc8; clear xc8; intro tk₄; refine ap_mk ?_)); (set_option tactic.hygienic false in intros); (refine hd_out ?_)
              have zD := (N₇ (D, lst ys) List.mem_cons_self).1
              refine append_at (hsz := by show ys.toArray.size ≤ sizeLine; rw [List.size_toArray, hyl]; exact Nat.le_trans hi hsl) zD fun h₈ hs₈ hD₈ => ?_
              (refine hd_in ?_); revert h₈; (with_reducible (refine eps_lp ?_; intro xc8; refine (?_ : ∀ y, Ap _ y) xc8; clear xc8; intro h₈; refine ap_mk ?_)); (set_option tactic.hygienic false in intros); (refine hd_out ?_)
              refine ⟨b.size + 1 - (i + 1), by omega, h₈, tk₄, i + 1, ys ++ [y], _, rfl, hlt, rfl, by rw [List.length_append, List.length_singleton, hyl], fun z hz => ?_, W.frame _ _ _ hst₇ fun b hb o q => hs₈.extBut b o (by
                rcases List.mem_cons.mp hb with rfl | hb
                · exact Ne.symm hDe
                · rw [List.mem_singleton.mp hb]; exact Ne.symm hDi) q, F₇.change hs₈ hDL hD₀, hn₇.sameBut hs₈ (Ne.symm hDC), fun p hp => ?_⟩
              · rcases List.mem_append.mp hz with hz | hz
                · exact hP z hz
                · rw [List.mem_singleton.mp hz]; exact hy
              · rcases List.mem_cons.mp hp with rfl | hp
                · exact ⟨hD₈.trans (congrArg some (lst_snoc ys y)), hDL, hD₀⟩
                · have := offN p hp
                  have z := N₇ p (List.mem_cons_of_mem _ hp)
                  exact ⟨hs₈.extBut _ _ (neN (by omega)) z.1, z.2⟩
            · obtain rfl : i = b.size := Nat.le_antisymm hi (Nat.not_lt.mp hlt)
              refine W.done _ _ _ hst' fun h₂ tk₂ hk₂ => ?_
              have k2 : ∀ b o, b ≠ e → b ≠ it → h'.get? b = some o → h₂.get? b = some o := fun b o h1 h2 q => hk₂ b o (by simp [h1, h2]) q
              refine hR h₂ tk₂ m' ys hyl hP ⟨F'.ns.at' fun o q => k2 _ o hLe hLi q, fun b o q => k2 b o (fun z => by rw [z, he₀] at q; cases q) (fun z => by rw [z, hi₀] at q; cases q) (F'.keep b o q), F'.above⟩ (fun p hp => ?_) (hn'.at' fun o q => k2 _ o hCe hCi q)
              have z := N' p hp
              rcases List.mem_cons.mp hp with rfl | hp
              · exact ⟨k2 _ _ hDe hDi z.1, z.2⟩
              · exact ⟨k2 _ _ (off p hp).1 (off p hp).2 z.1, z.2⟩
          · rcases List.mem_cons.mp hp with rfl | hp
            · exact ⟨hacc, hDL, hD₀⟩
            · exact ⟨old _ _ (N p hp).1, (N p hp).2⟩
        have final : ∀ h tk m' ys, ys.length = b.size → (∀ y ∈ ys, PE y) → Fr h₀ L h m → News h₀ L h ((D, lst ys) :: news) → h.Ns C m' →
            ∀ h'', Heap.SameBut C h h'' → Q (.ref D) { s₁ with heap := h'', toks := tk } := fun h tk m' ys hyl hP F' N' hn' h'' hs'' => by
          refine fin D ys h'' tk hyl hP (F'.change hs'' hCL hC₀) (fun p hp => ?_) fun p hp => ltN (by have := offN p hp; omega)
          refine ⟨hs''.extBut _ _ ?_ (N' p hp).1, (N' p hp).2⟩
          rcases List.mem_cons.mp hp with rfl | hp
          · exact hDC
          · have := offN p hp; exact neN (by omega)
        exact codeAny_compStart_list (loop _ fun h tk m' ys a b c d f => ⟨m', f, final h tk m' ys a b c d f⟩) (W.self 0 _ _ _ hst₁ (loop _ fun h tk m' ys a b c d f => ⟨m', f, final h tk m' ys a b c d f⟩))
      case j9 => revert k9; (try delta id ap_mk hd_in hd_out); intro k9; (try conv at k9 => zeta); exact k9)) only [↓bxT]

theorem enum_comp {elt iter : Expr} {x x₂ : Str} {px px₂ tp : Pos} {tk} {scope : Scope} {cl : List (Str × Addr)} {pos : Pos} {PE : Value → Prop} {Q : Value → Shared → Prop}
    (_F₀ : Fr h₀ L s.heap m) (hh : A.handled = none) (hclos : closureFor scope env = pure cl) (hcell : ∀ y ∈ scope.names, y.2 ≠ .cell) (hkind : scope.kind = .function)
    (hnames : ∀ y ∈ scope.names, y.2 = .local → scope.names.lookup y.1 = some .local) (hx : scope.names.lookup x = some .local) (hx₂ : scope.names.lookup x₂ = some .local) (hxx : x ≠ x₂)
    (h : wpAny (model prog w) A (eval iter env) (EnumSrc prog w A h₀ L m env elt x x₂ scope cl PE Q) E s)
    (hs : ∀ x, foldedSetIterable iter env x = pure x := by intro _; rfl) :
    wpAny (model prog w) A (eval (.ListComp elt [⟨.Tuple [.Name x px, .Name x₂ px₂] tk tp, iter, [], 0⟩] scope pos) env) Q E s := by
  exact eps_all (default, epsW, {}, default, {}, default, default, default, default, default, default, default, default, default, default, default, default, default, default, default, default) enum_comp_P (by with_unfolding_all exact enum_comp_0) (prog, w, A, E, s, h₀, L, m, env, elt, iter, x, x₂, px, px₂, tp, scope, cl, pos, PE, Q) tk _F₀ hh hclos hcell hkind hnames hx hx₂ hxx h hs
theorem enum_src {elt : Expr} {x x₂ : Str} {scope : Scope} {cl : List (Str × Addr)} {PE : Value → Prop} {Q : Value → Shared → Prop} {b : Array UInt8} {t : Tok} {news : List (Addr × Obj)} {n : Nat} (F : Fr h₀ L s.heap m) (N : News h₀ L s.heap news) (hn : b.size = n) (hsz : n ≤ 1000)
    (elt9 : ∀ g : Heap, EltT prog w A h₀ L m env elt x x₂ scope cl news n PE { s with heap := g })
    (fin : ∀ D ys h tk, ys.length = n → (∀ y ∈ ys, PE y) → Fr h₀ L h m → News h₀ L h ((D, lst ys) :: news) → (∀ p ∈ news, p.1 < D) → Q (.ref D) { s with heap := h, toks := tk }) :
    wpAny (model prog w) A (call (.type "enumerate") [.bytes b t]) (EnumSrc prog w A h₀ L m env elt x x₂ scope cl PE Q) E s := by
  subst hn
  refine call_enumerate_bytes fun h' he hit hz hk => ?_
  have hLlt : @LT.lt Nat _ L s.heap.objs.size := F.ns.lt
  have offN : ∀ p ∈ news, @LT.lt Nat _ p.1 s.heap.objs.size := fun p hp => Heap.lt_size (N p hp).1
  have fresh : ∀ a : Nat, s.heap.objs.size ≤ a → h₀.get? a = none := fun a ha => by
    cases e : h₀.get? a with
    | none => rfl
    | some o => have hz : @LT.lt Nat _ a s.heap.objs.size := Heap.lt_size (F.keep _ _ e); omega
  refine ⟨_, _, b, t, news, rfl, F.keeps hk, N.grown hk, he, hit, Nat.succ_ne_self _, neN (by omega), neN (by omega), fresh _ (Nat.le_succ _), fresh _ (Nat.le_refl _), fun p hp => ?_, hsz, elt9 _, fin⟩
  have := offN p hp
  exact ⟨neN (by omega), neN (by omega)⟩
end
theorem xor_end {x y : Int} {t : Tok} {s s₁ : Shared} {h : Heap} {tk : Nat} (hx : 0 ≤ x) (hx2 : x < 256) (hy : 0 ≤ y) (hy2 : y < 256) (e : ∃ tk', s = { s₁ with heap := h, toks := tk' }) : IntIn 0 256 (.int (Builtin.bitXor x y) t) ∧ ∃ tk', s = { s₁ with heap := h, toks := tk' } :=
  ⟨⟨_, _, rfl, (bitXor_in hx hx2 hy hy2).1, (bitXor_in hx hx2 hy hy2).2⟩, e⟩
theorem intsAre_of {lo hi : Int} : ∀ {ys : List Value}, (∀ y ∈ ys, IntIn lo hi y) → ∃ ks : List Int, IntsAre ys ks ∧ ks.length = ys.length ∧ ∀ k ∈ ks, lo ≤ k ∧ k < hi
  | [], _ => ⟨[], .nil, rfl, fun _ h => nomatch h⟩
  | y :: r, h => by
    obtain ⟨ks, h1, h2, h3⟩ := intsAre_of (ys := r) fun z hz => h z (List.mem_cons_of_mem _ hz)
    obtain ⟨k, t, rfl, hl, hh⟩ := h y List.mem_cons_self
    refine ⟨k :: ks, .cons k t h1, by simp [h2], fun z hz => ?_⟩
    rcases List.mem_cons.mp hz with rfl | hz
    · exact ⟨hl, hh⟩
    · exact h3 z hz
end
section
set_option Elab.async false
set_option maxRecDepth 100000
set_option maxHeartbeats 800000
def SomeBytes (v : Value) : Prop := ∃ k : Nat, k ≤ 1000 ∧ BytesOf k v
theorem big_of {b : Array UInt8} {ks : List Int} {t : Tok} (h : KBw.bInts b = ks) (hl : ks.length ≤ 1000) : SomeBytes (.bytes b t) := ⟨_, hl, _, _, _, rfl, h, rfl⟩
theorem int_no_bytes : typeLookup (.type "int") "__bytes__" = pure none := by rw [typeLookup_type, builtinLookup_eq_fast]; kernel_rfl
section
variable {prog : Program} {w : World} {A : Around} {E : Value → Shared → Prop} {s : Shared}
theorem bytes_int_new {n : Nat} {x : Int} {t : Tok} {Q : Value → Shared → Prop} (hx : x = (n : Int)) (hn : n ≤ 1000)
    (hQ : ∀ t k, Q (.bytes (Array.replicate n 0) t) { s with toks := k }) :
    codeAny (model prog w) A (.call (.builtin "bytes.__new__") ⟨[.type "bytes", .int x t], []⟩) (wants Q E) s := by
  have hT : s.TypeIs (.int x t) "int" := typeIs_int _ _ _
  refine codeAny_of_tree ?_
  show wpAny _ A.in1 (do checkBuiltinCall "bytes.__new__" ⟨[.type "bytes", .int x t], []⟩; again (.builtin "bytes.__new__" ⟨[.type "bytes", .int x t], []⟩)) _ _ s
  refine wpAny_bind (wpAny_of_eq (F.bm_newCall (.int x t)) (wpAny_pure ⟨plainId_quiet F.bm_plain _, codeAny_builtin F.bm_entry ?_⟩))
  rw [Around.under_plainId F.bm_plain _]
  unfold Builtin.«bytes.__new__»
  dsimp only
  refine wpAny_bind (wpAny_of_eq (a := true) (show isType (.type "bytes") = pure true from rfl) ?_)
  refine bm_if_false rfl ?_
  refine wpAny_bind (wpAny_of_eq F.bm_sub ?_)
  refine bm_if_false rfl ?_
  refine wpAny_bind (wpAny_of_eq (F.bm_bind (.int x t)) ?_)
  refine wpAny_bind (wpAny_of_eq (a := ()) rfl ?_)
  refine wpAny_bind (wpAny_of_eq (a := ()) rfl ?_)
  refine bm_if_false rfl ?_
  refine wpAny_bind (wpAny_specialOf hT int_no_bytes ?_)
  refine wpAny_bind (wpAny_of_eq (a := false) rfl ?_)
  refine bm_if_false rfl ?_
  refine wpAny_bind (wpAny_specialOf hT int_index ?_)
  refine bm_if_false rfl ?_
  refine wpAny_bind (wpAny_attempt (wpAny_of_eq (rfl : asIndex (.int x t) = pure x) ?_))
  dsimp only
  have e1 : (!Builtin.Bytes.fitsIndex x) = false := by
    unfold Builtin.Bytes.fitsIndex
    simp only [Bool.not_eq_false', Bool.and_eq_true, decide_eq_true_eq]
    omega
  refine bm_if_false (by rw [e1]) ?_
  rw [if_neg (by omega)]
  rw [if_neg (by omega)]
  refine bm_if_false (by unfold Builtin.Bytes.tooLong; simp only [decide_eq_false_iff_not, PySem.sizeLine_eq]; omega) ?_
  refine wpAny_bind (wpAny_rule ?_)
  rw [show x.toNat = n by omega]
  refine wpAny_bind (wpAny_mkBytes ?_ (by rw [sizeLine_eq, Array.size_replicate]; omega))
  show wpAny _ _ (if (Value.type "bytes" == Value.type "bytes") = true then _ else _) _ _ _
  refine bm_if_true (by decide) ?_
  first
    | exact wpAny_pure (hQ _ _)
    | exact wpAny_bind (wpAny_pure (wpAny_pure (hQ _ _)))
theorem bytes_int {x : Int} {t : Tok} {n : Nat} {Q : Value → Shared → Prop} (hx : x = (n : Int)) (hn : n ≤ 1000)
    (h : ∀ b t' k ks, KBw.bInts b = ks → ks.length = n → Q (.bytes b t') { s with toks := k }) : wpAny (model prog w) A (call (.type "bytes") [.int x t]) Q E s := by
  subst hx
  refine callType_codes (Q₁ := fun obj s₁ => s₁.TypeIs obj "bytes" ∧ Q obj s₁) F.bm_called (F.bm_typeCall _) F.entry_object_init
    (bytes_int_new rfl hn fun t k => ⟨PySem.W.typeIs_bytes _ _ _, h _ t k _ rfl (by rw [KBw.ints_length]; simp)⟩) fun obj s₁ h₁ => ?_
  exact ⟨h₁.1, F.args_object_init_2 obj _, object_init_meets F.bm_called.init.lookup F.bm_called.made (by decide) prog w A.in1 _ s₁ ⟨h₁.1, rfl, h₁.2⟩⟩
end
end
section
set_option Elab.async false
set_option maxRecDepth 100000
set_option maxHeartbeats 800000
open PyProof.Rows.LCg (lst NsObj)
theorem map_id9 {f : Str × NameKind → Str × NameKind} : ∀ {l : List (Str × NameKind)}, (∀ y ∈ l, f y = y) → l.map f = l
  | [], _ => rfl
  | y :: r, h => by rw [List.map_cons, h y List.mem_cons_self, map_id9 fun z hz => h z (List.mem_cons_of_mem _ hz)]
theorem compEnv_eq {scope : Scope} {C : Addr} {env : Env} (hfree : ∀ y ∈ scope.names, y.2 ≠ .free) : compEnvC scope [] C env = compEnv scope C env := by
  have e : relabel scope env = scope := by
    unfold relabel
    rw [map_id9 fun y hy => ?_]
    obtain ⟨n, k⟩ := y
    have : (k == NameKind.free) = false := by simpa using hfree _ hy
    simp [this]
  unfold compEnvC compEnv
  rw [e]
section
variable {prog : Program} {w : World} {A : Around} {E : Value → Shared → Prop} {s : Shared} {env : Env} {h₀ : Heap} {L : Addr} {m : Str → Option Value}
def RetN (h₀ : Heap) (L : Addr) (m : Str → Option Value) (news' : List (Addr × Obj)) (P : Value → Prop) (Q' : Value → Shared → Prop) (s₁ : Shared) : Prop := ∀ r h' tk', P r → Fr h₀ L h' m → News h₀ L h' news' → Q' r { s₁ with heap := h', toks := tk' }
theorem RetN.use {news' : List (Addr × Obj)} {P : Value → Prop} {Q' : Value → Shared → Prop} {s₁ : Shared} {r : Value} {h' : Heap} {tk' : Nat} (R : RetN h₀ L m news' P Q' s₁) (p : P r) (F : Fr h₀ L h' m) (N : News h₀ L h' news') : Q' r { s₁ with heap := h', toks := tk' } := R r h' tk' p F N
def EltN (prog : Program) (w : World) (A : Around) (h₀ : Heap) (L : Addr) (m : Str → Option Value) (env : Env) (elt : Expr) (x : Str) (scope : Scope) (news : List (Addr × Obj)) (P : Value → Prop) (s₁ : Shared) (v : Value) : Prop :=
  ∀ (C : Addr) (oC : Obj) (m₂ : Str → Option Value) (news' : List (Addr × Obj)) (h : Heap) (tk : Nat) (Q' : Value → Shared → Prop), (∀ p ∈ news, p ∈ news') → NsObj oC m₂ → (C, oC) ∈ news' → m₂ x = some v → Fr h₀ L h m → News h₀ L h news' →
    RetN h₀ L m news' P Q' s₁ → wpG (model prog w) A (eval elt (compEnvC scope [] C env)) Q' (fun _ _ => False) { s₁ with heap := h, toks := tk }
def SrcN (prog : Program) (w : World) (A : Around) (h₀ : Heap) (L : Addr) (m : Str → Option Value) (env : Env) (elt : Expr) (x : Str) (scope : Scope) (P : Value → Prop) (Q : Value → Shared → Prop) (xv : Value) (s₁ : Shared) : Prop :=
  ∃ ax vs c news, xv = .ref ax ∧ Fr h₀ L s₁.heap m ∧ News h₀ L s₁.heap news ∧ (ax, listOf (List.toArray vs) c) ∈ news ∧ vs.length ≤ 1000 ∧
      (∀ v ∈ vs, EltN prog w A h₀ L m env elt x scope news P s₁ v) ∧
      (∀ D ys h tk, ys.length = vs.length → (∀ y ∈ ys, P y) → Fr h₀ L h m → News h₀ L h ((D, lst ys) :: news) → (∀ p ∈ news, p.1 < D) → Q (.ref D) { s₁ with heap := h, toks := tk })
theorem g_ListN {elt iter : Expr} {x : Str} {px : Pos} {scope : Scope} {pos : Pos} {P : Value → Prop} {Q : Value → Shared → Prop} (_F₀ : Fr h₀ L s.heap m)
    (hh : A.handled = none) (hfree : ∀ y ∈ scope.names, y.2 ≠ .free) (hcell : ∀ y ∈ scope.names, y.2 ≠ .cell) (hkind : scope.kind = .function)
    (hnames : ∀ y ∈ scope.names, y.2 = .local → scope.names.lookup y.1 = some .local) (hx : scope.names.lookup x = some .local)
    (h : wpAny (model prog w) A (eval iter env) (SrcN prog w A h₀ L m env elt x scope P Q) E s)
    (hs : ∀ x, foldedSetIterable iter env x = pure x := by intro _; rfl) :
    wpG (model prog w) A (eval (.ListComp elt [⟨.Name x px, iter, [], 0⟩] scope pos) env) Q E s := by
  refine g_ListComp (P := P) (h₀ := h₀) (L := L) (m := m) hh hfree hcell hkind hnames hx (wpAny_mono h (fun xv s₁ h₁ => ?_) fun _ _ e => e) hs
  obtain ⟨ax, vs, c, news, a, b, d, e, f, g, i⟩ := h₁
  refine ⟨ax, vs, c, news, a, b, d, e, f, fun v hv => ?_, i⟩
  intro C oC m₂ news' h tk Q' q1 q2 q3 q4 q5 q6 q7
  have := g v hv C oC m₂ news' h tk Q' q1 q2 q3 q4 q5 q6 q7
  rw [compEnv_eq hfree] at this
  exact this
theorem SrcN.intro {elt : Expr} {x : Str} {scope : Scope} {P : Value → Prop} {Q : Value → Shared → Prop} {ax : Addr} {vs : List Value} {c : Nat} {news : List (Addr × Obj)} (F : Fr h₀ L s.heap m) (N : News h₀ L s.heap news) (hm : (ax, listOf (List.toArray vs) c) ∈ news) (hl : vs.length ≤ 1000)
    (helt : ∀ v ∈ vs, EltN prog w A h₀ L m env elt x scope news P s v)
    (done9 : ∀ D ys h tk, ys.length = vs.length → (∀ y ∈ ys, P y) → Fr h₀ L h m → News h₀ L h ((D, lst ys) :: news) → (∀ p ∈ news, p.1 < D) → Q (.ref D) { s with heap := h, toks := tk }) :
    SrcN prog w A h₀ L m env elt x scope P Q (.ref ax) s := ⟨ax, vs, c, news, rfl, F, N, hm, hl, helt, done9⟩
theorem join_arg {ov : Value} {X : Prop} {b : Array UInt8} {t : Tok} (e : ov = .bytes b t) (h : X) : (∃ b t, ov = .bytes b t) ∧ X := ⟨⟨b, t, e⟩, h⟩
end
theorem len_as {v : Value} {a b : Nat} (e : a = b) (h : BytesOf a v) : BytesOf b v := e ▸ h
theorem news_need {h₀ h : Heap} {L : Addr} {need news : List (Addr × Obj)} (hn : ∀ q ∈ need, q ∈ news) (N : News h₀ L h news) : News h₀ L h (need ++ news) := fun p hp => by
  rcases List.mem_append.mp hp with hp | hp
  · exact N p (hn p hp)
  · exact N p hp
def IntsIn (lo hi : Int) (vs : List Value) : Prop := ∀ v ∈ vs, IntIn lo hi v
end
section
set_option Elab.async false
set_option maxRecDepth 100000
set_option maxHeartbeats 800000
section
variable {prog : Program} {w : World} {A : Around} {E : Value → Shared → Prop} {s : Shared} {h₀ : Heap} {L : Addr} {m : Str → Option Value} {news : List (Addr × Obj)}
theorem slice_tail1 {value slice : Expr} {t : Addr} {x : Value} {r : List Value} {n : Nat} {u : Tok} {Q : Value → Shared → Prop}
    (F : Fr h₀ L s.heap m) (N : News h₀ L s.heap news) (hm : (t, ({ cls := .type "tuple", data := .seq (x :: r).toArray n } : Obj)) ∈ news) (hr : r.length ≤ 1000)
    (h : ∀ l h', Fr h₀ L h' m → News h₀ L h' ((l, { cls := .type "tuple", data := .seq r.toArray }) :: news) → (∀ p ∈ news, p.1 < l) → Q (.ref l) { s with heap := h' })
    (hs : subscripted slice false (.ref t) (.ref s.heap.objs.size) = operate [.ref s.heap.objs.size, .ref t] (getItem (.ref t) (.ref s.heap.objs.size)) := by with_unfolding_all rfl)
    (hg : ∀ r, letTemporaryGo value (.ref t) r = pure () := by intro _; with_unfolding_all rfl) :
    wpAny (model prog w) A (subscriptTail value slice (.ref t) (.ref s.heap.objs.size)) Q E { s with heap := s.heap.push { cls := .type "slice", data := .fields #[.int 1 u, .none, .none] } } := by
  refine slice_tuple_from (a := 1) (items := (x :: r).toArray) F N ⟨_, (N _ hm).1, rfl, _, rfl⟩ (by decide) (by simp) (fun h' F' N' => ?_) hs hg (by rw [List.size_toArray, List.length_cons, sizeLine_eq]; omega)
  refine h _ h' F' N' fun p hp => ltN ?_
  have := Heap.lt_size (N p hp).1
  have q : @LT.lt Nat _ p.1 s.heap.objs.size := this
  omega
end
theorem intsIn_nil {lo hi : Int} : IntsIn lo hi [] := fun _ h => nomatch h
theorem intsIn_cons {lo hi k : Int} {t : Tok} {r : List Value} (h0 : lo ≤ k) (h1 : k < hi) (h : IntsIn lo hi r) : IntsIn lo hi (.int k t :: r) := fun v hv => by
  rcases List.mem_cons.mp hv with rfl | hv
  · exact ⟨k, t, rfl, h0, h1⟩
  · exact h v hv
theorem news_sub {h₀ h : Heap} {L : Addr} {news all : List (Addr × Obj)} (N : News h₀ L h all) (hs : ∀ p ∈ news, p ∈ all) : News h₀ L h news := fun p hp => N p (hs p hp)
theorem sub_tail {news all : List (Addr × Obj)} {a : Addr × Obj} (h : ∀ p ∈ news, p ∈ all) : ∀ p ∈ news, p ∈ a :: all := fun p hp => List.mem_cons_of_mem _ (h p hp)
theorem sub_self {news : List (Addr × Obj)} : ∀ p ∈ news, p ∈ news := fun _ h => h
theorem sub_left {news own : List (Addr × Obj)} : ∀ p ∈ news, p ∈ news ++ own := fun _ h => List.mem_append_left _ h
theorem need_nil {news : List (Addr × Obj)} : ∀ q ∈ ([] : List (Addr × Obj)), q ∈ news := fun _ h => nomatch h
theorem need_cons {news need : List (Addr × Obj)} {p : Addr × Obj} (h : p ∈ news) (r : ∀ q ∈ need, q ∈ news) : ∀ q ∈ p :: need, q ∈ news := fun q hq => by
  rcases List.mem_cons.mp hq with rfl | hq
  · exact h
  · exact r q hq
end
section
set_option Elab.async false
set_option maxRecDepth 100000
set_option maxHeartbeats 800000
section
variable {prog : Program} {w : World} {A₀ A : Around} {s : Shared} {base h₀ : Heap} {outer : List Env} {L : Addr} {m : Str → Option Value} {env : Env} {need rest news : List (Addr × Obj)} {K : Frag}
  {p : Program} {loose : List Str} {mean : ExcName → Option Value} {mg mb : Str → Option Value}
  {R : Result → Shared → Prop} {name qual : Str} {params : Arguments} {body : List Stmt} {scope : Scope} {dV kV doc pm cdv ct oc : Value} {an od : Option Addr} {osl : Array (Option Value)} {f : Addr} {args : Args} {binds : List (Str × Value)}

abbrev RestK (h₀ : Heap) (L : Addr) (rest : List (Addr × Obj)) (R : Result → Shared → Prop) (r : Result) (s' : Shared) : Prop := News h₀ L s'.heap rest → R r s'

theorem groundF (B : Below A₀ base outer h₀) (F : Fr h₀ L s.heap m) (N : News h₀ L s.heap need) (Nr : News h₀ L s.heap rest) (hdis : ∀ p ∈ rest, p.1 ∉ need.map (·.1)) (hA : A.frames = some (env :: outer)) (hf : env.frame = some L) (hke : env.scope.kind = .function) :
    Fr h₀ L (hideAll s.heap (need.map (·.1))) m ∧ Below A base (env :: outer) (hideAll s.heap (need.map (·.1))) ∧ h₀.StaysIn (hideAll s.heap (need.map (·.1))) ∧
      ∀ v s', LeaveK h₀ L m (hideAll s.heap (need.map (·.1))) (RestK h₀ L rest R) v s' → R (.ok (.ret v)) s' := by
  obtain ⟨FG, BG, st, lv⟩ := groundX (R := RestK h₀ L rest R) B F N hA hf hke
  refine ⟨FG, BG, st, fun v s' hl => lv v s' hl ?_⟩
  obtain ⟨L', m', news', F', N', k⟩ := hl
  exact fun p hp => ⟨F'.keep _ _ (hideAll_get _ (Nr p hp).1 (hdis p hp)), (Nr p hp).2⟩

theorem code_defF (B : Below A₀ base outer h₀) (F : Fr h₀ L s.heap m) (X₀ : K.In h₀) (N : News h₀ L s.heap need) (Nr : News h₀ L s.heap rest) (hdis : ∀ p ∈ rest, p.1 ∉ need.map (·.1)) (T : Top p loose mean mg mb h₀) (hA : A.frames = some (env :: outer)) (hf : env.frame = some L) (hke : env.scope.kind = .function)
    (ho : K.lookup f = some ⟨oc, od, .func (fnOf name qual params body scope dV kV doc pm an cdv ct), osl⟩) (hcd : codeIn K cdv qual = true) (hroom : A.depth < recursionLimit)
    (hbind : BindsTo s (fnOf name qual params body scope dV kV doc pm an cdv ct) args binds) (hloc : ∀ y ∈ binds, scope.names.lookup y.1 = some .local)
    (h : ∀ g L' h₁ tk, Fr h₀ L g m → Fr g L' h₁ (fun y => binds.reverse.lookup y) → News g L' h₁ need → Below A base (env :: outer) g → K.In g → Top p loose mean mg mb g → (∀ p ∈ need, p.1 < L') → (∀ p ∈ rest, p.1 < L' ∧ g.get? p.1 = some p.2) →
      wpAny (model prog w) (A.deeper (envOf qual scope L' f cdv)) (execs body (envOf qual scope L' f cdv))
        (fun fl s' => LeaveK h₀ L m g (RestK h₀ L rest R) (match fl with | .ret v => v | _ => .none) s')
        (fun e s' => wpAny (model prog w) (A.deeper (envOf qual scope L' f cdv)) (leaving (envOf qual scope L' f cdv) e) (fun _ s'' => R (.error e) s'') (fun e' s'' => R (.error e') s'') s')
        { s with heap := h₁, toks := tk })
    (hco : scope.isCoroutine = false) (hgen : scope.isGenerator = false) (hk : scope.kind = .function)
    (hcell : ∀ x ∈ scope.names, x.2 ≠ .cell) : codeAny (model prog w) A (.call (.ref f) args) R s := by
  obtain ⟨FG, BG, st, lv⟩ := groundF (R := R) B F N Nr hdis hA hf hke
  refine codeAny_call_def (fd := fnX name qual params body scope [] dV kV doc pm an cdv ct) (body := body) (binds := binds) hroom ((X₀.keeps F.keep) _ _ ho) rfl (T.nolimit.keeps F.keep) (codeRec_of (X₀.keeps F.keep) hcd) rfl hbind hcell hloc (fun h₁ hns hk₁ => ?_) hco hgen hk
  exact wpAny_mono (h _ s.heap.objs.size h₁ _ FG ⟨hns, fun b o e => hk₁ b o (of_hideAll _ e), Nat.le_of_eq (hideAll_size _ _)⟩
    (fun p hp => ⟨hk₁ _ _ (N p hp).1, Nat.ne_of_lt (Heap.lt_size (N p hp).1), hideAll_none _ (List.mem_map_of_mem hp)⟩) BG (X₀.keeps st) (T.keeps st) (fun p hp => Heap.lt_size (N p hp).1) (fun p hp => ⟨Heap.lt_size (Nr p hp).1, hideAll_get _ (Nr p hp).1 (hdis p hp)⟩)) (fun fl s' hl => lv _ _ hl) fun _ _ y => y

theorem codeG_defF (B : Below A₀ base outer h₀) (F : Fr h₀ L s.heap m) (X₀ : K.In h₀) (N : News h₀ L s.heap need) (Nr : News h₀ L s.heap rest) (hdis : ∀ p ∈ rest, p.1 ∉ need.map (·.1)) (T : Top p loose mean mg mb h₀) (hA : A.frames = some (env :: outer)) (hf : env.frame = some L) (hke : env.scope.kind = .function)
    (ho : K.lookup f = some ⟨oc, od, .func (fnOf name qual params body scope dV kV doc pm an cdv ct), osl⟩) (hcd : codeIn K cdv qual = true) (hroom : A.depth < recursionLimit)
    (hbind : BindsTo s (fnOf name qual params body scope dV kV doc pm an cdv ct) args binds) (hloc : ∀ y ∈ binds, scope.names.lookup y.1 = some .local)
    (h : ∀ g L' h₁ tk, Fr h₀ L g m → Fr g L' h₁ (fun y => binds.reverse.lookup y) → News g L' h₁ need → Below A base (env :: outer) g → K.In g → Top p loose mean mg mb g → (∀ p ∈ need, p.1 < L') → (∀ p ∈ rest, p.1 < L' ∧ g.get? p.1 = some p.2) →
      wpG (model prog w) (A.deeper (envOf qual scope L' f cdv)) (execs body (envOf qual scope L' f cdv))
        (fun fl s' => LeaveK h₀ L m g (RestK h₀ L rest R) (match fl with | .ret v => v | _ => .none) s') (fun _ _ => False)
        { s with heap := h₁, toks := tk })
    (hco : scope.isCoroutine = false) (hgen : scope.isGenerator = false) (hk : scope.kind = .function)
    (hcell : ∀ x ∈ scope.names, x.2 ≠ .cell) : codeG (model prog w) A (.call (.ref f) args) R s := by
  obtain ⟨FG, BG, st, lv⟩ := groundF (R := R) B F N Nr hdis hA hf hke
  refine codeG_call_def (fd := fnX name qual params body scope [] dV kV doc pm an cdv ct) (body := body) (binds := binds) hroom ((X₀.keeps F.keep) _ _ ho) rfl (T.nolimit.keeps F.keep) (codeRec_of (X₀.keeps F.keep) hcd) rfl hbind hcell hloc (fun h₁ hns hk₁ => ?_) hco hgen hk
  exact wpG_mono (h _ s.heap.objs.size h₁ _ FG ⟨hns, fun b o e => hk₁ b o (of_hideAll _ e), Nat.le_of_eq (hideAll_size _ _)⟩
    (fun p hp => ⟨hk₁ _ _ (N p hp).1, Nat.ne_of_lt (Heap.lt_size (N p hp).1), hideAll_none _ (List.mem_map_of_mem hp)⟩) BG (X₀.keeps st) (T.keeps st) (fun p hp => Heap.lt_size (N p hp).1) (fun p hp => ⟨Heap.lt_size (Nr p hp).1, hideAll_get _ (Nr p hp).1 (hdis p hp)⟩)) (fun fl s' hl => lv _ _ hl) fun _ _ y => y

theorem code_defCF (B : Below A₀ base outer h₀) (F : Fr h₀ L s.heap m) (X₀ : K.In h₀) (N : News h₀ L s.heap need) (Nr : News h₀ L s.heap rest) (hdis : ∀ p ∈ rest, p.1 ∉ need.map (·.1)) (T : Top p loose mean mg mb h₀) (hA : A.frames = some (env :: outer)) (hf : env.frame = some L) (hke : env.scope.kind = .function)
    (ho : K.lookup f = some ⟨oc, od, .func (fnOf name qual params body scope dV kV doc pm an cdv ct), osl⟩) (hcd : codeIn K cdv qual = true) (hroom : A.depth < recursionLimit)
    (hbind : BindsTo s (fnOf name qual params body scope dV kV doc pm an cdv ct) args binds) (hkind : (binds.all fun y => scope.names.lookup y.1 == some .local || scope.names.lookup y.1 == some .cell) = true)
    (hnd : ((cellsFrom 0 scope.names []).map (·.1)).Nodup)
    (h : ∀ g L' h₁ tk cells, Fr h₀ L g m → Fr g L' h₁ (bindL (envOfC qual scope L' f cdv).kindOf binds fun _ => none) → News g L' h₁ (cells ++ need) →
      CellsAre (bindC (envOfC qual scope L' f cdv).kindOf binds fun _ => none) (cellsFrom (L' + 1) scope.names []) cells → Below A base (env :: outer) g → K.In g → Top p loose mean mg mb g → (∀ p ∈ need, p.1 < L') → (∀ p ∈ rest, p.1 < L' ∧ g.get? p.1 = some p.2) →
      wpAny (model prog w) (A.deeper (envOfC qual scope L' f cdv)) (execs body (envOfC qual scope L' f cdv))
        (fun fl s' => LeaveK h₀ L m g (RestK h₀ L rest R) (match fl with | .ret v => v | _ => .none) s')
        (fun e s' => wpAny (model prog w) (A.deeper (envOfC qual scope L' f cdv)) (leaving (envOfC qual scope L' f cdv) e) (fun _ s'' => R (.error e) s'') (fun e' s'' => R (.error e') s'') s')
        { s with heap := h₁, toks := tk })
    (hco : scope.isCoroutine = false) (hgen : scope.isGenerator = false) (hk : scope.kind = .function) : codeAny (model prog w) A (.call (.ref f) args) R s := by
  obtain ⟨FG, BG, st, lv⟩ := groundF (R := R) B F N Nr hdis hA hf hke
  refine codeAny_call_function hroom ((X₀.keeps F.keep) _ _ ho) rfl hco hgen rfl (codeRec_of (X₀.keeps F.keep) hcd) (hbind _ _ _ _ ?_)
  refine wpAny_newFunctionEnv_cells hk (kindsX hkind _) fun env' he s' x => ?_
  subst he
  refine ⟨((Top.nolimit T).keeps F.keep).keeps x.toInCall.keep, codeAny_func ?_⟩
  obtain ⟨h₁, tk, rfl, _⟩ := x.done
  have hk₁ := x.toInCall.keep
  obtain ⟨cells, NC, Y⟩ := Cl.news (h₀ := s.heap) (Nat.le_refl _) fun n c hm => ⟨x.cell n c (lookup_of_mem_nodup (cellsFrom_names scope.names 0 (s.heap.objs.size + 1) [] [] rfl ▸ hnd) hm), x.above n c hm⟩
  refine wpAny_mono (h _ s.heap.objs.size h₁ tk cells FG ⟨x.toInCall.ns, fun b o e => hk₁ b o (of_hideAll _ e), Nat.le_of_eq (hideAll_size _ _)⟩ (fun p hp => ?_) Y BG (X₀.keeps st) (T.keeps st) (fun p hp => Heap.lt_size (N p hp).1) (fun p hp => ⟨Heap.lt_size (Nr p hp).1, hideAll_get _ (Nr p hp).1 (hdis p hp)⟩)) (fun fl s' hl => lv _ _ hl) fun _ _ y => y
  rcases List.mem_append.mp hp with hp | hp
  · refine ⟨(NC p hp).1, (NC p hp).2.1, ?_⟩
    cases q : (hideAll s.heap (need.map (·.1))).get? p.1 with
    | none => rfl
    | some o => have := of_hideAll _ q; rw [(NC p hp).2.2] at this; cases this
  · exact ⟨hk₁ _ _ (N p hp).1, Nat.ne_of_lt (Heap.lt_size (N p hp).1), hideAll_none _ (List.mem_map_of_mem hp)⟩
end

def restOf (need news : List (Addr × Obj)) : List (Addr × Obj) := news.filter fun p => !(need.map (·.1)).contains p.1
section
variable {h₀ h h' : Heap} {L a : Addr} {need pneed news rest : List (Addr × Obj)} {o o' : Obj} {g : Obj → List (Addr × Obj)}
theorem restOf_dis : ∀ p ∈ restOf need news, p.1 ∉ need.map (·.1) := fun p hp => by
  have := (List.mem_filter.mp hp).2
  simpa using this
theorem restOf_news (N : News h₀ L h news) : News h₀ L h (restOf need news) := fun p hp => N p (List.mem_filter.mp hp).1
theorem need_news (hn : ∀ q ∈ need, q ∈ news) (N : News h₀ L h news) : News h₀ L h need := fun p hp => N p (hn p hp)
theorem back_pure (N : News h₀ L h news) (hn : ∀ q ∈ need, q ∈ news) (N1 : News h₀ L h' need) (N2 : News h₀ L h' (restOf need news)) : News h₀ L h' news := fun p hp => by
  by_cases q : p.1 ∈ need.map (·.1)
  · obtain ⟨r, hr, e⟩ := List.mem_map.mp q
    have h1 := (N r (hn r hr)).1
    rw [e, (N p hp).1] at h1
    have e2 : r = p := Prod.ext e (Option.some.inj h1).symm
    exact e2 ▸ N1 r hr
  · exact N2 p (List.mem_filter.mpr ⟨hp, by simpa using q⟩)
theorem back_upd (N : News h₀ L h news) (U : UpdF a o news g) (hn : ∀ q ∈ pneed, q ∈ news ∧ q.1 ≠ a) (N1 : News h₀ L h' ((a, o') :: pneed)) (N2 : News h₀ L h' (restOf ((a, o) :: pneed) news)) : News h₀ L h' (g o') := by
  obtain ⟨pre, post, rfl, hg, o1, o2⟩ := U.split
  rw [hg]
  have other : ∀ p ∈ pre ++ post, News h₀ L h' [p] := fun p hp => by
    have hpa : p.1 ≠ a := by rcases List.mem_append.mp hp with hp | hp; exact o1 p hp; exact o2 p hp
    have hpm : p ∈ pre ++ (a, o) :: post := by
      rcases List.mem_append.mp hp with hp | hp
      · exact List.mem_append_left _ hp
      · exact List.mem_append_right _ (List.mem_cons_of_mem _ hp)
    intro x hx
    rw [List.mem_singleton.mp hx]
    by_cases q : p.1 ∈ pneed.map (·.1)
    · obtain ⟨r, hr, e⟩ := List.mem_map.mp q
      have h1 := (N r (hn r hr).1).1
      rw [e, (N p hpm).1] at h1
      have e2 : r = p := Prod.ext e (Option.some.inj h1).symm
      exact e2 ▸ N1 r (List.mem_cons_of_mem _ hr)
    · exact N2 p (List.mem_filter.mpr ⟨hpm, by simp only [List.map_cons, List.contains_cons, Bool.not_eq_true', Bool.or_eq_false_iff]; exact ⟨by simpa using hpa, by simpa using q⟩⟩)
  intro p hp
  rcases List.mem_append.mp hp with hp | hp
  · exact other p (List.mem_append_left _ hp) p List.mem_cons_self
  · rcases List.mem_cons.mp hp with rfl | hp
    · exact N1 _ List.mem_cons_self
    · exact other p (List.mem_append_right _ hp) p List.mem_cons_self
theorem news_app (N1 : News h₀ L h need) (N2 : News h₀ L h rest) : News h₀ L h (need ++ rest) := fun p hp => by
  rcases List.mem_append.mp hp with hp | hp
  · exact N1 p hp
  · exact N2 p hp
end
end
section
set_option Elab.async false
set_option maxRecDepth 100000
set_option maxHeartbeats 800000
def PureM (w : World) (d : Nat) (f : Addr) (need : List (Addr × Obj)) (vs : List Value) (P : Value → Prop) : Prop :=
  ∀ (p : Program) (loose : List Str) (mean : ExcName → Option Value) (mg mb : Str → Option Value)
    (dp un : Nat) (gd : Option (List Code)) (cn : Str) (cs : Scope) (a : Addr) (ccd : Value) (cl : List (Str × Addr)) (outer : List Env) (A₀ : Around) (base h₀ : Heap) (L : Addr) (m : Str → Option Value) (news : List (Addr × Obj)) (s : Shared) (Q E : Value → Shared → Prop),
    Below A₀ base outer h₀ → Fr h₀ L s.heap m → (hd.heap_1 w.params).In h₀ → News h₀ L s.heap news → Top p loose mean mg mb h₀ → cs.kind = .function →
    dp + d < recursionLimit → un + 8 * d < cLine → (∀ q ∈ need, q ∈ news) →
    (∀ v h' tk', Fr h₀ L h' m → News h₀ L h' news → P v → Q v { s with heap := h', toks := tk' }) →
    wpAny (model PR w) (ktrTop dp un gd cn cs L a ccd cl outer) (call (.ref f) vs) Q E s
def PureM9 (w : World) (d : Nat) (f : Addr) (need : List (Addr × Obj)) (vs : List Value) (P : Value → Prop) (p : Program) (loose : List Str) (mean : ExcName → Option Value) (mg : Str → Option Value) (mb : Str → Option Value) (dp : Nat) (un : Nat) (gd : Option (List Code)) (cn : Str) (cs : Scope) (a : Addr) (ccd : Value) (cl : List (Str × Addr)) (outer : List Env) (A₀ : Around) (base : Heap) (h₀ : Heap) (L : Addr) (m : Str → Option Value) (news : List (Addr × Obj)) (s : Shared) (Q : Value → Shared → Prop) (E : Value → Shared → Prop) : Prop :=
    Below A₀ base outer h₀ → Fr h₀ L s.heap m → (hd.heap_1 w.params).In h₀ → News h₀ L s.heap news → Top p loose mean mg mb h₀ → cs.kind = .function →
    dp + d < recursionLimit → un + 8 * d < cLine → (∀ q ∈ need, q ∈ news) →
    (∀ v h' tk', Fr h₀ L h' m → News h₀ L h' news → P v → Q v { s with heap := h', toks := tk' }) →
    wpAny (model PR w) (ktrTop dp un gd cn cs L a ccd cl outer) (call (.ref f) vs) Q E s
theorem PureM_of (w : World) (d : Nat) (f : Addr) (need : List (Addr × Obj)) (vs : List Value) (P : Value → Prop) (h : ∀  (v : KV), v.to (PureM9 w d f need vs P)) : PureM w d f need vs P := fun p loose mean mg mb dp un gd cn cs a ccd cl outer A₀ base h₀ L m news s Q E => h  ⟨p, loose, mean, mg, mb, dp, un, gd, cn, cs, a, ccd, cl, outer, A₀, base, h₀, L, m, news, s, Q, E⟩


variable {w : World} {d : Nat} {f : Addr} {need : List (Addr × Obj)} {vs : List Value} {loose : List Str} {mean : ExcName → Option Value} {mg mb : Str → Option Value} {dp un : Nat} {gd : Option (List Code)} {cn : Str} {cs : Scope} {a : Addr} {ccd : Value} {cl : List (Str × Addr)} {outer : List Env} {A₀ : Around} {base h₀ : Heap} {L : Addr} {m : Str → Option Value} {news : List (Addr × Obj)} {s : Shared} {Q E : Value → Shared → Prop} {x : Addr} {o : Obj} {g : Obj → List (Addr × Obj)}
theorem PureM.use {P : Value → Prop} {p : Program} 
    
    (C : PureM w d f need vs P) (B : Below A₀ base outer h₀) (F : Fr h₀ L s.heap m) (X : (hd.heap_1 w.params).In h₀) (N : News h₀ L s.heap news) (T : Top p loose mean mg mb h₀) (hk : cs.kind = .function)
    (h1 : dp + d < recursionLimit) (h2 : un + 8 * d < cLine) (hn : ∀ q ∈ need, q ∈ news)
    (ret : ∀ v h' tk', Fr h₀ L h' m → News h₀ L h' news → P v → Q v { s with heap := h', toks := tk' }) :
    wpAny (model PR w) (ktrTop dp un gd cn cs L a ccd cl outer) (call (.ref f) vs) Q E s :=
  C _ _ _ _ _ _ _ _ _ _ _ _ _ _ _ _ _ _ _ _ _ _ _ B F X N T hk h1 h2 hn ret

def UpdM (w : World) (d : Nat) (f : Addr) (x : Addr) (o : Obj) (need : List (Addr × Obj)) (vs : List Value) (P : Value → Obj → Prop) : Prop :=
  ∀ (p : Program) (loose : List Str) (mean : ExcName → Option Value) (mg mb : Str → Option Value)
    (dp un : Nat) (gd : Option (List Code)) (cn : Str) (cs : Scope) (a : Addr) (ccd : Value) (cl : List (Str × Addr)) (outer : List Env) (A₀ : Around) (base h₀ : Heap) (L : Addr) (m : Str → Option Value) (news : List (Addr × Obj)) (g : Obj → List (Addr × Obj)) (s : Shared) (Q E : Value → Shared → Prop),
    Below A₀ base outer h₀ → Fr h₀ L s.heap m → (hd.heap_1 w.params).In h₀ → News h₀ L s.heap news → Top p loose mean mg mb h₀ → cs.kind = .function →
    dp + d < recursionLimit → un + 8 * d < cLine → UpdF x o news g → (∀ q ∈ need, q ∈ news ∧ q.1 ≠ x) →
    (∀ v o' h' tk', Fr h₀ L h' m → News h₀ L h' (g o') → P v o' → Q v { s with heap := h', toks := tk' }) →
    wpAny (model PR w) (ktrTop dp un gd cn cs L a ccd cl outer) (call (.ref f) vs) Q E s
def UpdM9 (w : World) (d : Nat) (f : Addr) (x : Addr) (o : Obj) (need : List (Addr × Obj)) (vs : List Value) (P : Value → Obj → Prop) (g : Obj → List (Addr × Obj)) (p : Program) (loose : List Str) (mean : ExcName → Option Value) (mg : Str → Option Value) (mb : Str → Option Value) (dp : Nat) (un : Nat) (gd : Option (List Code)) (cn : Str) (cs : Scope) (a : Addr) (ccd : Value) (cl : List (Str × Addr)) (outer : List Env) (A₀ : Around) (base : Heap) (h₀ : Heap) (L : Addr) (m : Str → Option Value) (news : List (Addr × Obj)) (s : Shared) (Q : Value → Shared → Prop) (E : Value → Shared → Prop) : Prop :=
    Below A₀ base outer h₀ → Fr h₀ L s.heap m → (hd.heap_1 w.params).In h₀ → News h₀ L s.heap news → Top p loose mean mg mb h₀ → cs.kind = .function →
    dp + d < recursionLimit → un + 8 * d < cLine → UpdF x o news g → (∀ q ∈ need, q ∈ news ∧ q.1 ≠ x) →
    (∀ v o' h' tk', Fr h₀ L h' m → News h₀ L h' (g o') → P v o' → Q v { s with heap := h', toks := tk' }) →
    wpAny (model PR w) (ktrTop dp un gd cn cs L a ccd cl outer) (call (.ref f) vs) Q E s
theorem UpdM_of (w : World) (d : Nat) (f : Addr) (x : Addr) (o : Obj) (need : List (Addr × Obj)) (vs : List Value) (P : Value → Obj → Prop) (h : ∀ (g : Obj → List (Addr × Obj)) (v : KV), v.to (UpdM9 w d f x o need vs P g)) : UpdM w d f x o need vs P := fun p loose mean mg mb dp un gd cn cs a ccd cl outer A₀ base h₀ L m news g s Q E => h g ⟨p, loose, mean, mg, mb, dp, un, gd, cn, cs, a, ccd, cl, outer, A₀, base, h₀, L, m, news, s, Q, E⟩


theorem UpdM.use {P : Value → Obj → Prop} {p : Program} 
    
    (C : UpdM w d f x o need vs P) (B : Below A₀ base outer h₀) (F : Fr h₀ L s.heap m) (X : (hd.heap_1 w.params).In h₀) (N : News h₀ L s.heap news) (T : Top p loose mean mg mb h₀) (hk : cs.kind = .function)
    (h1 : dp + d < recursionLimit) (h2 : un + 8 * d < cLine) (U : UpdF x o news g) (hn : ∀ q ∈ need, q ∈ news ∧ q.1 ≠ x)
    (ret : ∀ v o' h' tk', Fr h₀ L h' m → News h₀ L h' (g o') → P v o' → Q v { s with heap := h', toks := tk' }) :
    wpAny (model PR w) (ktrTop dp un gd cn cs L a ccd cl outer) (call (.ref f) vs) Q E s :=
  C _ _ _ _ _ _ _ _ _ _ _ _ _ _ _ _ _ _ _ _ _ _ _ _ B F X N T hk h1 h2 U hn ret
theorem upd_need (U : UpdF x o news g) (hn : ∀ q ∈ need, q ∈ news ∧ q.1 ≠ x) : ∀ q ∈ (x, o) :: need, q ∈ news := fun q hq => by
  rcases List.mem_cons.mp hq with rfl | hq
  · obtain ⟨pre, post, rfl, _⟩ := U.split
    exact List.mem_append_right _ List.mem_cons_self
  · exact (hn q hq).1
theorem upd_ne (_U : UpdF x o news g) (hn : ∀ q ∈ need, q ∈ news ∧ q.1 ≠ x) : ∀ q ∈ need, q.1 ≠ x := fun q hq => (hn q hq).2
theorem news_cons9 {h : Heap} {q : Addr × Obj} {l : List (Addr × Obj)} (N : News h₀ L h (q :: l)) (N2 : News h₀ L h news) : News h₀ L h (q :: news) := fun p hp => by
  rcases List.mem_cons.mp hp with rfl | hp
  · exact N _ List.mem_cons_self
  · exact N2 p hp
theorem need2_nil : ∀ q ∈ ([] : List (Addr × Obj)), q ∈ news ∧ q.1 ≠ x := fun _ h => nomatch h
theorem need2_cons {p : Addr × Obj} (h : p ∈ news) (ne : p.1 ≠ x) (r : ∀ q ∈ need, q ∈ news ∧ q.1 ≠ x) : ∀ q ∈ p :: need, q ∈ news ∧ q.1 ≠ x := fun q hq => by
  rcases List.mem_cons.mp hq with rfl | hq
  · exact ⟨h, ne⟩
  · exact r q hq
end
section
set_option Elab.async false
set_option maxRecDepth 100000
set_option maxHeartbeats 1600000
open PyProof.Rows.LCg (lst NsObj Off1 Off3 CompEnd CompRest FinE FinA block_U)
open PyProof.Rows.LCt (CompRestT block_T)
def TupAt (h₀ : Heap) (ax : Addr) (its : Array Value) (news : List (Addr × Obj)) : Prop := h₀.IsTuple ax its ∨ ∃ o, (ax, o) ∈ news ∧ o.cls = .type "tuple" ∧ ∃ n, o.data = .seq its n
theorem TupAt.tup {h₀ h : Heap} {L ax : Addr} {its : Array Value} {news : List (Addr × Obj)} (x : TupAt h₀ ax its news) (k : ∀ b o, h₀.get? b = some o → h.get? b = some o) (N : News h₀ L h news) : h.IsTuple ax its := by
  rcases x with ⟨o, e, hc, n, hd⟩ | ⟨o, hm, hc, n, hd⟩
  · exact ⟨o, k _ _ e, hc, n, hd⟩
  · exact ⟨o, (N _ hm).1, hc, n, hd⟩
theorem tup_st {h₀ : Heap} {L ax I : Addr} {its : Array Value} : ∀ i (h h' : Heap) (o : Obj) (nw : List (Addr × Obj)), (h.IsTupleIter I ax i ∧ h.IsTuple ax its) → h.get? I = some o → h'.get? I = some o → (∀ b o, h₀.get? b = some o → h'.get? b = some o) → News h₀ L h' nw → TupAt h₀ ax its nw →
    (h'.IsTupleIter I ax i ∧ h'.IsTuple ax its) := fun i h h' o nw st e e' k N x => by
  obtain ⟨⟨o₁, e₁, r⟩, _⟩ := st
  rw [e] at e₁
  cases e₁
  exact ⟨⟨o, e', r⟩, x.tup k N⟩
def TupSrc (A : Around) (h₀ : Heap) (L : Addr) (m : Str → Option Value) (R : Shared → Addr → Array Value → List (Addr × Obj) → Prop) (xv : Value) (s₁ : Shared) : Prop :=
  ∃ ax its news, xv = .ref ax ∧ A.handled = none ∧ Fr h₀ L s₁.heap m ∧ News h₀ L s₁.heap news ∧ TupAt h₀ ax its news ∧ its.size ≤ sizeLine ∧ ∀ s₂ : Shared, (∃ h, s₂ = { s₁ with heap := h }) → R s₂ ax its news
theorem TupSrc.intro {A : Around} {h₀ : Heap} {L : Addr} {m : Str → Option Value} {R : Shared → Addr → Array Value → List (Addr × Obj) → Prop} {ax : Addr} {its : Array Value} {k : Nat} {news : List (Addr × Obj)} {s₁ : Shared} (hh : A.handled = none) (F : Fr h₀ L s₁.heap m) (N : News h₀ L s₁.heap news)
    (hm : (ax, ({ cls := .type "tuple", data := .seq its k } : Obj)) ∈ news) (hz : its.size ≤ sizeLine) (h : ∀ g, R { s₁ with heap := g } ax its news) : TupSrc A h₀ L m R (.ref ax) s₁ :=
  ⟨ax, its, news, rfl, hh, F, N, .inr ⟨_, hm, rfl, k, rfl⟩, hz, fun _ ⟨g, e⟩ => e ▸ h g⟩
def RestTT (prog : Program) (w : World) (A : Around) (h₀ : Heap) (L : Addr) (m : Str → Option Value) (env : Env) (ct elt : Expr) (x : Str) (scope : Scope) (cl : List (Str × Addr)) (Fin : Shared → List Value → List (Addr × Obj) → Prop) (s₂ : Shared) (ax : Addr) (its : Array Value) (news : List (Addr × Obj)) : Prop :=
  CompRestT prog w A h₀ L m env ct elt x scope cl s₂ (TupAt h₀ ax its) (fun i v => its[i]? = some v) (Fin s₂) its.size 0 [] news
def RestUT (prog : Program) (w : World) (A : Around) (h₀ : Heap) (L : Addr) (m : Str → Option Value) (env : Env) (elt : Expr) (x : Str) (scope : Scope) (cl : List (Str × Addr)) (Fin : Shared → List Value → List (Addr × Obj) → Prop) (s₂ : Shared) (ax : Addr) (its : Array Value) (news : List (Addr × Obj)) : Prop :=
  CompRest prog w A h₀ L m env elt x scope cl s₂ (TupAt h₀ ax its) (fun i v => its[i]? = some v) (Fin s₂) its.size 0 [] news
section
variable {prog : Program} {w : World} {A : Around} {E : Value → Shared → Prop} {s : Shared} {h₀ : Heap} {L : Addr} {m : Str → Option Value} {env : Env}
theorem tup_iter {R : Shared → Addr → Array Value → List (Addr × Obj) → Prop} {Q : Value → Shared → Prop} {xv : Value} {s₁ : Shared} (h : TupSrc A h₀ L m R xv s₁)
    (hq : ∀ (I ax : Addr) (its : Array Value) (news : List (Addr × Obj)) (s₂ : Shared), (∃ g, s₂ = { s₁ with heap := g }) → Walks prog w A I [I, ax] [I] its.size (fun i v => its[i]? = some v) (fun i h => h.IsTupleIter I ax i ∧ h.IsTuple ax its) → its.size ≤ sizeLine →
      (s₂.heap.IsTupleIter I ax 0 ∧ s₂.heap.IsTuple ax its) → (∀ b ∈ [I, ax], b < s₂.heap.objs.size) → Fr h₀ L s₂.heap m → News h₀ L s₂.heap news → L ≠ I → h₀.get? I = none → (∀ p ∈ news, p.1 ≠ I) → TupAt h₀ ax its news → R s₂ ax its news → Q (.ref I) s₂) :
    wpAny (model prog w) A (pyIter xv) Q E s₁ := by
  obtain ⟨ax, its, news, rfl, hh, F, N, S, hsz, r⟩ := h
  have hl := S.tup F.keep N
  have hlt : ax < s₁.heap.objs.size := by obtain ⟨_, e, _⟩ := hl; exact Heap.lt_size e
  refine wpAny_pyIter_tuple hl ?_
  have up : ∀ b o, s₁.heap.get? b = some o → (s₁.heap.push { cls := .type "tuple_iterator", data := .fields #[.ref ax, .int 0 0] }).get? b = some o := fun b o e => Heap.get?_push_of_some _ e
  refine hq s₁.heap.objs.size ax its news _ ⟨_, rfl⟩ (Walks.tuple hh _ ax (Nat.ne_of_lt hlt) its) hsz ⟨⟨_, Heap.get?_push_size _ rfl, rfl, rfl⟩, hl.push _⟩ (fun b hb => ?_) (F.keeps up) (N.grown up) (Nat.ne_of_lt F.ns.lt) (next_is_new F) (fun p hp => Nat.ne_of_lt (Heap.lt_size (N p hp).1)) S (r _ ⟨_, rfl⟩)
  show b < (s₁.heap.push _).objs.size
  rw [Heap.size_push]
  rcases List.mem_cons.mp hb with rfl | hb
  · exact Nat.lt_succ_self _
  · rw [List.mem_singleton.mp hb]; exact Nat.lt_succ_of_lt hlt
theorem back_off {D C : Addr} {h h'' : Heap} {ys : List Value} {news' : List (Addr × Obj)} (N' : News h₀ L h ((D, lst ys) :: news')) (hs : Heap.SameBut C h h'') (hCD : C ≠ D) (offC : ∀ p ∈ news', p.1 ≠ C) : News h₀ L h'' ((D, lst ys) :: news') := fun p hp => by
  refine ⟨hs.extBut _ _ ?_ (N' p hp).1, (N' p hp).2⟩
  rcases List.mem_cons.mp hp with rfl | hp
  · exact Ne.symm hCD
  · exact offC p hp
theorem ListComp_TT {ct elt iter : Expr} {x : Str} {px : Pos} {scope : Scope} {cl : List (Str × Addr)} {pos : Pos} {Q : Value → Shared → Prop} (_F₀ : Fr h₀ L s.heap m)
    (hclos : closureFor scope env = pure cl) (hcell : ∀ y ∈ scope.names, y.2 ≠ .cell) (hkind : scope.kind = .function) (hnames : ∀ y ∈ scope.names, y.2 = .local → scope.names.lookup y.1 = some .local) (hx : scope.names.lookup x = some .local)
    (h : wpAny (model prog w) A (eval iter env) (TupSrc A h₀ L m (RestTT prog w A h₀ L m env ct elt x scope cl (fun s₂ => FinE h₀ L m s₂ Q))) E s) (hs : ∀ x, foldedSetIterable iter env x = pure x := by intro _; rfl) :
    wpAny (model prog w) A (eval (.ListComp elt [⟨.Name x px, iter, [ct], 0⟩] scope pos) env) Q E s := by
  rw [eval_ListComp]
  refine wpAny_comprehension_free (use := none) rfl hs hclos hkind hnames (wpAny_mono h (fun xv s₁ h₁ => tup_iter h₁ fun I ax its news s₂ _ W hsz st hfp F N hIL hI off S R => ?_) fun _ _ e => e)
  refine block_T W hsz (fun i h st => by obtain ⟨o, e, _⟩ := st.1; exact ⟨o, e⟩) tup_st hcell hkind hx st hfp F N hIL hI off S R ?_
  intro D C h tk m' ys news' F' N' o1 hn hC₀ hD₀ hCL hDL hCD offC fin
  exact ⟨m', hn, fun h'' hs'' => fin D h'' tk (F'.change hs'' hCL hC₀) (back_off N' hs'' hCD offC) o1⟩
theorem ListComp_UT {elt iter : Expr} {x : Str} {px : Pos} {scope : Scope} {cl : List (Str × Addr)} {pos : Pos} {Q : Value → Shared → Prop} (_F₀ : Fr h₀ L s.heap m)
    (hclos : closureFor scope env = pure cl) (hcell : ∀ y ∈ scope.names, y.2 ≠ .cell) (hkind : scope.kind = .function) (hnames : ∀ y ∈ scope.names, y.2 = .local → scope.names.lookup y.1 = some .local) (hx : scope.names.lookup x = some .local)
    (h : wpAny (model prog w) A (eval iter env) (TupSrc A h₀ L m (RestUT prog w A h₀ L m env elt x scope cl (fun s₂ => FinE h₀ L m s₂ Q))) E s) (hs : ∀ x, foldedSetIterable iter env x = pure x := by intro _; rfl) :
    wpAny (model prog w) A (eval (.ListComp elt [⟨.Name x px, iter, [], 0⟩] scope pos) env) Q E s := by
  rw [eval_ListComp]
  refine wpAny_comprehension_free (use := none) rfl hs hclos hkind hnames (wpAny_mono h (fun xv s₁ h₁ => tup_iter h₁ fun I ax its news s₂ _ W hsz st hfp F N hIL hI off S R => ?_) fun _ _ e => e)
  refine block_U W hsz (fun i h st => by obtain ⟨o, e, _⟩ := st.1; exact ⟨o, e⟩) tup_st hcell hkind hx st hfp F N hIL hI off S R ?_
  intro D C h tk m' ys news' F' N' o1 hn hC₀ hD₀ hCL hDL hCD offC fin
  exact ⟨m', hn, fun h'' hs'' => fin D h'' tk (F'.change hs'' hCL hC₀) (back_off N' hs'' hCD offC) o1⟩
theorem fin_assign {y : Str} {py : Pos} {s₂ : Shared} {D C : Addr} {h : Heap} {tk : Nat} {m' : Str → Option Value} {ys : List Value} {news' : List (Addr × Obj)} {Q : Flow → Shared → Prop} (hLe : env.locals = L) (hy : env.kindOf y = some .local)
    (hp : (env.scope.kind == .class || (env.scope.kind == .module && env.locals != env.globals)) = false)
    (F' : Fr h₀ L h m) (N' : News h₀ L h ((D, lst ys) :: news')) (o1 : Off1 D news') (hn : h.Ns C m') (hC₀ : h₀.get? C = none) (hCL : C ≠ L) (hCD : C ≠ D) (offC : ∀ p ∈ news', p.1 ≠ C) (fin : FinA h₀ L m s₂ y Q ys news') :
    wpAny (model prog w) A (assign (.Name y py) env (.ref D)) (fun _ s' => ∃ m, s'.heap.Ns C m ∧ ∀ h', Heap.SameBut C s'.heap h' → Q .next { s' with heap := h' }) E { s₂ with heap := h, toks := tk } := by
  subst hLe
  refine wpAny_assign_Name (wpAny_storeName_local hy F'.ns (fun h₂ hn₂ hs₂ => ?_) hp)
  have hL₀ : h₀.get? env.locals = none := Heap.get?_none_of_le F'.above
  have F₂ : Fr h₀ env.locals h₂ (fun z => if z = y then some (.ref D) else m z) := ⟨hn₂, fun b o e => hs₂.extBut b o (fun q => by rw [q, hL₀] at e; cases e) (F'.keep b o e), F'.above⟩
  refine ⟨m', hn.sameBut hs₂ hCL, fun h'' hs'' => fin D h'' _ (F₂.change hs'' hCL hC₀) (back_off (fun p hp => ?_) hs'' hCD offC) o1⟩
  exact ⟨hs₂.extBut _ _ (N' p hp).2.1 (N' p hp).1, (N' p hp).2⟩
theorem Assign_TT {ct elt iter : Expr} {x y : Str} {px py : Pos} {scope : Scope} {cl : List (Str × Addr)} {pos spos : Pos} {Q : Flow → Shared → Prop} (_F₀ : Fr h₀ L s.heap m) (hLe : env.locals = L)
    (hsw : swapsWith (.ListComp elt [⟨.Name x px, iter, [ct], 0⟩] scope pos) (some (.Name y py)) spos.line env = pure true)
    (hclos : closureFor scope env = pure cl) (hcell : ∀ z ∈ scope.names, z.2 ≠ .cell) (hkind : scope.kind = .function) (hnames : ∀ z ∈ scope.names, z.2 = .local → scope.names.lookup z.1 = some .local) (hx : scope.names.lookup x = some .local)
    (hy : env.kindOf y = some .local) (hp : (env.scope.kind == .class || (env.scope.kind == .module && env.locals != env.globals)) = false)
    (h : wpAny (model prog w) A (eval iter env) (TupSrc A h₀ L m (RestTT prog w A h₀ L m env ct elt x scope cl (fun s₂ => FinA h₀ L m s₂ y Q))) E s) (hs : ∀ x, foldedSetIterable iter env x = pure x := by intro _; rfl) :
    wpAny (model prog w) A (exec (.Assign [.Name y py] (.ListComp elt [⟨.Name x px, iter, [ct], 0⟩] scope pos) spos) env) Q E s := by
  rw [exec_Assign_Name_used _ _ _ _ hsw]
  refine wpAny_bind (wpAny_standAt (wpAny_bind ?_))
  show wpAny _ A (do let _ ← comprehension (.ListComp elt [⟨.Name x px, iter, [ct], 0⟩] scope pos) scope env _ (newList []) false (eval iter env) (some (assign (.Name y py) env))) _ _ s
  refine wpAny_bind (wpAny_mono (wpAny_comprehension_free (use := some (assign (.Name y py) env)) (Q := fun _ s' => Q .next s') rfl hs hclos hkind hnames
    (wpAny_mono h (fun xv s₁ h₁ => tup_iter h₁ fun I ax its news s₂ _ W hsz st hfp F N hIL hI off S R => ?_) fun _ _ e => e)) (fun _ s' hq => wpAny_pure (wpAny_pure hq)) fun _ _ e => e)
  refine block_T W hsz (fun i h st => by obtain ⟨o, e, _⟩ := st.1; exact ⟨o, e⟩) tup_st hcell hkind hx st hfp F N hIL hI off S R ?_
  intro D C h tk m' ys news' F' N' o1 hn hC₀ hD₀ hCL hDL hCD offC fin
  exact fin_assign hLe hy hp F' N' o1 hn hC₀ hCL hCD offC fin
theorem Assign_UT {elt iter : Expr} {x y : Str} {px py : Pos} {scope : Scope} {cl : List (Str × Addr)} {pos spos : Pos} {Q : Flow → Shared → Prop} (_F₀ : Fr h₀ L s.heap m) (hLe : env.locals = L)
    (hsw : swapsWith (.ListComp elt [⟨.Name x px, iter, [], 0⟩] scope pos) (some (.Name y py)) spos.line env = pure true)
    (hclos : closureFor scope env = pure cl) (hcell : ∀ z ∈ scope.names, z.2 ≠ .cell) (hkind : scope.kind = .function) (hnames : ∀ z ∈ scope.names, z.2 = .local → scope.names.lookup z.1 = some .local) (hx : scope.names.lookup x = some .local)
    (hy : env.kindOf y = some .local) (hp : (env.scope.kind == .class || (env.scope.kind == .module && env.locals != env.globals)) = false)
    (h : wpAny (model prog w) A (eval iter env) (TupSrc A h₀ L m (RestUT prog w A h₀ L m env elt x scope cl (fun s₂ => FinA h₀ L m s₂ y Q))) E s) (hs : ∀ x, foldedSetIterable iter env x = pure x := by intro _; rfl) :
    wpAny (model prog w) A (exec (.Assign [.Name y py] (.ListComp elt [⟨.Name x px, iter, [], 0⟩] scope pos) spos) env) Q E s := by
  rw [exec_Assign_Name_used _ _ _ _ hsw]
  refine wpAny_bind (wpAny_standAt (wpAny_bind ?_))
  show wpAny _ A (do let _ ← comprehension (.ListComp elt [⟨.Name x px, iter, [], 0⟩] scope pos) scope env _ (newList []) false (eval iter env) (some (assign (.Name y py) env))) _ _ s
  refine wpAny_bind (wpAny_mono (wpAny_comprehension_free (use := some (assign (.Name y py) env)) (Q := fun _ s' => Q .next s') rfl hs hclos hkind hnames
    (wpAny_mono h (fun xv s₁ h₁ => tup_iter h₁ fun I ax its news s₂ _ W hsz st hfp F N hIL hI off S R => ?_) fun _ _ e => e)) (fun _ s' hq => wpAny_pure (wpAny_pure hq)) fun _ _ e => e)
  refine block_U W hsz (fun i h st => by obtain ⟨o, e, _⟩ := st.1; exact ⟨o, e⟩) tup_st hcell hkind hx st hfp F N hIL hI off S R ?_
  intro D C h tk m' ys news' F' N' o1 hn hC₀ hD₀ hCL hDL hCD offC fin
  exact fin_assign hLe hy hp F' N' o1 hn hC₀ hCL hCD offC fin
end
end
section
set_option Elab.async false
set_option maxRecDepth 100000
set_option maxHeartbeats 4000000
theorem I1_rows0 : True := by
  k_with_none
  trivial
theorem I1_rows1 : True := by
  (k_with "k_room" => (ktr_room))
  trivial
theorem sub_nil {all : List (Addr × Obj)} : ∀ p ∈ ([] : List (Addr × Obj)), p ∈ all := fun _ h => nomatch h
theorem sub_cons {news all : List (Addr × Obj)} {q : Addr × Obj} (h1 : q ∈ all) (h : ∀ p ∈ news, p ∈ all) : ∀ p ∈ q :: news, p ∈ all := fun p hp => by
  rcases List.mem_cons.mp hp with rfl | hp
  · exact h1
  · exact h p hp
def waitOf (own peer probe : Int) : Option Int :=
  if 0 < own then (if 0 < peer then some (max (min own peer) (3 * probe)) else some (max own (3 * probe)))
  else if 0 < peer then some (max peer (3 * probe)) else none
def optV (o : Option Int) (t : Tok) : Value := match o with
  | none => .none
  | some k => .int k t
def IsOpt (o : Option Int) (v : Value) : Prop := ∃ t, v = optV o t
theorem isOpt_some {o : Option Int} {x : Int} {t : Tok} (h : o = some x) : IsOpt o (.int x t) := ⟨t, by rw [h]; rfl⟩
theorem isOpt_none {o : Option Int} (h : o = none) : IsOpt o .none := ⟨0, by rw [h]; rfl⟩
theorem I1_rows2 : True := by
  (k_with "exec Assign cons ListComp" => (k_here; k_dflt (refine Assign_TT (by k_asm) (by rfl) (by with_unfolding_all rfl) (by with_unfolding_all rfl) (by decide) (by rfl) (by decide) (by rfl) (by rfl) (by rfl) ?_)))
  (k_with "TupSrc" => (k_here; k_dflt (refine TupSrc.intro (by rfl) (by k_asm) (by k_asm) (by k_mem) (by first | size_fits | exact Nat.le_of_ble_eq_true rfl) ?_); intro gw'; first | (unfold RestTT; lct_lit) | (unfold RestUT; lcg_lit)))
  trivial
def idle_wait_c_B (w : World) (own peer probe : Int) (t1 t2 t3 : Tok) : Prop := (0 ≤ own) → (own < 1000000000) → (0 ≤ peer) → (peer < 1000000000) → (0 ≤ probe) → (probe < 1000000000) → RW = RW → PureM w 4 26 [] [.int own t1, .int peer t2, .int probe t3] (IsOpt (waitOf own peer probe))
theorem idle_wait_c : ∀ w own peer probe t1 t2 t3, idle_wait_c_B w own peer probe t1 t2 t3 := by
  refine ubx ?_
  simp (disch := k_dflt (
    refine tyP ?_
    refine' (?g9 : ∀ q : (∀ w own peer probe t1 t2 t3, idle_wait_c_B w own peer probe t1 t2 t3), Keep q → (∀ w own peer probe t1 t2 t3, idle_wait_c_B w own peer probe t1 t2 t3)) _ ?w9
    case g9 => exact fun q _ => q
    case w9 =>
      refine' kp9 ?h9 fun k9 => ?j9
      case h9 =>
        (repeat walk_at "CL9")
        rename_i w own peer probe t1 t2 t3
        unfold idle_wait_c_B
        intro o0 o1 p0 p1 q0 q1 _
        refine PureM_of _ _ _ _ _ _ ?_
        (repeat walk_at "CL9")
        rename_i  vk
        unfold KV.to PureM9
        w_on
        w_top on
        intro B F X N T hk hd hu hneed hret
        refine wpAny_call ?_
        k_dflt (refine' code_defF ?k1 ?k2 ?k3 (need_news hneed N) (restOf_news N) restOf_dis ?k5 ?kA ?kF ?kK ?k6 ?k7 ?k8 ?k9 ?kB ?_ ?c2 ?c3 ?c4 ?c5; (case kA => exact rfl); (case kF => exact rfl); (case kK => first | assumption | exact rfl); (case k1 => k_asm); (case k2 => k_asm); (case k3 => k_asm); (case k5 => k_asm); (case k6 => k_is); (case k7 => k_is); (case k8 => ktr_room); (case k9 => first | exact BindsTo.of_eq rfl | exact binds_K (by k_in) rfl (by k_is) rfl rfl rfl); (case c5 => decide); (case kB => exact locs (Eq.refl true)); (case c2 => exact rfl); (case c3 => exact rfl); (case c4 => exact rfl); k_whole; intro g' L' h' tk' FG' F' N' B' X' T' l1 lr; (try clear lr); (try dsimp only); (try k_lt l1); (try k_fold))
        w_strict (k_steps; (all_goals ((rename News _ _ _ (restOf _ _) => Nr9); (first | (rename News _ _ _ (_ :: _) => Nk9) | (rename News _ _ _ (_ ++ _) => Nk9) | (have Nk9 := @News.nil)); exact hret _ _ _ (by k_asm) (back_pure N hneed (news_sub Nk9 (by (repeat (first | exact sub_self | exact sub_left | exact sub_nil | (refine sub_cons (by k_mem) ?_) | refine sub_tail ?_)))) Nr9) (by first | (refine isOpt_some ?_; ((unfold waitOf); (repeat' split) <;> first | (exfalso; omega) | rfl | (refine congrArg some ?_; omega))) | (refine isOpt_none ?_; ((unfold waitOf); (repeat' split) <;> first | (exfalso; omega) | rfl | (refine congrArg some ?_; omega)))))))
      case j9 => revert k9; (try delta id ap_mk hd_in hd_out); intro k9; (try conv at k9 => zeta); exact k9)) only [↓bxT]
end
section
set_option Elab.async false
set_option maxRecDepth 100000
set_option maxHeartbeats 4000000
theorem I2_rows0 : True := by
  k_with_none
  trivial
theorem I2_rows1 : True := by
  (k_with "k_room" => (ktr_room))
  trivial
def endOf (since wait : Option Int) : Option Int := match since, wait with
  | some s, some w => some (s + w)
  | _, _ => none
theorem endOf_none {o : Option Int} : endOf none o = none := by cases o <;> rfl
theorem endOf_none2 {o : Option Int} : endOf o none = none := by cases o <;> rfl
theorem endOf_eq {sv wo q : Option Int} (h : wo = q) : endOf sv wo = endOf sv q := by rw [h]
def overAt (e : Option Int) (now : Int) : Bool := match e with
  | none => false
  | some e => decide (e ≤ now)
def pingAt (e : Option Int) (asked : Bool) (now reserve : Int) : Bool := match e with
  | none => false
  | some e => !asked && decide (e ≤ now + reserve)
theorem I2_rows2 : True := by
  (k_with "call ref" => (first | ((try dsimp only [List.cons_append, List.nil_append]); (with_reducible show wpAny _ _ (call (Value.ref 26) [Value.int _ _, Value.int _ _, Value.int _ _]) _ _ _); k_dflt ((refine' PureM.use (idle_wait_c _ _ _ _ _ _ _ ?o0 ?o1 ?p0 ?p1 ?q0 ?q1 rfl) ?k1 ?k2 ?k3 ?k4 ?k5 ?kK ?kd ?ku ?kn ?_); (case k1 => k_asm); (case k2 => k_asm); (case k3 => k_asm); (case k4 => k_asm); (case k5 => k_asm); (case kK => first | exact rfl | assumption); (case kd => ktr_room); (case ku => ktr_units); (case kn => (repeat (first | exact need_nil | (refine need_cons (by k_mem) ?_)))); (case o0 => omega); (case o1 => omega); (case p0 => omega); (case p1 => omega); (case q0 => omega); (case q1 => omega); intro v9 h9 tk9 F9 N9 P9; obtain ⟨t9, he9⟩ := P9; (generalize hq9 : waitOf _ _ _ = q9 at he9); rcases q9 with _ | e9 <;> (simp only [optV] at he9; subst he9; (try dsimp only); (try k_fold)); (try dsimp only); (try k_fold))) | (fail "x")))
  trivial
def deadline_n_B (w : World) (ia da : Addr) (k1 k2 k3 k4 t1 t2 ts : Tok) (own peer : Int) (asked : Bool) (probe : Int) (t3 : Tok) (v : KV) : Prop := RW = RW → (0 ≤ own) → (own < 1000000000) → (0 ≤ peer) → (peer < 1000000000) → (0 ≤ probe) → (probe < 1000000000) → v.to (PureM9 w 6 68 [(ia, instObj 85 da), (da, dictOf [⟨PyData.keyHash w.params (Str.ofString "own"), .str (Str.ofString "own") k1, .int own t1⟩, ⟨PyData.keyHash w.params (Str.ofString "peer"), .str (Str.ofString "peer") k2, .int peer t2⟩, ⟨PyData.keyHash w.params (Str.ofString "since"), .str (Str.ofString "since") k3, .none⟩, ⟨PyData.keyHash w.params (Str.ofString "has_asked"), .str (Str.ofString "has_asked") k4, .bool asked⟩] 4)] [.ref ia, .int probe t3] (IsOpt (endOf none (waitOf own peer probe))))
def deadline_n_S : Prop := ∀ w ia da k1 k2 k3 k4 t1 t2 ts own peer asked probe t3 v, deadline_n_B w ia da k1 k2 k3 k4 t1 t2 ts own peer asked probe t3 v
theorem deadline_n_0 : deadline_n_S := by
  refine ubx ?_
  simp (disch := k_dflt (
    refine tyP ?_
    refine' (?g9 : ∀ q : deadline_n_S, Keep q → deadline_n_S) _ ?w9
    case g9 => exact fun q _ => q
    case w9 =>
      refine' kp9 ?h9 fun k9 => ?j9
      case h9 =>
        unfold deadline_n_S
        (repeat walk_at "CL9")
        rename_i w ia da k1 k2 k3 k4 t1 t2 ts own peer asked probe t3 vk
        unfold deadline_n_B KV.to PureM9
        k_fill
        intro _ o0 o1 p0 p1 q0 q1
        w_on
        w_top on
        intro B F X N T hk hd hu hneed hret
        refine wpAny_call ?_
        k_dflt (refine' code_defF ?k1 ?k2 ?k3 (need_news hneed N) (restOf_news N) restOf_dis ?k5 ?kA ?kF ?kK ?k6 ?k7 ?k8 ?k9 ?kB ?_ ?c2 ?c3 ?c4 ?c5; (case kA => exact rfl); (case kF => exact rfl); (case kK => first | assumption | exact rfl); (case k1 => k_asm); (case k2 => k_asm); (case k3 => k_asm); (case k5 => k_asm); (case k6 => k_is); (case k7 => k_is); (case k8 => ktr_room); (case k9 => first | exact BindsTo.of_eq rfl | exact binds_K (by k_in) rfl (by k_is) rfl rfl rfl); (case c5 => decide); (case kB => exact locs (Eq.refl true)); (case c2 => exact rfl); (case c3 => exact rfl); (case c4 => exact rfl); k_whole; intro g' L' h' tk' FG' F' N' B' X' T' l1 lr; (try clear lr); (try dsimp only); (try k_lt l1); (try k_fold))
        w_strict (k_steps; (all_goals ((rename News _ _ _ (restOf _ _) => Nr9); (first | (rename News _ _ _ (_ :: _) => Nk9) | (rename News _ _ _ (_ ++ _) => Nk9) | (have Nk9 := @News.nil)); exact hret _ _ _ (by k_asm) (back_pure N hneed (news_sub Nk9 (by (repeat (first | exact sub_self | exact sub_left | exact sub_nil | (refine sub_cons (by k_mem) ?_) | refine sub_tail ?_)))) Nr9) (by first | (refine isOpt_some ((endOf_eq (by assumption)).trans ?_); rfl) | (refine isOpt_none ((endOf_eq (by assumption)).trans ?_); first | rfl | exact endOf_none)))))
      case j9 => revert k9; (try delta id ap_mk hd_in hd_out); intro k9; (try conv at k9 => zeta); exact k9)) only [↓bxT]
theorem deadline_n (w : World) (ia da : Addr) (k1 k2 k3 k4 t1 t2 ts : Tok) (own peer : Int) (asked : Bool) (o0 : 0 ≤ own) (o1 : own < 1000000000) (p0 : 0 ≤ peer) (p1 : peer < 1000000000) (probe : Int) (t3 : Tok) (q0 : 0 ≤ probe) (q1 : probe < 1000000000) : RW = RW → PureM w 6 68 [(ia, instObj 85 da), (da, dictOf [⟨PyData.keyHash w.params (Str.ofString "own"), .str (Str.ofString "own") k1, .int own t1⟩, ⟨PyData.keyHash w.params (Str.ofString "peer"), .str (Str.ofString "peer") k2, .int peer t2⟩, ⟨PyData.keyHash w.params (Str.ofString "since"), .str (Str.ofString "since") k3, .none⟩, ⟨PyData.keyHash w.params (Str.ofString "has_asked"), .str (Str.ofString "has_asked") k4, .bool asked⟩] 4)] [.ref ia, .int probe t3] (IsOpt (endOf none (waitOf own peer probe))) := by
  intro r9 p loose mean mg mb dp un gd cn cs a ccd cl outer A₀ base h₀ L m news s Q E
  exact deadline_n_0 w ia da k1 k2 k3 k4 t1 t2 ts own peer asked probe t3 ⟨p, loose, mean, mg, mb, dp, un, gd, cn, cs, a, ccd, cl, outer, A₀, base, h₀, L, m, news, s, Q, E⟩ r9 o0 o1 p0 p1 q0 q1
def deadline_s_B (w : World) (ia da : Addr) (k1 k2 k3 k4 t1 t2 ts : Tok) (own peer : Int) (asked : Bool) (since probe : Int) (t3 : Tok) (v : KV) : Prop := RW = RW → (0 ≤ own) → (own < 1000000000) → (0 ≤ peer) → (peer < 1000000000) → (0 ≤ probe) → (probe < 1000000000) → v.to (PureM9 w 6 68 [(ia, instObj 85 da), (da, dictOf [⟨PyData.keyHash w.params (Str.ofString "own"), .str (Str.ofString "own") k1, .int own t1⟩, ⟨PyData.keyHash w.params (Str.ofString "peer"), .str (Str.ofString "peer") k2, .int peer t2⟩, ⟨PyData.keyHash w.params (Str.ofString "since"), .str (Str.ofString "since") k3, .int since ts⟩, ⟨PyData.keyHash w.params (Str.ofString "has_asked"), .str (Str.ofString "has_asked") k4, .bool asked⟩] 4)] [.ref ia, .int probe t3] (IsOpt (endOf (some since) (waitOf own peer probe))))
def deadline_s_S : Prop := ∀ w ia da k1 k2 k3 k4 t1 t2 ts own peer asked since probe t3 v, deadline_s_B w ia da k1 k2 k3 k4 t1 t2 ts own peer asked since probe t3 v
theorem deadline_s_0 : deadline_s_S := by
  refine ubx ?_
  simp (disch := k_dflt (
    refine tyP ?_
    refine' (?g9 : ∀ q : deadline_s_S, Keep q → deadline_s_S) _ ?w9
    case g9 => exact fun q _ => q
    case w9 =>
      refine' kp9 ?h9 fun k9 => ?j9
      case h9 =>
        unfold deadline_s_S
        (repeat walk_at "CL9")
        rename_i w ia da k1 k2 k3 k4 t1 t2 ts own peer asked since probe t3 vk
        unfold deadline_s_B KV.to PureM9
        k_fill
        intro _ o0 o1 p0 p1 q0 q1
        w_on
        w_top on
        intro B F X N T hk hd hu hneed hret
        refine wpAny_call ?_
        k_dflt (refine' code_defF ?k1 ?k2 ?k3 (need_news hneed N) (restOf_news N) restOf_dis ?k5 ?kA ?kF ?kK ?k6 ?k7 ?k8 ?k9 ?kB ?_ ?c2 ?c3 ?c4 ?c5; (case kA => exact rfl); (case kF => exact rfl); (case kK => first | assumption | exact rfl); (case k1 => k_asm); (case k2 => k_asm); (case k3 => k_asm); (case k5 => k_asm); (case k6 => k_is); (case k7 => k_is); (case k8 => ktr_room); (case k9 => first | exact BindsTo.of_eq rfl | exact binds_K (by k_in) rfl (by k_is) rfl rfl rfl); (case c5 => decide); (case kB => exact locs (Eq.refl true)); (case c2 => exact rfl); (case c3 => exact rfl); (case c4 => exact rfl); k_whole; intro g' L' h' tk' FG' F' N' B' X' T' l1 lr; (try clear lr); (try dsimp only); (try k_lt l1); (try k_fold))
        w_strict (k_steps; (all_goals ((rename News _ _ _ (restOf _ _) => Nr9); (first | (rename News _ _ _ (_ :: _) => Nk9) | (rename News _ _ _ (_ ++ _) => Nk9) | (have Nk9 := @News.nil)); exact hret _ _ _ (by k_asm) (back_pure N hneed (news_sub Nk9 (by (repeat (first | exact sub_self | exact sub_left | exact sub_nil | (refine sub_cons (by k_mem) ?_) | refine sub_tail ?_)))) Nr9) (by first | (refine isOpt_some ((endOf_eq (by assumption)).trans ?_); rfl) | (refine isOpt_none ((endOf_eq (by assumption)).trans ?_); first | rfl | exact endOf_none)))))
      case j9 => revert k9; (try delta id ap_mk hd_in hd_out); intro k9; (try conv at k9 => zeta); exact k9)) only [↓bxT]
theorem deadline_s (w : World) (ia da : Addr) (k1 k2 k3 k4 t1 t2 ts : Tok) (own peer : Int) (asked : Bool) (since : Int) (o0 : 0 ≤ own) (o1 : own < 1000000000) (p0 : 0 ≤ peer) (p1 : peer < 1000000000) (probe : Int) (t3 : Tok) (q0 : 0 ≤ probe) (q1 : probe < 1000000000) : RW = RW → PureM w 6 68 [(ia, instObj 85 da), (da, dictOf [⟨PyData.keyHash w.params (Str.ofString "own"), .str (Str.ofString "own") k1, .int own t1⟩, ⟨PyData.keyHash w.params (Str.ofString "peer"), .str (Str.ofString "peer") k2, .int peer t2⟩, ⟨PyData.keyHash w.params (Str.ofString "since"), .str (Str.ofString "since") k3, .int since ts⟩, ⟨PyData.keyHash w.params (Str.ofString "has_asked"), .str (Str.ofString "has_asked") k4, .bool asked⟩] 4)] [.ref ia, .int probe t3] (IsOpt (endOf (some since) (waitOf own peer probe))) := by
  intro r9 p loose mean mg mb dp un gd cn cs a ccd cl outer A₀ base h₀ L m news s Q E
  exact deadline_s_0 w ia da k1 k2 k3 k4 t1 t2 ts own peer asked since probe t3 ⟨p, loose, mean, mg, mb, dp, un, gd, cn, cs, a, ccd, cl, outer, A₀, base, h₀, L, m, news, s, Q, E⟩ r9 o0 o1 p0 p1 q0 q1
theorem deadline_c (w : World) (ia da : Addr) (k1 k2 k3 k4 t1 t2 ts : Tok) (own peer : Int) (asked : Bool) (sv : Option Int) (o0 : 0 ≤ own) (o1 : own < 1000000000) (p0 : 0 ≤ peer) (p1 : peer < 1000000000) (probe : Int) (t3 : Tok) (q0 : 0 ≤ probe) (q1 : probe < 1000000000) : RW = RW → PureM w 6 68 [(ia, instObj 85 da), (da, dictOf [⟨PyData.keyHash w.params (Str.ofString "own"), .str (Str.ofString "own") k1, .int own t1⟩, ⟨PyData.keyHash w.params (Str.ofString "peer"), .str (Str.ofString "peer") k2, .int peer t2⟩, ⟨PyData.keyHash w.params (Str.ofString "since"), .str (Str.ofString "since") k3, optV sv ts⟩, ⟨PyData.keyHash w.params (Str.ofString "has_asked"), .str (Str.ofString "has_asked") k4, .bool asked⟩] 4)] [.ref ia, .int probe t3] (IsOpt (endOf sv (waitOf own peer probe))) := fun h => by
  cases sv with
  | none => exact deadline_n w ia da k1 k2 k3 k4 t1 t2 ts own peer asked o0 o1 p0 p1 probe t3 q0 q1 h
  | some since => exact deadline_s w ia da k1 k2 k3 k4 t1 t2 ts own peer asked since o0 o1 p0 p1 probe t3 q0 q1 h
theorem I2_rows3 : True := by
  (k_with "call ref" => (first | ((try dsimp only [List.cons_append, List.nil_append]); (with_reducible show wpAny _ _ (call (Value.ref 68) [Value.ref _, Value.int _ _]) _ _ _); k_dflt ((refine' PureM.use (deadline_c _ _ _ _ _ _ _ _ _ _ _ _ _ _ ?o0 ?o1 ?p0 ?p1 _ _ ?q0 ?q1 rfl) ?k1 ?k2 ?k3 ?k4 ?k5 ?kK ?kd ?ku ?kn ?_); (case k1 => k_asm); (case k2 => k_asm); (case k3 => k_asm); (case k4 => k_asm); (case k5 => k_asm); (case kK => first | exact rfl | assumption); (case kd => ktr_room); (case ku => ktr_units); (case kn => (repeat (first | exact need_nil | (refine need_cons (by k_mem) ?_)))); (case o0 => omega); (case o1 => omega); (case p0 => omega); (case p1 => omega); (case q0 => omega); (case q1 => omega); intro v9 h9 tk9 F9 N9 P9; obtain ⟨t9, he9⟩ := P9; (generalize hq9 : endOf _ _ = q9 at he9); rcases q9 with _ | e9 <;> (simp only [optV] at he9; subst he9; (try dsimp only); (try k_fold)); (try dsimp only); (try k_fold))) | (fail "x")))
  trivial
def is_over_c_B (w : World) (ia da : Addr) (k1 k2 k3 k4 t1 t2 ts : Tok) (own peer : Int) (asked : Bool) (sv : Option Int) (now : Int) (tn : Tok) (probe : Int) (t3 : Tok) (v : KV) : Prop := RW = RW → (0 ≤ own) → (own < 1000000000) → (0 ≤ peer) → (peer < 1000000000) → (0 ≤ probe) → (probe < 1000000000) → v.to (PureM9 w 8 75 [(ia, instObj 85 da), (da, dictOf [⟨PyData.keyHash w.params (Str.ofString "own"), .str (Str.ofString "own") k1, .int own t1⟩, ⟨PyData.keyHash w.params (Str.ofString "peer"), .str (Str.ofString "peer") k2, .int peer t2⟩, ⟨PyData.keyHash w.params (Str.ofString "since"), .str (Str.ofString "since") k3, optV sv ts⟩, ⟨PyData.keyHash w.params (Str.ofString "has_asked"), .str (Str.ofString "has_asked") k4, .bool asked⟩] 4)] [.ref ia, .int now tn, .int probe t3] (fun v => v = .bool (overAt (endOf sv (waitOf own peer probe)) now)))
def is_over_c_S : Prop := ∀ w ia da k1 k2 k3 k4 t1 t2 ts own peer asked sv now tn probe t3 v, is_over_c_B w ia da k1 k2 k3 k4 t1 t2 ts own peer asked sv now tn probe t3 v
theorem is_over_c_0 : is_over_c_S := by
  refine ubx ?_
  simp (disch := k_dflt (
    refine tyP ?_
    refine' (?g9 : ∀ q : is_over_c_S, Keep q → is_over_c_S) _ ?w9
    case g9 => exact fun q _ => q
    case w9 =>
      refine' kp9 ?h9 fun k9 => ?j9
      case h9 =>
        unfold is_over_c_S
        (repeat walk_at "CL9")
        rename_i w ia da k1 k2 k3 k4 t1 t2 ts own peer asked sv now tn probe t3 vk
        unfold is_over_c_B KV.to PureM9
        k_fill
        intro _ o0 o1 p0 p1 q0 q1
        w_on
        w_top on
        intro B F X N T hk hd hu hneed hret
        refine wpAny_call ?_
        k_dflt (refine' code_defF ?k1 ?k2 ?k3 (need_news hneed N) (restOf_news N) restOf_dis ?k5 ?kA ?kF ?kK ?k6 ?k7 ?k8 ?k9 ?kB ?_ ?c2 ?c3 ?c4 ?c5; (case kA => exact rfl); (case kF => exact rfl); (case kK => first | assumption | exact rfl); (case k1 => k_asm); (case k2 => k_asm); (case k3 => k_asm); (case k5 => k_asm); (case k6 => k_is); (case k7 => k_is); (case k8 => ktr_room); (case k9 => first | exact BindsTo.of_eq rfl | exact binds_K (by k_in) rfl (by k_is) rfl rfl rfl); (case c5 => decide); (case kB => exact locs (Eq.refl true)); (case c2 => exact rfl); (case c3 => exact rfl); (case c4 => exact rfl); k_whole; intro g' L' h' tk' FG' F' N' B' X' T' l1 lr; (try clear lr); (try dsimp only); (try k_lt l1); (try k_fold))
        w_strict (k_steps; (all_goals ((rename News _ _ _ (restOf _ _) => Nr9); (first | (rename News _ _ _ (_ :: _) => Nk9) | (rename News _ _ _ (_ ++ _) => Nk9) | (have Nk9 := @News.nil)); exact hret _ _ _ (by k_asm) (back_pure N hneed (news_sub Nk9 (by (repeat (first | exact sub_self | exact sub_left | exact sub_nil | (refine sub_cons (by k_mem) ?_) | refine sub_tail ?_)))) Nr9) (by (have e9 := (by assumption : endOf _ _ = _)); rw [e9]; (try simp only [overAt, pingAt]); all_goals first | rfl | (simp; done) | (simp; omega) | (cases asked <;> first | rfl | (simp; done) | (simp; omega) | contradiction | (rename ((_ : Bool) = _) => hb9; simp at hb9) | trace_state)))))
      case j9 => revert k9; (try delta id ap_mk hd_in hd_out); intro k9; (try conv at k9 => zeta); exact k9)) only [↓bxT]
theorem is_over_c (w : World) (ia da : Addr) (k1 k2 k3 k4 t1 t2 ts : Tok) (own peer : Int) (asked : Bool) (sv : Option Int) (o0 : 0 ≤ own) (o1 : own < 1000000000) (p0 : 0 ≤ peer) (p1 : peer < 1000000000) (now : Int) (tn : Tok) (probe : Int) (t3 : Tok) (q0 : 0 ≤ probe) (q1 : probe < 1000000000) : RW = RW → PureM w 8 75 [(ia, instObj 85 da), (da, dictOf [⟨PyData.keyHash w.params (Str.ofString "own"), .str (Str.ofString "own") k1, .int own t1⟩, ⟨PyData.keyHash w.params (Str.ofString "peer"), .str (Str.ofString "peer") k2, .int peer t2⟩, ⟨PyData.keyHash w.params (Str.ofString "since"), .str (Str.ofString "since") k3, optV sv ts⟩, ⟨PyData.keyHash w.params (Str.ofString "has_asked"), .str (Str.ofString "has_asked") k4, .bool asked⟩] 4)] [.ref ia, .int now tn, .int probe t3] (fun v => v = .bool (overAt (endOf sv (waitOf own peer probe)) now)) := by
  intro r9 p loose mean mg mb dp un gd cn cs a ccd cl outer A₀ base h₀ L m news s Q E
  exact is_over_c_0 w ia da k1 k2 k3 k4 t1 t2 ts own peer asked sv now tn probe t3 ⟨p, loose, mean, mg, mb, dp, un, gd, cn, cs, a, ccd, cl, outer, A₀, base, h₀, L, m, news, s, Q, E⟩ r9 o0 o1 p0 p1 q0 q1
def wants_ping_c_B (w : World) (ia da : Addr) (k1 k2 k3 k4 t1 t2 ts : Tok) (own peer : Int) (asked : Bool) (sv : Option Int) (now reserve : Int) (tn tr : Tok) (probe : Int) (t3 : Tok) (v : KV) : Prop := RW = RW → (0 ≤ own) → (own < 1000000000) → (0 ≤ peer) → (peer < 1000000000) → (0 ≤ probe) → (probe < 1000000000) → v.to (PureM9 w 8 82 [(ia, instObj 85 da), (da, dictOf [⟨PyData.keyHash w.params (Str.ofString "own"), .str (Str.ofString "own") k1, .int own t1⟩, ⟨PyData.keyHash w.params (Str.ofString "peer"), .str (Str.ofString "peer") k2, .int peer t2⟩, ⟨PyData.keyHash w.params (Str.ofString "since"), .str (Str.ofString "since") k3, optV sv ts⟩, ⟨PyData.keyHash w.params (Str.ofString "has_asked"), .str (Str.ofString "has_asked") k4, .bool asked⟩] 4)] [.ref ia, .int now tn, .int probe t3, .int reserve tr] (fun v => v = .bool (pingAt (endOf sv (waitOf own peer probe)) asked now reserve)))
def wants_ping_c_S : Prop := ∀ w ia da k1 k2 k3 k4 t1 t2 ts own peer asked sv now reserve tn tr probe t3 v, wants_ping_c_B w ia da k1 k2 k3 k4 t1 t2 ts own peer asked sv now reserve tn tr probe t3 v
theorem wants_ping_c_0 : wants_ping_c_S := by
  refine ubx ?_
  simp (disch := k_dflt (
    refine tyP ?_
    refine' (?g9 : ∀ q : wants_ping_c_S, Keep q → wants_ping_c_S) _ ?w9
    case g9 => exact fun q _ => q
    case w9 =>
      refine' kp9 ?h9 fun k9 => ?j9
      case h9 =>
        unfold wants_ping_c_S
        (repeat walk_at "CL9")
        rename_i w ia da k1 k2 k3 k4 t1 t2 ts own peer asked sv now reserve tn tr probe t3 vk
        unfold wants_ping_c_B KV.to PureM9
        k_fill
        intro _ o0 o1 p0 p1 q0 q1
        w_on
        w_top on
        intro B F X N T hk hd hu hneed hret
        refine wpAny_call ?_
        k_dflt (refine' code_defF ?k1 ?k2 ?k3 (need_news hneed N) (restOf_news N) restOf_dis ?k5 ?kA ?kF ?kK ?k6 ?k7 ?k8 ?k9 ?kB ?_ ?c2 ?c3 ?c4 ?c5; (case kA => exact rfl); (case kF => exact rfl); (case kK => first | assumption | exact rfl); (case k1 => k_asm); (case k2 => k_asm); (case k3 => k_asm); (case k5 => k_asm); (case k6 => k_is); (case k7 => k_is); (case k8 => ktr_room); (case k9 => first | exact BindsTo.of_eq rfl | exact binds_K (by k_in) rfl (by k_is) rfl rfl rfl); (case c5 => decide); (case kB => exact locs (Eq.refl true)); (case c2 => exact rfl); (case c3 => exact rfl); (case c4 => exact rfl); k_whole; intro g' L' h' tk' FG' F' N' B' X' T' l1 lr; (try clear lr); (try dsimp only); (try k_lt l1); (try k_fold))
        w_strict (k_steps; (all_goals ((rename News _ _ _ (restOf _ _) => Nr9); (first | (rename News _ _ _ (_ :: _) => Nk9) | (rename News _ _ _ (_ ++ _) => Nk9) | (have Nk9 := @News.nil)); exact hret _ _ _ (by k_asm) (back_pure N hneed (news_sub Nk9 (by (repeat (first | exact sub_self | exact sub_left | exact sub_nil | (refine sub_cons (by k_mem) ?_) | refine sub_tail ?_)))) Nr9) (by (have e9 := (by assumption : endOf _ _ = _)); rw [e9]; (try simp only [overAt, pingAt]); all_goals first | rfl | (simp; done) | (simp; omega) | (cases asked <;> first | rfl | (simp; done) | (simp; omega) | contradiction | (rename ((_ : Bool) = _) => hb9; simp at hb9) | trace_state)))))
      case j9 => revert k9; (try delta id ap_mk hd_in hd_out); intro k9; (try conv at k9 => zeta); exact k9)) only [↓bxT]
theorem wants_ping_c (w : World) (ia da : Addr) (k1 k2 k3 k4 t1 t2 ts : Tok) (own peer : Int) (asked : Bool) (sv : Option Int) (o0 : 0 ≤ own) (o1 : own < 1000000000) (p0 : 0 ≤ peer) (p1 : peer < 1000000000) (now reserve : Int) (tn tr : Tok) (probe : Int) (t3 : Tok) (q0 : 0 ≤ probe) (q1 : probe < 1000000000) : RW = RW → PureM w 8 82 [(ia, instObj 85 da), (da, dictOf [⟨PyData.keyHash w.params (Str.ofString "own"), .str (Str.ofString "own") k1, .int own t1⟩, ⟨PyData.keyHash w.params (Str.ofString "peer"), .str (Str.ofString "peer") k2, .int peer t2⟩, ⟨PyData.keyHash w.params (Str.ofString "since"), .str (Str.ofString "since") k3, optV sv ts⟩, ⟨PyData.keyHash w.params (Str.ofString "has_asked"), .str (Str.ofString "has_asked") k4, .bool asked⟩] 4)] [.ref ia, .int now tn, .int probe t3, .int reserve tr] (fun v => v = .bool (pingAt (endOf sv (waitOf own peer probe)) asked now reserve)) := by
  intro r9 p loose mean mg mb dp un gd cn cs a ccd cl outer A₀ base h₀ L m news s Q E
  exact wants_ping_c_0 w ia da k1 k2 k3 k4 t1 t2 ts own peer asked sv now reserve tn tr probe t3 ⟨p, loose, mean, mg, mb, dp, un, gd, cn, cs, a, ccd, cl, outer, A₀, base, h₀, L, m, news, s, Q, E⟩ r9 o0 o1 p0 p1 q0 q1
end
section
set_option Elab.async false
set_option maxRecDepth 100000
set_option maxHeartbeats 4000000
theorem I3_rows0 : True := by
  k_with_none
  trivial
theorem I3_rows1 : True := by
  (k_with "k_room" => (ktr_room))
  trivial
def sentS (el asked : Bool) (sv : Option Int) (now : Int) : Option Int := if el && !asked then some now else sv
def on_received_c_B (w : World) (ia da : Addr) (k1 k2 k3 k4 t1 t2 ts : Tok) (own peer : Int) (asked : Bool) (sv : Option Int) (now : Int) (tn : Tok) : Prop := RW = RW → UpdM w 4 54 da (dictOf [⟨PyData.keyHash w.params (Str.ofString "own"), .str (Str.ofString "own") k1, .int own t1⟩, ⟨PyData.keyHash w.params (Str.ofString "peer"), .str (Str.ofString "peer") k2, .int peer t2⟩, ⟨PyData.keyHash w.params (Str.ofString "since"), .str (Str.ofString "since") k3, optV sv ts⟩, ⟨PyData.keyHash w.params (Str.ofString "has_asked"), .str (Str.ofString "has_asked") k4, .bool asked⟩] 4) [(ia, instObj 85 da)] [.ref ia, .int now tn] (fun _ o9 => o9 = dictOf [⟨PyData.keyHash w.params (Str.ofString "own"), .str (Str.ofString "own") k1, .int own t1⟩, ⟨PyData.keyHash w.params (Str.ofString "peer"), .str (Str.ofString "peer") k2, .int peer t2⟩, ⟨PyData.keyHash w.params (Str.ofString "since"), .str (Str.ofString "since") k3, .int now tn⟩, ⟨PyData.keyHash w.params (Str.ofString "has_asked"), .str (Str.ofString "has_asked") k4, .bool false⟩] 4)
theorem on_received_c : ∀ w ia da k1 k2 k3 k4 t1 t2 ts own peer asked sv now tn, on_received_c_B w ia da k1 k2 k3 k4 t1 t2 ts own peer asked sv now tn := by
  refine ubx ?_
  simp (disch := k_dflt (
    refine tyP ?_
    refine' (?g9 : ∀ q : (∀ w ia da k1 k2 k3 k4 t1 t2 ts own peer asked sv now tn, on_received_c_B w ia da k1 k2 k3 k4 t1 t2 ts own peer asked sv now tn), Keep q → (∀ w ia da k1 k2 k3 k4 t1 t2 ts own peer asked sv now tn, on_received_c_B w ia da k1 k2 k3 k4 t1 t2 ts own peer asked sv now tn)) _ ?w9
    case g9 => exact fun q _ => q
    case w9 =>
      refine' kp9 ?h9 fun k9 => ?j9
      case h9 =>
        (repeat walk_at "CL9")
        rename_i w ia da k1 k2 k3 k4 t1 t2 ts own peer asked sv now tn
        unfold on_received_c_B
        intro _
        refine UpdM_of _ _ _ _ _ _ _ _ ?_
        (repeat walk_at "CL9")
        rename_i g vk
        unfold KV.to UpdM9
        w_on
        w_top on
        intro B F X N T hk hd hu hU hneed hret
        have hne := upd_ne hU hneed
        simp only [List.mem_cons, List.not_mem_nil, or_false, forall_eq_or_imp, forall_eq, false_imp_iff, implies_true] at hne
        refine wpAny_call ?_
        k_dflt (refine' code_defF ?k1 ?k2 ?k3 (need_news (upd_need hU hneed) N) (restOf_news N) restOf_dis ?k5 ?kA ?kF ?kK ?k6 ?k7 ?k8 ?k9 ?kB ?_ ?c2 ?c3 ?c4 ?c5; (case kA => exact rfl); (case kF => exact rfl); (case kK => first | assumption | exact rfl); (case k1 => k_asm); (case k2 => k_asm); (case k3 => k_asm); (case k5 => k_asm); (case k6 => k_is); (case k7 => k_is); (case k8 => ktr_room); (case k9 => first | exact BindsTo.of_eq rfl | exact binds_K (by k_in) rfl (by k_is) rfl rfl rfl); (case c5 => decide); (case kB => exact locs (Eq.refl true)); (case c2 => exact rfl); (case c3 => exact rfl); (case c4 => exact rfl); k_whole; intro g' L' h' tk' FG' F' N' B' X' T' l1 lr; (try clear lr); (try dsimp only); (try k_lt l1); (try k_fold))
        w_strict (k_steps; (all_goals ((rename News _ _ _ (restOf _ _) => Nr9); (first | (rename News _ _ _ (_ :: _) => Nk9) | (rename News _ _ _ (_ ++ _) => Nk9) | (have Nk9 := @News.nil)); exact hret _ _ _ _ (by k_asm) (back_upd N hU hneed (news_sub Nk9 (by (repeat (first | exact sub_self | exact sub_left | exact sub_nil | (refine sub_cons (by k_mem) ?_) | refine sub_tail ?_)))) Nr9) rfl)))
      case j9 => revert k9; (try delta id ap_mk hd_in hd_out); intro k9; (try conv at k9 => zeta); exact k9)) only [↓bxT]
def on_sent_c_B (w : World) (ia da : Addr) (k1 k2 k3 k4 t1 t2 ts : Tok) (own peer : Int) (asked : Bool) (sv : Option Int) (el : Bool) (now : Int) (tn : Tok) : Prop := RW = RW → UpdM w 4 61 da (dictOf [⟨PyData.keyHash w.params (Str.ofString "own"), .str (Str.ofString "own") k1, .int own t1⟩, ⟨PyData.keyHash w.params (Str.ofString "peer"), .str (Str.ofString "peer") k2, .int peer t2⟩, ⟨PyData.keyHash w.params (Str.ofString "since"), .str (Str.ofString "since") k3, optV sv ts⟩, ⟨PyData.keyHash w.params (Str.ofString "has_asked"), .str (Str.ofString "has_asked") k4, .bool asked⟩] 4) [(ia, instObj 85 da)] [.ref ia, .int now tn, .bool el] (fun _ o9 => ∃ ts9, o9 = dictOf [⟨PyData.keyHash w.params (Str.ofString "own"), .str (Str.ofString "own") k1, .int own t1⟩, ⟨PyData.keyHash w.params (Str.ofString "peer"), .str (Str.ofString "peer") k2, .int peer t2⟩, ⟨PyData.keyHash w.params (Str.ofString "since"), .str (Str.ofString "since") k3, optV (sentS el asked sv now) ts9⟩, ⟨PyData.keyHash w.params (Str.ofString "has_asked"), .str (Str.ofString "has_asked") k4, .bool (el || asked)⟩] 4)
theorem on_sent_c : ∀ w ia da k1 k2 k3 k4 t1 t2 ts own peer asked sv el now tn, on_sent_c_B w ia da k1 k2 k3 k4 t1 t2 ts own peer asked sv el now tn := by
  refine ubx ?_
  simp (disch := k_dflt (
    refine tyP ?_
    refine' (?g9 : ∀ q : (∀ w ia da k1 k2 k3 k4 t1 t2 ts own peer asked sv el now tn, on_sent_c_B w ia da k1 k2 k3 k4 t1 t2 ts own peer asked sv el now tn), Keep q → (∀ w ia da k1 k2 k3 k4 t1 t2 ts own peer asked sv el now tn, on_sent_c_B w ia da k1 k2 k3 k4 t1 t2 ts own peer asked sv el now tn)) _ ?w9
    case g9 => exact fun q _ => q
    case w9 =>
      refine' kp9 ?h9 fun k9 => ?j9
      case h9 =>
        (repeat walk_at "CL9")
        rename_i w ia da k1 k2 k3 k4 t1 t2 ts own peer asked sv el now tn
        unfold on_sent_c_B
        intro _
        refine UpdM_of _ _ _ _ _ _ _ _ ?_
        (repeat walk_at "CL9")
        rename_i g vk
        unfold KV.to UpdM9
        w_on
        w_top on
        intro B F X N T hk hd hu hU hneed hret
        have hne := upd_ne hU hneed
        simp only [List.mem_cons, List.not_mem_nil, or_false, forall_eq_or_imp, forall_eq, false_imp_iff, implies_true] at hne
        refine wpAny_call ?_
        k_dflt (refine' code_defF ?k1 ?k2 ?k3 (need_news (upd_need hU hneed) N) (restOf_news N) restOf_dis ?k5 ?kA ?kF ?kK ?k6 ?k7 ?k8 ?k9 ?kB ?_ ?c2 ?c3 ?c4 ?c5; (case kA => exact rfl); (case kF => exact rfl); (case kK => first | assumption | exact rfl); (case k1 => k_asm); (case k2 => k_asm); (case k3 => k_asm); (case k5 => k_asm); (case k6 => k_is); (case k7 => k_is); (case k8 => ktr_room); (case k9 => first | exact BindsTo.of_eq rfl | exact binds_K (by k_in) rfl (by k_is) rfl rfl rfl); (case c5 => decide); (case kB => exact locs (Eq.refl true)); (case c2 => exact rfl); (case c3 => exact rfl); (case c4 => exact rfl); k_whole; intro g' L' h' tk' FG' F' N' B' X' T' l1 lr; (try clear lr); (try dsimp only); (try k_lt l1); (try k_fold))
        w_strict (k_steps; (all_goals ((rename News _ _ _ (restOf _ _) => Nr9); (first | (rename News _ _ _ (_ :: _) => Nk9) | (rename News _ _ _ (_ ++ _) => Nk9) | (have Nk9 := @News.nil)); exact hret _ _ _ _ (by k_asm) (back_upd N hU hneed (news_sub Nk9 (by (repeat (first | exact sub_self | exact sub_left | exact sub_nil | (refine sub_cons (by k_mem) ?_) | refine sub_tail ?_)))) Nr9) (by (cases el <;> cases asked <;> first | exact ⟨tn, rfl⟩ | exact ⟨ts, rfl⟩ | contradiction | (rename ((_ : Bool) = _) => hb9; simp at hb9; done) | (exfalso; simp_all; done) | trace_state)))))
      case j9 => revert k9; (try delta id ap_mk hd_in hd_out); intro k9; (try conv at k9 => zeta); exact k9)) only [↓bxT]
end
section
set_option Elab.async false
set_option maxRecDepth 100000
set_option maxHeartbeats 4000000
theorem J1_rows0 : True := by
  k_with_none
  trivial
theorem J1_rows1 : True := by
  (k_with "k_room" => (ktr_room))
  (k_with "k_units" => (ktr_units))
  trivial
def NewM (w : World) (d : Nat) (f : Addr) (need : List (Addr × Obj)) (vs : List Value) (P : Obj → Prop) : Prop :=
  ∀ (p : Program) (loose : List Str) (mean : ExcName → Option Value) (mg mb : Str → Option Value)
    (dp un : Nat) (gd : Option (List Code)) (cn : Str) (cs : Scope) (a : Addr) (ccd : Value) (cl : List (Str × Addr)) (outer : List Env) (A₀ : Around) (base h₀ : Heap) (L : Addr) (m : Str → Option Value) (news : List (Addr × Obj)) (s : Shared) (Q E : Value → Shared → Prop),
    Below A₀ base outer h₀ → Fr h₀ L s.heap m → (hd.heap_1 w.params).In h₀ → News h₀ L s.heap news → Top p loose mean mg mb h₀ → cs.kind = .function →
    dp + d < recursionLimit → un + 8 * d < cLine → (∀ q ∈ need, q ∈ news) →
    (∀ r o h' tk', Fr h₀ L h' m → News h₀ L h' ((r, o) :: news) → (∀ p ∈ news, @Ne Nat p.1 r) → P o → Q (.ref r) { s with heap := h', toks := tk' }) →
    wpAny (model PR w) (ktrTop dp un gd cn cs L a ccd cl outer) (call (.ref f) vs) Q E s
def NewM9 (w : World) (d : Nat) (f : Addr) (need : List (Addr × Obj)) (vs : List Value) (P : Obj → Prop) (p : Program) (loose : List Str) (mean : ExcName → Option Value) (mg : Str → Option Value) (mb : Str → Option Value) (dp : Nat) (un : Nat) (gd : Option (List Code)) (cn : Str) (cs : Scope) (a : Addr) (ccd : Value) (cl : List (Str × Addr)) (outer : List Env) (A₀ : Around) (base : Heap) (h₀ : Heap) (L : Addr) (m : Str → Option Value) (news : List (Addr × Obj)) (s : Shared) (Q : Value → Shared → Prop) (E : Value → Shared → Prop) : Prop :=
    Below A₀ base outer h₀ → Fr h₀ L s.heap m → (hd.heap_1 w.params).In h₀ → News h₀ L s.heap news → Top p loose mean mg mb h₀ → cs.kind = .function →
    dp + d < recursionLimit → un + 8 * d < cLine → (∀ q ∈ need, q ∈ news) →
    (∀ r o h' tk', Fr h₀ L h' m → News h₀ L h' ((r, o) :: news) → (∀ p ∈ news, @Ne Nat p.1 r) → P o → Q (.ref r) { s with heap := h', toks := tk' }) →
    wpAny (model PR w) (ktrTop dp un gd cn cs L a ccd cl outer) (call (.ref f) vs) Q E s
theorem NewM_of (w : World) (d : Nat) (f : Addr) (need : List (Addr × Obj)) (vs : List Value) (P : Obj → Prop) (h : ∀  (v : KV), v.to (NewM9 w d f need vs P)) : NewM w d f need vs P := fun p loose mean mg mb dp un gd cn cs a ccd cl outer A₀ base h₀ L m news s Q E => h  ⟨p, loose, mean, mg, mb, dp, un, gd, cn, cs, a, ccd, cl, outer, A₀, base, h₀, L, m, news, s, Q, E⟩

variable {need : List (Addr × Obj)} {L : Addr} {news : List (Addr × Obj)} {r : Addr} {l : List (Addr × Obj)}
theorem NewM.use {w : World} {d : Nat} {f : Addr} {vs : List Value} {P : Obj → Prop} {p : Program} {loose : List Str} {mean : ExcName → Option Value} {mg mb : Str → Option Value}
    {dp un : Nat} {gd : Option (List Code)} {cn : Str} {cs : Scope} {a : Addr} {ccd : Value} {cl : List (Str × Addr)} {outer : List Env} {A₀ : Around} {base h₀ : Heap} {m : Str → Option Value} {s : Shared} {Q E : Value → Shared → Prop}
    (C : NewM w d f need vs P) (B : Below A₀ base outer h₀) (F : Fr h₀ L s.heap m) (X : (hd.heap_1 w.params).In h₀) (N : News h₀ L s.heap news) (T : Top p loose mean mg mb h₀) (hk : cs.kind = .function)
    (h1 : dp + d < recursionLimit) (h2 : un + 8 * d < cLine) (hn : ∀ q ∈ need, q ∈ news)
    (ret : ∀ r o h' tk', Fr h₀ L h' m → News h₀ L h' ((r, o) :: news) → (∀ p ∈ news, @Ne Nat p.1 r) → P o → Q (.ref r) { s with heap := h', toks := tk' }) :
    wpAny (model PR w) (ktrTop dp un gd cn cs L a ccd cl outer) (call (.ref f) vs) Q E s :=
  C _ _ _ _ _ _ _ _ _ _ _ _ _ _ _ _ _ _ _ _ _ _ _ B F X N T hk h1 h2 hn ret
theorem back_ne {g h : Heap} {o : Obj} (N : News g L h ((r, o) :: l)) (hg : ∀ p ∈ restOf need news, g.get? p.1 = some p.2) (hn : ∀ q ∈ need, @Ne Nat q.1 r) : ∀ p ∈ news, @Ne Nat p.1 r := fun p hp => by
  by_cases q : p.1 ∈ need.map (·.1)
  · obtain ⟨x, hx, e⟩ := List.mem_map.mp q
    exact e ▸ hn x hx
  · intro e
    have h1 := hg p (List.mem_filter.mpr ⟨hp, by simpa using q⟩)
    have h2 := (N (r, o) List.mem_cons_self).2.2
    have e' : p.1 = r := e
    rw [e'] at h1
    rw [h1] at h2
    cases h2
theorem ne_all_nil : ∀ q ∈ ([] : List (Addr × Obj)), @Ne Nat q.1 r := fun _ h => nomatch h
theorem ne_all_cons {q : Addr × Obj} (h : @Ne Nat q.1 r) (hl : ∀ x ∈ l, @Ne Nat x.1 r) : ∀ x ∈ q :: l, @Ne Nat x.1 r := fun x hx => by
  rcases List.mem_cons.mp hx with e | hx
  · rw [e]; exact h
  · exact hl x hx
def take_number_c_B (w : World) (pl pd sd : Addr) (j1 j2 j3 j4 j5 j6 j7 j8 j9 j10 j11 j12 j13 j14 j15 j16 j17 tnn : Tok) (v1 v5 v6 v7 v8 v9 v10 v11 v12 v13 v14 v15 v16 v17 : Value) (nn : Int) : Prop := RW = RW → UpdM w 4 571 pd (dictOf [⟨PyData.keyHash w.params (Str.ofString "name"), .str (Str.ofString "name") j1, v1⟩, ⟨PyData.keyHash w.params (Str.ofString "next_number"), .str (Str.ofString "next_number") j2, .int nn tnn⟩, ⟨PyData.keyHash w.params (Str.ofString "sent"), .str (Str.ofString "sent") j3, .ref sd⟩, ⟨PyData.keyHash w.params (Str.ofString "largest_acked"), .str (Str.ofString "largest_acked") j4, .none⟩, ⟨PyData.keyHash w.params (Str.ofString "acked"), .str (Str.ofString "acked") j5, v5⟩, ⟨PyData.keyHash w.params (Str.ofString "last_eliciting_time"), .str (Str.ofString "last_eliciting_time") j6, v6⟩, ⟨PyData.keyHash w.params (Str.ofString "loss_time"), .str (Str.ofString "loss_time") j7, v7⟩, ⟨PyData.keyHash w.params (Str.ofString "received"), .str (Str.ofString "received") j8, v8⟩, ⟨PyData.keyHash w.params (Str.ofString "largest_seen"), .str (Str.ofString "largest_seen") j9, v9⟩, ⟨PyData.keyHash w.params (Str.ofString "largest_time"), .str (Str.ofString "largest_time") j10, v10⟩, ⟨PyData.keyHash w.params (Str.ofString "floor"), .str (Str.ofString "floor") j11, v11⟩, ⟨PyData.keyHash w.params (Str.ofString "first_unacked"), .str (Str.ofString "first_unacked") j12, v12⟩, ⟨PyData.keyHash w.params (Str.ofString "unacked"), .str (Str.ofString "unacked") j13, v13⟩, ⟨PyData.keyHash w.params (Str.ofString "wants_now"), .str (Str.ofString "wants_now") j14, v14⟩, ⟨PyData.keyHash w.params (Str.ofString "has_new"), .str (Str.ofString "has_new") j15, v15⟩, ⟨PyData.keyHash w.params (Str.ofString "ecn"), .str (Str.ofString "ecn") j16, v16⟩, ⟨PyData.keyHash w.params (Str.ofString "is_gone"), .str (Str.ofString "is_gone") j17, v17⟩] 17) [(pl, instObj 654 pd)] [.ref pl] (fun vv oo => ∃ ta9 tb9, vv = .int nn ta9 ∧ oo = dictOf [⟨PyData.keyHash w.params (Str.ofString "name"), .str (Str.ofString "name") j1, v1⟩, ⟨PyData.keyHash w.params (Str.ofString "next_number"), .str (Str.ofString "next_number") j2, .int (nn + 1) tb9⟩, ⟨PyData.keyHash w.params (Str.ofString "sent"), .str (Str.ofString "sent") j3, .ref sd⟩, ⟨PyData.keyHash w.params (Str.ofString "largest_acked"), .str (Str.ofString "largest_acked") j4, .none⟩, ⟨PyData.keyHash w.params (Str.ofString "acked"), .str (Str.ofString "acked") j5, v5⟩, ⟨PyData.keyHash w.params (Str.ofString "last_eliciting_time"), .str (Str.ofString "last_eliciting_time") j6, v6⟩, ⟨PyData.keyHash w.params (Str.ofString "loss_time"), .str (Str.ofString "loss_time") j7, v7⟩, ⟨PyData.keyHash w.params (Str.ofString "received"), .str (Str.ofString "received") j8, v8⟩, ⟨PyData.keyHash w.params (Str.ofString "largest_seen"), .str (Str.ofString "largest_seen") j9, v9⟩, ⟨PyData.keyHash w.params (Str.ofString "largest_time"), .str (Str.ofString "largest_time") j10, v10⟩, ⟨PyData.keyHash w.params (Str.ofString "floor"), .str (Str.ofString "floor") j11, v11⟩, ⟨PyData.keyHash w.params (Str.ofString "first_unacked"), .str (Str.ofString "first_unacked") j12, v12⟩, ⟨PyData.keyHash w.params (Str.ofString "unacked"), .str (Str.ofString "unacked") j13, v13⟩, ⟨PyData.keyHash w.params (Str.ofString "wants_now"), .str (Str.ofString "wants_now") j14, v14⟩, ⟨PyData.keyHash w.params (Str.ofString "has_new"), .str (Str.ofString "has_new") j15, v15⟩, ⟨PyData.keyHash w.params (Str.ofString "ecn"), .str (Str.ofString "ecn") j16, v16⟩, ⟨PyData.keyHash w.params (Str.ofString "is_gone"), .str (Str.ofString "is_gone") j17, v17⟩] 17)
theorem take_number_c : ∀ w pl pd sd j1 j2 j3 j4 j5 j6 j7 j8 j9 j10 j11 j12 j13 j14 j15 j16 j17 tnn v1 v5 v6 v7 v8 v9 v10 v11 v12 v13 v14 v15 v16 v17 nn, take_number_c_B w pl pd sd j1 j2 j3 j4 j5 j6 j7 j8 j9 j10 j11 j12 j13 j14 j15 j16 j17 tnn v1 v5 v6 v7 v8 v9 v10 v11 v12 v13 v14 v15 v16 v17 nn := by
  refine ubx ?_
  simp (disch := k_dflt (
    refine tyP ?_
    refine' (?g9 : ∀ q : (∀ w pl pd sd j1 j2 j3 j4 j5 j6 j7 j8 j9 j10 j11 j12 j13 j14 j15 j16 j17 tnn v1 v5 v6 v7 v8 v9 v10 v11 v12 v13 v14 v15 v16 v17 nn, take_number_c_B w pl pd sd j1 j2 j3 j4 j5 j6 j7 j8 j9 j10 j11 j12 j13 j14 j15 j16 j17 tnn v1 v5 v6 v7 v8 v9 v10 v11 v12 v13 v14 v15 v16 v17 nn), Keep q → (∀ w pl pd sd j1 j2 j3 j4 j5 j6 j7 j8 j9 j10 j11 j12 j13 j14 j15 j16 j17 tnn v1 v5 v6 v7 v8 v9 v10 v11 v12 v13 v14 v15 v16 v17 nn, take_number_c_B w pl pd sd j1 j2 j3 j4 j5 j6 j7 j8 j9 j10 j11 j12 j13 j14 j15 j16 j17 tnn v1 v5 v6 v7 v8 v9 v10 v11 v12 v13 v14 v15 v16 v17 nn)) _ ?w9
    case g9 => exact fun q _ => q
    case w9 =>
      refine' kp9 ?h9 fun k9 => ?j9
      case h9 =>
        (repeat walk_at "CL9")
        rename_i w pl pd sd j1 j2 j3 j4 j5 j6 j7 j8 j9 j10 j11 j12 j13 j14 j15 j16 j17 tnn v1 v5 v6 v7 v8 v9 v10 v11 v12 v13 v14 v15 v16 v17 nn
        unfold take_number_c_B
        intro _
        refine UpdM_of _ _ _ _ _ _ _ _ ?_
        (repeat walk_at "CL9")
        rename_i g vk
        unfold KV.to UpdM9
        w_on
        w_top on
        intro B F X N T hk hd hu hU hneed hret
        have hne := upd_ne hU hneed
        simp only [List.mem_cons, List.not_mem_nil, or_false, forall_eq_or_imp, forall_eq, false_imp_iff, implies_true] at hne
        refine wpAny_call ?_
        k_dflt (refine' code_defF ?k1 ?k2 ?k3 (need_news (upd_need hU hneed) N) (restOf_news N) restOf_dis ?k5 ?kA ?kF ?kK ?k6 ?k7 ?k8 ?k9 ?kB ?_ ?c2 ?c3 ?c4 ?c5; (case kA => exact rfl); (case kF => exact rfl); (case kK => first | assumption | exact rfl); (case k1 => k_asm); (case k2 => k_asm); (case k3 => k_asm); (case k5 => k_asm); (case k6 => k_is); (case k7 => k_is); (case k8 => ktr_room); (case k9 => first | exact BindsTo.of_eq rfl | exact binds_K (by k_in) rfl (by k_is) rfl rfl rfl); (case c5 => decide); (case kB => exact locs (Eq.refl true)); (case c2 => exact rfl); (case c3 => exact rfl); (case c4 => exact rfl); k_whole; intro g' L' h' tk' FG' F' N' B' X' T' l1 lr; (try clear lr); (try dsimp only); (try k_lt l1); (try k_fold))
        w_strict (k_steps; (all_goals ((rename News _ _ _ (restOf _ _) => Nr9); (first | (rename News _ _ _ (_ :: _) => Nk9) | (rename News _ _ _ (_ ++ _) => Nk9) | (have Nk9 := @News.nil)); exact hret _ _ _ _ (by k_asm) (back_upd N hU hneed (news_sub Nk9 (by (repeat (first | exact sub_self | exact sub_left | exact sub_nil | (refine sub_cons (by k_mem) ?_) | refine sub_tail ?_)))) Nr9) (by (rw [show nn + 1 - 1 = nn by omega]; exact ⟨_, _, rfl, rfl⟩)))))
      case j9 => revert k9; (try delta id ap_mk hd_in hd_out); intro k9; (try conv at k9 => zeta); exact k9)) only [↓bxT]
def ack_sent_c_B (w : World) (pl pd sd : Addr) (j1 j2 j3 j4 j5 j6 j7 j8 j9 j10 j11 j12 j13 j14 j15 j16 j17 tnn : Tok) (v1 v5 v6 v7 v8 v9 v10 v11 v12 v13 v14 v15 v16 v17 : Value) (nn : Int) : Prop := RW = RW → UpdM w 4 557 pd (dictOf [⟨PyData.keyHash w.params (Str.ofString "name"), .str (Str.ofString "name") j1, v1⟩, ⟨PyData.keyHash w.params (Str.ofString "next_number"), .str (Str.ofString "next_number") j2, .int nn tnn⟩, ⟨PyData.keyHash w.params (Str.ofString "sent"), .str (Str.ofString "sent") j3, .ref sd⟩, ⟨PyData.keyHash w.params (Str.ofString "largest_acked"), .str (Str.ofString "largest_acked") j4, .none⟩, ⟨PyData.keyHash w.params (Str.ofString "acked"), .str (Str.ofString "acked") j5, v5⟩, ⟨PyData.keyHash w.params (Str.ofString "last_eliciting_time"), .str (Str.ofString "last_eliciting_time") j6, v6⟩, ⟨PyData.keyHash w.params (Str.ofString "loss_time"), .str (Str.ofString "loss_time") j7, v7⟩, ⟨PyData.keyHash w.params (Str.ofString "received"), .str (Str.ofString "received") j8, v8⟩, ⟨PyData.keyHash w.params (Str.ofString "largest_seen"), .str (Str.ofString "largest_seen") j9, v9⟩, ⟨PyData.keyHash w.params (Str.ofString "largest_time"), .str (Str.ofString "largest_time") j10, v10⟩, ⟨PyData.keyHash w.params (Str.ofString "floor"), .str (Str.ofString "floor") j11, v11⟩, ⟨PyData.keyHash w.params (Str.ofString "first_unacked"), .str (Str.ofString "first_unacked") j12, v12⟩, ⟨PyData.keyHash w.params (Str.ofString "unacked"), .str (Str.ofString "unacked") j13, v13⟩, ⟨PyData.keyHash w.params (Str.ofString "wants_now"), .str (Str.ofString "wants_now") j14, v14⟩, ⟨PyData.keyHash w.params (Str.ofString "has_new"), .str (Str.ofString "has_new") j15, v15⟩, ⟨PyData.keyHash w.params (Str.ofString "ecn"), .str (Str.ofString "ecn") j16, v16⟩, ⟨PyData.keyHash w.params (Str.ofString "is_gone"), .str (Str.ofString "is_gone") j17, v17⟩] 17) [(pl, instObj 654 pd)] [.ref pl] (fun _ oo => ∃ ta9 : Tok, oo = dictOf [⟨PyData.keyHash w.params (Str.ofString "name"), .str (Str.ofString "name") j1, v1⟩, ⟨PyData.keyHash w.params (Str.ofString "next_number"), .str (Str.ofString "next_number") j2, .int nn tnn⟩, ⟨PyData.keyHash w.params (Str.ofString "sent"), .str (Str.ofString "sent") j3, .ref sd⟩, ⟨PyData.keyHash w.params (Str.ofString "largest_acked"), .str (Str.ofString "largest_acked") j4, .none⟩, ⟨PyData.keyHash w.params (Str.ofString "acked"), .str (Str.ofString "acked") j5, v5⟩, ⟨PyData.keyHash w.params (Str.ofString "last_eliciting_time"), .str (Str.ofString "last_eliciting_time") j6, v6⟩, ⟨PyData.keyHash w.params (Str.ofString "loss_time"), .str (Str.ofString "loss_time") j7, v7⟩, ⟨PyData.keyHash w.params (Str.ofString "received"), .str (Str.ofString "received") j8, v8⟩, ⟨PyData.keyHash w.params (Str.ofString "largest_seen"), .str (Str.ofString "largest_seen") j9, v9⟩, ⟨PyData.keyHash w.params (Str.ofString "largest_time"), .str (Str.ofString "largest_time") j10, v10⟩, ⟨PyData.keyHash w.params (Str.ofString "floor"), .str (Str.ofString "floor") j11, v11⟩, ⟨PyData.keyHash w.params (Str.ofString "first_unacked"), .str (Str.ofString "first_unacked") j12, .none⟩, ⟨PyData.keyHash w.params (Str.ofString "unacked"), .str (Str.ofString "unacked") j13, .int 0 ta9⟩, ⟨PyData.keyHash w.params (Str.ofString "wants_now"), .str (Str.ofString "wants_now") j14, .bool false⟩, ⟨PyData.keyHash w.params (Str.ofString "has_new"), .str (Str.ofString "has_new") j15, .bool false⟩, ⟨PyData.keyHash w.params (Str.ofString "ecn"), .str (Str.ofString "ecn") j16, v16⟩, ⟨PyData.keyHash w.params (Str.ofString "is_gone"), .str (Str.ofString "is_gone") j17, v17⟩] 17)
theorem ack_sent_c : ∀ w pl pd sd j1 j2 j3 j4 j5 j6 j7 j8 j9 j10 j11 j12 j13 j14 j15 j16 j17 tnn v1 v5 v6 v7 v8 v9 v10 v11 v12 v13 v14 v15 v16 v17 nn, ack_sent_c_B w pl pd sd j1 j2 j3 j4 j5 j6 j7 j8 j9 j10 j11 j12 j13 j14 j15 j16 j17 tnn v1 v5 v6 v7 v8 v9 v10 v11 v12 v13 v14 v15 v16 v17 nn := by
  refine ubx ?_
  simp (disch := k_dflt (
    refine tyP ?_
    refine' (?g9 : ∀ q : (∀ w pl pd sd j1 j2 j3 j4 j5 j6 j7 j8 j9 j10 j11 j12 j13 j14 j15 j16 j17 tnn v1 v5 v6 v7 v8 v9 v10 v11 v12 v13 v14 v15 v16 v17 nn, ack_sent_c_B w pl pd sd j1 j2 j3 j4 j5 j6 j7 j8 j9 j10 j11 j12 j13 j14 j15 j16 j17 tnn v1 v5 v6 v7 v8 v9 v10 v11 v12 v13 v14 v15 v16 v17 nn), Keep q → (∀ w pl pd sd j1 j2 j3 j4 j5 j6 j7 j8 j9 j10 j11 j12 j13 j14 j15 j16 j17 tnn v1 v5 v6 v7 v8 v9 v10 v11 v12 v13 v14 v15 v16 v17 nn, ack_sent_c_B w pl pd sd j1 j2 j3 j4 j5 j6 j7 j8 j9 j10 j11 j12 j13 j14 j15 j16 j17 tnn v1 v5 v6 v7 v8 v9 v10 v11 v12 v13 v14 v15 v16 v17 nn)) _ ?w9
    case g9 => exact fun q _ => q
    case w9 =>
      refine' kp9 ?h9 fun k9 => ?j9
      case h9 =>
        (repeat walk_at "CL9")
        rename_i w pl pd sd j1 j2 j3 j4 j5 j6 j7 j8 j9 j10 j11 j12 j13 j14 j15 j16 j17 tnn v1 v5 v6 v7 v8 v9 v10 v11 v12 v13 v14 v15 v16 v17 nn
        unfold ack_sent_c_B
        intro _
        refine UpdM_of _ _ _ _ _ _ _ _ ?_
        (repeat walk_at "CL9")
        rename_i g vk
        unfold KV.to UpdM9
        w_on
        w_top on
        intro B F X N T hk hd hu hU hneed hret
        have hne := upd_ne hU hneed
        simp only [List.mem_cons, List.not_mem_nil, or_false, forall_eq_or_imp, forall_eq, false_imp_iff, implies_true] at hne
        refine wpAny_call ?_
        k_dflt (refine' code_defF ?k1 ?k2 ?k3 (need_news (upd_need hU hneed) N) (restOf_news N) restOf_dis ?k5 ?kA ?kF ?kK ?k6 ?k7 ?k8 ?k9 ?kB ?_ ?c2 ?c3 ?c4 ?c5; (case kA => exact rfl); (case kF => exact rfl); (case kK => first | assumption | exact rfl); (case k1 => k_asm); (case k2 => k_asm); (case k3 => k_asm); (case k5 => k_asm); (case k6 => k_is); (case k7 => k_is); (case k8 => ktr_room); (case k9 => first | exact BindsTo.of_eq rfl | exact binds_K (by k_in) rfl (by k_is) rfl rfl rfl); (case c5 => decide); (case kB => exact locs (Eq.refl true)); (case c2 => exact rfl); (case c3 => exact rfl); (case c4 => exact rfl); k_whole; intro g' L' h' tk' FG' F' N' B' X' T' l1 lr; (try clear lr); (try dsimp only); (try k_lt l1); (try k_fold))
        w_strict (k_steps; (all_goals ((rename News _ _ _ (restOf _ _) => Nr9); (first | (rename News _ _ _ (_ :: _) => Nk9) | (rename News _ _ _ (_ ++ _) => Nk9) | (have Nk9 := @News.nil)); exact hret _ _ _ _ (by k_asm) (back_upd N hU hneed (news_sub Nk9 (by (repeat (first | exact sub_self | exact sub_left | exact sub_nil | (refine sub_cons (by k_mem) ?_) | refine sub_tail ?_)))) Nr9) ⟨_, rfl⟩)))
      case j9 => revert k9; (try delta id ap_mk hd_in hd_out); intro k9; (try conv at k9 => zeta); exact k9)) only [↓bxT]
def ctl_sent_c_B (w : World) (ct cdd : Addr) (n1 n2 n3 n4 n5 n6 tfl : Tok) (w1 w2 w3 w4 w6 : Value) (fl k : Int) (tk9 : Tok) : Prop := RW = RW → UpdM w 4 400 cdd (dictOf [⟨PyData.keyHash w.params (Str.ofString "datagram"), .str (Str.ofString "datagram") n1, w1⟩, ⟨PyData.keyHash w.params (Str.ofString "window"), .str (Str.ofString "window") n2, w2⟩, ⟨PyData.keyHash w.params (Str.ofString "threshold"), .str (Str.ofString "threshold") n3, w3⟩, ⟨PyData.keyHash w.params (Str.ofString "recovery_at"), .str (Str.ofString "recovery_at") n4, w4⟩, ⟨PyData.keyHash w.params (Str.ofString "in_flight"), .str (Str.ofString "in_flight") n5, .int fl tfl⟩, ⟨PyData.keyHash w.params (Str.ofString "credit"), .str (Str.ofString "credit") n6, w6⟩] 6) [(ct, instObj 445 cdd)] [.ref ct, .int k tk9] (fun _ oo => ∃ ta9 : Tok, oo = dictOf [⟨PyData.keyHash w.params (Str.ofString "datagram"), .str (Str.ofString "datagram") n1, w1⟩, ⟨PyData.keyHash w.params (Str.ofString "window"), .str (Str.ofString "window") n2, w2⟩, ⟨PyData.keyHash w.params (Str.ofString "threshold"), .str (Str.ofString "threshold") n3, w3⟩, ⟨PyData.keyHash w.params (Str.ofString "recovery_at"), .str (Str.ofString "recovery_at") n4, w4⟩, ⟨PyData.keyHash w.params (Str.ofString "in_flight"), .str (Str.ofString "in_flight") n5, .int (fl + k) ta9⟩, ⟨PyData.keyHash w.params (Str.ofString "credit"), .str (Str.ofString "credit") n6, w6⟩] 6)
theorem ctl_sent_c : ∀ w ct cdd n1 n2 n3 n4 n5 n6 tfl w1 w2 w3 w4 w6 fl k tk9, ctl_sent_c_B w ct cdd n1 n2 n3 n4 n5 n6 tfl w1 w2 w3 w4 w6 fl k tk9 := by
  refine ubx ?_
  simp (disch := k_dflt (
    refine tyP ?_
    refine' (?g9 : ∀ q : (∀ w ct cdd n1 n2 n3 n4 n5 n6 tfl w1 w2 w3 w4 w6 fl k tk9, ctl_sent_c_B w ct cdd n1 n2 n3 n4 n5 n6 tfl w1 w2 w3 w4 w6 fl k tk9), Keep q → (∀ w ct cdd n1 n2 n3 n4 n5 n6 tfl w1 w2 w3 w4 w6 fl k tk9, ctl_sent_c_B w ct cdd n1 n2 n3 n4 n5 n6 tfl w1 w2 w3 w4 w6 fl k tk9)) _ ?w9
    case g9 => exact fun q _ => q
    case w9 =>
      refine' kp9 ?h9 fun k9 => ?j9
      case h9 =>
        (repeat walk_at "CL9")
        rename_i w ct cdd n1 n2 n3 n4 n5 n6 tfl w1 w2 w3 w4 w6 fl k tk9
        unfold ctl_sent_c_B
        intro _
        refine UpdM_of _ _ _ _ _ _ _ _ ?_
        (repeat walk_at "CL9")
        rename_i g vk
        unfold KV.to UpdM9
        w_on
        w_top on
        intro B F X N T hk hd hu hU hneed hret
        have hne := upd_ne hU hneed
        simp only [List.mem_cons, List.not_mem_nil, or_false, forall_eq_or_imp, forall_eq, false_imp_iff, implies_true] at hne
        refine wpAny_call ?_
        k_dflt (refine' code_defF ?k1 ?k2 ?k3 (need_news (upd_need hU hneed) N) (restOf_news N) restOf_dis ?k5 ?kA ?kF ?kK ?k6 ?k7 ?k8 ?k9 ?kB ?_ ?c2 ?c3 ?c4 ?c5; (case kA => exact rfl); (case kF => exact rfl); (case kK => first | assumption | exact rfl); (case k1 => k_asm); (case k2 => k_asm); (case k3 => k_asm); (case k5 => k_asm); (case k6 => k_is); (case k7 => k_is); (case k8 => ktr_room); (case k9 => first | exact BindsTo.of_eq rfl | exact binds_K (by k_in) rfl (by k_is) rfl rfl rfl); (case c5 => decide); (case kB => exact locs (Eq.refl true)); (case c2 => exact rfl); (case c3 => exact rfl); (case c4 => exact rfl); k_whole; intro g' L' h' tk' FG' F' N' B' X' T' l1 lr; (try clear lr); (try dsimp only); (try k_lt l1); (try k_fold))
        w_strict (k_steps; (all_goals ((rename News _ _ _ (restOf _ _) => Nr9); (first | (rename News _ _ _ (_ :: _) => Nk9) | (rename News _ _ _ (_ ++ _) => Nk9) | (have Nk9 := @News.nil)); exact hret _ _ _ _ (by k_asm) (back_upd N hU hneed (news_sub Nk9 (by (repeat (first | exact sub_self | exact sub_left | exact sub_nil | (refine sub_cons (by k_mem) ?_) | refine sub_tail ?_)))) Nr9) ⟨_, rfl⟩)))
      case j9 => revert k9; (try delta id ap_mk hd_in hd_out); intro k9; (try conv at k9 => zeta); exact k9)) only [↓bxT]
end
section
set_option Elab.async false
set_option maxRecDepth 100000
set_option maxHeartbeats 2000000
theorem J3_rows0 : True := by
  k_with_none
  trivial
theorem J3_rows1 : True := by
  (k_with "k_room" => (ktr_room))
  (k_with "k_units" => (ktr_units))
  (k_with "execs cons" => (k_here; (rename News _ _ _ _ => N9); (dsimp only at N9); refine wpAny_execs_cons ?_))
  trivial
def SpaceNew (w : World) (d : Nat) (nm : Value) : Prop :=
  ∀ (p : Program) (loose : List Str) (mean : ExcName → Option Value) (mg mb : Str → Option Value)
    (dp un : Nat) (gd : Option (List Code)) (cn : Str) (cs : Scope) (a : Addr) (ccd : Value) (cl : List (Str × Addr)) (outer : List Env) (A₀ : Around) (base h₀ : Heap) (L : Addr) (m : Str → Option Value) (news : List (Addr × Obj)) (s : Shared) (Q E : Value → Shared → Prop),
    Below A₀ base outer h₀ → Fr h₀ L s.heap m → (hd.heap_1 w.params).In h₀ → News h₀ L s.heap news → Top p loose mean mg mb h₀ → cs.kind = .function →
    dp + d < recursionLimit → un + 8 * d < cLine →
    (∀ (pl pd sd : Addr) (osd : Obj) (j1 j2 j3 j4 j5 j6 j7 j8 j9 j10 j11 j12 j13 j14 j15 j16 j17 tnn : Tok) (v1 v5 v6 v7 v8 v9 v10 v11 v12 v13 v14 v15 v16 v17 : Value) h' tk', Fr h₀ L h' m → News h₀ L h' ((pl, instObj 654 pd) :: (pd, dictOf [⟨PyData.keyHash w.params (Str.ofString "name"), .str (Str.ofString "name") j1, v1⟩, ⟨PyData.keyHash w.params (Str.ofString "next_number"), .str (Str.ofString "next_number") j2, .int 0 tnn⟩, ⟨PyData.keyHash w.params (Str.ofString "sent"), .str (Str.ofString "sent") j3, .ref sd⟩, ⟨PyData.keyHash w.params (Str.ofString "largest_acked"), .str (Str.ofString "largest_acked") j4, .none⟩, ⟨PyData.keyHash w.params (Str.ofString "acked"), .str (Str.ofString "acked") j5, v5⟩, ⟨PyData.keyHash w.params (Str.ofString "last_eliciting_time"), .str (Str.ofString "last_eliciting_time") j6, v6⟩, ⟨PyData.keyHash w.params (Str.ofString "loss_time"), .str (Str.ofString "loss_time") j7, v7⟩, ⟨PyData.keyHash w.params (Str.ofString "received"), .str (Str.ofString "received") j8, v8⟩, ⟨PyData.keyHash w.params (Str.ofString "largest_seen"), .str (Str.ofString "largest_seen") j9, v9⟩, ⟨PyData.keyHash w.params (Str.ofString "largest_time"), .str (Str.ofString "largest_time") j10, v10⟩, ⟨PyData.keyHash w.params (Str.ofString "floor"), .str (Str.ofString "floor") j11, v11⟩, ⟨PyData.keyHash w.params (Str.ofString "first_unacked"), .str (Str.ofString "first_unacked") j12, v12⟩, ⟨PyData.keyHash w.params (Str.ofString "unacked"), .str (Str.ofString "unacked") j13, v13⟩, ⟨PyData.keyHash w.params (Str.ofString "wants_now"), .str (Str.ofString "wants_now") j14, v14⟩, ⟨PyData.keyHash w.params (Str.ofString "has_new"), .str (Str.ofString "has_new") j15, v15⟩, ⟨PyData.keyHash w.params (Str.ofString "ecn"), .str (Str.ofString "ecn") j16, v16⟩, ⟨PyData.keyHash w.params (Str.ofString "is_gone"), .str (Str.ofString "is_gone") j17, v17⟩] 17) :: (sd, osd) :: news) → (∀ p ∈ news, p.1 < pd) → @LT.lt Nat _ pd pl → @LT.lt Nat _ pl sd → osd.IsDictOf (PySem.intKind PR w) [] → (sd == sysModules) = false → Q (.ref pl) { s with heap := h', toks := tk' }) →
    wpAny (model PR w) (ktrTop dp un gd cn cs L a ccd cl outer) (call (.ref 654) [nm]) Q E s
def SpaceNew9 (w : World) (d : Nat) (nm : Value) (p : Program) (loose : List Str) (mean : ExcName → Option Value) (mg : Str → Option Value) (mb : Str → Option Value) (dp : Nat) (un : Nat) (gd : Option (List Code)) (cn : Str) (cs : Scope) (a : Addr) (ccd : Value) (cl : List (Str × Addr)) (outer : List Env) (A₀ : Around) (base : Heap) (h₀ : Heap) (L : Addr) (m : Str → Option Value) (news : List (Addr × Obj)) (s : Shared) (Q : Value → Shared → Prop) (E : Value → Shared → Prop) : Prop :=
    Below A₀ base outer h₀ → Fr h₀ L s.heap m → (hd.heap_1 w.params).In h₀ → News h₀ L s.heap news → Top p loose mean mg mb h₀ → cs.kind = .function →
    dp + d < recursionLimit → un + 8 * d < cLine →
    (∀ (pl pd sd : Addr) (osd : Obj) (j1 j2 j3 j4 j5 j6 j7 j8 j9 j10 j11 j12 j13 j14 j15 j16 j17 tnn : Tok) (v1 v5 v6 v7 v8 v9 v10 v11 v12 v13 v14 v15 v16 v17 : Value) h' tk', Fr h₀ L h' m → News h₀ L h' ((pl, instObj 654 pd) :: (pd, dictOf [⟨PyData.keyHash w.params (Str.ofString "name"), .str (Str.ofString "name") j1, v1⟩, ⟨PyData.keyHash w.params (Str.ofString "next_number"), .str (Str.ofString "next_number") j2, .int 0 tnn⟩, ⟨PyData.keyHash w.params (Str.ofString "sent"), .str (Str.ofString "sent") j3, .ref sd⟩, ⟨PyData.keyHash w.params (Str.ofString "largest_acked"), .str (Str.ofString "largest_acked") j4, .none⟩, ⟨PyData.keyHash w.params (Str.ofString "acked"), .str (Str.ofString "acked") j5, v5⟩, ⟨PyData.keyHash w.params (Str.ofString "last_eliciting_time"), .str (Str.ofString "last_eliciting_time") j6, v6⟩, ⟨PyData.keyHash w.params (Str.ofString "loss_time"), .str (Str.ofString "loss_time") j7, v7⟩, ⟨PyData.keyHash w.params (Str.ofString "received"), .str (Str.ofString "received") j8, v8⟩, ⟨PyData.keyHash w.params (Str.ofString "largest_seen"), .str (Str.ofString "largest_seen") j9, v9⟩, ⟨PyData.keyHash w.params (Str.ofString "largest_time"), .str (Str.ofString "largest_time") j10, v10⟩, ⟨PyData.keyHash w.params (Str.ofString "floor"), .str (Str.ofString "floor") j11, v11⟩, ⟨PyData.keyHash w.params (Str.ofString "first_unacked"), .str (Str.ofString "first_unacked") j12, v12⟩, ⟨PyData.keyHash w.params (Str.ofString "unacked"), .str (Str.ofString "unacked") j13, v13⟩, ⟨PyData.keyHash w.params (Str.ofString "wants_now"), .str (Str.ofString "wants_now") j14, v14⟩, ⟨PyData.keyHash w.params (Str.ofString "has_new"), .str (Str.ofString "has_new") j15, v15⟩, ⟨PyData.keyHash w.params (Str.ofString "ecn"), .str (Str.ofString "ecn") j16, v16⟩, ⟨PyData.keyHash w.params (Str.ofString "is_gone"), .str (Str.ofString "is_gone") j17, v17⟩] 17) :: (sd, osd) :: news) → (∀ p ∈ news, p.1 < pd) → @LT.lt Nat _ pd pl → @LT.lt Nat _ pl sd → osd.IsDictOf (PySem.intKind PR w) [] → (sd == sysModules) = false → Q (.ref pl) { s with heap := h', toks := tk' }) →
    wpAny (model PR w) (ktrTop dp un gd cn cs L a ccd cl outer) (call (.ref 654) [nm]) Q E s
theorem SpaceNew_of (w : World) (d : Nat) (nm : Value) (h : ∀  (v : KV), v.to (SpaceNew9 w d nm)) : SpaceNew w d nm := fun p loose mean mg mb dp un gd cn cs a ccd cl outer A₀ base h₀ L m news s Q E => h  ⟨p, loose, mean, mg, mb, dp, un, gd, cn, cs, a, ccd, cl, outer, A₀, base, h₀, L, m, news, s, Q, E⟩

variable {h₀ h : Heap} {L : Addr} {l : List (Addr × Obj)}
theorem news_head2 {a b : Addr × Obj} (N : News h₀ L h (a :: b :: l)) : News h₀ L h [a, b] := fun p hp => by
  rcases List.mem_cons.mp hp with e | hp
  · rw [e]; exact N _ List.mem_cons_self
  · rw [List.mem_singleton.mp hp]; exact N _ (List.mem_cons_of_mem _ List.mem_cons_self)
theorem off2 {a b : Addr} {oa ob : Obj} (h : ∀ p ∈ l, @LT.lt Nat _ p.1 b) (hb : @LT.lt Nat _ b a) : ∀ p ∈ l, p.1 ∉ ([(a, oa), (b, ob)] : List (Addr × Obj)).map (·.1) := fun p hp => by
  have h1 : @LT.lt Nat _ p.1 b := h p hp
  have hb' : @LT.lt Nat _ b a := hb
  simp only [List.map_cons, List.map_nil, List.mem_cons, List.not_mem_nil, or_false, not_or]
  exact ⟨fun e => by have e' : @Eq Nat p.1 a := e; omega, fun e => by have e' : @Eq Nat p.1 b := e; omega⟩
theorem news_three {a b c : Addr × Obj} {news : List (Addr × Obj)} (N : News h₀ L h l) (h1 : a ∈ l) (h2 : b ∈ l) (h3 : c ∈ l) (Nr : News h₀ L h news) : News h₀ L h (a :: b :: c :: news) := fun p hp => by
  rcases List.mem_cons.mp hp with e | hp
  · rw [e]; exact N _ h1
  · rcases List.mem_cons.mp hp with e | hp
    · rw [e]; exact N _ h2
    · rcases List.mem_cons.mp hp with e | hp
      · rw [e]; exact N _ h3
      · exact Nr p hp
def space_new_B (w : World) (nm : Str) (tn : Tok) : Prop := RW = RW → SpaceNew w 8 (.str nm tn)
theorem space_new : ∀ w nm tn, space_new_B w nm tn := by
  refine ubx ?_
  simp (disch := k_dflt (
    refine tyP ?_
    refine' (?g9 : ∀ q : (∀ w nm tn, space_new_B w nm tn), Keep q → (∀ w nm tn, space_new_B w nm tn)) _ ?w9
    case g9 => exact fun q _ => q
    case w9 =>
      refine' kp9 ?h9 fun k9 => ?j9
      case h9 =>
        (repeat walk_at "CL9")
        rename_i w nm tn
        unfold space_new_B
        intro _
        refine SpaceNew_of _ _ _ ?_
        (repeat walk_at "CL9")
        rename_i  vk
        unfold KV.to SpaceNew9
        w_on
        w_top on
        intro B F X N T hk hd hu hret
        refine wpAny_call ?_
        k_dflt (refine' make_K F N (X.keeps F.keep) ?m1 ?m2 ?m3 ?_; (case m1 => k_is); (case m2 => k_is); (case m3 => k_is))
        intro pl pd h1 F1 N1 o1 o2
        replace o2 := ltN o2
        have N2 : News vk.h₀ vk.L h1 [(pl, instObj 654 pd), (pd, dictOf [] 0)] := news_head2 N1
        have Nr := nd2 N1
        k_dflt (refine' code_defF B F1 X N2 Nr (off2 o1 o2) T ?kA ?kF ?kK ?k6 ?k7 ?k8 ?k9 ?kB ?_ ?c2 ?c3 ?c4 ?c5; (case kA => exact rfl); (case kF => exact rfl); (case kK => first | assumption | exact rfl); (case k6 => k_is); (case k7 => k_is); (case k8 => ktr_room); (case k9 => first | exact BindsTo.of_eq rfl | exact binds_K (by k_in) rfl (by k_is) rfl rfl rfl); (case c5 => decide); (case kB => exact locs (Eq.refl true)); (case c2 => exact rfl); (case c3 => exact rfl); (case c4 => exact rfl); k_whole; intro g' L' h' tk' FG' F' N' B' X' T' l1 lr; (clear lr); (try dsimp only); (try k_lt l1); (try k_fold))
        clear Nr N2 N1
        w_strict (k_steps; (all_goals ((refine ⟨rfl, ?_⟩); (rename News _ _ _ vk.news => Nr9); (rename News _ _ _ (_ :: _) => Nk9); exact hret _ _ _ _ _ _ _ _ _ _ _ _ _ _ _ _ _ _ _ _ _ _ _ _ _ _ _ _ _ _ _ _ _ _ _ _ _ _ (by k_asm) (news_three Nk9 (by k_mem) (by k_mem) (by k_mem) Nr9) o1 o2 (ltN (by omega)) (by assumption) (by assumption))))
      case j9 => revert k9; (try delta id ap_mk hd_in hd_out); intro k9; (try conv at k9 => zeta); exact k9)) only [↓bxT]
end
section
set_option Elab.async false
set_option maxRecDepth 100000
set_option maxHeartbeats 2000000
theorem J4_rows0 : True := by
  k_with_none
  trivial
theorem J4_rows1 : True := by
  (k_with "k_room" => (ktr_room))
  (k_with "k_units" => (ktr_units))
  (k_with "execs cons" => (k_here; (rename News _ _ _ _ => N9); (dsimp only at N9); refine wpAny_execs_cons ?_))
  trivial
theorem news_two {h₀ h : Heap} {L : Addr} {a b : Addr × Obj} {l news : List (Addr × Obj)} (N : News h₀ L h l) (h1 : a ∈ l) (h2 : b ∈ l) (Nr : News h₀ L h news) : News h₀ L h (a :: b :: news) := fun p hp => by
  rcases List.mem_cons.mp hp with e | hp
  · rw [e]; exact N _ h1
  · rcases List.mem_cons.mp hp with e | hp
    · rw [e]; exact N _ h2
    · exact Nr p hp
def RenoNew (w : World) (d : Nat) (x : Value) : Prop :=
  ∀ (p : Program) (loose : List Str) (mean : ExcName → Option Value) (mg mb : Str → Option Value)
    (dp un : Nat) (gd : Option (List Code)) (cn : Str) (cs : Scope) (a : Addr) (ccd : Value) (cl : List (Str × Addr)) (outer : List Env) (A₀ : Around) (base h₀ : Heap) (L : Addr) (m : Str → Option Value) (news : List (Addr × Obj)) (s : Shared) (Q E : Value → Shared → Prop),
    Below A₀ base outer h₀ → Fr h₀ L s.heap m → (hd.heap_1 w.params).In h₀ → News h₀ L s.heap news → Top p loose mean mg mb h₀ → cs.kind = .function →
    dp + d < recursionLimit → un + 8 * d < cLine →
    (∀ (ct cdd : Addr) (n1 n2 n3 n4 n5 n6 tfl : Tok) (w1 w2 w3 w4 w6 : Value) h' tk', Fr h₀ L h' m → News h₀ L h' ((ct, instObj 445 cdd) :: (cdd, dictOf [⟨PyData.keyHash w.params (Str.ofString "datagram"), .str (Str.ofString "datagram") n1, w1⟩, ⟨PyData.keyHash w.params (Str.ofString "window"), .str (Str.ofString "window") n2, w2⟩, ⟨PyData.keyHash w.params (Str.ofString "threshold"), .str (Str.ofString "threshold") n3, w3⟩, ⟨PyData.keyHash w.params (Str.ofString "recovery_at"), .str (Str.ofString "recovery_at") n4, w4⟩, ⟨PyData.keyHash w.params (Str.ofString "in_flight"), .str (Str.ofString "in_flight") n5, .int 0 tfl⟩, ⟨PyData.keyHash w.params (Str.ofString "credit"), .str (Str.ofString "credit") n6, w6⟩] 6) :: news) → (∀ p ∈ news, p.1 < cdd) → @LT.lt Nat _ cdd ct → Q (.ref ct) { s with heap := h', toks := tk' }) →
    wpAny (model PR w) (ktrTop dp un gd cn cs L a ccd cl outer) (call (.ref 445) [x]) Q E s
def RenoNew9 (w : World) (d : Nat) (x : Value) (p : Program) (loose : List Str) (mean : ExcName → Option Value) (mg : Str → Option Value) (mb : Str → Option Value) (dp : Nat) (un : Nat) (gd : Option (List Code)) (cn : Str) (cs : Scope) (a : Addr) (ccd : Value) (cl : List (Str × Addr)) (outer : List Env) (A₀ : Around) (base : Heap) (h₀ : Heap) (L : Addr) (m : Str → Option Value) (news : List (Addr × Obj)) (s : Shared) (Q : Value → Shared → Prop) (E : Value → Shared → Prop) : Prop :=
    Below A₀ base outer h₀ → Fr h₀ L s.heap m → (hd.heap_1 w.params).In h₀ → News h₀ L s.heap news → Top p loose mean mg mb h₀ → cs.kind = .function →
    dp + d < recursionLimit → un + 8 * d < cLine →
    (∀ (ct cdd : Addr) (n1 n2 n3 n4 n5 n6 tfl : Tok) (w1 w2 w3 w4 w6 : Value) h' tk', Fr h₀ L h' m → News h₀ L h' ((ct, instObj 445 cdd) :: (cdd, dictOf [⟨PyData.keyHash w.params (Str.ofString "datagram"), .str (Str.ofString "datagram") n1, w1⟩, ⟨PyData.keyHash w.params (Str.ofString "window"), .str (Str.ofString "window") n2, w2⟩, ⟨PyData.keyHash w.params (Str.ofString "threshold"), .str (Str.ofString "threshold") n3, w3⟩, ⟨PyData.keyHash w.params (Str.ofString "recovery_at"), .str (Str.ofString "recovery_at") n4, w4⟩, ⟨PyData.keyHash w.params (Str.ofString "in_flight"), .str (Str.ofString "in_flight") n5, .int 0 tfl⟩, ⟨PyData.keyHash w.params (Str.ofString "credit"), .str (Str.ofString "credit") n6, w6⟩] 6) :: news) → (∀ p ∈ news, p.1 < cdd) → @LT.lt Nat _ cdd ct → Q (.ref ct) { s with heap := h', toks := tk' }) →
    wpAny (model PR w) (ktrTop dp un gd cn cs L a ccd cl outer) (call (.ref 445) [x]) Q E s
theorem RenoNew_of (w : World) (d : Nat) (x : Value) (h : ∀  (v : KV), v.to (RenoNew9 w d x)) : RenoNew w d x := fun p loose mean mg mb dp un gd cn cs a ccd cl outer A₀ base h₀ L m news s Q E => h  ⟨p, loose, mean, mg, mb, dp, un, gd, cn, cs, a, ccd, cl, outer, A₀, base, h₀, L, m, news, s, Q, E⟩

def reno_new_B (w : World) (tn : Tok) : Prop := RW = RW → RenoNew w 12 (.int 1200 tn)
theorem reno_new : ∀ w tn, reno_new_B w tn := by
  refine ubx ?_
  simp (disch := k_dflt (
    refine tyP ?_
    refine' (?g9 : ∀ q : (∀ w tn, reno_new_B w tn), Keep q → (∀ w tn, reno_new_B w tn)) _ ?w9
    case g9 => exact fun q _ => q
    case w9 =>
      refine' kp9 ?h9 fun k9 => ?j9
      case h9 =>
        (repeat walk_at "CL9")
        rename_i w tn
        unfold reno_new_B
        intro _
        refine RenoNew_of _ _ _ ?_
        (repeat walk_at "CL9")
        rename_i  vk
        unfold KV.to RenoNew9
        w_on
        w_top on
        intro B F X N T hk hd hu hret
        refine wpAny_call ?_
        k_dflt (refine' make_K F N (X.keeps F.keep) ?m1 ?m2 ?m3 ?_; (case m1 => k_is); (case m2 => k_is); (case m3 => k_is))
        intro pl pd h1 F1 N1 o1 o2
        replace o2 := ltN o2
        have N2 : News vk.h₀ vk.L h1 [(pl, instObj 445 pd), (pd, dictOf [] 0)] := news_head2 N1
        have Nr := nd2 N1
        k_dflt (refine' code_defF B F1 X N2 Nr (off2 o1 o2) T ?kA ?kF ?kK ?k6 ?k7 ?k8 ?k9 ?kB ?_ ?c2 ?c3 ?c4 ?c5; (case kA => exact rfl); (case kF => exact rfl); (case kK => first | assumption | exact rfl); (case k6 => k_is); (case k7 => k_is); (case k8 => ktr_room); (case k9 => first | exact BindsTo.of_eq rfl | exact binds_K (by k_in) rfl (by k_is) rfl rfl rfl); (case c5 => decide); (case kB => exact locs (Eq.refl true)); (case c2 => exact rfl); (case c3 => exact rfl); (case c4 => exact rfl); k_whole; intro g' L' h' tk' FG' F' N' B' X' T' l1 lr; (clear lr); (try dsimp only); (try k_lt l1); (try k_fold))
        clear Nr N2 N1
        w_strict (k_steps; (all_goals ((refine ⟨rfl, ?_⟩); (rename News _ _ _ vk.news => Nr9); (rename News _ _ _ (_ :: _) => Nk9); exact hret _ _ _ _ _ _ _ _ _ _ _ _ _ _ _ _ (by k_asm) (news_two Nk9 (by k_mem) (by k_mem) Nr9) o1 o2)))
      case j9 => revert k9; (try delta id ap_mk hd_in hd_out); intro k9; (try conv at k9 => zeta); exact k9)) only [↓bxT]
end
section
set_option Elab.async false
set_option maxRecDepth 100000
set_option maxHeartbeats 2000000
theorem J5_rows0 : True := by
  k_with_none
  trivial
theorem J5_rows1 : True := by
  (k_with "k_room" => (ktr_room))
  (k_with "k_units" => (ktr_units))
  trivial
theorem tup_post {P : Obj → Prop} {o : Obj} (h : P o) : P o := h
def packet_with_c_B (w : World) (it : Addr) (pb1 pb2 pb3 : Array UInt8) (tp1 tp2 tp3 ts tn : Tok) (nn : Int) : Prop := RW = RW → NewM w 4 96 [(it, { cls := .type "tuple", data := .seq #[.bytes pb1 tp1, .bytes pb2 tp2] })] [.ref it, .str (Str.ofString "application") ts, .int nn tn, .bytes pb3 tp3] (fun oo => ∃ t0 t1 t2 : Tok, oo = { cls := .type "tuple", data := .seq #[.str (Str.ofString "short") t0, .int 0 t1, .int 0 t2, .bytes pb1 tp1, .int nn tn, .bytes pb3 tp3] })
theorem packet_with_c : ∀ w it pb1 pb2 pb3 tp1 tp2 tp3 ts tn nn, packet_with_c_B w it pb1 pb2 pb3 tp1 tp2 tp3 ts tn nn := by
  refine ubx ?_
  simp (disch := k_dflt (
    refine tyP ?_
    refine' (?g9 : ∀ q : (∀ w it pb1 pb2 pb3 tp1 tp2 tp3 ts tn nn, packet_with_c_B w it pb1 pb2 pb3 tp1 tp2 tp3 ts tn nn), Keep q → (∀ w it pb1 pb2 pb3 tp1 tp2 tp3 ts tn nn, packet_with_c_B w it pb1 pb2 pb3 tp1 tp2 tp3 ts tn nn)) _ ?w9
    case g9 => exact fun q _ => q
    case w9 =>
      refine' kp9 ?h9 fun k9 => ?j9
      case h9 =>
        (repeat walk_at "CL9")
        rename_i w it pb1 pb2 pb3 tp1 tp2 tp3 ts tn nn
        unfold packet_with_c_B
        intro _
        refine NewM_of _ _ _ _ _ _ ?_
        (repeat walk_at "CL9")
        rename_i  vk
        unfold KV.to NewM9
        w_on
        w_top on
        intro B F X N T hk hd hu hneed hret
        refine wpAny_call ?_
        k_dflt (refine' code_defF ?k1 ?k2 ?k3 (need_news hneed N) (restOf_news N) restOf_dis ?k5 ?kA ?kF ?kK ?k6 ?k7 ?k8 ?k9 ?kB ?_ ?c2 ?c3 ?c4 ?c5; (case kA => exact rfl); (case kF => exact rfl); (case kK => first | assumption | exact rfl); (case k1 => k_asm); (case k2 => k_asm); (case k3 => k_asm); (case k5 => k_asm); (case k6 => k_is); (case k7 => k_is); (case k8 => ktr_room); (case k9 => first | exact BindsTo.of_eq rfl | exact binds_K (by k_in) rfl (by k_is) rfl rfl rfl); (case c5 => decide); (case kB => exact locs (Eq.refl true)); (case c2 => exact rfl); (case c3 => exact rfl); (case c4 => exact rfl); k_whole; intro g' L' h' tk' FG' F' N' B' X' T' l1 lr; (have hlr9 := fun p hp => (lr p hp).2); (clear lr); (try dsimp only); (try k_lt l1); (try k_fold))
        w_strict (k_steps; (all_goals ((rename News _ _ _ (restOf _ _) => Nr9); (rename News _ _ _ (_ :: _) => Nk9); exact hret _ _ _ _ (by k_asm) (news_cons9 Nk9 (back_pure N hneed (news_sub Nk9 (by (repeat (first | exact sub_self | exact sub_left | exact sub_nil | (refine sub_cons (by k_mem) ?_) | refine sub_tail ?_)))) Nr9)) (back_ne (by assumption) hlr9 (by (repeat (first | exact ne_all_nil | (refine ne_all_cons (by k_ne) ?_))))) ⟨_, _, _, rfl⟩)))
      case j9 => revert k9; (try delta id ap_mk hd_in hd_out); intro k9; (try conv at k9 => zeta); exact k9)) only [↓bxT]
end
section
set_option Elab.async false
set_option maxRecDepth 100000
set_option maxHeartbeats 4000000
theorem J6_rows0 : True := by
  k_with_none
  trivial
theorem J6_rows1 : True := by
  (k_with "k_room" => (ktr_room))
  (k_with "k_units" => (ktr_units))
  trivial
inductive Without (x : Addr) : List (Addr × Obj) → List (Addr × Obj) → Prop
  | nil : Without x [] []
  | skip {o r r'} : Without x r r' → Without x ((x, o) :: r) r'
  | keep {p r r'} : @Ne Nat p.1 x → Without x r r' → Without x (p :: r) (p :: r')
theorem Without.mem {x : Addr} : ∀ {l l' : List (Addr × Obj)}, Without x l l' → ∀ p ∈ l', p ∈ l ∧ @Ne Nat p.1 x
  | _, _, .nil, _, h => nomatch h
  | _, _, .skip w, p, h => ⟨List.mem_cons_of_mem _ (w.mem p h).1, (w.mem p h).2⟩
  | _, _, .keep hne w, p, h => by
    rcases List.mem_cons.mp h with e | h
    · rw [e]; exact ⟨List.mem_cons_self, hne⟩
    · exact ⟨List.mem_cons_of_mem _ (w.mem p h).1, (w.mem p h).2⟩
theorem back_two {h₀ h h' : Heap} {L x y : Addr} {ox oy : Obj} {keep news l1 l : List (Addr × Obj)} (N : News h₀ L h news) (hneed : ∀ q ∈ (x, ox) :: (y, oy) :: keep, q ∈ news) (W1 : Without x news l1) (W2 : Without y l1 l) (N1 : News h₀ L h' keep) (N2 : News h₀ L h' (restOf ((x, ox) :: (y, oy) :: keep) news)) : News h₀ L h' l := fun p hp => by
  obtain ⟨m2, n2⟩ := W2.mem p hp
  obtain ⟨m1, n1⟩ := W1.mem p m2
  by_cases q : p.1 ∈ keep.map (·.1)
  · obtain ⟨r, hr, e⟩ := List.mem_map.mp q
    have h1 := (N r (hneed r (List.mem_cons_of_mem _ (List.mem_cons_of_mem _ hr)))).1
    rw [e, (N p m1).1] at h1
    have e2 : r = p := Prod.ext e (Option.some.inj h1).symm
    exact e2 ▸ N1 r hr
  · refine N2 p (List.mem_filter.mpr ⟨m1, ?_⟩)
    simp only [List.map_cons, List.contains_cons, Bool.not_eq_true', Bool.or_eq_false_iff]
    exact ⟨by simpa using n1, by simpa using n2, by simpa using q⟩
theorem back_neM {g h : Heap} {L r : Addr} {o : Obj} {need news l : List (Addr × Obj)} (N : News g L h l) (hm : (r, o) ∈ l) (hg : ∀ p ∈ restOf need news, g.get? p.1 = some p.2) (hn : ∀ q ∈ need, @Ne Nat q.1 r) : ∀ p ∈ news, @Ne Nat p.1 r :=
  back_ne (l := l) (fun p hp => by
    rcases List.mem_cons.mp hp with e | hp
    · rw [e]; exact N _ hm
    · exact N p hp) hg hn
theorem news_four {h₀ h : Heap} {L : Addr} {a b c d : Addr × Obj} {l news : List (Addr × Obj)} (N : News h₀ L h l) (h1 : a ∈ l) (h2 : b ∈ l) (h3 : c ∈ l) (h4 : d ∈ l) (Nr : News h₀ L h news) : News h₀ L h (a :: b :: c :: d :: news) := fun p hp => by
  rcases List.mem_cons.mp hp with e | hp
  · rw [e]; exact N _ h1
  · exact news_three N h2 h3 h4 Nr p hp
theorem J6_rows2 : True := by
  (k_with "compareOp NotIn str ref" => (k_here; (with_reducible show wpAny _ _ (compareOp _ (Value.str _ _) (Value.ref _)) _ _ _); k_dflt (first | (refine k_notIn_str (by k_in) (by k_is) (by exact rfl) ?_) | (refine k_notIn_strs (by k_asm) (by k_mem) (by exact rfl) ?_))))
  trivial
section
variable {prog : Program} {w : World} {A : Around} {E : Value → Shared → Prop} {s : Shared} {h₀ : Heap} {L a b : Addr} {news : List (Addr × Obj)} {Q : Value → Shared → Prop}
theorem ne_cons_nil {v : Value} {vs : List Value} {c c2 : Nat} (N : News h₀ L s.heap news) (h1 : (a, listOf (List.toArray (v :: vs)) c) ∈ news) (h2 : (b, listOf (List.toArray []) c2) ∈ news) (hu : A.units < cLine) (h : Q (.bool true) s) : wpAny (model prog w) A (compareOp .NotEq (.ref a) (.ref b)) Q E s :=
  PySem.SeqAt.RcNeAt.lists_lengths (s := s) ⟨_, (N _ h1).1, rfl, c, rfl⟩ ⟨_, (N _ h2).1, rfl, c2, rfl⟩ rfl hu prog w E Q h
theorem ne_nil_nil {c c2 : Nat} (N : News h₀ L s.heap news) (h1 : (a, listOf (List.toArray []) c) ∈ news) (h2 : (b, listOf (List.toArray []) c2) ∈ news) (hu : A.units + 64 < cLine) (h : Q (.bool false) s) : wpAny (model prog w) A (compareOp .NotEq (.ref a) (.ref b)) Q E s :=
  ne_intsK (vs := []) (us := []) ⟨_, (N _ h1).1, rfl, c, rfl⟩ IntsAre.nil ⟨_, (N _ h2).1, rfl, c2, rfl⟩ IntsAre.nil hu h
end
end
section
set_option Elab.async false
set_option maxRecDepth 100000
set_option maxHeartbeats 800000
def SpaceE (w : World) (nn : Int) (sd : Addr) (es : List DictEntry) : Prop := ∃ (j : Nat → Tok) (v : Nat → Value), es = [⟨PyData.keyHash w.params (Str.ofString "name"), .str (Str.ofString "name") (j 0), v 0⟩, ⟨PyData.keyHash w.params (Str.ofString "next_number"), .str (Str.ofString "next_number") (j 1), .int nn (j 17)⟩, ⟨PyData.keyHash w.params (Str.ofString "sent"), .str (Str.ofString "sent") (j 2), .ref sd⟩, ⟨PyData.keyHash w.params (Str.ofString "largest_acked"), .str (Str.ofString "largest_acked") (j 3), .none⟩, ⟨PyData.keyHash w.params (Str.ofString "acked"), .str (Str.ofString "acked") (j 4), v 4⟩, ⟨PyData.keyHash w.params (Str.ofString "last_eliciting_time"), .str (Str.ofString "last_eliciting_time") (j 5), v 5⟩, ⟨PyData.keyHash w.params (Str.ofString "loss_time"), .str (Str.ofString "loss_time") (j 6), v 6⟩, ⟨PyData.keyHash w.params (Str.ofString "received"), .str (Str.ofString "received") (j 7), v 7⟩, ⟨PyData.keyHash w.params (Str.ofString "largest_seen"), .str (Str.ofString "largest_seen") (j 8), v 8⟩, ⟨PyData.keyHash w.params (Str.ofString "largest_time"), .str (Str.ofString "largest_time") (j 9), v 9⟩, ⟨PyData.keyHash w.params (Str.ofString "floor"), .str (Str.ofString "floor") (j 10), v 10⟩, ⟨PyData.keyHash w.params (Str.ofString "first_unacked"), .str (Str.ofString "first_unacked") (j 11), v 11⟩, ⟨PyData.keyHash w.params (Str.ofString "unacked"), .str (Str.ofString "unacked") (j 12), v 12⟩, ⟨PyData.keyHash w.params (Str.ofString "wants_now"), .str (Str.ofString "wants_now") (j 13), v 13⟩, ⟨PyData.keyHash w.params (Str.ofString "has_new"), .str (Str.ofString "has_new") (j 14), v 14⟩, ⟨PyData.keyHash w.params (Str.ofString "ecn"), .str (Str.ofString "ecn") (j 15), v 15⟩, ⟨PyData.keyHash w.params (Str.ofString "is_gone"), .str (Str.ofString "is_gone") (j 16), v 16⟩]
variable {w : World} {nn : Int} {sd : Addr} {es : List DictEntry}
theorem SpaceE.sent (h : SpaceE w nn sd es) : getL (Str.ofString "sent") es = some (some (.ref sd)) := by
  obtain ⟨j, v, rfl⟩ := h; k_get
theorem SpaceE.acked (h : SpaceE w nn sd es) : getL (Str.ofString "largest_acked") es = some (some .none) := by
  obtain ⟨j, v, rfl⟩ := h; k_get
def RenoE (w : World) (fl : Int) (es : List DictEntry) : Prop := ∃ (j : Nat → Tok) (v : Nat → Value), es = [⟨PyData.keyHash w.params (Str.ofString "datagram"), .str (Str.ofString "datagram") (j 0), v 0⟩, ⟨PyData.keyHash w.params (Str.ofString "window"), .str (Str.ofString "window") (j 1), v 1⟩, ⟨PyData.keyHash w.params (Str.ofString "threshold"), .str (Str.ofString "threshold") (j 2), v 2⟩, ⟨PyData.keyHash w.params (Str.ofString "recovery_at"), .str (Str.ofString "recovery_at") (j 3), v 3⟩, ⟨PyData.keyHash w.params (Str.ofString "in_flight"), .str (Str.ofString "in_flight") (j 4), .int fl (j 6)⟩, ⟨PyData.keyHash w.params (Str.ofString "credit"), .str (Str.ofString "credit") (j 5), v 5⟩]
theorem SpaceE.m_take_number (h : SpaceE w nn sd es) : getL (Str.ofString "take_number") es = some none := by
  obtain ⟨j, v, rfl⟩ := h; k_get
theorem SpaceE.m_on_sent (h : SpaceE w nn sd es) : getL (Str.ofString "on_sent") es = some none := by
  obtain ⟨j, v, rfl⟩ := h; k_get
theorem SpaceE.m_take (h : SpaceE w nn sd es) : getL (Str.ofString "take") es = some none := by
  obtain ⟨j, v, rfl⟩ := h; k_get
theorem SpaceE.m_bare_numbers (h : SpaceE w nn sd es) : getL (Str.ofString "bare_numbers") es = some none := by
  obtain ⟨j, v, rfl⟩ := h; k_get
theorem SpaceE.m_on_ack_sent (h : SpaceE w nn sd es) : getL (Str.ofString "on_ack_sent") es = some none := by
  obtain ⟨j, v, rfl⟩ := h; k_get
theorem RenoE.m_on_sent {fl : Int} (h : RenoE w fl es) : getL (Str.ofString "on_sent") es = some none := by
  obtain ⟨j, v, rfl⟩ := h; k_get
theorem UpdM.mono {d : Nat} {f x : Addr} {o : Obj} {need : List (Addr × Obj)} {vs : List Value} {P P' : Value → Obj → Prop} (h : UpdM w d f x o need vs P) (hp : ∀ v o, P v o → P' v o) : UpdM w d f x o need vs P' :=
  fun p loose mean mg mb dp un gd cn cs a ccd cl outer A₀ base h₀ L m news g s Q E B F X N T hk h1 h2 U hn ret => h p loose mean mg mb dp un gd cn cs a ccd cl outer A₀ base h₀ L m news g s Q E B F X N T hk h1 h2 U hn fun v o' h' tk' F' N' q => ret v o' h' tk' F' N' (hp v o' q)
theorem take_number_e (w : World) (pl pd sd : Addr) (nn : Int) (es : List DictEntry) (hS : SpaceE w nn sd es) : UpdM w 4 571 pd (dictOf es 17) [(pl, instObj 654 pd)] [.ref pl] (fun vv oo => ∃ es' t, vv = .int nn t ∧ oo = dictOf es' 17 ∧ SpaceE w (nn + 1) sd es') := by
  obtain ⟨j, v, rfl⟩ := hS
  refine (take_number_c w pl pd sd (j 0) (j 1) (j 2) (j 3) (j 4) (j 5) (j 6) (j 7) (j 8) (j 9) (j 10) (j 11) (j 12) (j 13) (j 14) (j 15) (j 16) (j 17) (v 0) (v 4) (v 5) (v 6) (v 7) (v 8) (v 9) (v 10) (v 11) (v 12) (v 13) (v 14) (v 15) (v 16) nn rfl).mono fun vv oo h => ?_
  obtain ⟨ta, tb, e1, e2⟩ := h
  exact ⟨_, ta, e1, e2, fun i => cond (Nat.beq i 17) tb (j i), v, rfl⟩
theorem ack_sent_e (w : World) (pl pd sd : Addr) (nn : Int) (es : List DictEntry) (hS : SpaceE w nn sd es) : UpdM w 4 557 pd (dictOf es 17) [(pl, instObj 654 pd)] [.ref pl] (fun _ oo => ∃ es', oo = dictOf es' 17 ∧ SpaceE w nn sd es') := by
  obtain ⟨j, v, rfl⟩ := hS
  refine (ack_sent_c w pl pd sd (j 0) (j 1) (j 2) (j 3) (j 4) (j 5) (j 6) (j 7) (j 8) (j 9) (j 10) (j 11) (j 12) (j 13) (j 14) (j 15) (j 16) (j 17) (v 0) (v 4) (v 5) (v 6) (v 7) (v 8) (v 9) (v 10) (v 11) (v 12) (v 13) (v 14) (v 15) (v 16) nn rfl).mono fun vv oo h => ?_
  obtain ⟨ta, e2⟩ := h
  exact ⟨_, e2, j, fun i => cond (Nat.beq i 14) (.bool false) (cond (Nat.beq i 13) (.bool false) (cond (Nat.beq i 12) (.int 0 ta) (cond (Nat.beq i 11) .none (v i)))), rfl⟩
theorem ctl_sent_e (w : World) (ct cdd : Addr) (fl : Int) (es : List DictEntry) (hS : RenoE w fl es) (k : Int) (tk9 : Tok) : UpdM w 4 400 cdd (dictOf es 6) [(ct, instObj 445 cdd)] [.ref ct, .int k tk9] (fun _ oo => ∃ es', oo = dictOf es' 6 ∧ RenoE w (fl + k) es') := by
  obtain ⟨j, v, rfl⟩ := hS
  refine (ctl_sent_c w ct cdd (j 0) (j 1) (j 2) (j 3) (j 4) (j 5) (j 6) (v 0) (v 1) (v 2) (v 3) (v 5) fl k tk9 rfl).mono fun vv oo h => ?_
  obtain ⟨ta, e2⟩ := h
  exact ⟨_, e2, fun i => cond (Nat.beq i 6) ta (j i), v, rfl⟩
end
section
set_option Elab.async false
set_option maxRecDepth 100000
set_option maxHeartbeats 4000000
theorem M2_rows0 : True := by
  k_with_none
  trivial
theorem M2_rows1 : True := by
  trivial
def kindOf9 (el : Bool) : Str := bif el then Str.ofString "ping" else Str.ofString "ack"
theorem k_tup0 {prog : Program} {w : World} {A : Around} {E : Value → Shared → Prop} {s : Shared} {h₀ : Heap} {L f : Addr} {news : List (Addr × Obj)} {x : Value} {xs : List Value} {u : Tok} {value slice : PySem.Expr} {Q : Value → Shared → Prop} (N : News h₀ L s.heap news) (hm : (f, ({ cls := .type "tuple", data := .seq (x :: xs).toArray } : Obj)) ∈ news) (h : Q x s)
    (hs : subscripted slice false (.ref f) (.int 0 u) = operate [.ref f, .int 0 u] (getItem (.ref f) (.int 0 u)) := by with_unfolding_all rfl) : wpAny (model prog w) A (subscriptTail value slice (.ref f) (.int 0 u)) Q E s :=
  item_tupleT (l := x :: xs) (j := 0) ⟨_, (N _ hm).1, rfl, _, rfl⟩ (by decide) (by decide) (by simp [seqIndex?]) rfl h hs

theorem M2_rows2 : True := by
  (k_with "k_room" => (ktr_room))
  (k_with "k_units" => (ktr_units))
  (k_with "compareOp NotIn str ref" => (k_here; (with_reducible show wpAny _ _ (compareOp _ (Value.str _ _) (Value.ref _)) _ _ _); k_dflt (first | (refine k_notIn_str (by k_in) (by k_is) (by exact rfl) ?_) | (refine k_notIn_strs (by k_asm) (by k_mem) (by exact rfl) ?_))))
  (k_with "compareOp NotEq ref ref" => (k_here; (with_reducible show wpAny _ _ (compareOp _ (Value.ref _) (Value.ref _)) _ _ _); k_dflt (first | (refine ne_cons_nil (by k_asm) (by k_mem) (by k_mem) (by ktr_units) ?_) | (refine ne_nil_nil (by k_asm) (by k_mem) (by k_mem) (by ktr_units) ?_)); (try dsimp only)))
  (k_with "ke_room" => (ktr_units))
  (k_with "k_ne" => (first | (refine neN ?_; (try dsimp only); first | assumption | exact Ne.symm (by assumption)) | (refine neN ?_; (try dsimp only); omega)))
  (k_with "CompRestT" => ((with_unfolding_all first
      | (refine LCt.CompRestT.succ ?_; intro vw' Iw' oIw' Cw' oCw' Dw' mw' hw' tkw' Ew' hvw' hCw' hxw' Fw' Nw' offw' new'; (first | lcg_open hvw' | (obtain ⟨t9', hv9'⟩ := hvw'; subst hv9')); (k_dflt ((refine off_all offw' ?_); (repeat ((with_reducible show OffK _ _ _ (_ :: _) _); intro _ _ _)); (first | (with_reducible refine offk_nil ?_) | (with_reducible refine offk_tail (by (repeat (first | exact offw' | refine off_tl ?_))) ?_; intro _)); (try clear offw'))); (try (refine and3 new' ?_; intro _ _ _; clear new')); (repeat (rename (_ ∧ _) => hh9; obtain ⟨hh8, hh7⟩ := hh9)))
      | refine LCt.CompRestT.zero ?_)))
  (k_with "setItem ref int" => (k_here; (with_reducible show wpAny _ _ (setItem (Value.ref _) (Value.int _ _) (Value.ref _)) _ _ _); k_dflt (refine kda_set (knd := PySem.intKind _ _) (by k_asm) (by k_asm) (by k_updF) (by assumption) (intKind_is _ _ _ _) (by rw [PySem.sizeLine_eq]; omega) ?_); intro hw' ow' Fw' Nw' hdw'; (try dsimp only at Nw')))
  (k_with "subscriptTail" => (first | (k_here; (with_reducible show wpAny _ _ (subscriptTail _ _ (Value.ref _) (Value.int 0 _)) _ _ _); k_dflt (refine k_tup0 (by k_asm) (by k_mem) ?_)) | (fail "x")))
  (k_with "compareOp NotIn str" => ((with_reducible show wpAny _ _ (compareOp _ (Value.str (kindOf9 _) _) _) _ _ _); (rename Bool => b9); k_dflt (cases b9 <;> (dsimp only [kindOf9, cond]))))
  trivial
def any_el_B (w : World) (row f : Addr) (crow : Nat) (tf : Tok) (fx : List Value) (el : Bool) : Prop := RW = RW → PureM w 12 469 [(row, listOf #[.ref f] crow), (f, { cls := .type "tuple", data := .seq (.str (kindOf9 el) tf :: fx).toArray })] [.ref row] (fun v => v = .bool el)
theorem any_el : ∀ w row f crow tf fx el, any_el_B w row f crow tf fx el := by
  refine ubx ?_
  simp (disch := k_dflt (
    refine tyP ?_
    refine' (?g9 : ∀ q : (∀ w row f crow tf fx el, any_el_B w row f crow tf fx el), Keep q → (∀ w row f crow tf fx el, any_el_B w row f crow tf fx el)) _ ?w9
    case g9 => exact fun q _ => q
    case w9 =>
      refine' kp9 ?h9 fun k9 => ?j9
      case h9 =>
        (repeat walk_at "CL9")
        rename_i w row f crow tf fx el
        unfold any_el_B
        intro _
        refine PureM_of _ _ _ _ _ _ ?_
        (repeat walk_at "CL9")
        rename_i  vk
        unfold KV.to PureM9
        w_on
        w_top on
        intro B F X N T hk hd hu hneed hret
        refine wpAny_call ?_
        k_dflt (refine' code_defF ?k1 ?k2 ?k3 (need_news hneed N) (restOf_news N) restOf_dis ?k5 ?kA ?kF ?kK ?k6 ?k7 ?k8 ?k9 ?kB ?_ ?c2 ?c3 ?c4 ?c5; (case kA => exact rfl); (case kF => exact rfl); (case kK => first | assumption | exact rfl); (case k1 => k_asm); (case k2 => k_asm); (case k3 => k_asm); (case k5 => k_asm); (case k6 => k_is); (case k7 => k_is); (case k8 => ktr_room); (case k9 => first | exact BindsTo.of_eq rfl | exact binds_K (by k_in) rfl (by k_is) rfl rfl rfl); (case c5 => decide); (case kB => exact locs (Eq.refl true)); (case c2 => exact rfl); (case c3 => exact rfl); (case c4 => exact rfl); k_whole; intro g' L' h' tk' FG' F' N' B' X' T' l1 lr; (try clear lr); (try dsimp only); (try k_lt l1); (try k_fold))
        w_strict (k_steps; (all_goals ((rename News _ _ _ (restOf _ _) => Nr9); (first | (rename News _ _ _ (_ :: _) => Nk9) | (rename News _ _ _ (_ ++ _) => Nk9) | (have Nk9 := @News.nil)); exact hret _ _ _ (by k_asm) (back_pure N hneed (news_sub Nk9 (by (repeat (first | exact sub_self | exact sub_left | exact sub_nil | (refine sub_cons (by k_mem) ?_) | refine sub_tail ?_)))) Nr9) (by first | exact rfl | (cases el <;> first | exact rfl | contradiction | (exfalso; simp_all; done))))))
      case j9 => revert k9; (try delta id ap_mk hd_in hd_out); intro k9; (try conv at k9 => zeta); exact k9)) only [↓bxT]
def any_fl_B (w : World) (row f : Addr) (crow : Nat) (tf : Tok) (fx : List Value) (el : Bool) : Prop := RW = RW → PureM w 12 474 [(row, listOf #[.ref f] crow), (f, { cls := .type "tuple", data := .seq (.str (kindOf9 el) tf :: fx).toArray })] [.ref row] (fun v => v = .bool el)
theorem any_fl : ∀ w row f crow tf fx el, any_fl_B w row f crow tf fx el := by
  refine ubx ?_
  simp (disch := k_dflt (
    refine tyP ?_
    refine' (?g9 : ∀ q : (∀ w row f crow tf fx el, any_fl_B w row f crow tf fx el), Keep q → (∀ w row f crow tf fx el, any_fl_B w row f crow tf fx el)) _ ?w9
    case g9 => exact fun q _ => q
    case w9 =>
      refine' kp9 ?h9 fun k9 => ?j9
      case h9 =>
        (repeat walk_at "CL9")
        rename_i w row f crow tf fx el
        unfold any_fl_B
        intro _
        refine PureM_of _ _ _ _ _ _ ?_
        (repeat walk_at "CL9")
        rename_i  vk
        unfold KV.to PureM9
        w_on
        w_top on
        intro B F X N T hk hd hu hneed hret
        refine wpAny_call ?_
        k_dflt (refine' code_defF ?k1 ?k2 ?k3 (need_news hneed N) (restOf_news N) restOf_dis ?k5 ?kA ?kF ?kK ?k6 ?k7 ?k8 ?k9 ?kB ?_ ?c2 ?c3 ?c4 ?c5; (case kA => exact rfl); (case kF => exact rfl); (case kK => first | assumption | exact rfl); (case k1 => k_asm); (case k2 => k_asm); (case k3 => k_asm); (case k5 => k_asm); (case k6 => k_is); (case k7 => k_is); (case k8 => ktr_room); (case k9 => first | exact BindsTo.of_eq rfl | exact binds_K (by k_in) rfl (by k_is) rfl rfl rfl); (case c5 => decide); (case kB => exact locs (Eq.refl true)); (case c2 => exact rfl); (case c3 => exact rfl); (case c4 => exact rfl); k_whole; intro g' L' h' tk' FG' F' N' B' X' T' l1 lr; (try clear lr); (try dsimp only); (try k_lt l1); (try k_fold))
        w_strict (k_steps; (all_goals ((rename News _ _ _ (restOf _ _) => Nr9); (first | (rename News _ _ _ (_ :: _) => Nk9) | (rename News _ _ _ (_ ++ _) => Nk9) | (have Nk9 := @News.nil)); exact hret _ _ _ (by k_asm) (back_pure N hneed (news_sub Nk9 (by (repeat (first | exact sub_self | exact sub_left | exact sub_nil | (refine sub_cons (by k_mem) ?_) | refine sub_tail ?_)))) Nr9) (by first | exact rfl | (cases el <;> first | exact rfl | contradiction | (exfalso; simp_all; done))))))
      case j9 => revert k9; (try delta id ap_mk hd_in hd_out); intro k9; (try conv at k9 => zeta); exact k9)) only [↓bxT]
end
section
set_option Elab.async false
set_option maxRecDepth 100000
set_option maxHeartbeats 1600000
open PyProof.Rows.LCg (lst NsObj Off1 Off3 CompEnd FinE FinA ns_obj lst_snoc)
abbrev Deeds := List (Int × Int)
def timeAt (D : Deeds) (k : Int) : Int := (D.getD k.toNat (0, 0)).1
def sortAt (D : Deeds) (k : Int) : Int := (D.getD k.toNat (0, 0)).2
abbrev deedO (t s : Int) (u1 u2 : Tok) : Obj := { cls := .type "tuple", data := .seq #[.int t u1, .int s u2] }
def DeedsN (h₀ : Heap) (news : List (Addr × Obj)) (vs : List Value) (D : Deeds) : Prop :=
  vs.length = D.length ∧ ∀ (i : Nat) (t s : Int), D[i]? = some ((t, s) : Int × Int) → ∃ a u1 u2, vs[i]? = some (Value.ref a) ∧ ((a, deedO t s u1 u2) ∈ news ∨ h₀.get? a = some (deedO t s u1 u2))
def DeedsG (g : Heap) (vs : List Value) (D : Deeds) : Prop :=
  vs.length = D.length ∧ ∀ (i : Nat) (t s : Int), D[i]? = some ((t, s) : Int × Int) → ∃ a u1 u2, vs[i]? = some (Value.ref a) ∧ g.get? a = some (deedO t s u1 u2)
theorem DeedsN.ne {h₀ h : Heap} {L dl a : Addr} {c : Nat} {news : List (Addr × Obj)} {vs : List Value} {t s : Int} {u1 u2 : Tok} (N : News h₀ L h news) (hd : (dl, listOf vs.toArray c) ∈ news) (ha : h.get? a = some (deedO t s u1 u2)) : a ≠ dl := fun q => by
  have h2 : h.get? dl = some (listOf vs.toArray c) := (N _ hd).1
  rw [← q, ha] at h2
  have h3 : Value.type "tuple" = Value.type "list" := congrArg Obj.cls (Option.some.inj h2)
  exact absurd h3 (by decide)
theorem DeedsN.ground {h₀ g : Heap} {news : List (Addr × Obj)} {vs : List Value} {D : Deeds} (x : DeedsN h₀ news vs D) (hk : ∀ b o, h₀.get? b = some o → g.get? b = some o) (hg : ∀ a t s u1 u2, (a, deedO t s u1 u2) ∈ news → g.get? a = some (deedO t s u1 u2)) : DeedsG g vs D :=
  ⟨x.1, fun i t s e => by
    obtain ⟨a, u1, u2, e1, e2 | e2⟩ := x.2 i t s e
    · exact ⟨a, u1, u2, e1, hg _ _ _ _ _ e2⟩
    · exact ⟨a, u1, u2, e1, hk _ _ e2⟩⟩
theorem DeedsN.g {h₀ h g : Heap} {L dl : Addr} {m : Str → Option Value} {c : Nat} {news : List (Addr × Obj)} {vs : List Value} {D : Deeds} (x : DeedsN h₀ news vs D) (N : News h₀ L h news) (hd : (dl, listOf vs.toArray c) ∈ news)
    (hg : ∀ p ∈ restOf [(dl, listOf vs.toArray c)] news, g.get? p.1 = some p.2) (FG : Fr h₀ L g m) : DeedsG g vs D :=
  x.ground FG.keep fun a t s u1 u2 e2 => by
    refine hg (a, _) (List.mem_filter.mpr ⟨e2, ?_⟩)
    have := DeedsN.ne N hd (N _ e2).1
    simpa using this
theorem DeedsG.n {g : Heap} {vs : List Value} {D : Deeds} (x : DeedsG g vs D) {news : List (Addr × Obj)} : DeedsN g news vs D :=
  ⟨x.1, fun i t s e => by
    obtain ⟨a, u1, u2, e1, e2⟩ := x.2 i t s e
    exact ⟨a, u1, u2, e1, .inr e2⟩⟩
theorem DeedsG.drop {g : Heap} {vs : List Value} {D : Deeds} (x : DeedsG g vs D) (k : Nat) : DeedsG g (vs.drop k) (D.drop k) :=
  ⟨by rw [List.length_drop, List.length_drop, x.1], fun i t s e => by
    rw [List.getElem?_drop] at e ⊢
    exact x.2 _ t s e⟩
theorem DeedsG.at {g : Heap} {vs : List Value} {D : Deeds} (x : DeedsG g vs D) {k : Int} (h0 : 0 ≤ k) (h1 : k < D.length) : ∃ a u1 u2, vs[k.toNat]? = some (Value.ref a) ∧ g.get? a = some (deedO (timeAt D k) (sortAt D k) u1 u2) := by
  have hk : k.toNat < D.length := by omega
  have e : D[k.toNat]? = some ((timeAt D k, sortAt D k) : Int × Int) := by
    rw [List.getElem?_eq_getElem hk]
    simp [timeAt, sortAt, List.getD, List.getElem?_eq_getElem hk]
  exact x.2 _ _ _ e
def askedL (D : Deeds) : List Int := (D.filter fun d => d.2 == 0).map (·.1)
theorem askedL_snoc (D : Deeds) (t s : Int) : askedL (D ++ [(t, s)]) = if s = 0 then askedL D ++ [t] else askedL D := by
  unfold askedL
  rw [List.filter_append, List.map_append]
  by_cases h : s = 0
  · simp [h]
  · simp [h]
def AskEl (news : List (Addr × Obj)) (t s : Int) (y : Value) (news' : List (Addr × Obj)) : Prop := news' = news ∧ s = 0 ∧ ∃ u, y = .int t u
def AskNo (news : List (Addr × Obj)) (s : Int) (news' : List (Addr × Obj)) : Prop := news' = news ∧ ¬ s = 0
def AskSrc (prog : Program) (w : World) (A : Around) (h₀ : Heap) (L : Addr) (m : Str → Option Value) (env : Env) (ct elt : Expr) (a b : Str) (scope : Scope) (cl : List (Str × Addr)) (y : Str) (Q : Flow → Shared → Prop) (xv : Value) (s₁ : Shared) : Prop :=
  ∃ ax vs c news D, xv = .ref ax ∧ A.handled = none ∧ Fr h₀ L s₁.heap m ∧ News h₀ L s₁.heap news ∧ (ax, listOf (List.toArray vs) c) ∈ news ∧ DeedsG h₀ vs D ∧ D.length ≤ 1000 ∧
    (∀ t s u1 u2 I oI C oC E D' m₂ ys h tk (E' : Value → Shared → Prop), NsObj oC m₂ → m₂ a = some (.int t u1) → m₂ b = some (.int s u2) → Fr h₀ L h m → News h₀ L h ((I, oI) :: (C, oC) :: (E, lst ys) :: news) → Off3 I C E news → ((@Ne Nat I C) ∧ (@Ne Nat I E) ∧ (@Ne Nat C E)) → D' = D →
      wpAny (model prog w) A (isTrue ct (compEnvC scope cl C env) (eval ct (compEnvC scope cl C env))) (fun ok s' => if ok = true then
        wpAny (model prog w) A (eval elt (compEnvC scope cl C env)) (CompEnd h₀ L m { s₁ with heap := h, toks := tk } I oI C oC E (lst ys) (fun _ => True) (fun v news' => AskEl news t s v news')) E' s'
        else CompEnd h₀ L m { s₁ with heap := h, toks := tk } I oI C oC E (lst ys) (fun _ => True) (fun _ news' => AskNo news s news') Value.none s') E' { s₁ with heap := h, toks := tk }) ∧
    (∀ ys E h tk, IntsAre ys (askedL D) → Fr h₀ L h (fun z => if z = y then some (.ref E) else m z) → News h₀ L h ((E, lst ys) :: news) → Off1 E news → Q .next { s₁ with heap := h, toks := tk })
section
variable {prog : Program} {w : World} {A : Around} {E : Value → Shared → Prop} {s : Shared} {h₀ : Heap} {L : Addr} {m : Str → Option Value} {env : Env}
def Assign_ask_B (prog : Program) (w : World) (A : Around) (E : Value → Shared → Prop) (s : Shared) (h₀ : Heap) (L : Addr) (m : Str → Option Value) (env : Env) (ct : Expr) (elt : Expr) (iter : Expr) (a : Str) (b : Str) (y : Str) (pa : Pos) (pb : Pos) (tp : Pos) (py : Pos) (scope : Scope) (cl : List (Str × Addr)) (pos : Pos) (spos : Pos) (Q : Flow → Shared → Prop) : Prop := ∀ (kk : _) (_F₀ : Fr h₀ L s.heap m) (hLe : env.locals = L) (hsw : swapsWith (.ListComp elt [⟨.Tuple [.Name a pa, .Name b pb] kk tp, iter, [ct], 0⟩] scope pos) (some (.Name y py)) spos.line env = pure true) (hclos : closureFor scope env = pure cl) (hcell : ∀ z ∈ scope.names, z.2 ≠ .cell) (hkind : scope.kind = .function) (hnames : ∀ z ∈ scope.names, z.2 = .local → scope.names.lookup z.1 = some .local) (ha : scope.names.lookup a = some .local) (hb : scope.names.lookup b = some .local) (hab : ¬ a = b) (hy : env.kindOf y = some .local) (hp : (env.scope.kind == .class || (env.scope.kind == .module && env.locals != env.globals)) = false) (h : wpAny (model prog w) A (eval iter env) (AskSrc prog w A h₀ L m env ct elt a b scope cl y Q) E s) (hs : ∀ x, foldedSetIterable iter env x = pure x), wpAny (model prog w) A (exec (.Assign [.Name y py] (.ListComp elt [⟨.Tuple [.Name a pa, .Name b pb] kk tp, iter, [ct], 0⟩] scope pos) spos) env) Q E s
def Assign_ask_P (e : Program × World × Around × (Value → Shared → Prop) × Shared × Heap × Addr × (Str → Option Value) × Env × Expr × Expr × Expr × Str × Str × Str × Pos × Pos × Pos × Pos × Scope × (List (Str × Addr)) × Pos × Pos × (Flow → Shared → Prop)) : Prop := Assign_ask_B e.1 e.2.1 e.2.2.1 e.2.2.2.1 e.2.2.2.2.1 e.2.2.2.2.2.1 e.2.2.2.2.2.2.1 e.2.2.2.2.2.2.2.1 e.2.2.2.2.2.2.2.2.1 e.2.2.2.2.2.2.2.2.2.1 e.2.2.2.2.2.2.2.2.2.2.1 e.2.2.2.2.2.2.2.2.2.2.2.1 e.2.2.2.2.2.2.2.2.2.2.2.2.1 e.2.2.2.2.2.2.2.2.2.2.2.2.2.1 e.2.2.2.2.2.2.2.2.2.2.2.2.2.2.1 e.2.2.2.2.2.2.2.2.2.2.2.2.2.2.2.1 e.2.2.2.2.2.2.2.2.2.2.2.2.2.2.2.2.1 e.2.2.2.2.2.2.2.2.2.2.2.2.2.2.2.2.2.1 e.2.2.2.2.2.2.2.2.2.2.2.2.2.2.2.2.2.2.1 e.2.2.2.2.2.2.2.2.2.2.2.2.2.2.2.2.2.2.2.1 e.2.2.2.2.2.2.2.2.2.2.2.2.2.2.2.2.2.2.2.2.1 e.2.2.2.2.2.2.2.2.2.2.2.2.2.2.2.2.2.2.2.2.2.1 e.2.2.2.2.2.2.2.2.2.2.2.2.2.2.2.2.2.2.2.2.2.2.1 e.2.2.2.2.2.2.2.2.2.2.2.2.2.2.2.2.2.2.2.2.2.2.2
@[irreducible] noncomputable def Assign_ask_e : Program × World × Around × (Value → Shared → Prop) × Shared × Heap × Addr × (Str → Option Value) × Env × Expr × Expr × Expr × Str × Str × Str × Pos × Pos × Pos × Pos × Scope × (List (Str × Addr)) × Pos × Pos × (Flow → Shared → Prop) := epsOf (default, epsW, {}, default, {}, default, default, default, default, default, default, default, default, default, default, default, default, default, default, default, default, default, default, default) Assign_ask_P
@[irreducible] noncomputable def Assign_ask_k_prog : Program := Assign_ask_e.1
@[irreducible] noncomputable def Assign_ask_k_w : World := Assign_ask_e.2.1
@[irreducible] noncomputable def Assign_ask_k_A : Around := Assign_ask_e.2.2.1
@[irreducible] noncomputable def Assign_ask_k_E : Value → Shared → Prop := Assign_ask_e.2.2.2.1
@[irreducible] noncomputable def Assign_ask_k_s : Shared := Assign_ask_e.2.2.2.2.1
@[irreducible] noncomputable def Assign_ask_k_h₀ : Heap := Assign_ask_e.2.2.2.2.2.1
@[irreducible] noncomputable def Assign_ask_k_L : Addr := Assign_ask_e.2.2.2.2.2.2.1
@[irreducible] noncomputable def Assign_ask_k_m : Str → Option Value := Assign_ask_e.2.2.2.2.2.2.2.1
@[irreducible] noncomputable def Assign_ask_k_env : Env := Assign_ask_e.2.2.2.2.2.2.2.2.1
@[irreducible] noncomputable def Assign_ask_k_ct : Expr := Assign_ask_e.2.2.2.2.2.2.2.2.2.1
@[irreducible] noncomputable def Assign_ask_k_elt : Expr := Assign_ask_e.2.2.2.2.2.2.2.2.2.2.1
@[irreducible] noncomputable def Assign_ask_k_iter : Expr := Assign_ask_e.2.2.2.2.2.2.2.2.2.2.2.1
@[irreducible] noncomputable def Assign_ask_k_a : Str := Assign_ask_e.2.2.2.2.2.2.2.2.2.2.2.2.1
@[irreducible] noncomputable def Assign_ask_k_b : Str := Assign_ask_e.2.2.2.2.2.2.2.2.2.2.2.2.2.1
@[irreducible] noncomputable def Assign_ask_k_y : Str := Assign_ask_e.2.2.2.2.2.2.2.2.2.2.2.2.2.2.1
@[irreducible] noncomputable def Assign_ask_k_pa : Pos := Assign_ask_e.2.2.2.2.2.2.2.2.2.2.2.2.2.2.2.1
@[irreducible] noncomputable def Assign_ask_k_pb : Pos := Assign_ask_e.2.2.2.2.2.2.2.2.2.2.2.2.2.2.2.2.1
@[irreducible] noncomputable def Assign_ask_k_tp : Pos := Assign_ask_e.2.2.2.2.2.2.2.2.2.2.2.2.2.2.2.2.2.1
@[irreducible] noncomputable def Assign_ask_k_py : Pos := Assign_ask_e.2.2.2.2.2.2.2.2.2.2.2.2.2.2.2.2.2.2.1
@[irreducible] noncomputable def Assign_ask_k_scope : Scope := Assign_ask_e.2.2.2.2.2.2.2.2.2.2.2.2.2.2.2.2.2.2.2.1
@[irreducible] noncomputable def Assign_ask_k_cl : List (Str × Addr) := Assign_ask_e.2.2.2.2.2.2.2.2.2.2.2.2.2.2.2.2.2.2.2.2.1
@[irreducible] noncomputable def Assign_ask_k_pos : Pos := Assign_ask_e.2.2.2.2.2.2.2.2.2.2.2.2.2.2.2.2.2.2.2.2.2.1
@[irreducible] noncomputable def Assign_ask_k_spos : Pos := Assign_ask_e.2.2.2.2.2.2.2.2.2.2.2.2.2.2.2.2.2.2.2.2.2.2.1
@[irreducible] noncomputable def Assign_ask_k_Q : Flow → Shared → Prop := Assign_ask_e.2.2.2.2.2.2.2.2.2.2.2.2.2.2.2.2.2.2.2.2.2.2.2
theorem Assign_ask_0 : Assign_ask_B Assign_ask_k_prog Assign_ask_k_w Assign_ask_k_A Assign_ask_k_E Assign_ask_k_s Assign_ask_k_h₀ Assign_ask_k_L Assign_ask_k_m Assign_ask_k_env Assign_ask_k_ct Assign_ask_k_elt Assign_ask_k_iter Assign_ask_k_a Assign_ask_k_b Assign_ask_k_y Assign_ask_k_pa Assign_ask_k_pb Assign_ask_k_tp Assign_ask_k_py Assign_ask_k_scope Assign_ask_k_cl Assign_ask_k_pos Assign_ask_k_spos Assign_ask_k_Q := by
  refine ubx ?_
  simp (disch := k_dflt (
    refine tyP ?_
    refine' (?g9 : ∀ q : (Assign_ask_B Assign_ask_k_prog Assign_ask_k_w Assign_ask_k_A Assign_ask_k_E Assign_ask_k_s Assign_ask_k_h₀ Assign_ask_k_L Assign_ask_k_m Assign_ask_k_env Assign_ask_k_ct Assign_ask_k_elt Assign_ask_k_iter Assign_ask_k_a Assign_ask_k_b Assign_ask_k_y Assign_ask_k_pa Assign_ask_k_pb Assign_ask_k_tp Assign_ask_k_py Assign_ask_k_scope Assign_ask_k_cl Assign_ask_k_pos Assign_ask_k_spos Assign_ask_k_Q), Keep q → (Assign_ask_B Assign_ask_k_prog Assign_ask_k_w Assign_ask_k_A Assign_ask_k_E Assign_ask_k_s Assign_ask_k_h₀ Assign_ask_k_L Assign_ask_k_m Assign_ask_k_env Assign_ask_k_ct Assign_ask_k_elt Assign_ask_k_iter Assign_ask_k_a Assign_ask_k_b Assign_ask_k_y Assign_ask_k_pa Assign_ask_k_pb Assign_ask_k_tp Assign_ask_k_py Assign_ask_k_scope Assign_ask_k_cl Assign_ask_k_pos Assign_ask_k_spos Assign_ask_k_Q)) _ ?w9
    case g9 => exact fun q _ => q
    case w9 =>
      refine' kp9 ?h9 fun k9 => ?j9
      case h9 =>
        unfold Assign_ask_B
        generalize Assign_ask_k_prog = prog
        generalize Assign_ask_k_w = w
        generalize Assign_ask_k_A = A
        generalize Assign_ask_k_E = E
        generalize Assign_ask_k_s = s
        generalize Assign_ask_k_h₀ = h₀
        generalize Assign_ask_k_L = L
        generalize Assign_ask_k_m = m
        generalize Assign_ask_k_env = env
        generalize Assign_ask_k_ct = ct
        generalize Assign_ask_k_elt = elt
        generalize Assign_ask_k_iter = iter
        generalize Assign_ask_k_a = a
        generalize Assign_ask_k_b = b
        generalize Assign_ask_k_y = y
        generalize Assign_ask_k_pa = pa
        generalize Assign_ask_k_pb = pb
        generalize Assign_ask_k_tp = tp
        generalize Assign_ask_k_py = py
        generalize Assign_ask_k_scope = scope
        generalize Assign_ask_k_cl = cl
        generalize Assign_ask_k_pos = pos
        generalize Assign_ask_k_spos = spos
        generalize Assign_ask_k_Q = Q
        intro kk _F₀ hLe hsw hclos hcell hkind hnames ha hb hab hy hp h hs
        (refine hd_in ?_); revert kk; (with_reducible (refine eps_lp ?_; intro xc8; refine (?_ : ∀ y, Ap _ y) xc8; clear xc8; intro kk; refine ap_mk ?_)); (set_option tactic.hygienic false in intros); (refine hd_out ?_)
        rw [exec_Assign_Name_used _ _ _ _ hsw]
        refine wpAny_bind (wpAny_standAt (wpAny_bind ?_))
        show wpAny _ A (do let _ ← comprehension (.ListComp elt [⟨.Tuple [.Name a pa, .Name b pb] kk tp, iter, [ct], 0⟩] scope pos) scope env _ (newList []) false (eval iter env) (some (assign (.Name y py) env))) _ _ s
        refine wpAny_bind (wpAny_mono (wpAny_comprehension_free (use := some (assign (.Name y py) env)) (Q := fun _ s' => Q .next s') rfl hs hclos hkind hnames
          (wpAny_mono h (fun xv s₁ h₁ => ?_) fun _ _ e => e)) (fun _ s' hq => wpAny_pure (wpAny_pure hq)) fun _ _ e => e)
        obtain ⟨ax, vs, c, news, D, rfl, hh, F, N, hmem, hD, hlen, turn, fin⟩ := h₁
        (refine hd_in ?_); revert s₁ ax vs c news D; (with_reducible (refine eps_lps ?_; intro xc8; refine (?_ : ∀ y, Ap _ y) xc8; clear xc8; intro s₁; refine ap_mk ?_)); (set_option tactic.hygienic false in intros); (refine hd_out ?_)
        (refine hd_in ?_); revert ax vs c news D; (with_reducible (refine eps_lp ?_; intro xc8; refine (?_ : ∀ y, Ap _ y) xc8; clear xc8; intro ax; refine ap_mk ?_)); (with_reducible (refine eps_lp ?_; intro xc8; refine (?_ : ∀ y, Ap _ y) xc8; clear xc8; intro vs; refine ap_mk ?_)); (with_reducible (refine eps_lp ?_; intro xc8; refine (?_ : ∀ y, Ap _ y) xc8; clear xc8; intro c; refine ap_mk ?_)); (with_reducible (refine eps_lp ?_; intro xc8; refine (?_ : ∀ y, Ap _ y) xc8; clear xc8; intro news; refine ap_mk ?_)); (with_reducible (refine eps_lp ?_; intro xc8; refine (?_ : ∀ y, Ap _ y) xc8; clear xc8; intro D; refine ap_mk ?_)); (set_option tactic.hygienic false in intros); (refine hd_out ?_)
        have hl : s₁.heap.IsList ax vs.toArray := ⟨_, (N _ hmem).1, rfl, c, rfl⟩
        have hlt : ax < s₁.heap.objs.size := Heap.lt_size (N _ hmem).1
        have hvl := hD.1
        refine wpAny_pyIter_list hl ?_
        refine wpAny_newObj_type (wpAny_newFunctionEnv hcell (by intro y hy; simp at hy) (fun h₁ hns₁ hsb₁ => ?_) hkind)
        dsimp only at hns₁ hsb₁ ⊢
        (refine hd_in ?_); revert h₁; (with_reducible (refine eps_lp ?_; intro xc8; refine (?_ : ∀ y, Ap _ y) xc8; clear xc8; intro h₁; refine ap_mk ?_)); (set_option tactic.hygienic false in intros); (refine hd_out ?_)
        generalize hH1 : s₁.heap.push { cls := .type "list_iterator", data := .fields #[.ref ax, .int 0 0] } = H1 at hns₁ hsb₁ ⊢
        (refine hd_in ?_); revert H1; (with_reducible (refine eps_lp ?_; intro xc8; refine (?_ : ∀ y, Ap _ y) xc8; clear xc8; intro H1; refine ap_mk ?_)); (set_option tactic.hygienic false in intros); (refine hd_out ?_)
        have hI : H1.get? s₁.heap.objs.size = some { cls := .type "list_iterator", data := .fields #[.ref ax, .int 0 0] } := hH1 ▸ Heap.get?_push_size _ rfl
        have s1 : H1.objs.size = s₁.heap.objs.size + 1 := by rw [← hH1, Heap.size_push]
        generalize hH2 : H1.push { cls := .type "list", dict := none, data := .seq ([] : List Value).toArray } = H2 at hns₁ hsb₁ ⊢
        (refine hd_in ?_); revert H2; (with_reducible (refine eps_lp ?_; intro xc8; refine (?_ : ∀ y, Ap _ y) xc8; clear xc8; intro H2; refine ap_mk ?_)); (set_option tactic.hygienic false in intros); (refine hd_out ?_)
        have s2 : H2.objs.size = s₁.heap.objs.size + 2 := by rw [← hH2, Heap.size_push, s1]
        have hD2 : H2.get? H1.objs.size = some (lst []) := hH2 ▸ Heap.get?_push_size _ rfl
        generalize hI' : s₁.heap.objs.size = I at *
        (refine hd_in ?_); revert I; (with_reducible (refine eps_lp ?_; intro xc8; refine (?_ : ∀ y, Ap _ y) xc8; clear xc8; intro I; refine ap_mk ?_)); (set_option tactic.hygienic false in intros); (refine hd_out ?_)
        generalize hD' : H1.objs.size = G at *
        (refine hd_in ?_); revert G; (with_reducible (refine eps_lp ?_; intro xc8; refine (?_ : ∀ y, Ap _ y) xc8; clear xc8; intro G; refine ap_mk ?_)); (set_option tactic.hygienic false in intros); (refine hd_out ?_)
        generalize hC' : H2.objs.size = C at *
        (refine hd_in ?_); revert C; (with_reducible (refine eps_lp ?_; intro xc8; refine (?_ : ∀ y, Ap _ y) xc8; clear xc8; intro C; refine ap_mk ?_)); (set_option tactic.hygienic false in intros); (refine hd_out ?_)
        have hID : (I : Nat) ≠ G := by omega
        have hIC : I ≠ C := by omega
        have hDC : G ≠ C := by omega
        have old : ∀ b o, s₁.heap.get? b = some o → h₁.get? b = some o := fun b o e => by
          have hb : @LT.lt Nat _ b s₁.heap.objs.size := Heap.lt_size e
          refine hsb₁.extBut b o (neN (by omega)) (Heap.get?_push_of_some _ ?_)
          rw [← hH2]
          refine Heap.get?_push_of_some _ ?_
          rw [← hH1]
          exact Heap.get?_push_of_some _ e
        have hIh : h₁.IsListIter I ax 0 := ⟨_, hsb₁.extBut _ _ hIC (Heap.get?_push_of_some _ (by rw [← hH2]; exact Heap.get?_push_of_some _ hI)), rfl, rfl⟩
        have hDh : h₁.get? G = some (lst []) := hsb₁.extBut _ _ hDC (Heap.get?_push_of_some _ hD2)
        have hLlt : @LT.lt Nat _ L I := by rw [← hI']; exact F.ns.lt
        have fresh : ∀ a : Nat, I ≤ a → h₀.get? a = none := fun a ha => by
          cases e : h₀.get? a with
          | none => rfl
          | some o => have hz : @LT.lt Nat _ a s₁.heap.objs.size := Heap.lt_size (F.keep _ _ e); omega
        have offN : ∀ p ∈ news, @LT.lt Nat _ p.1 I := fun p hp => by rw [← hI']; exact Heap.lt_size (N p hp).1
        have hIL : @Ne Addr I L := neN (by omega)
        have hCL : @Ne Addr C L := neN (by omega)
        have hGL : @Ne Addr G L := neN (by omega)
        have off3 : Off3 I C G news := Off3.of fun p hp => by have := offN p hp; exact ⟨neN (by omega), neN (by omega), neN (by omega)⟩
        have off1 : Off1 G news := off3.one
        have loop : ∀ R : Result → Shared → Prop, (∀ ys h tk m', IntsAre ys (askedL D) → Fr h₀ L h m → h.Ns C m' → News h₀ L h ((G, lst ys) :: news) → R (.ok .next) { s₁ with heap := h, toks := tk }) → ∀ tk₀,
            codeAny (model prog w) A (.compLoop (.ListComp elt [⟨.Tuple [.Name a pa, .Name b pb] kk tp, iter, [ct], 0⟩] scope pos) 0 (.ref I) (.ref G) (compEnvC scope cl C env)) R { s₁ with heap := h₁, toks := tk₀ } := by
          intro R hR tk₀
          (refine hd_in ?_); revert R tk₀; (with_reducible (refine eps_lp ?_; intro xc8; refine (?_ : ∀ y, Ap _ y) xc8; clear xc8; intro R; refine ap_mk ?_)); (set_option tactic.hygienic false in intros); (refine hd_out ?_)
          (refine hd_in ?_); revert tk₀; (with_reducible (refine eps_lp ?_; intro xc8; refine (?_ : ∀ y, Ap _ y) xc8; clear xc8; intro tk₀; refine ap_mk ?_)); (set_option tactic.hygienic false in intros); (refine hd_out ?_)
          refine kct_loop
            (fun k s' => ∃ h' tk i ys m', s' = { s₁ with heap := h', toks := tk } ∧ i ≤ vs.length ∧ k = vs.length - i ∧ ys.length ≤ i ∧ IntsAre ys (askedL (D.take i)) ∧ h'.IsListIter I ax i ∧ Fr h₀ L h' m ∧ h'.Ns C m' ∧ News h₀ L h' ((G, lst ys) :: news)) ?_ vs.length
            ⟨h₁, _, 0, [], _, rfl, Nat.zero_le _, rfl, Nat.le_refl _, .nil, hIh, F.keeps old, hns₁, fun p hp => ?_⟩
          · rintro k s' ⟨h', tk, i, ys, m', rfl, hi, rfl, hyl, hP, hit, F', hn', N'⟩
            (refine hd_in ?_); revert h' tk i ys m'; (with_reducible (refine eps_lp ?_; intro xc8; refine (?_ : ∀ y, Ap _ y) xc8; clear xc8; intro h'; refine ap_mk ?_)); (with_reducible (refine eps_lp ?_; intro xc8; refine (?_ : ∀ y, Ap _ y) xc8; clear xc8; intro tk; refine ap_mk ?_)); (with_reducible (refine eps_lp ?_; intro xc8; refine (?_ : ∀ y, Ap _ y) xc8; clear xc8; intro i; refine ap_mk ?_)); (with_reducible (refine eps_lp ?_; intro xc8; refine (?_ : ∀ y, Ap _ y) xc8; clear xc8; intro ys; refine ap_mk ?_)); (with_reducible (refine eps_lp ?_; intro xc8; refine (?_ : ∀ y, Ap _ y) xc8; clear xc8; intro m'; refine ap_mk ?_)); (set_option tactic.hygienic false in intros); (refine hd_out ?_)
            have hl' : h'.IsList ax vs.toArray := ⟨_, (N' _ (List.mem_cons_of_mem _ hmem)).1, rfl, c, rfl⟩
            by_cases hlt' : i < vs.length
            · obtain ⟨T, u1, u2, eT, gT⟩ := hD.at (k := (i : Int)) (by omega) (by omega)
              (refine hd_in ?_); revert T u1 u2; (with_reducible (refine eps_lp ?_; intro xc8; refine (?_ : ∀ y, Ap _ y) xc8; clear xc8; intro T; refine ap_mk ?_)); (with_reducible (refine eps_lp ?_; intro xc8; refine (?_ : ∀ y, Ap _ y) xc8; clear xc8; intro u1; refine ap_mk ?_)); (with_reducible (refine eps_lp ?_; intro xc8; refine (?_ : ∀ y, Ap _ y) xc8; clear xc8; intro u2; refine ap_mk ?_)); (set_option tactic.hygienic false in intros); (refine hd_out ?_)
              rw [Int.toNat_natCast] at eT
              refine wpAny_pyNext_list_item hit hl' (x := .ref T) (by simpa using eT) fun h₂ hit₂ hs₂ => ?_
              dsimp only
              refine wpAny_letOwnedTupleGo_listiter (s := { s₁ with heap := h₂, toks := tk }) hit₂ ?_
              (refine hd_in ?_); revert h₂; (with_reducible (refine eps_lp ?_; intro xc8; refine (?_ : ∀ y, Ap _ y) xc8; clear xc8; intro h₂; refine ap_mk ?_)); (set_option tactic.hygienic false in intros); (refine hd_out ?_)
              have F₂ : Fr h₀ L h₂ m := F'.change hs₂ hIL (fresh I (Nat.le_refl _))
              refine kcp_assign (s := { s₁ with heap := h₂, toks := tk }) (m := m') hh ⟨_, F₂.keep _ _ gT, rfl, _, rfl⟩ (lookup_relabel_local ha) (lookup_relabel_local hb) (by simp [compEnvC, relabel, hkind]) (hn'.sameBut hs₂ (Ne.symm hIC)) fun h₃ tk₃ hn₃ hs₃ => ?_
              (refine hd_in ?_); revert h₃ tk₃; (with_reducible (refine eps_lp ?_; intro xc8; refine (?_ : ∀ y, Ap _ y) xc8; clear xc8; intro h₃; refine ap_mk ?_)); (with_reducible (refine eps_lp ?_; intro xc8; refine (?_ : ∀ y, Ap _ y) xc8; clear xc8; intro tk₃; refine ap_mk ?_)); (set_option tactic.hygienic false in intros); (refine hd_out ?_)
              obtain ⟨oC, heC, hoC⟩ := ns_obj hn₃
              (refine hd_in ?_); revert oC; (with_reducible (refine eps_lp ?_; intro xc8; refine (?_ : ∀ y, Ap _ y) xc8; clear xc8; intro oC; refine ap_mk ?_)); (set_option tactic.hygienic false in intros); (refine hd_out ?_)
              have hn₃' := hn₃
              have F₃ : Fr h₀ L h₃ m := LCg.fr_but F₂ (fun b o hb e => hs₃ b o (fun q => hb (by rw [q]; exact List.mem_singleton.mpr rfl)) e) (Ne.symm hCL) (fresh C (by omega))
              have hit₃ : h₃.IsListIter I ax (i + 1) := by obtain ⟨o, e, r⟩ := hit₂; exact ⟨o, hs₃ _ _ hIC e, r⟩
              obtain ⟨oI, heI, hrI⟩ := hit₃
              (refine hd_in ?_); revert oI; (with_reducible (refine eps_lp ?_; intro xc8; refine (?_ : ∀ y, Ap _ y) xc8; clear xc8; intro oI; refine ap_mk ?_)); (set_option tactic.hygienic false in intros); (refine hd_out ?_)
              have keep2 : ∀ p ∈ ((G, lst ys) :: news), p.1 ≠ I ∧ p.1 ≠ C := fun p hp => by
                rcases List.mem_cons.mp hp with rfl | hp
                · exact ⟨Ne.symm hID, hDC⟩
                · have := offN p hp; exact ⟨neN (by omega), neN (by omega)⟩
              have N₃ : News h₀ L h₃ ((I, oI) :: (C, oC) :: (G, lst ys) :: news) := fun p hp => by
                rcases List.mem_cons.mp hp with rfl | hp
                · exact ⟨heI, hIL, fresh I (Nat.le_refl _)⟩
                · rcases List.mem_cons.mp hp with rfl | hp
                  · exact ⟨heC, hCL, fresh C (by omega)⟩
                  · have z := N' p hp
                    exact ⟨hs₃ _ _ (keep2 p hp).2 (hs₂.extBut _ _ (keep2 p hp).1 z.1), z.2⟩
              have et : D.take (i + 1) = D.take i ++ [(timeAt D (i : Int), sortAt D (i : Int))] := by
                have hi' : i < D.length := by omega
                have e2 : (timeAt D (i : Int), sortAt D (i : Int)) = D[i] := by simp [timeAt, sortAt, List.getD, List.getElem?_eq_getElem hi']
                rw [e2, List.take_add_one, List.getElem?_eq_getElem hi']
                rfl
              refine wpAny_mono (turn (timeAt D (i : Int)) (sortAt D (i : Int)) u1 u2 I oI C oC G D _ ys h₃ tk₃ _ hoC (by simp [hab]) (by simp) F₃ N₃ off3 ⟨hIC, hID, Ne.symm hDC⟩ rfl) (fun ok s₄ h₄ => ?_) fun _ _ e => e
              cases ok with
              | true =>
                simp only [if_true] at h₄ ⊢
                refine wpAny_mono h₄ (fun v s₅ h₅ => ?_) fun _ _ e => e
                obtain ⟨h₄, tk₄, news₄, rfl, F₄, N₄, _, _, e4, hz, u, rfl⟩ := h₅
                (refine hd_in ?_); revert h₄ tk₄ news₄ u; (with_reducible (refine eps_lp ?_; intro xc8; refine (?_ : ∀ y, Ap _ y) xc8; clear xc8; intro h₄; refine ap_mk ?_)); (with_reducible (refine eps_lp ?_; intro xc8; refine (?_ : ∀ y, Ap _ y) xc8; clear xc8; intro tk₄; refine ap_mk ?_)); (with_reducible (refine eps_lp ?_; intro xc8; refine (?_ : ∀ y, Ap _ y) xc8; clear xc8; intro news₄; refine ap_mk ?_)); (set_option tactic.hygienic false in intros); (refine hd_out ?_)
                (refine hd_in ?_); revert u; (with_reducible (refine eps_lp ?_; intro xc8; refine (?_ : ∀ y, Ap _ y) xc8; clear xc8; intro u; refine ap_mk ?_)); (set_option tactic.hygienic false in intros); (refine hd_out ?_)
                rw [e4] at N₄
                have zI := (N₄ (I, oI) List.mem_cons_self).1
                have zC := (N₄ (C, oC) (List.mem_cons_of_mem _ List.mem_cons_self)).1
                have zD := N₄ (G, lst ys) (List.mem_cons_of_mem _ (List.mem_cons_of_mem _ List.mem_cons_self))
                refine append_at (s := { s₁ with heap := h₄, toks := tk₄ }) (hsz := by show ys.toArray.size ≤ sizeLine; rw [List.size_toArray, sizeLine_eq]; omega) zD.1 fun h₅ hs₅ hD₅ => ?_
                (refine hd_in ?_); revert h₅; (with_reducible (refine eps_lp ?_; intro xc8; refine (?_ : ∀ y, Ap _ y) xc8; clear xc8; intro h₅; refine ap_mk ?_)); (set_option tactic.hygienic false in intros); (refine hd_out ?_)
                refine ⟨vs.length - (i + 1), by omega, h₅, tk₄, i + 1, ys ++ [.int (timeAt D (i : Int)) u], _, rfl, hlt', rfl, by rw [List.length_append, List.length_singleton]; omega, ?_, ?_, F₄.change hs₅ zD.2.1 zD.2.2, (hoC.ns zC).sameBut hs₅ (Ne.symm hDC), fun p hp => ?_⟩
                · rw [et, askedL_snoc, if_pos hz]
                  exact IntsAre.append hP (.cons _ u .nil)
                · exact (show h₄.IsListIter I ax (i + 1) from ⟨oI, zI, hrI⟩).extBut hs₅.extBut hID
                · rcases List.mem_cons.mp hp with rfl | hp
                  · exact ⟨hD₅.trans (congrArg some (lst_snoc ys _)), zD.2⟩
                  · have z := N₄ p (List.mem_cons_of_mem _ (List.mem_cons_of_mem _ (List.mem_cons_of_mem _ hp)))
                    have := offN p hp
                    exact ⟨hs₅.extBut _ _ (neN (by omega)) z.1, z.2⟩
              | false =>
                simp only [Bool.false_eq_true, if_false] at h₄ ⊢
                obtain ⟨h₅, tk₄, news₄, rfl, F₄, N₄, _, _, e4, hz⟩ := h₄
                (refine hd_in ?_); revert h₅ tk₄ news₄; (with_reducible (refine eps_lp ?_; intro xc8; refine (?_ : ∀ y, Ap _ y) xc8; clear xc8; intro h₅; refine ap_mk ?_)); (with_reducible (refine eps_lp ?_; intro xc8; refine (?_ : ∀ y, Ap _ y) xc8; clear xc8; intro tk₄; refine ap_mk ?_)); (with_reducible (refine eps_lp ?_; intro xc8; refine (?_ : ∀ y, Ap _ y) xc8; clear xc8; intro news₄; refine ap_mk ?_)); (set_option tactic.hygienic false in intros); (refine hd_out ?_)
                rw [e4] at N₄
                have zI := (N₄ (I, oI) List.mem_cons_self).1
                have zC := (N₄ (C, oC) (List.mem_cons_of_mem _ List.mem_cons_self)).1
                refine ⟨vs.length - (i + 1), by omega, h₅, tk₄, i + 1, ys, _, rfl, hlt', rfl, by omega, ?_, ⟨oI, zI, hrI⟩, F₄, hoC.ns zC, fun p hp => N₄ p (List.mem_cons_of_mem _ (List.mem_cons_of_mem _ hp))⟩
                rw [et, askedL_snoc, if_neg hz]
                exact hP
            · have hin : i = vs.length := by omega
              subst hin
              refine wpAny_pyNext_list_end hh hit hl' (by simp) fun h₂ he => ?_
              refine hR ys h₂ tk m' (by rw [hvl, List.take_length] at hP; exact hP) ?_ ?_ fun p hp => ?_
              · obtain ⟨oL, a1, a2, hL, a3⟩ := F'.ns
                exact ⟨⟨oL, a1, a2, he _ _ (Ne.symm hIL) hL, a3⟩, fun b o e => he _ _ (fun q => by have := fresh I (Nat.le_refl _); rw [← q, e] at this; cases this) (F'.keep b o e), F'.above⟩
              · exact hn'.at' fun o e => he _ _ (Ne.symm hIC) e
              · refine ⟨he _ _ ?_ (N' p hp).1, (N' p hp).2⟩
                rcases List.mem_cons.mp hp with rfl | hp
                · exact Ne.symm hID
                · have := offN p hp; exact neN (by omega)
          · rcases List.mem_cons.mp hp with rfl | hp
            · exact ⟨hDh, hGL, fresh G (by omega)⟩
            · exact ⟨old _ _ (N p hp).1, (N p hp).2⟩
        have last : ∀ ys h tk m', IntsAre ys (askedL D) → Fr h₀ L h m → h.Ns C m' → News h₀ L h ((G, lst ys) :: news) →
            compPost (model prog w) A E (some (assign (.Name y py) env)) (fun _ s' => Q .next s') (.ref G) C (.ok .next) { s₁ with heap := h, toks := tk } := by
          intro ys h tk m' hys F' hn' N'
          exact fin_assign (Q := Q) hLe hy hp F' N' off1 hn' (fresh C (by omega)) hCL (Ne.symm hDC) (fun p hp => by have := offN p hp; exact neN (by omega)) fun D2 h2 tk2 F2 N2 o2 => fin ys D2 h2 tk2 hys F2 N2 o2
        exact codeAny_compStart_list (loop _ last _) (wpAny_pyIter_listiter hIh (loop _ last _))
      case j9 => revert k9; (try delta id ap_mk hd_in hd_out); intro k9; (try conv at k9 => zeta); exact k9)) only [↓bxT]

theorem Assign_ask {ct elt iter : Expr} {a b y : Str} {pa pb tp py : Pos} {kk} {scope : Scope} {cl : List (Str × Addr)} {pos spos : Pos} {Q : Flow → Shared → Prop} (_F₀ : Fr h₀ L s.heap m) (hLe : env.locals = L)
    (hsw : swapsWith (.ListComp elt [⟨.Tuple [.Name a pa, .Name b pb] kk tp, iter, [ct], 0⟩] scope pos) (some (.Name y py)) spos.line env = pure true)
    (hclos : closureFor scope env = pure cl) (hcell : ∀ z ∈ scope.names, z.2 ≠ .cell) (hkind : scope.kind = .function) (hnames : ∀ z ∈ scope.names, z.2 = .local → scope.names.lookup z.1 = some .local)
    (ha : scope.names.lookup a = some .local) (hb : scope.names.lookup b = some .local) (hab : ¬ a = b)
    (hy : env.kindOf y = some .local) (hp : (env.scope.kind == .class || (env.scope.kind == .module && env.locals != env.globals)) = false)
    (h : wpAny (model prog w) A (eval iter env) (AskSrc prog w A h₀ L m env ct elt a b scope cl y Q) E s) (hs : ∀ x, foldedSetIterable iter env x = pure x := by intro _; rfl) :
    wpAny (model prog w) A (exec (.Assign [.Name y py] (.ListComp elt [⟨.Tuple [.Name a pa, .Name b pb] kk tp, iter, [ct], 0⟩] scope pos) spos) env) Q E s := by
  exact eps_all (default, epsW, {}, default, {}, default, default, default, default, default, default, default, default, default, default, default, default, default, default, default, default, default, default, default) Assign_ask_P (by with_unfolding_all exact Assign_ask_0) (prog, w, A, E, s, h₀, L, m, env, ct, elt, iter, a, b, y, pa, pb, tp, py, scope, cl, pos, spos, Q) kk _F₀ hLe hsw hclos hcell hkind hnames ha hb hab hy hp h hs
end
end
section
set_option Elab.async false
set_option maxRecDepth 100000
set_option maxHeartbeats 1600000
section
variable {prog : Program} {w : World} {A : Around} {E : Value → Shared → Prop} {s : Shared} {h₀ : Heap} {L l : Addr} {m : Str → Option Value} {news : List (Addr × Obj)} {vs : List Value} {c : Nat}
theorem list_of_news (N : News h₀ L s.heap news) (hm : (l, listOf (List.toArray vs) c) ∈ news) : s.heap.IsList l vs.toArray := ⟨_, (N _ hm).1, rfl, c, rfl⟩
theorem k_len_vs {n : Nat} {Q : Value → Shared → Prop} (N : News h₀ L s.heap news) (hm : (l, listOf (List.toArray vs) c) ∈ news) (hl : vs.length = n) (hz : n ≤ 1000) (h : ∀ t k, Q (.int n t) { s with toks := k }) :
    wpAny (model prog w) A (call (.builtin "len") [.ref l]) Q E s := by
  refine len_list (list_of_news N hm) (by rw [List.size_toArray, hl]; omega) ?_
  rw [List.size_toArray, hl]
  exact h _ _
theorem k_deed_item {value slice : PySem.Expr} {D : Deeds} {k : Int} {u : Tok} {Q : Value → Shared → Prop} (N : News h₀ L s.heap news) (hG : DeedsG h₀ vs D) (hm : (l, listOf (List.toArray vs) c) ∈ news) (h0 : 0 ≤ k) (h1 : k < D.length) (hz : D.length ≤ 1000)
    (h : ∀ a u1 u2, h₀.get? a = some (deedO (timeAt D k) (sortAt D k) u1 u2) → Q (.ref a) s)
    (hs : subscripted slice false (.ref l) (.int k u) = operate [.ref l, .int k u] (getItem (.ref l) (.int k u)) := by with_unfolding_all rfl) (hg : ∀ r, letTemporaryGo value (.ref l) r = pure () := by intro _; with_unfolding_all rfl) :
    wpAny (model prog w) A (subscriptTail value slice (.ref l) (.int k u)) Q E s := by
  obtain ⟨a, u1, u2, e, eo⟩ := hG.at h0 h1
  exact item_list (list_of_news N hm) h0 (by omega) (by simpa using e) (h a u1 u2 eo) hs hg
theorem k_deed_time {value slice : PySem.Expr} {a : Addr} {x y : Int} {u u1 u2 : Tok} {Q : Value → Shared → Prop} (F : Fr h₀ L s.heap m) (ho : h₀.get? a = some (deedO x y u1 u2)) (h : Q (.int x u1) s)
    (hs : subscripted slice false (.ref a) (.int 0 u) = operate [.ref a, .int 0 u] (getItem (.ref a) (.int 0 u)) := by with_unfolding_all rfl) : wpAny (model prog w) A (subscriptTail value slice (.ref a) (.int 0 u)) Q E s :=
  item_tupleT (l := [.int x u1, .int y u2]) (j := 0) ⟨_, F.keep _ _ ho, rfl, _, rfl⟩ (by decide) (by decide) rfl rfl h hs
theorem k_deed_sort {value slice : PySem.Expr} {a : Addr} {x y : Int} {u u1 u2 : Tok} {Q : Value → Shared → Prop} (F : Fr h₀ L s.heap m) (ho : h₀.get? a = some (deedO x y u1 u2)) (h : Q (.int y u2) s)
    (hs : subscripted slice false (.ref a) (.int 1 u) = operate [.ref a, .int 1 u] (getItem (.ref a) (.int 1 u)) := by with_unfolding_all rfl) : wpAny (model prog w) A (subscriptTail value slice (.ref a) (.int 1 u)) Q E s :=
  item_tupleT (l := [.int x u1, .int y u2]) (j := 1) ⟨_, F.keep _ _ ho, rfl, _, rfl⟩ (by decide) (by decide) rfl rfl h hs
theorem last_ints : ∀ {vs : List Value} {ks : List Int}, IntsAre vs ks → ks ≠ [] → ∃ t, vs[vs.length - 1]? = some (.int (ks.getLastD 0) t)
  | _, _, .nil, h => absurd rfl h
  | _, _, .cons n t .nil, _ => ⟨t, rfl⟩
  | _, _, .cons n t (.cons n2 t2 r), _ => by
    obtain ⟨u, e⟩ := last_ints (.cons n2 t2 r) (by simp)
    refine ⟨u, ?_⟩
    simpa using e
theorem k_last {value slice : PySem.Expr} {ks : List Int} {u : Tok} {Q : Value → Shared → Prop} (N : News h₀ L s.heap news) (hm : (l, listOf (List.toArray vs) c) ∈ news) (hi : IntsAre vs ks) (hn : ks ≠ []) (hz : ks.length ≤ 1000) (h : ∀ t, Q (.int (ks.getLastD 0) t) s)
    (hs : subscripted slice false (.ref l) (.int (-1) u) = operate [.ref l, .int (-1) u] (getItem (.ref l) (.int (-1) u)) := by with_unfolding_all rfl) (hg : ∀ r, letTemporaryGo value (.ref l) r = pure () := by intro _; with_unfolding_all rfl) :
    wpAny (model prog w) A (subscriptTail value slice (.ref l) (.int (-1) u)) Q E s := by
  have hp : 0 < vs.length := by rw [hi.length]; exact List.length_pos_iff.mpr hn
  obtain ⟨t, e⟩ := last_ints hi hn
  have hl := list_of_news N hm
  refine subscriptTail_builtin hl.typeIs slot_list_getitem.lookup (wpAny_getItem_list_neg hl (by decide) (by rw [List.size_toArray]; omega) (by decide) ?_ (h t)) hs hg
  rw [List.size_toArray, show (-1 + (vs.length : Int)).toNat = vs.length - 1 by omega]
  simpa using e
theorem k_first {value slice : PySem.Expr} {ks : List Int} {u : Tok} {Q : Value → Shared → Prop} (N : News h₀ L s.heap news) (hm : (l, listOf (List.toArray vs) c) ∈ news) (hi : IntsAre vs ks) (hn : ks ≠ []) (h : ∀ t, Q (.int (ks.headD 0) t) s)
    (hs : subscripted slice false (.ref l) (.int 0 u) = operate [.ref l, .int 0 u] (getItem (.ref l) (.int 0 u)) := by with_unfolding_all rfl) (hg : ∀ r, letTemporaryGo value (.ref l) r = pure () := by intro _; with_unfolding_all rfl) :
    wpAny (model prog w) A (subscriptTail value slice (.ref l) (.int 0 u)) Q E s := by
  cases hi with
  | nil => exact absurd rfl hn
  | cons n t r => exact item_list (list_of_news N hm) (by decide) (by decide) rfl (h t) hs hg
theorem pick_from {vs : List Value} {x : Int} (h : 0 ≤ x) : slicePick vs.toArray (some x) none none = (vs.drop x.toNat).toArray := by
  have e : sliceBounds (some x) none none vs.toArray.size = (((min x.toNat vs.toArray.size : Nat) : Int), ((vs.toArray.size : Nat) : Int), 1) := by
    simp only [sliceBounds, Option.getD_none, show (1 : Int) > 0 by decide, if_true, if_neg (show ¬ (x < 0) by omega)]
    congr 1
    omega
  rw [kmk_pick_nat _ e]
  show ((vs.drop (min x.toNat vs.toArray.size)).take (vs.toArray.size - min x.toNat vs.toArray.size)).toArray = _
  rw [List.size_toArray, kmk_drop_min, List.take_of_length_le (by rw [List.length_drop]; omega)]
theorem k_from {value slice : PySem.Expr} {x : Int} {u : Tok} {Q : Value → Shared → Prop} (F : Fr h₀ L s.heap m) (N : News h₀ L s.heap news) (hm : (l, listOf (List.toArray vs) c) ∈ news) (h0 : 0 ≤ x) (hz : vs.length ≤ 1000)
    (h : ∀ D h', Fr h₀ L h' m → News h₀ L h' ((D, listOf (vs.drop x.toNat).toArray 0) :: news) → (∀ p ∈ news, p.1 < D) → Q (.ref D) { s with heap := h' })
    (hs : subscripted slice false (.ref l) (.ref s.heap.objs.size) = operate [.ref s.heap.objs.size, .ref l] (getItem (.ref l) (.ref s.heap.objs.size)) := by with_unfolding_all rfl) (ht : ∀ r, letTemporaryGo value (.ref l) r = pure () := by intro _; with_unfolding_all rfl) :
    wpAny (model prog w) A (subscriptTail value slice (.ref l) (.ref s.heap.objs.size)) Q E { s with heap := s.heap.push { cls := .type "slice", data := .fields #[.int x u, .none, .none] } } := by
  refine kmk_slice F N (list_of_news N hm) (lo := some x) (hi := none) (.int x u) .none (fun D h' F' N' l1 => h D h' F' ?_ l1) hs ht (by rw [List.size_toArray, sizeLine_eq]; omega)
  rw [pick_from h0] at N'
  exact N'
end
section
open PyProof.Rows.LCg (lst NsObj Off1 Off3 CompEnd)
theorem AskSrc.intro {prog : Program} {w : World} {A : Around} {h₀ : Heap} {L : Addr} {m : Str → Option Value} {env : Env} {ct elt : PySem.Expr} {a b : Str} {scope : Scope} {cl : List (Str × Addr)} {y : Str} {Q : Flow → Shared → Prop} {s₁ : Shared} {ax : Addr} {vs : List Value} {c : Nat} {news : List (Addr × Obj)} {D : Deeds}
    (hh : A.handled = none) (F : Fr h₀ L s₁.heap m) (N : News h₀ L s₁.heap news) (hm : (ax, listOf (List.toArray vs) c) ∈ news) (hD : DeedsG h₀ vs D) (hl : D.length ≤ 1000)
    (turn : ∀ t s u1 u2 I oI C oC E m₂ ys h tk (E' : Value → Shared → Prop), NsObj oC m₂ → m₂ a = some (.int t u1) → m₂ b = some (.int s u2) → Fr h₀ L h m → News h₀ L h ((I, oI) :: (C, oC) :: (E, lst ys) :: news) → Off3 I C E news → ((@Ne Nat I C) ∧ (@Ne Nat I E) ∧ (@Ne Nat C E)) →
      wpAny (model prog w) A (isTrue ct (compEnvC scope cl C env) (eval ct (compEnvC scope cl C env))) (fun ok s' => if ok = true then
        wpAny (model prog w) A (eval elt (compEnvC scope cl C env)) (CompEnd h₀ L m { s₁ with heap := h, toks := tk } I oI C oC E (lst ys) (fun _ => True) (fun v news' => AskEl news t s v news')) E' s'
        else CompEnd h₀ L m { s₁ with heap := h, toks := tk } I oI C oC E (lst ys) (fun _ => True) (fun _ news' => AskNo news s news') Value.none s') E' { s₁ with heap := h, toks := tk })
    (fin : ∀ ys E h tk, IntsAre ys (askedL D) → Fr h₀ L h (fun z => if z = y then some (.ref E) else m z) → News h₀ L h ((E, lst ys) :: news) → Off1 E news → Q .next { s₁ with heap := h, toks := tk }) :
    AskSrc prog w A h₀ L m env ct elt a b scope cl y Q (.ref ax) s₁ :=
  ⟨ax, vs, c, news, D, rfl, hh, F, N, hm, hD, hl, fun t s u1 u2 I oI C oC E _ m₂ ys h tk E' q1 q2 q3 q4 q5 q6 q7 _ => turn t s u1 u2 I oI C oC E m₂ ys h tk E' q1 q2 q3 q4 q5 q6 q7, fin⟩
end
def cameG (D : Deeds) (l : List Int) (k : Int) : List Int := if sortAt D k = 2 then l ++ [k] else l
def cameL (D : Deeds) : List Int := (rangeKs 0 D.length).foldl (cameG D) []
theorem foldl_mem {P : Int → Prop} {D : Deeds} : ∀ {ks l : List Int}, (∀ k ∈ ks, P k) → (∀ k ∈ l, P k) → ∀ k ∈ ks.foldl (cameG D) l, P k
  | [], _, _, h2 => h2
  | k :: r, l, h1, h2 => by
    refine foldl_mem (ks := r) (fun x hx => h1 x (List.mem_cons_of_mem _ hx)) fun x hx => ?_
    unfold cameG at hx
    split at hx
    · rcases List.mem_append.mp hx with hx | hx
      · exact h2 x hx
      · rw [List.mem_singleton.mp hx]; exact h1 k List.mem_cons_self
    · exact h2 x hx
theorem cameL_mem {D : Deeds} : ∀ k ∈ cameL D, 0 ≤ k ∧ k < D.length := foldl_mem (fun k hk => by have := mem_rangeKs hk; omega) (fun _ h => nomatch h)
theorem getLastD_mem : ∀ {l : List Int}, l ≠ [] → l.getLastD 0 ∈ l
  | [], h => absurd rfl h
  | [a], _ => List.mem_cons_self
  | a :: b :: r, _ => by
    have := getLastD_mem (l := b :: r) (by simp)
    exact List.mem_cons_of_mem _ (by simpa using this)
theorem cameL_last {D : Deeds} (h : cameL D ≠ []) : 0 ≤ (cameL D).getLastD 0 ∧ (cameL D).getLastD 0 < D.length := cameL_mem _ (getLastD_mem h)
theorem cameG_grows (D : Deeds) : KPfGrows (cameG D) := by
  intro l k
  unfold cameG
  split
  · simp
  · omega
theorem drop_le {D : Deeds} {k n : Nat} (h : D.length ≤ n) : (D.drop k).length ≤ n := by rw [List.length_drop]; omega
theorem came_of {D : Deeds} {ys : List Value} (h : IntsAre ys ((rangeKs 0 ((D.length : Int) - 0).toNat).foldl (cameG D) [])) : IntsAre ys (cameL D) := by
  rw [show ((D.length : Int) - 0).toNat = D.length by omega] at h
  exact h
theorem cameL_len {D : Deeds} : (cameL D).length ≤ D.length := by
  have := kpf_len (cameG_grows D) (rangeKs 0 D.length) []
  rw [rangeKs_length] at this
  simp only [List.length_nil, Nat.zero_add] at this
  exact this
theorem came_rest {prog : Program} {w : World} {A : Around} {h₀ : Heap} {L : Addr} {m : Str → Option Value} {env : Env} {ct elt : PySem.Expr} {x : Str} {scope : Scope} {cl : List (Str × Addr)} {s : Shared} {S : List (Addr × Obj) → Prop} {Fin : List Value → List (Addr × Obj) → Prop} {news : List (Addr × Obj)} {vs : List Value} {D : Deeds} (_hG : DeedsG h₀ vs D)
    (turn : ∀ (k : Int) t I oI C oC G m₂ ys l h tk (E' : Value → Shared → Prop), 0 ≤ k → k < D.length → IntsAre ys l → LCg.NsObj oC m₂ → m₂ x = some (.int k t) → Fr h₀ L h m → News h₀ L h ((I, oI) :: (C, oC) :: (G, LCg.lst ys) :: news) → LCg.Off3 I C G news → ((@Ne Nat I C) ∧ (@Ne Nat I G) ∧ (@Ne Nat C G)) →
      wpAny (model prog w) A (isTrue ct (compEnvC scope cl C env) (eval ct (compEnvC scope cl C env))) (fun b s' => if b = true then wpAny (model prog w) A (eval elt (compEnvC scope cl C env)) (LCg.CompEnd h₀ L m { s with heap := h, toks := tk } I oI C oC G (LCg.lst ys) S (fun y news' => KCiEl news l (cameG D l k) y news')) E' s'
        else LCg.CompEnd h₀ L m { s with heap := h, toks := tk } I oI C oC G (LCg.lst ys) S (fun _ news' => KCiNo news l (cameG D l k) news') Value.none s') E' { s with heap := h, toks := tk })
    (fin : ∀ ys, IntsAre ys (cameL D) → Fin ys news) : LCt.CompRestT prog w A h₀ L m env ct elt x scope cl s S (fun i v => ∃ t, v = .int (0 + (i : Int)) t) Fin ((D.length : Int) - 0).toNat 0 [] news :=
  kci_range (cameG D) (fun k t I oI C oC G m₂ ys l h tk E' h0 h1 hy hC hx F N off ne _ => turn k t I oI C oC G m₂ ys l h tk E' h0 (by omega) hy hC hx F N off ne) (fun ys hi _ => fin ys (came_of hi)) (cameG_grows D)
def behindL (D : Deeds) : Deeds := if cameL D = [] then D else D.drop ((cameL D).getLastD 0 + 1).toNat
def lawSince (D : Deeds) : Option Int × Bool :=
  if askedL (behindL D) = [] then ((if cameL D = [] then none else some (timeAt D ((cameL D).getLastD 0))), false) else (some ((askedL (behindL D)).headD 0), true)
theorem lawSince_1 {D : Deeds} (h1 : decide (cameL D = []) = true) (h2 : decide (askedL D = []) = true) : lawSince D = (none, false) := by
  have e1 := of_decide_eq_true h1
  have e2 := of_decide_eq_true h2
  simp only [lawSince, behindL, if_pos e1, if_pos e2]
theorem lawSince_2 {D : Deeds} (h1 : decide (cameL D = []) = true) (h2 : decide (askedL D = []) = false) : lawSince D = (some ((askedL D).headD 0), true) := by
  have e1 := of_decide_eq_true h1
  have e2 := of_decide_eq_false h2
  simp only [lawSince, behindL, if_pos e1, if_neg e2]
theorem lawSince_3 {D : Deeds} (h1 : decide (cameL D = []) = false) (h2 : decide (askedL (D.drop ((cameL D).getLastD 0 + 1).toNat) = []) = true) : lawSince D = (some (timeAt D ((cameL D).getLastD 0)), false) := by
  have e1 := of_decide_eq_false h1
  have e2 := of_decide_eq_true h2
  simp only [lawSince, behindL, if_neg e1, if_pos e2]
theorem lawSince_4 {D : Deeds} (h1 : decide (cameL D = []) = false) (h2 : decide (askedL (D.drop ((cameL D).getLastD 0 + 1).toNat) = []) = false) : lawSince D = (some ((askedL (D.drop ((cameL D).getLastD 0 + 1).toNat)).headD 0), true) := by
  have e1 := of_decide_eq_false h1
  have e2 := of_decide_eq_false h2
  simp only [lawSince, behindL, if_neg e1, if_neg e2]
def SinceO (r : Option Int × Bool) (o : Obj) : Prop := ∃ t n, o = { cls := .type "tuple", data := .seq #[optV r.1 t, .bool r.2] n }
theorem sinceO_none {r : Option Int × Bool} {n : Nat} (e : r = (none, false)) : SinceO r { cls := .type "tuple", data := .seq #[.none, .bool false] n } := ⟨0, n, by rw [e]; rfl⟩
theorem sinceO_some {r : Option Int × Bool} {x : Int} {b : Bool} {t : Tok} {n : Nat} (e : r = (some x, b)) : SinceO r { cls := .type "tuple", data := .seq #[.int x t, .bool b] n } := ⟨t, n, by rw [e]; rfl⟩
end
section
set_option Elab.async false
set_option maxRecDepth 100000
set_option maxHeartbeats 4000000
local macro_rules | `(tactic| k_room) => `(tactic| ktr_room)
local macro_rules | `(tactic| k_units) => `(tactic| ktr_units)
def Bears (h₀ : Heap) (news : List (Addr × Obj)) (a : Addr) (o : Obj) : Prop := (a, o) ∈ news ∨ h₀.get? a = some o
def SentN (h₀ : Heap) (news : List (Addr × Obj)) (kvs : List (Int × Value)) : Prop :=
  ∀ k v, (k, v) ∈ kvs → ∃ px pxd es n b, v = .ref px ∧ Bears h₀ news px (instObj 511 pxd) ∧ Bears h₀ news pxd (dictOf es n) ∧ getL (Str.ofString "in_flight") es = some (some (.bool b))
def SentG (g : Heap) (kvs : List (Int × Value)) : Prop :=
  ∀ k v, (k, v) ∈ kvs → ∃ px pxd es n b, v = .ref px ∧ g.get? px = some (instObj 511 pxd) ∧ g.get? pxd = some (dictOf es n) ∧ getL (Str.ofString "in_flight") es = some (some (.bool b))
variable {h₀ : Heap} {L a : Addr} {m : Str → Option Value} {o : Obj} {news : List (Addr × Obj)} {h : Heap} {es : List DictEntry}
theorem Bears.ground {g : Heap} {need : List (Addr × Obj)} (x : Bears h₀ news a o) (hg : ∀ p ∈ restOf need news, g.get? p.1 = some p.2) (FG : Fr h₀ L g m) (hn : a ∉ need.map (·.1)) : g.get? a = some o := by
  rcases x with x | x
  · exact hg (a, o) (List.mem_filter.mpr ⟨x, by simpa using hn⟩)
  · exact FG.keep _ _ x
theorem Bears.at (x : Bears h₀ news a o) (N : News h₀ L h news) (F : Fr h₀ L h m) : h.get? a = some o := by
  rcases x with x | x
  · exact (N _ x).1
  · exact F.keep _ _ x
theorem int_no_str {w : World} {nm : Str} {v : Value} (hk : KeysOf (PySem.intKind PR w) es.toArray) (h : getL nm es = some (some v)) : False := by
  unfold getL at h
  cases q : es.find? (·.key.isStr nm) with
  | none =>
    rw [q] at h
    dsimp only at h
    split at h
    · cases h
    · exact absurd (Option.some.inj h) (by intro e; cases e)
  | some e =>
    obtain ⟨k, h1, _⟩ := hk e (by simpa using List.mem_of_find?_eq_some q)
    obtain ⟨t, h3⟩ := Value.isInt_shape h1
    have h2 := List.find?_some q
    rw [h3] at h2
    cases h2
theorem SentN.g {g : Heap} {pl pd sd : Addr} {n : Nat} {osd : Obj} {kvs : List (Int × Value)} (x : SentN h₀ news kvs) (N : News h₀ L h news) (F : Fr h₀ L h m) (FG : Fr h₀ L g m)
    (hg : ∀ p ∈ restOf [(pd, dictOf es n), (sd, osd), (pl, instObj 654 pd)] news, g.get? p.1 = some p.2) (hneed : ∀ q ∈ [(pd, dictOf es n), (sd, osd), (pl, instObj 654 pd)], q ∈ news) (hes : getL (Str.ofString "in_flight") es = some none) (hosd : ∃ kv, osd.IsDictOf (PySem.intKind PR w) kv) : SentG g kvs := fun k v hk => by
  obtain ⟨px, pxd, es', n', b, rfl, b1, b2, hb⟩ := x k v hk
  have a1 := b1.at N F
  have a2 := b2.at N F
  have hpd : h.get? pd = some (dictOf es n) := (N _ (hneed _ List.mem_cons_self)).1
  have hsd : h.get? sd = some osd := (N _ (hneed _ (List.mem_cons_of_mem _ List.mem_cons_self))).1
  have hpl : h.get? pl = some (instObj 654 pd) := (N _ (hneed _ (List.mem_cons_of_mem _ (List.mem_cons_of_mem _ List.mem_cons_self)))).1
  obtain ⟨kv, dk⟩ := hosd
  refine ⟨px, pxd, es', n', b, rfl, b1.ground hg FG ?_, b2.ground hg FG ?_, hb⟩
  · intro hm
    simp only [List.map_cons, List.map_nil, List.mem_cons, List.not_mem_nil, or_false] at hm
    rcases hm with e | e | e
    · rw [e, hpd] at a1
      have := congrArg Obj.cls (Option.some.inj a1)
      cases this
    · rw [e, hsd] at a1
      obtain ⟨_, _, he, _⟩ := dk
      have := congrArg Obj.cls (Option.some.inj a1)
      rw [he.1] at this
      cases this
    · rw [e, hpl] at a1
      have h2 := congrArg Obj.cls (Option.some.inj a1)
      have h3 : (654 : Nat) = 511 := Value.ref.inj h2
      exact absurd h3 (by decide)
  · intro hm
    simp only [List.map_cons, List.map_nil, List.mem_cons, List.not_mem_nil, or_false] at hm
    rcases hm with e | e | e
    · rw [e, hpd] at a2
      have h2 := Option.some.inj a2
      have h3 : es.toArray = es'.toArray := (Data.dict.inj (congrArg Obj.data h2)).1
      have h4 : es = es' := by simpa using congrArg Array.toList h3
      rw [h4, hb] at hes
      cases hes
    · rw [e, hsd] at a2
      obtain ⟨es2, ep2, _, hd2, hk2, _⟩ := dk
      rw [Option.some.inj a2] at hd2
      have h3 : es'.toArray = es2 := (Data.dict.inj hd2).1
      rw [← h3] at hk2
      exact int_no_str hk2 hb
    · rw [e, hpl] at a2
      have := congrArg Obj.cls (Option.some.inj a2)
      cases this
end
section
set_option Elab.async false
set_option maxRecDepth 100000
set_option maxHeartbeats 4000000
local macro_rules | `(tactic| k_room) => `(tactic| ktr_room)
local macro_rules | `(tactic| k_units) => `(tactic| ktr_units)
def SameL (news news' : List (Addr × Obj)) : Prop := news' = news
theorem ints_of_keys {w : World} : ∀ {kvs : List (Int × Value)} {vs : List Value}, vs.length = kvs.length → (∀ (j : Nat) (v : Value), vs[j]? = some v → ∃ k x, kvs[j]? = some (k, x) ∧ (PySem.intKind PR w).is k v = true) → IntsAre vs (kvs.map (·.1))
  | [], [], _, _ => .nil
  | (k, x) :: r, v :: vs, hl, h => by
    obtain ⟨k', x', e, hk⟩ := h 0 v rfl
    cases (Option.some.inj e)
    obtain ⟨t, rfl⟩ := Value.isInt_shape hk
    exact .cons k t (ints_of_keys (by simpa using hl) fun j v e => h (j + 1) v (by simpa using e))
  | [], _ :: _, hl, _ => by simp at hl
  | _ :: _, [], hl, _ => by simp at hl
section
variable {w : World} {A : Around} {E : Value → Shared → Prop} {s : Shared} {h₀ : Heap} {L sd : Addr} {m : Str → Option Value} {news : List (Addr × Obj)}
theorem k_sorted_dict {osd : Obj} {kvs : List (Int × Value)} {Q : Value → Shared → Prop} (hh : A.handled = none) (F : Fr h₀ L s.heap m) (N : News h₀ L s.heap news) (hm : (sd, osd) ∈ news) (hd : osd.IsDictOf (PySem.intKind PR w) kvs) (lo : (sd == sysModules) = false) (hz : kvs.length < 64)
    (h : ∀ D vs' ns' c h' tk', Fr h₀ L h' m → News h₀ L h' ((D, listOf (List.toArray vs') c) :: news) → (∀ q ∈ news, q.1 < D) → IntsAre vs' ns' → ns'.length = kvs.length → (∀ k ∈ ns', k ∈ kvs.map (·.1)) → Q (.ref D) { s with heap := h', toks := tk' }) :
    wpAny (model PR w) A (call (.builtin "sorted") [.ref sd]) Q E s := by
  have hD : s.heap.DictOf (PySem.intKind PR w) sd kvs := Heap.dictOf_iff.mpr ⟨osd, (N _ hm).1, hd⟩
  obtain ⟨ep, hat⟩ := hD.dictAt
  refine kdu_sorted (kdl_dict (knd := PySem.intKind PR w) (kvs := kvs) (ep := ep) lo) hh F N hat (by rw [PySem.sizeLine_eq]; omega) fun D h' tk vs F' N' off hl hv => ?_
  have hi := ints_of_keys hl hv
  refine ksk_lsort (s := { s with heap := h', toks := tk }) (its := vs.toArray) (news' := fun o => (D, o) :: news) F' N' (fun o => .head fun p hp => Nat.ne_of_lt (off p hp)) rfl hi (by rw [List.length_map]; exact hz) fun vs' ns' c h2 F2 N2 i2 l2 p2 _ _ => ?_
  exact h D vs' ns' c h2 tk F2 N2 off i2 (by rw [l2, List.length_map]) fun k hk => p2.mem_iff.mp hk
theorem rest_any {env : Env} {ct elt : PySem.Expr} {x : Str} {scope : Scope} {cl : List (Str × Addr)} {s : Shared} {S : List (Addr × Obj) → Prop} {Fin : List Value → List (Addr × Obj) → Prop} {vs : List Value} {ns : List Int} (hi : IntsAre vs ns)
    (turn : ∀ (k : Int) t I oI C oC G m₂ ys h tk (E' : Value → Shared → Prop), k ∈ ns → LCg.NsObj oC m₂ → m₂ x = some (.int k t) → Fr h₀ L h m → News h₀ L h ((I, oI) :: (C, oC) :: (G, LCg.lst ys) :: news) → LCg.Off3 I C G news → ((@Ne Nat I C) ∧ (@Ne Nat I G) ∧ (@Ne Nat C G)) →
      wpAny (model PR w) A (isTrue ct (compEnvC scope cl C env) (eval ct (compEnvC scope cl C env))) (fun b s' => if b = true then wpAny (model PR w) A (eval elt (compEnvC scope cl C env)) (LCg.CompEnd h₀ L m { s with heap := h, toks := tk } I oI C oC G (LCg.lst ys) S (fun _ news' => SameL news news')) E' s'
        else LCg.CompEnd h₀ L m { s with heap := h, toks := tk } I oI C oC G (LCg.lst ys) S (fun _ news' => SameL news news') Value.none s') E' { s with heap := h, toks := tk })
    (fin : ∀ ys, ys.length ≤ vs.length → Fin ys news) : LCt.CompRestT PR w A h₀ L m env ct elt x scope cl s S (fun i v => vs.toArray[i]? = some v) Fin vs.toArray.size 0 [] news := by
  have key : ∀ (j i : Nat) (ys : List Value), i + j = vs.length → ys.length ≤ i → LCt.CompRestT PR w A h₀ L m env ct elt x scope cl s S (fun i v => vs.toArray[i]? = some v) Fin j i ys news := by
    intro j
    induction j with
    | zero => intro i ys e hy; exact LCt.CompRestT.zero (fin ys (by omega))
    | succ j ih =>
      intro i ys e hy
      refine LCt.CompRestT.succ ?_
      intro v I oI C oC G m₂ h tk E' hv hC hx F N off ne
      obtain ⟨k, t, ev, hk⟩ := IntsAre.at hi i v (by simpa using hv)
      rw [ev] at hx
      refine wpAny_mono (turn k t I oI C oC G m₂ ys h tk E' (List.mem_of_getElem? hk) hC hx F N off ne) (fun b s₂ hq => ?_) fun _ _ e => e
      cases b with
      | true =>
        simp only [if_true] at hq ⊢
        refine wpAny_mono hq (fun y s₃ hr => ?_) fun _ _ e => e
        obtain ⟨h', tk', nw, e3, F', N', off', hS, hn⟩ := hr
        have hn' : nw = news := hn
        rw [hn'] at N' off' hS
        exact ⟨h', tk', news, e3, F', N', off', hS, ih (i + 1) _ (by omega) (by rw [List.length_append, List.length_singleton]; omega)⟩
      | false =>
        simp only [Bool.false_eq_true, if_false] at hq ⊢
        obtain ⟨h', tk', nw, e3, F', N', off', hS, hn⟩ := hq
        have hn' : nw = news := hn
        rw [hn'] at N' off' hS
        exact ⟨h', tk', news, e3, F', N', off', hS, ih (i + 1) _ (by omega) (by omega)⟩
  have := key vs.length 0 [] (by omega) (Nat.le_refl _)
  rw [List.size_toArray]
  exact this
theorem k_sent_item {value slice : PySem.Expr} {osd : Obj} {kvs : List (Int × Value)} {k : Int} {t : Tok} {Q : Value → Shared → Prop} (N : News h₀ L s.heap news) (hm : (sd, osd) ∈ news) (hd : osd.IsDictOf (PySem.intKind PR w) kvs) (hS : SentG h₀ kvs) (hk : k ∈ kvs.map (·.1))
    (h : ∀ px pxd es n b, h₀.get? px = some (instObj 511 pxd) → h₀.get? pxd = some (dictOf es n) → getL (Str.ofString "in_flight") es = some (some (.bool b)) → Q (.ref px) { s with toks := s.toks + 1 })
    (hs : subscripted slice false (.ref sd) (.int k t) = operate [.ref sd, .int k t] (getItem (.ref sd) (.int k t)) := by with_unfolding_all rfl) (hg : ∀ r, letTemporaryGo value (.ref sd) r = pure () := by intro _; with_unfolding_all rfl) :
    wpAny (model PR w) A (subscriptTail value slice (.ref sd) (.int k t)) Q E s := by
  obtain ⟨⟨k', v⟩, hp, e⟩ := List.mem_map.mp hk
  obtain rfl : k' = k := e
  obtain ⟨px, pxd, es, n, b, rfl, g1, g2, hb⟩ := hS _ _ hp
  obtain ⟨i, hi, ei⟩ := List.getElem_of_mem hp
  have hv : valueAt kvs k' = some (.ref px) := valueAt_of_get (i := i) (let ⟨_, _, _, _, _, _, hn⟩ := hd; hn) (by rw [List.getElem?_eq_getElem hi, ei])
  exact kda_item N hm hd (intKind_is _ _ _ _) hv (h px pxd es n b g1 g2 hb) hs hg
theorem inst_ground {px pxd : Addr} {es : List DictEntry} {n : Nat} (F : Fr h₀ L s.heap m) (h1 : h₀.get? px = some (instObj 511 pxd)) (h2 : h₀.get? pxd = some (dictOf es n)) : InstAt s.heap px (instObj 511 pxd) 511 (some (dictOf es n)) := ⟨F.keep _ _ h1, rfl, rfl, F.keep _ _ h2⟩
end
end
section
set_option Elab.async false
set_option maxRecDepth 100000
set_option maxHeartbeats 4000000
theorem J9_rows0 : True := by
  k_with_none
  trivial
theorem J9_rows1 : True := by
  (k_with "k_room" => (ktr_room))
  (k_with "k_units" => (ktr_units))
  trivial
theorem k_sent_get {w : World} {A : Around} {E : Value → Shared → Prop} {s : Shared} {h₀ : Heap} {L sd : Addr} {news : List (Addr × Obj)} {osd : Obj} {kvs : List (Int × Value)} {k : Int} {t : Tok} {Q : Value → Shared → Prop} (N : News h₀ L s.heap news) (hm : (sd, osd) ∈ news) (hd : osd.IsDictOf (PySem.intKind PR w) kvs) (hS : SentG h₀ kvs) (hk : k ∈ kvs.map (·.1))
    (h : ∀ px pxd es n b, h₀.get? px = some (instObj 511 pxd) → h₀.get? pxd = some (dictOf es n) → getL (Str.ofString "in_flight") es = some (some (.bool b)) → Q (.ref px) { s with toks := s.toks + 1 }) :
    wpAny (model PR w) A (getItem (.ref sd) (.int k t)) Q E s := by
  obtain ⟨⟨k', v⟩, hp, e⟩ := List.mem_map.mp hk
  obtain rfl : k' = k := e
  obtain ⟨px, pxd, es, n, b, rfl, g1, g2, hb⟩ := hS _ _ hp
  obtain ⟨i, hi, ei⟩ := List.getElem_of_mem hp
  have hv : valueAt kvs k' = some (.ref px) := valueAt_of_get (i := i) (let ⟨_, _, _, _, _, _, hn⟩ := hd; hn) (by rw [List.getElem?_eq_getElem hi, ei])
  exact wpAny_getItem_of (knd := PySem.intKind PR w) (intKind_is _ _ _ _) (kda_dict N hm hd).mapOf hv (h px pxd es n b g1 g2 hb)
theorem J9_rows2 : True := by
  (k_with "eval ListComp" => (k_here; k_dflt (refine LCt.ListComp_T (F₀ := by k_asm) (by with_unfolding_all rfl) (by decide) (by rfl) (by decide) (by rfl) ?_)))
  (k_with "call builtin:sorted" => (k_here; (with_reducible show wpAny _ _ (call (Value.builtin _) [Value.ref _]) _ _ _); k_dflt (refine k_sorted_dict (by rfl) (by k_asm) (by k_asm) (by k_mem) (by assumption) (by assumption) (by omega) ?_; intro D9 vs9 ns9 c9 h9 tk9 F9 N9 l9 hi9 hl9 hk9; (try dsimp only); (try k_lt l9))))
  (k_with "CompSrcT" => (k_here; k_dflt (refine LCt.CompSrcT.ledger (by rfl) (by k_asm) (by k_asm) (by k_mem) (by (rw [List.size_toArray, PySem.sizeLine_eq, IntsAre.length (by assumption)]); omega) ?_; intro gw'; (refine rest_any (by assumption) (fun k9 t9 I9 oI9 C9 oC9 G9 m9 ys9 h9 tk9 E9 hk9 hC9 hx9 F9 N9 off9 ne9 => ?_) (fun ys9 hl9 => ?_)); (all_goals (try (simp only [LCg.Off3, and_true] at off9))))))
  (k_with "getItem ref int" => (k_here; (with_reducible show wpAny _ _ (getItem (Value.ref _) (Value.int _ _)) _ _ _); k_dflt (refine k_sent_get (by k_asm) (by k_mem) (by assumption) (by assumption) ((by assumption : ∀ k ∈ _, k ∈ List.map _ _) _ (by assumption)) ?_; intro px9 pxd9 es9 n9 b9 g19 g29 hb9; (try dsimp only))))
  (k_with "getAttr ref" => (k_here; (with_reducible show wpAny _ _ (getAttr (Value.ref _) (PySem.Str.ofString "in_flight") _) _ _ _); k_dflt (refine get_own (by k_asm) (by k_asm) (inst_ground (by k_asm) (by assumption) (by assumption)) (by k_is) (by k_is) (by k_is) (by k_is) (by assumption) (by k_handed) ?_)))
  (k_with "SameL" => (exact (by with_unfolding_all rfl)))
  trivial
def bare_c_B (w : World) (pl pd sd : Addr) (j1 j2 j3 j4 j5 j6 j7 j8 j9 j10 j11 j12 j13 j14 j15 j16 j17 tnn : Tok) (v1 v5 v6 v7 v8 v9 v10 v11 v12 v13 v14 v15 v16 v17 : Value) (nn : Int) (osd : Obj) (kvs : List (Int × Value)) (v : KV) : Prop := RW = RW → (osd.IsDictOf (PySem.intKind PR w) kvs) → ((sd == sysModules) = false) → (kvs.length ≤ 8) → v.to fun p loose mean mg mb dp un gd cn cs a ccd cl outer A₀ base h₀ L m news s Q E => Below A₀ base outer h₀ → Fr h₀ L s.heap m → (hd.heap_1 w.params).In h₀ → News h₀ L s.heap news → Top p loose mean mg mb h₀ → cs.kind = .function →
    dp + 12 < recursionLimit → un + 8 * 12 < cLine → (∀ q ∈ [(pd, dictOf [⟨PyData.keyHash w.params (Str.ofString "name"), .str (Str.ofString "name") j1, v1⟩, ⟨PyData.keyHash w.params (Str.ofString "next_number"), .str (Str.ofString "next_number") j2, .int nn tnn⟩, ⟨PyData.keyHash w.params (Str.ofString "sent"), .str (Str.ofString "sent") j3, .ref sd⟩, ⟨PyData.keyHash w.params (Str.ofString "largest_acked"), .str (Str.ofString "largest_acked") j4, .none⟩, ⟨PyData.keyHash w.params (Str.ofString "acked"), .str (Str.ofString "acked") j5, v5⟩, ⟨PyData.keyHash w.params (Str.ofString "last_eliciting_time"), .str (Str.ofString "last_eliciting_time") j6, v6⟩, ⟨PyData.keyHash w.params (Str.ofString "loss_time"), .str (Str.ofString "loss_time") j7, v7⟩, ⟨PyData.keyHash w.params (Str.ofString "received"), .str (Str.ofString "received") j8, v8⟩, ⟨PyData.keyHash w.params (Str.ofString "largest_seen"), .str (Str.ofString "largest_seen") j9, v9⟩, ⟨PyData.keyHash w.params (Str.ofString "largest_time"), .str (Str.ofString "largest_time") j10, v10⟩, ⟨PyData.keyHash w.params (Str.ofString "floor"), .str (Str.ofString "floor") j11, v11⟩, ⟨PyData.keyHash w.params (Str.ofString "first_unacked"), .str (Str.ofString "first_unacked") j12, v12⟩, ⟨PyData.keyHash w.params (Str.ofString "unacked"), .str (Str.ofString "unacked") j13, v13⟩, ⟨PyData.keyHash w.params (Str.ofString "wants_now"), .str (Str.ofString "wants_now") j14, v14⟩, ⟨PyData.keyHash w.params (Str.ofString "has_new"), .str (Str.ofString "has_new") j15, v15⟩, ⟨PyData.keyHash w.params (Str.ofString "ecn"), .str (Str.ofString "ecn") j16, v16⟩, ⟨PyData.keyHash w.params (Str.ofString "is_gone"), .str (Str.ofString "is_gone") j17, v17⟩] 17), (sd, osd), (pl, instObj 654 pd)], q ∈ news) → SentN h₀ news kvs →
    (∀ r ys c h' tk', Fr h₀ L h' m → News h₀ L h' ((r, listOf (List.toArray ys) c) :: news) → (∀ p ∈ news, @Ne Nat p.1 r) → ys.length ≤ kvs.length → Q (.ref r) { s with heap := h', toks := tk' }) →
    wpAny (model PR w) (ktrTop dp un gd cn cs L a ccd cl outer) (call (.ref 630) [.ref pl]) Q E s
def bare_c_S : Prop := ∀ w pl pd sd j1 j2 j3 j4 j5 j6 j7 j8 j9 j10 j11 j12 j13 j14 j15 j16 j17 tnn v1 v5 v6 v7 v8 v9 v10 v11 v12 v13 v14 v15 v16 v17 nn osd kvs v, bare_c_B w pl pd sd j1 j2 j3 j4 j5 j6 j7 j8 j9 j10 j11 j12 j13 j14 j15 j16 j17 tnn v1 v5 v6 v7 v8 v9 v10 v11 v12 v13 v14 v15 v16 v17 nn osd kvs v
theorem bare_c_0 : bare_c_S := by
  refine ubx ?_
  simp (disch := k_dflt (
    refine tyP ?_
    refine' (?g9 : ∀ q : bare_c_S, Keep q → bare_c_S) _ ?w9
    case g9 => exact fun q _ => q
    case w9 =>
      refine' kp9 ?h9 fun k9 => ?j9
      case h9 =>
        unfold bare_c_S
        (repeat walk_at "CL9")
        rename_i w pl pd sd j1 j2 j3 j4 j5 j6 j7 j8 j9 j10 j11 j12 j13 j14 j15 j16 j17 tnn v1 v5 v6 v7 v8 v9 v10 v11 v12 v13 v14 v15 v16 v17 nn osd kvs vk
        unfold bare_c_B KV.to
        k_fill
        intro _ hosd hlo hkl
        w_on
        w_top on
        intro B F X N T hk hd hu hneed hsent hret
        have hsg := fun g (FG : Fr vk.h₀ vk.L g vk.m) (hg : ∀ p ∈ restOf [(pd, dictOf [⟨PyData.keyHash w.params (Str.ofString "name"), .str (Str.ofString "name") j1, v1⟩, ⟨PyData.keyHash w.params (Str.ofString "next_number"), .str (Str.ofString "next_number") j2, .int nn tnn⟩, ⟨PyData.keyHash w.params (Str.ofString "sent"), .str (Str.ofString "sent") j3, .ref sd⟩, ⟨PyData.keyHash w.params (Str.ofString "largest_acked"), .str (Str.ofString "largest_acked") j4, .none⟩, ⟨PyData.keyHash w.params (Str.ofString "acked"), .str (Str.ofString "acked") j5, v5⟩, ⟨PyData.keyHash w.params (Str.ofString "last_eliciting_time"), .str (Str.ofString "last_eliciting_time") j6, v6⟩, ⟨PyData.keyHash w.params (Str.ofString "loss_time"), .str (Str.ofString "loss_time") j7, v7⟩, ⟨PyData.keyHash w.params (Str.ofString "received"), .str (Str.ofString "received") j8, v8⟩, ⟨PyData.keyHash w.params (Str.ofString "largest_seen"), .str (Str.ofString "largest_seen") j9, v9⟩, ⟨PyData.keyHash w.params (Str.ofString "largest_time"), .str (Str.ofString "largest_time") j10, v10⟩, ⟨PyData.keyHash w.params (Str.ofString "floor"), .str (Str.ofString "floor") j11, v11⟩, ⟨PyData.keyHash w.params (Str.ofString "first_unacked"), .str (Str.ofString "first_unacked") j12, v12⟩, ⟨PyData.keyHash w.params (Str.ofString "unacked"), .str (Str.ofString "unacked") j13, v13⟩, ⟨PyData.keyHash w.params (Str.ofString "wants_now"), .str (Str.ofString "wants_now") j14, v14⟩, ⟨PyData.keyHash w.params (Str.ofString "has_new"), .str (Str.ofString "has_new") j15, v15⟩, ⟨PyData.keyHash w.params (Str.ofString "ecn"), .str (Str.ofString "ecn") j16, v16⟩, ⟨PyData.keyHash w.params (Str.ofString "is_gone"), .str (Str.ofString "is_gone") j17, v17⟩] 17), (sd, osd), (pl, instObj 654 pd)] vk.news, g.get? p.1 = some p.2) => SentN.g hsent N F FG hg hneed (by k_get) ⟨_, hosd⟩
        refine wpAny_call ?_
        k_dflt (refine' code_defCF ?k1 ?k2 ?k3 (need_news hneed N) (restOf_news N) restOf_dis ?k5 ?kA ?kF ?kK ?k6 ?k7 ?k8 ?k9 ?kB ?kD ?_ ?c2 ?c3 ?c4; (case kA => exact rfl); (case kF => exact rfl); (case kK => first | assumption | exact rfl); (case k1 => k_asm); (case k2 => k_asm); (case k3 => k_asm); (case k5 => k_asm); (case k6 => k_is); (case k7 => k_is); (case k8 => ktr_room); (case k9 => first | exact BindsTo.of_eq rfl | exact binds_K (by k_in) rfl (by k_is) rfl rfl rfl); (case kB => exact rfl); (case kD => decide +kernel); (case c2 => exact rfl); (case c3 => exact rfl); (case c4 => exact rfl); k_whole; intro g' L' h' tk' cells' FG' F' N' Y' B' X' T' l1 lr; (have hlr9 := fun p hp => (lr p hp).2); (have hG' := hsg _ FG' hlr9); (clear lr hsg); (try k_lt l1); k_cells Y'; (try simp only [List.cons_append, List.nil_append] at N'); (try dsimp only); (try k_fold))
        w_strict (k_steps; (all_goals ((rename News _ _ _ (restOf _ _) => Nr9); (rename News _ _ _ (_ :: _) => Nk9); exact hret _ _ _ _ _ (by k_asm) (news_cons9 Nk9 (back_pure N hneed (news_sub Nk9 (by (repeat (first | exact sub_self | exact sub_left | exact sub_nil | (refine sub_cons (by k_mem) ?_) | refine sub_tail ?_)))) Nr9)) (back_ne (by assumption) hlr9 (by (repeat (first | exact ne_all_nil | (refine ne_all_cons (by k_ne) ?_))))) (by (have e9 := IntsAre.length (by assumption)); omega))))
      case j9 => revert k9; (try delta id ap_mk hd_in hd_out); intro k9; (try conv at k9 => zeta); exact k9)) only [↓bxT]
theorem bare_c (w : World) (pl pd sd : Addr) (j1 j2 j3 j4 j5 j6 j7 j8 j9 j10 j11 j12 j13 j14 j15 j16 j17 tnn : Tok) (v1 v5 v6 v7 v8 v9 v10 v11 v12 v13 v14 v15 v16 v17 : Value) (nn : Int) (osd : Obj) (kvs : List (Int × Value)) (hosd : osd.IsDictOf (PySem.intKind PR w) kvs) (hlo : (sd == sysModules) = false) (hkl : kvs.length ≤ 8) : RW = RW → ∀ (p : Program) (loose : List Str) (mean : ExcName → Option Value) (mg mb : Str → Option Value)
    (dp un : Nat) (gd : Option (List Code)) (cn : Str) (cs : Scope) (a : Addr) (ccd : Value) (cl : List (Str × Addr)) (outer : List Env) (A₀ : Around) (base h₀ : Heap) (L : Addr) (m : Str → Option Value) (news : List (Addr × Obj)) (s : Shared) (Q E : Value → Shared → Prop),
    Below A₀ base outer h₀ → Fr h₀ L s.heap m → (hd.heap_1 w.params).In h₀ → News h₀ L s.heap news → Top p loose mean mg mb h₀ → cs.kind = .function →
    dp + 12 < recursionLimit → un + 8 * 12 < cLine → (∀ q ∈ [(pd, dictOf [⟨PyData.keyHash w.params (Str.ofString "name"), .str (Str.ofString "name") j1, v1⟩, ⟨PyData.keyHash w.params (Str.ofString "next_number"), .str (Str.ofString "next_number") j2, .int nn tnn⟩, ⟨PyData.keyHash w.params (Str.ofString "sent"), .str (Str.ofString "sent") j3, .ref sd⟩, ⟨PyData.keyHash w.params (Str.ofString "largest_acked"), .str (Str.ofString "largest_acked") j4, .none⟩, ⟨PyData.keyHash w.params (Str.ofString "acked"), .str (Str.ofString "acked") j5, v5⟩, ⟨PyData.keyHash w.params (Str.ofString "last_eliciting_time"), .str (Str.ofString "last_eliciting_time") j6, v6⟩, ⟨PyData.keyHash w.params (Str.ofString "loss_time"), .str (Str.ofString "loss_time") j7, v7⟩, ⟨PyData.keyHash w.params (Str.ofString "received"), .str (Str.ofString "received") j8, v8⟩, ⟨PyData.keyHash w.params (Str.ofString "largest_seen"), .str (Str.ofString "largest_seen") j9, v9⟩, ⟨PyData.keyHash w.params (Str.ofString "largest_time"), .str (Str.ofString "largest_time") j10, v10⟩, ⟨PyData.keyHash w.params (Str.ofString "floor"), .str (Str.ofString "floor") j11, v11⟩, ⟨PyData.keyHash w.params (Str.ofString "first_unacked"), .str (Str.ofString "first_unacked") j12, v12⟩, ⟨PyData.keyHash w.params (Str.ofString "unacked"), .str (Str.ofString "unacked") j13, v13⟩, ⟨PyData.keyHash w.params (Str.ofString "wants_now"), .str (Str.ofString "wants_now") j14, v14⟩, ⟨PyData.keyHash w.params (Str.ofString "has_new"), .str (Str.ofString "has_new") j15, v15⟩, ⟨PyData.keyHash w.params (Str.ofString "ecn"), .str (Str.ofString "ecn") j16, v16⟩, ⟨PyData.keyHash w.params (Str.ofString "is_gone"), .str (Str.ofString "is_gone") j17, v17⟩] 17), (sd, osd), (pl, instObj 654 pd)], q ∈ news) → SentN h₀ news kvs →
    (∀ r ys c h' tk', Fr h₀ L h' m → News h₀ L h' ((r, listOf (List.toArray ys) c) :: news) → (∀ p ∈ news, @Ne Nat p.1 r) → ys.length ≤ kvs.length → Q (.ref r) { s with heap := h', toks := tk' }) →
    wpAny (model PR w) (ktrTop dp un gd cn cs L a ccd cl outer) (call (.ref 630) [.ref pl]) Q E s := by
  intro r9 p loose mean mg mb dp un gd cn cs a ccd cl outer A₀ base h₀ L m news s Q E
  exact bare_c_0 w pl pd sd j1 j2 j3 j4 j5 j6 j7 j8 j9 j10 j11 j12 j13 j14 j15 j16 j17 tnn v1 v5 v6 v7 v8 v9 v10 v11 v12 v13 v14 v15 v16 v17 nn osd kvs ⟨p, loose, mean, mg, mb, dp, un, gd, cn, cs, a, ccd, cl, outer, A₀, base, h₀, L, m, news, s, Q, E⟩ r9 hosd hlo hkl
end
section
set_option Elab.async false
set_option maxRecDepth 100000
set_option maxHeartbeats 2000000
theorem J10_rows0 : True := by
  k_with_none
  trivial
theorem J10_rows1 : True := by
  (k_with "k_room" => (ktr_room))
  (k_with "k_units" => (ktr_units))
  (k_with "k_intsEnd" => (exact IntsAre.nil))
  trivial
theorem rest_none {w : World} {A : Around} {h₀ : Heap} {L : Addr} {m : Str → Option Value} {news : List (Addr × Obj)} {env : Env} {ct elt : PySem.Expr} {x : Str} {scope : Scope} {cl : List (Str × Addr)} {s : Shared} {S : List (Addr × Obj) → Prop} {P : Nat → Value → Prop} {Fin : List Value → List (Addr × Obj) → Prop} {vs : List Value} {ns : List Int} (hi : IntsAre vs ns) (h0 : ns.length = 0)
    (fin : Fin [] news) : LCt.CompRestT PR w A h₀ L m env ct elt x scope cl s S P Fin vs.toArray.size 0 [] news := by
  have : vs.toArray.size = 0 := by rw [List.size_toArray, IntsAre.length hi, h0]
  rw [this]
  exact LCt.CompRestT.zero fin
theorem k_sorted_nil {w : World} {A : Around} {E : Value → Shared → Prop} {s : Shared} {h₀ : Heap} {L l : Addr} {m : Str → Option Value} {news : List (Addr × Obj)} {c : Nat} {Q : Value → Shared → Prop} (F : Fr h₀ L s.heap m) (N : News h₀ L s.heap news) (hm : (l, listOf (List.toArray []) c) ∈ news)
    (h : ∀ D vs' ns' c h', Fr h₀ L h' m → News h₀ L h' ((D, listOf (List.toArray vs') c) :: news) → (∀ q ∈ news, q.1 < D) → IntsAre vs' ns' → ns'.length = 0 → Q (.ref D) { s with heap := h' }) : wpAny (model PR w) A (call (.builtin "sorted") [.ref l]) Q E s :=
  kso_sorted (vs := []) F N (list_of_news N hm) IntsAre.nil (by decide) fun D vs' ns' c h' F' N' off i e _ _ _ => h D vs' ns' c h' F' N' off i e
theorem J10_rows2 : True := by
  (k_with "exec Assign cons ListComp" => (k_here; k_dflt (refine LCt.Assign_ListComp_T (F₀ := by k_asm) (by rfl) (by with_unfolding_all rfl) (by with_unfolding_all rfl) (by decide) (by rfl) (by decide) (by rfl) (by rfl) (by rfl) ?_)))
  (k_with "call builtin:sorted" => (k_here; (with_reducible show wpAny _ _ (call (Value.builtin _) [Value.ref _]) _ _ _); k_dflt (refine k_sorted_nil (by k_asm) (by k_asm) (by k_mem) ?_; intro D9 vs9 ns9 c9 h9 F9 N9 l9 hi9 hl9; (try dsimp only); (try k_lt l9))))
  (k_with "CompSrcT" => (k_here; k_dflt (refine LCt.CompSrcT.ledger (by rfl) (by k_asm) (by k_asm) (by k_mem) (by (rw [List.size_toArray, PySem.sizeLine_eq, IntsAre.length (by assumption)]); omega) ?_; intro gw'; (refine rest_none (by assumption) (by assumption) ?_))))
  trivial
def take_nil_c_B (w : World) (nb : Addr) (c : Nat) (pl : Addr) : Prop := RW = RW → NewM w 8 583 [(nb, listOf (List.toArray []) c)] [.ref pl, .ref nb] (fun _ => True)
theorem take_nil_c : ∀ w nb c pl, take_nil_c_B w nb c pl := by
  refine ubx ?_
  simp (disch := k_dflt (
    refine tyP ?_
    refine' (?g9 : ∀ q : (∀ w nb c pl, take_nil_c_B w nb c pl), Keep q → (∀ w nb c pl, take_nil_c_B w nb c pl)) _ ?w9
    case g9 => exact fun q _ => q
    case w9 =>
      refine' kp9 ?h9 fun k9 => ?j9
      case h9 =>
        (repeat walk_at "CL9")
        rename_i w nb c pl
        unfold take_nil_c_B
        intro _
        refine NewM_of _ _ _ _ _ _ ?_
        (repeat walk_at "CL9")
        rename_i  vk
        unfold KV.to NewM9
        w_on
        w_top on
        intro B F X N T hk hd hu hneed hret
        refine wpAny_call ?_
        k_dflt (refine' code_defCF ?k1 ?k2 ?k3 (need_news hneed N) (restOf_news N) restOf_dis ?k5 ?kA ?kF ?kK ?k6 ?k7 ?k8 ?k9 ?kB ?kD ?_ ?c2 ?c3 ?c4; (case kA => exact rfl); (case kF => exact rfl); (case kK => first | assumption | exact rfl); (case k1 => k_asm); (case k2 => k_asm); (case k3 => k_asm); (case k5 => k_asm); (case k6 => k_is); (case k7 => k_is); (case k8 => ktr_room); (case k9 => first | exact BindsTo.of_eq rfl | exact binds_K (by k_in) rfl (by k_is) rfl rfl rfl); (case kB => exact rfl); (case kD => decide +kernel); (case c2 => exact rfl); (case c3 => exact rfl); (case c4 => exact rfl); k_whole; intro g' L' h' tk' cells' FG' F' N' Y' B' X' T' l1 lr; (have hlr9 := fun p hp => (lr p hp).2); (clear lr); (try k_lt l1); k_cells Y'; (try simp only [List.cons_append, List.nil_append] at N'); (try dsimp only); (try k_fold))
        w_strict (k_steps; (all_goals ((rename News _ _ _ (restOf _ _) => Nr9); (rename News _ _ _ (_ :: _) => Nk9); exact hret _ _ _ _ (by k_asm) (news_cons9 Nk9 (back_pure N hneed (news_sub Nk9 (by (repeat (first | exact sub_self | exact sub_left | exact sub_nil | (refine sub_cons (by k_mem) ?_) | refine sub_tail ?_)))) Nr9)) (back_ne (by assumption) hlr9 (by (repeat (first | exact ne_all_nil | (refine ne_all_cons (by k_ne) ?_))))) True.intro)))
      case j9 => revert k9; (try delta id ap_mk hd_in hd_out); intro k9; (try conv at k9 => zeta); exact k9)) only [↓bxT]
end
section
set_option Elab.async false
set_option maxRecDepth 100000
set_option maxHeartbeats 4000000
theorem J12_rows0 : True := by
  k_with_none
  trivial
theorem J12_rows1 : True := by
  (k_with "k_room" => (ktr_room))
  (k_with "k_units" => (ktr_units))
  (k_with "getAttr ref" => (k_here; k_dflt (refine get_own (by k_asm) (by k_asm) (by k_inst) (by k_is) (by k_is) (by k_is) (by k_is) (by with_reducible assumption) (by k_handed) ?_)))
  (k_with "callWith ref" => ((k_here; k_dflt (first
      | (refine' callWith_F0 ?k1 ?_; (case k1 => exact FnAt.of (by k_asm) (by k_mem)); k_whole; try dsimp only [List.nil_append, List.cons_append])))))
  (k_with "call ref" => (k_here; k_dflt (refine wpAny_call ?_; kla_enter)))
  trivial
def ids_c_B (w : World) (co cd rm rd fl cc : Addr) (ces res : List DictEntry) (cen ren : Nat) (occ : Obj) (cvs : Array Value) (ql : Str) (pmv ctv : Value) (tq tb : Tok) : Prop := (getL (Str.ofString "remote") ces = some (some (.ref rm))) → (getL (Str.ofString "own_cid") ces = some (some (.bytes #[111, 119, 110] tb))) → (getL (Str.ofString "present") res = some (some (.ref fl))) → (occ.data = .fields cvs) → (cvs[1]? = some (.str ql tq)) → RW = RW → NewM w 8 344 [(co, instObj 654 cd), (cd, dictOf ces cen), (rm, instObj 654 rd), (rd, dictOf res ren), (fl, (kla_obj (Str.ofString "<lambda>") ql { posonlyargs := [], args := [], vararg := none, kwonlyargs := [], kw_defaults := [], kwarg := none, defaults := [] } (PySem.Expr.Constant (PySem.Const.bytes [112, 101, 101, 114]) 0 { line := 464, col := 29, endLine := 464, endCol := 36 }) { kind := .function, names := [], isGenerator := false, isCoroutine := false } [] pmv cc ctv)), (cc, occ)] [.ref co] (fun oo => ∃ t9 : Tok, oo = { cls := .type "tuple", data := .seq #[.bytes #[112, 101, 101, 114] t9, .bytes #[111, 119, 110] tb] })
theorem ids_c : ∀ w co cd rm rd fl cc ces res cen ren occ cvs ql pmv ctv tq tb, ids_c_B w co cd rm rd fl cc ces res cen ren occ cvs ql pmv ctv tq tb := by
  refine ubx ?_
  simp (disch := k_dflt (
    refine tyP ?_
    refine' (?g9 : ∀ q : (∀ w co cd rm rd fl cc ces res cen ren occ cvs ql pmv ctv tq tb, ids_c_B w co cd rm rd fl cc ces res cen ren occ cvs ql pmv ctv tq tb), Keep q → (∀ w co cd rm rd fl cc ces res cen ren occ cvs ql pmv ctv tq tb, ids_c_B w co cd rm rd fl cc ces res cen ren occ cvs ql pmv ctv tq tb)) _ ?w9
    case g9 => exact fun q _ => q
    case w9 =>
      refine' kp9 ?h9 fun k9 => ?j9
      case h9 =>
        (repeat walk_at "CL9")
        rename_i w co cd rm rd fl cc ces res cen ren occ cvs ql pmv ctv tq tb
        unfold ids_c_B
        intro hrm how hpr hcc hcq _
        refine NewM_of _ _ _ _ _ _ ?_
        (repeat walk_at "CL9")
        rename_i  vk
        unfold KV.to NewM9
        w_on
        w_top on
        intro B F X N T hk hd hu hneed hret
        refine wpAny_call ?_
        k_dflt (refine' code_defF ?k1 ?k2 ?k3 (need_news hneed N) (restOf_news N) restOf_dis ?k5 ?kA ?kF ?kK ?k6 ?k7 ?k8 ?k9 ?kB ?_ ?c2 ?c3 ?c4 ?c5; (case kA => exact rfl); (case kF => exact rfl); (case kK => first | assumption | exact rfl); (case k1 => k_asm); (case k2 => k_asm); (case k3 => k_asm); (case k5 => k_asm); (case k6 => k_is); (case k7 => k_is); (case k8 => ktr_room); (case k9 => first | exact BindsTo.of_eq rfl | exact binds_K (by k_in) rfl (by k_is) rfl rfl rfl); (case c5 => decide); (case kB => exact locs (Eq.refl true)); (case c2 => exact rfl); (case c3 => exact rfl); (case c4 => exact rfl); k_whole; intro g' L' h' tk' FG' F' N' B' X' T' l1 lr; (have hlr9 := fun p hp => (lr p hp).2); (clear lr); (try dsimp only); (try k_lt l1); (try k_fold))
        w_strict (k_steps; (all_goals ((rename News _ _ _ (restOf _ _) => Nr9); (rename News _ _ _ (_ :: _) => Nk9); exact hret _ _ _ _ (by k_asm) (news_cons9 Nk9 (back_pure N hneed (news_sub Nk9 (by (repeat (first | exact sub_self | exact sub_left | exact sub_nil | (refine sub_cons (by k_mem) ?_) | refine sub_tail ?_)))) Nr9)) (back_ne (by assumption) hlr9 (by (repeat (first | exact ne_all_nil | (refine ne_all_cons (by k_ne) ?_))))) ⟨_, rfl⟩)))
      case j9 => revert k9; (try delta id ap_mk hd_in hd_out); intro k9; (try conv at k9 => zeta); exact k9)) only [↓bxT]
end
section
set_option Elab.async false
set_option maxRecDepth 100000
set_option maxHeartbeats 800000
theorem S1_rows0 : True := by
  k_with_none
  trivial
theorem S1_rows1 : True := by
  trivial
section
theorem S1_rows2 : True := by
  (k_with "k_room" => (ktr_room))
  (k_with "exec For Name Name cons nil" => (k_here; (rename Fr _ _ _ _ => lFw'); (with_unfolding_all refine' For_invVF lFw' ?k1 ?k2 ?_; (case k1 => exact rfl); (case k2 => exact rfl); k_whole)))
  (k_with "pyIter ref" => (k_here; (with_reducible show wpAny _ _ (pyIter (Value.ref _)) (fun it s₂ => LoopAtV _ _ _ _ _ _ _ _ _ it s₂) _ _); k_dflt ((refine' k_first_K ?hh ?F ?N ?X ?l ?h0 ?_); (case hh => exact rfl); (case F => k_asm); (case N => k_asm); (case X => k_asm); (case l => k_is); (case h0 => exact rfl); intro h9 tq9 own9 Fw' Nw'; (try dsimp only); (try k_fold))))
  trivial
def varint_size_c_B (w : World) (k : Int) (t : Tok) : Prop := (0 ≤ k) → (k < 64) → RW = RW → PureC w 3 131 [.int k t] (fun v => ∃ t, v = .int 1 t)
theorem varint_size_c : ∀ w k t, varint_size_c_B w k t := by
  refine ubx ?_
  simp (disch := k_dflt (
    refine tyP ?_
    refine' (?g9 : ∀ q : (∀ w k t, varint_size_c_B w k t), Keep q → (∀ w k t, varint_size_c_B w k t)) _ ?w9
    case g9 => exact fun q _ => q
    case w9 =>
      refine' kp9 ?h9 fun k9 => ?j9
      case h9 =>
        (repeat walk_at "CL9")
        rename_i w k t
        unfold varint_size_c_B
        intro h0 h1 _
        refine PureC_of _ _ _ _ _ ?_
        (repeat walk_at "CL9")
        rename_i  vk
        unfold KV.to PureC9
        w_on
        w_top on
        intro B F X N T hk hd hu hret
        have hz : @LT.lt Int _ k (1 * 2 ^ (8 * 1 - 2 : Int).toNat) := by (have e : (1 * 2 ^ (8 * 1 - 2 : Int).toNat : Int) = 64 := (by decide)); omega
        refine wpAny_call ?_
        k_dflt cell_enter
        w_strict (k_steps; (all_goals exact hret _ _ _ (by k_asm) (by first | k_asm | exact cb_drop (by assumption) (fun p hp => List.mem_append_left _ hp)) ⟨_, rfl⟩))
      case j9 => revert k9; (try delta id ap_mk hd_in hd_out); intro k9; (try conv at k9 => zeta); exact k9)) only [↓bxT]
end
end
section
set_option Elab.async false
set_option maxRecDepth 100000
set_option maxHeartbeats 800000
theorem S2_rows0 : True := by
  k_with_none
  trivial
theorem S2_rows1 : True := by
  (k_with "wpG" => (first
      | (with_reducible refine g_execs_nil ?_)
      | (with_reducible refine g_execs_cons ?_)
      | ((with_reducible refine g_leafS ?k1 ?_); (case k1 => k_dflt (exact rfl)); (try k_fold))
      | ((with_reducible refine g_leafE ?k1 ?_); (case k1 => k_dflt (exact rfl)); (try k_fold))
      | (with_reducible refine g_Return ?_)
      | ((with_reducible refine g_Assign ?_ ?k1); (case k1 => k_dflt (exact rfl)))
      | (with_reducible refine g_If ?_)
      | (with_reducible refine g_CallName ?_)
      | (with_reducible refine g_BinOp ?_)
      | (with_reducible refine g_spliced_backTo_nil ?_)
      | ((refine g_spliced_backTo ?_ ?k1); (case k1 => k_dflt (exact rfl)))
      | ((refine' g_callWith_K ?k1 ?k2 ?_ ?k3 ?k4); (case k1 => k_asm); (case k2 => k_is); (case k3 => k_dflt (exact rfl)); (case k4 => k_dflt (exact rfl)); k_whole)
      | ((refine' g_callWith_type ?_ ?k3 ?k4); (case k3 => k_dflt (exact rfl)); (case k4 => k_dflt (exact rfl)))))
  (k_with "exec Raise some none" => (exfalso; contradiction))
  (k_with "True" => (skip))
  (k_with "And" => (refine ⟨True.intro, ?_⟩; (try dsimp only [List.nil_append, List.cons_append])))
  (k_with "k_room" => (ktr_room))
  (k_with "k_intsEnd" => (exact IntsAre.nil))
  (k_with "wpG" => ((with_reducible show wpG _ _ (call (Value.ref 124) [Value.int _ _, Value.int _ _]) _ _ _); k_dflt ((refine' PureG.use (put_whole_16 _ _ _ _ ?ha ?hb rfl) ?k1 ?k2 ?k3 ?k4 ?k5 ?kK ?kd ?ku ?_); (case k1 => k_asm); (case k2 => k_asm); (case k3 => k_asm); (case k4 => k_asm); (case k5 => k_asm); (case kK => first | exact rfl | assumption); (case kd => ktr_room); (case ku => ktr_units); (case ha => first | assumption | omega); (case hb => first | assumption | omega); intro v9 h9 tk9 F9 N9 P9; apply bytes_elim P9; clear P9; intro b9 t9 ks9 hb9 hl9; (try dsimp only); (try k_fold))))
  (k_with "wpG" => ((with_reducible show wpG _ _ (call (Value.ref 124) [Value.int _ _, Value.int _ _]) _ _ _); k_dflt ((refine' PureG.use (put_whole_4 _ _ _ _ ?ha ?hb rfl) ?k1 ?k2 ?k3 ?k4 ?k5 ?kK ?kd ?ku ?_); (case k1 => k_asm); (case k2 => k_asm); (case k3 => k_asm); (case k4 => k_asm); (case k5 => k_asm); (case kK => first | exact rfl | assumption); (case kd => ktr_room); (case ku => ktr_units); (case ha => first | assumption | omega); (case hb => first | assumption | omega); intro v9 h9 tk9 F9 N9 P9; apply bytes_elim P9; clear P9; intro b9 t9 ks9 hb9 hl9; (try dsimp only); (try k_fold))))
  (k_with "wpG" => ((with_reducible show wpG _ _ (call (Value.ref 124) [Value.int _ _, Value.int _ _]) _ _ _); k_dflt ((refine' PureG.use (put_whole_1 _ _ _ _ ?ha ?hb rfl) ?k1 ?k2 ?k3 ?k4 ?k5 ?kK ?kd ?ku ?_); (case k1 => k_asm); (case k2 => k_asm); (case k3 => k_asm); (case k4 => k_asm); (case k5 => k_asm); (case kK => first | exact rfl | assumption); (case kd => ktr_room); (case ku => ktr_units); (case ha => first | assumption | omega); (case hb => first | assumption | omega); intro v9 h9 tk9 F9 N9 P9; apply bytes_elim P9; clear P9; intro b9 t9 ks9 hb9 hl9; (try dsimp only); (try k_fold))))
  (k_with "call ref" => ((with_reducible show wpAny _ _ (call (Value.ref 131) [Value.int _ _]) _ _ _); k_dflt ((refine' PureC.use (varint_size_c _ _ _ ?ha ?hb rfl) ?k1 ?k2 ?k3 ?k4 ?k5 ?kK ?kd ?ku ?_); (case k1 => k_asm); (case k2 => k_asm); (case k3 => k_asm); (case k4 => k_asm); (case k5 => k_asm); (case kK => first | exact rfl | assumption); (case kd => ktr_room); (case ku => ktr_units); (case ha => first | assumption | omega); (case hb => first | assumption | omega); intro v9 h9 tk9 F9 N9 P9; apply eq_elim P9; clear P9; intro t9; (try dsimp only); (try k_fold))))
  (k_with "getMethod ref" => (k_here; k_dflt ((refine' k_getIndex ?X ?l ?_); (case X => k_in); (case l => k_is))))
  (k_with "compareOp NotIn int ref" => (k_here; (with_reducible show wpAny _ _ (compareOp _ (Value.int _ _) (Value.ref _)) _ _ _); k_dflt ((refine' k_notIn_int ?X ?l ?i ?_); (case X => k_in); (case l => k_is); (case i => exact rfl))))
  (k_with "call builtin:tuple.index" => (k_here; (try dsimp only [List.cons_append, List.nil_append]); k_dflt ((refine' k_index0 ?X ?l ?_); (case X => k_in); (case l => k_is)); intro t9; (try dsimp only)))
  trivial
def put_varint_g_B (w : World) (k : Int) (t : Tok) : Prop := (0 ≤ k) → (k < 64) → RW = RW → PureG w 8 138 [.int k t, .none] (BytesOf 1)
theorem put_varint_g : ∀ w k t, put_varint_g_B w k t := by
  refine ubx ?_
  simp (disch := k_dflt (
    refine tyP ?_
    refine' (?g9 : ∀ q : (∀ w k t, put_varint_g_B w k t), Keep q → (∀ w k t, put_varint_g_B w k t)) _ ?w9
    case g9 => exact fun q _ => q
    case w9 =>
      refine' kp9 ?h9 fun k9 => ?j9
      case h9 =>
        (repeat walk_at "CL9")
        rename_i w k t
        unfold put_varint_g_B
        intro h0 h1 _
        refine PureG_of _ _ _ _ _ ?_
        (repeat walk_at "CL9")
        rename_i  vk
        unfold KV.to PureG9
        w_on
        w_top on
        intro B F X N T hk hd hu hret
        have hor1 : 0 ≤ Builtin.bitOr (0 * 2 ^ (8*1-2:Int).toNat) k := bitOr_lo (by decide) h0
        have hor2 : Builtin.bitOr (0 * 2 ^ (8*1-2:Int).toNat) k < 2 ^ 8 := bitOr_hi (by decide) h0 (by decide) (by omega)
        refine wpG_call ?_
        (k_dflt (refine' codeG_def ?k1 ?k2 ?k3 ?k4 ?k5 ?kA ?kF ?kK ?k6 ?k7 ?k8 ?k9 ?kB ?_ ?c2 ?c3 ?c4 ?c5; (case kA => exact rfl); (case kF => exact rfl); (case kK => first | assumption | exact rfl); (case k1 => k_asm); (case k2 => k_asm); (case k3 => k_asm); (case k4 => k_asm); (case k5 => k_asm); (case k6 => k_is); (case k7 => k_is); (case k8 => ktr_room); (case k9 => exact BindsTo.of_eq rfl); (case c5 => decide); (case kB => exact locs (Eq.refl true)); (case c2 => exact rfl); (case c3 => exact rfl); (case c4 => exact rfl); k_whole; intro g' L' h' tk' FG' F' N' B' X' T' l1; (try dsimp only)))
        w_strict (k_steps; exact hret _ _ _ (by k_asm) (by k_asm) ⟨_,_,_,rfl,(by assumption),(by assumption)⟩)
      case j9 => revert k9; (try delta id ap_mk hd_in hd_out); intro k9; (try conv at k9 => zeta); exact k9)) only [↓bxT]
end
section
set_option Elab.async false
set_option maxRecDepth 100000
set_option maxHeartbeats 800000
theorem S10_rows0 : True := by
  k_with_none
  trivial
theorem S10_rows1 : True := by
  trivial
section
theorem S10_rows2 : True := by
  (k_with "size_fits" => ((simp only [Array.size_append, List.length_map, Array.length_toList, List.size_toArray, PySem.sizeLine_eq] at *); omega))
  (k_with "wpG" => (first
      | (with_reducible refine g_execs_nil ?_)
      | (with_reducible refine g_execs_cons ?_)
      | ((with_reducible refine g_leafS ?k1 ?_); (case k1 => k_dflt (exact rfl)); (try k_fold))
      | ((with_reducible refine g_leafE ?k1 ?_); (case k1 => k_dflt (exact rfl)); (try k_fold))
      | (with_reducible refine g_Return ?_)
      | ((with_reducible refine g_Assign ?_ ?k1); (case k1 => k_dflt (exact rfl)))
      | (with_reducible refine g_If ?_)
      | (with_reducible refine g_CallName ?_)
      | (with_reducible refine g_BinOp ?_)
      | (with_reducible refine g_Subscript ?_)
      | (with_reducible refine g_spliced_backTo_nil ?_)
      | ((refine g_spliced_backTo ?_ ?k1); (case k1 => k_dflt (exact rfl)))
      | ((refine' g_callWith_K ?k1 ?k2 ?_ ?k3 ?k4); (case k1 => k_asm); (case k2 => k_is); (case k3 => k_dflt (exact rfl)); (case k4 => k_dflt (exact rfl)); k_whole)
      | ((refine' g_callWith_type ?_ ?k3 ?k4); (case k3 => k_dflt (exact rfl)); (case k4 => k_dflt (exact rfl)))))
  (k_with "exec Raise some none" => (exfalso; contradiction))
  (k_with "True" => (skip))
  (k_with "And" => (refine ⟨True.intro, ?_⟩; (try dsimp only [List.nil_append, List.cons_append])))
  (k_with "k_room" => (ktr_room))
  (k_with "k_intsEnd" => (exact IntsAre.nil))
  (k_with "k_room" => (ktr_room))
  (k_with "wpG" => ((with_reducible show wpG _ _ (eval (PySem.Expr.Call (PySem.Expr.Attribute _ _ _) [_] [] _) _) _ _ _); k_dflt (refine g_join (fun _ => rfl) rfl rfl rfl ?_)))
  (k_with "And" => (refine join_arg rfl ?_))
  (k_with "wpG" => ((with_reducible show wpG _ _ (eval (PySem.Expr.ListComp _ _ _ _) _) _ _ _); k_dflt (refine g_ListN (P := BytesOf 1) (by k_asm) rfl (by decide) (by decide) rfl (by decide) rfl ?_)))
  (k_with "SrcN" => (k_dflt ((refine SrcN.intro (by k_asm) (by k_asm) (by assumption) (by omega) ?ka ?kb); (case' ka => (intro v9 hv9; unfold EltN; intro C9 oC9 m9 news9 h9 tk9 Q9 hsub9 hC9 hm9 hx9 F9 N9 ret9; obtain ⟨k9, t9, he9, hlo9, hhi9⟩ := (by assumption : IntsIn 0 64 _) _ hv9; subst he9; (try dsimp only); (try k_fold))); (case' kb => (intro D9 ys9 h9 tk9 hl9 hP9 F9 N9 hD9; skip; (try dsimp only))))))
  (k_with "wpG" => ((with_reducible show wpG _ _ (call (Value.ref 138) [Value.int _ _, Value.none]) _ _ _); k_dflt ((refine' PureG.use (put_varint_g _ _ _ ?ha ?hb rfl) ?k1 ?k2 ?k3 ?k4 ?k5 ?kK ?kd ?ku ?_); (case k1 => k_asm); (case k2 => k_asm); (case k3 => k_asm); (case k4 => k_asm); (case k5 => k_asm); (case kK => first | exact rfl | assumption); (case kd => ktr_room); (case ku => ktr_units); (case ha => omega); (case hb => omega); intro v9 h9 tk9 F9 N9 P9; skip; (try dsimp only); (try k_fold))))
  (k_with "call builtin:bytes.join" => (k_dflt ((refine k_join_many (by k_asm) (by assumption) (by omega) (by omega) rfl ?_); intro v9 h9 t9 hv9 hh9; subst hh9; (try dsimp only))))
  trivial
def put_numbers_g_B (w : World) (la : Addr) (vs : List Value) (c : Nat) : Prop := (IntsIn 0 64 vs) → (1 ≤ vs.length) → (vs.length ≤ 100) → RW = RW → PureN w 12 144 [(la, listOf vs.toArray c)] [.ref la] (BytesOf vs.length)
theorem put_numbers_g : ∀ w la vs c, put_numbers_g_B w la vs c := by
  refine ubx ?_
  simp (disch := k_dflt (
    refine tyP ?_
    refine' (?g9 : ∀ q : (∀ w la vs c, put_numbers_g_B w la vs c), Keep q → (∀ w la vs c, put_numbers_g_B w la vs c)) _ ?w9
    case g9 => exact fun q _ => q
    case w9 =>
      refine' kp9 ?h9 fun k9 => ?j9
      case h9 =>
        (repeat walk_at "CL9")
        rename_i w la vs c
        unfold put_numbers_g_B
        intro hints q1 q2 _
        refine PureN_of _ _ _ _ _ _ ?_
        (repeat walk_at "CL9")
        rename_i  vk
        unfold KV.to PureN9
        w_on
        w_top on
        intro B F X N T hk hd hu hneed hret
        have hm := hneed _ List.mem_cons_self
        refine wpG_call ?_
        (k_dflt (refine' codeG_def ?k1 ?k2 ?k3 ?k4 ?k5 ?kA ?kF ?kK ?k6 ?k7 ?k8 ?k9 ?kB ?_ ?c2 ?c3 ?c4 ?c5; (case kA => exact rfl); (case kF => exact rfl); (case kK => first | assumption | exact rfl); (case k1 => k_asm); (case k2 => k_asm); (case k3 => k_asm); (case k4 => k_asm); (case k5 => k_asm); (case k6 => k_is); (case k7 => k_is); (case k8 => ktr_room); (case k9 => exact BindsTo.of_eq rfl); (case c5 => decide); (case kB => exact locs (Eq.refl true)); (case c2 => exact rfl); (case c3 => exact rfl); (case c4 => exact rfl); k_whole; intro g' L' h' tk' FG' F' N' B' X' T' l1; (try dsimp only)))
        w_strict (k_steps; (all_goals first | exact RetN.use (by assumption) (by assumption) (by assumption) (by assumption) | exact hret _ _ _ (by k_asm) (nd1 (by assumption)) (len_as (by assumption) (by assumption))))
      case j9 => revert k9; (try delta id ap_mk hd_in hd_out); intro k9; (try conv at k9 => zeta); exact k9)) only [↓bxT]
end
end
section
set_option Elab.async false
set_option maxRecDepth 100000
set_option maxHeartbeats 800000
theorem S11_rows0 : True := by
  k_with_none
  trivial
theorem S11_rows1 : True := by
  trivial
section
theorem S11_rows2 : True := by
  (k_with "size_fits" => ((simp only [Array.size_append, List.length_map, Array.length_toList, List.size_toArray, PySem.sizeLine_eq] at *); omega))
  (k_with "wpG" => (first
      | (with_reducible refine g_execs_nil ?_)
      | (with_reducible refine g_execs_cons ?_)
      | ((with_reducible refine g_leafS ?k1 ?_); (case k1 => k_dflt (exact rfl)); (try k_fold))
      | ((with_reducible refine g_leafE ?k1 ?_); (case k1 => k_dflt (exact rfl)); (try k_fold))
      | (with_reducible refine g_Return ?_)
      | ((with_reducible refine g_Assign ?_ ?k1); (case k1 => k_dflt (exact rfl)))
      | (with_reducible refine g_If ?_)
      | (with_reducible refine g_CallName ?_)
      | (with_reducible refine g_BinOp ?_)
      | (with_reducible refine g_Subscript ?_)
      | (with_reducible refine g_spliced_backTo_nil ?_)
      | ((refine g_spliced_backTo ?_ ?k1); (case k1 => k_dflt (exact rfl)))
      | ((refine' g_callWith_K ?k1 ?k2 ?_ ?k3 ?k4); (case k1 => k_asm); (case k2 => k_is); (case k3 => k_dflt (exact rfl)); (case k4 => k_dflt (exact rfl)); k_whole)
      | ((refine' g_callWith_type ?_ ?k3 ?k4); (case k3 => k_dflt (exact rfl)); (case k4 => k_dflt (exact rfl)))))
  (k_with "exec Raise some none" => (exfalso; contradiction))
  (k_with "True" => (skip))
  (k_with "And" => (refine ⟨True.intro, ?_⟩; (try dsimp only [List.nil_append, List.cons_append])))
  (k_with "k_room" => (ktr_room))
  (k_with "k_intsEnd" => (exact IntsAre.nil))
  (k_with "k_room" => (ktr_room))
  (k_with "subscriptTail Name Slice ref ref" => (k_here; k_dflt ((with_unfolding_all refine slice_tail1 (s := ⟨_, _, _, _, _⟩) (by k_asm) (by k_asm) (by k_mem) (by decide) ?_); intro l9 h9 F9 N9 hl9; (try dsimp only); (try k_lt hl9))))
  (k_with "wpG" => ((with_reducible show wpG _ _ (call (Value.ref 144) [Value.ref _]) _ _ _); k_dflt ((refine' PureN.use (put_numbers_g _ _ _ _ ?ha ?hb ?hc rfl) ?k1 ?k2 ?k3 ?k4 ?k5 ?kK ?kd ?ku ?kn ?_); (case k1 => k_asm); (case k2 => k_asm); (case k3 => k_asm); (case k4 => k_asm); (case k5 => k_asm); (case kK => first | exact rfl | assumption); (case kd => ktr_room); (case ku => ktr_units); (case kn => (repeat (first | exact need_nil | (refine need_cons (by k_mem) ?_)))); (case ha => (repeat (first | exact intsIn_nil | (refine intsIn_cons (by omega) (by omega) ?_)))); (case hb => decide); (case hc => decide); intro v9 h9 tk9 F9 N9 P9; have P8 := P9; simp only [List.length_cons, List.length_nil, Nat.zero_add, Nat.reduceAdd] at P8; (try dsimp only); (try k_fold))))
  trivial
def put_frame_ping_g_B (w : World) (f : Addr) (t0 : Tok) : Prop := RW = RW → PureN w 16 200 [(f, { cls := .type "tuple", data := .seq #[.str (Str.ofString "ping") t0] })] [.ref f] (BytesOf 1)
theorem put_frame_ping_g : ∀ w f t0, put_frame_ping_g_B w f t0 := by
  refine ubx ?_
  simp (disch := k_dflt (
    refine tyP ?_
    refine' (?g9 : ∀ q : (∀ w f t0, put_frame_ping_g_B w f t0), Keep q → (∀ w f t0, put_frame_ping_g_B w f t0)) _ ?w9
    case g9 => exact fun q _ => q
    case w9 =>
      refine' kp9 ?h9 fun k9 => ?j9
      case h9 =>
        (repeat walk_at "CL9")
        rename_i w f t0
        unfold put_frame_ping_g_B
        intro _
        refine PureN_of _ _ _ _ _ _ ?_
        (repeat walk_at "CL9")
        rename_i  vk
        unfold KV.to PureN9
        w_on
        w_top on
        intro B F X N T hk hd hu hneed hret
        replace N := news_need hneed N
        simp only [List.cons_append, List.nil_append] at N
        refine wpG_call ?_
        (k_dflt (refine' codeG_def ?k1 ?k2 ?k3 ?k4 ?k5 ?kA ?kF ?kK ?k6 ?k7 ?k8 ?k9 ?kB ?_ ?c2 ?c3 ?c4 ?c5; (case kA => exact rfl); (case kF => exact rfl); (case kK => first | assumption | exact rfl); (case k1 => k_asm); (case k2 => k_asm); (case k3 => k_asm); (case k4 => k_asm); (case k5 => k_asm); (case k6 => k_is); (case k7 => k_is); (case k8 => ktr_room); (case k9 => exact BindsTo.of_eq rfl); (case c5 => decide); (case kB => exact locs (Eq.refl true)); (case c2 => exact rfl); (case c3 => exact rfl); (case c4 => exact rfl); k_whole; intro g' L' h' tk' FG' F' N' B' X' T' l1; (try dsimp only)))
        w_strict (k_steps; exact hret _ _ _ (by k_asm) (nd1 (nd4 (by assumption))) (by assumption))
      case j9 => revert k9; (try delta id ap_mk hd_in hd_out); intro k9; (try conv at k9 => zeta); exact k9)) only [↓bxT]
end
end
section
set_option Elab.async false
set_option maxRecDepth 100000
set_option maxHeartbeats 800000
local macro_rules | `(tactic| k_lt $h:ident) => `(tactic| (replace $h := allLt_of $h; simp only [AllLt, and_true] at $h:ident))
theorem S12_rows0 : True := by
  k_with_none
  (k_with "STEPS9" => (repeat' (first | ((fail_if_success ((rename (_ : Type) => hc9); (with_unfolding_none rename Cl _ => hc8); (fail_if_success (have hc7 := hc9)))); (rename (_ : Type) => hc9); (refine hd_in ?_); revert hc9; (repeat ((fail_if_success ((rename (_ : Type) => hc9); (with_unfolding_none rename Cl _ => hc8); (fail_if_success (have hc7 := hc9)))); (rename (_ : Type) => hc9); revert hc9)); (with_reducible (refine eps_lt ?_; intro xc8; refine (?_ : ∀ y : Cl _, Ap _ y) xc8; clear xc8; intro _; refine ap_mk ?_)); (repeat (with_reducible (refine eps_lt ?_; intro xc8; refine (?_ : ∀ y : Cl _, Ap _ y) xc8; clear xc8; intro _; refine ap_mk ?_))); (set_option tactic.hygienic false in intros); (refine hd_out ?_)) | (k_unfold; (try dsimp only)) | (k_end; wrow_close) | walk1 | (dsimp only; walk1) | (leave1; walk_say "STEP leave1"; try dsimp only) | fail "no step")))
  trivial
theorem S12_rows1 : True := by
  trivial
section
theorem S12_rows2 : True := by
  (k_with "size_fits" => ((simp only [Array.size_append, List.length_map, Array.length_toList, List.size_toArray, PySem.sizeLine_eq] at *); omega))
  (k_with "wpG" => (first
      | (with_reducible refine g_execs_nil ?_)
      | (with_reducible refine g_execs_cons ?_)
      | ((with_reducible refine g_leafS ?k1 ?_); (case k1 => k_dflt (exact rfl)); (try k_fold))
      | ((with_reducible refine g_leafE ?k1 ?_); (case k1 => k_dflt (exact rfl)); (try k_fold))
      | (with_reducible refine g_Return ?_)
      | ((with_reducible refine g_Assign ?_ ?k1); (case k1 => k_dflt (exact rfl)))
      | (with_reducible refine g_If ?_)
      | (with_reducible refine g_CallName ?_)
      | (with_reducible refine g_BinOp ?_)
      | (with_reducible refine g_Subscript ?_)
      | (with_reducible refine g_spliced_backTo_nil ?_)
      | ((refine g_spliced_backTo ?_ ?k1); (case k1 => k_dflt (exact rfl)))
      | ((refine' g_callWith_K ?k1 ?k2 ?_ ?k3 ?k4); (case k1 => k_asm); (case k2 => k_is); (case k3 => k_dflt (exact rfl)); (case k4 => k_dflt (exact rfl)); k_whole)
      | ((refine' g_callWith_type ?_ ?k3 ?k4); (case k3 => k_dflt (exact rfl)); (case k4 => k_dflt (exact rfl)))))
  (k_with "exec Raise some none" => (exfalso; contradiction))
  (k_with "True" => (skip))
  (k_with "And" => (refine ⟨True.intro, ?_⟩; (try dsimp only [List.nil_append, List.cons_append])))
  (k_with "k_room" => (ktr_room))
  (k_with "k_intsEnd" => (exact IntsAre.nil))
  (k_with "k_room" => (ktr_room))
  (k_with "wpG" => ((with_reducible show wpG _ _ (call (Value.ref 144) [Value.ref _]) _ _ _); k_dflt ((refine' PureN.use (put_numbers_g _ _ _ _ ?ha ?hb ?hc rfl) ?k1 ?k2 ?k3 ?k4 ?k5 ?kK ?kd ?ku ?kn ?_); (case k1 => k_asm); (case k2 => k_asm); (case k3 => k_asm); (case k4 => k_asm); (case k5 => k_asm); (case kK => first | exact rfl | assumption); (case kd => ktr_room); (case ku => ktr_units); (case kn => (repeat (first | exact need_nil | (refine need_cons (by k_mem) ?_)))); (case ha => (repeat (first | exact intsIn_nil | (refine intsIn_cons (by omega) (by omega) ?_)))); (case hb => exact Nat.le_of_ble_eq_true rfl); (case hc => exact Nat.le_of_ble_eq_true rfl); intro v9 h9 tk9 F9 N9 P9; have P8 := P9; simp only [List.length_cons, List.length_nil, Nat.zero_add, Nat.reduceAdd] at P8; (try dsimp only); (try k_fold))))
  (k_with "exec For Tuple Subscript cons nil" => (k_here; (rename Fr _ _ _ _ => lFw'); (with_unfolding_all refine' For_turns lFw' ?_; k_whole)))
  (k_with "pyIter ref" => (k_here; (with_reducible show wpAny _ _ (pyIter (Value.ref _)) (fun it s₂ => TurnsAt _ _ _ _ _ _ _ _ _ it s₂) _ _); k_dflt ((refine iter_listTurns (vs := []) (by rfl) (by k_asm) (by k_asm) (by k_mem) (by rfl) (by rfl) ?_); intro i9 l9; (refine ItemsRest.zero ?_); intro h9 t9 F9 N9; (try dsimp only))))
  trivial
def put_ack_g_B (w : World) (f rl rp : Addr) (t0 t1 t2 t3 : Tok) (c : Nat) : Prop := RW = RW → PureN w 16 165 [(f, { cls := .type "tuple", data := .seq #[.str (Str.ofString "ack") t0, .int 0 t1, .ref rl, .none] }), (rl, listOf #[.ref rp] c), (rp, { cls := .type "tuple", data := .seq #[.int 0 t2, .int 0 t3] })] [.ref f] (BytesOf 5)
theorem put_ack_g : ∀ w f rl rp t0 t1 t2 t3 c, put_ack_g_B w f rl rp t0 t1 t2 t3 c := by
  refine ubx ?_
  simp (disch := k_dflt (
    refine tyP ?_
    refine' (?g9 : ∀ q : (∀ w f rl rp t0 t1 t2 t3 c, put_ack_g_B w f rl rp t0 t1 t2 t3 c), Keep q → (∀ w f rl rp t0 t1 t2 t3 c, put_ack_g_B w f rl rp t0 t1 t2 t3 c)) _ ?w9
    case g9 => exact fun q _ => q
    case w9 =>
      refine' kp9 ?h9 fun k9 => ?j9
      case h9 =>
        (repeat walk_at "CL9")
        rename_i w f rl rp t0 t1 t2 t3 c
        unfold put_ack_g_B
        intro _
        refine PureN_of _ _ _ _ _ _ ?_
        (repeat walk_at "CL9")
        rename_i  vk
        unfold KV.to PureN9
        w_on
        w_top on
        intro B F X N T hk hd hu hneed hret
        replace N := news_need hneed N
        simp only [List.cons_append, List.nil_append] at N
        refine wpG_call ?_
        (k_dflt (refine' codeG_def ?k1 ?k2 ?k3 ?k4 ?k5 ?kA ?kF ?kK ?k6 ?k7 ?k8 ?k9 ?kB ?_ ?c2 ?c3 ?c4 ?c5; (case kA => exact rfl); (case kF => exact rfl); (case kK => first | assumption | exact rfl); (case k1 => k_asm); (case k2 => k_asm); (case k3 => k_asm); (case k4 => k_asm); (case k5 => k_asm); (case k6 => k_is); (case k7 => k_is); (case k8 => ktr_room); (case k9 => exact BindsTo.of_eq rfl); (case c5 => decide); (case kB => exact locs (Eq.refl true)); (case c2 => exact rfl); (case c3 => exact rfl); (case c4 => exact rfl); k_whole; intro g' L' h' tk' FG' F' N' B' X' T' l1; (try dsimp only)))
        w_strict (k_extra "STEPS9"; exact hret _ _ _ (by k_asm) (news_sub (by assumption) (by (repeat (first | exact sub_self | exact sub_left | refine sub_tail ?_)))) (by assumption))
      case j9 => revert k9; (try delta id ap_mk hd_in hd_out); intro k9; (try conv at k9 => zeta); exact k9)) only [↓bxT]
end
end
section
set_option Elab.async false
set_option maxRecDepth 100000
set_option maxHeartbeats 800000
theorem S13_rows0 : True := by
  k_with_none
  trivial
theorem S13_rows1 : True := by
  trivial
section
theorem S13_rows2 : True := by
  (k_with "size_fits" => ((simp only [Array.size_append, List.length_map, Array.length_toList, List.size_toArray, PySem.sizeLine_eq] at *); omega))
  (k_with "wpG" => (first
      | (with_reducible refine g_execs_nil ?_)
      | (with_reducible refine g_execs_cons ?_)
      | ((with_reducible refine g_leafS ?k1 ?_); (case k1 => k_dflt (exact rfl)); (try k_fold))
      | ((with_reducible refine g_leafE ?k1 ?_); (case k1 => k_dflt (exact rfl)); (try k_fold))
      | (with_reducible refine g_Return ?_)
      | ((with_reducible refine g_Assign ?_ ?k1); (case k1 => k_dflt (exact rfl)))
      | (with_reducible refine g_If ?_)
      | (with_reducible refine g_CallName ?_)
      | (with_reducible refine g_BinOp ?_)
      | (with_reducible refine g_Subscript ?_)
      | (with_reducible refine g_spliced_backTo_nil ?_)
      | ((refine g_spliced_backTo ?_ ?k1); (case k1 => k_dflt (exact rfl)))
      | ((refine' g_callWith_K ?k1 ?k2 ?_ ?k3 ?k4); (case k1 => k_asm); (case k2 => k_is); (case k3 => k_dflt (exact rfl)); (case k4 => k_dflt (exact rfl)); k_whole)
      | ((refine' g_callWith_type ?_ ?k3 ?k4); (case k3 => k_dflt (exact rfl)); (case k4 => k_dflt (exact rfl)))))
  (k_with "exec Raise some none" => (exfalso; contradiction))
  (k_with "True" => (skip))
  (k_with "And" => (refine ⟨True.intro, ?_⟩; (try dsimp only [List.nil_append, List.cons_append])))
  (k_with "k_room" => (ktr_room))
  (k_with "k_intsEnd" => (exact IntsAre.nil))
  (k_with "k_room" => (ktr_room))
  (k_with "wpG" => ((with_reducible show wpG _ _ (call (Value.ref 165) [Value.ref _]) _ _ _); k_dflt ((refine' PureN.use (put_ack_g _ _ _ _ _ _ _ _ _ rfl) ?k1 ?k2 ?k3 ?k4 ?k5 ?kK ?kd ?ku ?kn ?_); (case k1 => k_asm); (case k2 => k_asm); (case k3 => k_asm); (case k4 => k_asm); (case k5 => k_asm); (case kK => first | exact rfl | assumption); (case kd => ktr_room); (case ku => ktr_units); (case kn => (repeat (first | exact need_nil | (refine need_cons (by k_mem) ?_)))); skip; intro v9 h9 tk9 F9 N9 P9; skip; (try dsimp only); (try k_fold))))
  trivial
def put_frame_ack_g_B (w : World) (f rl rp : Addr) (t0 t1 t2 t3 : Tok) (c : Nat) : Prop := RW = RW → PureN w 20 200 [(f, { cls := .type "tuple", data := .seq #[.str (Str.ofString "ack") t0, .int 0 t1, .ref rl, .none] }), (rl, listOf #[.ref rp] c), (rp, { cls := .type "tuple", data := .seq #[.int 0 t2, .int 0 t3] })] [.ref f] (BytesOf 5)
theorem put_frame_ack_g : ∀ w f rl rp t0 t1 t2 t3 c, put_frame_ack_g_B w f rl rp t0 t1 t2 t3 c := by
  refine ubx ?_
  simp (disch := k_dflt (
    refine tyP ?_
    refine' (?g9 : ∀ q : (∀ w f rl rp t0 t1 t2 t3 c, put_frame_ack_g_B w f rl rp t0 t1 t2 t3 c), Keep q → (∀ w f rl rp t0 t1 t2 t3 c, put_frame_ack_g_B w f rl rp t0 t1 t2 t3 c)) _ ?w9
    case g9 => exact fun q _ => q
    case w9 =>
      refine' kp9 ?h9 fun k9 => ?j9
      case h9 =>
        (repeat walk_at "CL9")
        rename_i w f rl rp t0 t1 t2 t3 c
        unfold put_frame_ack_g_B
        intro _
        refine PureN_of _ _ _ _ _ _ ?_
        (repeat walk_at "CL9")
        rename_i  vk
        unfold KV.to PureN9
        w_on
        w_top on
        intro B F X N T hk hd hu hneed hret
        replace N := news_need hneed N
        simp only [List.cons_append, List.nil_append] at N
        refine wpG_call ?_
        (k_dflt (refine' codeG_def ?k1 ?k2 ?k3 ?k4 ?k5 ?kA ?kF ?kK ?k6 ?k7 ?k8 ?k9 ?kB ?_ ?c2 ?c3 ?c4 ?c5; (case kA => exact rfl); (case kF => exact rfl); (case kK => first | assumption | exact rfl); (case k1 => k_asm); (case k2 => k_asm); (case k3 => k_asm); (case k4 => k_asm); (case k5 => k_asm); (case k6 => k_is); (case k7 => k_is); (case k8 => ktr_room); (case k9 => exact BindsTo.of_eq rfl); (case c5 => decide); (case kB => exact locs (Eq.refl true)); (case c2 => exact rfl); (case c3 => exact rfl); (case c4 => exact rfl); k_whole; intro g' L' h' tk' FG' F' N' B' X' T' l1; (try dsimp only)))
        w_strict (k_steps; exact hret _ _ _ (by k_asm) (news_sub (by assumption) (by (repeat (first | exact sub_self | exact sub_left | refine sub_tail ?_)))) (by assumption))
      case j9 => revert k9; (try delta id ap_mk hd_in hd_out); intro k9; (try conv at k9 => zeta); exact k9)) only [↓bxT]
end
section
theorem S13_rows3 : True := by
  (k_with "size_fits" => ((simp only [Array.size_append, List.length_map, Array.length_toList, List.size_toArray, PySem.sizeLine_eq] at *); omega))
  (k_with "wpG" => (first
      | (with_reducible refine g_execs_nil ?_)
      | (with_reducible refine g_execs_cons ?_)
      | ((with_reducible refine g_leafS ?k1 ?_); (case k1 => k_dflt (exact rfl)); (try k_fold))
      | ((with_reducible refine g_leafE ?k1 ?_); (case k1 => k_dflt (exact rfl)); (try k_fold))
      | (with_reducible refine g_Return ?_)
      | ((with_reducible refine g_Assign ?_ ?k1); (case k1 => k_dflt (exact rfl)))
      | (with_reducible refine g_If ?_)
      | (with_reducible refine g_CallName ?_)
      | (with_reducible refine g_BinOp ?_)
      | (with_reducible refine g_Subscript ?_)
      | (with_reducible refine g_spliced_backTo_nil ?_)
      | ((refine g_spliced_backTo ?_ ?k1); (case k1 => k_dflt (exact rfl)))
      | ((refine' g_callWith_K ?k1 ?k2 ?_ ?k3 ?k4); (case k1 => k_asm); (case k2 => k_is); (case k3 => k_dflt (exact rfl)); (case k4 => k_dflt (exact rfl)); k_whole)
      | ((refine' g_callWith_type ?_ ?k3 ?k4); (case k3 => k_dflt (exact rfl)); (case k4 => k_dflt (exact rfl)))))
  (k_with "exec Raise some none" => (exfalso; contradiction))
  (k_with "True" => (skip))
  (k_with "And" => (refine ⟨True.intro, ?_⟩; (try dsimp only [List.nil_append, List.cons_append])))
  (k_with "k_room" => (ktr_room))
  (k_with "k_intsEnd" => (exact IntsAre.nil))
  (k_with "k_room" => (ktr_room))
  (k_with "wpG" => ((with_reducible show wpG _ _ (eval (PySem.Expr.Call (PySem.Expr.Attribute _ _ _) [_] [] _) _) _ _ _); k_dflt (refine g_join (fun _ => rfl) rfl rfl rfl ?_)))
  (k_with "And" => (refine join_arg rfl ?_))
  (k_with "wpG" => ((with_reducible show wpG _ _ (eval (PySem.Expr.ListComp _ _ _ _) _) _ _ _); k_dflt (refine g_ListN (P := BytesOf 1) (by k_asm) rfl (by decide) (by decide) rfl (by decide) rfl ?_)))
  (k_with "SrcN" => (k_dflt ((refine SrcN.intro (by k_asm) (by k_asm) (by k_mem) (Nat.le_of_ble_eq_true rfl) ?ka ?kb); (case' ka => (intro v9 hv9; unfold EltN; intro C9 oC9 m9 news9 h9 tk9 Q9 hsub9 hC9 hm9 hx9 F9 N9 ret9; (have e9 := List.mem_singleton.mp hv9); subst e9; (try dsimp only); (try k_fold))); (case' kb => (intro D9 ys9 h9 tk9 hl9 hP9 F9 N9 hD9; skip; (try dsimp only))))))
  (k_with "wpG" => ((with_reducible show wpG _ _ (call (Value.ref 200) [Value.ref _]) _ _ _); k_dflt ((refine' PureN.use (put_frame_ping_g _ _ _ rfl) ?k1 ?k2 ?k3 ?k4 ?k5 ?kK ?kd ?ku ?kn ?_); (case k1 => k_asm); (case k2 => k_asm); (case k3 => k_asm); (case k4 => k_asm); (case k5 => k_asm); (case kK => first | exact rfl | assumption); (case kd => ktr_room); (case ku => ktr_units); (case kn => ((refine need_cons ((by assumption : ∀ p ∈ _, p ∈ _) _ (by k_mem)) ?_); exact need_nil)); skip; intro v9 h9 tk9 F9 N9 P9; skip; (try dsimp only); (try k_fold))))
  (k_with "call builtin:bytes.join" => (k_dflt ((refine k_join_one (by k_asm) (by assumption) (by assumption) ?_); intro v9 hv9; (try dsimp only))))
  trivial
def put_frames_ping_g_B (w : World) (row f : Addr) (c9 : Nat) (t0 : Tok) : Prop := RW = RW → PureN w 24 205 [(row, listOf #[.ref f] c9), (f, { cls := .type "tuple", data := .seq #[.str (Str.ofString "ping") t0] })] [.ref row] (BytesOf 1)
theorem put_frames_ping_g : ∀ w row f c9 t0, put_frames_ping_g_B w row f c9 t0 := by
  refine ubx ?_
  simp (disch := k_dflt (
    refine tyP ?_
    refine' (?g9 : ∀ q : (∀ w row f c9 t0, put_frames_ping_g_B w row f c9 t0), Keep q → (∀ w row f c9 t0, put_frames_ping_g_B w row f c9 t0)) _ ?w9
    case g9 => exact fun q _ => q
    case w9 =>
      refine' kp9 ?h9 fun k9 => ?j9
      case h9 =>
        (repeat walk_at "CL9")
        rename_i w row f c9 t0
        unfold put_frames_ping_g_B
        intro _
        refine PureN_of _ _ _ _ _ _ ?_
        (repeat walk_at "CL9")
        rename_i  vk
        unfold KV.to PureN9
        w_on
        w_top on
        intro B F X N T hk hd hu hneed hret
        replace N := news_need hneed N
        simp only [List.cons_append, List.nil_append] at N
        refine wpG_call ?_
        (k_dflt (refine' codeG_def ?k1 ?k2 ?k3 ?k4 ?k5 ?kA ?kF ?kK ?k6 ?k7 ?k8 ?k9 ?kB ?_ ?c2 ?c3 ?c4 ?c5; (case kA => exact rfl); (case kF => exact rfl); (case kK => first | assumption | exact rfl); (case k1 => k_asm); (case k2 => k_asm); (case k3 => k_asm); (case k4 => k_asm); (case k5 => k_asm); (case k6 => k_is); (case k7 => k_is); (case k8 => ktr_room); (case k9 => exact BindsTo.of_eq rfl); (case c5 => decide); (case kB => exact locs (Eq.refl true)); (case c2 => exact rfl); (case c3 => exact rfl); (case c4 => exact rfl); k_whole; intro g' L' h' tk' FG' F' N' B' X' T' l1; (try dsimp only)))
        w_strict (k_steps; (all_goals first | exact RetN.use (by assumption) (by assumption) (by assumption) (by assumption) | exact hret _ _ _ (by k_asm) (news_sub (by assumption) (by (repeat (first | exact sub_self | exact sub_left | refine sub_tail ?_)))) (by assumption)))
      case j9 => revert k9; (try delta id ap_mk hd_in hd_out); intro k9; (try conv at k9 => zeta); exact k9)) only [↓bxT]
end
end
section
set_option Elab.async false
set_option maxRecDepth 100000
set_option maxHeartbeats 800000
theorem S14_rows0 : True := by
  k_with_none
  trivial
theorem S14_rows1 : True := by
  trivial
section
theorem S14_rows2 : True := by
  (k_with "size_fits" => ((simp only [Array.size_append, List.length_map, Array.length_toList, List.size_toArray, PySem.sizeLine_eq] at *); omega))
  (k_with "wpG" => (first
      | (with_reducible refine g_execs_nil ?_)
      | (with_reducible refine g_execs_cons ?_)
      | ((with_reducible refine g_leafS ?k1 ?_); (case k1 => k_dflt (exact rfl)); (try k_fold))
      | ((with_reducible refine g_leafE ?k1 ?_); (case k1 => k_dflt (exact rfl)); (try k_fold))
      | (with_reducible refine g_Return ?_)
      | ((with_reducible refine g_Assign ?_ ?k1); (case k1 => k_dflt (exact rfl)))
      | (with_reducible refine g_If ?_)
      | (with_reducible refine g_CallName ?_)
      | (with_reducible refine g_BinOp ?_)
      | (with_reducible refine g_Subscript ?_)
      | (with_reducible refine g_spliced_backTo_nil ?_)
      | ((refine g_spliced_backTo ?_ ?k1); (case k1 => k_dflt (exact rfl)))
      | ((refine' g_callWith_K ?k1 ?k2 ?_ ?k3 ?k4); (case k1 => k_asm); (case k2 => k_is); (case k3 => k_dflt (exact rfl)); (case k4 => k_dflt (exact rfl)); k_whole)
      | ((refine' g_callWith_type ?_ ?k3 ?k4); (case k3 => k_dflt (exact rfl)); (case k4 => k_dflt (exact rfl)))))
  (k_with "exec Raise some none" => (exfalso; contradiction))
  (k_with "True" => (skip))
  (k_with "And" => (refine ⟨True.intro, ?_⟩; (try dsimp only [List.nil_append, List.cons_append])))
  (k_with "k_room" => (ktr_room))
  (k_with "k_intsEnd" => (exact IntsAre.nil))
  (k_with "k_room" => (ktr_room))
  (k_with "wpG" => ((with_reducible show wpG _ _ (eval (PySem.Expr.Call (PySem.Expr.Attribute _ _ _) [_] [] _) _) _ _ _); k_dflt (refine g_join (fun _ => rfl) rfl rfl rfl ?_)))
  (k_with "And" => (refine join_arg rfl ?_))
  (k_with "wpG" => ((with_reducible show wpG _ _ (eval (PySem.Expr.ListComp _ _ _ _) _) _ _ _); k_dflt (refine g_ListN (P := BytesOf 5) (by k_asm) rfl (by decide) (by decide) rfl (by decide) rfl ?_)))
  (k_with "SrcN" => (k_dflt ((refine SrcN.intro (by k_asm) (by k_asm) (by k_mem) (Nat.le_of_ble_eq_true rfl) ?ka ?kb); (case' ka => (intro v9 hv9; unfold EltN; intro C9 oC9 m9 news9 h9 tk9 Q9 hsub9 hC9 hm9 hx9 F9 N9 ret9; (have e9 := List.mem_singleton.mp hv9); subst e9; (try dsimp only); (try k_fold))); (case' kb => (intro D9 ys9 h9 tk9 hl9 hP9 F9 N9 hD9; skip; (try dsimp only))))))
  (k_with "wpG" => ((with_reducible show wpG _ _ (call (Value.ref 200) [Value.ref _]) _ _ _); k_dflt ((refine' PureN.use (put_frame_ack_g _ _ _ _ _ _ _ _ _ rfl) ?k1 ?k2 ?k3 ?k4 ?k5 ?kK ?kd ?ku ?kn ?_); (case k1 => k_asm); (case k2 => k_asm); (case k3 => k_asm); (case k4 => k_asm); (case k5 => k_asm); (case kK => first | exact rfl | assumption); (case kd => ktr_room); (case ku => ktr_units); (case kn => ((refine need_cons ((by assumption : ∀ p ∈ _, p ∈ _) _ (by k_mem)) ?_); (refine need_cons ((by assumption : ∀ p ∈ _, p ∈ _) _ (by k_mem)) ?_); (refine need_cons ((by assumption : ∀ p ∈ _, p ∈ _) _ (by k_mem)) ?_); exact need_nil)); skip; intro v9 h9 tk9 F9 N9 P9; skip; (try dsimp only); (try k_fold))))
  (k_with "call builtin:bytes.join" => (k_dflt ((refine k_join_one (by k_asm) (by assumption) (by assumption) ?_); intro v9 hv9; (try dsimp only))))
  trivial
def put_frames_ack_g_B (w : World) (row : Addr) (c9 : Nat) (f rl rp : Addr) (t0 t1 t2 t3 : Tok) (c : Nat) : Prop := RW = RW → PureN w 24 205 [(row, listOf #[.ref f] c9), (f, { cls := .type "tuple", data := .seq #[.str (Str.ofString "ack") t0, .int 0 t1, .ref rl, .none] }), (rl, listOf #[.ref rp] c), (rp, { cls := .type "tuple", data := .seq #[.int 0 t2, .int 0 t3] })] [.ref row] (BytesOf 5)
theorem put_frames_ack_g : ∀ w row c9 f rl rp t0 t1 t2 t3 c, put_frames_ack_g_B w row c9 f rl rp t0 t1 t2 t3 c := by
  refine ubx ?_
  simp (disch := k_dflt (
    refine tyP ?_
    refine' (?g9 : ∀ q : (∀ w row c9 f rl rp t0 t1 t2 t3 c, put_frames_ack_g_B w row c9 f rl rp t0 t1 t2 t3 c), Keep q → (∀ w row c9 f rl rp t0 t1 t2 t3 c, put_frames_ack_g_B w row c9 f rl rp t0 t1 t2 t3 c)) _ ?w9
    case g9 => exact fun q _ => q
    case w9 =>
      refine' kp9 ?h9 fun k9 => ?j9
      case h9 =>
        (repeat walk_at "CL9")
        rename_i w row c9 f rl rp t0 t1 t2 t3 c
        unfold put_frames_ack_g_B
        intro _
        refine PureN_of _ _ _ _ _ _ ?_
        (repeat walk_at "CL9")
        rename_i  vk
        unfold KV.to PureN9
        w_on
        w_top on
        intro B F X N T hk hd hu hneed hret
        replace N := news_need hneed N
        simp only [List.cons_append, List.nil_append] at N
        refine wpG_call ?_
        (k_dflt (refine' codeG_def ?k1 ?k2 ?k3 ?k4 ?k5 ?kA ?kF ?kK ?k6 ?k7 ?k8 ?k9 ?kB ?_ ?c2 ?c3 ?c4 ?c5; (case kA => exact rfl); (case kF => exact rfl); (case kK => first | assumption | exact rfl); (case k1 => k_asm); (case k2 => k_asm); (case k3 => k_asm); (case k4 => k_asm); (case k5 => k_asm); (case k6 => k_is); (case k7 => k_is); (case k8 => ktr_room); (case k9 => exact BindsTo.of_eq rfl); (case c5 => decide); (case kB => exact locs (Eq.refl true)); (case c2 => exact rfl); (case c3 => exact rfl); (case c4 => exact rfl); k_whole; intro g' L' h' tk' FG' F' N' B' X' T' l1; (try dsimp only)))
        w_strict (k_steps; (all_goals first | exact RetN.use (by assumption) (by assumption) (by assumption) (by assumption) | exact hret _ _ _ (by k_asm) (news_sub (by assumption) (by (repeat (first | exact sub_self | exact sub_left | refine sub_tail ?_)))) (by assumption)))
      case j9 => revert k9; (try delta id ap_mk hd_in hd_out); intro k9; (try conv at k9 => zeta); exact k9)) only [↓bxT]
end
end
section
set_option Elab.async false
set_option maxRecDepth 100000
set_option maxHeartbeats 800000
theorem S4_rows0 : True := by
  k_with_none
  trivial
theorem S4_rows1 : True := by
  trivial
section
theorem S4_rows2 : True := by
  (k_with "k_room" => (ktr_room))
  (k_with "size_fits" => ((simp only [Array.size_append, List.length_map, Array.length_toList, List.size_toArray, PySem.sizeLine_eq] at *); omega))
  (k_with "call ref" => ((with_reducible show wpAny _ _ (call (Value.ref 248) [Value.int _ _, Value.bytes _ _]) _ _ _); k_dflt ((refine' PureC.use (mixed_c _ _ _ _ _ ?hb rfl) ?k1 ?k2 ?k3 ?k4 ?k5 ?kK ?kd ?ku ?_); (case k1 => k_asm); (case k2 => k_asm); (case k3 => k_asm); (case k4 => k_asm); (case k5 => k_asm); (case kK => first | exact rfl | assumption); (case kd => ktr_room); (case ku => ktr_units); (case hb => first | omega | (simp; done) | (simp; omega) | decide); intro v9 h9 tk9 F9 N9 P9; apply int_elim P9; clear P9; intro r9 t9 hlo9 hhi9; (try dsimp only); (try k_fold))))
  (k_with "by_in" => (assumption))
  (k_with "k_intsEnd" => (exact IntsAre.nil))
  (k_with "call builtin:list.append" => (k_here; (try dsimp only [List.cons_append, List.nil_append]); k_dflt ((refine' append_K ?k1 ?k2 ?k3 ?_ ?z); (case k1 => k_asm); (case k2 => k_asm); (case k3 => k_upd); (case z => (simp only [List.length_map, Array.length_toList, List.size_toArray, PySem.sizeLine_eq] at *); omega))))
  trivial
def turned_c_B (w : World) (key pl : Array UInt8) (tk tp : Tok) (x : Int) (tx : Tok) : Prop := (key.size = 1) → (pl.size ≤ 8) → (0 ≤ x) → (x < 100) → RW = RW → PureC w 10 255 [.bytes key tk, .int x tx, .bytes pl tp] (BytesOf pl.size)
theorem turned_c : ∀ w key pl tk tp x tx, turned_c_B w key pl tk tp x tx := by
  refine ubx ?_
  simp (disch := k_dflt (
    refine tyP ?_
    refine' (?g9 : ∀ q : (∀ w key pl tk tp x tx, turned_c_B w key pl tk tp x tx), Keep q → (∀ w key pl tk tp x tx, turned_c_B w key pl tk tp x tx)) _ ?w9
    case g9 => exact fun q _ => q
    case w9 =>
      refine' kp9 ?h9 fun k9 => ?j9
      case h9 =>
        (repeat walk_at "CL9")
        rename_i w key pl tk tp x tx
        unfold turned_c_B
        intro hk9 hp9 hx hx2 _
        refine PureC_of _ _ _ _ _ ?_
        (repeat walk_at "CL9")
        rename_i  vk
        unfold KV.to PureC9
        w_on
        w_top on
        intro B F X N T hk hd hu hret
        k_with "pyIter bytes" => k_state (fun pre st found => 0 ≤ st ∧ st < 170141183460469231731687303715884105727 ∧ found.length = pre.length ∧ ∀ x ∈ found, 0 ≤ x ∧ x < 256) "state" "found"
        k_with "state" => k_dflt (first | exact turned_step (by decide) (by assumption) (by assumption) (by assumption) (by assumption) | exact ⟨by assumption, by assumption, rfl, fun _ h => nomatch h⟩)
        refine wpAny_call ?_
        k_dflt cell_enter
        w_strict (k_steps; exact hret _ _ _ (by k_asm) (nd2 (by assumption)) (bytesOf_ints (by simp only [List.length_map, Array.length_toList] at *; omega)))
      case j9 => revert k9; (try delta id ap_mk hd_in hd_out); intro k9; (try conv at k9 => zeta); exact k9)) only [↓bxT]
end
end
section
set_option Elab.async false
set_option maxRecDepth 100000
set_option maxHeartbeats 800000
theorem S5_rows0 : True := by
  k_with_none
  trivial
theorem S5_rows1 : True := by
  trivial
section
theorem S5_rows2 : True := by
  (k_with "size_fits" => ((simp only [Array.size_append, List.length_map, Array.length_toList, List.size_toArray, PySem.sizeLine_eq] at *); omega))
  (k_with "wpG" => (first
      | (with_reducible refine g_execs_nil ?_)
      | (with_reducible refine g_execs_cons ?_)
      | ((with_reducible refine g_leafS ?k1 ?_); (case k1 => k_dflt (exact rfl)); (try k_fold))
      | ((with_reducible refine g_leafE ?k1 ?_); (case k1 => k_dflt (exact rfl)); (try k_fold))
      | (with_reducible refine g_Return ?_)
      | ((with_reducible refine g_Assign ?_ ?k1); (case k1 => k_dflt (exact rfl)))
      | (with_reducible refine g_If ?_)
      | (with_reducible refine g_CallName ?_)
      | (with_reducible refine g_BinOp ?_)
      | (with_reducible refine g_Subscript ?_)
      | (with_reducible refine g_spliced_backTo_nil ?_)
      | ((refine g_spliced_backTo ?_ ?k1); (case k1 => k_dflt (exact rfl)))
      | ((refine' g_callWith_K ?k1 ?k2 ?_ ?k3 ?k4); (case k1 => k_asm); (case k2 => k_is); (case k3 => k_dflt (exact rfl)); (case k4 => k_dflt (exact rfl)); k_whole)
      | ((refine' g_callWith_type ?_ ?k3 ?k4); (case k3 => k_dflt (exact rfl)); (case k4 => k_dflt (exact rfl)))))
  (k_with "exec Raise some none" => (exfalso; contradiction))
  (k_with "True" => (skip))
  (k_with "And" => (refine ⟨True.intro, ?_⟩; (try dsimp only [List.nil_append, List.cons_append])))
  (k_with "k_room" => (ktr_room))
  (k_with "k_intsEnd" => (exact IntsAre.nil))
  (k_with "wpG" => ((with_reducible show wpG _ _ (call (Value.ref 124) [Value.int _ _, Value.int _ _]) _ _ _); k_dflt ((refine' PureG.use (put_whole_16 _ _ _ _ ?ha ?hb rfl) ?k1 ?k2 ?k3 ?k4 ?k5 ?kK ?kd ?ku ?_); (case k1 => k_asm); (case k2 => k_asm); (case k3 => k_asm); (case k4 => k_asm); (case k5 => k_asm); (case kK => first | exact rfl | assumption); (case kd => ktr_room); (case ku => ktr_units); (case ha => first | omega | assumption); (case hb => first | omega | assumption); intro v9 h9 tk9 F9 N9 P9; apply bytes_elim P9; clear P9; intro b9 t9 ks9 hb9 hl9; have hs9 := size_of hb9 hl9; (try dsimp only); (try k_fold))))
  (k_with "wpG" => ((with_reducible show wpG _ _ (call (Value.ref 124) [Value.int _ _, Value.int _ _]) _ _ _); k_dflt ((refine' PureG.use (put_whole_4 _ _ _ _ ?ha ?hb rfl) ?k1 ?k2 ?k3 ?k4 ?k5 ?kK ?kd ?ku ?_); (case k1 => k_asm); (case k2 => k_asm); (case k3 => k_asm); (case k4 => k_asm); (case k5 => k_asm); (case kK => first | exact rfl | assumption); (case kd => ktr_room); (case ku => ktr_units); (case ha => first | omega | assumption); (case hb => first | omega | assumption); intro v9 h9 tk9 F9 N9 P9; apply bytes_elim P9; clear P9; intro b9 t9 ks9 hb9 hl9; have hs9 := size_of hb9 hl9; (try dsimp only); (try k_fold))))
  (k_with "wpG" => ((with_reducible show wpG _ _ (call (Value.ref 248) [Value.int _ _, Value.bytes _ _]) _ _ _); k_dflt ((refine' PureG.use (mixed_c _ _ _ _ _ ?hb rfl).g ?k1 ?k2 ?k3 ?k4 ?k5 ?kK ?kd ?ku ?_); (case k1 => k_asm); (case k2 => k_asm); (case k3 => k_asm); (case k4 => k_asm); (case k5 => k_asm); (case kK => first | exact rfl | assumption); (case kd => ktr_room); (case ku => ktr_units); (case hb => ((try simp only [Array.size_append]); first | omega | (simp; done) | (simp; omega) | decide)); intro v9 h9 tk9 F9 N9 P9; apply int_elim P9; clear P9; intro r9 t9 hlo9 hhi9; (try dsimp only); (try k_fold))))
  (k_with "call ref" => ((with_reducible show wpAny _ _ (call (Value.ref 248) [Value.int _ _, Value.bytes _ _]) _ _ _); k_dflt ((refine' PureC.use (mixed_c _ _ _ _ _ ?hb rfl) ?k1 ?k2 ?k3 ?k4 ?k5 ?kK ?kd ?ku ?_); (case k1 => k_asm); (case k2 => k_asm); (case k3 => k_asm); (case k4 => k_asm); (case k5 => k_asm); (case kK => first | exact rfl | assumption); (case kd => ktr_room); (case ku => ktr_units); (case hb => ((try simp only [Array.size_append]); first | omega | (simp; done) | (simp; omega) | decide)); intro v9 h9 tk9 F9 N9 P9; apply int_elim P9; clear P9; intro r9 t9 hlo9 hhi9; (try dsimp only); (try k_fold))))
  trivial
def tag_of_g_B (w : World) (key kb bb : Array UInt8) (tk t1 t2 : Tok) (x : Int) (tx : Tok) (kk hh pp : List Int) (n1 n2 : Nat) : Prop := (KBw.bInts key = kk) → (KBw.bInts kb = hh) → (KBw.bInts bb = pp) → (kk.length = 1) → (hh.length = n1) → (pp.length = n2) → (n1 ≤ 8) → (n2 ≤ 8) → RW = RW → PureG w 8 262 [.bytes key tk, .int x tx, .bytes kb t1, .bytes bb t2] (BytesOf 16)
theorem tag_of_g : ∀ w key kb bb tk t1 t2 x tx kk hh pp n1 n2, tag_of_g_B w key kb bb tk t1 t2 x tx kk hh pp n1 n2 := by
  refine ubx ?_
  simp (disch := k_dflt (
    refine tyP ?_
    refine' (?g9 : ∀ q : (∀ w key kb bb tk t1 t2 x tx kk hh pp n1 n2, tag_of_g_B w key kb bb tk t1 t2 x tx kk hh pp n1 n2), Keep q → (∀ w key kb bb tk t1 t2 x tx kk hh pp n1 n2, tag_of_g_B w key kb bb tk t1 t2 x tx kk hh pp n1 n2)) _ ?w9
    case g9 => exact fun q _ => q
    case w9 =>
      refine' kp9 ?h9 fun k9 => ?j9
      case h9 =>
        (repeat walk_at "CL9")
        rename_i w key kb bb tk t1 t2 x tx kk hh pp n1 n2
        unfold tag_of_g_B
        intro e1 e2 e3 l1 l2 l3 m1 m2 _
        refine PureG_of _ _ _ _ _ ?_
        (repeat walk_at "CL9")
        rename_i  vk
        unfold KV.to PureG9
        w_on
        w_top on
        intro B F X N T hk hd hu hret
        have s1 := size_of e1 l1
        have s2 := size_of e2 l2
        have s3 := size_of e3 l3
        refine wpG_call ?_
        (k_dflt (refine' codeG_def ?k1 ?k2 ?k3 ?k4 ?k5 ?kA ?kF ?kK ?k6 ?k7 ?k8 ?k9 ?kB ?_ ?c2 ?c3 ?c4 ?c5; (case kA => exact rfl); (case kF => exact rfl); (case kK => first | assumption | exact rfl); (case k1 => k_asm); (case k2 => k_asm); (case k3 => k_asm); (case k4 => k_asm); (case k5 => k_asm); (case k6 => k_is); (case k7 => k_is); (case k8 => ktr_room); (case k9 => exact BindsTo.of_eq rfl); (case c5 => decide); (case kB => exact locs (Eq.refl true)); (case c2 => exact rfl); (case c3 => exact rfl); (case c4 => exact rfl); k_whole; intro g' L' h' tk' FG' F' N' B' X' T' l1; (try dsimp only)))
        w_strict (k_steps; exact hret _ _ _ (by k_asm) (by k_asm) ⟨_,_,_,rfl,(by assumption),(by assumption)⟩)
      case j9 => revert k9; (try delta id ap_mk hd_in hd_out); intro k9; (try conv at k9 => zeta); exact k9)) only [↓bxT]
def head_mask_g_B (w : World) (key kb : Array UInt8) (tk t1 : Tok) (kk hh : List Int) : Prop := (KBw.bInts key = kk) → (KBw.bInts kb = hh) → (kk.length = 1) → (hh.length = 16) → RW = RW → PureG w 8 276 [.bytes key tk, .bytes kb t1] (BytesOf 5)
theorem head_mask_g : ∀ w key kb tk t1 kk hh, head_mask_g_B w key kb tk t1 kk hh := by
  refine ubx ?_
  simp (disch := k_dflt (
    refine tyP ?_
    refine' (?g9 : ∀ q : (∀ w key kb tk t1 kk hh, head_mask_g_B w key kb tk t1 kk hh), Keep q → (∀ w key kb tk t1 kk hh, head_mask_g_B w key kb tk t1 kk hh)) _ ?w9
    case g9 => exact fun q _ => q
    case w9 =>
      refine' kp9 ?h9 fun k9 => ?j9
      case h9 =>
        (repeat walk_at "CL9")
        rename_i w key kb tk t1 kk hh
        unfold head_mask_g_B
        intro e1 e2 l1 l2 _
        refine PureG_of _ _ _ _ _ ?_
        (repeat walk_at "CL9")
        rename_i  vk
        unfold KV.to PureG9
        w_on
        w_top on
        intro B F X N T hk hd hu hret
        have s1 := size_of e1 l1
        have s2 := size_of e2 l2
        refine wpG_call ?_
        (k_dflt (refine' codeG_def ?k1 ?k2 ?k3 ?k4 ?k5 ?kA ?kF ?kK ?k6 ?k7 ?k8 ?k9 ?kB ?_ ?c2 ?c3 ?c4 ?c5; (case kA => exact rfl); (case kF => exact rfl); (case kK => first | assumption | exact rfl); (case k1 => k_asm); (case k2 => k_asm); (case k3 => k_asm); (case k4 => k_asm); (case k5 => k_asm); (case k6 => k_is); (case k7 => k_is); (case k8 => ktr_room); (case k9 => exact BindsTo.of_eq rfl); (case c5 => decide); (case kB => exact locs (Eq.refl true)); (case c2 => exact rfl); (case c3 => exact rfl); (case c4 => exact rfl); k_whole; intro g' L' h' tk' FG' F' N' B' X' T' l1; (try dsimp only)))
        w_strict (k_steps; exact hret _ _ _ (by k_asm) (by k_asm) ⟨_,_,_,rfl,(by assumption),tail5 (by assumption)⟩)
      case j9 => revert k9; (try delta id ap_mk hd_in hd_out); intro k9; (try conv at k9 => zeta); exact k9)) only [↓bxT]
theorem S5_rows3 : True := by
  (k_with "call ref" => ((with_reducible show wpAny _ _ (call (Value.ref 255) [Value.bytes _ _, Value.int _ _, Value.bytes _ _]) _ _ _); k_dflt ((refine' PureC.use (turned_c _ _ _ _ _ _ _ ?h1 ?h2 ?h3 ?h4 rfl) ?k1 ?k2 ?k3 ?k4 ?k5 ?kK ?kd ?ku ?_); (case k1 => k_asm); (case k2 => k_asm); (case k3 => k_asm); (case k4 => k_asm); (case k5 => k_asm); (case kK => first | exact rfl | assumption); (case kd => ktr_room); (case ku => ktr_units); (case h1 => assumption); (case h2 => omega); (case h3 => omega); (case h4 => omega); intro v9 h9 tk9 F9 N9 P9; apply bytes_elim P9; clear P9; intro b9 t9 ks9 hb9 hl9; have hs9 := size_of hb9 hl9; (try dsimp only); (try k_fold))))
  (k_with "wpG" => ((with_reducible show wpG _ _ (call (Value.ref 262) [Value.bytes _ _, Value.int _ _, Value.bytes _ _, Value.bytes _ _]) _ _ _); k_dflt ((refine' PureG.use (tag_of_g _ _ _ _ _ _ _ _ _ _ _ _ _ _ ?h1 ?h2 ?h3 ?h4 ?h5 ?h6 ?h7 ?h8 rfl) ?k1 ?k2 ?k3 ?k4 ?k5 ?kK ?kd ?ku ?_); (case k1 => k_asm); (case k2 => k_asm); (case k3 => k_asm); (case k4 => k_asm); (case k5 => k_asm); (case kK => first | exact rfl | assumption); (case kd => ktr_room); (case ku => ktr_units); (case h1 => assumption); (case h2 => assumption); (case h3 => assumption); (case h4 => assumption); (case h5 => assumption); (case h6 => assumption); (case h7 => omega); (case h8 => omega); intro v9 h9 tk9 F9 N9 P9; apply bytes_elim P9; clear P9; intro b9 t9 ks9 hb9 hl9; have hs9 := size_of hb9 hl9; (try dsimp only); (try k_fold))))
  trivial
def seal_payload_g_B (w : World) (key kb bb : Array UInt8) (tk t1 t2 : Tok) (x : Int) (tx : Tok) (kk hh pp : List Int) (n1 n2 : Nat) : Prop := (KBw.bInts key = kk) → (KBw.bInts kb = hh) → (KBw.bInts bb = pp) → (kk.length = 1) → (hh.length = n1) → (pp.length = n2) → (n1 ≤ 8) → (n2 ≤ 8) → (0 ≤ x) → (x < 100) → RW = RW → PureG w 12 269 [.bytes key tk, .int x tx, .bytes kb t1, .bytes bb t2] (BytesOf (n2 + 16))
theorem seal_payload_g : ∀ w key kb bb tk t1 t2 x tx kk hh pp n1 n2, seal_payload_g_B w key kb bb tk t1 t2 x tx kk hh pp n1 n2 := by
  refine ubx ?_
  simp (disch := k_dflt (
    refine tyP ?_
    refine' (?g9 : ∀ q : (∀ w key kb bb tk t1 t2 x tx kk hh pp n1 n2, seal_payload_g_B w key kb bb tk t1 t2 x tx kk hh pp n1 n2), Keep q → (∀ w key kb bb tk t1 t2 x tx kk hh pp n1 n2, seal_payload_g_B w key kb bb tk t1 t2 x tx kk hh pp n1 n2)) _ ?w9
    case g9 => exact fun q _ => q
    case w9 =>
      refine' kp9 ?h9 fun k9 => ?j9
      case h9 =>
        (repeat walk_at "CL9")
        rename_i w key kb bb tk t1 t2 x tx kk hh pp n1 n2
        unfold seal_payload_g_B
        intro e1 e2 e3 l1 l2 l3 m1 m2 x0 x1 _
        refine PureG_of _ _ _ _ _ ?_
        (repeat walk_at "CL9")
        rename_i  vk
        unfold KV.to PureG9
        w_on
        w_top on
        intro B F X N T hk hd hu hret
        have s1 := size_of e1 l1
        have s2 := size_of e2 l2
        have s3 := size_of e3 l3
        refine wpG_call ?_
        (k_dflt (refine' codeG_def ?k1 ?k2 ?k3 ?k4 ?k5 ?kA ?kF ?kK ?k6 ?k7 ?k8 ?k9 ?kB ?_ ?c2 ?c3 ?c4 ?c5; (case kA => exact rfl); (case kF => exact rfl); (case kK => first | assumption | exact rfl); (case k1 => k_asm); (case k2 => k_asm); (case k3 => k_asm); (case k4 => k_asm); (case k5 => k_asm); (case k6 => k_is); (case k7 => k_is); (case k8 => ktr_room); (case k9 => exact BindsTo.of_eq rfl); (case c5 => decide); (case kB => exact locs (Eq.refl true)); (case c2 => exact rfl); (case c3 => exact rfl); (case c4 => exact rfl); k_whole; intro g' L' h' tk' FG' F' N' B' X' T' l1; (try dsimp only)))
        w_strict (k_steps; exact hret _ _ _ (by k_asm) (by k_asm) ⟨_,_,_,rfl,(by assumption),by (rw [List.length_append]; omega)⟩)
      case j9 => revert k9; (try delta id ap_mk hd_in hd_out); intro k9; (try conv at k9 => zeta); exact k9)) only [↓bxT]
end
end
section
set_option Elab.async false
set_option maxRecDepth 100000
set_option maxHeartbeats 800000
theorem S6_rows0 : True := by
  k_with_none
  trivial
theorem S6_rows1 : True := by
  trivial
section
theorem slice16 {ks : List Int} {n : Nat} (h : ks.length = n) (m : 25 ≤ n) : ((ks.drop (clipAt ks.length (5+4))).take (clipAt ks.length (5+4+16) - clipAt ks.length (5+4))).length = 16 := by
  have e1 : clipAt ks.length (5+4) = 9 := by rw [show (5+4:Int) = 9 from rfl, KBc.clip_lit]; show min 9 _ = 9; omega
  have e2 : clipAt ks.length (5+4+16) = 25 := by rw [show (5+4+16:Int) = 25 from rfl, KBc.clip_lit]; show min 25 _ = 25; omega
  rw [e1, e2, List.length_take, List.length_drop]; omega
theorem S6_rows2 : True := by
  (k_with "k_room" => (ktr_room))
  trivial
def sample_c_B (w : World) (bb : Array UInt8) (t0 t1 t2 : Tok) (a9 e9 : Int) (ks : List Int) (n : Nat) : Prop := (a9 = 5) → (e9 = (n : Nat)) → (KBw.bInts bb = ks) → (ks.length = n) → (25 ≤ n) → (n ≤ 100) → RW = RW → PureC w 4 295 [.bytes bb t0, .int a9 t1, .int e9 t2] (BytesOf 16)
theorem sample_c : ∀ w bb t0 t1 t2 a9 e9 ks n, sample_c_B w bb t0 t1 t2 a9 e9 ks n := by
  refine ubx ?_
  simp (disch := k_dflt (
    refine tyP ?_
    refine' (?g9 : ∀ q : (∀ w bb t0 t1 t2 a9 e9 ks n, sample_c_B w bb t0 t1 t2 a9 e9 ks n), Keep q → (∀ w bb t0 t1 t2 a9 e9 ks n, sample_c_B w bb t0 t1 t2 a9 e9 ks n)) _ ?w9
    case g9 => exact fun q _ => q
    case w9 =>
      refine' kp9 ?h9 fun k9 => ?j9
      case h9 =>
        (repeat walk_at "CL9")
        rename_i w bb t0 t1 t2 a9 e9 ks n
        unfold sample_c_B
        intro ha9 he9 e1 l1 m1 m2 _
        refine PureC_of _ _ _ _ _ ?_
        (repeat walk_at "CL9")
        rename_i  vk
        unfold KV.to PureC9
        w_on
        w_top on
        intro B F X N T hk hd hu hret
        subst ha9 he9
        refine wpAny_call ?_
        k_dflt cell_enter
        w_strict (k_steps; (all_goals first | (exfalso; simp only [decide_eq_true_eq] at *; omega) | (exfalso; omega) | exact hret _ _ _ (by k_asm) (by k_asm) ⟨_,_,_,rfl,(by assumption),slice16 (by omega) (by omega)⟩))
      case j9 => revert k9; (try delta id ap_mk hd_in hd_out); intro k9; (try conv at k9 => zeta); exact k9)) only [↓bxT]
def turned_first_c_B (w : World) (f : Int) (bb : Array UInt8) (t0 t1 : Tok) (ks : List Int) : Prop := (KBw.bInts bb = ks) → (ks.length = 5) → (0 ≤ f) → (f < 256) → RW = RW → PureC w 4 283 [.int f t0, .bytes bb t1] (IntIn 0 256)
theorem turned_first_c : ∀ w f bb t0 t1 ks, turned_first_c_B w f bb t0 t1 ks := by
  refine ubx ?_
  simp (disch := k_dflt (
    refine tyP ?_
    refine' (?g9 : ∀ q : (∀ w f bb t0 t1 ks, turned_first_c_B w f bb t0 t1 ks), Keep q → (∀ w f bb t0 t1 ks, turned_first_c_B w f bb t0 t1 ks)) _ ?w9
    case g9 => exact fun q _ => q
    case w9 =>
      refine' kp9 ?h9 fun k9 => ?j9
      case h9 =>
        (repeat walk_at "CL9")
        rename_i w f bb t0 t1 ks
        unfold turned_first_c_B
        intro e1 l1 f0 f1 _
        refine PureC_of _ _ _ _ _ ?_
        (repeat walk_at "CL9")
        rename_i  vk
        unfold KV.to PureC9
        w_on
        w_top on
        intro B F X N T hk hd hu hret
        refine wpAny_call ?_
        k_dflt cell_enter
        w_strict (k_steps; (all_goals first | (exfalso; omega) | exact hret _ _ _ (by k_asm) (by k_asm) ⟨_, _, rfl, bitXor_in (by omega) (by omega) (bitAnd_in (by omega) (by omega) (by decide)).1 (bitAnd_in (by omega) (by omega) (by decide)).2⟩))
      case j9 => revert k9; (try delta id ap_mk hd_in hd_out); intro k9; (try conv at k9 => zeta); exact k9)) only [↓bxT]
theorem S6_rows3 : True := by
  (k_with "eval ListComp" => (k_dflt (refine enum_comp (PE := IntIn 0 256) (by k_asm) (by rfl) (by with_unfolding_all rfl) (by decide) (by rfl) (by decide) (by rfl) (by rfl) (by decide) ?_)))
  (k_with "call type:enumerate" => (k_dflt ((refine enum_src (n := 1) (by k_asm) (by k_asm) (by assumption) (by decide) ?ka ?kb); (case' ka => (intro g; unfold EltT; intro i c t u C oC m₂ h tk Ew' hi hc hC hx1 hx2 F9 N9; (try dsimp only); (try k_fold))); (case' kb => (intro D ys h tk hl hP F9 N9 hD; obtain ⟨k9, q9, z9, w9⟩ := intsAre_of hP; have w8 : KBa.In k9 := w9; (try dsimp only))))))
  (k_with "call type:bytes" => (k_dflt ((refine KBa.make_K (by k_asm) (by k_asm) rfl ⟨_, ((by k_asm : News _ _ _ _) _ List.mem_cons_self).1, rfl, _, rfl⟩ (by assumption) (by assumption) (by omega) ?_); intro hw' tw' kw' Fw' Nw' hBw'; (try dsimp only))))
  trivial
def turned_number_c_B (w : World) (cb bb : Array UInt8) (t0 t1 : Tok) (cs9 ks : List Int) : Prop := (KBw.bInts cb = cs9) → (cs9.length = 1) → (KBw.bInts bb = ks) → (ks.length = 5) → RW = RW → PureC w 4 288 [.bytes cb t0, .bytes bb t1] (BytesOf 1)
theorem turned_number_c : ∀ w cb bb t0 t1 cs9 ks, turned_number_c_B w cb bb t0 t1 cs9 ks := by
  refine ubx ?_
  simp (disch := k_dflt (
    refine tyP ?_
    refine' (?g9 : ∀ q : (∀ w cb bb t0 t1 cs9 ks, turned_number_c_B w cb bb t0 t1 cs9 ks), Keep q → (∀ w cb bb t0 t1 cs9 ks, turned_number_c_B w cb bb t0 t1 cs9 ks)) _ ?w9
    case g9 => exact fun q _ => q
    case w9 =>
      refine' kp9 ?h9 fun k9 => ?j9
      case h9 =>
        (repeat walk_at "CL9")
        rename_i w cb bb t0 t1 cs9 ks
        unfold turned_number_c_B
        intro e0 l0 e1 l1 _
        refine PureC_of _ _ _ _ _ ?_
        (repeat walk_at "CL9")
        rename_i  vk
        unfold KV.to PureC9
        w_on
        w_top on
        intro B F X N T hk hd hu hret
        have s0 := size_of e0 l0
        have s1 := size_of e1 l1
        refine wpAny_call ?_
        k_dflt ((refine' code_defC ?k1 ?k2 ?k3 ?k4 ?k5 ?kA ?kF ?kK ?k6 ?k7 ?k8 ?k9 ?kB ?kD ?_ ?c2 ?c3 ?c4; (case kA => exact rfl); (case kF => exact rfl); (case kK => first | exact rfl | assumption); (case k1 => k_asm); (case k2 => k_asm); (case k3 => k_asm); (case k4 => k_asm); (case k5 => k_asm); (case k6 => k_is); (case k7 => k_is); (case k8 => ktr_room); (case k9 => first | exact BindsTo.of_eq rfl | exact binds_K (by k_in) rfl (by k_is) rfl rfl rfl); (case kB => exact rfl); (case kD => decide +kernel); (case c2 => exact rfl); (case c3 => exact rfl); (case c4 => exact rfl); k_whole; intro g' L' h' tk' cells' FG' F' N' Y' B' X' T' l1; (try k_lt l1); k_cells Y'; (try simp only [List.cons_append, List.nil_append] at N'); (try dsimp only); (try k_lift B'); (try k_fold)))
        w_strict (k_steps; all_goals (first | exact ⟨_, _, rfl, bitXor_in (by omega) (by omega) (by omega) (by omega)⟩ | exact hret _ _ _ (by k_asm) (nd2 (by assumption)) ⟨_, _, _, rfl, KBa.ints_make (by assumption), by omega⟩))
      case j9 => revert k9; (try delta id ap_mk hd_in hd_out); intro k9; (try conv at k9 => zeta); exact k9)) only [↓bxT]
end
end
section
set_option Elab.async false
set_option maxRecDepth 100000
set_option maxHeartbeats 800000
theorem S7_rows0 : True := by
  k_with_none
  trivial
theorem S7_rows1 : True := by
  trivial
section
theorem S7_rows2 : True := by
  (k_with "size_fits" => ((simp only [Array.size_append, List.length_map, Array.length_toList, List.size_toArray, PySem.sizeLine_eq] at *); omega))
  (k_with "wpG" => (first
      | (with_reducible refine g_execs_nil ?_)
      | (with_reducible refine g_execs_cons ?_)
      | ((with_reducible refine g_leafS ?k1 ?_); (case k1 => k_dflt (exact rfl)); (try k_fold))
      | ((with_reducible refine g_leafE ?k1 ?_); (case k1 => k_dflt (exact rfl)); (try k_fold))
      | (with_reducible refine g_Return ?_)
      | ((with_reducible refine g_Assign ?_ ?k1); (case k1 => k_dflt (exact rfl)))
      | (with_reducible refine g_If ?_)
      | (with_reducible refine g_CallName ?_)
      | (with_reducible refine g_BinOp ?_)
      | (with_reducible refine g_Subscript ?_)
      | (with_reducible refine g_spliced_backTo_nil ?_)
      | ((refine g_spliced_backTo ?_ ?k1); (case k1 => k_dflt (exact rfl)))
      | ((refine' g_callWith_K ?k1 ?k2 ?_ ?k3 ?k4); (case k1 => k_asm); (case k2 => k_is); (case k3 => k_dflt (exact rfl)); (case k4 => k_dflt (exact rfl)); k_whole)
      | ((refine' g_callWith_type ?_ ?k3 ?k4); (case k3 => k_dflt (exact rfl)); (case k4 => k_dflt (exact rfl)))))
  (k_with "exec Raise some none" => (exfalso; contradiction))
  (k_with "True" => (skip))
  (k_with "And" => (refine ⟨True.intro, ?_⟩; (try dsimp only [List.nil_append, List.cons_append])))
  (k_with "k_room" => (ktr_room))
  (k_with "k_intsEnd" => (exact IntsAre.nil))
  (k_with "wpG" => ((with_reducible show wpG _ _ (call (Value.ref 269) [Value.bytes _ _, Value.int _ _, Value.bytes _ _, Value.bytes _ _]) _ _ _); k_dflt ((refine' PureG.use (seal_payload_g _ _ _ _ _ _ _ _ _ _ _ _ _ _ ?h1 ?h2 ?h3 ?h4 ?h5 ?h6 ?h7 ?h8 ?h9 ?h10 rfl) ?k1 ?k2 ?k3 ?k4 ?k5 ?kK ?kd ?ku ?_); (case k1 => k_asm); (case k2 => k_asm); (case k3 => k_asm); (case k4 => k_asm); (case k5 => k_asm); (case kK => first | exact rfl | assumption); (case kd => ktr_room); (case ku => ktr_units); (case h1 => assumption); (case h2 => assumption); (case h3 => assumption); (case h4 => assumption); (case h5 => rfl); (case h6 => assumption); (case h7 => ((try simp only [List.length_append]); omega)); (case h8 => omega); (case h9 => omega); (case h10 => omega); intro v9 h9 tk9 F9 N9 P9; apply bytes_elim P9; clear P9; intro b9 t9 ks9 hb9 hl9; have hs9 := size_of hb9 hl9; (try dsimp only); (try k_fold))))
  (k_with "wpG" => ((with_reducible show wpG _ _ (call (Value.ref 276) [Value.bytes _ _, Value.bytes _ _]) _ _ _); k_dflt ((refine' PureG.use (head_mask_g _ _ _ _ _ _ _ ?h1 ?h2 ?h3 ?h4 rfl) ?k1 ?k2 ?k3 ?k4 ?k5 ?kK ?kd ?ku ?_); (case k1 => k_asm); (case k2 => k_asm); (case k3 => k_asm); (case k4 => k_asm); (case k5 => k_asm); (case kK => first | exact rfl | assumption); (case kd => ktr_room); (case ku => ktr_units); (case h1 => assumption); (case h2 => assumption); (case h3 => assumption); (case h4 => assumption); intro v9 h9 tk9 F9 N9 P9; apply bytes_elim P9; clear P9; intro b9 t9 ks9 hb9 hl9; have hs9 := size_of hb9 hl9; (try dsimp only); (try k_fold))))
  (k_with "call ref" => ((with_reducible show wpAny _ _ (call (Value.ref 295) [Value.bytes _ _, Value.int _ _, Value.int _ _]) _ _ _); k_dflt ((refine' PureC.use (sample_c _ _ _ _ _ _ _ _ _ ?h1 ?h2 ?h3 ?h4 ?h5 ?h6 rfl) ?k1 ?k2 ?k3 ?k4 ?k5 ?kK ?kd ?ku ?_); (case k1 => k_asm); (case k2 => k_asm); (case k3 => k_asm); (case k4 => k_asm); (case k5 => k_asm); (case kK => first | exact rfl | assumption); (case kd => ktr_room); (case ku => ktr_units); (case h1 => omega); (case h2 => rfl); (case h3 => assumption); (case h4 => first | rfl | (simp only [List.length_append]; done) | (simp only [List.length_append]; omega)); (case h5 => ((try simp only [List.length_append]); omega)); (case h6 => ((try simp only [List.length_append]); omega)); intro v9 h9 tk9 F9 N9 P9; apply bytes_elim P9; clear P9; intro b9 t9 ks9 hb9 hl9; have hs9 := size_of hb9 hl9; (try dsimp only); (try k_fold))))
  (k_with "call ref" => ((with_reducible show wpAny _ _ (call (Value.ref 283) [Value.int _ _, Value.bytes _ _]) _ _ _); k_dflt ((refine' PureC.use (turned_first_c _ _ _ _ _ _ ?h1 ?h2 ?h3 ?h4 rfl) ?k1 ?k2 ?k3 ?k4 ?k5 ?kK ?kd ?ku ?_); (case k1 => k_asm); (case k2 => k_asm); (case k3 => k_asm); (case k4 => k_asm); (case k5 => k_asm); (case kK => first | exact rfl | assumption); (case kd => ktr_room); (case ku => ktr_units); (case h1 => assumption); (case h2 => assumption); (case h3 => assumption); (case h4 => assumption); intro v9 h9 tk9 F9 N9 P9; apply int_elim P9; clear P9; intro r9 t9 hlo9 hhi9; (try dsimp only); (try k_fold))))
  (k_with "call ref" => ((with_reducible show wpAny _ _ (call (Value.ref 288) [Value.bytes _ _, Value.bytes _ _]) _ _ _); k_dflt ((refine' PureC.use (turned_number_c _ _ _ _ _ _ _ ?h1 ?h2 ?h3 ?h4 rfl) ?k1 ?k2 ?k3 ?k4 ?k5 ?kK ?kd ?ku ?_); (case k1 => k_asm); (case k2 => k_asm); (case k3 => k_asm); (case k4 => k_asm); (case k5 => k_asm); (case kK => first | exact rfl | assumption); (case kd => ktr_room); (case ku => ktr_units); (case h1 => assumption); (case h2 => assumption); (case h3 => assumption); (case h4 => assumption); intro v9 h9 tk9 F9 N9 P9; apply bytes_elim P9; clear P9; intro b9 t9 ks9 hb9 hl9; have hs9 := size_of hb9 hl9; (try dsimp only); (try k_fold))))
  trivial
def protected_g_B (w : World) (key hb cb pb : Array UInt8) (tk t1 t2 t3 : Tok) (x : Int) (tx : Tok) (kk hh cc pp : List Int) (n : Nat) : Prop := (KBw.bInts key = kk) → (KBw.bInts hb = hh) → (KBw.bInts cb = cc) → (KBw.bInts pb = pp) → (kk.length = 1) → (hh.length = 5) → (cc.length = 1) → (pp.length = n) → (3 ≤ n) → (n ≤ 8) → (0 ≤ x) → (x < 100) → RW = RW → PureG w 16 309 [.bytes key tk, .int x tx, .bytes hb t1, .bytes cb t2, .bytes pb t3] (SomeBytes)
theorem protected_g : ∀ w key hb cb pb tk t1 t2 t3 x tx kk hh cc pp n, protected_g_B w key hb cb pb tk t1 t2 t3 x tx kk hh cc pp n := by
  refine ubx ?_
  simp (disch := k_dflt (
    refine tyP ?_
    refine' (?g9 : ∀ q : (∀ w key hb cb pb tk t1 t2 t3 x tx kk hh cc pp n, protected_g_B w key hb cb pb tk t1 t2 t3 x tx kk hh cc pp n), Keep q → (∀ w key hb cb pb tk t1 t2 t3 x tx kk hh cc pp n, protected_g_B w key hb cb pb tk t1 t2 t3 x tx kk hh cc pp n)) _ ?w9
    case g9 => exact fun q _ => q
    case w9 =>
      refine' kp9 ?h9 fun k9 => ?j9
      case h9 =>
        (repeat walk_at "CL9")
        rename_i w key hb cb pb tk t1 t2 t3 x tx kk hh cc pp n
        unfold protected_g_B
        intro e1 e2 e3 e4 l1 l2 l3 l4 m1 m2 x0 x1 _
        refine PureG_of _ _ _ _ _ ?_
        (repeat walk_at "CL9")
        rename_i  vk
        unfold KV.to PureG9
        w_on
        w_top on
        intro B F X N T hk hd hu hret
        have s1 := size_of e1 l1
        have s2 := size_of e2 l2
        have s3 := size_of e3 l3
        have s4 := size_of e4 l4
        refine wpG_call ?_
        (k_dflt (refine' codeG_def ?k1 ?k2 ?k3 ?k4 ?k5 ?kA ?kF ?kK ?k6 ?k7 ?k8 ?k9 ?kB ?_ ?c2 ?c3 ?c4 ?c5; (case kA => exact rfl); (case kF => exact rfl); (case kK => first | assumption | exact rfl); (case k1 => k_asm); (case k2 => k_asm); (case k3 => k_asm); (case k4 => k_asm); (case k5 => k_asm); (case k6 => k_is); (case k7 => k_is); (case k8 => ktr_room); (case k9 => exact BindsTo.of_eq rfl); (case c5 => decide); (case kB => exact locs (Eq.refl true)); (case c2 => exact rfl); (case c3 => exact rfl); (case c4 => exact rfl); k_whole; intro g' L' h' tk' FG' F' N' B' X' T' l1; (try dsimp only)))
        w_strict (k_steps; exact hret _ _ _ (by k_asm) (nd1 (by assumption)) (big_of (by assumption) (by (simp only [List.length_append, List.length_take, List.length_drop, List.length_map, List.length_cons, List.length_nil]; omega))))
      case j9 => revert k9; (try delta id ap_mk hd_in hd_out); intro k9; (try conv at k9 => zeta); exact k9)) only [↓bxT]
end
end
section
set_option Elab.async false
set_option maxRecDepth 100000
set_option maxHeartbeats 800000
theorem S3_rows0 : True := by
  k_with_none
  trivial
theorem S3_rows1 : True := by
  trivial
section
theorem S3_rows2 : True := by
  (k_with "k_room" => (ktr_room))
  (k_with "call ref" => (exfalso; omega))
  trivial
def number_size_c_B (w : World) (k : Int) (t : Tok) : Prop := (0 ≤ k) → (k < 64) → RW = RW → PureC w 3 234 [.int k t, .none] (fun v => ∃ t, v = .int 1 t)
theorem number_size_c : ∀ w k t, number_size_c_B w k t := by
  refine ubx ?_
  simp (disch := k_dflt (
    refine tyP ?_
    refine' (?g9 : ∀ q : (∀ w k t, number_size_c_B w k t), Keep q → (∀ w k t, number_size_c_B w k t)) _ ?w9
    case g9 => exact fun q _ => q
    case w9 =>
      refine' kp9 ?h9 fun k9 => ?j9
      case h9 =>
        (repeat walk_at "CL9")
        rename_i w k t
        unfold number_size_c_B
        intro h0 h1 _
        refine PureC_of _ _ _ _ _ ?_
        (repeat walk_at "CL9")
        rename_i  vk
        unfold KV.to PureC9
        w_on
        w_top on
        intro B F X N T hk hd hu hret
        have hz : @LE.le Int _ (@HMul.hMul Int Int Int _ 2 (@HAdd.hAdd Int Int Int _ k 1)) (1 * 2 ^ (8 * (1 + ((0:Nat):Int)) : Int).toNat) := by (have e : (1 * 2 ^ (8 * (1 + ((0:Nat):Int)) : Int).toNat : Int) = 256 := (by decide)); omega
        refine wpAny_call ?_
        k_dflt cell_enter
        w_strict (k_steps; (all_goals first | (exfalso; contradiction) | exact hret _ _ _ (by k_asm) (by first | k_asm | exact cb_drop (by assumption) (fun p hp => List.mem_append_left _ hp) | exact (fun p hp => (by assumption : News vk.h₀ vk.L _ _) p (List.mem_cons_of_mem _ hp))) ⟨_, rfl⟩))
      case j9 => revert k9; (try delta id ap_mk hd_in hd_out); intro k9; (try conv at k9 => zeta); exact k9)) only [↓bxT]
end
theorem S3_rows3 : True := by
  (k_with "wpG" => (first
      | (with_reducible refine g_execs_nil ?_)
      | (with_reducible refine g_execs_cons ?_)
      | ((with_reducible refine g_leafS ?k1 ?_); (case k1 => k_dflt (exact rfl)); (try k_fold))
      | ((with_reducible refine g_leafE ?k1 ?_); (case k1 => k_dflt (exact rfl)); (try k_fold))
      | (with_reducible refine g_Return ?_)
      | ((with_reducible refine g_Assign ?_ ?k1); (case k1 => k_dflt (exact rfl)))
      | (with_reducible refine g_If ?_)
      | (with_reducible refine g_CallName ?_)
      | (with_reducible refine g_BinOp ?_)
      | (with_reducible refine g_spliced_backTo_nil ?_)
      | ((refine g_spliced_backTo ?_ ?k1); (case k1 => k_dflt (exact rfl)))
      | ((refine' g_callWith_K ?k1 ?k2 ?_ ?k3 ?k4); (case k1 => k_asm); (case k2 => k_is); (case k3 => k_dflt (exact rfl)); (case k4 => k_dflt (exact rfl)); k_whole)
      | ((refine' g_callWith_type ?_ ?k3 ?k4); (case k3 => k_dflt (exact rfl)); (case k4 => k_dflt (exact rfl)))))
  (k_with "exec Raise some none" => (exfalso; contradiction))
  (k_with "True" => (skip))
  (k_with "And" => (refine ⟨True.intro, ?_⟩; (try dsimp only [List.nil_append, List.cons_append])))
  (k_with "k_room" => (ktr_room))
  (k_with "k_intsEnd" => (exact IntsAre.nil))
  (k_with "wpG" => ((with_reducible show wpG _ _ (call (Value.ref 124) [Value.int _ _, Value.int _ _]) _ _ _); k_dflt ((refine' PureG.use (put_whole_16 _ _ _ _ ?ha ?hb rfl) ?k1 ?k2 ?k3 ?k4 ?k5 ?kK ?kd ?ku ?_); (case k1 => k_asm); (case k2 => k_asm); (case k3 => k_asm); (case k4 => k_asm); (case k5 => k_asm); (case kK => first | exact rfl | assumption); (case kd => ktr_room); (case ku => ktr_units); (case ha => first | assumption | omega); (case hb => first | assumption | omega); intro v9 h9 tk9 F9 N9 P9; apply bytes_elim P9; clear P9; intro b9 t9 ks9 hb9 hl9; (try dsimp only); (try k_fold))))
  (k_with "wpG" => ((with_reducible show wpG _ _ (call (Value.ref 124) [Value.int _ _, Value.int _ _]) _ _ _); k_dflt ((refine' PureG.use (put_whole_4 _ _ _ _ ?ha ?hb rfl) ?k1 ?k2 ?k3 ?k4 ?k5 ?kK ?kd ?ku ?_); (case k1 => k_asm); (case k2 => k_asm); (case k3 => k_asm); (case k4 => k_asm); (case k5 => k_asm); (case kK => first | exact rfl | assumption); (case kd => ktr_room); (case ku => ktr_units); (case ha => first | assumption | omega); (case hb => first | assumption | omega); intro v9 h9 tk9 F9 N9 P9; apply bytes_elim P9; clear P9; intro b9 t9 ks9 hb9 hl9; (try dsimp only); (try k_fold))))
  (k_with "wpG" => ((with_reducible show wpG _ _ (call (Value.ref 124) [Value.int _ _, Value.int _ _]) _ _ _); k_dflt ((refine' PureG.use (put_whole_1 _ _ _ _ ?ha ?hb rfl) ?k1 ?k2 ?k3 ?k4 ?k5 ?kK ?kd ?ku ?_); (case k1 => k_asm); (case k2 => k_asm); (case k3 => k_asm); (case k4 => k_asm); (case k5 => k_asm); (case kK => first | exact rfl | assumption); (case kd => ktr_room); (case ku => ktr_units); (case ha => first | assumption | omega); (case hb => first | assumption | omega); intro v9 h9 tk9 F9 N9 P9; apply bytes_elim P9; clear P9; intro b9 t9 ks9 hb9 hl9; (try dsimp only); (try k_fold))))
  (k_with "call ref" => ((with_reducible show wpAny _ _ (call (Value.ref 234) [Value.int _ _, Value.none]) _ _ _); k_dflt ((refine' PureC.use (number_size_c _ _ _ ?ha ?hb rfl) ?k1 ?k2 ?k3 ?k4 ?k5 ?kK ?kd ?ku ?_); (case k1 => k_asm); (case k2 => k_asm); (case k3 => k_asm); (case k4 => k_asm); (case k5 => k_asm); (case kK => first | exact rfl | assumption); (case kd => ktr_room); (case ku => ktr_units); (case ha => first | assumption | omega); (case hb => first | assumption | omega); intro v9 h9 tk9 F9 N9 P9; apply eq_elim P9; clear P9; intro t9; (try dsimp only); (try k_fold))))
  trivial
def cut_number_g_B (w : World) (k : Int) (t : Tok) : Prop := (0 ≤ k) → (k < 64) → RW = RW → PureG w 8 241 [.int k t, .none] (BytesOf 1)
theorem cut_number_g : ∀ w k t, cut_number_g_B w k t := by
  refine ubx ?_
  simp (disch := k_dflt (
    refine tyP ?_
    refine' (?g9 : ∀ q : (∀ w k t, cut_number_g_B w k t), Keep q → (∀ w k t, cut_number_g_B w k t)) _ ?w9
    case g9 => exact fun q _ => q
    case w9 =>
      refine' kp9 ?h9 fun k9 => ?j9
      case h9 =>
        (repeat walk_at "CL9")
        rename_i w k t
        unfold cut_number_g_B
        intro h0 h1 _
        refine PureG_of _ _ _ _ _ ?_
        (repeat walk_at "CL9")
        rename_i  vk
        unfold KV.to PureG9
        w_on
        w_top on
        intro B F X N T hk hd hu hret
        have hc1 : 0 ≤ k.fmod (1 * 2 ^ (8 * 1 : Int).toNat) := Int.fmod_nonneg_of_pos _ (by decide)
        have hc2 : k.fmod (1 * 2 ^ (8 * 1 : Int).toNat) < 2 ^ 8 := Int.fmod_lt_of_pos _ (by decide)
        refine wpG_call ?_
        (k_dflt (refine' codeG_def ?k1 ?k2 ?k3 ?k4 ?k5 ?kA ?kF ?kK ?k6 ?k7 ?k8 ?k9 ?kB ?_ ?c2 ?c3 ?c4 ?c5; (case kA => exact rfl); (case kF => exact rfl); (case kK => first | assumption | exact rfl); (case k1 => k_asm); (case k2 => k_asm); (case k3 => k_asm); (case k4 => k_asm); (case k5 => k_asm); (case k6 => k_is); (case k7 => k_is); (case k8 => ktr_room); (case k9 => exact BindsTo.of_eq rfl); (case c5 => decide); (case kB => exact locs (Eq.refl true)); (case c2 => exact rfl); (case c3 => exact rfl); (case c4 => exact rfl); k_whole; intro g' L' h' tk' FG' F' N' B' X' T' l1; (try dsimp only)))
        w_strict (k_steps; exact hret _ _ _ (by k_asm) (by k_asm) ⟨_,_,_,rfl,(by assumption),(by assumption)⟩)
      case j9 => revert k9; (try delta id ap_mk hd_in hd_out); intro k9; (try conv at k9 => zeta); exact k9)) only [↓bxT]
end
section
set_option Elab.async false
set_option maxRecDepth 100000
set_option maxHeartbeats 800000
theorem S8_rows0 : True := by
  k_with_none
  trivial
theorem S8_rows1 : True := by
  trivial
section
theorem S8_rows2 : True := by
  (k_with "size_fits" => ((simp only [Array.size_append, List.length_map, Array.length_toList, List.size_toArray, PySem.sizeLine_eq] at *); omega))
  (k_with "k_room" => (ktr_room))
  (k_with "call type:bytes" => (k_here; (with_reducible show wpAny _ _ (call (Value.type "bytes") [Value.int _ _]) _ _ _); k_dflt ((refine bytes_int (n := 2) (by omega) (by decide) ?_); intro b9 t9 k9 ks9 hb9 hl9; (try dsimp only))))
  trivial
def padded_c_B (w : World) (pb : Array UInt8) (t1 t2 : Tok) (x : Int) (pp : List Int) (n k : Nat) : Prop := (KBw.bInts pb = pp) → (pp.length = n) → (x = 1) → (n = 1 ∧ k = 3 ∨ n = 5 ∧ k = 5) → RW = RW → PureC w 4 302 [.bytes pb t1, .int x t2] (BytesOf k)
theorem padded_c : ∀ w pb t1 t2 x pp n k, padded_c_B w pb t1 t2 x pp n k := by
  refine ubx ?_
  simp (disch := k_dflt (
    refine tyP ?_
    refine' (?g9 : ∀ q : (∀ w pb t1 t2 x pp n k, padded_c_B w pb t1 t2 x pp n k), Keep q → (∀ w pb t1 t2 x pp n k, padded_c_B w pb t1 t2 x pp n k)) _ ?w9
    case g9 => exact fun q _ => q
    case w9 =>
      refine' kp9 ?h9 fun k9 => ?j9
      case h9 =>
        (repeat walk_at "CL9")
        rename_i w pb t1 t2 x pp n k
        unfold padded_c_B
        intro e4 l4 hx hn _
        refine PureC_of _ _ _ _ _ ?_
        (repeat walk_at "CL9")
        rename_i  vk
        unfold KV.to PureC9
        w_on
        w_top on
        intro B F X N T hk hd hu hret
        refine wpAny_call ?_
        k_dflt cell_enter
        w_strict (k_steps; (all_goals first | exact hret _ _ _ (by k_asm) (by k_asm) ⟨_,_,_,rfl,(by assumption),by ((try rw [List.length_append]); omega)⟩))
      case j9 => revert k9; (try delta id ap_mk hd_in hd_out); intro k9; (try conv at k9 => zeta); exact k9)) only [↓bxT]
theorem S8_rows3 : True := by
  (k_with "call type:bytes" => (k_here; (with_reducible show wpAny _ _ (call (Value.type "bytes") [Value.ref _]) _ _ _); k_dflt ((refine' KBa.make_K ?kbaF ?kbaN ?kbah ?kbal ?kbai ?kbar ?kban ?_; (case kbaF => k_asm); (case kbaN => k_asm); (case kbah => rfl); (case kbal => is_list); (case kbai => exact IntsAre.cons _ _ IntsAre.nil); (case kbar => (intro n hn; rw [List.mem_singleton.mp hn]; omega)); (case kban => (show 1 ≤ 16777216; omega))); intro _ _ _ Fw' Nw' kbaIn; have q9 := KBa.ints_make kbaIn; (try dsimp only))))
  trivial
def short_head_c_B (w : World) (dc : Array UInt8) (t0 t1 t2 t3 : Tok) (x : Int) (dd : List Int) : Prop := (KBw.bInts dc = dd) → (dd.length = 4) → (x = 1) → RW = RW → PureC w 4 316 [.int 0 t0, .int 0 t1, .bytes dc t2, .int x t3] (BytesOf 5)
theorem short_head_c : ∀ w dc t0 t1 t2 t3 x dd, short_head_c_B w dc t0 t1 t2 t3 x dd := by
  refine ubx ?_
  simp (disch := k_dflt (
    refine tyP ?_
    refine' (?g9 : ∀ q : (∀ w dc t0 t1 t2 t3 x dd, short_head_c_B w dc t0 t1 t2 t3 x dd), Keep q → (∀ w dc t0 t1 t2 t3 x dd, short_head_c_B w dc t0 t1 t2 t3 x dd)) _ ?w9
    case g9 => exact fun q _ => q
    case w9 =>
      refine' kp9 ?h9 fun k9 => ?j9
      case h9 =>
        (repeat walk_at "CL9")
        rename_i w dc t0 t1 t2 t3 x dd
        unfold short_head_c_B
        intro e2 l2 hx _
        refine PureC_of _ _ _ _ _ ?_
        (repeat walk_at "CL9")
        rename_i  vk
        unfold KV.to PureC9
        w_on
        w_top on
        intro B F X N T hk hd hu hret
        refine wpAny_call ?_
        k_dflt cell_enter
        w_strict (k_steps; (all_goals exact hret _ _ _ (by k_asm) (nd1 (by assumption)) ⟨_,_,_,rfl,(by assumption),by (simp only [List.length_append, List.length_cons, List.length_nil]; omega)⟩))
      case j9 => revert k9; (try delta id ap_mk hd_in hd_out); intro k9; (try conv at k9 => zeta); exact k9)) only [↓bxT]
end
end
section
set_option Elab.async false
set_option maxRecDepth 100000
set_option maxHeartbeats 800000
theorem S9_rows0 : True := by
  k_with_none
  trivial
theorem S9_rows1 : True := by
  trivial
section
theorem S9_rows2 : True := by
  (k_with "size_fits" => ((simp only [Array.size_append, List.length_map, Array.length_toList, List.size_toArray, PySem.sizeLine_eq] at *); omega))
  (k_with "wpG" => (first
      | (with_reducible refine g_execs_nil ?_)
      | (with_reducible refine g_execs_cons ?_)
      | ((with_reducible refine g_leafS ?k1 ?_); (case k1 => k_dflt (exact rfl)); (try k_fold))
      | ((with_reducible refine g_leafE ?k1 ?_); (case k1 => k_dflt (exact rfl)); (try k_fold))
      | (with_reducible refine g_Return ?_)
      | ((with_reducible refine g_Assign ?_ ?k1); (case k1 => k_dflt (exact rfl)))
      | (with_reducible refine g_If ?_)
      | (with_reducible refine g_CallName ?_)
      | (with_reducible refine g_BinOp ?_)
      | (with_reducible refine g_Subscript ?_)
      | (with_reducible refine g_spliced_backTo_nil ?_)
      | ((refine g_spliced_backTo ?_ ?k1); (case k1 => k_dflt (exact rfl)))
      | ((refine' g_callWith_K ?k1 ?k2 ?_ ?k3 ?k4); (case k1 => k_asm); (case k2 => k_is); (case k3 => k_dflt (exact rfl)); (case k4 => k_dflt (exact rfl)); k_whole)
      | ((refine' g_callWith_type ?_ ?k3 ?k4); (case k3 => k_dflt (exact rfl)); (case k4 => k_dflt (exact rfl)))))
  (k_with "exec Raise some none" => (exfalso; contradiction))
  (k_with "True" => (skip))
  (k_with "And" => (refine ⟨True.intro, ?_⟩; (try dsimp only [List.nil_append, List.cons_append])))
  (k_with "k_room" => (ktr_room))
  (k_with "k_intsEnd" => (exact IntsAre.nil))
  (k_with "k_room" => (ktr_room))
  (k_with "wpG" => ((with_reducible show wpG _ _ (call (Value.ref 241) [Value.int _ _, Value.none]) _ _ _); k_dflt ((refine' PureG.use (cut_number_g _ _ _ ?ha ?hb rfl) ?k1 ?k2 ?k3 ?k4 ?k5 ?kK ?kd ?ku ?_); (case k1 => k_asm); (case k2 => k_asm); (case k3 => k_asm); (case k4 => k_asm); (case k5 => k_asm); (case kK => first | exact rfl | assumption); (case kd => ktr_room); (case ku => ktr_units); (case ha => omega); (case hb => omega); intro v9 h9 tk9 F9 N9 P9; apply bytes_elim P9; clear P9; intro b9 t9 ks9 hb9 hl9; have hs9 := size_of hb9 hl9; (try dsimp only); (try k_fold))))
  (k_with "call ref" => ((with_reducible show wpAny _ _ (call (Value.ref 302) [Value.bytes _ _, Value.int _ _]) _ _ _); k_dflt ((refine' PureC.use (padded_c _ _ _ _ _ _ _ _ ?h1 ?h2 ?h3 ?h4 rfl) ?k1 ?k2 ?k3 ?k4 ?k5 ?kK ?kd ?ku ?_); (case k1 => k_asm); (case k2 => k_asm); (case k3 => k_asm); (case k4 => k_asm); (case k5 => k_asm); (case kK => first | exact rfl | assumption); (case kd => ktr_room); (case ku => ktr_units); (case h1 => assumption); (case h2 => assumption); (case h4 => assumption); (case h3 => omega); intro v9 h9 tk9 F9 N9 P9; apply bytes_elim P9; clear P9; intro b9 t9 ks9 hb9 hl9; have hs9 := size_of hb9 hl9; (try dsimp only); (try k_fold))))
  (k_with "call ref" => ((with_reducible show wpAny _ _ (call (Value.ref 316) [Value.int _ _, Value.int _ _, Value.bytes _ _, Value.int _ _]) _ _ _); k_dflt ((refine' PureC.use (short_head_c _ _ _ _ _ _ _ _ ?h1 ?h2 ?h3 rfl) ?k1 ?k2 ?k3 ?k4 ?k5 ?kK ?kd ?ku ?_); (case k1 => k_asm); (case k2 => k_asm); (case k3 => k_asm); (case k4 => k_asm); (case k5 => k_asm); (case kK => first | exact rfl | assumption); (case kd => ktr_room); (case ku => ktr_units); (case h1 => assumption); (case h2 => assumption); (case h3 => omega); intro v9 h9 tk9 F9 N9 P9; apply bytes_elim P9; clear P9; intro b9 t9 ks9 hb9 hl9; have hs9 := size_of hb9 hl9; (try dsimp only); (try k_fold))))
  (k_with "wpG" => ((with_reducible show wpG _ _ (call (Value.ref 309) [Value.bytes _ _, Value.int _ _, Value.bytes _ _, Value.bytes _ _, Value.bytes _ _]) _ _ _); k_dflt ((refine' PureG.use (protected_g _ _ _ _ _ _ _ _ _ _ _ _ _ _ _ _ ?h1 ?h2 ?h3 ?h4 ?h5 ?h6 ?h7 ?h8 ?h9 ?h10 ?h11 ?h12 rfl) ?k1 ?k2 ?k3 ?k4 ?k5 ?kK ?kd ?ku ?_); (case k1 => k_asm); (case k2 => k_asm); (case k3 => k_asm); (case k4 => k_asm); (case k5 => k_asm); (case kK => first | exact rfl | assumption); (case kd => ktr_room); (case ku => ktr_units); (case h1 => assumption); (case h2 => kba_ints2); (case h3 => assumption); (case h4 => assumption); (case h5 => assumption); (case h6 => ((try simp only [List.length_append, List.length_map, List.length_cons, List.length_nil]); omega)); (case h7 => assumption); (case h8 => assumption); (case h9 => omega); (case h10 => omega); (case h11 => omega); (case h12 => omega); intro v9 h9 tk9 F9 N9 P9; skip; (try dsimp only); (try k_fold))))
  trivial
def put_packet_g_B (w : World) (key dc pb : Array UInt8) (pk : Addr) (tk t0 t1 t2 t3 t4 t5 : Tok) (x : Int) (kk dd pp : List Int) (n k : Nat) : Prop := (KBw.bInts key = kk) → (KBw.bInts dc = dd) → (KBw.bInts pb = pp) → (kk.length = 1) → (dd.length = 4) → (pp.length = n) → (n = 1 ∧ k = 3 ∨ n = 5 ∧ k = 5) → (0 ≤ x) → (x < 64) → RW = RW → PureN w 24 337 [(pk, { cls := .type "tuple", data := .seq #[.str (Str.ofString "short") t0, .int 0 t1, .int 0 t2, .bytes dc t3, .int x t4, .bytes pb t5] })] [.ref pk, .none, .bytes key tk] (SomeBytes)
theorem put_packet_g : ∀ w key dc pb pk tk t0 t1 t2 t3 t4 t5 x kk dd pp n k, put_packet_g_B w key dc pb pk tk t0 t1 t2 t3 t4 t5 x kk dd pp n k := by
  refine ubx ?_
  simp (disch := k_dflt (
    refine tyP ?_
    refine' (?g9 : ∀ q : (∀ w key dc pb pk tk t0 t1 t2 t3 t4 t5 x kk dd pp n k, put_packet_g_B w key dc pb pk tk t0 t1 t2 t3 t4 t5 x kk dd pp n k), Keep q → (∀ w key dc pb pk tk t0 t1 t2 t3 t4 t5 x kk dd pp n k, put_packet_g_B w key dc pb pk tk t0 t1 t2 t3 t4 t5 x kk dd pp n k)) _ ?w9
    case g9 => exact fun q _ => q
    case w9 =>
      refine' kp9 ?h9 fun k9 => ?j9
      case h9 =>
        (repeat walk_at "CL9")
        rename_i w key dc pb pk tk t0 t1 t2 t3 t4 t5 x kk dd pp n k
        unfold put_packet_g_B
        intro e1 e2 e4 l1 l2 l4 hn x0 x1 _
        refine PureN_of _ _ _ _ _ _ ?_
        (repeat walk_at "CL9")
        rename_i  vk
        unfold KV.to PureN9
        w_on
        w_top on
        intro B F X N T hk hd hu hneed hret
        have s1 := size_of e1 l1
        have s2 := size_of e2 l2
        have s4 := size_of e4 l4
        have hm := hneed _ List.mem_cons_self
        refine wpG_call ?_
        (k_dflt (refine' codeG_def ?k1 ?k2 ?k3 ?k4 ?k5 ?kA ?kF ?kK ?k6 ?k7 ?k8 ?k9 ?kB ?_ ?c2 ?c3 ?c4 ?c5; (case kA => exact rfl); (case kF => exact rfl); (case kK => first | assumption | exact rfl); (case k1 => k_asm); (case k2 => k_asm); (case k3 => k_asm); (case k4 => k_asm); (case k5 => k_asm); (case k6 => k_is); (case k7 => k_is); (case k8 => ktr_room); (case k9 => exact BindsTo.of_eq rfl); (case c5 => decide); (case kB => exact locs (Eq.refl true)); (case c2 => exact rfl); (case c3 => exact rfl); (case c4 => exact rfl); k_whole; intro g' L' h' tk' FG' F' N' B' X' T' l1; (try dsimp only)))
        w_strict (k_steps; exact hret _ _ _ (by k_asm) (by k_asm) (by assumption))
      case j9 => revert k9; (try delta id ap_mk hd_in hd_out); intro k9; (try conv at k9 => zeta); exact k9)) only [↓bxT]
end
end
section
set_option Elab.async false
set_option maxRecDepth 100000
set_option maxHeartbeats 4000000
theorem M3_rows0 : True := by
  k_with_none
  trivial
theorem M3_rows1 : True := by
  trivial
variable {a : Addr} {news : List (Addr × Obj)} {g : Obj → List (Addr × Obj)}
theorem ap_lt2 : ∀ {X : List (Addr × Obj)}, AllLt a X → ∀ p ∈ X, @Ne Nat p.1 a
  | [], _, _, h => nomatch h
  | _ :: _, k, p, h => by
    rcases List.mem_cons.mp h with rfl | h
    · exact Nat.ne_of_lt k.1
    · exact ap_lt2 k.2 p h
theorem ap_lt3 {b : Addr} {X : List (Addr × Obj)} (h : AllLt a X) (l : @LT.lt Nat _ a b) : ∀ p ∈ X, @Ne Nat p.1 b := fun p hp => by
  induction X with
  | nil => cases hp
  | cons y r ih =>
    rcases List.mem_cons.mp hp with rfl | hp
    · exact Nat.ne_of_lt (Nat.lt_trans h.1 l)
    · exact ih h.2 hp
def KeptE (sz : Int) (el : Bool) (es : List DictEntry) : Prop := getL (Str.ofString "in_flight") es = some (some (.bool el)) ∧ getL (Str.ofString "is_eliciting") es = some (some (.bool el)) ∧ ∃ t, getL (Str.ofString "size") es = some (some (.int sz t))
theorem updF_upd {d : Addr} {o : Obj} (U : UpdF d o news g) (o' : Obj) : Upd d o o' news (g o') := by
  induction U with
  | head h => exact .head h
  | tail h _ ih => exact .tail h ih
theorem set_let {A : Around} {E : Value → Shared → Prop} {s : Shared} {h₀ : Heap} {L pl pd sd : Addr} {m : Str → Option Value} {es : List DictEntry} {nn : Int} {x : Value} (w : World) {Q : Unit → Shared → Prop} : RW = RW → Fr h₀ L s.heap m → (hd.heap_1 w.params).In h₀ → News h₀ L s.heap news →
    (pl, instObj 654 pd) ∈ news → (pd, dictOf es 17) ∈ news → SpaceE w nn sd es → UpdF pd (dictOf es 17) news g →
    (∀ h' es', SpaceE w nn sd es' → Fr h₀ L h' m → News h₀ L h' (g (dictOf es' 17)) → Q () { s with heap := h', toks := s.toks + 2 }) →
    wpAny (model PR w) A (setAttr (.ref pl) (Str.ofString "last_eliciting_time") x) Q E s := by
  k_fill
  intro _ F X N h1 h2 hS U h
  obtain ⟨j, v, rfl⟩ := hS
  k_dflt (refine' set_dict F X N (InstAt.of_news N h1 h2) rfl ?k6 ?k7 ?k8 ?k9 ?k10 ?k11 (updF_upd U _) ?k13 ?_; (case k6 => k_is); (case k7 => k_is); (case k8 => k_is); (case k9 => k_is); (case k10 => k_get); (case k11 => k_put); (case k13 => exact Nat.le_of_ble_eq_true rfl))
  exact fun h' F' N' => h h' _ ⟨j, fun i => cond (Nat.beq i 5) x (v i), rfl⟩ F' N'

theorem M3_rows2 : True := by
  (k_with "k_room" => (ktr_room))
  (k_with "k_units" => (ktr_units))
  (k_with "compareOp NotIn str ref" => (k_here; (with_reducible show wpAny _ _ (compareOp _ (Value.str _ _) (Value.ref _)) _ _ _); k_dflt (first | (refine k_notIn_str (by k_in) (by k_is) (by exact rfl) ?_) | (refine k_notIn_strs (by k_asm) (by k_mem) (by exact rfl) ?_))))
  (k_with "compareOp NotEq ref ref" => (k_here; (with_reducible show wpAny _ _ (compareOp _ (Value.ref _) (Value.ref _)) _ _ _); k_dflt (first | (refine ne_cons_nil (by k_asm) (by k_mem) (by k_mem) (by ktr_units) ?_) | (refine ne_nil_nil (by k_asm) (by k_mem) (by k_mem) (by ktr_units) ?_)); (try dsimp only)))
  (k_with "ke_room" => (ktr_units))
  (k_with "k_ne" => (first | (refine neN ?_; (try dsimp only); first | assumption | exact Ne.symm (by assumption)) | (refine neN ?_; (try dsimp only); omega)))
  (k_with "CompRestT" => ((with_unfolding_all first
      | (refine LCt.CompRestT.succ ?_; intro vw' Iw' oIw' Cw' oCw' Dw' mw' hw' tkw' Ew' hvw' hCw' hxw' Fw' Nw' offw' new'; (first | lcg_open hvw' | (obtain ⟨t9', hv9'⟩ := hvw'; subst hv9')); (k_dflt ((refine off_all offw' ?_); (repeat ((with_reducible show OffK _ _ _ (_ :: _) _); intro _ _ _)); (first | (with_reducible refine offk_nil ?_) | (with_reducible refine offk_tail (by (repeat (first | exact offw' | refine off_tl ?_))) ?_; intro _)); (try clear offw'))); (try (refine and3 new' ?_; intro _ _ _; clear new')); (repeat (rename (_ ∧ _) => hh9; obtain ⟨hh8, hh7⟩ := hh9)))
      | refine LCt.CompRestT.zero ?_)))
  (k_with "setItem ref int" => (k_here; (with_reducible show wpAny _ _ (setItem (Value.ref _) (Value.int _ _) (Value.ref _)) _ _ _); k_dflt (refine kda_set (knd := PySem.intKind _ _) (by k_asm) (by k_asm) (by k_updF) (by assumption) (intKind_is _ _ _ _) (by rw [PySem.sizeLine_eq]; omega) ?_); intro hw' ow' Fw' Nw' hdw'; (try dsimp only at Nw')))
  (k_with "call ref" => (first | ((try dsimp only [List.cons_append, List.nil_append]); (with_reducible show wpAny _ _ (call (Value.ref 469) [Value.ref _]) _ _ _); k_dflt ((refine' PureM.use (by assumption : PureM _ 12 469 _ _ _) ?k1 ?k2 ?k3 ?k4 ?k5 ?kK ?kd ?ku ?kn ?_); (case k1 => k_asm); (case k2 => k_asm); (case k3 => k_asm); (case k4 => k_asm); (case k5 => k_asm); (case kK => first | exact rfl | assumption); (case kd => ktr_room); (case ku => ktr_units); (case kn => (repeat (first | exact sub_self | refine sub_tail ?_))); intro v9 h9 tk9 F9 N9 P9; subst P9; (try dsimp only); (try k_fold))) | (fail "x")))
  (k_with "call ref" => (first | ((try dsimp only [List.cons_append, List.nil_append]); (with_reducible show wpAny _ _ (call (Value.ref 474) [Value.ref _]) _ _ _); k_dflt ((refine' PureM.use (by assumption : PureM _ 12 474 _ _ _) ?k1 ?k2 ?k3 ?k4 ?k5 ?kK ?kd ?ku ?kn ?_); (case k1 => k_asm); (case k2 => k_asm); (case k3 => k_asm); (case k4 => k_asm); (case k5 => k_asm); (case kK => first | exact rfl | assumption); (case kd => ktr_room); (case ku => ktr_units); (case kn => (repeat (first | exact sub_self | refine sub_tail ?_))); intro v9 h9 tk9 F9 N9 P9; subst P9; (try dsimp only); (try k_fold))) | (fail "x")))
  (k_with "k_all" => (first | exact List.forall_mem_nil _ | (refine' List.forall_mem_cons.mpr ⟨?a, ?b⟩; (case a => k_ne); (case b => k_all)) | exact ap_lt2 (by assumption) | assumption))
  (k_with "getAttr ref" => (k_here; k_dflt (refine get_own (by k_asm) (by k_asm) (by k_inst) (by k_is) (by k_is) (by k_is) (by k_is) (by with_reducible assumption) (by k_handed) ?_)))
  (k_with "setAttr ref" => (first | ((with_reducible show wpAny _ _ (setAttr (Value.ref _) (Str.ofString "last_eliciting_time") _) _ _ _); k_dflt (refine set_let _ rfl (by k_asm) (by k_asm) (by k_asm) (by k_mem) (by k_mem) (by assumption) (by k_updF) ?_; intro h9 es9 hS9 F9 N9; (try dsimp only at N9); (try dsimp only))) | (fail "x")))
  trivial
def on_sent_g_B (w : World) (pl pd sd row : Addr) (es : List DictEntry) (nn0 : Int) (FR : List (Addr × Obj)) (osd : Obj) (kvs : List (Int × Value)) (now sz num : Int) (tnum tnow tsz : Tok) (el : Bool) (l1 l : List (Addr × Obj)) (v : KV) : Prop := RW = RW → (SpaceE w nn0 sd es) → (osd.IsDictOf (PySem.intKind PR w) kvs) → (kvs.length ≤ 1000) → (PureM w 12 469 FR [.ref row] (fun v => v = .bool el)) → (PureM w 12 474 FR [.ref row] (fun v => v = .bool el)) → (∀ q ∈ FR, @Ne Nat q.1 pd) → (∀ q ∈ FR, @Ne Nat q.1 sd) → (@Ne Nat pd sd) → (@Ne Nat pl pd) → (@Ne Nat pl sd) → v.to fun p loose mean mg mb dp un gd cn cs a ccd cl outer A₀ base h₀ L m news s Q E => Below A₀ base outer h₀ → Fr h₀ L s.heap m → (hd.heap_1 w.params).In h₀ → News h₀ L s.heap news → Top p loose mean mg mb h₀ → cs.kind = .function →
    dp + 16 < recursionLimit → un + 8 * 16 < cLine → (∀ q ∈ (pd, dictOf es 17) :: (sd, osd) :: (pl, instObj 654 pd) :: FR, q ∈ news) → Without pd news l1 → Without sd l1 l →
    (∀ (px pxd : Addr) (esx es' : List DictEntry) (osd' : Obj) h' tk', Fr h₀ L h' m → News h₀ L h' ((px, instObj 511 pxd) :: (pxd, dictOf esx 6) :: (pd, dictOf es' 17) :: (sd, osd') :: l) → (∀ p ∈ news, @Ne Nat p.1 px) → (∀ p ∈ news, @Ne Nat p.1 pxd) → @Ne Nat px pxd → KeptE sz el esx → SpaceE w nn0 sd es' → osd'.IsDictOf (PySem.intKind PR w) (stored kvs num (.ref px)) → Q (.ref px) { s with heap := h', toks := tk' }) →
    wpAny (model PR w) (ktrTop dp un gd cn cs L a ccd cl outer) (call (.ref 578) [.ref pl, .int num tnum, .int now tnow, .int sz tsz, .ref row]) Q E s
def on_sent_g_S : Prop := ∀ w pl pd sd row es nn0 FR osd kvs now sz num tnum tnow tsz el l1 l v, on_sent_g_B w pl pd sd row es nn0 FR osd kvs now sz num tnum tnow tsz el l1 l v
theorem on_sent_g_0 : on_sent_g_S := by
  refine ubx ?_
  simp (disch := k_dflt (
    refine tyP ?_
    refine' (?g9 : ∀ q : on_sent_g_S, Keep q → on_sent_g_S) _ ?w9
    case g9 => exact fun q _ => q
    case w9 =>
      refine' kp9 ?h9 fun k9 => ?j9
      case h9 =>
        unfold on_sent_g_S
        (repeat walk_at "CL9")
        rename_i w pl pd sd row es nn0 FR osd kvs now sz num tnum tnow tsz el l1 l vk
        unfold on_sent_g_B KV.to
        k_fill
        intro _ hS hosd hkl hE hF hfp hfs e1 e2 e3
        w_on
        w_top on
        intro B F X N T hk hd hu hneed W1 W2 hret
        have hsent := hS.sent
        refine wpAny_call ?_
        k_dflt (refine' code_defF ?k1 ?k2 ?k3 (need_news hneed N) (restOf_news N) restOf_dis ?k5 ?kA ?kF ?kK ?k6 ?k7 ?k8 ?k9 ?kB ?_ ?c2 ?c3 ?c4 ?c5; (case kA => exact rfl); (case kF => exact rfl); (case kK => first | assumption | exact rfl); (case k1 => k_asm); (case k2 => k_asm); (case k3 => k_asm); (case k5 => k_asm); (case k6 => k_is); (case k7 => k_is); (case k8 => ktr_room); (case k9 => first | exact BindsTo.of_eq rfl | exact binds_K (by k_in) rfl (by k_is) rfl rfl rfl); (case c5 => decide); (case kB => exact locs (Eq.refl true)); (case c2 => exact rfl); (case c3 => exact rfl); (case c4 => exact rfl); k_whole; intro g' L' h' tk' FG' F' N' B' X' T' l9 lr; (have hlr9 := fun p hp => (lr p hp).2); (clear lr); (try dsimp only); (try k_lt l9); (try k_fold))
        w_strict (k_steps; (all_goals ((rename News _ _ _ (restOf _ _) => Nr9); (rename News _ _ _ (_ :: _) => Nk9); exact hret _ _ _ _ _ _ _ (by k_asm) (news_four Nk9 (by k_mem) (by k_mem) (by k_mem) (by k_mem) (back_two N hneed W1 W2 (news_sub Nk9 (by (repeat (first | exact sub_self | exact sub_left | exact sub_nil | (refine sub_cons (by k_mem) ?_) | refine sub_tail ?_)))) Nr9)) (back_neM (o := instObj 511 _) (by assumption : News _ _ _ (_ :: _)) (by k_mem) hlr9 (by (repeat (first | exact ne_all_nil | exact ap_lt2 (by assumption) | exact ap_lt3 (by assumption) (by assumption) | (refine ne_all_cons (by k_ne) ?_))))) (back_neM (o := dictOf _ 6) (by assumption : News _ _ _ (_ :: _)) (by k_mem) hlr9 (by (repeat (first | exact ne_all_nil | exact ap_lt2 (by assumption) | exact ap_lt3 (by assumption) (by assumption) | (refine ne_all_cons (by k_ne) ?_))))) (by k_ne) ⟨by k_get, by k_get, _, by k_get⟩ (by assumption) (by assumption))))
      case j9 => revert k9; (try delta id ap_mk hd_in hd_out); intro k9; (try conv at k9 => zeta); exact k9)) only [↓bxT]
theorem on_sent_g (w : World) (pl pd sd row : Addr) (es : List DictEntry) (nn0 : Int) (FR : List (Addr × Obj)) (osd : Obj) (kvs : List (Int × Value)) (now sz num : Int) (tnum tnow tsz : Tok) (el : Bool) (hS : SpaceE w nn0 sd es) (hosd : osd.IsDictOf (PySem.intKind PR w) kvs) (hkl : kvs.length ≤ 1000) (hE : PureM w 12 469 FR [.ref row] (fun v => v = .bool el)) (hF : PureM w 12 474 FR [.ref row] (fun v => v = .bool el)) (hfp : ∀ q ∈ FR, @Ne Nat q.1 pd) (hfs : ∀ q ∈ FR, @Ne Nat q.1 sd) (e1 : @Ne Nat pd sd) (e2 : @Ne Nat pl pd) (e3 : @Ne Nat pl sd) : RW = RW → ∀ (p : Program) (loose : List Str) (mean : ExcName → Option Value) (mg mb : Str → Option Value)
    (dp un : Nat) (gd : Option (List Code)) (cn : Str) (cs : Scope) (a : Addr) (ccd : Value) (cl : List (Str × Addr)) (outer : List Env) (A₀ : Around) (base h₀ : Heap) (L : Addr) (m : Str → Option Value) (news : List (Addr × Obj)) (s : Shared) (Q E : Value → Shared → Prop) (l1 l : List (Addr × Obj)),
    Below A₀ base outer h₀ → Fr h₀ L s.heap m → (hd.heap_1 w.params).In h₀ → News h₀ L s.heap news → Top p loose mean mg mb h₀ → cs.kind = .function →
    dp + 16 < recursionLimit → un + 8 * 16 < cLine → (∀ q ∈ (pd, dictOf es 17) :: (sd, osd) :: (pl, instObj 654 pd) :: FR, q ∈ news) → Without pd news l1 → Without sd l1 l →
    (∀ (px pxd : Addr) (esx es' : List DictEntry) (osd' : Obj) h' tk', Fr h₀ L h' m → News h₀ L h' ((px, instObj 511 pxd) :: (pxd, dictOf esx 6) :: (pd, dictOf es' 17) :: (sd, osd') :: l) → (∀ p ∈ news, @Ne Nat p.1 px) → (∀ p ∈ news, @Ne Nat p.1 pxd) → @Ne Nat px pxd → KeptE sz el esx → SpaceE w nn0 sd es' → osd'.IsDictOf (PySem.intKind PR w) (stored kvs num (.ref px)) → Q (.ref px) { s with heap := h', toks := tk' }) →
    wpAny (model PR w) (ktrTop dp un gd cn cs L a ccd cl outer) (call (.ref 578) [.ref pl, .int num tnum, .int now tnow, .int sz tsz, .ref row]) Q E s := by
  intro r9 p loose mean mg mb dp un gd cn cs a ccd cl outer A₀ base h₀ L m news s Q E l1 l
  exact on_sent_g_0 w pl pd sd row es nn0 FR osd kvs now sz num tnum tnow tsz el l1 l ⟨p, loose, mean, mg, mb, dp, un, gd, cn, cs, a, ccd, cl, outer, A₀, base, h₀, L, m, news, s, Q, E⟩ r9 hS hosd hkl hE hF hfp hfs e1 e2 e3
end
section
set_option Elab.async false
set_option maxRecDepth 100000
set_option maxHeartbeats 4000000
theorem M4_rows0 : True := by
  k_with_none
  trivial
theorem M4_rows1 : True := by
  (k_with "size_fits" => ((simp only [Array.size_append, List.length_map, Array.length_toList, List.size_toArray, PySem.sizeLine_eq] at *); omega))
  (k_with "wpG" => (first
      | (with_reducible refine g_execs_nil ?_)
      | (with_reducible refine g_execs_cons ?_)
      | ((with_reducible refine g_leafS ?k1 ?_); (case k1 => k_dflt (exact rfl)); (try k_fold))
      | ((with_reducible refine g_leafE ?k1 ?_); (case k1 => k_dflt (exact rfl)); (try k_fold))
      | (with_reducible refine g_Return ?_)
      | ((with_reducible refine g_Assign ?_ ?k1); (case k1 => k_dflt (exact rfl)))
      | (with_reducible refine g_If ?_)
      | (with_reducible refine g_CallName ?_)
      | (with_reducible refine g_BinOp ?_)
      | (with_reducible refine g_Subscript ?_)
      | (with_reducible refine g_spliced_backTo_nil ?_)
      | ((refine g_spliced_backTo ?_ ?k1); (case k1 => k_dflt (exact rfl)))
      | ((refine' g_callWith_K ?k1 ?k2 ?_ ?k3 ?k4); (case k1 => k_asm); (case k2 => k_is); (case k3 => k_dflt (exact rfl)); (case k4 => k_dflt (exact rfl)); k_whole)
      | ((refine' g_callWith_type ?_ ?k3 ?k4); (case k3 => k_dflt (exact rfl)); (case k4 => k_dflt (exact rfl)))))
  (k_with "exec Raise some none" => (exfalso; contradiction))
  (k_with "True" => (skip))
  (k_with "And" => (refine ⟨True.intro, ?_⟩; (try dsimp only [List.nil_append, List.cons_append])))
  (k_with "k_room" => (ktr_room))
  (k_with "k_intsEnd" => (exact IntsAre.nil))
  (k_with "k_units" => (ktr_units))
  (k_with "k_ne" => (refine neN ?_; (try dsimp only); first | assumption | exact Ne.symm (by assumption)))
  trivial
variable {w : World} {p : Program} {loose : List Str} {mean : ExcName → Option Value} {mg mb : Str → Option Value} {dp un : Nat} {gd : Option (List Code)} {cn : Str} {cs : Scope} {a : Addr} {ccd : Value} {cl : List (Str × Addr)} {outer : List Env} {A₀ : Around} {base h₀ : Heap} {L : Addr} {m : Str → Option Value} {news : List (Addr × Obj)} {s : Shared} {Q E : Value → Shared → Prop} {n : Nat} {kvs : List (Int × Value)} {nn : Int} {b : Bool} {ys : List Value} {prog : Program} {A : Around} {c : Nat} {value slice : PySem.Expr} {u : Tok}
theorem UpdM.useN {d : Nat} {f x : Addr} {o : Obj} {need : List (Addr × Obj)} {vs : List Value} {P : Value → Obj → Prop} 
    {g : Obj → List (Addr × Obj)}
    (C : UpdM w d f x o need vs P) (B : Below A₀ base outer h₀) (F : Fr h₀ L s.heap m) (X : (hd.heap_1 w.params).In h₀) (N : News h₀ L s.heap news) (T : Top p loose mean mg mb h₀) (hk : cs.kind = .function)
    (h1 : dp + d < recursionLimit) (h2 : un + 8 * d < cLine) (hn : ∀ q ∈ need, q ∈ news ∧ q.1 ≠ x) (U : UpdF x o news g)
    (ret : ∀ v o' h' tk', Fr h₀ L h' m → News h₀ L h' (g o') → P v o' → Q v { s with heap := h', toks := tk' }) :
    wpAny (model PR w) (ktrTop dp un gd cn cs L a ccd cl outer) (call (.ref f) vs) Q E s := C.use B F X N T hk h1 h2 U hn ret
theorem put_packet_use 
    {key dc pbb : Array UInt8} {pk : Addr} {tk t0 t1 t2 t3 t4 t5 : Tok} {x : Int} {kk dd pp : List Int} {k : Nat} (B : Below A₀ base outer h₀) (F : Fr h₀ L s.heap m) (X : (hd.heap_1 w.params).In h₀) (N : News h₀ L s.heap news) (T : Top p loose mean mg mb h₀) (hk : cs.kind = .function)
    (h1 : dp + 24 < recursionLimit) (h2 : un + 8 * 24 < cLine) (hm : (pk, ({ cls := .type "tuple", data := .seq #[.str (Str.ofString "short") t0, .int 0 t1, .int 0 t2, .bytes dc t3, .int x t4, .bytes pbb t5] } : Obj)) ∈ news)
    (e1 : KBw.bInts key = kk) (e2 : KBw.bInts dc = dd) (e4 : KBw.bInts pbb = pp) (l1 : kk.length = 1) (l2 : dd.length = 4) (l4 : pp.length = n) (hn : n = 1 ∧ k = 3 ∨ n = 5 ∧ k = 5) (x0 : 0 ≤ x) (x1 : x < 64)
    (ret : ∀ v h' tk', Fr h₀ L h' m → News h₀ L h' news → SomeBytes v → Q v { s with heap := h', toks := tk' }) : wpG (model PR w) (ktrTop dp un gd cn cs L a ccd cl outer) (call (.ref 337) [.ref pk, .none, .bytes key tk]) Q E s :=
  PureN.use (put_packet_g w key dc pbb pk tk t0 t1 t2 t3 t4 t5 x kk dd pp n k e1 e2 e4 l1 l2 l4 hn x0 x1 rfl) B F X N T hk h1 h2 (need_cons hm need_nil) ret
theorem len_snoc {v : Value} (hst : stored kvs nn = fun v => kvs ++ [(nn, v)]) (h : kvs.length ≤ 7) : (stored kvs nn v).length ≤ 8 := by
  rw [hst]
  show (kvs ++ [(nn, v)]).length ≤ 8
  rw [List.length_append, List.length_singleton]
  omega
theorem sent_snoc {g : Heap} {l : List (Addr × Obj)} {px pxd : Addr} {es : List DictEntry} (x : SentN g [] kvs) (hst : stored kvs nn = fun v => kvs ++ [(nn, v)]) (h1 : (px, instObj 511 pxd) ∈ l) (h2 : (pxd, dictOf es n) ∈ l) (hb : getL (Str.ofString "in_flight") es = some (some (.bool b))) : SentN g l (stored kvs nn (.ref px)) := by
  rw [hst]
  intro k v hk
  rcases List.mem_append.mp hk with hk | hk
  · obtain ⟨px, pxd, es, n, b, rfl, b1, b2, hb⟩ := x k v hk
    exact ⟨px, pxd, es, n, b, rfl, .inr (b1.elim (fun q => nomatch q) id), .inr (b2.elim (fun q => nomatch q) id), hb⟩
  · have e := List.mem_singleton.mp hk
    cases e
    exact ⟨px, pxd, es, n, b, rfl, .inl h1, .inl h2, hb⟩
theorem pick_upto8 (h : ys.length ≤ 8) : slicePick ys.toArray none (some (-8)) none = List.toArray [] := by
  have e : sliceBounds none (some (-8)) none ys.toArray.size = (((0 : Nat) : Int), ((0 : Nat) : Int), 1) := by
    simp only [sliceBounds, Option.getD_none, show (1 : Int) > 0 by decide, if_true, if_pos (show (-8 : Int) < 0 by decide)]
    congr 1
    congr 1
    rw [List.size_toArray]
    omega
  rw [kmk_pick_nat _ e]
  rfl
theorem k_upto8 {l : Addr} (F : Fr h₀ L s.heap m) (N : News h₀ L s.heap news) (hm : (l, listOf (List.toArray ys) c) ∈ news) (hz : ys.length ≤ 8)
    (h : ∀ D h', Fr h₀ L h' m → News h₀ L h' ((D, listOf (List.toArray []) 0) :: news) → (∀ p ∈ news, p.1 < D) → Q (.ref D) { s with heap := h' })
    (hs : subscripted slice false (.ref l) (.ref s.heap.objs.size) = operate [.ref s.heap.objs.size, .ref l] (getItem (.ref l) (.ref s.heap.objs.size)) := by with_unfolding_all rfl) (ht : ∀ r, letTemporaryGo value (.ref l) r = pure () := by intro _; with_unfolding_all rfl) :
    wpAny (model prog w) A (subscriptTail value slice (.ref l) (.ref s.heap.objs.size)) Q E { s with heap := s.heap.push { cls := .type "slice", data := .fields #[.none, .int (-8) u, .none] } } := by
  refine kmk_slice F N (list_of_news N hm) (lo := none) (hi := some (-8)) .none (.int (-8) u) (fun D h' F' N' l1 => h D h' F' ?_ l1) hs ht (by rw [List.size_toArray, sizeLine_eq]; omega)
  rw [pick_upto8 hz] at N'
  exact N'
theorem ne_of_lts {l : List (Addr × Obj)} {D : Addr} (h : ∀ p ∈ l, p.1 < D) : ∀ p ∈ l, @Ne Nat p.1 D := fun p hp => Nat.ne_of_lt (h p hp)
theorem sent_ground {g : Heap} {rest : List (Addr × Obj)} (x : SentN h₀ rest kvs) (hg : ∀ p ∈ rest, g.get? p.1 = some p.2) (FG : Fr h₀ L g m) : SentN g [] kvs := fun k v hk => by
  obtain ⟨px, pxd, es, n, b, rfl, b1, b2, hb⟩ := x k v hk
  exact ⟨px, pxd, es, n, b, rfl, .inr (b1.elim (fun q => hg _ q) (FG.keep _ _)), .inr (b2.elim (fun q => hg _ q) (FG.keep _ _)), hb⟩
theorem sent_any {g : Heap} {l : List (Addr × Obj)} (x : SentN g [] kvs) : SentN g l kvs := fun k v hk => by
  obtain ⟨px, pxd, es, n, b, rfl, b1, b2, hb⟩ := x k v hk
  exact ⟨px, pxd, es, n, b, rfl, .inr (b1.elim (fun q => nomatch q) id), .inr (b2.elim (fun q => nomatch q) id), hb⟩
theorem sub_tr {FR FX : List (Addr × Obj)} (h : ∀ q ∈ FR, q ∈ FX) (g : ∀ q ∈ FX, q ∈ news) : ∀ q ∈ FR, q ∈ news := fun q hq => g q (h q hq)
theorem without_all {x : Addr} : ∀ {l : List (Addr × Obj)}, (∀ q ∈ l, @Ne Nat q.1 x) → Without x l l
  | [], _ => .nil
  | _ :: _, h => .keep (h _ List.mem_cons_self) (without_all fun q hq => h q (List.mem_cons_of_mem _ hq))
theorem bare_e (w : World) (pl pd sd : Addr) (nn : Int) (es : List DictEntry) (hS : SpaceE w nn sd es) (osd : Obj) (kvs : List (Int × Value)) (hosd : osd.IsDictOf (PySem.intKind PR w) kvs) (hlo : (sd == sysModules) = false) (hkl : kvs.length ≤ 8) : ∀ (p : Program) (loose : List Str) (mean : ExcName → Option Value) (mg mb : Str → Option Value)
    (dp un : Nat) (gd : Option (List Code)) (cn : Str) (cs : Scope) (a : Addr) (ccd : Value) (cl : List (Str × Addr)) (outer : List Env) (A₀ : Around) (base h₀ : Heap) (L : Addr) (m : Str → Option Value) (news : List (Addr × Obj)) (s : Shared) (Q E : Value → Shared → Prop),
    Below A₀ base outer h₀ → Fr h₀ L s.heap m → (hd.heap_1 w.params).In h₀ → News h₀ L s.heap news → Top p loose mean mg mb h₀ → cs.kind = .function →
    dp + 12 < recursionLimit → un + 8 * 12 < cLine → (∀ q ∈ [(pd, dictOf es 17), (sd, osd), (pl, instObj 654 pd)], q ∈ news) → SentN h₀ news kvs →
    (∀ r ys c h' tk', Fr h₀ L h' m → News h₀ L h' ((r, listOf (List.toArray ys) c) :: news) → (∀ p ∈ news, @Ne Nat p.1 r) → ys.length ≤ kvs.length → Q (.ref r) { s with heap := h', toks := tk' }) →
    wpAny (model PR w) (ktrTop dp un gd cn cs L a ccd cl outer) (call (.ref 630) [.ref pl]) Q E s := by
  obtain ⟨j, v, rfl⟩ := hS
  exact bare_c w pl pd sd (j 0) (j 1) (j 2) (j 3) (j 4) (j 5) (j 6) (j 7) (j 8) (j 9) (j 10) (j 11) (j 12) (j 13) (j 14) (j 15) (j 16) (j 17) (v 0) (v 4) (v 5) (v 6) (v 7) (v 8) (v 9) (v 10) (v 11) (v 12) (v 13) (v 14) (v 15) (v 16) nn osd kvs hosd hlo hkl rfl
theorem k_list0 {l x : Addr} (N : News h₀ L s.heap news) (hm : (l, listOf #[.ref x] c) ∈ news) (h : Q (.ref x) s)
    (hs : subscripted slice false (.ref l) (.int 0 u) = operate [.ref l, .int 0 u] (getItem (.ref l) (.int 0 u)) := by with_unfolding_all rfl) (hg : ∀ r, letTemporaryGo value (.ref l) r = pure () := by intro _; with_unfolding_all rfl) : wpAny (model prog w) A (subscriptTail value slice (.ref l) (.int 0 u)) Q E s :=
  item_list (list_of_news N (vs := [.ref x]) hm) (by decide) (by decide) rfl h hs hg
theorem k_kind {el : Bool} {t : Tok} (he : el = b) (h : Q (.bool (!b)) s) : wpAny (model prog w) A (compareOp .Eq (.str (kindOf9 el) t) (.str (Str.ofString "ack") u)) Q E s := by
  subst he
  cases el
  · exact eq_str h
  · exact eq_str h
theorem M4_rows2 : True := by
  (k_with "k_mem" => ((repeat ((fail_if_success (with_reducible apply mem_hd)); with_reducible apply mem_tl)); (first | with_reducible apply mem_hd | with_reducible assumption)))
  (k_with "k_all" => (first | exact List.forall_mem_nil _ | (refine' List.forall_mem_cons.mpr ⟨?a, ?b⟩; (case a => k_ne); (case b => k_all)) | assumption))
  (k_with "call ref" => (first | ((try dsimp only [List.cons_append, List.nil_append]); (with_reducible show wpAny _ _ (call (Value.ref 571) [Value.ref _]) _ _ _); k_dflt ((refine UpdM.useN (take_number_e _ _ _ _ _ _ (by assumption)) (by k_asm) (by k_asm) (by k_asm) (by k_asm) (by k_asm) (by first | exact rfl | assumption) (by ktr_room) (by ktr_units) (by (repeat (first | exact need2_nil | (refine need2_cons (by k_mem) (by k_ne) ?_)))) (by k_updF) ?_); intro v9 o9 h9 tk9 F9 N9 P9; obtain ⟨es9, ta9, hv9, ho9, hS9⟩ := P9; subst hv9; subst ho9; have la9 := SpaceE.acked hS9; have sn9 := SpaceE.sent hS9; (try dsimp only); (try dsimp only at N9); (try k_fold))) | (fail "x")))
  (k_with "call ref" => (first | ((try dsimp only [List.cons_append, List.nil_append]); (with_reducible show wpAny _ _ (call (Value.ref 557) [Value.ref _]) _ _ _); k_dflt ((refine UpdM.useN (ack_sent_e _ _ _ _ _ _ (by assumption)) (by k_asm) (by k_asm) (by k_asm) (by k_asm) (by k_asm) (by first | exact rfl | assumption) (by ktr_room) (by ktr_units) (by (repeat (first | exact need2_nil | (refine need2_cons (by k_mem) (by k_ne) ?_)))) (by k_updF) ?_); intro v9 o9 h9 tk9 F9 N9 P9; obtain ⟨es9, ho9, hS9⟩ := P9; subst ho9; have la9 := SpaceE.acked hS9; have sn9 := SpaceE.sent hS9; (try dsimp only); (try dsimp only at N9); (try k_fold))) | (fail "x")))
  (k_with "call ref" => (first | ((try dsimp only [List.cons_append, List.nil_append]); (with_reducible show wpAny _ _ (call (Value.ref 400) [Value.ref _, Value.int _ _]) _ _ _); k_dflt ((refine UpdM.useN (ctl_sent_e _ _ _ _ _ (by assumption) _ _) (by k_asm) (by k_asm) (by k_asm) (by k_asm) (by k_asm) (by first | exact rfl | assumption) (by ktr_room) (by ktr_units) (by (repeat (first | exact need2_nil | (refine need2_cons (by k_mem) (by k_ne) ?_)))) (by k_updF) ?_); intro v9 o9 h9 tk9 F9 N9 P9; obtain ⟨ecd9, ho9, hR9⟩ := P9; subst ho9; (try dsimp only); (try dsimp only at N9); (try k_fold))) | (fail "x")))
  (k_with "call ref" => (first | ((try dsimp only [List.cons_append, List.nil_append]); (with_reducible show wpAny _ _ (call (Value.ref 61) [Value.ref _, Value.int _ _, Value.bool _]) _ _ _); k_dflt ((refine UpdM.useN (on_sent_c _ _ _ _ _ _ _ _ _ _ _ _ _ _ _ _ _ rfl) (by k_asm) (by k_asm) (by k_asm) (by k_asm) (by k_asm) (by first | exact rfl | assumption) (by ktr_room) (by ktr_units) (by (repeat (first | exact need2_nil | (refine need2_cons (by k_mem) (by k_ne) ?_)))) (by k_updF) ?_); (first | (with_reducible (refine eps_lt ?_; intro xc8; refine (?_ : ∀ y : Cl _, Ap _ y) xc8; clear xc8; intro v9; refine ap_mk ?_)) | intro v9); (first | (with_reducible (refine eps_lt ?_; intro xc8; refine (?_ : ∀ y : Cl _, Ap _ y) xc8; clear xc8; intro o9; refine ap_mk ?_)) | intro o9); (first | (with_reducible (refine eps_lt ?_; intro xc8; refine (?_ : ∀ y : Cl _, Ap _ y) xc8; clear xc8; intro h9; refine ap_mk ?_)) | intro h9); (first | (with_reducible (refine eps_lt ?_; intro xc8; refine (?_ : ∀ y : Cl _, Ap _ y) xc8; clear xc8; intro tk9; refine ap_mk ?_)) | intro tk9); intro F9 N9 P9; revert N9; apply eq_elim P9; clear P9; (first | (with_reducible (refine eps_lt ?_; intro xc8; refine (?_ : ∀ y : Cl _, Ap _ y) xc8; clear xc8; intro ts9; refine ap_mk ?_)) | intro ts9); intro N9; (try dsimp only); (try dsimp only at N9); (try k_fold))) | (fail "x")))
  (k_with "call ref" => (first | ((try dsimp only [List.cons_append, List.nil_append]); (with_reducible show wpAny _ _ (call (Value.ref 344) [Value.ref _]) _ _ _); k_dflt ((refine NewM.use (ids_c _ _ _ _ _ _ _ _ _ _ _ _ _ _ _ _ _ _ (by assumption) (by assumption) (by assumption) (by assumption) (by assumption) rfl) (by k_asm) (by k_asm) (by k_asm) (by k_asm) (by k_asm) (by first | exact rfl | assumption) (by ktr_room) (by ktr_units) (by (repeat (first | exact need_nil | (refine need_cons (by k_mem) ?_)))) ?_); intro r9 o9 h9 tk9 F9 N9 ne9 P9; revert N9; apply eq_elim P9; clear P9; intro t9 N9; (k_dflt ((refine ne_all ne9 ?_); (repeat ((with_reducible show NeK _ (_ :: _) _); intro _)); (first | (with_reducible refine nek_nil ?_) | (with_reducible refine nek_tail (fun p hp => ne9 p (by (repeat (first | exact hp | refine List.mem_cons_of_mem _ ?_)))) ?_; intro _)); (try clear ne9))); (repeat (rename (_ ∧ _) => hh9; obtain ⟨hh8, hh7⟩ := hh9)); (try dsimp only); (try dsimp only at N9); (try k_fold))) | (fail "x")))
  (k_with "wpG" => (first | ((try dsimp only [List.cons_append, List.nil_append]); (with_reducible show wpG _ _ (call (Value.ref 96) [Value.ref _, Value.str _ _, Value.int _ _, Value.bytes _ _]) _ _ _); k_dflt ((refine wpG_any (NewM.use (packet_with_c _ _ _ _ _ _ _ _ _ _ _ rfl) (by k_asm) (by k_asm) (by k_asm) (by k_asm) (by k_asm) (by first | exact rfl | assumption) (by ktr_room) (by ktr_units) (by (repeat (first | exact need_nil | (refine need_cons (by k_mem) ?_)))) ?_)); intro r9 o9 h9 tk9 F9 N9 ne9 P9; obtain ⟨t09, t19, t29, he9⟩ := P9; subst he9; (k_dflt ((refine ne_all ne9 ?_); (repeat ((with_reducible show NeK _ (_ :: _) _); intro _)); (first | (with_reducible refine nek_nil ?_) | (with_reducible refine nek_tail (fun p hp => ne9 p (by (repeat (first | exact hp | refine List.mem_cons_of_mem _ ?_)))) ?_; intro _)); (try clear ne9))); (repeat (rename (_ ∧ _) => hh9; obtain ⟨hh8, hh7⟩ := hh9)); (try dsimp only); (try dsimp only at N9); (try k_fold))) | (fail "x")))
  (k_with "wpG" => (first | ((try dsimp only [List.cons_append, List.nil_append]); (with_reducible show wpG _ _ (call (Value.ref 205) [Value.ref _]) _ _ _); k_dflt ((refine PureN.use (by assumption : PureN _ 24 205 _ _ _) (by k_asm) (by k_asm) (by k_asm) (by k_asm) (by k_asm) (by first | exact rfl | assumption) (by ktr_room) (by ktr_units) (sub_tr (by assumption) (by (repeat (first | exact sub_self | refine sub_tail ?_)))) ?_); intro v9 h9 tk9 F9 N9 P9; apply bytes_elim P9; clear P9; intro b9 t9 ks9 hb9 hl9; have hs9 := size_of hb9 hl9; (try dsimp only); (try dsimp only at N9); (try k_fold))) | (fail "x")))
  (k_with "wpG" => (first | ((try dsimp only [List.cons_append, List.nil_append]); (with_reducible show wpG _ _ (call (Value.ref 337) [Value.ref _, Value.none, Value.bytes _ _]) _ _ _); k_dflt ((refine put_packet_use (by k_asm) (by k_asm) (by k_asm) (by k_asm) (by k_asm) (by first | exact rfl | assumption) (by ktr_room) (by ktr_units) (by k_mem) (by kba_ints2) (by kba_ints2) (by assumption) rfl rfl (by assumption) (by assumption) (by omega) (by omega) ?_); intro v9 h9 tk9 F9 N9 P9; obtain ⟨k9, hk9, b9, t9, ks9, he9, hb9, hl9⟩ := P9; subst he9; have hs9 := size_of hb9 hl9; (try dsimp only); (try dsimp only at N9); (try k_fold))) | (fail "x")))
  (k_with "call ref" => (first | ((try dsimp only [List.cons_append, List.nil_append]); (with_reducible show wpAny _ _ (call (Value.ref 578) [Value.ref _, Value.int _ _, Value.int _ _, Value.int _ _, Value.ref _]) _ _ _); k_dflt ((refine on_sent_g _ _ sealed_g_pd sealed_g_sd _ _ _ _ _ _ _ _ _ _ _ _ _ (by assumption) (by assumption) (by omega) (by assumption) (by assumption) (by assumption) (by assumption) (by k_ne) (by k_ne) (by k_ne) rfl _ _ _ _ _ _ _ _ _ _ _ _ _ _ _ _ _ _ _ _ _ _ _ _ _ (by k_asm) (by k_asm) (by k_asm) (by k_asm) (by k_asm) (by first | exact rfl | assumption) (by ktr_room) (by ktr_units) (need_cons (by k_mem) (need_cons (by k_mem) (need_cons (by k_mem) (sub_tr (by assumption) (by (repeat (first | exact sub_self | refine sub_tail ?_))))))) (by (repeat (first | exact Without.nil | exact without_all (by assumption) | (apply Without.skip) | (apply Without.keep (by k_ne))))) (by (repeat (first | exact Without.nil | exact without_all (by assumption) | (apply Without.skip) | (apply Without.keep (by k_ne))))) ?_); (first | (with_reducible (refine eps_lt ?_; intro xc8; refine (?_ : ∀ y : Cl _, Ap _ y) xc8; clear xc8; intro px9; refine ap_mk ?_)) | intro px9); (first | (with_reducible (refine eps_lt ?_; intro xc8; refine (?_ : ∀ y : Cl _, Ap _ y) xc8; clear xc8; intro pxd9; refine ap_mk ?_)) | intro pxd9); (first | (with_reducible (refine eps_lt ?_; intro xc8; refine (?_ : ∀ y : Cl _, Ap _ y) xc8; clear xc8; intro esx9; refine ap_mk ?_)) | intro esx9); (first | (with_reducible (refine eps_lt ?_; intro xc8; refine (?_ : ∀ y : Cl _, Ap _ y) xc8; clear xc8; intro es9; refine ap_mk ?_)) | intro es9); (first | (with_reducible (refine eps_lt ?_; intro xc8; refine (?_ : ∀ y : Cl _, Ap _ y) xc8; clear xc8; intro osd9; refine ap_mk ?_)) | intro osd9); (first | (with_reducible (refine eps_lt ?_; intro xc8; refine (?_ : ∀ y : Cl _, Ap _ y) xc8; clear xc8; intro h9; refine ap_mk ?_)) | intro h9); (first | (with_reducible (refine eps_lt ?_; intro xc8; refine (?_ : ∀ y : Cl _, Ap _ y) xc8; clear xc8; intro tk9; refine ap_mk ?_)) | intro tk9); intro F9 N9 ne9 ne8 ne7 kp9 hS9 hd9; obtain ⟨kf9, ke9, tz9, kz9⟩ := kp9; (k_dflt ((refine ne_all ne9 ?_); (repeat ((with_reducible show NeK _ (_ :: _) _); intro _)); (first | (with_reducible refine nek_nil ?_) | (with_reducible refine nek_tail (fun p hp => ne9 p (by (repeat (first | exact hp | refine List.mem_cons_of_mem _ ?_)))) ?_; intro _)); (try clear ne9))); (k_dflt ((refine ne_all ne8 ?_); (repeat ((with_reducible show NeK _ (_ :: _) _); intro _)); (first | (with_reducible refine nek_nil ?_) | (with_reducible refine nek_tail (fun p hp => ne8 p (by (repeat (first | exact hp | refine List.mem_cons_of_mem _ ?_)))) ?_; intro _)); (try clear ne8))); (repeat (rename (_ ∧ _) => hh9; obtain ⟨hh8, hh7⟩ := hh9)); have la9 := SpaceE.acked hS9; have sn9 := SpaceE.sent hS9; (try dsimp only); (try dsimp only at N9); (try k_fold))) | (fail "x")))
  (k_with "call ref" => (first | ((try dsimp only [List.cons_append, List.nil_append]); (with_reducible show wpAny _ _ (call (Value.ref 630) [Value.ref _]) _ _ _); k_dflt ((refine bare_e _ _ _ _ _ _ (by assumption) _ _ (by assumption) (by assumption) (len_snoc (by assumption) (by assumption)) _ _ _ _ _ _ _ _ _ _ _ _ _ _ _ _ _ _ _ _ _ _ _ (by k_asm) (by k_asm) (by k_asm) (by k_asm) (by k_asm) (by first | exact rfl | assumption) (by ktr_room) (by ktr_units) (by (repeat (first | exact need_nil | (refine need_cons (by k_mem) ?_)))) (sent_snoc (by assumption) (by assumption) (by k_mem) (by k_mem) (by assumption)) ?_); intro r9 ys9 c9 h9 tk9 F9 N9 ne9 hy9; (replace hy9 := Nat.le_trans hy9 (len_snoc (by assumption) (by assumption))); (k_dflt ((refine ne_all ne9 ?_); (repeat ((with_reducible show NeK _ (_ :: _) _); intro _)); (first | (with_reducible refine nek_nil ?_) | (with_reducible refine nek_tail (fun p hp => ne9 p (by (repeat (first | exact hp | refine List.mem_cons_of_mem _ ?_)))) ?_; intro _)); (try clear ne9))); (repeat (rename (_ ∧ _) => hh9; obtain ⟨hh8, hh7⟩ := hh9)); (try dsimp only); (try dsimp only at N9); (try k_fold))) | (fail "x")))
  (k_with "subscriptTail" => (first | (k_here; (with_reducible show wpAny _ _ (subscriptTail _ _ (Value.ref sealed_g_row) (Value.int 0 _)) _ _ _); k_dflt (refine k_list0 (x := sealed_g_f) (by k_asm) (by k_mem) ?_)) | (fail "x")))
  (k_with "subscriptTail Name Slice ref ref" => (k_here; (with_reducible show wpAny _ _ (subscriptTail _ _ (Value.ref _) (Value.ref _)) _ _ _); k_dflt ((with_unfolding_all refine k_upto8 (s := ⟨_, _, _, _, _⟩) (by k_asm) (by k_asm) (by k_mem) (by assumption) ?_); intro B9 h9 F9 N9 ne9; (replace ne9 := ne_of_lts ne9); (k_dflt ((refine ne_all ne9 ?_); (repeat ((with_reducible show NeK _ (_ :: _) _); intro _)); (first | (with_reducible refine nek_nil ?_) | (with_reducible refine nek_tail (fun p hp => ne9 p (by (repeat (first | exact hp | refine List.mem_cons_of_mem _ ?_)))) ?_; intro _)); (try clear ne9))); (repeat (rename (_ ∧ _) => hh9; obtain ⟨hh8, hh7⟩ := hh9)); (try dsimp only))))
  (k_with "call ref" => (first | ((try dsimp only [List.cons_append, List.nil_append]); (with_reducible show wpAny _ _ (call (Value.ref 583) [Value.ref _, Value.ref _]) _ _ _); k_dflt ((refine NewM.use (take_nil_c _ _ _ _ rfl) (by k_asm) (by k_asm) (by k_asm) (by k_asm) (by k_asm) (by first | exact rfl | assumption) (by ktr_room) (by ktr_units) (by (repeat (first | exact need_nil | (refine need_cons (by k_mem) ?_)))) ?_); intro r9 o9 h9 tk9 F9 N9 ne9 P9; (k_dflt ((refine ne_all ne9 ?_); (repeat ((with_reducible show NeK _ (_ :: _) _); intro _)); (first | (with_reducible refine nek_nil ?_) | (with_reducible refine nek_tail (fun p hp => ne9 p (by (repeat (first | exact hp | refine List.mem_cons_of_mem _ ?_)))) ?_; intro _)); (try clear ne9))); (repeat (rename (_ ∧ _) => hh9; obtain ⟨hh8, hh7⟩ := hh9)); (try dsimp only); (try dsimp only at N9); (try k_fold))) | (fail "x")))
  (k_with "getAttr ref" => (k_here; k_dflt (refine get_own (by k_asm) (by k_asm) (by k_inst) (by k_is) (by k_is) (by k_is) (by k_is) (by with_reducible assumption) (by k_handed) ?_)))
  (k_with "subscriptTail" => (first | (k_here; (with_reducible show wpAny _ _ (subscriptTail _ _ (Value.ref sealed_g_f) (Value.int 0 _)) _ _ _); k_dflt (refine k_tup0 (by k_asm) (by k_mem) ?_)) | (fail "x")))
  (k_with "compareOp Eq str str" => (first | (refine k_kind (by with_reducible assumption) ?_; (try dsimp only [Bool.not_true, Bool.not_false])) | (fail "x")))
  (k_with "subscriptTail" => (first | (k_here; (with_reducible show wpAny _ _ (subscriptTail _ _ (Value.ref _) (Value.str _ _)) _ _ _); k_dflt (refine kdt_tail (knd := PySem.strKind _ _) (by k_asm) (by k_mem) (by k_asm) ?_)) | (fail "x")))
  (k_with "getItem ref str" => (k_here; k_dflt (refine kdt_getItem (knd := PySem.strKind _ _) (by k_asm) (by k_mem) (by k_asm) (strKind_is _ _ _ _) (by rfl) ?_)))
  (k_with "setItem ref str" => (k_here; k_dflt (refine' kda_set (knd := PySem.strKind _ _) ?F ?N ?U ?d (strKind_is _ _ _ _) ?z ?_; (case F => k_asm); (case N => k_asm); (case U => k_updF); (case d => k_asm); (case z => rw [sizeLine_eq]; exact Nat.le_of_ble_eq_true (by with_unfolding_all rfl))); intro hw' ow' Fw' Nw' hdw'; (try dsimp only at Nw')))
  (k_with "getMethod ref" => (k_here; k_dflt (refine' method_inst ?k1 ?k2 ?k3 ?k4 ?k5 ?k6 ?k7 ?_; (case k1 => k_asm); (case k2 => k_asm); (case k3 => k_inst); (case k4 => k_is); (case k5 => k_is); (case k6 => k_is); (case k7 => first | exact SpaceE.m_take_number (by assumption) | exact SpaceE.m_on_sent (by assumption) | exact SpaceE.m_take (by assumption) | exact SpaceE.m_bare_numbers (by assumption) | exact SpaceE.m_on_ack_sent (by assumption) | exact RenoE.m_on_sent (by assumption) | k_get); k_whole)))
  trivial
def sealed_g_B (w : World) (co : Addr) (cd : Addr) (sp : Addr) (kp : Addr) (pb : Addr) (rm : Addr) (rd : Addr) (fl : Addr) (cc : Addr) (ct : Addr) (cdd : Addr) (pl : Addr) (pd : Addr) (sd : Addr) (row : Addr) (f : Addr) (ces : List DictEntry) (res : List DictEntry) (es : List DictEntry) (ecd : List DictEntry) (cen : Nat) (ren : Nat) (crow : Nat) (osp : Obj) (okp : Obj) (opb : Obj) (occ : Obj) (osd : Obj) (cvs : Array Value) (ql : Str) (pmv : Value) (ctv : Value) (tq : Tok) (tb : Tok) (tkey : Tok) (tpr : Tok) (tf : Tok) (pr : Int) (nn : Int) (fl9 : Int) (kvs : List (Int × Value)) (ia : Addr) (da : Addr) (k1 : Tok) (k2 : Tok) (k3 : Tok) (k4 : Tok) (t1 : Tok) (t2 : Tok) (ts : Tok) (own : Int) (peer : Int) (sv : Option Int) (FX : List (Addr × Obj)) (FR : List (Addr × Obj)) (fx : List Value) (n : Nat) (k : Nat) (now : Int) (tn : Tok) (tsp : Tok) (v : KV) : Prop := RW = RW → ∀ (asked : Bool), ∀ (el : Bool), (getL (Str.ofString "spaces") ces = some (some (.ref sp))) → (getL (Str.ofString "keys") ces = some (some (.ref kp))) → (getL (Str.ofString "probes") ces = some (some (.ref pb))) → (getL (Str.ofString "control") ces = some (some (.ref ct))) → (getL (Str.ofString "own_cid") ces = some (some (.bytes #[111, 119, 110] tb))) → (getL (Str.ofString "remote") ces = some (some (.ref rm))) → (getL (Str.ofString "idle") ces = some (some (.ref ia))) → (getL (Str.ofString "present") res = some (some (.ref fl))) → (occ.data = .fields cvs) → (cvs[1]? = some (.str ql tq)) → (osp.IsDictOf (PySem.strKind PR w) [(Str.ofString "application", .ref pl)]) → (okp.IsDictOf (PySem.strKind PR w) [(Str.ofString "application", .bytes #[107] tkey)]) → (opb.IsDictOf (PySem.strKind PR w) [(Str.ofString "application", .int pr tpr)]) → (osd.IsDictOf (PySem.intKind PR w) kvs) → ((sd == sysModules) = false) → (kvs.length ≤ 7) → (0 ≤ nn) → (nn < 60) → (stored kvs nn = fun v => kvs ++ [(nn, v)]) → (SpaceE w nn sd es) → (RenoE w fl9 ecd) → ((co, instObj 654 cd) ∈ FX) → ((cd, dictOf ces cen) ∈ FX) → ((sp, osp) ∈ FX) → ((kp, okp) ∈ FX) → ((rm, instObj 654 rd) ∈ FX) → ((rd, dictOf res ren) ∈ FX) → ((fl, (kla_obj (Str.ofString "<lambda>") ql { posonlyargs := [], args := [], vararg := none, kwonlyargs := [], kw_defaults := [], kwarg := none, defaults := [] } (PySem.Expr.Constant (PySem.Const.bytes [112, 101, 101, 114]) 0 { line := 464, col := 29, endLine := 464, endCol := 36 }) { kind := .function, names := [], isGenerator := false, isCoroutine := false } [] pmv cc ctv)) ∈ FX) → ((cc, occ) ∈ FX) → ((ct, instObj 445 cdd) ∈ FX) → ((ia, instObj 85 da) ∈ FX) → ((pl, instObj 654 pd) ∈ FX) → ((row, listOf #[.ref f] crow) ∈ FX) → ((f, ({ cls := .type "tuple", data := .seq (.str (kindOf9 el) tf :: fx).toArray } : Obj)) ∈ FX) → (∀ q ∈ FR, q ∈ FX) → (∀ q ∈ FX, @Ne Nat q.1 pd) → (∀ q ∈ FX, @Ne Nat q.1 sd) → (∀ q ∈ FX, @Ne Nat q.1 cdd) → (∀ q ∈ FX, @Ne Nat q.1 da) → (∀ q ∈ FX, @Ne Nat q.1 pb) → (@Ne Nat pd sd) → (@Ne Nat pd cdd) → (@Ne Nat pd da) → (@Ne Nat pd pb) → (@Ne Nat sd cdd) → (@Ne Nat sd da) → (@Ne Nat sd pb) → (@Ne Nat cdd da) → (@Ne Nat cdd pb) → (@Ne Nat da pb) → (∀ q ∈ FR, @Ne Nat q.1 pd) → (∀ q ∈ FR, @Ne Nat q.1 sd) → (PureM w 12 469 FR [.ref row] (fun v => v = .bool el)) → (PureM w 12 474 FR [.ref row] (fun v => v = .bool el)) → (PureN w 24 205 FR [.ref row] (BytesOf n)) → (n = 1 ∧ k = 3 ∨ n = 5 ∧ k = 5) → v.to fun p loose mean mg mb dp un gd cn cs a ccd cl outer A₀ base h₀ L m news s Q E => Below A₀ base outer h₀ → Fr h₀ L s.heap m → (hd.heap_1 w.params).In h₀ → News h₀ L s.heap news → Top p loose mean mg mb h₀ → cs.kind = .function →
    dp + 40 < recursionLimit → un + 8 * 40 < cLine → (∀ q ∈ (pd, dictOf es 17) :: (sd, osd) :: (cdd, dictOf ecd 6) :: (da, dictOf [⟨PyData.keyHash w.params (Str.ofString "own"), .str (Str.ofString "own") k1, .int own t1⟩, ⟨PyData.keyHash w.params (Str.ofString "peer"), .str (Str.ofString "peer") k2, .int peer t2⟩, ⟨PyData.keyHash w.params (Str.ofString "since"), .str (Str.ofString "since") k3, optV sv ts⟩, ⟨PyData.keyHash w.params (Str.ofString "has_asked"), .str (Str.ofString "has_asked") k4, .bool asked⟩] 4) :: (pb, opb) :: FX, q ∈ news) → SentN h₀ (restOf ((pd, dictOf es 17) :: (sd, osd) :: (cdd, dictOf ecd 6) :: (da, dictOf [⟨PyData.keyHash w.params (Str.ofString "own"), .str (Str.ofString "own") k1, .int own t1⟩, ⟨PyData.keyHash w.params (Str.ofString "peer"), .str (Str.ofString "peer") k2, .int peer t2⟩, ⟨PyData.keyHash w.params (Str.ofString "since"), .str (Str.ofString "since") k3, optV sv ts⟩, ⟨PyData.keyHash w.params (Str.ofString "has_asked"), .str (Str.ofString "has_asked") k4, .bool asked⟩] 4) :: (pb, opb) :: FX) news) kvs →
    (∀ (v : Value) (px pxd : Addr) (esx es' ecd' : List DictEntry) (ts' tpr' : Tok) (pr' fl' : Int) (osd' opb' : Obj) h' tk', Fr h₀ L h' m →
      News h₀ L h' (((px, instObj 511 pxd) :: (pxd, dictOf esx 6) :: (pd, dictOf es' 17) :: (sd, osd') :: (cdd, dictOf ecd' 6) :: (da, dictOf [⟨PyData.keyHash w.params (Str.ofString "own"), .str (Str.ofString "own") k1, .int own t1⟩, ⟨PyData.keyHash w.params (Str.ofString "peer"), .str (Str.ofString "peer") k2, .int peer t2⟩, ⟨PyData.keyHash w.params (Str.ofString "since"), .str (Str.ofString "since") k3, optV (sentS el asked sv now) ts'⟩, ⟨PyData.keyHash w.params (Str.ofString "has_asked"), .str (Str.ofString "has_asked") k4, .bool (el || asked)⟩] 4) :: (pb, opb') :: FX) ++ restOf ((pd, dictOf es 17) :: (sd, osd) :: (cdd, dictOf ecd 6) :: (da, dictOf [⟨PyData.keyHash w.params (Str.ofString "own"), .str (Str.ofString "own") k1, .int own t1⟩, ⟨PyData.keyHash w.params (Str.ofString "peer"), .str (Str.ofString "peer") k2, .int peer t2⟩, ⟨PyData.keyHash w.params (Str.ofString "since"), .str (Str.ofString "since") k3, optV sv ts⟩, ⟨PyData.keyHash w.params (Str.ofString "has_asked"), .str (Str.ofString "has_asked") k4, .bool asked⟩] 4) :: (pb, opb) :: FX) news) →
      (∀ p ∈ news, @Ne Nat p.1 px) → (∀ p ∈ news, @Ne Nat p.1 pxd) → @Ne Nat px pxd → getL (Str.ofString "in_flight") esx = some (some (.bool el)) → SpaceE w (nn + 1) sd es' → RenoE w fl' ecd' → osd'.IsDictOf (PySem.intKind PR w) (kvs ++ [(nn, .ref px)]) → opb'.IsDictOf (PySem.strKind PR w) [(Str.ofString "application", .int pr' tpr')] → Q v { s with heap := h', toks := tk' }) →
    wpG (model PR w) (ktrTop dp un gd cn cs L a ccd cl outer) (call (.ref 351) [.ref co, .str (Str.ofString "application") tsp, .ref row, .int now tn]) Q E s
def sealed_g_P (e : World × Addr × Addr × Addr × Addr × Addr × Addr × Addr × Addr × Addr × Addr × Addr × Addr × Addr × Addr × Addr × Addr × (List DictEntry) × (List DictEntry) × (List DictEntry) × (List DictEntry) × Nat × Nat × Nat × Obj × Obj × Obj × Obj × Obj × (Array Value) × Str × Value × Value × Tok × Tok × Tok × Tok × Tok × Int × Int × Int × (List (Int × Value)) × Addr × Addr × Tok × Tok × Tok × Tok × Tok × Tok × Tok × Int × Int × (Option Int) × (List (Addr × Obj)) × (List (Addr × Obj)) × (List Value) × Nat × Nat × Int × Tok × Tok × KV) : Prop := sealed_g_B e.1 e.2.1 e.2.2.1 e.2.2.2.1 e.2.2.2.2.1 e.2.2.2.2.2.1 e.2.2.2.2.2.2.1 e.2.2.2.2.2.2.2.1 e.2.2.2.2.2.2.2.2.1 e.2.2.2.2.2.2.2.2.2.1 e.2.2.2.2.2.2.2.2.2.2.1 e.2.2.2.2.2.2.2.2.2.2.2.1 e.2.2.2.2.2.2.2.2.2.2.2.2.1 e.2.2.2.2.2.2.2.2.2.2.2.2.2.1 e.2.2.2.2.2.2.2.2.2.2.2.2.2.2.1 e.2.2.2.2.2.2.2.2.2.2.2.2.2.2.2.1 e.2.2.2.2.2.2.2.2.2.2.2.2.2.2.2.2.1 e.2.2.2.2.2.2.2.2.2.2.2.2.2.2.2.2.2.1 e.2.2.2.2.2.2.2.2.2.2.2.2.2.2.2.2.2.2.1 e.2.2.2.2.2.2.2.2.2.2.2.2.2.2.2.2.2.2.2.1 e.2.2.2.2.2.2.2.2.2.2.2.2.2.2.2.2.2.2.2.2.1 e.2.2.2.2.2.2.2.2.2.2.2.2.2.2.2.2.2.2.2.2.2.1 e.2.2.2.2.2.2.2.2.2.2.2.2.2.2.2.2.2.2.2.2.2.2.1 e.2.2.2.2.2.2.2.2.2.2.2.2.2.2.2.2.2.2.2.2.2.2.2.1 e.2.2.2.2.2.2.2.2.2.2.2.2.2.2.2.2.2.2.2.2.2.2.2.2.1 e.2.2.2.2.2.2.2.2.2.2.2.2.2.2.2.2.2.2.2.2.2.2.2.2.2.1 e.2.2.2.2.2.2.2.2.2.2.2.2.2.2.2.2.2.2.2.2.2.2.2.2.2.2.1 e.2.2.2.2.2.2.2.2.2.2.2.2.2.2.2.2.2.2.2.2.2.2.2.2.2.2.2.1 e.2.2.2.2.2.2.2.2.2.2.2.2.2.2.2.2.2.2.2.2.2.2.2.2.2.2.2.2.1 e.2.2.2.2.2.2.2.2.2.2.2.2.2.2.2.2.2.2.2.2.2.2.2.2.2.2.2.2.2.1 e.2.2.2.2.2.2.2.2.2.2.2.2.2.2.2.2.2.2.2.2.2.2.2.2.2.2.2.2.2.2.1 e.2.2.2.2.2.2.2.2.2.2.2.2.2.2.2.2.2.2.2.2.2.2.2.2.2.2.2.2.2.2.2.1 e.2.2.2.2.2.2.2.2.2.2.2.2.2.2.2.2.2.2.2.2.2.2.2.2.2.2.2.2.2.2.2.2.1 e.2.2.2.2.2.2.2.2.2.2.2.2.2.2.2.2.2.2.2.2.2.2.2.2.2.2.2.2.2.2.2.2.2.1 e.2.2.2.2.2.2.2.2.2.2.2.2.2.2.2.2.2.2.2.2.2.2.2.2.2.2.2.2.2.2.2.2.2.2.1 e.2.2.2.2.2.2.2.2.2.2.2.2.2.2.2.2.2.2.2.2.2.2.2.2.2.2.2.2.2.2.2.2.2.2.2.1 e.2.2.2.2.2.2.2.2.2.2.2.2.2.2.2.2.2.2.2.2.2.2.2.2.2.2.2.2.2.2.2.2.2.2.2.2.1 e.2.2.2.2.2.2.2.2.2.2.2.2.2.2.2.2.2.2.2.2.2.2.2.2.2.2.2.2.2.2.2.2.2.2.2.2.2.1 e.2.2.2.2.2.2.2.2.2.2.2.2.2.2.2.2.2.2.2.2.2.2.2.2.2.2.2.2.2.2.2.2.2.2.2.2.2.2.1 e.2.2.2.2.2.2.2.2.2.2.2.2.2.2.2.2.2.2.2.2.2.2.2.2.2.2.2.2.2.2.2.2.2.2.2.2.2.2.2.1 e.2.2.2.2.2.2.2.2.2.2.2.2.2.2.2.2.2.2.2.2.2.2.2.2.2.2.2.2.2.2.2.2.2.2.2.2.2.2.2.2.1 e.2.2.2.2.2.2.2.2.2.2.2.2.2.2.2.2.2.2.2.2.2.2.2.2.2.2.2.2.2.2.2.2.2.2.2.2.2.2.2.2.2.1 e.2.2.2.2.2.2.2.2.2.2.2.2.2.2.2.2.2.2.2.2.2.2.2.2.2.2.2.2.2.2.2.2.2.2.2.2.2.2.2.2.2.2.1 e.2.2.2.2.2.2.2.2.2.2.2.2.2.2.2.2.2.2.2.2.2.2.2.2.2.2.2.2.2.2.2.2.2.2.2.2.2.2.2.2.2.2.2.1 e.2.2.2.2.2.2.2.2.2.2.2.2.2.2.2.2.2.2.2.2.2.2.2.2.2.2.2.2.2.2.2.2.2.2.2.2.2.2.2.2.2.2.2.2.1 e.2.2.2.2.2.2.2.2.2.2.2.2.2.2.2.2.2.2.2.2.2.2.2.2.2.2.2.2.2.2.2.2.2.2.2.2.2.2.2.2.2.2.2.2.2.1 e.2.2.2.2.2.2.2.2.2.2.2.2.2.2.2.2.2.2.2.2.2.2.2.2.2.2.2.2.2.2.2.2.2.2.2.2.2.2.2.2.2.2.2.2.2.2.1 e.2.2.2.2.2.2.2.2.2.2.2.2.2.2.2.2.2.2.2.2.2.2.2.2.2.2.2.2.2.2.2.2.2.2.2.2.2.2.2.2.2.2.2.2.2.2.2.1 e.2.2.2.2.2.2.2.2.2.2.2.2.2.2.2.2.2.2.2.2.2.2.2.2.2.2.2.2.2.2.2.2.2.2.2.2.2.2.2.2.2.2.2.2.2.2.2.2.1 e.2.2.2.2.2.2.2.2.2.2.2.2.2.2.2.2.2.2.2.2.2.2.2.2.2.2.2.2.2.2.2.2.2.2.2.2.2.2.2.2.2.2.2.2.2.2.2.2.2.1 e.2.2.2.2.2.2.2.2.2.2.2.2.2.2.2.2.2.2.2.2.2.2.2.2.2.2.2.2.2.2.2.2.2.2.2.2.2.2.2.2.2.2.2.2.2.2.2.2.2.2.1 e.2.2.2.2.2.2.2.2.2.2.2.2.2.2.2.2.2.2.2.2.2.2.2.2.2.2.2.2.2.2.2.2.2.2.2.2.2.2.2.2.2.2.2.2.2.2.2.2.2.2.2.1 e.2.2.2.2.2.2.2.2.2.2.2.2.2.2.2.2.2.2.2.2.2.2.2.2.2.2.2.2.2.2.2.2.2.2.2.2.2.2.2.2.2.2.2.2.2.2.2.2.2.2.2.2.1 e.2.2.2.2.2.2.2.2.2.2.2.2.2.2.2.2.2.2.2.2.2.2.2.2.2.2.2.2.2.2.2.2.2.2.2.2.2.2.2.2.2.2.2.2.2.2.2.2.2.2.2.2.2.1 e.2.2.2.2.2.2.2.2.2.2.2.2.2.2.2.2.2.2.2.2.2.2.2.2.2.2.2.2.2.2.2.2.2.2.2.2.2.2.2.2.2.2.2.2.2.2.2.2.2.2.2.2.2.2.1 e.2.2.2.2.2.2.2.2.2.2.2.2.2.2.2.2.2.2.2.2.2.2.2.2.2.2.2.2.2.2.2.2.2.2.2.2.2.2.2.2.2.2.2.2.2.2.2.2.2.2.2.2.2.2.2.1 e.2.2.2.2.2.2.2.2.2.2.2.2.2.2.2.2.2.2.2.2.2.2.2.2.2.2.2.2.2.2.2.2.2.2.2.2.2.2.2.2.2.2.2.2.2.2.2.2.2.2.2.2.2.2.2.2.1 e.2.2.2.2.2.2.2.2.2.2.2.2.2.2.2.2.2.2.2.2.2.2.2.2.2.2.2.2.2.2.2.2.2.2.2.2.2.2.2.2.2.2.2.2.2.2.2.2.2.2.2.2.2.2.2.2.2.1 e.2.2.2.2.2.2.2.2.2.2.2.2.2.2.2.2.2.2.2.2.2.2.2.2.2.2.2.2.2.2.2.2.2.2.2.2.2.2.2.2.2.2.2.2.2.2.2.2.2.2.2.2.2.2.2.2.2.2.1 e.2.2.2.2.2.2.2.2.2.2.2.2.2.2.2.2.2.2.2.2.2.2.2.2.2.2.2.2.2.2.2.2.2.2.2.2.2.2.2.2.2.2.2.2.2.2.2.2.2.2.2.2.2.2.2.2.2.2.2.1 e.2.2.2.2.2.2.2.2.2.2.2.2.2.2.2.2.2.2.2.2.2.2.2.2.2.2.2.2.2.2.2.2.2.2.2.2.2.2.2.2.2.2.2.2.2.2.2.2.2.2.2.2.2.2.2.2.2.2.2.2.1 e.2.2.2.2.2.2.2.2.2.2.2.2.2.2.2.2.2.2.2.2.2.2.2.2.2.2.2.2.2.2.2.2.2.2.2.2.2.2.2.2.2.2.2.2.2.2.2.2.2.2.2.2.2.2.2.2.2.2.2.2.2.1 e.2.2.2.2.2.2.2.2.2.2.2.2.2.2.2.2.2.2.2.2.2.2.2.2.2.2.2.2.2.2.2.2.2.2.2.2.2.2.2.2.2.2.2.2.2.2.2.2.2.2.2.2.2.2.2.2.2.2.2.2.2.2
@[irreducible] noncomputable def sealed_g_e : World × Addr × Addr × Addr × Addr × Addr × Addr × Addr × Addr × Addr × Addr × Addr × Addr × Addr × Addr × Addr × Addr × (List DictEntry) × (List DictEntry) × (List DictEntry) × (List DictEntry) × Nat × Nat × Nat × Obj × Obj × Obj × Obj × Obj × (Array Value) × Str × Value × Value × Tok × Tok × Tok × Tok × Tok × Int × Int × Int × (List (Int × Value)) × Addr × Addr × Tok × Tok × Tok × Tok × Tok × Tok × Tok × Int × Int × (Option Int) × (List (Addr × Obj)) × (List (Addr × Obj)) × (List Value) × Nat × Nat × Int × Tok × Tok × KV := epsOf (epsW, default, default, default, default, default, default, default, default, default, default, default, default, default, default, default, default, default, default, default, default, default, default, default, default, default, default, default, default, default, default, default, default, default, default, default, default, default, default, default, default, default, default, default, default, default, default, default, default, default, default, default, default, default, default, default, default, default, default, default, default, default, kv9) sealed_g_P
@[irreducible] noncomputable def sealed_g_w : World := sealed_g_e.1
@[irreducible] noncomputable def sealed_g_co : Addr := sealed_g_e.2.1
@[irreducible] noncomputable def sealed_g_cd : Addr := sealed_g_e.2.2.1
@[irreducible] noncomputable def sealed_g_sp : Addr := sealed_g_e.2.2.2.1
@[irreducible] noncomputable def sealed_g_kp : Addr := sealed_g_e.2.2.2.2.1
@[irreducible] noncomputable def sealed_g_pb : Addr := sealed_g_e.2.2.2.2.2.1
@[irreducible] noncomputable def sealed_g_rm : Addr := sealed_g_e.2.2.2.2.2.2.1
@[irreducible] noncomputable def sealed_g_rd : Addr := sealed_g_e.2.2.2.2.2.2.2.1
@[irreducible] noncomputable def sealed_g_fl : Addr := sealed_g_e.2.2.2.2.2.2.2.2.1
@[irreducible] noncomputable def sealed_g_cc : Addr := sealed_g_e.2.2.2.2.2.2.2.2.2.1
@[irreducible] noncomputable def sealed_g_ct : Addr := sealed_g_e.2.2.2.2.2.2.2.2.2.2.1
@[irreducible] noncomputable def sealed_g_cdd : Addr := sealed_g_e.2.2.2.2.2.2.2.2.2.2.2.1
@[irreducible] noncomputable def sealed_g_pl : Addr := sealed_g_e.2.2.2.2.2.2.2.2.2.2.2.2.1
@[irreducible] noncomputable def sealed_g_pd : Addr := sealed_g_e.2.2.2.2.2.2.2.2.2.2.2.2.2.1
@[irreducible] noncomputable def sealed_g_sd : Addr := sealed_g_e.2.2.2.2.2.2.2.2.2.2.2.2.2.2.1
@[irreducible] noncomputable def sealed_g_row : Addr := sealed_g_e.2.2.2.2.2.2.2.2.2.2.2.2.2.2.2.1
@[irreducible] noncomputable def sealed_g_f : Addr := sealed_g_e.2.2.2.2.2.2.2.2.2.2.2.2.2.2.2.2.1
@[irreducible] noncomputable def sealed_g_ces : List DictEntry := sealed_g_e.2.2.2.2.2.2.2.2.2.2.2.2.2.2.2.2.2.1
@[irreducible] noncomputable def sealed_g_res : List DictEntry := sealed_g_e.2.2.2.2.2.2.2.2.2.2.2.2.2.2.2.2.2.2.1
@[irreducible] noncomputable def sealed_g_es : List DictEntry := sealed_g_e.2.2.2.2.2.2.2.2.2.2.2.2.2.2.2.2.2.2.2.1
@[irreducible] noncomputable def sealed_g_ecd : List DictEntry := sealed_g_e.2.2.2.2.2.2.2.2.2.2.2.2.2.2.2.2.2.2.2.2.1
@[irreducible] noncomputable def sealed_g_cen : Nat := sealed_g_e.2.2.2.2.2.2.2.2.2.2.2.2.2.2.2.2.2.2.2.2.2.1
@[irreducible] noncomputable def sealed_g_ren : Nat := sealed_g_e.2.2.2.2.2.2.2.2.2.2.2.2.2.2.2.2.2.2.2.2.2.2.1
@[irreducible] noncomputable def sealed_g_crow : Nat := sealed_g_e.2.2.2.2.2.2.2.2.2.2.2.2.2.2.2.2.2.2.2.2.2.2.2.1
@[irreducible] noncomputable def sealed_g_osp : Obj := sealed_g_e.2.2.2.2.2.2.2.2.2.2.2.2.2.2.2.2.2.2.2.2.2.2.2.2.1
@[irreducible] noncomputable def sealed_g_okp : Obj := sealed_g_e.2.2.2.2.2.2.2.2.2.2.2.2.2.2.2.2.2.2.2.2.2.2.2.2.2.1
@[irreducible] noncomputable def sealed_g_opb : Obj := sealed_g_e.2.2.2.2.2.2.2.2.2.2.2.2.2.2.2.2.2.2.2.2.2.2.2.2.2.2.1
@[irreducible] noncomputable def sealed_g_occ : Obj := sealed_g_e.2.2.2.2.2.2.2.2.2.2.2.2.2.2.2.2.2.2.2.2.2.2.2.2.2.2.2.1
@[irreducible] noncomputable def sealed_g_osd : Obj := sealed_g_e.2.2.2.2.2.2.2.2.2.2.2.2.2.2.2.2.2.2.2.2.2.2.2.2.2.2.2.2.1
@[irreducible] noncomputable def sealed_g_cvs : Array Value := sealed_g_e.2.2.2.2.2.2.2.2.2.2.2.2.2.2.2.2.2.2.2.2.2.2.2.2.2.2.2.2.2.1
@[irreducible] noncomputable def sealed_g_ql : Str := sealed_g_e.2.2.2.2.2.2.2.2.2.2.2.2.2.2.2.2.2.2.2.2.2.2.2.2.2.2.2.2.2.2.1
@[irreducible] noncomputable def sealed_g_pmv : Value := sealed_g_e.2.2.2.2.2.2.2.2.2.2.2.2.2.2.2.2.2.2.2.2.2.2.2.2.2.2.2.2.2.2.2.1
@[irreducible] noncomputable def sealed_g_ctv : Value := sealed_g_e.2.2.2.2.2.2.2.2.2.2.2.2.2.2.2.2.2.2.2.2.2.2.2.2.2.2.2.2.2.2.2.2.1
@[irreducible] noncomputable def sealed_g_tq : Tok := sealed_g_e.2.2.2.2.2.2.2.2.2.2.2.2.2.2.2.2.2.2.2.2.2.2.2.2.2.2.2.2.2.2.2.2.2.1
@[irreducible] noncomputable def sealed_g_tb : Tok := sealed_g_e.2.2.2.2.2.2.2.2.2.2.2.2.2.2.2.2.2.2.2.2.2.2.2.2.2.2.2.2.2.2.2.2.2.2.1
@[irreducible] noncomputable def sealed_g_tkey : Tok := sealed_g_e.2.2.2.2.2.2.2.2.2.2.2.2.2.2.2.2.2.2.2.2.2.2.2.2.2.2.2.2.2.2.2.2.2.2.2.1
@[irreducible] noncomputable def sealed_g_tpr : Tok := sealed_g_e.2.2.2.2.2.2.2.2.2.2.2.2.2.2.2.2.2.2.2.2.2.2.2.2.2.2.2.2.2.2.2.2.2.2.2.2.1
@[irreducible] noncomputable def sealed_g_tf : Tok := sealed_g_e.2.2.2.2.2.2.2.2.2.2.2.2.2.2.2.2.2.2.2.2.2.2.2.2.2.2.2.2.2.2.2.2.2.2.2.2.2.1
@[irreducible] noncomputable def sealed_g_pr : Int := sealed_g_e.2.2.2.2.2.2.2.2.2.2.2.2.2.2.2.2.2.2.2.2.2.2.2.2.2.2.2.2.2.2.2.2.2.2.2.2.2.2.1
@[irreducible] noncomputable def sealed_g_nn : Int := sealed_g_e.2.2.2.2.2.2.2.2.2.2.2.2.2.2.2.2.2.2.2.2.2.2.2.2.2.2.2.2.2.2.2.2.2.2.2.2.2.2.2.1
@[irreducible] noncomputable def sealed_g_fl9 : Int := sealed_g_e.2.2.2.2.2.2.2.2.2.2.2.2.2.2.2.2.2.2.2.2.2.2.2.2.2.2.2.2.2.2.2.2.2.2.2.2.2.2.2.2.1
@[irreducible] noncomputable def sealed_g_kvs : List (Int × Value) := sealed_g_e.2.2.2.2.2.2.2.2.2.2.2.2.2.2.2.2.2.2.2.2.2.2.2.2.2.2.2.2.2.2.2.2.2.2.2.2.2.2.2.2.2.1
@[irreducible] noncomputable def sealed_g_ia : Addr := sealed_g_e.2.2.2.2.2.2.2.2.2.2.2.2.2.2.2.2.2.2.2.2.2.2.2.2.2.2.2.2.2.2.2.2.2.2.2.2.2.2.2.2.2.2.1
@[irreducible] noncomputable def sealed_g_da : Addr := sealed_g_e.2.2.2.2.2.2.2.2.2.2.2.2.2.2.2.2.2.2.2.2.2.2.2.2.2.2.2.2.2.2.2.2.2.2.2.2.2.2.2.2.2.2.2.1
@[irreducible] noncomputable def sealed_g_k1 : Tok := sealed_g_e.2.2.2.2.2.2.2.2.2.2.2.2.2.2.2.2.2.2.2.2.2.2.2.2.2.2.2.2.2.2.2.2.2.2.2.2.2.2.2.2.2.2.2.2.1
@[irreducible] noncomputable def sealed_g_k2 : Tok := sealed_g_e.2.2.2.2.2.2.2.2.2.2.2.2.2.2.2.2.2.2.2.2.2.2.2.2.2.2.2.2.2.2.2.2.2.2.2.2.2.2.2.2.2.2.2.2.2.1
@[irreducible] noncomputable def sealed_g_k3 : Tok := sealed_g_e.2.2.2.2.2.2.2.2.2.2.2.2.2.2.2.2.2.2.2.2.2.2.2.2.2.2.2.2.2.2.2.2.2.2.2.2.2.2.2.2.2.2.2.2.2.2.1
@[irreducible] noncomputable def sealed_g_k4 : Tok := sealed_g_e.2.2.2.2.2.2.2.2.2.2.2.2.2.2.2.2.2.2.2.2.2.2.2.2.2.2.2.2.2.2.2.2.2.2.2.2.2.2.2.2.2.2.2.2.2.2.2.1
@[irreducible] noncomputable def sealed_g_t1 : Tok := sealed_g_e.2.2.2.2.2.2.2.2.2.2.2.2.2.2.2.2.2.2.2.2.2.2.2.2.2.2.2.2.2.2.2.2.2.2.2.2.2.2.2.2.2.2.2.2.2.2.2.2.1
@[irreducible] noncomputable def sealed_g_t2 : Tok := sealed_g_e.2.2.2.2.2.2.2.2.2.2.2.2.2.2.2.2.2.2.2.2.2.2.2.2.2.2.2.2.2.2.2.2.2.2.2.2.2.2.2.2.2.2.2.2.2.2.2.2.2.1
@[irreducible] noncomputable def sealed_g_ts : Tok := sealed_g_e.2.2.2.2.2.2.2.2.2.2.2.2.2.2.2.2.2.2.2.2.2.2.2.2.2.2.2.2.2.2.2.2.2.2.2.2.2.2.2.2.2.2.2.2.2.2.2.2.2.2.1
@[irreducible] noncomputable def sealed_g_own : Int := sealed_g_e.2.2.2.2.2.2.2.2.2.2.2.2.2.2.2.2.2.2.2.2.2.2.2.2.2.2.2.2.2.2.2.2.2.2.2.2.2.2.2.2.2.2.2.2.2.2.2.2.2.2.2.1
@[irreducible] noncomputable def sealed_g_peer : Int := sealed_g_e.2.2.2.2.2.2.2.2.2.2.2.2.2.2.2.2.2.2.2.2.2.2.2.2.2.2.2.2.2.2.2.2.2.2.2.2.2.2.2.2.2.2.2.2.2.2.2.2.2.2.2.2.1
@[irreducible] noncomputable def sealed_g_sv : Option Int := sealed_g_e.2.2.2.2.2.2.2.2.2.2.2.2.2.2.2.2.2.2.2.2.2.2.2.2.2.2.2.2.2.2.2.2.2.2.2.2.2.2.2.2.2.2.2.2.2.2.2.2.2.2.2.2.2.1
@[irreducible] noncomputable def sealed_g_FX : List (Addr × Obj) := sealed_g_e.2.2.2.2.2.2.2.2.2.2.2.2.2.2.2.2.2.2.2.2.2.2.2.2.2.2.2.2.2.2.2.2.2.2.2.2.2.2.2.2.2.2.2.2.2.2.2.2.2.2.2.2.2.2.1
@[irreducible] noncomputable def sealed_g_FR : List (Addr × Obj) := sealed_g_e.2.2.2.2.2.2.2.2.2.2.2.2.2.2.2.2.2.2.2.2.2.2.2.2.2.2.2.2.2.2.2.2.2.2.2.2.2.2.2.2.2.2.2.2.2.2.2.2.2.2.2.2.2.2.2.1
@[irreducible] noncomputable def sealed_g_fx : List Value := sealed_g_e.2.2.2.2.2.2.2.2.2.2.2.2.2.2.2.2.2.2.2.2.2.2.2.2.2.2.2.2.2.2.2.2.2.2.2.2.2.2.2.2.2.2.2.2.2.2.2.2.2.2.2.2.2.2.2.2.1
@[irreducible] noncomputable def sealed_g_n : Nat := sealed_g_e.2.2.2.2.2.2.2.2.2.2.2.2.2.2.2.2.2.2.2.2.2.2.2.2.2.2.2.2.2.2.2.2.2.2.2.2.2.2.2.2.2.2.2.2.2.2.2.2.2.2.2.2.2.2.2.2.2.1
@[irreducible] noncomputable def sealed_g_k : Nat := sealed_g_e.2.2.2.2.2.2.2.2.2.2.2.2.2.2.2.2.2.2.2.2.2.2.2.2.2.2.2.2.2.2.2.2.2.2.2.2.2.2.2.2.2.2.2.2.2.2.2.2.2.2.2.2.2.2.2.2.2.2.1
@[irreducible] noncomputable def sealed_g_now : Int := sealed_g_e.2.2.2.2.2.2.2.2.2.2.2.2.2.2.2.2.2.2.2.2.2.2.2.2.2.2.2.2.2.2.2.2.2.2.2.2.2.2.2.2.2.2.2.2.2.2.2.2.2.2.2.2.2.2.2.2.2.2.2.1
@[irreducible] noncomputable def sealed_g_tn : Tok := sealed_g_e.2.2.2.2.2.2.2.2.2.2.2.2.2.2.2.2.2.2.2.2.2.2.2.2.2.2.2.2.2.2.2.2.2.2.2.2.2.2.2.2.2.2.2.2.2.2.2.2.2.2.2.2.2.2.2.2.2.2.2.2.1
@[irreducible] noncomputable def sealed_g_tsp : Tok := sealed_g_e.2.2.2.2.2.2.2.2.2.2.2.2.2.2.2.2.2.2.2.2.2.2.2.2.2.2.2.2.2.2.2.2.2.2.2.2.2.2.2.2.2.2.2.2.2.2.2.2.2.2.2.2.2.2.2.2.2.2.2.2.2.1
@[irreducible] noncomputable def sealed_g_v : KV := sealed_g_e.2.2.2.2.2.2.2.2.2.2.2.2.2.2.2.2.2.2.2.2.2.2.2.2.2.2.2.2.2.2.2.2.2.2.2.2.2.2.2.2.2.2.2.2.2.2.2.2.2.2.2.2.2.2.2.2.2.2.2.2.2.2
theorem sealed_g_0 : sealed_g_B sealed_g_w sealed_g_co sealed_g_cd sealed_g_sp sealed_g_kp sealed_g_pb sealed_g_rm sealed_g_rd sealed_g_fl sealed_g_cc sealed_g_ct sealed_g_cdd sealed_g_pl sealed_g_pd sealed_g_sd sealed_g_row sealed_g_f sealed_g_ces sealed_g_res sealed_g_es sealed_g_ecd sealed_g_cen sealed_g_ren sealed_g_crow sealed_g_osp sealed_g_okp sealed_g_opb sealed_g_occ sealed_g_osd sealed_g_cvs sealed_g_ql sealed_g_pmv sealed_g_ctv sealed_g_tq sealed_g_tb sealed_g_tkey sealed_g_tpr sealed_g_tf sealed_g_pr sealed_g_nn sealed_g_fl9 sealed_g_kvs sealed_g_ia sealed_g_da sealed_g_k1 sealed_g_k2 sealed_g_k3 sealed_g_k4 sealed_g_t1 sealed_g_t2 sealed_g_ts sealed_g_own sealed_g_peer sealed_g_sv sealed_g_FX sealed_g_FR sealed_g_fx sealed_g_n sealed_g_k sealed_g_now sealed_g_tn sealed_g_tsp sealed_g_v := by
  refine ubx ?_
  simp (disch := k_dflt (
    refine tyP ?_
    refine' (?g9 : ∀ q : (sealed_g_B sealed_g_w sealed_g_co sealed_g_cd sealed_g_sp sealed_g_kp sealed_g_pb sealed_g_rm sealed_g_rd sealed_g_fl sealed_g_cc sealed_g_ct sealed_g_cdd sealed_g_pl sealed_g_pd sealed_g_sd sealed_g_row sealed_g_f sealed_g_ces sealed_g_res sealed_g_es sealed_g_ecd sealed_g_cen sealed_g_ren sealed_g_crow sealed_g_osp sealed_g_okp sealed_g_opb sealed_g_occ sealed_g_osd sealed_g_cvs sealed_g_ql sealed_g_pmv sealed_g_ctv sealed_g_tq sealed_g_tb sealed_g_tkey sealed_g_tpr sealed_g_tf sealed_g_pr sealed_g_nn sealed_g_fl9 sealed_g_kvs sealed_g_ia sealed_g_da sealed_g_k1 sealed_g_k2 sealed_g_k3 sealed_g_k4 sealed_g_t1 sealed_g_t2 sealed_g_ts sealed_g_own sealed_g_peer sealed_g_sv sealed_g_FX sealed_g_FR sealed_g_fx sealed_g_n sealed_g_k sealed_g_now sealed_g_tn sealed_g_tsp sealed_g_v), Keep q → (sealed_g_B sealed_g_w sealed_g_co sealed_g_cd sealed_g_sp sealed_g_kp sealed_g_pb sealed_g_rm sealed_g_rd sealed_g_fl sealed_g_cc sealed_g_ct sealed_g_cdd sealed_g_pl sealed_g_pd sealed_g_sd sealed_g_row sealed_g_f sealed_g_ces sealed_g_res sealed_g_es sealed_g_ecd sealed_g_cen sealed_g_ren sealed_g_crow sealed_g_osp sealed_g_okp sealed_g_opb sealed_g_occ sealed_g_osd sealed_g_cvs sealed_g_ql sealed_g_pmv sealed_g_ctv sealed_g_tq sealed_g_tb sealed_g_tkey sealed_g_tpr sealed_g_tf sealed_g_pr sealed_g_nn sealed_g_fl9 sealed_g_kvs sealed_g_ia sealed_g_da sealed_g_k1 sealed_g_k2 sealed_g_k3 sealed_g_k4 sealed_g_t1 sealed_g_t2 sealed_g_ts sealed_g_own sealed_g_peer sealed_g_sv sealed_g_FX sealed_g_FR sealed_g_fx sealed_g_n sealed_g_k sealed_g_now sealed_g_tn sealed_g_tsp sealed_g_v)) _ ?w9
    case g9 => exact fun q _ => q
    case w9 =>
      refine' kp9 ?h9 fun k9 => ?j9
      case h9 =>
        unfold sealed_g_B KV.to
        k_fill
        intro _
        (with_reducible (refine eps_lt ?_; intro xc8; refine (?_ : ∀ y : Cl _, Ap _ y) xc8; clear xc8; intro asked; refine ap_mk ?_))
        (with_reducible (refine eps_lt ?_; intro xc8; refine (?_ : ∀ y : Cl _, Ap _ y) xc8; clear xc8; intro el; refine ap_mk ?_))
        intro hc1 hc2 hc3 hc4 hc5 hc6 hc7 hpr hcc hcq hsp hkp hpb hosd hlo hkl hnn hnn2 hst hS hR mco mcd msp mkp mrm mrd mfl mcc mct mia mpl mrow mf hfr xpd xsd xcdd xda xpb dpdsd dpdcdd dpdda dpdpb dsdcdd dsdda dsdpb dcddda dcddpb ddapb rpd rsd hE hF hPF hn9
        w_on
        w_top on
        intro B F X N T hk hd hu hneed hsent hret
        have la0 := SpaceE.acked hS
        have y1 : @Ne Nat sealed_g_pl sealed_g_pd := xpd _ mpl
        have y2 : @Ne Nat sealed_g_pl sealed_g_sd := xsd _ mpl
        have y3 : @Ne Nat sealed_g_ct sealed_g_cdd := xcdd _ mct
        have y4 : @Ne Nat sealed_g_ia sealed_g_da := xda _ mia
        refine wpG_call ?_
        k_dflt (refine' codeG_defF ?k1 ?k2 ?k3 (need_news hneed N) (restOf_news N) restOf_dis ?k5 ?kA ?kF ?kK ?k6 ?k7 ?k8 ?k9 ?kB ?_ ?c2 ?c3 ?c4 ?c5; (case kA => exact rfl); (case kF => exact rfl); (case kK => first | assumption | exact rfl); (case k1 => k_asm); (case k2 => k_asm); (case k3 => k_asm); (case k5 => k_asm); (case k6 => k_is); (case k7 => k_is); (case k8 => ktr_room); (case k9 => first | exact BindsTo.of_eq rfl | exact binds_K (by k_in) rfl (by k_is) rfl rfl rfl); (case c5 => decide); (case kB => exact locs (Eq.refl true)); (case c2 => exact rfl); (case c3 => exact rfl); (case c4 => exact rfl); k_whole; intro g' L' h' tk' FG' F' N' B' X' T' l1 lr; (have hlr9 := fun p hp => (lr p hp).2); (have hG' : SentN g' [] sealed_g_kvs := sent_ground hsent hlr9 FG'); (clear lr); (try dsimp only); (try k_lt l1); (try k_fold))
        w_strict (k_steps; (all_goals ((rename News _ _ _ (restOf _ _) => Nr9); (rename News _ _ _ (_ :: _) => Nk9); exact hret _ px9 pxd9 esx9 _ _ ts9 _ _ _ osd9 _ _ _ (by k_asm) (news_app (news_sub Nk9 (by (repeat (first | with_reducible apply sub_nil | (with_reducible apply sub_cons; (case h1 => k_mem)) | with_reducible apply sub_self | with_reducible apply sub_tail)))) Nr9) (back_neM (o := instObj 511 _) (by assumption : News _ _ _ (_ :: _)) (by k_mem) hlr9 (by (repeat (first | with_reducible apply ne_all_nil | with_reducible assumption | (with_reducible apply ne_all_cons; (case h => k_ne)))))) (back_neM (o := dictOf _ 6) (by assumption : News _ _ _ (_ :: _)) (by k_mem) hlr9 (by (repeat (first | with_reducible apply ne_all_nil | with_reducible assumption | (with_reducible apply ne_all_cons; (case h => k_ne)))))) (by k_ne) (by assumption) (by assumption) (by assumption) (by (have q9 := (by assumption : Obj.IsDictOf _ _ (stored sealed_g_kvs sealed_g_nn _))); rw [hst] at q9; exact q9) (by assumption))))
      case j9 => revert k9; (try delta id ap_mk hd_in hd_out); intro k9; (try conv at k9 => zeta); exact k9)) only [↓bxT]
theorem sealed_g (w : World) (co cd sp kp pb rm rd fl cc ct cdd pl pd sd row f : Addr) (ces res es ecd : List DictEntry) (cen ren crow : Nat) (osp okp opb occ osd : Obj) (cvs : Array Value) (ql : Str) (pmv ctv : Value) (tq tb tkey tpr tf : Tok) (pr nn fl9 : Int) (kvs : List (Int × Value)) (ia da : Addr) (k1 k2 k3 k4 t1 t2 ts : Tok) (own peer : Int) (asked : Bool) (sv : Option Int) (FX FR : List (Addr × Obj)) (fx : List Value) (el : Bool) (n k : Nat) (now : Int) (tn tsp : Tok) (hc1 : getL (Str.ofString "spaces") ces = some (some (.ref sp))) (hc2 : getL (Str.ofString "keys") ces = some (some (.ref kp))) (hc3 : getL (Str.ofString "probes") ces = some (some (.ref pb))) (hc4 : getL (Str.ofString "control") ces = some (some (.ref ct))) (hc5 : getL (Str.ofString "own_cid") ces = some (some (.bytes #[111, 119, 110] tb))) (hc6 : getL (Str.ofString "remote") ces = some (some (.ref rm))) (hc7 : getL (Str.ofString "idle") ces = some (some (.ref ia))) (hpr : getL (Str.ofString "present") res = some (some (.ref fl))) (hcc : occ.data = .fields cvs) (hcq : cvs[1]? = some (.str ql tq))
    (hsp : osp.IsDictOf (PySem.strKind PR w) [(Str.ofString "application", .ref pl)]) (hkp : okp.IsDictOf (PySem.strKind PR w) [(Str.ofString "application", .bytes #[107] tkey)]) (hpb : opb.IsDictOf (PySem.strKind PR w) [(Str.ofString "application", .int pr tpr)])
    (hosd : osd.IsDictOf (PySem.intKind PR w) kvs) (hlo : (sd == sysModules) = false) (hkl : kvs.length ≤ 7) (hnn : 0 ≤ nn) (hnn2 : nn < 60) (hst : stored kvs nn = fun v => kvs ++ [(nn, v)]) (hS : SpaceE w nn sd es) (hR : RenoE w fl9 ecd) (mco : (co, instObj 654 cd) ∈ FX) (mcd : (cd, dictOf ces cen) ∈ FX) (msp : (sp, osp) ∈ FX) (mkp : (kp, okp) ∈ FX) (mrm : (rm, instObj 654 rd) ∈ FX) (mrd : (rd, dictOf res ren) ∈ FX) (mfl : (fl, (kla_obj (Str.ofString "<lambda>") ql { posonlyargs := [], args := [], vararg := none, kwonlyargs := [], kw_defaults := [], kwarg := none, defaults := [] } (PySem.Expr.Constant (PySem.Const.bytes [112, 101, 101, 114]) 0 { line := 464, col := 29, endLine := 464, endCol := 36 }) { kind := .function, names := [], isGenerator := false, isCoroutine := false } [] pmv cc ctv)) ∈ FX) (mcc : (cc, occ) ∈ FX) (mct : (ct, instObj 445 cdd) ∈ FX) (mia : (ia, instObj 85 da) ∈ FX) (mpl : (pl, instObj 654 pd) ∈ FX) (mrow : (row, listOf #[.ref f] crow) ∈ FX) (mf : (f, ({ cls := .type "tuple", data := .seq (.str (kindOf9 el) tf :: fx).toArray } : Obj)) ∈ FX) (hfr : ∀ q ∈ FR, q ∈ FX) (xpd : ∀ q ∈ FX, @Ne Nat q.1 pd) (xsd : ∀ q ∈ FX, @Ne Nat q.1 sd) (xcdd : ∀ q ∈ FX, @Ne Nat q.1 cdd) (xda : ∀ q ∈ FX, @Ne Nat q.1 da) (xpb : ∀ q ∈ FX, @Ne Nat q.1 pb) (dpdsd : @Ne Nat pd sd) (dpdcdd : @Ne Nat pd cdd) (dpdda : @Ne Nat pd da) (dpdpb : @Ne Nat pd pb) (dsdcdd : @Ne Nat sd cdd) (dsdda : @Ne Nat sd da) (dsdpb : @Ne Nat sd pb) (dcddda : @Ne Nat cdd da) (dcddpb : @Ne Nat cdd pb) (ddapb : @Ne Nat da pb) (rpd : ∀ q ∈ FR, @Ne Nat q.1 pd) (rsd : ∀ q ∈ FR, @Ne Nat q.1 sd) (hE : PureM w 12 469 FR [.ref row] (fun v => v = .bool el)) (hF : PureM w 12 474 FR [.ref row] (fun v => v = .bool el)) (hPF : PureN w 24 205 FR [.ref row] (BytesOf n)) (hn9 : n = 1 ∧ k = 3 ∨ n = 5 ∧ k = 5) : RW = RW → ∀ (p : Program) (loose : List Str) (mean : ExcName → Option Value) (mg mb : Str → Option Value)
    (dp un : Nat) (gd : Option (List Code)) (cn : Str) (cs : Scope) (a : Addr) (ccd : Value) (cl : List (Str × Addr)) (outer : List Env) (A₀ : Around) (base h₀ : Heap) (L : Addr) (m : Str → Option Value) (news : List (Addr × Obj)) (s : Shared) (Q E : Value → Shared → Prop),
    Below A₀ base outer h₀ → Fr h₀ L s.heap m → (hd.heap_1 w.params).In h₀ → News h₀ L s.heap news → Top p loose mean mg mb h₀ → cs.kind = .function →
    dp + 40 < recursionLimit → un + 8 * 40 < cLine → (∀ q ∈ (pd, dictOf es 17) :: (sd, osd) :: (cdd, dictOf ecd 6) :: (da, dictOf [⟨PyData.keyHash w.params (Str.ofString "own"), .str (Str.ofString "own") k1, .int own t1⟩, ⟨PyData.keyHash w.params (Str.ofString "peer"), .str (Str.ofString "peer") k2, .int peer t2⟩, ⟨PyData.keyHash w.params (Str.ofString "since"), .str (Str.ofString "since") k3, optV sv ts⟩, ⟨PyData.keyHash w.params (Str.ofString "has_asked"), .str (Str.ofString "has_asked") k4, .bool asked⟩] 4) :: (pb, opb) :: FX, q ∈ news) → SentN h₀ (restOf ((pd, dictOf es 17) :: (sd, osd) :: (cdd, dictOf ecd 6) :: (da, dictOf [⟨PyData.keyHash w.params (Str.ofString "own"), .str (Str.ofString "own") k1, .int own t1⟩, ⟨PyData.keyHash w.params (Str.ofString "peer"), .str (Str.ofString "peer") k2, .int peer t2⟩, ⟨PyData.keyHash w.params (Str.ofString "since"), .str (Str.ofString "since") k3, optV sv ts⟩, ⟨PyData.keyHash w.params (Str.ofString "has_asked"), .str (Str.ofString "has_asked") k4, .bool asked⟩] 4) :: (pb, opb) :: FX) news) kvs →
    (∀ (v : Value) (px pxd : Addr) (esx es' ecd' : List DictEntry) (ts' tpr' : Tok) (pr' fl' : Int) (osd' opb' : Obj) h' tk', Fr h₀ L h' m →
      News h₀ L h' (((px, instObj 511 pxd) :: (pxd, dictOf esx 6) :: (pd, dictOf es' 17) :: (sd, osd') :: (cdd, dictOf ecd' 6) :: (da, dictOf [⟨PyData.keyHash w.params (Str.ofString "own"), .str (Str.ofString "own") k1, .int own t1⟩, ⟨PyData.keyHash w.params (Str.ofString "peer"), .str (Str.ofString "peer") k2, .int peer t2⟩, ⟨PyData.keyHash w.params (Str.ofString "since"), .str (Str.ofString "since") k3, optV (sentS el asked sv now) ts'⟩, ⟨PyData.keyHash w.params (Str.ofString "has_asked"), .str (Str.ofString "has_asked") k4, .bool (el || asked)⟩] 4) :: (pb, opb') :: FX) ++ restOf ((pd, dictOf es 17) :: (sd, osd) :: (cdd, dictOf ecd 6) :: (da, dictOf [⟨PyData.keyHash w.params (Str.ofString "own"), .str (Str.ofString "own") k1, .int own t1⟩, ⟨PyData.keyHash w.params (Str.ofString "peer"), .str (Str.ofString "peer") k2, .int peer t2⟩, ⟨PyData.keyHash w.params (Str.ofString "since"), .str (Str.ofString "since") k3, optV sv ts⟩, ⟨PyData.keyHash w.params (Str.ofString "has_asked"), .str (Str.ofString "has_asked") k4, .bool asked⟩] 4) :: (pb, opb) :: FX) news) →
      (∀ p ∈ news, @Ne Nat p.1 px) → (∀ p ∈ news, @Ne Nat p.1 pxd) → @Ne Nat px pxd → getL (Str.ofString "in_flight") esx = some (some (.bool el)) → SpaceE w (nn + 1) sd es' → RenoE w fl' ecd' → osd'.IsDictOf (PySem.intKind PR w) (kvs ++ [(nn, .ref px)]) → opb'.IsDictOf (PySem.strKind PR w) [(Str.ofString "application", .int pr' tpr')] → Q v { s with heap := h', toks := tk' }) →
    wpG (model PR w) (ktrTop dp un gd cn cs L a ccd cl outer) (call (.ref 351) [.ref co, .str (Str.ofString "application") tsp, .ref row, .int now tn]) Q E s := by
  intro r9 p loose mean mg mb dp un gd cn cs a ccd cl outer A₀ base h₀ L m news s Q E
  exact eps_all (epsW, default, default, default, default, default, default, default, default, default, default, default, default, default, default, default, default, default, default, default, default, default, default, default, default, default, default, default, default, default, default, default, default, default, default, default, default, default, default, default, default, default, default, default, default, default, default, default, default, default, default, default, default, default, default, default, default, default, default, default, default, default, kv9) sealed_g_P (by with_unfolding_all exact sealed_g_0) (w, co, cd, sp, kp, pb, rm, rd, fl, cc, ct, cdd, pl, pd, sd, row, f, ces, res, es, ecd, cen, ren, crow, osp, okp, opb, occ, osd, cvs, ql, pmv, ctv, tq, tb, tkey, tpr, tf, pr, nn, fl9, kvs, ia, da, k1, k2, k3, k4, t1, t2, ts, own, peer, sv, FX, FR, fx, n, k, now, tn, tsp, ⟨p, loose, mean, mg, mb, dp, un, gd, cn, cs, a, ccd, cl, outer, A₀, base, h₀, L, m, news, s, Q, E⟩) r9 asked el hc1 hc2 hc3 hc4 hc5 hc6 hc7 hpr hcc hcq hsp hkp hpb hosd hlo hkl hnn hnn2 hst hS hR mco mcd msp mkp mrm mrd mfl mcc mct mia mpl mrow mf hfr xpd xsd xcdd xda xpb dpdsd dpdcdd dpdda dpdpb dsdcdd dsdda dsdpb dcddda dcddpb ddapb rpd rsd hE hF hPF hn9
end
section
set_option Elab.async false
set_option maxRecDepth 100000
set_option maxHeartbeats 2000000
theorem I4_rows0 : True := by
  k_with_none
  (k_with "STEPS9" => (repeat' (first | ((fail_if_success ((rename (_ : Type) => hc9); (with_unfolding_none rename Cl _ => hc8); (fail_if_success (have hc7 := hc9)))); (rename (_ : Type) => hc9); (refine hd_in ?_); revert hc9; (repeat ((fail_if_success ((rename (_ : Type) => hc9); (with_unfolding_none rename Cl _ => hc8); (fail_if_success (have hc7 := hc9)))); (rename (_ : Type) => hc9); revert hc9)); (with_reducible (refine eps_lt ?_; intro xc8; refine (?_ : ∀ y : Cl _, Ap _ y) xc8; clear xc8; intro _; refine ap_mk ?_)); (repeat (with_reducible (refine eps_lt ?_; intro xc8; refine (?_ : ∀ y : Cl _, Ap _ y) xc8; clear xc8; intro _; refine ap_mk ?_))); (set_option tactic.hygienic false in intros); (refine hd_out ?_)) | k_fold | (with_reducible rename ((@Ne Nat _ _ ∧ _) ∧ _) => hh9; (try k_fold); obtain ⟨hh8, hh7⟩ := hh9) | (with_reducible rename (@Ne Nat _ _ ∧ _) => hh9; (try k_fold); obtain ⟨hh8, hh7⟩ := hh9) | (with_reducible rename (@LT.lt Nat _ _ _ ∧ _) => hh9; (try k_fold); obtain ⟨hh8, hh7⟩ := hh9) | (k_unfold; (try dsimp only)) | (k_end; wrow_close) | walk1 | (dsimp only; walk1) | (leave1; walk_say "STEP leave1"; try dsimp only) | fail "no step")))
  trivial
theorem I4_rows1 : True := by
  (k_with "k_room" => (ktr_room))
  (k_with "k_units" => (ktr_units))
  (k_with "exec Assign cons ListComp" => ((k_here; k_dflt (first
      | ((with_reducible show wpAny _ _ (exec (PySem.Stmt.Assign _ (PySem.Expr.ListComp _ [PySem.Comprehension.mk (PySem.Expr.Name _ _) _ _ _] _ _) _) _) _ _ _); refine LCt.Assign_ListComp_T (F₀ := by k_asm) (by rfl) (by with_unfolding_all rfl) (by with_unfolding_all rfl) (by decide) (by rfl) (by decide) (by rfl) (by rfl) (by rfl) ?_)
      | ((with_reducible show wpAny _ _ (exec (PySem.Stmt.Assign _ (PySem.Expr.ListComp _ [PySem.Comprehension.mk (PySem.Expr.Tuple _ _ _) _ _ _] _ _) _) _) _ _ _); refine Assign_ask (by k_asm) (by rfl) (by with_unfolding_all rfl) (by with_unfolding_all rfl) (by decide) (by rfl) (by decide) (by rfl) (by rfl) (by decide) (by rfl) (by rfl) ?_)))))
  (k_with "call builtin:len" => (k_here; (with_reducible show wpAny _ _ (call (Value.builtin "len") [Value.ref _]) _ _ _); k_dflt (refine k_len_vs (by k_asm) (by k_mem) (by assumption : DeedsG _ _ _).1 (by assumption) ?_; intro t9 k9; (try dsimp only))))
  (k_with "CompSrcT" => (k_here; k_dflt (refine LCt.CompSrcT.range (by rfl) (by k_asm) (by k_asm) (by assumption) (small_one (by omega) (by omega) (by omega) (by omega)) (rangeSize_nat _ _) (by rw [PySem.sizeLine_eq]; omega) ?_; intro gw'; (refine' came_rest (by assumption) (fun k9 t9 I9 oI9 C9 oC9 D9 m9 ys9 l9 h9 tk9 E9 hlo9 hhi9 hI9 hC9 hx9 F9 N9 off9 ne9 => ?_) (fun ys9 hi9 => ?_)); (all_goals (try (simp only [LCg.Off3, and_true] at off9))))))
  (k_with "subscriptTail" => ((k_here; (with_reducible show wpAny _ _ (subscriptTail _ _ (Value.ref _) (Value.int _ _)) _ _ _); k_dflt (first
      | ((with_reducible show wpAny _ _ (subscriptTail _ _ (Value.ref _) (Value.int 1 _)) _ _ _); refine k_deed_sort (by k_asm) (by assumption) ?_)
      | ((with_reducible show wpAny _ _ (subscriptTail _ _ (Value.ref _) (Value.int 0 _)) _ _ _); refine k_deed_time (by k_asm) (by assumption) ?_)
      | ((with_reducible show wpAny _ _ (subscriptTail _ _ (Value.ref _) (Value.int (-1) _)) _ _ _); refine k_last (by k_asm) (by k_mem) (by assumption) (of_decide_eq_false (by assumption)) (Nat.le_trans cameL_len (by assumption)) ?_; intro t9; (try dsimp only))
      | (refine k_deed_item (by k_asm) (by assumption) (by k_mem) (by first | omega | (have q9 := cameL_last (of_decide_eq_false (by assumption)); omega)) (by first | omega | (have q9 := cameL_last (of_decide_eq_false (by assumption)); omega)) (by assumption) ?_; intro a9 u19 u29 hg9; (try dsimp only))
      | ((with_reducible show wpAny _ _ (subscriptTail _ _ (Value.ref _) (Value.int 0 _)) _ _ _); refine k_first (by k_asm) (by k_mem) (by assumption) (of_decide_eq_false (by assumption)) ?_; intro t9; (try dsimp only))))))
  (k_with "subscriptTail Name UnaryOp ref int" => (k_extra "subscriptTail"))
  (k_with "subscriptTail Name Constant ref int" => (k_extra "subscriptTail"))
  (k_with "subscriptTail Name BinOp ref int" => (k_extra "subscriptTail"))
  (k_with "subscriptTail Name Name ref int" => (k_extra "subscriptTail"))
  (k_with "compareOp NotEq ref ref" => (k_here; (with_reducible show wpAny _ _ (compareOp _ (Value.ref _) (Value.ref _)) _ _ _); k_dflt (refine ne_intsK (list_of_news (by k_asm) (by k_mem)) (by assumption) (list_of_news (by k_asm) (by k_mem)) IntsAre.nil (by k_units) ?_; (try dsimp only))))
  (k_with "subscriptTail Name Slice ref ref" => (k_here; k_dflt ((with_unfolding_all refine k_from (s := ⟨_, _, _, _, _⟩) (by k_asm) (by k_asm) (by k_mem) (by first | omega | (have q9 := cameL_last (of_decide_eq_false (by assumption)); omega)) (by (have q9 := (by assumption : DeedsG _ _ _).1); omega) ?_); intro B9 h9 F9 N9 lt9; (try dsimp only); (try k_lt lt9))))
  (k_with "AskSrc" => (k_here; k_dflt ((first | refine AskSrc.intro (by rfl) (by k_asm) (by k_asm) (by k_mem) (by assumption) (by assumption) (fun t9 s9 u19 u29 I9 oI9 C9 oC9 E9 m9 ys9 h9 tk9 E99 hC9 hx9 hy9 F9 N9 off9 ne9 => ?_) (fun ys9 E9 h9 tk9 hi9 F9 N9 o19 => ?_) | refine AskSrc.intro (by rfl) (by k_asm) (by k_asm) (by k_mem) (DeedsG.drop (by assumption) _) (drop_le (by assumption)) (fun t9 s9 u19 u29 I9 oI9 C9 oC9 E9 m9 ys9 h9 tk9 E99 hC9 hx9 hy9 F9 N9 off9 ne9 => ?_) (fun ys9 E9 h9 tk9 hi9 F9 N9 o19 => ?_)); (all_goals (try (simp only [LCg.Off3, and_true] at off9))); (all_goals (try (simp only [LCg.Off1, and_true] at o19))); (all_goals (try dsimp only)))))
  (k_with "AskEl" => (exact ⟨by with_unfolding_all rfl, by assumption, _, rfl⟩))
  (k_with "AskNo" => (exact ⟨by with_unfolding_all rfl, by assumption⟩))
  (k_with "KCiEl" => (exact kci_el (if_pos (by assumption)) (by with_unfolding_all rfl) (by with_unfolding_all rfl)))
  (k_with "KCiNo" => (exact kci_no (if_neg (by assumption)) (by with_unfolding_all rfl)))
  trivial
def since_t_B (w : World) (dl : Addr) (c : Nat) (vs : List Value) (D : Deeds) (v : KV) : Prop := RW = RW → (D.length ≤ 1000) → v.to fun p loose mean mg mb dp un gd cn cs a ccd cl outer A₀ base h₀ L m news s Q E => Below A₀ base outer h₀ → Fr h₀ L s.heap m → (hd.heap_1 w.params).In h₀ → News h₀ L s.heap news → Top p loose mean mg mb h₀ → cs.kind = .function →
    dp + 24 < recursionLimit → un + 8 * 24 < cLine → (∀ q ∈ [(dl, listOf vs.toArray c)], q ∈ news) → DeedsN h₀ news vs D →
    (∀ r o h' tk', Fr h₀ L h' m → News h₀ L h' ((r, o) :: news) → SinceO (lawSince D) o → Q (.ref r) { s with heap := h', toks := tk' }) →
    wpAny (model PR w) (ktrTop dp un gd cn cs L a ccd cl outer) (call (.ref 684) [.ref dl]) Q E s
def since_t_S : Prop := ∀ w dl c vs D v, since_t_B w dl c vs D v
theorem since_t_0 : since_t_S := by
  refine ubx ?_
  simp (disch := k_dflt (
    refine tyP ?_
    refine' (?g9 : ∀ q : since_t_S, Keep q → since_t_S) _ ?w9
    case g9 => exact fun q _ => q
    case w9 =>
      refine' kp9 ?h9 fun k9 => ?j9
      case h9 =>
        unfold since_t_S
        (repeat walk_at "CL9")
        rename_i w dl c vs D vk
        unfold since_t_B KV.to
        k_fill
        intro _ hlen
        w_on
        w_top on
        intro B F X N T hk hd hu hneed hdn hret
        have hdg := fun g (q : ∀ p ∈ restOf [(dl, listOf vs.toArray c)] vk.news, g.get? p.1 = some p.2) (FG : Fr vk.h₀ vk.L g vk.m) => DeedsN.g hdn N (hneed _ List.mem_cons_self) q FG
        refine wpAny_call ?_
        k_dflt (refine' code_defCF ?k1 ?k2 ?k3 (need_news hneed N) (restOf_news N) restOf_dis ?k5 ?kA ?kF ?kK ?k6 ?k7 ?k8 ?k9 ?kB ?kD ?_ ?c2 ?c3 ?c4; (case kA => exact rfl); (case kF => exact rfl); (case kK => first | assumption | exact rfl); (case k1 => k_asm); (case k2 => k_asm); (case k3 => k_asm); (case k5 => k_asm); (case k6 => k_is); (case k7 => k_is); (case k8 => ktr_room); (case k9 => first | exact BindsTo.of_eq rfl | exact binds_K (by k_in) rfl (by k_is) rfl rfl rfl); (case kB => exact rfl); (case kD => decide +kernel); (case c2 => exact rfl); (case c3 => exact rfl); (case c4 => exact rfl); k_whole; intro g' L' h' tk' cells' FG' F' N' Y' B' X' T' l1 lr; (have hG' := hdg _ (fun p hp => (lr p hp).2) FG'); (clear lr hdg); (try k_lt l1); k_cells Y'; (try simp only [List.cons_append, List.nil_append] at N'); (try dsimp only); (try k_fold))
        w_strict (k_extra "STEPS9"; (all_goals ((rename News _ _ _ (restOf _ _) => Nr9); (first | (rename News _ _ _ (_ :: _) => Nk9) | (rename News _ _ _ (_ ++ _) => Nk9) | (have Nk9 := @News.nil)); exact hret _ _ _ _ (by k_asm) (news_cons9 Nk9 (back_pure N hneed (news_sub Nk9 (by (repeat (first | exact sub_self | exact sub_left | exact sub_nil | (refine sub_cons (by k_mem) ?_) | refine sub_tail ?_)))) Nr9)) (by first | exact sinceO_none (lawSince_1 (by assumption) (by assumption)) | exact sinceO_some (lawSince_2 (by assumption) (by assumption)) | exact sinceO_some (lawSince_3 (by assumption) (by assumption)) | exact sinceO_some (lawSince_4 (by assumption) (by assumption))))))
      case j9 => revert k9; (try delta id ap_mk hd_in hd_out); intro k9; (try conv at k9 => zeta); exact k9)) only [↓bxT]
theorem since_t (w : World) (dl : Addr) (c : Nat) (vs : List Value) (D : Deeds) (hlen : D.length ≤ 1000) : RW = RW → ∀ (p : Program) (loose : List Str) (mean : ExcName → Option Value) (mg mb : Str → Option Value)
    (dp un : Nat) (gd : Option (List Code)) (cn : Str) (cs : Scope) (a : Addr) (ccd : Value) (cl : List (Str × Addr)) (outer : List Env) (A₀ : Around) (base h₀ : Heap) (L : Addr) (m : Str → Option Value) (news : List (Addr × Obj)) (s : Shared) (Q E : Value → Shared → Prop),
    Below A₀ base outer h₀ → Fr h₀ L s.heap m → (hd.heap_1 w.params).In h₀ → News h₀ L s.heap news → Top p loose mean mg mb h₀ → cs.kind = .function →
    dp + 24 < recursionLimit → un + 8 * 24 < cLine → (∀ q ∈ [(dl, listOf vs.toArray c)], q ∈ news) → DeedsN h₀ news vs D →
    (∀ r o h' tk', Fr h₀ L h' m → News h₀ L h' ((r, o) :: news) → SinceO (lawSince D) o → Q (.ref r) { s with heap := h', toks := tk' }) →
    wpAny (model PR w) (ktrTop dp un gd cn cs L a ccd cl outer) (call (.ref 684) [.ref dl]) Q E s := by
  intro r9 p loose mean mg mb dp un gd cn cs a ccd cl outer A₀ base h₀ L m news s Q E
  exact since_t_0 w dl c vs D ⟨p, loose, mean, mg, mb, dp, un, gd, cn, cs, a, ccd, cl, outer, A₀, base, h₀, L, m, news, s, Q, E⟩ r9 hlen
end
section
set_option Elab.async false
set_option maxRecDepth 100000
set_option maxHeartbeats 2000000
local macro_rules | `(tactic| k_room) => `(tactic| ktr_room)
local macro_rules | `(tactic| k_units) => `(tactic| ktr_units)
variable {h₀ : Heap} {L : Addr} {m : Str → Option Value} {need news : List (Addr × Obj)} {vs : List Value} {D : Deeds} {w : World} {p : Program} {loose : List Str} {mean : ExcName → Option Value} {mg mb : Str → Option Value} {dp un : Nat} {gd : Option (List Code)} {cn : Str} {cs : Scope} {a : Addr} {ccd : Value} {cl : List (Str × Addr)} {outer : List Env} {A₀ : Around} {base : Heap} {s : Shared} {Q E : Value → Shared → Prop} {sv wo : Option Int} {now e : Int} {asked : Bool} {r : Int}
theorem DeedsN.gn {h g : Heap} (x : DeedsN h₀ news vs D) (N : News h₀ L h news) (hneed : ∀ q ∈ need, q ∈ news) (hcls : ∀ q ∈ need, q.2.cls ≠ Value.type "tuple")
    (hg : ∀ p ∈ restOf need news, g.get? p.1 = some p.2) (FG : Fr h₀ L g m) : DeedsG g vs D :=
  x.ground FG.keep fun a t s u1 u2 e2 => by
    refine hg (a, _) (List.mem_filter.mpr ⟨e2, ?_⟩)
    have hn : a ∉ need.map (·.1) := fun hm => by
      obtain ⟨q, hq, e⟩ := List.mem_map.mp hm
      have h1 := (N q (hneed q hq)).1
      rw [e, (N _ e2).1] at h1
      exact hcls q hq (congrArg Obj.cls (Option.some.inj h1)).symm
    simpa using hn
def PureD (w : World) (d : Nat) (f : Addr) (dvs : List Value) (D : Deeds) (need : List (Addr × Obj)) (vs : List Value) (P : Value → Prop) : Prop :=
  ∀ (p : Program) (loose : List Str) (mean : ExcName → Option Value) (mg mb : Str → Option Value)
    (dp un : Nat) (gd : Option (List Code)) (cn : Str) (cs : Scope) (a : Addr) (ccd : Value) (cl : List (Str × Addr)) (outer : List Env) (A₀ : Around) (base h₀ : Heap) (L : Addr) (m : Str → Option Value) (news : List (Addr × Obj)) (s : Shared) (Q E : Value → Shared → Prop),
    Below A₀ base outer h₀ → Fr h₀ L s.heap m → (hd.heap_1 w.params).In h₀ → News h₀ L s.heap news → Top p loose mean mg mb h₀ → cs.kind = .function →
    dp + d < recursionLimit → un + 8 * d < cLine → (∀ q ∈ need, q ∈ news) → DeedsN h₀ news dvs D →
    (∀ v h' tk', Fr h₀ L h' m → News h₀ L h' news → P v → Q v { s with heap := h', toks := tk' }) →
    wpAny (model PR w) (ktrTop dp un gd cn cs L a ccd cl outer) (call (.ref f) vs) Q E s
def PureD9 (w : World) (d : Nat) (f : Addr) (dvs : List Value) (D : Deeds) (need : List (Addr × Obj)) (vs : List Value) (P : Value → Prop) (p : Program) (loose : List Str) (mean : ExcName → Option Value) (mg : Str → Option Value) (mb : Str → Option Value) (dp : Nat) (un : Nat) (gd : Option (List Code)) (cn : Str) (cs : Scope) (a : Addr) (ccd : Value) (cl : List (Str × Addr)) (outer : List Env) (A₀ : Around) (base : Heap) (h₀ : Heap) (L : Addr) (m : Str → Option Value) (news : List (Addr × Obj)) (s : Shared) (Q : Value → Shared → Prop) (E : Value → Shared → Prop) : Prop :=
    Below A₀ base outer h₀ → Fr h₀ L s.heap m → (hd.heap_1 w.params).In h₀ → News h₀ L s.heap news → Top p loose mean mg mb h₀ → cs.kind = .function →
    dp + d < recursionLimit → un + 8 * d < cLine → (∀ q ∈ need, q ∈ news) → DeedsN h₀ news dvs D →
    (∀ v h' tk', Fr h₀ L h' m → News h₀ L h' news → P v → Q v { s with heap := h', toks := tk' }) →
    wpAny (model PR w) (ktrTop dp un gd cn cs L a ccd cl outer) (call (.ref f) vs) Q E s
theorem PureD_of (w : World) (d : Nat) (f : Addr) (dvs : List Value) (D : Deeds) (need : List (Addr × Obj)) (vs : List Value) (P : Value → Prop) (h : ∀  (v : KV), v.to (PureD9 w d f dvs D need vs P)) : PureD w d f dvs D need vs P := fun p loose mean mg mb dp un gd cn cs a ccd cl outer A₀ base h₀ L m news s Q E => h  ⟨p, loose, mean, mg, mb, dp, un, gd, cn, cs, a, ccd, cl, outer, A₀, base, h₀, L, m, news, s, Q, E⟩

theorem PureD.use {d : Nat} {f : Addr} {dvs : List Value} {P : Value → Prop} 
    
    (C : PureD w d f dvs D need vs P) (B : Below A₀ base outer h₀) (F : Fr h₀ L s.heap m) (X : (hd.heap_1 w.params).In h₀) (N : News h₀ L s.heap news) (T : Top p loose mean mg mb h₀) (hk : cs.kind = .function)
    (h1 : dp + d < recursionLimit) (h2 : un + 8 * d < cLine) (hn : ∀ q ∈ need, q ∈ news) (hd : DeedsN h₀ news dvs D)
    (ret : ∀ v h' tk', Fr h₀ L h' m → News h₀ L h' news → P v → Q v { s with heap := h', toks := tk' }) :
    wpAny (model PR w) (ktrTop dp un gd cn cs L a ccd cl outer) (call (.ref f) vs) Q E s :=
  C _ _ _ _ _ _ _ _ _ _ _ _ _ _ _ _ _ _ _ _ _ _ _ B F X N T hk h1 h2 hn hd ret
theorem since_use {dl : Addr} {c : Nat} 
    
    (hlen : D.length ≤ 1000) (B : Below A₀ base outer h₀) (F : Fr h₀ L s.heap m) (X : (hd.heap_1 w.params).In h₀) (N : News h₀ L s.heap news) (T : Top p loose mean mg mb h₀) (hk : cs.kind = .function)
    (h1 : dp + 24 < recursionLimit) (h2 : un + 8 * 24 < cLine) (hm : (dl, listOf (List.toArray vs) c) ∈ news) (hd : DeedsN h₀ news vs D)
    (ret : ∀ r o h' tk', Fr h₀ L h' m → News h₀ L h' ((r, o) :: news) → SinceO (lawSince D) o → Q (.ref r) { s with heap := h', toks := tk' }) :
    wpAny (model PR w) (ktrTop dp un gd cn cs L a ccd cl outer) (call (.ref 684) [.ref dl]) Q E s :=
  since_t w dl c vs D hlen rfl _ _ _ _ _ _ _ _ _ _ _ _ _ _ _ _ _ _ _ _ _ _ _ B F X N T hk h1 h2 (need_cons hm need_nil) hd ret
theorem over_n (h : endOf sv wo = none) : overAt (endOf sv wo) now = false := by rw [h]; rfl
theorem over_f (h : endOf sv wo = some e) (hl : now < e) : overAt (endOf sv wo) now = false := by rw [h]; simp only [overAt]; exact decide_eq_false (by omega)
theorem over_t (h : endOf sv wo = some e) (hl : e ≤ now) : overAt (endOf sv wo) now = true := by rw [h]; simp only [overAt]; exact decide_eq_true hl
theorem ping_n (h : endOf sv wo = none) : pingAt (endOf sv wo) asked now r = false := by rw [h]; rfl
theorem ping_f (h : endOf sv wo = some e) (hl : now + r < e) : pingAt (endOf sv wo) asked now r = false := by rw [h]; simp only [pingAt]; rw [decide_eq_false (by omega), Bool.and_false]
theorem ping_t (h : endOf sv wo = some e) (hl : e ≤ now + r) : pingAt (endOf sv wo) asked now r = !asked := by rw [h]; simp only [pingAt]; rw [decide_eq_true hl, Bool.and_true]
end
section
set_option Elab.async false
set_option maxRecDepth 100000
set_option maxHeartbeats 800000
set_option genInjectivity false in
set_option genSizeOf false in
structure ConnV where
  (cd sp kp pb rm rd fl cc ct cdd pl pd sd : Addr)
  (ces res es ecd : List DictEntry)
  (cen ren : Nat)
  (osp okp opb occ osd : Obj)
  (cvs : Array Value)
  (ql : Str)
  (pmv ctv : Value)
  (tq tb tkey tpr : Tok)
  (pr fl9 : Int)
  (kvs : List (Int × Value))
  (packs : List (Addr × Obj))
def ConnV.fix (c : ConnV) (co : Addr) : List (Addr × Obj) := [(co, instObj 654 c.cd), (c.cd, dictOf c.ces c.cen), (c.sp, c.osp), (c.kp, c.okp), (c.rm, instObj 654 c.rd), (c.rd, dictOf c.res c.ren), (c.fl, (kla_obj (Str.ofString "<lambda>") c.ql { posonlyargs := [], args := [], vararg := none, kwonlyargs := [], kw_defaults := [], kwarg := none, defaults := [] } (PySem.Expr.Constant (PySem.Const.bytes [112, 101, 101, 114]) 0 { line := 464, col := 29, endLine := 464, endCol := 36 }) { kind := .function, names := [], isGenerator := false, isCoroutine := false } [] c.pmv c.cc c.ctv)), (c.cc, c.occ), (c.ct, instObj 445 c.cdd), (c.pl, instObj 654 c.pd)]
set_option genInjectivity false in
set_option genSizeOf false in
structure ConnF (w : World) (h₀ : Heap) (co ia : Addr) (nn : Nat) (X : List (Addr × Obj)) (c : ConnV) : Prop where
  m1 : (c.pd, dictOf c.es 17) ∈ X
  m2 : (c.sd, c.osd) ∈ X
  m3 : (c.cdd, dictOf c.ecd 6) ∈ X
  m4 : (c.pb, c.opb) ∈ X
  mf : ∀ q ∈ c.fix co, q ∈ X
  mp : ∀ q ∈ c.packs, q ∈ X
  nd : @Ne Nat c.pd c.sd ∧ @Ne Nat c.pd c.cdd ∧ @Ne Nat c.pd c.pb ∧ @Ne Nat c.sd c.cdd ∧ @Ne Nat c.sd c.pb ∧ @Ne Nat c.cdd c.pb
  nf : ∀ q ∈ c.fix co, q.1 ∉ ([c.pd, c.sd, c.cdd, c.pb] : List Nat)
  np : ∀ q ∈ c.packs, q.1 ∉ ([c.pd, c.sd, c.cdd, c.pb] : List Nat)
  npf : ∀ q ∈ c.packs, ∀ r ∈ c.fix co, @Ne Nat q.1 r.1
  hS : SentN h₀ c.packs c.kvs
  hK : c.kvs.map (·.1) = (List.range nn).map Int.ofNat
  hE : SpaceE w nn c.sd c.es
  hR : RenoE w c.fl9 c.ecd
  hc1 : getL (Str.ofString "spaces") c.ces = some (some (.ref c.sp))
  hc2 : getL (Str.ofString "keys") c.ces = some (some (.ref c.kp))
  hc3 : getL (Str.ofString "probes") c.ces = some (some (.ref c.pb))
  hc4 : getL (Str.ofString "control") c.ces = some (some (.ref c.ct))
  hc5 : getL (Str.ofString "own_cid") c.ces = some (some (.bytes #[111, 119, 110] c.tb))
  hc6 : getL (Str.ofString "remote") c.ces = some (some (.ref c.rm))
  hc7 : getL (Str.ofString "idle") c.ces = some (some (.ref ia))
  hpr : getL (Str.ofString "present") c.res = some (some (.ref c.fl))
  hcc : c.occ.data = .fields c.cvs
  hcq : c.cvs[1]? = some (.str c.ql c.tq)
  hsp : c.osp.IsDictOf (PySem.strKind PR w) [(Str.ofString "application", .ref c.pl)]
  hkp : c.okp.IsDictOf (PySem.strKind PR w) [(Str.ofString "application", .bytes #[107] c.tkey)]
  hpb : c.opb.IsDictOf (PySem.strKind PR w) [(Str.ofString "application", .int c.pr c.tpr)]
  hosd : c.osd.IsDictOf (PySem.intKind PR w) c.kvs
  hlo : (c.sd == sysModules) = false
def ConnIn (w : World) (h₀ : Heap) (co ia : Addr) (nn : Nat) (X : List (Addr × Obj)) : Prop := ∃ c, ConnF w h₀ co ia nn X c
variable {w : World} {h₀ : Heap} {co ia : Addr} {nn : Nat} {X need news : List (Addr × Obj)} {h h' : Heap} {L : Addr} {l : List (Addr × Obj)} {chg : List Nat} {o : Obj} {q : Addr × Obj} {D : Deeds} {x : Nat}
theorem ConnIn.mono {Y : List (Addr × Obj)} (C : ConnIn w h₀ co ia nn X) (hs : ∀ q ∈ X, q ∈ Y) : ConnIn w h₀ co ia nn Y :=
  C.elim fun c C => ⟨c, hs _ C.m1, hs _ C.m2, hs _ C.m3, hs _ C.m4, fun q hq => hs q (C.mf q hq), fun q hq => hs q (C.mp q hq), C.nd, C.nf, C.np, C.npf, C.hS, C.hK, C.hE, C.hR, C.hc1, C.hc2, C.hc3, C.hc4, C.hc5, C.hc6, C.hc7, C.hpr, C.hcc, C.hcq, C.hsp, C.hkp, C.hpb, C.hosd, C.hlo⟩
theorem sent_rest {packs : List (Addr × Obj)} {kvs : List (Int × Value)} (S : SentN h₀ packs kvs) (hp : ∀ q ∈ packs, q ∈ news) (hn : ∀ q ∈ packs, q.1 ∉ need.map (·.1)) : SentN h₀ (restOf need news) kvs := fun k v hk => by
  obtain ⟨px, pxd, es, n, b, rfl, b1, b2, hb⟩ := S k v hk
  have go : ∀ {a o}, Bears h₀ packs a o → Bears h₀ (restOf need news) a o := fun {a o} x => x.elim (fun q => .inl (List.mem_filter.mpr ⟨hp _ q, by simpa using hn _ q⟩)) .inr
  exact ⟨px, pxd, es, n, b, rfl, go b1, go b2, hb⟩
theorem back_keep (N : News h₀ L h news) (hn : ∀ q ∈ need, q ∈ news) (hk : ∀ q ∈ need, q.1 ∈ chg ∨ q ∈ l) (N1 : News h₀ L h' l) (N2 : News h₀ L h' (restOf need news)) :
    ∀ q ∈ news, q.1 ∉ chg → News h₀ L h' [q] := fun p hp hc => by
  intro x hx
  rw [List.mem_singleton.mp hx]
  by_cases q : p.1 ∈ need.map (·.1)
  · obtain ⟨r, hr, e⟩ := List.mem_map.mp q
    have h1 := (N r (hn r hr)).1
    rw [e, (N p hp).1] at h1
    have e2 : r = p := Prod.ext e (Option.some.inj h1).symm
    subst e2
    exact N1 r ((hk r hr).resolve_left hc)
  · exact N2 p (List.mem_filter.mpr ⟨hp, by simpa using q⟩)
theorem dict_not_tuple {K : Type} [DecidableEq K] {knd : KeyKind PR w K} {kvs : List (K × Value)} (h : o.IsDictOf knd kvs) (t s : Int) (u1 u2 : Tok) : o ≠ deedO t s u1 u2 := fun e => by
  obtain ⟨es, ep, _, hd, _⟩ := h
  rw [e] at hd
  cases hd
theorem keys_next {kvs : List (Int × Value)} {v : Value} (h : kvs.map (·.1) = (List.range nn).map Int.ofNat) : (kvs ++ [((nn : Int), v)]).map (·.1) = (List.range (nn + 1)).map Int.ofNat := by
  rw [List.map_append, h, List.range_succ, List.map_append]; rfl
theorem keys_len {kvs : List (Int × Value)} (h : kvs.map (·.1) = (List.range nn).map Int.ofNat) : kvs.length = nn := by
  have := congrArg List.length h
  simpa using this
theorem keys_new {kvs : List (Int × Value)} (h : kvs.map (·.1) = (List.range nn).map Int.ofNat) : stored kvs (nn : Int) = fun v => kvs ++ [((nn : Int), v)] := by
  funext v
  refine stored_absent (valueAt_none_of_not_mem ?_) v
  rw [h]
  intro hm
  obtain ⟨i, hi, e⟩ := List.mem_map.mp hm
  have h1 := List.mem_range.mp hi
  have h2 : i = nn := Int.ofNat.inj e
  omega
def butOf (chg : List Nat) (X : List (Addr × Obj)) : List (Addr × Obj) := X.filter fun p => !chg.contains p.1
theorem butOf_mem : q ∈ butOf chg X ↔ q ∈ X ∧ q.1 ∉ chg := by
  unfold butOf
  rw [List.mem_filter]
  simp
theorem DeedsN.but {pre : List (Addr × Obj)} {vs : List Value} (x : DeedsN h₀ X vs D) (hc : ∀ a t s u1 u2, (a, deedO t s u1 u2) ∈ X → a ∉ chg) : DeedsN h₀ (pre ++ butOf chg X) vs D :=
  ⟨x.1, fun i t s hd => by
    obtain ⟨a, u1, u2, e1, e2⟩ := x.2 i t s hd
    exact ⟨a, u1, u2, e1, e2.imp (fun q => List.mem_append_right _ (butOf_mem.mpr ⟨q, hc _ _ _ _ _ q⟩)) id⟩⟩
theorem news_all (hl : ∀ q ∈ l, News h₀ L h [q]) : News h₀ L h l := fun p hp => hl p hp p List.mem_cons_self
theorem or_nil : ∀ q ∈ ([] : List (Addr × Obj)), q.1 ∈ chg ∨ q ∈ l := fun _ h => nomatch h
theorem or_cons {n : List (Addr × Obj)} (h : q.1 ∈ chg ∨ q ∈ l) (hr : ∀ q ∈ n, q.1 ∈ chg ∨ q ∈ l) : ∀ x ∈ q :: n, x.1 ∈ chg ∨ x ∈ l := fun x hx => by
  rcases List.mem_cons.mp hx with rfl | hx
  · exact h
  · exact hr x hx
theorem deed_ne_dict {t s : Int} {u1 u2 : Tok} {es : List DictEntry} {n : Nat} : deedO t s u1 u2 ≠ dictOf es n := fun e => by
  have h : Value.type "tuple" = Value.type "dict" := congrArg Obj.cls e
  exact absurd h (by decide)
theorem two_places (N : News h₀ L h l) {a b : Addr} {p : Obj} (h1 : (a, o) ∈ l) (h2 : (b, p) ∈ l) (ne : o ≠ p) : a ≠ b := fun e => by
  subst e
  have q1 : h.get? a = some o := (N _ h1).1
  have q2 : h.get? a = some p := (N _ h2).1
  rw [q1] at q2
  exact ne (Option.some.inj q2)
theorem not4 {a b c d : Nat} (h : x ∉ [a, b, c, d]) : x ≠ a ∧ x ≠ b ∧ x ≠ c ∧ x ≠ d := by simpa using h
theorem in4 {a b c d : Nat} (h1 : x ≠ a) (h2 : x ≠ b) (h3 : x ≠ c) (h4 : x ≠ d) : x ∉ [a, b, c, d] := by simp [h1, h2, h3, h4]
theorem six_seven {a b c d e f g : Addr × Obj} (h : q ∈ [a, b, c, d, e, g]) : q ∈ a :: b :: c :: d :: e :: f :: g :: l := by
  simp only [List.mem_cons, List.not_mem_nil, or_false] at h ⊢
  rcases h with h | h | h | h | h | h <;> simp [h]
theorem one_obj (N : News h₀ L h l) {a : Addr} {p : Obj} (h1 : (a, o) ∈ l) (h2 : (a, p) ∈ l) : o = p := by
  have q1 : h.get? a = some o := (N _ h1).1
  have q2 : h.get? a = some p := (N _ h2).1
  rw [q1] at q2
  exact Option.some.inj q2
theorem back5 {a1 a2 a3 a4 a5 : Addr} {o1 o2 o3 o4 o5 : Obj} {FX : List (Addr × Obj)} (N : News h₀ L h news) (hn : ∀ q ∈ (a1, o1) :: (a2, o2) :: (a3, o3) :: (a4, o4) :: (a5, o5) :: FX, q ∈ news) (hl : ∀ q ∈ FX, q ∈ l)
    (N' : News h₀ L h' (l ++ restOf ((a1, o1) :: (a2, o2) :: (a3, o3) :: (a4, o4) :: (a5, o5) :: FX) news)) (hq : q ∈ news) (h1 : @Ne Nat q.1 a1) (h2 : @Ne Nat q.1 a2) (h3 : @Ne Nat q.1 a3) (h4 : @Ne Nat q.1 a4) (h5 : @Ne Nat q.1 a5) : News h₀ L h' [q] :=
  back_keep (chg := [a1, a2, a3, a4, a5]) (l := l) N hn (fun x hx => by
    simp only [List.mem_cons] at hx
    rcases hx with rfl | rfl | rfl | rfl | rfl | hx
    · exact .inl (by simp)
    · exact .inl (by simp)
    · exact .inl (by simp)
    · exact .inl (by simp)
    · exact .inl (by simp)
    · exact .inr (hl x hx)) (fun q hq => N' q (List.mem_append_left _ hq)) (fun q hq => N' q (List.mem_append_right _ hq)) q hq (by simp [show q.1 ≠ a1 from h1, show q.1 ≠ a2 from h2, show q.1 ≠ a3 from h3, show q.1 ≠ a4 from h4, show q.1 ≠ a5 from h5])
theorem seal_g {da row f : Addr} {k1 k2 k3 k4 t1 t2 ts tf : Tok} {own peer : Int} {asked : Bool} {sv : Option Int} {crow : Nat} {fx : List Value} {now : Int} {tn tsp : Tok} {FO : List (Addr × Obj)} {dvs : List Value} (el : Bool) (n k : Nat) (hn9 : n = 1 ∧ k = 3 ∨ n = 5 ∧ k = 5) {p : Program} {loose : List Str} {mean : ExcName → Option Value} {mg mb : Str → Option Value}
    {dp un : Nat} {gd : Option (List Code)} {cn : Str} {cs : Scope} {a : Addr} {ccd : Value} {cl : List (Str × Addr)} {outer : List Env} {A₀ : Around} {base : Heap} {m : Str → Option Value} {s : Shared} {Q E : Value → Shared → Prop}
    (hE : PureM w 12 469 FO [.ref row] (fun v => v = .bool el)) (hF : PureM w 12 474 FO [.ref row] (fun v => v = .bool el)) (hPF : PureN w 24 205 FO [.ref row] (BytesOf n)) (mrow : (row, listOf #[.ref f] crow) ∈ FO) (mf : (f, ({ cls := .type "tuple", data := .seq (.str (kindOf9 el) tf :: fx).toArray } : Obj)) ∈ FO)
    (B : Below A₀ base outer h₀) (F : Fr h₀ L s.heap m) (XK : (hd.heap_1 w.params).In h₀) (N : News h₀ L s.heap news) (T : Top p loose mean mg mb h₀) (hk : cs.kind = .function) (h1 : dp + 40 < recursionLimit) (h2 : un + 8 * 40 < cLine)
    (C : ConnIn w h₀ co ia nn X) (hn8 : nn ≤ 7) (HD : DeedsN h₀ X dvs D) (hX : ∀ q ∈ X, q ∈ news) (hO : ∀ q ∈ ((da, dictOf [⟨PyData.keyHash w.params (Str.ofString "own"), .str (Str.ofString "own") k1, .int own t1⟩, ⟨PyData.keyHash w.params (Str.ofString "peer"), .str (Str.ofString "peer") k2, .int peer t2⟩, ⟨PyData.keyHash w.params (Str.ofString "since"), .str (Str.ofString "since") k3, optV sv ts⟩, ⟨PyData.keyHash w.params (Str.ofString "has_asked"), .str (Str.ofString "has_asked") k4, .bool asked⟩] 4) :: (ia, instObj 85 da) :: FO : List (Addr × Obj)), q ∈ news ∧ ∀ p ∈ X, @Ne Nat p.1 q.1) (hia : @Ne Nat ia da) (hfd : ∀ q ∈ FO, @Ne Nat q.1 da)
    (ret : ∀ v h' tk' ts' X', Fr h₀ L h' m → News h₀ L h' ((da, dictOf [⟨PyData.keyHash w.params (Str.ofString "own"), .str (Str.ofString "own") k1, .int own t1⟩, ⟨PyData.keyHash w.params (Str.ofString "peer"), .str (Str.ofString "peer") k2, .int peer t2⟩, ⟨PyData.keyHash w.params (Str.ofString "since"), .str (Str.ofString "since") k3, optV (sentS el asked sv now) ts'⟩, ⟨PyData.keyHash w.params (Str.ofString "has_asked"), .str (Str.ofString "has_asked") k4, .bool (el || asked)⟩] 4) :: (butOf (da :: X.map (·.1)) news ++ X')) → ConnIn w h₀ co ia (nn + 1) X' → DeedsN h₀ X' dvs D → (∀ q ∈ X, (∀ es n, q.2.data ≠ .dict es n) → q ∈ X') → (∀ p ∈ X', @Ne Nat p.1 da) → (∀ q ∈ butOf (da :: X.map (·.1)) news, ∀ p ∈ X', @Ne Nat p.1 q.1) → Q v { s with heap := h', toks := tk' }) :
    wpG (model PR w) (ktrTop dp un gd cn cs L a ccd cl outer) (call (.ref 351) [.ref co, .str (Str.ofString "application") tsp, .ref row, .int now tn]) Q E s := by
  obtain ⟨c, C⟩ := C
  obtain ⟨d12, d13, d14, d23, d24, d34⟩ := C.nd
  have hda := (hO _ (.head _)).2
  have inX : ∀ q ∈ X, q.1 ∈ da :: X.map (·.1) := fun q hq => .tail _ (List.mem_map.mpr ⟨q, hq, rfl⟩)
  have sep : ∀ b ob, (b, ob) ∈ X → (∀ q ∈ c.fix co, @Ne Nat q.1 b) → ∀ q ∈ (ia, instObj 85 da) :: (c.fix co ++ FO), @Ne Nat q.1 b := fun b ob hb hf q hq => by
    rcases List.mem_cons.mp hq with rfl | hq
    · exact Ne.symm ((hO _ (.tail _ (.head _))).2 _ hb)
    rcases List.mem_append.mp hq with hq | hq
    · exact hf q hq
    · exact Ne.symm ((hO q (.tail _ (.tail _ hq))).2 _ hb)
  have hFX : ∀ q ∈ (ia, instObj 85 da) :: (c.fix co ++ FO), q ∈ news := fun q hq => by
    rcases List.mem_cons.mp hq with rfl | hq
    · exact (hO _ (.tail _ (.head _))).1
    rcases List.mem_append.mp hq with hq | hq
    · exact hX q (C.mf q hq)
    · exact (hO q (.tail _ (.tail _ hq))).1
  have hneed : ∀ q ∈ (c.pd, dictOf c.es 17) :: (c.sd, c.osd) :: (c.cdd, dictOf c.ecd 6) :: (da, dictOf [⟨PyData.keyHash w.params (Str.ofString "own"), .str (Str.ofString "own") k1, .int own t1⟩, ⟨PyData.keyHash w.params (Str.ofString "peer"), .str (Str.ofString "peer") k2, .int peer t2⟩, ⟨PyData.keyHash w.params (Str.ofString "since"), .str (Str.ofString "since") k3, optV sv ts⟩, ⟨PyData.keyHash w.params (Str.ofString "has_asked"), .str (Str.ofString "has_asked") k4, .bool asked⟩] 4) :: (c.pb, c.opb) :: (ia, instObj 85 da) :: (c.fix co ++ FO), q ∈ news :=
    need_cons (hX _ C.m1) (need_cons (hX _ C.m2) (need_cons (hX _ C.m3) (need_cons (hO _ (.head _)).1 (need_cons (hX _ C.m4) hFX))))
  refine sealed_g w co c.cd c.sp c.kp c.pb c.rm c.rd c.fl c.cc c.ct c.cdd c.pl c.pd c.sd row f c.ces c.res c.es c.ecd c.cen c.ren crow c.osp c.okp c.opb c.occ c.osd c.cvs c.ql c.pmv c.ctv c.tq c.tb c.tkey c.tpr tf c.pr nn c.fl9 c.kvs ia da k1 k2 k3 k4 t1 t2 ts own peer asked sv ((ia, instObj 85 da) :: (c.fix co ++ FO)) FO fx el n k now tn tsp
    C.hc1 C.hc2 C.hc3 C.hc4 C.hc5 C.hc6 C.hc7 C.hpr C.hcc C.hcq C.hsp C.hkp C.hpb C.hosd C.hlo (by rw [keys_len C.hK]; exact hn8) (Int.natCast_nonneg _) (by omega) (keys_new C.hK) C.hE C.hR
    (.tail _ (List.mem_append_left _ (.head _))) (.tail _ (List.mem_append_left _ (.tail _ (.head _)))) (.tail _ (List.mem_append_left _ (.tail _ (.tail _ (.head _))))) (.tail _ (List.mem_append_left _ (.tail _ (.tail _ (.tail _ (.head _)))))) (.tail _ (List.mem_append_left _ (.tail _ (.tail _ (.tail _ (.tail _ (.head _))))))) (.tail _ (List.mem_append_left _ (.tail _ (.tail _ (.tail _ (.tail _ (.tail _ (.head _)))))))) (.tail _ (List.mem_append_left _ (.tail _ (.tail _ (.tail _ (.tail _ (.tail _ (.tail _ (.head _))))))))) (.tail _ (List.mem_append_left _ (.tail _ (.tail _ (.tail _ (.tail _ (.tail _ (.tail _ (.tail _ (.head _)))))))))) (.tail _ (List.mem_append_left _ (.tail _ (.tail _ (.tail _ (.tail _ (.tail _ (.tail _ (.tail _ (.tail _ (.head _))))))))))) (.head _) (.tail _ (List.mem_append_left _ (.tail _ (.tail _ (.tail _ (.tail _ (.tail _ (.tail _ (.tail _ (.tail _ (.tail _ (.head _)))))))))))) (.tail _ (List.mem_append_right _ mrow)) (.tail _ (List.mem_append_right _ mf)) (fun q hq => .tail _ (List.mem_append_right _ hq))
    (sep _ _ C.m1 fun q hq => (not4 (C.nf q hq)).1) (sep _ _ C.m2 fun q hq => (not4 (C.nf q hq)).2.1) (sep _ _ C.m3 fun q hq => (not4 (C.nf q hq)).2.2.1) ?_ (sep _ _ C.m4 fun q hq => (not4 (C.nf q hq)).2.2.2)
    d12 d13 (hda _ C.m1) d14 d23 (hda _ C.m2) d24 (hda _ C.m3) d34 (Ne.symm (hda _ C.m4)) (fun q hq => Ne.symm ((hO q (.tail _ (.tail _ hq))).2 _ C.m1)) (fun q hq => Ne.symm ((hO q (.tail _ (.tail _ hq))).2 _ C.m2)) hE hF hPF hn9
    rfl p loose mean mg mb dp un gd cn cs a ccd cl outer A₀ base h₀ L m news s Q E B F XK N T hk h1 h2 hneed ?_ ?_
  · intro q hq
    rcases List.mem_cons.mp hq with rfl | hq
    · exact hia
    rcases List.mem_append.mp hq with hq | hq
    · exact hda q (C.mf q hq)
    · exact hfd q hq
  · refine sent_rest C.hS (fun q hq => hX q (C.mp q hq)) fun q hq hm => ?_
    obtain ⟨r, hr, e⟩ := List.mem_map.mp hm
    have e' : @Eq Nat r.1 q.1 := e
    obtain ⟨p1, p2, p3, p4⟩ := not4 (C.np q hq)
    simp only [List.mem_cons] at hr
    rcases hr with rfl | rfl | rfl | rfl | rfl | rfl | hr
    · exact p1 e'.symm
    · exact p2 e'.symm
    · exact p3 e'.symm
    · exact hda q (C.mp q hq) e'.symm
    · exact p4 e'.symm
    · exact (hO _ (.tail _ (.head _))).2 q (C.mp q hq) e'.symm
    · rcases List.mem_append.mp hr with hr | hr
      · exact C.npf q hq r hr e'.symm
      · exact (hO r (.tail _ (.tail _ hr))).2 q (C.mp q hq) e'.symm
  · intro v px pxd esx es' ecd' ts' tpr' pr' fl' osd' opb' h' tk' F' N' e1 e2 e3 hif hS' hR' hod hob
    have hNX : News h₀ L s.heap X := fun q hq => N q (hX q hq)
    have bk : ∀ q ∈ news, q.1 ∉ ([c.pd, c.sd, c.cdd, c.pb] : List Nat) → @Ne Nat q.1 da → News h₀ L h' [q] := fun q hq h4 h5 =>
      let ⟨p1, p2, p3, p4⟩ := not4 h4
      back5 N hneed (fun q hq => .tail _ (.tail _ (.tail _ (.tail _ (.tail _ (.tail _ (.tail _ hq))))))) N' hq p1 p2 p3 h5 p4
    have new6 : ∀ b, (∀ p ∈ X, @Ne Nat p.1 b) → @Ne Nat px b → @Ne Nat pxd b → ∀ p ∈ ([(px, instObj 511 pxd), (pxd, dictOf esx 6), (c.pd, dictOf es' 17), (c.sd, osd'), (c.cdd, dictOf ecd' 6), (c.pb, opb')] : List (Addr × Obj)) ++ butOf [c.pd, c.sd, c.cdd, c.pb] X, @Ne Nat p.1 b := fun b hb h1 h2 p hp => by
      rcases List.mem_append.mp hp with hp | hp
      · exact ne_all_cons h1 (ne_all_cons h2 (ne_all_cons (show @Ne Nat c.pd b from hb _ C.m1) (ne_all_cons (show @Ne Nat c.sd b from hb _ C.m2) (ne_all_cons (show @Ne Nat c.cdd b from hb _ C.m3) (ne_all_cons (show @Ne Nat c.pb b from hb _ C.m4) ne_all_nil))))) p hp
      · exact hb p (butOf_mem.mp hp).1
    have gone : ∀ q ∈ c.fix co, @Ne Nat px q.1 ∧ @Ne Nat pxd q.1 := fun q hq => ⟨Ne.symm (e1 _ (hX _ (C.mf q hq))), Ne.symm (e2 _ (hX _ (C.mf q hq)))⟩
    have hin : ∀ b ob, (b, ob) ∈ X → @Ne Nat px b ∧ @Ne Nat pxd b := fun b ob hb => ⟨Ne.symm (e1 _ (hX _ hb)), Ne.symm (e2 _ (hX _ hb))⟩
    have n1 := hin _ _ C.m1
    have n2 := hin _ _ C.m2
    have n3 := hin _ _ C.m3
    have n4 := hin _ _ C.m4
    have up : ∀ q ∈ X, q.1 ∉ ([c.pd, c.sd, c.cdd, c.pb] : List Nat) → q ∈ ([(px, instObj 511 pxd), (pxd, dictOf esx 6), (c.pd, dictOf es' 17), (c.sd, osd'), (c.cdd, dictOf ecd' 6), (c.pb, opb')] : List (Addr × Obj)) ++ butOf [c.pd, c.sd, c.cdd, c.pb] X := fun q hq h => List.mem_append_right _ (butOf_mem.mpr ⟨hq, h⟩)
    refine ret v h' tk' ts' (([(px, instObj 511 pxd), (pxd, dictOf esx 6), (c.pd, dictOf es' 17), (c.sd, osd'), (c.cdd, dictOf ecd' 6), (c.pb, opb')] : List (Addr × Obj)) ++ butOf [c.pd, c.sd, c.cdd, c.pb] X) F' (fun q hq => ?_) ⟨{ c with es := es', ecd := ecd', osd := osd', opb := opb', pr := pr', fl9 := fl', tpr := tpr', kvs := c.kvs ++ [((nn : Int), .ref px)], packs := (px, instObj 511 pxd) :: (pxd, dictOf esx 6) :: c.packs },
      (.tail _ (.tail _ (.head _))), (.tail _ (.tail _ (.tail _ (.head _)))), (.tail _ (.tail _ (.tail _ (.tail _ (.head _))))), (.tail _ (.tail _ (.tail _ (.tail _ (.tail _ (.head _)))))), fun q hq => up q (C.mf q hq) (C.nf q hq), fun q hq => ?_, C.nd, C.nf, fun q hq => ?_, fun q hq r hr => ?_, fun k v hk => ?_, keys_next C.hK, hS', hR', C.hc1, C.hc2, C.hc3, C.hc4, C.hc5, C.hc6, C.hc7, C.hpr, C.hcc, C.hcq, C.hsp, C.hkp, hob, hod, C.hlo⟩
      (HD.but fun a t s u1 u2 hm hc => ?_) (fun q hq hd => up q hq fun hc => ?_) (new6 da (fun p hp => hda p hp) (Ne.symm (e1 _ (hO _ (.head _)).1)) (Ne.symm (e2 _ (hO _ (.head _)).1)))
      (fun q hq => ?_)
    · rcases List.mem_cons.mp hq with rfl | hq
      · exact N' _ (List.mem_append_left _ (.tail _ (.tail _ (.tail _ (.tail _ (.tail _ (.head _)))))))
      rcases List.mem_append.mp hq with hq | hq
      · obtain ⟨hq1, hq2⟩ := butOf_mem.mp hq
        have hz : ∀ b ob, (b, ob) ∈ X → @Ne Nat q.1 b := fun b ob hb e => hq2 (e ▸ inX _ hb)
        exact bk q hq1 (in4 (hz _ _ C.m1) (hz _ _ C.m2) (hz _ _ C.m3) (hz _ _ C.m4)) (fun e => hq2 (e ▸ .head _)) q (.head _)
      rcases List.mem_append.mp hq with hq | hq
      · exact N' q (List.mem_append_left _ (six_seven hq))
      · obtain ⟨hq1, hq2⟩ := butOf_mem.mp hq
        exact bk q (hX q hq1) hq2 (hda q hq1) q (.head _)
    · rcases List.mem_cons.mp hq with rfl | hq
      · exact (.head _)
      rcases List.mem_cons.mp hq with rfl | hq
      · exact (.tail _ (.head _))
      · exact up q (C.mp q hq) (C.np q hq)
    · rcases List.mem_cons.mp hq with rfl | hq
      · exact in4 n1.1 n2.1 n3.1 n4.1
      rcases List.mem_cons.mp hq with rfl | hq
      · exact in4 n1.2 n2.2 n3.2 n4.2
      · exact C.np q hq
    · rcases List.mem_cons.mp hq with rfl | hq
      · exact (gone r hr).1
      rcases List.mem_cons.mp hq with rfl | hq
      · exact (gone r hr).2
      · exact C.npf q hq r hr
    · rcases List.mem_append.mp hk with hk | hk
      · obtain ⟨px9, pxd9, es, n, b, rfl, b1, b2, hb⟩ := C.hS k v hk
        exact ⟨px9, pxd9, es, n, b, rfl, b1.imp (fun q => .tail _ (.tail _ q)) id, b2.imp (fun q => .tail _ (.tail _ q)) id, hb⟩
      · cases List.mem_singleton.mp hk
        exact ⟨px, pxd, esx, 6, _, rfl, .inl (.head _), .inl (.tail _ (.head _)), hif⟩
    · simp only [List.mem_cons, List.not_mem_nil, or_false] at hc
      rcases hc with hc | hc | hc | hc
      · exact two_places hNX hm C.m1 deed_ne_dict hc
      · exact two_places hNX hm C.m2 (fun e => dict_not_tuple C.hosd t s u1 u2 e.symm) hc
      · exact two_places hNX hm C.m3 deed_ne_dict hc
      · exact two_places hNX hm C.m4 (fun e => dict_not_tuple C.hpb t s u1 u2 e.symm) hc
    · simp only [List.mem_cons, List.not_mem_nil, or_false] at hc
      rcases hc with hc | hc | hc | hc
      · exact two_places hNX (a := q.1) (o := q.2) hq C.m1 (fun e => hd _ _ (congrArg Obj.data e)) hc
      · exact two_places hNX (a := q.1) (o := q.2) hq C.m2 (fun e => by obtain ⟨es, ep, _, hd9, _⟩ := C.hosd; exact hd _ _ ((congrArg Obj.data e).trans hd9)) hc
      · exact two_places hNX (a := q.1) (o := q.2) hq C.m3 (fun e => hd _ _ (congrArg Obj.data e)) hc
      · exact two_places hNX (a := q.1) (o := q.2) hq C.m4 (fun e => by obtain ⟨es, ep, _, hd9, _⟩ := C.hpb; exact hd _ _ ((congrArg Obj.data e).trans hd9)) hc
    · obtain ⟨hq1, hq2⟩ := butOf_mem.mp hq
      exact new6 q.1 (fun p hp e => hq2 ((show p.1 = q.1 from e) ▸ inX p hp)) (Ne.symm (e1 q hq1)) (Ne.symm (e2 q hq1))
end
section
set_option Elab.async false
set_option maxRecDepth 100000
set_option maxHeartbeats 3000000
local macro_rules | `(tactic| k_lt $h:ident) => `(tactic| skip)
theorem N2_rows0 : True := by
  k_with_none
  trivial
theorem N2_rows1 : True := by
  (k_with "k_room" => (ktr_room))
  (k_with "k_units" => (ktr_units))
  trivial
theorem isStr_self (n : Str) (t : Tok) : (Value.str n t).isStr n = true := by simp [Value.isStr]
theorem isStr_two {k : Value} {a b : Str} (h : k.isStr a = true) (hn : a ≠ b) : k.isStr b = false := by
  cases k <;> simp_all [Value.isStr]
def DictS (es : List DictEntry) (k : Nat) : Prop := (∀ e ∈ es, e.refKey = false) ∧ es.length ≤ k
theorem dictS_of {es : List DictEntry} {k : Nat} (h : (es.all fun e => !e.refKey) = true) (hl : es.length ≤ k) : DictS es k := ⟨fun e he => by simpa using List.all_eq_true.mp h e he, hl⟩
theorem SpaceE.dictS {w : World} {nn : Int} {sd : Addr} {es : List DictEntry} (h : SpaceE w nn sd es) : DictS es 17 := by
  obtain ⟨j, v, rfl⟩ := h
  exact dictS_of rfl (Nat.le_of_ble_eq_true rfl)
theorem putL_mem {name : Str} {hh : Int} {t : Tok} {v : Value} : ∀ {es : List DictEntry}, (∀ e ∈ es, e.refKey = false) → ∀ e ∈ putL name hh (.str name t) v es, e.refKey = false
  | [], _, e, he => by rw [List.mem_singleton.mp he]; rfl
  | x :: r, h, e, he => by
    unfold putL at he
    split at he
    · rcases List.mem_cons.mp he with rfl | he
      · exact h x (.head _)
      · exact h e (.tail _ he)
    · rcases List.mem_cons.mp he with rfl | he
      · exact h _ (.head _)
      · exact putL_mem (fun e he => h e (.tail _ he)) e he
theorem putL_len {name : Str} {hh : Int} {k v : Value} : ∀ {es : List DictEntry}, (putL name hh k v es).length ≤ es.length + 1
  | [] => Nat.le_refl _
  | x :: r => by
    unfold putL
    split
    · exact Nat.le_succ _
    · exact Nat.succ_le_succ putL_len
theorem DictS.put {name : Str} {hh : Int} {t : Tok} {v : Value} {es : List DictEntry} {k : Nat} (h : DictS es k) : DictS (putL name hh (.str name t) v es) (k + 1) := ⟨putL_mem h.1, Nat.le_trans putL_len (Nat.succ_le_succ h.2)⟩
theorem DictS.get {name : Str} {es : List DictEntry} {k : Nat} (h : DictS es k) : (getL name es).isSome = true := by
  unfold getL
  split
  · rfl
  · rw [if_neg]
    · rfl
    · intro e
      obtain ⟨x, hx, q⟩ := List.any_eq_true.mp e
      rw [h.1 x hx] at q
      cases q
theorem gp_self {name : Str} {hh : Int} {t : Tok} {v : Value} : ∀ {es : List DictEntry}, getL name (putL name hh (.str name t) v es) = some (some v)
  | [] => by simp [getL, putL, isStr_self]
  | x :: r => by
    have ih := @gp_self name hh t v r
    unfold putL
    split
    · rename_i h; simp [getL, h]
    · rename_i h
      unfold getL at ih ⊢
      rw [List.find?_cons_of_neg (by simpa using h)]
      split at ih
      · exact ih
      · exfalso; split at ih <;> cases ih
theorem find_put {name n : Str} {hh : Int} {t : Tok} {v : Value} (hn : name ≠ n) : ∀ {es : List DictEntry}, ((putL name hh (.str name t) v es).find? (·.key.isStr n)).map (·.val) = (es.find? (·.key.isStr n)).map (·.val)
  | [] => by simp [putL, isStr_two (isStr_self name t) hn]
  | x :: r => by
    have ih := @find_put name n hh t v hn r
    unfold putL
    split
    · rename_i h
      rw [List.find?_cons_of_neg (by simpa using isStr_two h hn), List.find?_cons_of_neg (by simpa using isStr_two h hn)]
    · cases hx : x.key.isStr n with
      | true => rw [List.find?_cons_of_pos (by simpa using hx), List.find?_cons_of_pos (by simpa using hx)]
      | false => rw [List.find?_cons_of_neg (by simpa using hx), List.find?_cons_of_neg (by simpa using hx)]; exact ih
theorem gp_ne {name n : Str} {hh : Int} {t : Tok} {v u : Value} {es : List DictEntry} (hn : name ≠ n) (h : getL n es = some (some u)) : getL n (putL name hh (.str name t) v es) = some (some u) := by
  have e := @find_put name n hh t v hn es
  unfold getL at h ⊢
  cases h1 : es.find? (·.key.isStr n) with
  | none => rw [h1] at h; exfalso; dsimp only at h; split at h <;> cases h
  | some x =>
    rw [h1] at h e
    cases h2 : (putL name hh (.str name t) v es).find? (·.key.isStr n) with
    | none => rw [h2] at e; cases e
    | some y => rw [h2] at e; have e' : y.val = x.val := Option.some.inj e; dsimp only at h ⊢; rw [e']; exact h
theorem set_put {A : Around} {E : Value → Shared → Prop} {s : Shared} {h₀ : Heap} {L x dx : Addr} {m : Str → Option Value} {news : List (Addr × Obj)} {g : Obj → List (Addr × Obj)} {es : List DictEntry} {n k : Nat} {v : Value} {name : Str} (w : World) {Q : Unit → Shared → Prop} : RW = RW → Fr h₀ L s.heap m → (hd.heap_1 w.params).In h₀ → News h₀ L s.heap news →
    (x, instObj 654 dx) ∈ news → (dx, dictOf es n) ∈ news → takerIn (hd.heap_1 w.params) 654 name = some none → DictS es k → k ≤ 900 → UpdF dx (dictOf es n) news g →
    (∀ h' t es', es' = putL name (PyData.keyHash w.params name) (.str name t) v es → DictS es' (k + 1) → Fr h₀ L h' m → News h₀ L h' (g (dictOf es' (putN name es n))) → Q () { s with heap := h', toks := s.toks + 2 }) →
    wpAny (model PR w) A (setAttr (.ref x) name v) Q E s := by
  k_fill
  intro _ F X N h1 h2 ht hD hk U h
  k_dflt (refine' set_dict F X N (InstAt.of_news N h1 h2) rfl ?k6 ?k7 ht ?k9 hD.get rfl (updF_upd U _) ?k13 ?_; (case k6 => k_is); (case k7 => k_is); (case k9 => k_is); (case k13 => exact Nat.le_trans (DictS.put hD).2 (Nat.le_trans (Nat.succ_le_succ hk) (by decide))))
  exact fun h' F' N' => h h' _ _ rfl (DictS.put hD) F' N'
theorem SpaceNew.useE {w : World} {d : Nat} {nm : Value} {p : Program} {loose : List Str} {mean : ExcName → Option Value} {mg mb : Str → Option Value}
    {dp un : Nat} {gd : Option (List Code)} {cn : Str} {cs : Scope} {a : Addr} {ccd : Value} {cl : List (Str × Addr)} {outer : List Env} {A₀ : Around} {base h₀ : Heap} {L : Addr} {m : Str → Option Value} {news : List (Addr × Obj)} {s : Shared} {Q E : Value → Shared → Prop} (C : SpaceNew w d nm) (B : Below A₀ base outer h₀) (F : Fr h₀ L s.heap m) (X : (hd.heap_1 w.params).In h₀) (N : News h₀ L s.heap news) (T : Top p loose mean mg mb h₀) (hk : cs.kind = .function)
    (h1 : dp + d < recursionLimit) (h2 : un + 8 * d < cLine) (ret : ∀ (pl pd sd : Addr) (osd : Obj) (es : List DictEntry) h' tk', Fr h₀ L h' m → News h₀ L h' ((pl, instObj 654 pd) :: (pd, dictOf es 17) :: (sd, osd) :: news) → SpaceE w 0 sd es → (∀ p ∈ news, p.1 < pd) → (∀ p ∈ (pd, dictOf es 17) :: news, p.1 < pl) → (∀ p ∈ (pl, instObj 654 pd) :: (pd, dictOf es 17) :: news, p.1 < sd) → osd.IsDictOf (PySem.intKind PR w) [] → (sd == sysModules) = false → Q (.ref pl) { s with heap := h', toks := tk' }) :
    wpAny (model PR w) (ktrTop dp un gd cn cs L a ccd cl outer) (call (.ref 654) [nm]) Q E s :=
  C _ _ _ _ _ _ _ _ _ _ _ _ _ _ _ _ _ _ _ _ _ _ _ B F X N T hk h1 h2 fun pl pd sd osd j1 j2 j3 j4 j5 j6 j7 j8 j9 j10 j11 j12 j13 j14 j15 j16 j17 tnn v1 v5 v6 v7 v8 v9 v10 v11 v12 v13 v14 v15 v16 v17 h' tk' F' N' o1 o2 o3 hd hlo => ret pl pd sd osd _ h' tk' F' N' ⟨fun i => ([j1, j2, j3, j4, j5, j6, j7, j8, j9, j10, j11, j12, j13, j14, j15, j16, j17, tnn] : List Tok).getD i 0, fun i => ([v1, .none, .none, .none, v5, v6, v7, v8, v9, v10, v11, v12, v13, v14, v15, v16, v17] : List Value).getD i .none, rfl⟩ o1 (fun p hp => by
      rcases List.mem_cons.mp hp with rfl | hp
      · exact o2
      · exact Nat.lt_trans (o1 p hp) o2) (fun p hp => by
      rcases List.mem_cons.mp hp with rfl | hp
      · exact o3
      rcases List.mem_cons.mp hp with rfl | hp
      · exact Nat.lt_trans o2 o3
      · exact Nat.lt_trans (o1 p hp) (Nat.lt_trans o2 o3)) hd hlo
theorem RenoNew.useE {w : World} {d : Nat} {x : Value} {p : Program} {loose : List Str} {mean : ExcName → Option Value} {mg mb : Str → Option Value}
    {dp un : Nat} {gd : Option (List Code)} {cn : Str} {cs : Scope} {a : Addr} {ccd : Value} {cl : List (Str × Addr)} {outer : List Env} {A₀ : Around} {base h₀ : Heap} {L : Addr} {m : Str → Option Value} {news : List (Addr × Obj)} {s : Shared} {Q E : Value → Shared → Prop} (C : RenoNew w d x) (B : Below A₀ base outer h₀) (F : Fr h₀ L s.heap m) (X : (hd.heap_1 w.params).In h₀) (N : News h₀ L s.heap news) (T : Top p loose mean mg mb h₀) (hk : cs.kind = .function)
    (h1 : dp + d < recursionLimit) (h2 : un + 8 * d < cLine) (ret : ∀ (ct cdd : Addr) (es : List DictEntry) h' tk', Fr h₀ L h' m → News h₀ L h' ((ct, instObj 445 cdd) :: (cdd, dictOf es 6) :: news) → RenoE w 0 es → (∀ p ∈ news, p.1 < cdd) → (∀ p ∈ (cdd, dictOf es 6) :: news, p.1 < ct) → Q (.ref ct) { s with heap := h', toks := tk' }) :
    wpAny (model PR w) (ktrTop dp un gd cn cs L a ccd cl outer) (call (.ref 445) [x]) Q E s :=
  C _ _ _ _ _ _ _ _ _ _ _ _ _ _ _ _ _ _ _ _ _ _ _ B F X N T hk h1 h2 fun ct cdd n1 n2 n3 n4 n5 n6 tfl w1 w2 w3 w4 w6 h' tk' F' N' o1 o2 => ret ct cdd _ h' tk' F' N' ⟨fun i => ([n1, n2, n3, n4, n5, n6, tfl] : List Tok).getD i 0, fun i => ([w1, w2, w3, w4, .none, w6] : List Value).getD i .none, rfl⟩ o1 (fun p hp => by
      rcases List.mem_cons.mp hp with rfl | hp
      · exact o2
      · exact Nat.lt_trans (o1 p hp) o2)
theorem gp_selfE {name : Str} {hh : Int} {t : Tok} {v : Value} {es es' : List DictEntry} (he : es' = putL name hh (.str name t) v es) : getL name es' = some (some v) := by subst he; exact gp_self
theorem gp_neE {name n : Str} {hh : Int} {t : Tok} {v u : Value} {es es' : List DictEntry} (he : es' = putL name hh (.str name t) v es) (hn : name ≠ n) (h : getL n es = some (some u)) : getL n es' = some (some u) := by subst he; exact gp_ne hn h
theorem nf_cons {l : List Nat} {a : Addr} {o : Obj} {r : List (Addr × Obj)} (h : a ∉ l) (hr : ∀ q ∈ r, q.1 ∉ l) : ∀ q ∈ (a, o) :: r, q.1 ∉ l := fun q hq => by
  rcases List.mem_cons.mp hq with rfl | hq
  · exact h
  · exact hr q hq
theorem inst_ne_dict {C dx : Addr} {o : Obj} {es : Array DictEntry} {n : Nat} (h : o.data = .dict es n) : instObj C dx ≠ o := fun e => by
  have q : Data.plain = o.data := congrArg Obj.data e
  rw [h] at q
  cases q
theorem cell_ne_dict {o p : Obj} {cvs : Array Value} {es : Array DictEntry} {n : Nat} (h : o.data = .fields cvs) (h2 : p.data = .dict es n) : o ≠ p := fun e => by
  rw [e, h2] at h
  cases h
theorem not_in4 {w : World} {g h : Heap} {L a pd sd cdd pb : Addr} {X : List (Addr × Obj)} {o osd opb : Obj} {es ecd : List DictEntry} {kvs : List (Int × Value)} {kvp : List (Str × Value)} (N : News g L h X) (m1 : (pd, dictOf es 17) ∈ X) (m2 : (sd, osd) ∈ X) (m3 : (cdd, dictOf ecd 6) ∈ X) (m4 : (pb, opb) ∈ X) (hosd : osd.IsDictOf (PySem.intKind PR w) kvs) (hpb : opb.IsDictOf (PySem.strKind PR w) kvp)
    (hm : (a, o) ∈ X) (hd : ∀ (p : Obj) es n, p.data = .dict es n → o ≠ p) : a ∉ ([pd, sd, cdd, pb] : List Nat) := by
  obtain ⟨es1, ep1, _, q1, _⟩ := hosd
  obtain ⟨es2, ep2, _, q2, _⟩ := hpb
  exact in4 (two_places N hm m1 (hd _ _ _ rfl)) (two_places N hm m2 (hd _ _ _ q1)) (two_places N hm m3 (hd _ _ _ rfl)) (two_places N hm m4 (hd _ _ _ q2))
theorem conn_start {w : World} {h₀ g h : Heap} {L ia co cd sp kp pb rm rd fl cc ct cdd pl pd sd : Addr} {l : List (Addr × Obj)} {ces res es ecd : List DictEntry} {cen ren : Nat} {osp okp opb occ osd : Obj} {cvs ps : Array Value} {ql : Str} {pmv ctv : Value} {tq tb tkey tpr : Tok} {G : Prop} (Nk : News g L h l)
 (m0 : (co, instObj 654 cd) ∈ l) (m1 : (cd, dictOf ces cen) ∈ l) (hc1 : (getL (Str.ofString "spaces") ces = some (some (.ref sp)))) (hc2 : (getL (Str.ofString "keys") ces = some (some (.ref kp)))) (hc3 : (getL (Str.ofString "probes") ces = some (some (.ref pb)))) (hc4 : (getL (Str.ofString "control") ces = some (some (.ref ct)))) (hc5 : (getL (Str.ofString "own_cid") ces = some (some (.bytes #[111, 119, 110] tb)))) (hc6 : (getL (Str.ofString "remote") ces = some (some (.ref rm)))) (hc7 : (getL (Str.ofString "idle") ces = some (some (.ref ia)))) (m2 : (sp, osp) ∈ l) (m3 : (kp, okp) ∈ l) (m13 : (pb, opb) ∈ l) (hsp : osp.IsDictOf (PySem.strKind PR w) [(Str.ofString "application", .ref pl)]) (hkp : okp.IsDictOf (PySem.strKind PR w) [(Str.ofString "application", .bytes #[107] tkey)]) (hpb : opb.IsDictOf (PySem.strKind PR w) [(Str.ofString "application", .int 0 tpr)]) (m4 : (rm, instObj 654 rd) ∈ l) (m5 : (rd, dictOf res ren) ∈ l) (hpr : (getL (Str.ofString "present") res = some (some (.ref fl)))) (m6 : (fl, (kla_obj (Str.ofString "<lambda>") ql { posonlyargs := [], args := [], vararg := none, kwonlyargs := [], kw_defaults := [], kwarg := none, defaults := [] } (PySem.Expr.Constant (PySem.Const.bytes [112, 101, 101, 114]) 0 { line := 464, col := 29, endLine := 464, endCol := 36 }) { kind := .function, names := [], isGenerator := false, isCoroutine := false } [] pmv cc ctv)) ∈ l) (m7 : (cc, occ) ∈ l) (hcc : occ.data = .fields cvs) (hcq : cvs[1]? = some (.str ql tq)) (m8 : (ct, instObj 445 cdd) ∈ l) (m12 : (cdd, dictOf ecd 6) ∈ l) (hR : RenoE w 0 ecd) (m9 : (pl, instObj 654 pd) ∈ l) (m10 : (pd, dictOf es 17) ∈ l) (hE : SpaceE w 0 sd es) (m11 : (sd, osd) ∈ l) (hosd : osd.IsDictOf (PySem.intKind PR w) []) (hlo : (sd == sysModules) = false) (m14 : ((674 : Addr), tabObj ps) ∈ l) (ecdpd : @Ne Nat cd pd) (ecdsd : @Ne Nat cd sd) (ecdcdd : @Ne Nat cd cdd) (ecdpb : @Ne Nat cd pb) (esppd : @Ne Nat sp pd) (espsd : @Ne Nat sp sd) (espcdd : @Ne Nat sp cdd) (esppb : @Ne Nat sp pb) (ekppd : @Ne Nat kp pd) (ekpsd : @Ne Nat kp sd) (ekpcdd : @Ne Nat kp cdd) (ekppb : @Ne Nat kp pb) (erdpd : @Ne Nat rd pd) (erdsd : @Ne Nat rd sd) (erdcdd : @Ne Nat rd cdd) (erdpb : @Ne Nat rd pb) (dpdsd : @Ne Nat pd sd) (dpdcdd : @Ne Nat pd cdd) (dpdpb : @Ne Nat pd pb) (dsdcdd : @Ne Nat sd cdd) (dsdpb : @Ne Nat sd pb) (dcddpb : @Ne Nat cdd pb) (k : ∀ X, News g L h X → (∀ q ∈ X, q ∈ l) → ConnIn w h₀ co ia 0 X → ((674 : Addr), tabObj ps) ∈ X → G) : G :=
  have hs : ∀ q ∈ ([(co, instObj 654 cd), (cd, dictOf ces cen), (sp, osp), (kp, okp), (rm, instObj 654 rd), (rd, dictOf res ren), (fl, (kla_obj (Str.ofString "<lambda>") ql { posonlyargs := [], args := [], vararg := none, kwonlyargs := [], kw_defaults := [], kwarg := none, defaults := [] } (PySem.Expr.Constant (PySem.Const.bytes [112, 101, 101, 114]) 0 { line := 464, col := 29, endLine := 464, endCol := 36 }) { kind := .function, names := [], isGenerator := false, isCoroutine := false } [] pmv cc ctv)), (cc, occ), (ct, instObj 445 cdd), (pl, instObj 654 pd), (pd, dictOf es 17), (sd, osd), (cdd, dictOf ecd 6), (pb, opb), ((674 : Addr), tabObj ps)] : List (Addr × Obj)), q ∈ l := (need_cons m0 (need_cons m1 (need_cons m2 (need_cons m3 (need_cons m4 (need_cons m5 (need_cons m6 (need_cons m7 (need_cons m8 (need_cons m9 (need_cons m10 (need_cons m11 (need_cons m12 (need_cons m13 (need_cons m14 need_nil)))))))))))))))
  have N := news_sub Nk hs
  have no : ∀ a o, (a, o) ∈ _ → (∀ (p : Obj) es n, p.data = .dict es n → o ≠ p) → a ∉ ([pd, sd, cdd, pb] : List Nat) := fun a o hm hd => not_in4 N (.tail _ (.tail _ (.tail _ (.tail _ (.tail _ (.tail _ (.tail _ (.tail _ (.tail _ (.tail _ (.head _))))))))))) (.tail _ (.tail _ (.tail _ (.tail _ (.tail _ (.tail _ (.tail _ (.tail _ (.tail _ (.tail _ (.tail _ (.head _)))))))))))) (.tail _ (.tail _ (.tail _ (.tail _ (.tail _ (.tail _ (.tail _ (.tail _ (.tail _ (.tail _ (.tail _ (.tail _ (.head _))))))))))))) (.tail _ (.tail _ (.tail _ (.tail _ (.tail _ (.tail _ (.tail _ (.tail _ (.tail _ (.tail _ (.tail _ (.tail _ (.tail _ (.head _)))))))))))))) hosd hpb hm hd
  k _ N hs ⟨⟨cd, sp, kp, pb, rm, rd, fl, cc, ct, cdd, pl, pd, sd, ces, res, es, ecd, cen, ren, osp, okp, opb, occ, osd, cvs, ql, pmv, ctv, tq, tb, tkey, tpr, 0, 0, [], []⟩,
    (.tail _ (.tail _ (.tail _ (.tail _ (.tail _ (.tail _ (.tail _ (.tail _ (.tail _ (.tail _ (.head _))))))))))), (.tail _ (.tail _ (.tail _ (.tail _ (.tail _ (.tail _ (.tail _ (.tail _ (.tail _ (.tail _ (.tail _ (.head _)))))))))))), (.tail _ (.tail _ (.tail _ (.tail _ (.tail _ (.tail _ (.tail _ (.tail _ (.tail _ (.tail _ (.tail _ (.tail _ (.head _))))))))))))), (.tail _ (.tail _ (.tail _ (.tail _ (.tail _ (.tail _ (.tail _ (.tail _ (.tail _ (.tail _ (.tail _ (.tail _ (.tail _ (.head _)))))))))))))), need_cons (.head _) (need_cons (.tail _ (.head _)) (need_cons (.tail _ (.tail _ (.head _))) (need_cons (.tail _ (.tail _ (.tail _ (.head _)))) (need_cons (.tail _ (.tail _ (.tail _ (.tail _ (.head _))))) (need_cons (.tail _ (.tail _ (.tail _ (.tail _ (.tail _ (.head _)))))) (need_cons (.tail _ (.tail _ (.tail _ (.tail _ (.tail _ (.tail _ (.head _))))))) (need_cons (.tail _ (.tail _ (.tail _ (.tail _ (.tail _ (.tail _ (.tail _ (.head _)))))))) (need_cons (.tail _ (.tail _ (.tail _ (.tail _ (.tail _ (.tail _ (.tail _ (.tail _ (.head _))))))))) (need_cons (.tail _ (.tail _ (.tail _ (.tail _ (.tail _ (.tail _ (.tail _ (.tail _ (.tail _ (.head _)))))))))) need_nil))))))))), (fun _ h => nomatch h), ⟨dpdsd, dpdcdd, dpdpb, dsdcdd, dsdpb, dcddpb⟩,
    nf_cons (no co _ (.head _) fun _ _ _ q => inst_ne_dict q) (nf_cons (in4 ecdpd ecdsd ecdcdd ecdpb) (nf_cons (in4 esppd espsd espcdd esppb) (nf_cons (in4 ekppd ekpsd ekpcdd ekppb) (nf_cons (no rm _ (.tail _ (.tail _ (.tail _ (.tail _ (.head _))))) fun _ _ _ q => inst_ne_dict q) (nf_cons (in4 erdpd erdsd erdcdd erdpb) (nf_cons (no fl _ (.tail _ (.tail _ (.tail _ (.tail _ (.tail _ (.tail _ (.head _))))))) fun _ _ _ q e => by rw [← e] at q; cases q) (nf_cons (no cc _ (.tail _ (.tail _ (.tail _ (.tail _ (.tail _ (.tail _ (.tail _ (.head _)))))))) fun _ _ _ q => cell_ne_dict hcc q) (nf_cons (no ct _ (.tail _ (.tail _ (.tail _ (.tail _ (.tail _ (.tail _ (.tail _ (.tail _ (.head _))))))))) fun _ _ _ q => inst_ne_dict q) (nf_cons (no pl _ (.tail _ (.tail _ (.tail _ (.tail _ (.tail _ (.tail _ (.tail _ (.tail _ (.tail _ (.head _)))))))))) fun _ _ _ q => inst_ne_dict q) (fun _ h => nomatch h)))))))))),
    (fun _ h => nomatch h), (fun _ h => nomatch h), (fun _ _ h => nomatch h), rfl, hE, hR, hc1, hc2, hc3, hc4, hc5, hc6, hc7, hpr, hcc, hcq, hsp, hkp, hpb, hosd, hlo⟩ (.tail _ (.tail _ (.tail _ (.tail _ (.tail _ (.tail _ (.tail _ (.tail _ (.tail _ (.tail _ (.tail _ (.tail _ (.tail _ (.tail _ (.head _)))))))))))))))
theorem lt_at {D : Addr} {l : List (Addr × Obj)} (h : ∀ p ∈ l, p.1 < D) (i : Nat) {a : Addr} {o : Obj} (e : l[i]? = some (a, o)) : @Ne Nat a D := Nat.ne_of_lt (h _ (List.mem_of_getElem? e))
theorem gt_at {D : Addr} {l : List (Addr × Obj)} (h : ∀ p ∈ l, p.1 < D) (i : Nat) {a : Addr} {o : Obj} (e : l[i]? = some (a, o)) : @Ne Nat D a := Nat.ne_of_gt (h _ (List.mem_of_getElem? e))
theorem lt_at2 {c D : Addr} {l : List (Addr × Obj)} (h2 : @LT.lt Nat _ c D) (h : ∀ p ∈ l, p.1 < c) (i : Nat) {a : Addr} {o : Obj} (e : l[i]? = some (a, o)) : @Ne Nat a D := Nat.ne_of_lt (Nat.lt_trans (h _ (List.mem_of_getElem? e)) h2)
theorem gt_at2 {c D : Addr} {l : List (Addr × Obj)} (h2 : @LT.lt Nat _ c D) (h : ∀ p ∈ l, p.1 < c) (i : Nat) {a : Addr} {o : Obj} (e : l[i]? = some (a, o)) : @Ne Nat D a := Nat.ne_of_gt (Nat.lt_trans (h _ (List.mem_of_getElem? e)) h2)
theorem fresh_all {g h : Heap} {L : Addr} {l rest : List (Addr × Obj)} (N : News g L h l) (hg : ∀ p ∈ rest, g.get? p.1 = some p.2) : ∀ q ∈ l, ∀ p ∈ rest, @Ne Nat p.1 q.1 := fun q hq p hp e => by
  have h1 := hg p hp
  have e' : p.1 = q.1 := e
  rw [e', (N q hq).2.2] at h1
  cases h1
theorem N2_rows2 : True := by
  (k_with "k_ne" => (refine neN ?_; (try dsimp only); first | with_reducible assumption | with_reducible exact Ne.symm (by assumption) | ((with_reducible refine' lt_at ?h ?i ?e); (case h => with_reducible assumption); (first | ((case i => exact 0); (case e => exact rfl)) | ((case i => exact 1); (case e => exact rfl)) | ((case i => exact 2); (case e => exact rfl)) | ((case i => exact 3); (case e => exact rfl)) | ((case i => exact 4); (case e => exact rfl)) | ((case i => exact 5); (case e => exact rfl)) | ((case i => exact 6); (case e => exact rfl)) | ((case i => exact 7); (case e => exact rfl)) | ((case i => exact 8); (case e => exact rfl)) | ((case i => exact 9); (case e => exact rfl)) | ((case i => exact 10); (case e => exact rfl)) | ((case i => exact 11); (case e => exact rfl)) | ((case i => exact 12); (case e => exact rfl)) | ((case i => exact 13); (case e => exact rfl)) | ((case i => exact 14); (case e => exact rfl)) | ((case i => exact 15); (case e => exact rfl)) | ((case i => exact 16); (case e => exact rfl)) | ((case i => exact 17); (case e => exact rfl)) | ((case i => exact 18); (case e => exact rfl)) | ((case i => exact 19); (case e => exact rfl)) | ((case i => exact 20); (case e => exact rfl)) | ((case i => exact 21); (case e => exact rfl)))) | ((with_reducible refine' gt_at ?h ?i ?e); (case h => with_reducible assumption); (first | ((case i => exact 0); (case e => exact rfl)) | ((case i => exact 1); (case e => exact rfl)) | ((case i => exact 2); (case e => exact rfl)) | ((case i => exact 3); (case e => exact rfl)) | ((case i => exact 4); (case e => exact rfl)) | ((case i => exact 5); (case e => exact rfl)) | ((case i => exact 6); (case e => exact rfl)) | ((case i => exact 7); (case e => exact rfl)) | ((case i => exact 8); (case e => exact rfl)) | ((case i => exact 9); (case e => exact rfl)) | ((case i => exact 10); (case e => exact rfl)) | ((case i => exact 11); (case e => exact rfl)) | ((case i => exact 12); (case e => exact rfl)) | ((case i => exact 13); (case e => exact rfl)) | ((case i => exact 14); (case e => exact rfl)) | ((case i => exact 15); (case e => exact rfl)) | ((case i => exact 16); (case e => exact rfl)) | ((case i => exact 17); (case e => exact rfl)) | ((case i => exact 18); (case e => exact rfl)) | ((case i => exact 19); (case e => exact rfl)) | ((case i => exact 20); (case e => exact rfl)) | ((case i => exact 21); (case e => exact rfl)))) | with_reducible exact Nat.ne_of_lt (by assumption) | with_reducible exact Nat.ne_of_gt (by assumption) | ((with_reducible refine' lt_at2 ?h2 ?h ?i ?e); (case h2 => with_reducible assumption); (case h => with_reducible assumption); (first | ((case i => exact 0); (case e => exact rfl)) | ((case i => exact 1); (case e => exact rfl)) | ((case i => exact 2); (case e => exact rfl)) | ((case i => exact 3); (case e => exact rfl)) | ((case i => exact 4); (case e => exact rfl)) | ((case i => exact 5); (case e => exact rfl)) | ((case i => exact 6); (case e => exact rfl)) | ((case i => exact 7); (case e => exact rfl)) | ((case i => exact 8); (case e => exact rfl)) | ((case i => exact 9); (case e => exact rfl)) | ((case i => exact 10); (case e => exact rfl)) | ((case i => exact 11); (case e => exact rfl)) | ((case i => exact 12); (case e => exact rfl)) | ((case i => exact 13); (case e => exact rfl)) | ((case i => exact 14); (case e => exact rfl)) | ((case i => exact 15); (case e => exact rfl)) | ((case i => exact 16); (case e => exact rfl)) | ((case i => exact 17); (case e => exact rfl)) | ((case i => exact 18); (case e => exact rfl)) | ((case i => exact 19); (case e => exact rfl)) | ((case i => exact 20); (case e => exact rfl)) | ((case i => exact 21); (case e => exact rfl)))) | ((with_reducible refine' gt_at2 ?h2 ?h ?i ?e); (case h2 => with_reducible assumption); (case h => with_reducible assumption); (first | ((case i => exact 0); (case e => exact rfl)) | ((case i => exact 1); (case e => exact rfl)) | ((case i => exact 2); (case e => exact rfl)) | ((case i => exact 3); (case e => exact rfl)) | ((case i => exact 4); (case e => exact rfl)) | ((case i => exact 5); (case e => exact rfl)) | ((case i => exact 6); (case e => exact rfl)) | ((case i => exact 7); (case e => exact rfl)) | ((case i => exact 8); (case e => exact rfl)) | ((case i => exact 9); (case e => exact rfl)) | ((case i => exact 10); (case e => exact rfl)) | ((case i => exact 11); (case e => exact rfl)) | ((case i => exact 12); (case e => exact rfl)) | ((case i => exact 13); (case e => exact rfl)) | ((case i => exact 14); (case e => exact rfl)) | ((case i => exact 15); (case e => exact rfl)) | ((case i => exact 16); (case e => exact rfl)) | ((case i => exact 17); (case e => exact rfl)) | ((case i => exact 18); (case e => exact rfl)) | ((case i => exact 19); (case e => exact rfl)) | ((case i => exact 20); (case e => exact rfl)) | ((case i => exact 21); (case e => exact rfl))))))
  (k_with "call ref" => ((with_reducible show wpAny _ _ (call (Value.ref 654) [Value.str _ _]) _ _ _); k_dflt ((refine SpaceNew.useE (space_new _ _ _ rfl) (by k_asm) (by k_asm) (by k_asm) (by k_asm) (by k_asm) (by first | exact rfl | assumption) (by ktr_room) (by ktr_units) ?_); intro pl9 pd9 sd9 osd9 es9 h9 tk9 F9 N9 hS9 o19 o29 o39 hd9 hlo9; have hD9 := SpaceE.dictS hS9; (try dsimp only); (try k_fold))))
  (k_with "call ref" => ((with_reducible show wpAny _ _ (call (Value.ref 445) [Value.int _ _]) _ _ _); k_dflt ((refine RenoNew.useE (reno_new _ _ rfl) (by k_asm) (by k_asm) (by k_asm) (by k_asm) (by k_asm) (by first | exact rfl | assumption) (by ktr_room) (by ktr_units) ?_); intro ct9 cdd9 ecd9 h9 tk9 F9 N9 hR9 o19 o29; (try dsimp only); (try k_fold))))
  (k_with "setAttr ref" => (k_here; k_dflt (refine set_put _ rfl (by k_asm) (by k_asm) (by k_asm) (by k_mem) (by k_mem) (by k_is) (by assumption) (by decide) (by k_updF) ?_; intro h9 t9 es9 he9 hD9 F9 N9; (try dsimp only at N9); (try dsimp only))))
  (k_with "execs cons" => (k_here; (rename News _ _ _ _ => N9); (dsimp only at N9); refine wpAny_execs_cons ?_))
  (k_with "k_mem" => (first | with_reducible apply mem_hd | (with_reducible apply mem_tl; k_mem)))
  trivial
def state_e_B (w : World) (ia : Addr) (v : KV) : Prop := RW = RW → v.to fun p loose mean mg mb dp un gd cn cs a ccd cl outer A₀ base h₀ L m news s Q E => Below A₀ base outer h₀ → Fr h₀ L s.heap m → (hd.heap_1 w.params).In h₀ → News h₀ L s.heap news → Top p loose mean mg mb h₀ → cs.kind = .function →
    dp + 24 < recursionLimit → un + 8 * 24 < cLine → (∀ q ∈ [((674 : Addr), tabObj #[])], q ∈ news) → CodeHd base 678 674 →
    (∀ (co : Addr) (X : List (Addr × Obj)) (ps : Array Value) h' tk', Fr h₀ L h' m → News h₀ L h' (X ++ restOf [((674 : Addr), tabObj #[])] news) → ConnIn w h₀ co ia 0 X → ((674 : Addr), tabObj ps) ∈ X → (∀ q ∈ X, ∀ p ∈ restOf [((674 : Addr), tabObj #[])] news, @Ne Nat p.1 q.1) → Q (.ref co) { s with heap := h', toks := tk' }) →
    wpAny (model PR w) (ktrTop dp un gd cn cs L a ccd cl outer) (call (.ref 679) [.ref ia]) Q E s
def state_e_S : Prop := ∀ w ia v, state_e_B w ia v
theorem state_e_0 : state_e_S := by
  refine ubx ?_
  simp (disch := k_dflt (
    refine tyP ?_
    refine' (?g9 : ∀ q : state_e_S, Keep q → state_e_S) _ ?w9
    case g9 => exact fun q _ => q
    case w9 =>
      refine' kp9 ?h9 fun k9 => ?j9
      case h9 =>
        unfold state_e_S
        (repeat walk_at "CL9")
        rename_i w ia vk
        unfold state_e_B KV.to
        k_fill
        intro _
        w_on
        w_top on
        intro B F X N T hk hd hu hneed HC hret
        refine wpAny_call ?_
        k_dflt (refine' code_defF ?k1 ?k2 ?k3 (need_news hneed N) (restOf_news N) restOf_dis ?k5 ?kA ?kF ?kK ?k6 ?k7 ?k8 ?k9 ?kB ?_ ?c2 ?c3 ?c4 ?c5; (case kA => exact rfl); (case kF => exact rfl); (case kK => first | assumption | exact rfl); (case k1 => k_asm); (case k2 => k_asm); (case k3 => k_asm); (case k5 => k_asm); (case k6 => k_is); (case k7 => k_is); (case k8 => ktr_room); (case k9 => first | exact BindsTo.of_eq rfl | exact binds_K (by k_in) rfl (by k_is) rfl rfl rfl); (case c5 => decide); (case kB => exact locs (Eq.refl true)); (case c2 => exact rfl); (case c3 => exact rfl); (case c4 => exact rfl); k_whole; intro g' L' h' tk' FG' F' N' B' X' T' l1 lr; (have hlr9 := fun p hp => (lr p hp)); (clear lr); (try dsimp only); (try k_lt l1); (try k_fold))
        w_strict (k_steps; ((rename News _ _ _ (restOf _ _) => Nr9); (rename News _ _ _ (_ :: _) => Nk9); exact conn_start Nk9 (by k_mem) (by k_mem) (by (repeat (first | (with_reducible apply gp_selfE; with_reducible assumption) | (with_reducible apply gp_neE; (case he => with_reducible assumption); (case hn => decide))))) (by (repeat (first | (with_reducible apply gp_selfE; with_reducible assumption) | (with_reducible apply gp_neE; (case he => with_reducible assumption); (case hn => decide))))) (by (repeat (first | (with_reducible apply gp_selfE; with_reducible assumption) | (with_reducible apply gp_neE; (case he => with_reducible assumption); (case hn => decide))))) (by (repeat (first | (with_reducible apply gp_selfE; with_reducible assumption) | (with_reducible apply gp_neE; (case he => with_reducible assumption); (case hn => decide))))) (by (repeat (first | (with_reducible apply gp_selfE; with_reducible assumption) | (with_reducible apply gp_neE; (case he => with_reducible assumption); (case hn => decide))))) (by (repeat (first | (with_reducible apply gp_selfE; with_reducible assumption) | (with_reducible apply gp_neE; (case he => with_reducible assumption); (case hn => decide))))) (by (repeat (first | (with_reducible apply gp_selfE; with_reducible assumption) | (with_reducible apply gp_neE; (case he => with_reducible assumption); (case hn => decide))))) (by k_mem) (by k_mem) (by k_mem) (by assumption) (by assumption) (by assumption) (by k_mem) (by k_mem) (by (repeat (first | (with_reducible apply gp_selfE; with_reducible assumption) | (with_reducible apply gp_neE; (case he => with_reducible assumption); (case hn => decide))))) (by k_mem) (by k_mem) (by assumption) (by assumption) (by k_mem) (by k_mem) (by assumption) (by k_mem) (by k_mem) (by assumption) (by k_mem) (by assumption) (by assumption) (by k_mem) (by k_ne) (by k_ne) (by k_ne) (by k_ne) (by k_ne) (by k_ne) (by k_ne) (by k_ne) (by k_ne) (by k_ne) (by k_ne) (by k_ne) (by k_ne) (by k_ne) (by k_ne) (by k_ne) (by k_ne) (by k_ne) (by k_ne) (by k_ne) (by k_ne) (by k_ne)  (fun X9 Nx9 hs9 C9 T9 => hret _ X9 _ _ _ (by k_asm) (news_app Nx9 Nr9) C9 T9 (fresh_all (news_sub (by assumption) hs9) (fun p hp => (hlr9 p hp).2)))))
      case j9 => revert k9; (try delta id ap_mk hd_in hd_out); intro k9; (try conv at k9 => zeta); exact k9)) only [↓bxT]
theorem state_e (w : World) (ia : Addr) : RW = RW → ∀ (p : Program) (loose : List Str) (mean : ExcName → Option Value) (mg mb : Str → Option Value)
    (dp un : Nat) (gd : Option (List Code)) (cn : Str) (cs : Scope) (a : Addr) (ccd : Value) (cl : List (Str × Addr)) (outer : List Env) (A₀ : Around) (base h₀ : Heap) (L : Addr) (m : Str → Option Value) (news : List (Addr × Obj)) (s : Shared) (Q E : Value → Shared → Prop),
    Below A₀ base outer h₀ → Fr h₀ L s.heap m → (hd.heap_1 w.params).In h₀ → News h₀ L s.heap news → Top p loose mean mg mb h₀ → cs.kind = .function →
    dp + 24 < recursionLimit → un + 8 * 24 < cLine → (∀ q ∈ [((674 : Addr), tabObj #[])], q ∈ news) → CodeHd base 678 674 →
    (∀ (co : Addr) (X : List (Addr × Obj)) (ps : Array Value) h' tk', Fr h₀ L h' m → News h₀ L h' (X ++ restOf [((674 : Addr), tabObj #[])] news) → ConnIn w h₀ co ia 0 X → ((674 : Addr), tabObj ps) ∈ X → (∀ q ∈ X, ∀ p ∈ restOf [((674 : Addr), tabObj #[])] news, @Ne Nat p.1 q.1) → Q (.ref co) { s with heap := h', toks := tk' }) →
    wpAny (model PR w) (ktrTop dp un gd cn cs L a ccd cl outer) (call (.ref 679) [.ref ia]) Q E s := by
  intro r9 p loose mean mg mb dp un gd cn cs a ccd cl outer A₀ base h₀ L m news s Q E
  exact state_e_0 w ia ⟨p, loose, mean, mg, mb, dp, un, gd, cn, cs, a, ccd, cl, outer, A₀, base, h₀, L, m, news, s, Q, E⟩ r9 
end
section
set_option Elab.async false
set_option maxRecDepth 100000
set_option maxHeartbeats 800000
theorem getD_snoc_lt {D : Deeds} {d : Int × Int} {k : Nat} (h : k < D.length) : (D ++ [d]).getD k (0, 0) = D.getD k (0, 0) := by
  simp [List.getD, List.getElem?_append_left h]
theorem getD_snoc_eq {D : Deeds} {d : Int × Int} : (D ++ [d]).getD D.length (0, 0) = d := by
  simp [List.getD]
theorem sortAt_snoc {D : Deeds} {d : Int × Int} {k : Int} (h0 : 0 ≤ k) (h : k < D.length) : sortAt (D ++ [d]) k = sortAt D k := by
  unfold sortAt
  rw [getD_snoc_lt (by omega)]
theorem timeAt_snoc {D : Deeds} {d : Int × Int} {k : Int} (h0 : 0 ≤ k) (h : k < D.length) : timeAt (D ++ [d]) k = timeAt D k := by
  unfold timeAt
  rw [getD_snoc_lt (by omega)]
theorem sortAt_last {D : Deeds} {d : Int × Int} : sortAt (D ++ [d]) (D.length : Int) = d.2 := by
  unfold sortAt
  rw [Int.toNat_natCast, getD_snoc_eq]
theorem timeAt_last {D : Deeds} {d : Int × Int} : timeAt (D ++ [d]) (D.length : Int) = d.1 := by
  unfold timeAt
  rw [Int.toNat_natCast, getD_snoc_eq]
theorem foldl_came {D : Deeds} {d : Int × Int} : ∀ {ks l : List Int}, (∀ k ∈ ks, 0 ≤ k ∧ k < D.length) → ks.foldl (cameG (D ++ [d])) l = ks.foldl (cameG D) l
  | [], _, _ => rfl
  | k :: r, l, h => by
    have hk := h k List.mem_cons_self
    have e : cameG (D ++ [d]) l k = cameG D l k := by unfold cameG; rw [sortAt_snoc hk.1 hk.2]
    rw [List.foldl_cons, List.foldl_cons, e]
    exact foldl_came fun x hx => h x (List.mem_cons_of_mem _ hx)
theorem rangeKs_snoc (n : Nat) : rangeKs 0 (n + 1) = rangeKs 0 n ++ [(n : Int)] := by
  apply List.ext_getElem?
  intro i
  simp only [rangeKs]
  rcases Nat.lt_trichotomy i n with h | h | h
  · simp [List.getElem?_append_left, h, Nat.lt_succ_of_lt h]
  · subst h; simp
  · have h1 : ¬ i < n := by omega
    have h2 : ¬ i < n + 1 := by omega
    simp [h2]
    try omega
theorem cameL_snoc (D : Deeds) (t s : Int) : cameL (D ++ [(t, s)]) = if s = 2 then cameL D ++ [(D.length : Int)] else cameL D := by
  have e : (rangeKs 0 D.length).foldl (cameG (D ++ [(t, s)])) [] = cameL D := foldl_came fun k hk => by have := mem_rangeKs hk; omega
  have e1 : cameL (D ++ [(t, s)]) = (rangeKs 0 (D ++ [(t, s)]).length).foldl (cameG (D ++ [(t, s)])) [] := rfl
  rw [e1, List.length_append, List.length_singleton, rangeKs_snoc, List.foldl_append, e, List.foldl_cons, List.foldl_nil]
  unfold cameG
  rw [sortAt_last]
theorem lawSince_nil : lawSince [] = (none, false) := by decide
theorem lawSince_came (D : Deeds) (t : Int) : lawSince (D ++ [(t, 2)]) = (some t, false) := by
  have e : cameL (D ++ [(t, 2)]) = cameL D ++ [(D.length : Int)] := by rw [cameL_snoc]; rfl
  have hn : cameL (D ++ [(t, 2)]) ≠ [] := by rw [e]; simp
  have hl : (cameL (D ++ [(t, 2)])).getLastD 0 = (D.length : Int) := by rw [e]; simp
  have hb : behindL (D ++ [(t, 2)]) = [] := by
    unfold behindL
    rw [if_neg hn, hl]
    apply List.drop_of_length_le
    rw [List.length_append, List.length_singleton]
    omega
  unfold lawSince
  rw [hb, if_pos (show askedL [] = [] from rfl), if_neg hn, hl, timeAt_last]
theorem behindL_snoc (D : Deeds) (t s : Int) (h : s ≠ 2) : behindL (D ++ [(t, s)]) = behindL D ++ [(t, s)] := by
  unfold behindL
  rw [cameL_snoc, if_neg h]
  by_cases hc : cameL D = []
  · rw [if_pos hc, if_pos hc]
  · rw [if_neg hc, if_neg hc]
    have := cameL_last hc
    rw [List.drop_append_of_le_length (by omega)]
theorem lawSince_ack (D : Deeds) (t : Int) : lawSince (D ++ [(t, 1)]) = lawSince D := by
  unfold lawSince
  rw [behindL_snoc D t 1 (by decide), askedL_snoc, if_neg (show ¬ (1 : Int) = 0 by decide), cameL_snoc, if_neg (show ¬ (1 : Int) = 2 by decide)]
  by_cases hc : cameL D = []
  · simp only [if_pos hc]
  · have := cameL_last hc
    simp only [if_neg hc, timeAt_snoc this.1 this.2]
theorem lawSince_ask (D : Deeds) (t : Int) : lawSince (D ++ [(t, 0)]) = (sentS true (lawSince D).2 (lawSince D).1 t, true || (lawSince D).2) := by
  unfold lawSince
  rw [behindL_snoc D t 0 (by decide), askedL_snoc, if_pos rfl, if_neg (by simp)]
  by_cases ha : askedL (behindL D) = []
  · rw [if_pos ha, ha]
    rfl
  · rw [if_neg ha]
    cases h : askedL (behindL D) with
    | nil => exact absurd h ha
    | cons a r => rfl
end
section
set_option Elab.async false
set_option maxRecDepth 100000
set_option maxHeartbeats 2000000
theorem I5rn_rows0 : True := by
  k_with_none
  (k_with "STEPS9" => (repeat' (first | ((fail_if_success ((rename (_ : Type) => hc9); (with_unfolding_none rename Cl _ => hc8); (fail_if_success (have hc7 := hc9)))); (rename (_ : Type) => hc9); (refine hd_in ?_); revert hc9; (repeat ((fail_if_success ((rename (_ : Type) => hc9); (with_unfolding_none rename Cl _ => hc8); (fail_if_success (have hc7 := hc9)))); (rename (_ : Type) => hc9); revert hc9)); (with_reducible (refine eps_lt ?_; intro xc8; refine (?_ : ∀ y : Cl _, Ap _ y) xc8; clear xc8; intro _; refine ap_mk ?_)); (repeat (with_reducible (refine eps_lt ?_; intro xc8; refine (?_ : ∀ y : Cl _, Ap _ y) xc8; clear xc8; intro _; refine ap_mk ?_))); (set_option tactic.hygienic false in intros); (refine hd_out ?_)) | k_fold | (with_reducible rename ((@Ne Nat _ _ ∧ _) ∧ _) => hh9; (try k_fold); obtain ⟨hh8, hh7⟩ := hh9) | (with_reducible rename (@Ne Nat _ _ ∧ _) => hh9; (try k_fold); obtain ⟨hh8, hh7⟩ := hh9) | (with_reducible rename (@LT.lt Nat _ _ _ ∧ _) => hh9; (try k_fold); obtain ⟨hh8, hh7⟩ := hh9) | (k_unfold; (try dsimp only)) | (k_end; wrow_close) | walk1 | (dsimp only; walk1) | (leave1; walk_say "STEP leave1"; try dsimp only) | fail "no step")))
  trivial
theorem I5rn_rows1 : True := by
  (k_with "compareOp NotEq ref ref" => (k_here; (with_reducible show wpAny _ _ (compareOp CmpOp.NotEq (Value.ref _) (Value.ref _)) _ _ _); k_dflt ((refine ne_dataH (by ke_read) (by ke_read) (by ke_shaped) (by ke_shaped) (by ke_room) ?_); ke_norm; (fail_if_success (goal_has PySem.PyData.eqvAll)))))
  (k_with "compareOp Eq ref ref" => (k_here; (with_reducible show wpAny _ _ (compareOp CmpOp.Eq (Value.ref _) (Value.ref _)) _ _ _); k_dflt ((refine eq_dataH (by ke_read) (by ke_read) (by ke_shaped) (by ke_shaped) (by ke_room) ?_); ke_norm; (fail_if_success (goal_has PySem.PyData.eqvAll)))))
  (k_with "k_room" => (ktr_room))
  (k_with "k_units" => (ktr_units))
  (k_with "call ref" => (first | ((try dsimp only [List.cons_append, List.nil_append]); (with_reducible show wpAny _ _ (call (Value.ref 68) [Value.ref _, Value.int _ _]) _ _ _); k_dflt ((refine' PureM.use (deadline_c _ _ _ _ _ _ _ _ _ 0 _ _ _ none ?o0 ?o1 ?p0 ?p1 _ _ ?q0 ?q1 rfl) ?k1 ?k2 ?k3 ?k4 ?k5 ?kK ?kd ?ku ?kn ?_); (case k1 => k_asm); (case k2 => k_asm); (case k3 => k_asm); (case k4 => k_asm); (case k5 => k_asm); (case kK => first | exact rfl | assumption); (case kd => ktr_room); (case ku => ktr_units); (case kn => (repeat (first | exact need_nil | (refine need_cons (by k_mem) ?_)))); (case o0 => omega); (case o1 => omega); (case p0 => omega); (case p1 => omega); (case q0 => omega); (case q1 => omega); intro v9 h9 tk9 F9 N9 P9; obtain ⟨t9, he9⟩ := P9; rw [(by assumption : endOf _ _ = _)] at he9; simp only [optV] at he9; subst he9; (try dsimp only); (try k_fold))) | (fail "x")))
  (k_with "call ref" => (first | ((try dsimp only [List.cons_append, List.nil_append]); (with_reducible show wpAny _ _ (call (Value.ref 75) [Value.ref _, Value.int _ _, Value.int _ _]) _ _ _); k_dflt ((refine' PureM.use (is_over_c _ _ _ _ _ _ _ _ _ 0 _ _ _ none ?o0 ?o1 ?p0 ?p1 _ _ _ _ ?q0 ?q1 rfl) ?k1 ?k2 ?k3 ?k4 ?k5 ?kK ?kd ?ku ?kn ?_); (case k1 => k_asm); (case k2 => k_asm); (case k3 => k_asm); (case k4 => k_asm); (case k5 => k_asm); (case kK => first | exact rfl | assumption); (case kd => ktr_room); (case ku => ktr_units); (case kn => (repeat (first | exact need_nil | (refine need_cons (by k_mem) ?_)))); (case o0 => omega); (case o1 => omega); (case p0 => omega); (case p1 => omega); (case q0 => omega); (case q1 => omega); intro v9 h9 tk9 F9 N9 P9; first | (have e9 := P9.trans (congrArg Value.bool (over_n (by assumption))); subst e9; (try simp only [Bool.not_true, Bool.not_false])); (try dsimp only); (try k_fold))) | (fail "x")))
  (k_with "call ref" => (first | ((try dsimp only [List.cons_append, List.nil_append]); (with_reducible show wpAny _ _ (call (Value.ref 82) [Value.ref _, Value.int _ _, Value.int _ _, Value.int _ _]) _ _ _); k_dflt ((refine' PureM.use (wants_ping_c _ _ _ _ _ _ _ _ _ 0 _ _ _ none ?o0 ?o1 ?p0 ?p1 _ _ _ _ _ _ ?q0 ?q1 rfl) ?k1 ?k2 ?k3 ?k4 ?k5 ?kK ?kd ?ku ?kn ?_); (case k1 => k_asm); (case k2 => k_asm); (case k3 => k_asm); (case k4 => k_asm); (case k5 => k_asm); (case kK => first | exact rfl | assumption); (case kd => ktr_room); (case ku => ktr_units); (case kn => (repeat (first | exact need_nil | (refine need_cons (by k_mem) ?_)))); (case o0 => omega); (case o1 => omega); (case p0 => omega); (case p1 => omega); (case q0 => omega); (case q1 => omega); intro v9 h9 tk9 F9 N9 P9; first | (have e9 := P9.trans (congrArg Value.bool (ping_n (by assumption))); subst e9; (try simp only [Bool.not_true, Bool.not_false])); (try dsimp only); (try k_fold))) | (fail "x")))
  (k_with "call ref" => ((with_reducible show wpAny _ _ (call (Value.ref 684) [Value.ref _]) _ _ _); k_dflt ((refine' since_use (by assumption) (by k_asm) (by k_asm) (by k_asm) (by k_asm) (by k_asm) (by first | exact rfl | assumption) (by ktr_room) (by ktr_units) (by k_mem) (DeedsG.n (by assumption)) ?_); intro r9 o9 h9 tk9 F9 N9 P9; rw [(by assumption : lawSince _ = _)] at P9; obtain ⟨ts9, n9, ho9⟩ := P9; simp only [optV] at ho9; subst ho9; (try dsimp only); (try k_fold))))
  (k_with "eval ListComp" => (k_here; k_dflt (refine ListComp_UT (by k_asm) (by with_unfolding_all rfl) (by decide) (by rfl) (by decide) (by rfl) ?_)))
  (k_with "TupSrc" => (k_here; k_dflt (refine TupSrc.intro (by rfl) (by k_asm) (by k_asm) (by k_mem) (by first | size_fits | exact Nat.le_of_ble_eq_true rfl) ?_); intro gw'; first | (unfold RestTT; lct_lit) | (unfold RestUT; lcg_lit)))
  (k_with "k_ne" => (first | (refine neN ?_; (try dsimp only); first | assumption | exact Ne.symm (by assumption)) | (refine neN ?_; (try dsimp only); omega)))
  (k_with "CompEnd" => (k_dflt lcg_end; (repeat (rename (@Ne Nat _ _) => hh9; clear hh9))))
  (k_with "CompRest" => ((with_unfolding_all first
      | (refine LCg.CompRest.succ ?_; intro vw' Iw' oIw' Cw' oCw' Dw' mw' hw' tkw' Ew' hvw' hCw' hxw' Fw' Nw' offw' new'; (first | lcg_open hvw' | (obtain ⟨t9', hv9'⟩ := hvw'; subst hv9')); (k_dflt ((refine off_all offw' ?_); (repeat ((with_reducible show OffK _ _ _ (_ :: _) _); intro _ _ _)); (first | (with_reducible refine offk_nil ?_) | (with_reducible refine offk_tail (by (repeat (first | exact offw' | refine off_tl ?_))) ?_; intro _)); (try clear offw'))); (try (refine and3 new' ?_; intro _ _ _; clear new')); ((try k_fold); (repeat (rename (_ ∧ _) => hh9; obtain ⟨hh8, hh7⟩ := hh9))))
      | refine LCg.CompRest.zero ?_)))
  trivial
def right_n_B (w : World) (ia da : Addr) (k1 k2 k3 k4 t1 t2 ts : Tok) (own peer : Int) (dl : Addr) (c : Nat) (vs : List Value) (D : Deeds) (asked : Bool) (wv : Option Int) (probe now : Int) (t3 tn tw : Tok) (v : KV) : Prop := RW = RW → (D.length ≤ 1000) → (0 ≤ own) → (own < 1000000000) → (0 ≤ peer) → (peer < 1000000000) → (0 ≤ probe) → (probe < 1000000000) → (endOf none (waitOf own peer probe) = none) → (lawSince D = (none, asked)) → v.to (PureD9 w 34 689 vs D [(ia, instObj 85 da), (da, dictOf [⟨PyData.keyHash w.params (Str.ofString "own"), .str (Str.ofString "own") k1, .int own t1⟩, ⟨PyData.keyHash w.params (Str.ofString "peer"), .str (Str.ofString "peer") k2, .int peer t2⟩, ⟨PyData.keyHash w.params (Str.ofString "since"), .str (Str.ofString "since") k3, .none⟩, ⟨PyData.keyHash w.params (Str.ofString "has_asked"), .str (Str.ofString "has_asked") k4, .bool asked⟩] 4), (dl, listOf vs.toArray c)] [.ref ia, .ref dl, optV wv tw, .int probe t3, .int now tn] (fun v => v = .bool true))
def right_n_S : Prop := ∀ w ia da k1 k2 k3 k4 t1 t2 ts own peer dl c vs D asked wv probe now t3 tn tw v, right_n_B w ia da k1 k2 k3 k4 t1 t2 ts own peer dl c vs D asked wv probe now t3 tn tw v
theorem right_n_0 : right_n_S := by
  refine ubx ?_
  simp (disch := k_dflt (
    refine tyP ?_
    refine' (?g9 : ∀ q : right_n_S, Keep q → right_n_S) _ ?w9
    case g9 => exact fun q _ => q
    case w9 =>
      refine' kp9 ?h9 fun k9 => ?j9
      case h9 =>
        unfold right_n_S
        (repeat walk_at "CL9")
        rename_i w ia da k1 k2 k3 k4 t1 t2 ts own peer dl c vs D asked wv probe now t3 tn tw vk
        unfold right_n_B KV.to PureD9
        k_fill
        intro _ hlen o0 o1 p0 p1 q0 q1 hE hS
        w_on
        w_top on
        intro B F X N T hk hd hu hneed hdn hret
        have hdg := fun g (q : ∀ p ∈ restOf [(ia, instObj 85 da), (da, dictOf [⟨PyData.keyHash w.params (Str.ofString "own"), .str (Str.ofString "own") k1, .int own t1⟩, ⟨PyData.keyHash w.params (Str.ofString "peer"), .str (Str.ofString "peer") k2, .int peer t2⟩, ⟨PyData.keyHash w.params (Str.ofString "since"), .str (Str.ofString "since") k3, .none⟩, ⟨PyData.keyHash w.params (Str.ofString "has_asked"), .str (Str.ofString "has_asked") k4, .bool asked⟩] 4), (dl, listOf vs.toArray c)] vk.news, g.get? p.1 = some p.2) (FG : Fr vk.h₀ vk.L g vk.m) => DeedsN.gn hdn N hneed (by intro q hq; simp only [List.mem_cons, List.not_mem_nil, or_false] at hq; rcases hq with rfl | rfl | rfl <;> first | exact (fun h => nomatch (show Value.ref _ = Value.type _ from h)) | (show Value.type "dict" ≠ Value.type "tuple"; decide) | (show Value.type "list" ≠ Value.type "tuple"; decide)) q FG
        refine wpAny_call ?_
        k_dflt (refine' code_defCF ?k1 ?k2 ?k3 (need_news hneed N) (restOf_news N) restOf_dis ?k5 ?kA ?kF ?kK ?k6 ?k7 ?k8 ?k9 ?kB ?kD ?_ ?c2 ?c3 ?c4; (case kA => exact rfl); (case kF => exact rfl); (case kK => first | assumption | exact rfl); (case k1 => k_asm); (case k2 => k_asm); (case k3 => k_asm); (case k5 => k_asm); (case k6 => k_is); (case k7 => k_is); (case k8 => ktr_room); (case k9 => first | exact BindsTo.of_eq rfl | exact binds_K (by k_in) rfl (by k_is) rfl rfl rfl); (case kB => exact rfl); (case kD => decide +kernel); (case c2 => exact rfl); (case c3 => exact rfl); (case c4 => exact rfl); k_whole; intro g' L' h' tk' cells' FG' F' N' Y' B' X' T' l1 lr; (have hG' := hdg _ (fun p hp => (lr p hp).2) FG'); (clear lr hdg); (try k_lt l1); k_cells Y'; (try simp only [List.cons_append, List.nil_append] at N'); (try dsimp only); (try k_fold))
        w_strict (k_extra "STEPS9"; (all_goals first | (exfalso; (rename ((_ : Int) ≠ _) => hz9); exact hz9 rfl) | ((rename News _ _ _ (restOf _ _) => Nr9); (first | (rename News _ _ _ (_ :: _) => Nk9) | (rename News _ _ _ (_ ++ _) => Nk9) | (have Nk9 := @News.nil)); exact hret _ _ _ (by k_asm) (back_pure N hneed (news_sub Nk9 (by (repeat (first | exact sub_self | exact sub_left | exact sub_nil | (refine sub_cons (by k_mem) ?_) | refine sub_tail ?_)))) Nr9) rfl)))
      case j9 => revert k9; (try delta id ap_mk hd_in hd_out); intro k9; (try conv at k9 => zeta); exact k9)) only [↓bxT]
theorem right_n (w : World) (ia da : Addr) (k1 k2 k3 k4 t1 t2 ts : Tok) (own peer : Int) (dl : Addr) (c : Nat) (vs : List Value) (D : Deeds) (hlen : D.length ≤ 1000) (asked : Bool) (wv : Option Int) (o0 : 0 ≤ own) (o1 : own < 1000000000) (p0 : 0 ≤ peer) (p1 : peer < 1000000000) (probe now : Int) (t3 tn tw : Tok) (q0 : 0 ≤ probe) (q1 : probe < 1000000000) (hE : endOf none (waitOf own peer probe) = none) (hS : lawSince D = (none, asked)) : RW = RW →
    PureD w 34 689 vs D [(ia, instObj 85 da), (da, dictOf [⟨PyData.keyHash w.params (Str.ofString "own"), .str (Str.ofString "own") k1, .int own t1⟩, ⟨PyData.keyHash w.params (Str.ofString "peer"), .str (Str.ofString "peer") k2, .int peer t2⟩, ⟨PyData.keyHash w.params (Str.ofString "since"), .str (Str.ofString "since") k3, .none⟩, ⟨PyData.keyHash w.params (Str.ofString "has_asked"), .str (Str.ofString "has_asked") k4, .bool asked⟩] 4), (dl, listOf vs.toArray c)] [.ref ia, .ref dl, optV wv tw, .int probe t3, .int now tn] (fun v => v = .bool true) := by
  intro r9 p loose mean mg mb dp un gd cn cs a ccd cl outer A₀ base h₀ L m news s Q E
  exact right_n_0 w ia da k1 k2 k3 k4 t1 t2 ts own peer dl c vs D asked wv probe now t3 tn tw ⟨p, loose, mean, mg, mb, dp, un, gd, cn, cs, a, ccd, cl, outer, A₀, base, h₀, L, m, news, s, Q, E⟩ r9 hlen o0 o1 p0 p1 q0 q1 hE hS
end
section
set_option Elab.async false
set_option maxRecDepth 100000
set_option maxHeartbeats 2000000
theorem I5rw_rows0 : True := by
  k_with_none
  (k_with "STEPS9" => (repeat' (first | ((fail_if_success ((rename (_ : Type) => hc9); (with_unfolding_none rename Cl _ => hc8); (fail_if_success (have hc7 := hc9)))); (rename (_ : Type) => hc9); (refine hd_in ?_); revert hc9; (repeat ((fail_if_success ((rename (_ : Type) => hc9); (with_unfolding_none rename Cl _ => hc8); (fail_if_success (have hc7 := hc9)))); (rename (_ : Type) => hc9); revert hc9)); (with_reducible (refine eps_lt ?_; intro xc8; refine (?_ : ∀ y : Cl _, Ap _ y) xc8; clear xc8; intro _; refine ap_mk ?_)); (repeat (with_reducible (refine eps_lt ?_; intro xc8; refine (?_ : ∀ y : Cl _, Ap _ y) xc8; clear xc8; intro _; refine ap_mk ?_))); (set_option tactic.hygienic false in intros); (refine hd_out ?_)) | k_fold | (with_reducible rename ((@Ne Nat _ _ ∧ _) ∧ _) => hh9; (try k_fold); obtain ⟨hh8, hh7⟩ := hh9) | (with_reducible rename (@Ne Nat _ _ ∧ _) => hh9; (try k_fold); obtain ⟨hh8, hh7⟩ := hh9) | (with_reducible rename (@LT.lt Nat _ _ _ ∧ _) => hh9; (try k_fold); obtain ⟨hh8, hh7⟩ := hh9) | (k_unfold; (try dsimp only)) | (k_end; wrow_close) | walk1 | (dsimp only; walk1) | (leave1; walk_say "STEP leave1"; try dsimp only) | fail "no step")))
  trivial
theorem I5rw_rows1 : True := by
  (k_with "compareOp NotEq ref ref" => (k_here; (with_reducible show wpAny _ _ (compareOp CmpOp.NotEq (Value.ref _) (Value.ref _)) _ _ _); k_dflt ((refine ne_dataH (by ke_read) (by ke_read) (by ke_shaped) (by ke_shaped) (by ke_room) ?_); ke_norm; (fail_if_success (goal_has PySem.PyData.eqvAll)))))
  (k_with "compareOp Eq ref ref" => (k_here; (with_reducible show wpAny _ _ (compareOp CmpOp.Eq (Value.ref _) (Value.ref _)) _ _ _); k_dflt ((refine eq_dataH (by ke_read) (by ke_read) (by ke_shaped) (by ke_shaped) (by ke_room) ?_); ke_norm; (fail_if_success (goal_has PySem.PyData.eqvAll)))))
  (k_with "k_room" => (ktr_room))
  (k_with "k_units" => (ktr_units))
  (k_with "call ref" => (first | ((try dsimp only [List.cons_append, List.nil_append]); (with_reducible show wpAny _ _ (call (Value.ref 68) [Value.ref _, Value.int _ _]) _ _ _); k_dflt ((refine' PureM.use (deadline_c _ _ _ _ _ _ _ _ _ _ _ _ _ (some _) ?o0 ?o1 ?p0 ?p1 _ _ ?q0 ?q1 rfl) ?k1 ?k2 ?k3 ?k4 ?k5 ?kK ?kd ?ku ?kn ?_); (case k1 => k_asm); (case k2 => k_asm); (case k3 => k_asm); (case k4 => k_asm); (case k5 => k_asm); (case kK => first | exact rfl | assumption); (case kd => ktr_room); (case ku => ktr_units); (case kn => (repeat (first | exact need_nil | (refine need_cons (by k_mem) ?_)))); (case o0 => omega); (case o1 => omega); (case p0 => omega); (case p1 => omega); (case q0 => omega); (case q1 => omega); intro v9 h9 tk9 F9 N9 P9; obtain ⟨t9, he9⟩ := P9; rw [(by assumption : endOf _ _ = _)] at he9; simp only [optV] at he9; subst he9; (try dsimp only); (try k_fold))) | (fail "x")))
  (k_with "call ref" => (first | ((try dsimp only [List.cons_append, List.nil_append]); (with_reducible show wpAny _ _ (call (Value.ref 75) [Value.ref _, Value.int _ _, Value.int _ _]) _ _ _); k_dflt ((refine' PureM.use (is_over_c _ _ _ _ _ _ _ _ _ _ _ _ _ (some _) ?o0 ?o1 ?p0 ?p1 _ _ _ _ ?q0 ?q1 rfl) ?k1 ?k2 ?k3 ?k4 ?k5 ?kK ?kd ?ku ?kn ?_); (case k1 => k_asm); (case k2 => k_asm); (case k3 => k_asm); (case k4 => k_asm); (case k5 => k_asm); (case kK => first | exact rfl | assumption); (case kd => ktr_room); (case ku => ktr_units); (case kn => (repeat (first | exact need_nil | (refine need_cons (by k_mem) ?_)))); (case o0 => omega); (case o1 => omega); (case p0 => omega); (case p1 => omega); (case q0 => omega); (case q1 => omega); intro v9 h9 tk9 F9 N9 P9; first | (have e9 := P9.trans (congrArg Value.bool (over_n (by assumption))); subst e9; (try simp only [Bool.not_true, Bool.not_false])); (try dsimp only); (try k_fold))) | (fail "x")))
  (k_with "call ref" => (first | ((try dsimp only [List.cons_append, List.nil_append]); (with_reducible show wpAny _ _ (call (Value.ref 82) [Value.ref _, Value.int _ _, Value.int _ _, Value.int _ _]) _ _ _); k_dflt ((refine' PureM.use (wants_ping_c _ _ _ _ _ _ _ _ _ _ _ _ _ (some _) ?o0 ?o1 ?p0 ?p1 _ _ _ _ _ _ ?q0 ?q1 rfl) ?k1 ?k2 ?k3 ?k4 ?k5 ?kK ?kd ?ku ?kn ?_); (case k1 => k_asm); (case k2 => k_asm); (case k3 => k_asm); (case k4 => k_asm); (case k5 => k_asm); (case kK => first | exact rfl | assumption); (case kd => ktr_room); (case ku => ktr_units); (case kn => (repeat (first | exact need_nil | (refine need_cons (by k_mem) ?_)))); (case o0 => omega); (case o1 => omega); (case p0 => omega); (case p1 => omega); (case q0 => omega); (case q1 => omega); intro v9 h9 tk9 F9 N9 P9; first | (have e9 := P9.trans (congrArg Value.bool (ping_n (by assumption))); subst e9; (try simp only [Bool.not_true, Bool.not_false])); (try dsimp only); (try k_fold))) | (fail "x")))
  (k_with "call ref" => ((with_reducible show wpAny _ _ (call (Value.ref 684) [Value.ref _]) _ _ _); k_dflt ((refine' since_use (by assumption) (by k_asm) (by k_asm) (by k_asm) (by k_asm) (by k_asm) (by first | exact rfl | assumption) (by ktr_room) (by ktr_units) (by k_mem) (DeedsG.n (by assumption)) ?_); intro r9 o9 h9 tk9 F9 N9 P9; rw [(by assumption : lawSince _ = _)] at P9; obtain ⟨ts9, n9, ho9⟩ := P9; simp only [optV] at ho9; subst ho9; (try dsimp only); (try k_fold))))
  (k_with "eval ListComp" => (k_here; k_dflt (refine ListComp_UT (by k_asm) (by with_unfolding_all rfl) (by decide) (by rfl) (by decide) (by rfl) ?_)))
  (k_with "TupSrc" => (k_here; k_dflt (refine TupSrc.intro (by rfl) (by k_asm) (by k_asm) (by k_mem) (by first | size_fits | exact Nat.le_of_ble_eq_true rfl) ?_); intro gw'; first | (unfold RestTT; lct_lit) | (unfold RestUT; lcg_lit)))
  (k_with "k_ne" => (first | (refine neN ?_; (try dsimp only); first | assumption | exact Ne.symm (by assumption)) | (refine neN ?_; (try dsimp only); omega)))
  (k_with "CompEnd" => (k_dflt lcg_end; (repeat (rename (@Ne Nat _ _) => hh9; clear hh9))))
  (k_with "CompRest" => ((with_unfolding_all first
      | (refine LCg.CompRest.succ ?_; intro vw' Iw' oIw' Cw' oCw' Dw' mw' hw' tkw' Ew' hvw' hCw' hxw' Fw' Nw' offw' new'; (first | lcg_open hvw' | (obtain ⟨t9', hv9'⟩ := hvw'; subst hv9')); (k_dflt ((refine off_all offw' ?_); (repeat ((with_reducible show OffK _ _ _ (_ :: _) _); intro _ _ _)); (first | (with_reducible refine offk_nil ?_) | (with_reducible refine offk_tail (by (repeat (first | exact offw' | refine off_tl ?_))) ?_; intro _)); (try clear offw'))); (try (refine and3 new' ?_; intro _ _ _; clear new')); ((try k_fold); (repeat (rename (_ ∧ _) => hh9; obtain ⟨hh8, hh7⟩ := hh9))))
      | refine LCg.CompRest.zero ?_)))
  trivial
def right_w_B (w : World) (ia da : Addr) (k1 k2 k3 k4 t1 t2 ts : Tok) (own peer : Int) (dl : Addr) (c : Nat) (vs : List Value) (D : Deeds) (asked : Bool) (since probe now : Int) (t3 tn tw : Tok) (v : KV) : Prop := RW = RW → (D.length ≤ 1000) → (0 ≤ own) → (own < 1000000000) → (0 ≤ peer) → (peer < 1000000000) → (0 ≤ probe) → (probe < 1000000000) → (endOf (some since) (waitOf own peer probe) = none) → (lawSince D = ((some since), asked)) → v.to (PureD9 w 34 689 vs D [(ia, instObj 85 da), (da, dictOf [⟨PyData.keyHash w.params (Str.ofString "own"), .str (Str.ofString "own") k1, .int own t1⟩, ⟨PyData.keyHash w.params (Str.ofString "peer"), .str (Str.ofString "peer") k2, .int peer t2⟩, ⟨PyData.keyHash w.params (Str.ofString "since"), .str (Str.ofString "since") k3, .int since ts⟩, ⟨PyData.keyHash w.params (Str.ofString "has_asked"), .str (Str.ofString "has_asked") k4, .bool asked⟩] 4), (dl, listOf vs.toArray c)] [.ref ia, .ref dl, .none, .int probe t3, .int now tn] (fun v => v = .bool true))
def right_w_S : Prop := ∀ w ia da k1 k2 k3 k4 t1 t2 ts own peer dl c vs D asked since probe now t3 tn tw v, right_w_B w ia da k1 k2 k3 k4 t1 t2 ts own peer dl c vs D asked since probe now t3 tn tw v
theorem right_w_0 : right_w_S := by
  refine ubx ?_
  simp (disch := k_dflt (
    refine tyP ?_
    refine' (?g9 : ∀ q : right_w_S, Keep q → right_w_S) _ ?w9
    case g9 => exact fun q _ => q
    case w9 =>
      refine' kp9 ?h9 fun k9 => ?j9
      case h9 =>
        unfold right_w_S
        (repeat walk_at "CL9")
        rename_i w ia da k1 k2 k3 k4 t1 t2 ts own peer dl c vs D asked since probe now t3 tn tw vk
        unfold right_w_B KV.to PureD9
        k_fill
        intro _ hlen o0 o1 p0 p1 q0 q1 hE hS
        w_on
        w_top on
        intro B F X N T hk hd hu hneed hdn hret
        have hdg := fun g (q : ∀ p ∈ restOf [(ia, instObj 85 da), (da, dictOf [⟨PyData.keyHash w.params (Str.ofString "own"), .str (Str.ofString "own") k1, .int own t1⟩, ⟨PyData.keyHash w.params (Str.ofString "peer"), .str (Str.ofString "peer") k2, .int peer t2⟩, ⟨PyData.keyHash w.params (Str.ofString "since"), .str (Str.ofString "since") k3, .int since ts⟩, ⟨PyData.keyHash w.params (Str.ofString "has_asked"), .str (Str.ofString "has_asked") k4, .bool asked⟩] 4), (dl, listOf vs.toArray c)] vk.news, g.get? p.1 = some p.2) (FG : Fr vk.h₀ vk.L g vk.m) => DeedsN.gn hdn N hneed (by intro q hq; simp only [List.mem_cons, List.not_mem_nil, or_false] at hq; rcases hq with rfl | rfl | rfl <;> first | exact (fun h => nomatch (show Value.ref _ = Value.type _ from h)) | (show Value.type "dict" ≠ Value.type "tuple"; decide) | (show Value.type "list" ≠ Value.type "tuple"; decide)) q FG
        refine wpAny_call ?_
        k_dflt (refine' code_defCF ?k1 ?k2 ?k3 (need_news hneed N) (restOf_news N) restOf_dis ?k5 ?kA ?kF ?kK ?k6 ?k7 ?k8 ?k9 ?kB ?kD ?_ ?c2 ?c3 ?c4; (case kA => exact rfl); (case kF => exact rfl); (case kK => first | assumption | exact rfl); (case k1 => k_asm); (case k2 => k_asm); (case k3 => k_asm); (case k5 => k_asm); (case k6 => k_is); (case k7 => k_is); (case k8 => ktr_room); (case k9 => first | exact BindsTo.of_eq rfl | exact binds_K (by k_in) rfl (by k_is) rfl rfl rfl); (case kB => exact rfl); (case kD => decide +kernel); (case c2 => exact rfl); (case c3 => exact rfl); (case c4 => exact rfl); k_whole; intro g' L' h' tk' cells' FG' F' N' Y' B' X' T' l1 lr; (have hG' := hdg _ (fun p hp => (lr p hp).2) FG'); (clear lr hdg); (try k_lt l1); k_cells Y'; (try simp only [List.cons_append, List.nil_append] at N'); (try dsimp only); (try k_fold))
        w_strict (k_extra "STEPS9"; (all_goals first | (exfalso; (rename ((_ : Int) ≠ _) => hz9); exact hz9 rfl) | ((rename News _ _ _ (restOf _ _) => Nr9); (first | (rename News _ _ _ (_ :: _) => Nk9) | (rename News _ _ _ (_ ++ _) => Nk9) | (have Nk9 := @News.nil)); exact hret _ _ _ (by k_asm) (back_pure N hneed (news_sub Nk9 (by (repeat (first | exact sub_self | exact sub_left | exact sub_nil | (refine sub_cons (by k_mem) ?_) | refine sub_tail ?_)))) Nr9) rfl)))
      case j9 => revert k9; (try delta id ap_mk hd_in hd_out); intro k9; (try conv at k9 => zeta); exact k9)) only [↓bxT]
theorem right_w (w : World) (ia da : Addr) (k1 k2 k3 k4 t1 t2 ts : Tok) (own peer : Int) (dl : Addr) (c : Nat) (vs : List Value) (D : Deeds) (hlen : D.length ≤ 1000) (asked : Bool) (since : Int) (o0 : 0 ≤ own) (o1 : own < 1000000000) (p0 : 0 ≤ peer) (p1 : peer < 1000000000) (probe now : Int) (t3 tn tw : Tok) (q0 : 0 ≤ probe) (q1 : probe < 1000000000) (hE : endOf (some since) (waitOf own peer probe) = none) (hS : lawSince D = ((some since), asked)) : RW = RW →
    PureD w 34 689 vs D [(ia, instObj 85 da), (da, dictOf [⟨PyData.keyHash w.params (Str.ofString "own"), .str (Str.ofString "own") k1, .int own t1⟩, ⟨PyData.keyHash w.params (Str.ofString "peer"), .str (Str.ofString "peer") k2, .int peer t2⟩, ⟨PyData.keyHash w.params (Str.ofString "since"), .str (Str.ofString "since") k3, .int since ts⟩, ⟨PyData.keyHash w.params (Str.ofString "has_asked"), .str (Str.ofString "has_asked") k4, .bool asked⟩] 4), (dl, listOf vs.toArray c)] [.ref ia, .ref dl, .none, .int probe t3, .int now tn] (fun v => v = .bool true) := by
  intro r9 p loose mean mg mb dp un gd cn cs a ccd cl outer A₀ base h₀ L m news s Q E
  exact right_w_0 w ia da k1 k2 k3 k4 t1 t2 ts own peer dl c vs D asked since probe now t3 tn tw ⟨p, loose, mean, mg, mb, dp, un, gd, cn, cs, a, ccd, cl, outer, A₀, base, h₀, L, m, news, s, Q, E⟩ r9 hlen o0 o1 p0 p1 q0 q1 hE hS
end
section
set_option Elab.async false
set_option maxRecDepth 100000
set_option maxHeartbeats 4000000
theorem I5rs_rows0 : True := by
  k_with_none
  (k_with "STEPS9" => (repeat' (first | ((fail_if_success ((rename (_ : Type) => hc9); (with_unfolding_none rename Cl _ => hc8); (fail_if_success (have hc7 := hc9)))); (rename (_ : Type) => hc9); (refine hd_in ?_); revert hc9; (repeat ((fail_if_success ((rename (_ : Type) => hc9); (with_unfolding_none rename Cl _ => hc8); (fail_if_success (have hc7 := hc9)))); (rename (_ : Type) => hc9); revert hc9)); (with_reducible (refine eps_lt ?_; intro xc8; refine (?_ : ∀ y : Cl _, Ap _ y) xc8; clear xc8; intro _; refine ap_mk ?_)); (repeat (with_reducible (refine eps_lt ?_; intro xc8; refine (?_ : ∀ y : Cl _, Ap _ y) xc8; clear xc8; intro _; refine ap_mk ?_))); (set_option tactic.hygienic false in intros); (refine hd_out ?_)) | k_fold | (with_reducible rename ((@Ne Nat _ _ ∧ _) ∧ _) => hh9; (try k_fold); obtain ⟨hh8, hh7⟩ := hh9) | (with_reducible rename (@Ne Nat _ _ ∧ _) => hh9; (try k_fold); obtain ⟨hh8, hh7⟩ := hh9) | (with_reducible rename (@LT.lt Nat _ _ _ ∧ _) => hh9; (try k_fold); obtain ⟨hh8, hh7⟩ := hh9) | (k_unfold; (try dsimp only)) | (k_end; wrow_close) | walk1 | (dsimp only; walk1) | (leave1; walk_say "STEP leave1"; try dsimp only) | fail "no step")))
  trivial
theorem I5rs_rows1 : True := by
  (k_with "compareOp NotEq ref ref" => (k_here; (with_reducible show wpAny _ _ (compareOp CmpOp.NotEq (Value.ref _) (Value.ref _)) _ _ _); k_dflt ((refine ne_dataH (by ke_read) (by ke_read) (by ke_shaped) (by ke_shaped) (by ke_room) ?_); ke_norm; (fail_if_success (goal_has PySem.PyData.eqvAll)))))
  (k_with "compareOp Eq ref ref" => (k_here; (with_reducible show wpAny _ _ (compareOp CmpOp.Eq (Value.ref _) (Value.ref _)) _ _ _); k_dflt ((refine eq_dataH (by ke_read) (by ke_read) (by ke_shaped) (by ke_shaped) (by ke_room) ?_); ke_norm; (fail_if_success (goal_has PySem.PyData.eqvAll)))))
  (k_with "k_room" => (ktr_room))
  (k_with "k_units" => (ktr_units))
  (k_with "call ref" => (first | ((try dsimp only [List.cons_append, List.nil_append]); (with_reducible show wpAny _ _ (call (Value.ref 68) [Value.ref _, Value.int _ _]) _ _ _); k_dflt ((refine' PureM.use (deadline_c _ _ _ _ _ _ _ _ _ _ _ _ _ (some _) ?o0 ?o1 ?p0 ?p1 _ _ ?q0 ?q1 rfl) ?k1 ?k2 ?k3 ?k4 ?k5 ?kK ?kd ?ku ?kn ?_); (case k1 => k_asm); (case k2 => k_asm); (case k3 => k_asm); (case k4 => k_asm); (case k5 => k_asm); (case kK => first | exact rfl | assumption); (case kd => ktr_room); (case ku => ktr_units); (case kn => (repeat (first | exact need_nil | (refine need_cons (by k_mem) ?_)))); (case o0 => omega); (case o1 => omega); (case p0 => omega); (case p1 => omega); (case q0 => omega); (case q1 => omega); intro v9 h9 tk9 F9 N9 P9; obtain ⟨t9, he9⟩ := P9; rw [(by assumption : endOf _ _ = _)] at he9; simp only [optV] at he9; subst he9; (try dsimp only); (try k_fold))) | (fail "x")))
  (k_with "call ref" => (first | ((try dsimp only [List.cons_append, List.nil_append]); (with_reducible show wpAny _ _ (call (Value.ref 75) [Value.ref _, Value.int _ _, Value.int _ _]) _ _ _); k_dflt ((refine' PureM.use (is_over_c _ _ _ _ _ _ _ _ _ _ _ _ _ (some _) ?o0 ?o1 ?p0 ?p1 _ _ _ _ ?q0 ?q1 rfl) ?k1 ?k2 ?k3 ?k4 ?k5 ?kK ?kd ?ku ?kn ?_); (case k1 => k_asm); (case k2 => k_asm); (case k3 => k_asm); (case k4 => k_asm); (case k5 => k_asm); (case kK => first | exact rfl | assumption); (case kd => ktr_room); (case ku => ktr_units); (case kn => (repeat (first | exact need_nil | (refine need_cons (by k_mem) ?_)))); (case o0 => omega); (case o1 => omega); (case p0 => omega); (case p1 => omega); (case q0 => omega); (case q1 => omega); intro v9 h9 tk9 F9 N9 P9; first | (have e9 := P9.trans (congrArg Value.bool (over_f (by assumption) (by omega))); subst e9; (try simp only [Bool.not_true, Bool.not_false])) | (have e9 := P9.trans (congrArg Value.bool (over_t (by assumption) (by omega))); subst e9; (try simp only [Bool.not_true, Bool.not_false])); (try dsimp only); (try k_fold))) | (fail "x")))
  (k_with "call ref" => (first | ((try dsimp only [List.cons_append, List.nil_append]); (with_reducible show wpAny _ _ (call (Value.ref 82) [Value.ref _, Value.int _ _, Value.int _ _, Value.int _ _]) _ _ _); k_dflt ((refine' PureM.use (wants_ping_c _ _ _ _ _ _ _ _ _ _ _ _ _ (some _) ?o0 ?o1 ?p0 ?p1 _ _ _ _ _ _ ?q0 ?q1 rfl) ?k1 ?k2 ?k3 ?k4 ?k5 ?kK ?kd ?ku ?kn ?_); (case k1 => k_asm); (case k2 => k_asm); (case k3 => k_asm); (case k4 => k_asm); (case k5 => k_asm); (case kK => first | exact rfl | assumption); (case kd => ktr_room); (case ku => ktr_units); (case kn => (repeat (first | exact need_nil | (refine need_cons (by k_mem) ?_)))); (case o0 => omega); (case o1 => omega); (case p0 => omega); (case p1 => omega); (case q0 => omega); (case q1 => omega); intro v9 h9 tk9 F9 N9 P9; first | (have e9 := P9.trans (congrArg Value.bool (ping_f (by assumption) (by omega))); subst e9; (try simp only [Bool.not_true, Bool.not_false])) | (have e9 := P9.trans (congrArg Value.bool (ping_t (by assumption) (by omega))); subst e9; (try simp only [Bool.not_true, Bool.not_false])); (try dsimp only); (try k_fold))) | (fail "x")))
  (k_with "call ref" => ((with_reducible show wpAny _ _ (call (Value.ref 684) [Value.ref _]) _ _ _); k_dflt ((refine' since_use (by assumption) (by k_asm) (by k_asm) (by k_asm) (by k_asm) (by k_asm) (by first | exact rfl | assumption) (by ktr_room) (by ktr_units) (by k_mem) (DeedsG.n (by assumption)) ?_); intro r9 o9 h9 tk9 F9 N9 P9; rw [(by assumption : lawSince _ = _)] at P9; obtain ⟨ts9, n9, ho9⟩ := P9; simp only [optV] at ho9; subst ho9; (try dsimp only); (try k_fold))))
  (k_with "eval ListComp" => (k_here; k_dflt (refine ListComp_UT (by k_asm) (by with_unfolding_all rfl) (by decide) (by rfl) (by decide) (by rfl) ?_)))
  (k_with "TupSrc" => (k_here; k_dflt (refine TupSrc.intro (by rfl) (by k_asm) (by k_asm) (by k_mem) (by first | size_fits | exact Nat.le_of_ble_eq_true rfl) ?_); intro gw'; first | (unfold RestTT; lct_lit) | (unfold RestUT; lcg_lit)))
  (k_with "k_ne" => (first | (refine neN ?_; (try dsimp only); first | assumption | exact Ne.symm (by assumption)) | (refine neN ?_; (try dsimp only); omega)))
  (k_with "CompEnd" => (k_dflt lcg_end; (repeat (rename (@Ne Nat _ _) => hh9; clear hh9))))
  (k_with "CompRest" => ((with_unfolding_all first
      | (refine LCg.CompRest.succ ?_; intro vw' Iw' oIw' Cw' oCw' Dw' mw' hw' tkw' Ew' hvw' hCw' hxw' Fw' Nw' offw' new'; (first | lcg_open hvw' | (obtain ⟨t9', hv9'⟩ := hvw'; subst hv9')); (k_dflt ((refine off_all offw' ?_); (repeat ((with_reducible show OffK _ _ _ (_ :: _) _); intro _ _ _)); (first | (with_reducible refine offk_nil ?_) | (with_reducible refine offk_tail (by (repeat (first | exact offw' | refine off_tl ?_))) ?_; intro _)); (try clear offw'))); (try (refine and3 new' ?_; intro _ _ _; clear new')); ((try k_fold); (repeat (rename (_ ∧ _) => hh9; obtain ⟨hh8, hh7⟩ := hh9))))
      | refine LCg.CompRest.zero ?_)))
  trivial
def right_s_B (w : World) (ia da : Addr) (k1 k2 k3 k4 t1 t2 ts : Tok) (own peer : Int) (dl : Addr) (c : Nat) (vs : List Value) (D : Deeds) (asked : Bool) (since wait probe now : Int) (t3 tn tw : Tok) (v : KV) : Prop := RW = RW → (D.length ≤ 1000) → (0 ≤ own) → (own < 1000000000) → (0 ≤ peer) → (peer < 1000000000) → (0 ≤ probe) → (probe < 1000000000) → (endOf (some since) (waitOf own peer probe) = some (since + wait)) → (lawSince D = ((some since), asked)) → v.to (PureD9 w 34 689 vs D [(ia, instObj 85 da), (da, dictOf [⟨PyData.keyHash w.params (Str.ofString "own"), .str (Str.ofString "own") k1, .int own t1⟩, ⟨PyData.keyHash w.params (Str.ofString "peer"), .str (Str.ofString "peer") k2, .int peer t2⟩, ⟨PyData.keyHash w.params (Str.ofString "since"), .str (Str.ofString "since") k3, .int since ts⟩, ⟨PyData.keyHash w.params (Str.ofString "has_asked"), .str (Str.ofString "has_asked") k4, .bool asked⟩] 4), (dl, listOf vs.toArray c)] [.ref ia, .ref dl, .int wait tw, .int probe t3, .int now tn] (fun v => v = .bool true))
def right_s_S : Prop := ∀ w ia da k1 k2 k3 k4 t1 t2 ts own peer dl c vs D asked since wait probe now t3 tn tw v, right_s_B w ia da k1 k2 k3 k4 t1 t2 ts own peer dl c vs D asked since wait probe now t3 tn tw v
theorem right_s_0 : right_s_S := by
  refine ubx ?_
  simp (disch := k_dflt (
    refine tyP ?_
    refine' (?g9 : ∀ q : right_s_S, Keep q → right_s_S) _ ?w9
    case g9 => exact fun q _ => q
    case w9 =>
      refine' kp9 ?h9 fun k9 => ?j9
      case h9 =>
        unfold right_s_S
        (repeat walk_at "CL9")
        rename_i w ia da k1 k2 k3 k4 t1 t2 ts own peer dl c vs D asked since wait probe now t3 tn tw vk
        unfold right_s_B KV.to PureD9
        k_fill
        intro _ hlen o0 o1 p0 p1 q0 q1 hE hS
        w_on
        w_top on
        intro B F X N T hk hd hu hneed hdn hret
        have hdg := fun g (q : ∀ p ∈ restOf [(ia, instObj 85 da), (da, dictOf [⟨PyData.keyHash w.params (Str.ofString "own"), .str (Str.ofString "own") k1, .int own t1⟩, ⟨PyData.keyHash w.params (Str.ofString "peer"), .str (Str.ofString "peer") k2, .int peer t2⟩, ⟨PyData.keyHash w.params (Str.ofString "since"), .str (Str.ofString "since") k3, .int since ts⟩, ⟨PyData.keyHash w.params (Str.ofString "has_asked"), .str (Str.ofString "has_asked") k4, .bool asked⟩] 4), (dl, listOf vs.toArray c)] vk.news, g.get? p.1 = some p.2) (FG : Fr vk.h₀ vk.L g vk.m) => DeedsN.gn hdn N hneed (by intro q hq; simp only [List.mem_cons, List.not_mem_nil, or_false] at hq; rcases hq with rfl | rfl | rfl <;> first | exact (fun h => nomatch (show Value.ref _ = Value.type _ from h)) | (show Value.type "dict" ≠ Value.type "tuple"; decide) | (show Value.type "list" ≠ Value.type "tuple"; decide)) q FG
        refine wpAny_call ?_
        k_dflt (refine' code_defCF ?k1 ?k2 ?k3 (need_news hneed N) (restOf_news N) restOf_dis ?k5 ?kA ?kF ?kK ?k6 ?k7 ?k8 ?k9 ?kB ?kD ?_ ?c2 ?c3 ?c4; (case kA => exact rfl); (case kF => exact rfl); (case kK => first | assumption | exact rfl); (case k1 => k_asm); (case k2 => k_asm); (case k3 => k_asm); (case k5 => k_asm); (case k6 => k_is); (case k7 => k_is); (case k8 => ktr_room); (case k9 => first | exact BindsTo.of_eq rfl | exact binds_K (by k_in) rfl (by k_is) rfl rfl rfl); (case kB => exact rfl); (case kD => decide +kernel); (case c2 => exact rfl); (case c3 => exact rfl); (case c4 => exact rfl); k_whole; intro g' L' h' tk' cells' FG' F' N' Y' B' X' T' l1 lr; (have hG' := hdg _ (fun p hp => (lr p hp).2) FG'); (clear lr hdg); (try k_lt l1); k_cells Y'; (try simp only [List.cons_append, List.nil_append] at N'); (try dsimp only); (try k_fold))
        w_strict (k_extra "STEPS9"; (all_goals first | (exfalso; (rename ((_ : Int) ≠ _) => hz9); exact hz9 rfl) | ((rename News _ _ _ (restOf _ _) => Nr9); (first | (rename News _ _ _ (_ :: _) => Nk9) | (rename News _ _ _ (_ ++ _) => Nk9) | (have Nk9 := @News.nil)); exact hret _ _ _ (by k_asm) (back_pure N hneed (news_sub Nk9 (by (repeat (first | exact sub_self | exact sub_left | exact sub_nil | (refine sub_cons (by k_mem) ?_) | refine sub_tail ?_)))) Nr9) rfl)))
      case j9 => revert k9; (try delta id ap_mk hd_in hd_out); intro k9; (try conv at k9 => zeta); exact k9)) only [↓bxT]
theorem right_s (w : World) (ia da : Addr) (k1 k2 k3 k4 t1 t2 ts : Tok) (own peer : Int) (dl : Addr) (c : Nat) (vs : List Value) (D : Deeds) (hlen : D.length ≤ 1000) (asked : Bool) (since wait : Int) (o0 : 0 ≤ own) (o1 : own < 1000000000) (p0 : 0 ≤ peer) (p1 : peer < 1000000000) (probe now : Int) (t3 tn tw : Tok) (q0 : 0 ≤ probe) (q1 : probe < 1000000000) (hE : endOf (some since) (waitOf own peer probe) = some (since + wait)) (hS : lawSince D = ((some since), asked)) : RW = RW →
    PureD w 34 689 vs D [(ia, instObj 85 da), (da, dictOf [⟨PyData.keyHash w.params (Str.ofString "own"), .str (Str.ofString "own") k1, .int own t1⟩, ⟨PyData.keyHash w.params (Str.ofString "peer"), .str (Str.ofString "peer") k2, .int peer t2⟩, ⟨PyData.keyHash w.params (Str.ofString "since"), .str (Str.ofString "since") k3, .int since ts⟩, ⟨PyData.keyHash w.params (Str.ofString "has_asked"), .str (Str.ofString "has_asked") k4, .bool asked⟩] 4), (dl, listOf vs.toArray c)] [.ref ia, .ref dl, .int wait tw, .int probe t3, .int now tn] (fun v => v = .bool true) := by
  intro r9 p loose mean mg mb dp un gd cn cs a ccd cl outer A₀ base h₀ L m news s Q E
  exact right_s_0 w ia da k1 k2 k3 k4 t1 t2 ts own peer dl c vs D asked since wait probe now t3 tn tw ⟨p, loose, mean, mg, mb, dp, un, gd, cn, cs, a, ccd, cl, outer, A₀, base, h₀, L, m, news, s, Q, E⟩ r9 hlen o0 o1 p0 p1 q0 q1 hE hS
end
section
set_option Elab.async false
set_option maxRecDepth 100000
set_option maxHeartbeats 800000
theorem state_use {w : World} {ia : Addr} {l : List (Addr × Obj)} {p : Program} {loose : List Str} {mean : ExcName → Option Value} {mg mb : Str → Option Value}
    {dp un : Nat} {gd : Option (List Code)} {cn : Str} {cs : Scope} {a : Addr} {ccd : Value} {cl : List (Str × Addr)} {outer : List Env} {A₀ : Around} {base h₀ : Heap} {L : Addr} {m : Str → Option Value} {news : List (Addr × Obj)} {s : Shared} {Q E : Value → Shared → Prop}
    (HT : ((674 : Addr), tabObj #[]) ∈ news) (HC : CodeHd base 678 674) (hl : ∀ q ∈ l, q ∈ news ∧ @Ne Nat q.1 674)
    (B : Below A₀ base outer h₀) (F : Fr h₀ L s.heap m) (XK : (hd.heap_1 w.params).In h₀) (N : News h₀ L s.heap news) (T : Top p loose mean mg mb h₀) (hk : cs.kind = .function) (h1 : dp + 24 < recursionLimit) (h2 : un + 8 * 24 < cLine)
    (ret : ∀ co h' tk' X ps, Fr h₀ L h' m → News h₀ L h' (l ++ X) → ConnIn w h₀ co ia 0 X → ((674 : Addr), tabObj ps) ∈ X → (∀ q ∈ l, ∀ p ∈ X, @Ne Nat p.1 q.1) → Q (.ref co) { s with heap := h', toks := tk' }) :
    wpAny (model PR w) (ktrTop dp un gd cn cs L a ccd cl outer) (call (.ref 679) [.ref ia]) Q E s :=
  state_e w ia rfl _ _ _ _ _ _ _ _ _ _ _ _ _ _ _ _ _ _ _ _ _ _ _ B F XK N T hk h1 h2 (need_cons HT need_nil) HC fun co X ps h' tk' F' N' C hT hne =>
    have hr : ∀ q ∈ l, q ∈ restOf [((674 : Addr), tabObj #[])] news := fun q hq => List.mem_filter.mpr ⟨(hl q hq).1, by simpa using (hl q hq).2⟩
    ret co h' tk' X ps F' (fun q hq => (List.mem_append.mp hq).elim (fun hq => N' q (List.mem_append_right _ (hr q hq))) (fun hq => N' q (List.mem_append_left _ hq))) C hT fun q hq p hp => Ne.symm (hne p hp q (hr q hq))
theorem right_all (w : World) (ia da : Addr) (k1 k2 k3 k4 t1 t2 ts : Tok) (own peer : Int) (dl : Addr) (c : Nat) (vs : List Value) (D : Deeds) (hlen : D.length ≤ 1000) (asked : Bool) (sv : Option Int) (o0 : 0 ≤ own) (o1 : own < 1000000000) (p0 : 0 ≤ peer) (p1 : peer < 1000000000) (probe now : Int) (t3 tn tw : Tok) (q0 : 0 ≤ probe) (q1 : probe < 1000000000) (hS : lawSince D = (sv, asked)) :
    PureD w 34 689 vs D [(ia, instObj 85 da), (da, dictOf [⟨PyData.keyHash w.params (Str.ofString "own"), .str (Str.ofString "own") k1, .int own t1⟩, ⟨PyData.keyHash w.params (Str.ofString "peer"), .str (Str.ofString "peer") k2, .int peer t2⟩, ⟨PyData.keyHash w.params (Str.ofString "since"), .str (Str.ofString "since") k3, optV sv ts⟩, ⟨PyData.keyHash w.params (Str.ofString "has_asked"), .str (Str.ofString "has_asked") k4, .bool asked⟩] 4), (dl, listOf vs.toArray c)] [.ref ia, .ref dl, optV (waitOf own peer probe) tw, .int probe t3, .int now tn] (fun v => v = .bool true) := by
  cases hw : waitOf own peer probe with
  | none =>
    cases sv with
    | none => exact right_n w ia da k1 k2 k3 k4 t1 t2 ts own peer dl c vs D hlen asked none o0 o1 p0 p1 probe now t3 tn tw q0 q1 (by rw [hw]; rfl) hS rfl
    | some since => exact right_w w ia da k1 k2 k3 k4 t1 t2 ts own peer dl c vs D hlen asked since o0 o1 p0 p1 probe now t3 tn tw q0 q1 (by rw [hw]; rfl) hS rfl
  | some wt =>
    cases sv with
    | none => exact right_n w ia da k1 k2 k3 k4 t1 t2 ts own peer dl c vs D hlen asked (some wt) o0 o1 p0 p1 probe now t3 tn tw q0 q1 (by rw [hw]; rfl) hS rfl
    | some since =>
      exact right_s w ia da k1 k2 k3 k4 t1 t2 ts own peer dl c vs D hlen asked since wt o0 o1 p0 p1 probe now t3 tn tw q0 q1 (by rw [hw]; rfl) hS rfl
end
section
set_option Elab.async false
set_option maxRecDepth 100000
set_option maxHeartbeats 4000000
theorem K3_rows0 : True := by
  k_with_none
  trivial
theorem K3_rows1 : True := by
  (k_with "k_room" => (ktr_room))
  (k_with "k_units" => (ktr_units))
  (k_with "execs cons" => (k_here; (rename News _ _ _ _ => N9); (dsimp only at N9); refine wpAny_execs_cons ?_))
  trivial
def idle_new_B (w : World) (own : Int) (t1 t2 : Tok) (v : KV) : Prop := RW = RW → v.to fun p loose mean mg mb dp un gd cn cs a ccd cl outer A₀ base h₀ L m news s Q E => Below A₀ base outer h₀ → Fr h₀ L s.heap m → (hd.heap_1 w.params).In h₀ → News h₀ L s.heap news → Top p loose mean mg mb h₀ → cs.kind = .function →
    dp + 12 < recursionLimit → un + 8 * 12 < cLine →
    (∀ (ia da : Addr) (k1 k2 k3 k4 : Tok) h' tk', Fr h₀ L h' m → News h₀ L h' ((ia, instObj 85 da) :: (da, dictOf [⟨PyData.keyHash w.params (Str.ofString "own"), .str (Str.ofString "own") k1, .int own t1⟩, ⟨PyData.keyHash w.params (Str.ofString "peer"), .str (Str.ofString "peer") k2, .int 0 t2⟩, ⟨PyData.keyHash w.params (Str.ofString "since"), .str (Str.ofString "since") k3, .none⟩, ⟨PyData.keyHash w.params (Str.ofString "has_asked"), .str (Str.ofString "has_asked") k4, .bool false⟩] 4) :: news) → (∀ p ∈ news, p.1 < da) → @LT.lt Nat _ da ia → Q (.ref ia) { s with heap := h', toks := tk' }) →
    wpAny (model PR w) (ktrTop dp un gd cn cs L a ccd cl outer) (call (.ref 85) [.int own t1, .int 0 t2, .none]) Q E s
def idle_new_S : Prop := ∀ w own t1 t2 v, idle_new_B w own t1 t2 v
theorem idle_new_0 : idle_new_S := by
  refine ubx ?_
  simp (disch := k_dflt (
    refine tyP ?_
    refine' (?g9 : ∀ q : idle_new_S, Keep q → idle_new_S) _ ?w9
    case g9 => exact fun q _ => q
    case w9 =>
      refine' kp9 ?h9 fun k9 => ?j9
      case h9 =>
        unfold idle_new_S
        (repeat walk_at "CL9")
        rename_i w own t1 t2 vk
        unfold idle_new_B KV.to
        k_fill
        intro _
        w_on
        w_top on
        intro B F X N T hk hd hu hret
        refine wpAny_call ?_
        k_dflt (refine' make_K F N (X.keeps F.keep) ?m1 ?m2 ?m3 ?_; (case m1 => k_is); (case m2 => k_is); (case m3 => k_is))
        intro pl pd h1 F1 N1 o1 o2
        replace o2 := ltN o2
        have N2 : News vk.h₀ vk.L h1 [(pl, instObj 85 pd), (pd, dictOf [] 0)] := news_head2 N1
        have Nr := nd2 N1
        k_dflt (refine' code_defF B F1 X N2 Nr (off2 o1 o2) T ?kA ?kF ?kK ?k6 ?k7 ?k8 ?k9 ?kB ?_ ?c2 ?c3 ?c4 ?c5; (case kA => exact rfl); (case kF => exact rfl); (case kK => first | assumption | exact rfl); (case k6 => k_is); (case k7 => k_is); (case k8 => ktr_room); (case k9 => first | exact BindsTo.of_eq rfl | exact binds_K (by k_in) rfl (by k_is) rfl rfl rfl); (case c5 => decide); (case kB => exact locs (Eq.refl true)); (case c2 => exact rfl); (case c3 => exact rfl); (case c4 => exact rfl); k_whole; intro g' L' h' tk' FG' F' N' B' X' T' l1 lr; (clear lr); (try dsimp only); (try k_lt l1); (try k_fold))
        clear Nr N2 N1
        w_strict (k_steps; (all_goals ((refine ⟨rfl, ?_⟩); (rename News _ _ _ vk.news => Nr9); (rename News _ _ _ (_ :: _) => Nk9); exact hret _ _ _ _ _ _ _ _ (by k_asm) (news_two Nk9 (by k_mem) (by k_mem) Nr9) o1 o2)))
      case j9 => revert k9; (try delta id ap_mk hd_in hd_out); intro k9; (try conv at k9 => zeta); exact k9)) only [↓bxT]
theorem idle_new (w : World) (own : Int) (t1 t2 : Tok) : RW = RW → ∀ (p : Program) (loose : List Str) (mean : ExcName → Option Value) (mg mb : Str → Option Value)
    (dp un : Nat) (gd : Option (List Code)) (cn : Str) (cs : Scope) (a : Addr) (ccd : Value) (cl : List (Str × Addr)) (outer : List Env) (A₀ : Around) (base h₀ : Heap) (L : Addr) (m : Str → Option Value) (news : List (Addr × Obj)) (s : Shared) (Q E : Value → Shared → Prop),
    Below A₀ base outer h₀ → Fr h₀ L s.heap m → (hd.heap_1 w.params).In h₀ → News h₀ L s.heap news → Top p loose mean mg mb h₀ → cs.kind = .function →
    dp + 12 < recursionLimit → un + 8 * 12 < cLine →
    (∀ (ia da : Addr) (k1 k2 k3 k4 : Tok) h' tk', Fr h₀ L h' m → News h₀ L h' ((ia, instObj 85 da) :: (da, dictOf [⟨PyData.keyHash w.params (Str.ofString "own"), .str (Str.ofString "own") k1, .int own t1⟩, ⟨PyData.keyHash w.params (Str.ofString "peer"), .str (Str.ofString "peer") k2, .int 0 t2⟩, ⟨PyData.keyHash w.params (Str.ofString "since"), .str (Str.ofString "since") k3, .none⟩, ⟨PyData.keyHash w.params (Str.ofString "has_asked"), .str (Str.ofString "has_asked") k4, .bool false⟩] 4) :: news) → (∀ p ∈ news, p.1 < da) → @LT.lt Nat _ da ia → Q (.ref ia) { s with heap := h', toks := tk' }) →
    wpAny (model PR w) (ktrTop dp un gd cn cs L a ccd cl outer) (call (.ref 85) [.int own t1, .int 0 t2, .none]) Q E s := by
  intro r9 p loose mean mg mb dp un gd cn cs a ccd cl outer A₀ base h₀ L m news s Q E
  exact idle_new_0 w own t1 t2 ⟨p, loose, mean, mg, mb, dp, un, gd, cn, cs, a, ccd, cl, outer, A₀, base, h₀, L, m, news, s, Q, E⟩ r9 
def tell_peer_c_B (w : World) (ia da : Addr) (k1 k2 k3 k4 t1 t2 ts : Tok) (own peer : Int) (asked : Bool) (sv : Option Int) (now : Int) (tn : Tok) : Prop := RW = RW → UpdM w 4 47 da (dictOf [⟨PyData.keyHash w.params (Str.ofString "own"), .str (Str.ofString "own") k1, .int own t1⟩, ⟨PyData.keyHash w.params (Str.ofString "peer"), .str (Str.ofString "peer") k2, .int peer t2⟩, ⟨PyData.keyHash w.params (Str.ofString "since"), .str (Str.ofString "since") k3, optV sv ts⟩, ⟨PyData.keyHash w.params (Str.ofString "has_asked"), .str (Str.ofString "has_asked") k4, .bool asked⟩] 4) [(ia, instObj 85 da)] [.ref ia, .int now tn] (fun v o' => o' = dictOf [⟨PyData.keyHash w.params (Str.ofString "own"), .str (Str.ofString "own") k1, .int own t1⟩, ⟨PyData.keyHash w.params (Str.ofString "peer"), .str (Str.ofString "peer") k2, .int now tn⟩, ⟨PyData.keyHash w.params (Str.ofString "since"), .str (Str.ofString "since") k3, optV sv ts⟩, ⟨PyData.keyHash w.params (Str.ofString "has_asked"), .str (Str.ofString "has_asked") k4, .bool asked⟩] 4)
theorem tell_peer_c : ∀ w ia da k1 k2 k3 k4 t1 t2 ts own peer asked sv now tn, tell_peer_c_B w ia da k1 k2 k3 k4 t1 t2 ts own peer asked sv now tn := by
  refine ubx ?_
  simp (disch := k_dflt (
    refine tyP ?_
    refine' (?g9 : ∀ q : (∀ w ia da k1 k2 k3 k4 t1 t2 ts own peer asked sv now tn, tell_peer_c_B w ia da k1 k2 k3 k4 t1 t2 ts own peer asked sv now tn), Keep q → (∀ w ia da k1 k2 k3 k4 t1 t2 ts own peer asked sv now tn, tell_peer_c_B w ia da k1 k2 k3 k4 t1 t2 ts own peer asked sv now tn)) _ ?w9
    case g9 => exact fun q _ => q
    case w9 =>
      refine' kp9 ?h9 fun k9 => ?j9
      case h9 =>
        (repeat walk_at "CL9")
        rename_i w ia da k1 k2 k3 k4 t1 t2 ts own peer asked sv now tn
        unfold tell_peer_c_B
        intro _
        refine UpdM_of _ _ _ _ _ _ _ _ ?_
        (repeat walk_at "CL9")
        rename_i g vk
        unfold KV.to UpdM9
        w_on
        w_top on
        intro B F X N T hk hd hu hU hneed hret
        have hne := upd_ne hU hneed
        simp only [List.mem_cons, List.not_mem_nil, or_false, forall_eq_or_imp, forall_eq, false_imp_iff, implies_true] at hne
        refine wpAny_call ?_
        k_dflt (refine' code_defF ?k1 ?k2 ?k3 (need_news (upd_need hU hneed) N) (restOf_news N) restOf_dis ?k5 ?kA ?kF ?kK ?k6 ?k7 ?k8 ?k9 ?kB ?_ ?c2 ?c3 ?c4 ?c5; (case kA => exact rfl); (case kF => exact rfl); (case kK => first | assumption | exact rfl); (case k1 => k_asm); (case k2 => k_asm); (case k3 => k_asm); (case k5 => k_asm); (case k6 => k_is); (case k7 => k_is); (case k8 => ktr_room); (case k9 => first | exact BindsTo.of_eq rfl | exact binds_K (by k_in) rfl (by k_is) rfl rfl rfl); (case c5 => decide); (case kB => exact locs (Eq.refl true)); (case c2 => exact rfl); (case c3 => exact rfl); (case c4 => exact rfl); k_whole; intro g' L' h' tk' FG' F' N' B' X' T' l1 lr; (try clear lr); (try dsimp only); (try k_lt l1); (try k_fold))
        w_strict (k_steps; (all_goals ((rename News _ _ _ (restOf _ _) => Nr9); (first | (rename News _ _ _ (_ :: _) => Nk9) | (rename News _ _ _ (_ ++ _) => Nk9) | (have Nk9 := @News.nil)); exact hret _ _ _ _ (by k_asm) (back_upd N hU hneed (news_sub Nk9 (by (repeat (first | exact sub_self | exact sub_left | exact sub_nil | (refine sub_cons (by k_mem) ?_) | refine sub_tail ?_)))) Nr9) rfl)))
      case j9 => revert k9; (try delta id ap_mk hd_in hd_out); intro k9; (try conv at k9 => zeta); exact k9)) only [↓bxT]
end
section
set_option Elab.async false
set_option maxRecDepth 100000
set_option maxHeartbeats 1600000
theorem S16_rows0 : True := by
  k_with_none
  trivial
theorem S16_rows1 : True := by
  trivial
def TakeAt (w : World) (d : Nat) : Prop :=
  ∀ (p : Program) (loose : List Str) (mean : ExcName → Option Value) (mg mb : Str → Option Value)
    (dp un : Nat) (gd : Option (List Code)) (cn : Str) (cs : Scope) (a : Addr) (ccd : Value) (cl : List (Str × Addr)) (outer : List Env) (A₀ : Around) (base h₀ : Heap) (L : Addr) (m : Str → Option Value) (rest : List (Addr × Obj)) (s : Shared) (Q E : Value → Shared → Prop)
    (b l : Addr) (c1 c2 : Nat) (vs : List Value) (ns : List Int) (k many : Int) (t u : Tok),
    Below A₀ base outer h₀ → Fr h₀ L s.heap m → (hd.heap_1 w.params).In h₀ → News h₀ L s.heap ((b, listOf #[.ref l, .int k t] c1) :: (l, listOf vs.toArray c2) :: rest) → Top p loose mean mg mb h₀ → cs.kind = .function →
    dp + d < recursionLimit → un + 8 * d < cLine → IntsAre vs ns → ns.length ≤ 24 → 0 ≤ k → 0 < many → @Ne Nat l b → (∀ p ∈ rest, @Ne Nat p.1 b) →
    (∀ v h' tk' t' c', Fr h₀ L h' m → News h₀ L h' ((b, listOf #[.ref l, .int (k + 1) t'] c') :: (l, listOf vs.toArray c2) :: rest) → IntIn 0 many v → Q v { s with heap := h', toks := tk' }) →
    wpAny (model PR w) (ktrTop dp un gd cn cs L a ccd cl outer) (call (.ref 672) [.ref b, .int many u]) Q E s
def TakeAt9 (w : World) (d : Nat) (b : Addr) (l : Addr) (c1 : Nat) (c2 : Nat) (vs : List Value) (ns : List Int) (k : Int) (many : Int) (t : Tok) (u : Tok) (p : Program) (loose : List Str) (mean : ExcName → Option Value) (mg : Str → Option Value) (mb : Str → Option Value) (dp : Nat) (un : Nat) (gd : Option (List Code)) (cn : Str) (cs : Scope) (a : Addr) (ccd : Value) (cl : List (Str × Addr)) (outer : List Env) (A₀ : Around) (base : Heap) (h₀ : Heap) (L : Addr) (m : Str → Option Value) (rest : List (Addr × Obj)) (s : Shared) (Q : Value → Shared → Prop) (E : Value → Shared → Prop) : Prop :=
    Below A₀ base outer h₀ → Fr h₀ L s.heap m → (hd.heap_1 w.params).In h₀ → News h₀ L s.heap ((b, listOf #[.ref l, .int k t] c1) :: (l, listOf vs.toArray c2) :: rest) → Top p loose mean mg mb h₀ → cs.kind = .function →
    dp + d < recursionLimit → un + 8 * d < cLine → IntsAre vs ns → ns.length ≤ 24 → 0 ≤ k → 0 < many → @Ne Nat l b → (∀ p ∈ rest, @Ne Nat p.1 b) →
    (∀ v h' tk' t' c', Fr h₀ L h' m → News h₀ L h' ((b, listOf #[.ref l, .int (k + 1) t'] c') :: (l, listOf vs.toArray c2) :: rest) → IntIn 0 many v → Q v { s with heap := h', toks := tk' }) →
    wpAny (model PR w) (ktrTop dp un gd cn cs L a ccd cl outer) (call (.ref 672) [.ref b, .int many u]) Q E s
theorem TakeAt_of (w : World) (d : Nat) (h : ∀ (b : Addr) (l : Addr) (c1 : Nat) (c2 : Nat) (vs : List Value) (ns : List Int) (k : Int) (many : Int) (t : Tok) (u : Tok) (v : KV), v.to (TakeAt9 w d b l c1 c2 vs ns k many t u)) : TakeAt w d := fun p loose mean mg mb dp un gd cn cs a ccd cl outer A₀ base h₀ L m rest s Q E b l c1 c2 vs ns k many t u => h b l c1 c2 vs ns k many t u ⟨p, loose, mean, mg, mb, dp, un, gd, cn, cs, a, ccd, cl, outer, A₀, base, h₀, L, m, rest, s, Q, E⟩

theorem S16_rows2 : True := by
  (k_with "k_room" => (ktr_room))
  (k_with "k_all" => (with_reducible assumption))
  trivial
def take_c_B (w : World) : Prop := RW = RW → TakeAt w 4
theorem take_c : ∀ w, take_c_B w := by
  refine ubx ?_
  simp (disch := k_dflt (
    refine tyP ?_
    refine' (?g9 : ∀ q : (∀ w, take_c_B w), Keep q → (∀ w, take_c_B w)) _ ?w9
    case g9 => exact fun q _ => q
    case w9 =>
      refine' kp9 ?h9 fun k9 => ?j9
      case h9 =>
        (repeat walk_at "CL9")
        rename_i w
        unfold take_c_B
        intro _
        refine TakeAt_of _ _ ?_
        (repeat walk_at "CL9")
        rename_i b l c1 c2 vs ns k many t u vk
        unfold KV.to TakeAt9
        w_on
        w_top on
        intro B F X N T hk hd hu hi hl h0 hm hlb hoff hret
        refine wpAny_call ?_
        k_dflt cell_enter
        w_strict (k_steps; (all_goals exact hret _ _ _ _ _ (by k_asm) (by k_asm) ⟨_, _, rfl, (fmod_in hm).1, (fmod_in hm).2⟩))
      case j9 => revert k9; (try delta id ap_mk hd_in hd_out); intro k9; (try conv at k9 => zeta); exact k9)) only [↓bxT]
end
section
set_option Elab.async false
set_option maxRecDepth 100000
set_option maxHeartbeats 800000
theorem take_use {w : World} {p : Program} {loose : List Str} {mean : ExcName → Option Value} {mg mb : Str → Option Value}
    {dp un : Nat} {gd : Option (List Code)} {cn : Str} {cs : Scope} {a : Addr} {ccd : Value} {cl : List (Str × Addr)} {outer : List Env} {A₀ : Around} {base h₀ : Heap} {L : Addr} {m : Str → Option Value} {news : List (Addr × Obj)} {g : Obj → List (Addr × Obj)} {s : Shared} {Q E : Value → Shared → Prop}
    {b l : Addr} {c1 c2 : Nat} {vs : List Value} {ns : List Int} {k many : Int} {t u : Tok} {d : Nat} (C : TakeAt w d)
    (B : Below A₀ base outer h₀) (F : Fr h₀ L s.heap m) (X : (hd.heap_1 w.params).In h₀) (N : News h₀ L s.heap news) (T : Top p loose mean mg mb h₀) (hk : cs.kind = .function)
    (h1 : dp + d < recursionLimit) (h2 : un + 8 * d < cLine) (U : UpdF b (listOf #[.ref l, .int k t] c1) news g) (hm : (l, listOf vs.toArray c2) ∈ news) (hi : IntsAre vs ns) (hl : ns.length ≤ 24) (h0 : 0 ≤ k) (hp : 0 < many) (hlb : @Ne Nat l b)
    (ret : ∀ r h' tk' t' c' tr, 0 ≤ r → r < many → Fr h₀ L h' m → News h₀ L h' (g (listOf #[.ref l, .int (k + 1) t'] c')) → Q (.int r tr) { s with heap := h', toks := tk' }) :
    wpAny (model PR w) (ktrTop dp un gd cn cs L a ccd cl outer) (call (.ref 672) [.ref b, .int many u]) Q E s := by
  obtain ⟨pre, post, rfl, hg, o1, o2⟩ := U.split
  have ml : ∀ {x : Obj}, (l, listOf vs.toArray c2) ∈ pre ++ (b, x) :: post → (l, listOf vs.toArray c2) ∈ pre ++ post := fun {x} q => by
    rcases List.mem_append.mp q with q | q
    · exact List.mem_append_left _ q
    · rcases List.mem_cons.mp q with e | q
      · exact absurd (congrArg Prod.fst e) hlb
      · exact List.mem_append_right _ q
  refine C _ _ _ _ _ _ _ _ _ _ _ _ _ _ _ _ _ _ _ (pre ++ post) _ _ _ b l c1 c2 vs ns k many t u B F X (fun q hq => ?_) T hk h1 h2 hi hl h0 hp hlb (fun q hq => ?_) fun v h' tk' t' c' F' N' hv => ?_
  · rcases List.mem_cons.mp hq with rfl | hq
    · exact N _ (List.mem_append_right _ List.mem_cons_self)
    · rcases List.mem_cons.mp hq with rfl | hq
      · exact N _ hm
      · refine N _ ?_
        rcases List.mem_append.mp hq with hq | hq
        · exact List.mem_append_left _ hq
        · exact List.mem_append_right _ (List.mem_cons_of_mem _ hq)
  · rcases List.mem_append.mp hq with hq | hq
    · exact o1 q hq
    · exact o2 q hq
  · obtain ⟨r, tr, rfl, r0, r1⟩ := hv
    refine ret r h' tk' t' c' tr r0 r1 F' ?_
    rw [hg]
    intro q hq
    rcases List.mem_append.mp hq with hq | hq
    · exact N' q (List.mem_cons_of_mem _ (List.mem_cons_of_mem _ (List.mem_append_left _ hq)))
    · rcases List.mem_cons.mp hq with rfl | hq
      · exact N' _ List.mem_cons_self
      · exact N' q (List.mem_cons_of_mem _ (List.mem_cons_of_mem _ (List.mem_append_right _ hq)))
end
section
set_option Elab.async false
set_option maxRecDepth 100000
set_option maxHeartbeats 800000
section
variable {prog : Program} {w : World} {A : Around} {R : Result → Shared → Prop} {s : Shared}
theorem call_cellsG {name : Str} {params : Arguments} {body : List Stmt} {scope : Scope} {pm cd doc : Value} {a : Addr} {o : Obj} {args : List Value} {binds : List (Str × Value)}
    (hroom : A.depth < recursionLimit) (ho : s.heap.get? a = some o) (hdata : o.data = .func (Calls.docDef name params body scope pm cd doc)) (hlim : s.heap.NoLimit) (hcd : s.heap.CodeRec cd name)
    (hbind : bindArgs (Calls.docDef name params body scope pm cd doc) ⟨args, []⟩ = pure binds)
    (hkind : ∀ x ∈ binds, scope.names.lookup x.1 = some .local ∨ (scope.names.lookup x.1 = some .cell ∧ ((cellsFrom (s.heap.objs.size + 1) scope.names []).lookup x.1).isSome = true))
    (hnd : ((cellsFrom 0 scope.names []).map (·.1)).Nodup)
    (h : ∀ h₁ tk cells, Fr s.heap s.heap.objs.size h₁ (bindL (envOfC name scope s.heap.objs.size a cd).kindOf binds fun _ => none) → News s.heap s.heap.objs.size h₁ cells →
      CellsAre (bindC (envOfC name scope s.heap.objs.size a cd).kindOf binds fun _ => none) (cellsFrom (s.heap.objs.size + 1) scope.names []) cells →
      wpG (model prog w) (A.deeper (envOfC name scope s.heap.objs.size a cd)) (execs body (envOfC name scope s.heap.objs.size a cd))
        (fun f s' => R (.ok (.ret (match f with | .ret v => v | _ => .none))) s') (fun _ _ => False) { s with heap := h₁, toks := tk })
    (hco : scope.isCoroutine = false := by rfl) (hgen : scope.isGenerator = false := by rfl) (hk : scope.kind = .function := by rfl) :
    codeG (model prog w) A (.call (.ref a) ⟨args, []⟩) R s := by
  refine codeG_of_tree ?_
  show wpG _ A.in1 (callAny (.ref a) ⟨args, []⟩) _ _ s
  simp only [callAny]
  refine wpG_bind (wpG_any (wpAny_load ho ?_))
  obtain ⟨c, oc, vs, tq, hc, hoc, hdc, hq⟩ := hcd
  have hc' : (Calls.docDef name params body scope pm cd doc).code = .ref c := hc
  have hco' : (Calls.docDef name params body scope pm cd doc).scope.isCoroutine = false := hco
  have hgen' : (Calls.docDef name params body scope pm cd doc).scope.isGenerator = false := hgen
  simp only [hdata, callFunction, hco', hgen', hc']
  refine wpG_bind (m := field (.ref c) 1) (wpG_any (wpAny_field hoc hdc hq (wpG_bind (wpG_any (wpAny_pure ?_)))))
  rw [hbind]
  refine wpG_bind (wpG_any (wpAny_pure ?_))
  refine wpG_bind (wpG_any (wpAny_newFunctionEnv_cells hk hkind fun env' he s' x => ?_))
  subst he
  refine wpG_bind (wpG_any (wpAny_enterFrame (hlim.keeps x.toInCall.keep) hroom ?_))
  refine wpG_any (wpAny_pure ⟨rfl, rfl, ?_⟩)
  obtain ⟨h₁, tk, rfl, _⟩ := x.done
  have hk₁ := x.toInCall.keep
  obtain ⟨cells, NC, Y⟩ := Cl.news (h₀ := s.heap) (Nat.le_refl _) fun n c hm => ⟨x.cell n c (lookup_of_mem_nodup (cellsFrom_names scope.names 0 (s.heap.objs.size + 1) [] [] rfl ▸ hnd) hm), x.above n c hm⟩
  rw [← hc]
  exact codeG_func (h h₁ tk cells ⟨x.toInCall.ns, hk₁, Nat.le_refl _⟩ NC Y)
theorem enter_callG {M : Model} {f : Value} {pos : List Value} {kw : List (Str × Value)} {c : ClaimW} {cl : Str → Option Addr} {mean : ExcName → Option Value} {args : List WData} {s₁ : Shared}
    (h : codeG M A (.call f ⟨pos, kw⟩) (GoodWG c cl mean args s₁) s) : wpG M A (PySem.call f pos kw) (fun v s' => GoodWG c cl mean args s₁ (.ok (.ret v)) s') (fun e s' => GoodWG c cl mean args s₁ (.error e) s') s :=
  wpG_call (codeG_mono h fun res s' g => by rcases g.1 with ⟨v, _, _, rfl, _⟩ | ⟨e, _, _, rfl, _⟩ <;> exact g)
end
theorem posts_G {M : Model} {A : Around} {cd : Code} {s s₁ : Shared} {cw : ClaimW} {cl : Str → Option Addr} {mean : ExcName → Option Value} {args : List WData} {tabs : List (Addr × Addr)} (hT : TabsAt tabs s₁.heap) (hr : ∀ a x, cw.raises a x = false)
    (h : codeG M A cd (fun r s' => GoodW cw cl mean args { s₁ with heap := ghostOf s₁.heap tabs } r s' ∧ GrownAll tabs s'.heap) s) : codeG M A cd (GoodWG cw cl mean args s₁) s := by
  refine codeG_mono h fun r s' g => ?_
  obtain ⟨⟨hc, hk, hos, hg⟩, hgr⟩ := g
  have tab : ∀ b o, b ∈ tabs.map (·.2) → s₁.heap.get? b = some o → isCodeTable s₁.heap b ∧ o = tabObj #[] ∧ ∃ ps, s'.heap.get? b = some (tabObj ps) := fun b o hb e => by
    obtain ⟨q, hq, rfl⟩ := List.mem_map.mp hb
    have e2 := (hT q hq).2
    rw [e] at e2
    exact ⟨((hT q hq).1.tab (hT q hq).2).isCodeTable, Option.some.inj e2, hgr.get q hq⟩
  refine ⟨?_, ⟨fun b o e => ?_, fun b o e => ?_⟩, hos, .of_eq hg⟩
  · rcases hc with ⟨v, d, as, r1, r2, r3, r4, r5⟩ | ⟨e, ob, x, _, _, _, r4, _⟩
    · refine .inl ⟨v, d, as, r1, r2, r3, r4, fun q => ⟨(r5 q).1, fun a ha => ?_⟩⟩
      cases q1 : s₁.heap.get? a with
      | none => rfl
      | some o =>
        rcases Classical.em (a ∈ tabs.map (·.2)) with hb | hb
        · obtain ⟨_, _, ps, hP⟩ := tab a o hb q1
          exact absurd ha (readsW_apart hP rfl r3)
        · have e3 := (r5 q).2 a ha
          rw [show (ghostOf s₁.heap tabs).get? a = some o from ghost_ne q1 hb] at e3
          cases e3
    · rw [hr] at r4; cases r4
  · rcases Classical.em (b ∈ tabs.map (·.2)) with hb | hb
    · obtain ⟨ht, rfl, ps, hP⟩ := tab b o hb e
      exact .inr (.inl ⟨ht, rfl, #[], ps, rfl, by rw [Array.empty_append]; exact hP⟩)
    · exact .inl (hk b o (ghost_ne e hb))
  · rcases Classical.em (b ∈ tabs.map (·.2)) with hb | hb
    · obtain ⟨_, _, ps, hP⟩ := tab b o hb e
      exact ⟨_, hP⟩
    · exact ⟨o, hk b o (ghost_ne e hb)⟩
end
section
set_option Elab.async false
set_option maxRecDepth 100000
set_option maxHeartbeats 800000
section
variable {prog : Program} {w : World} {A : Around} {E : Value → Shared → Prop} {R : Result → Shared → Prop} {s : Shared} {env : Env}
theorem codeG_loop' {M : Model} {c : Code} (hq : c.quiet = true) (hd : decFree c = true) (I : Nat → Shared → Prop)
    (turn : ∀ n s, I n s → wpG M (A.under c) (M.den c)
      (fun fin s' => match fin with | .done f => R (.ok f) s' | .again c' => (c' = c ∧ ∃ m, m < n ∧ I m s') ∨ (c'.quiet = true ∧ decFree c' = true ∧ codeG M A c' R s')) (fun e s' => R (.error e) s') s)
    (n : Nat) (h : I n s) : codeG M A c R s := by
  induction n using Nat.strongRecOn generalizing s with
  | ind n ih =>
    refine codeG_of_tree (wpG_mono (turn n s h) (fun fin s' hf => ?_) fun _ _ h' => h')
    cases fin with
    | done f => exact hf
    | again c' =>
      rcases hf with ⟨rfl, m, hm, hI⟩ | hf
      · exact ⟨hq, hd, ih m hm hI⟩
      · exact hf
theorem codeG_forLoop {target : Expr} {it : Value} {body : List Stmt} (I : Nat → Shared → Prop)
    (turn : ∀ n s, I n s → wpAny (model prog w) A (pyNext it) (fun r s₁ => match r with
      | none => R (.ok .next) s₁
      | some v => wpAny (model prog w) A (assign target env v) (fun _ s₂ => wpG (model prog w) A (execs body env) (fun f s₃ => match f with
          | .next | .cont => ∃ m, m < n ∧ I m s₃
          | .brk => R (.ok .next) s₃
          | .ret v => R (.ok (.ret v)) s₃) (fun _ _ => False) s₂) (fun _ _ => False) s₁) (fun _ _ => False) s)
    (n : Nat) (h : I n s) (ht : ∀ v, letOwnedTupleGo target it v = pure () := by intro _; rfl) : codeG (model prog w) A (.forLoop target it body [] env) R s := by
  refine codeG_loop' rfl rfl I (fun n s hI => ?_) n h
  show wpG _ _ ((forTurn target it body [] env).onRaise (fun x => do noteFrame x env; theTreesLotGoes x)) _ _ s
  refine wpG_onRaise ?_
  simp only [forTurn]
  refine wpG_bind (wpG_any (wpAny_standAt (wpG_bind (wpG_onRaise (wpG_any (wpAny_mono (turn n s hI) (fun r s₁ h₁ => ?_) fun _ _ h' => h'))))))
  cases r with
  | none => exact wpG_any (wpAny_pure (.inr ⟨rfl, rfl, codeG_any (codeAny_block (wpAny_execs_nil h₁))⟩))
  | some v =>
    refine wpG_bind (wpG_any (wpAny_of_eq (ht v) ?_))
    refine wpG_bind (wpG_any (wpAny_mono h₁ (fun _ s₂ h₂ => wpG_bind (wpG_mono h₂ (fun f s₃ h₃ => ?_) fun _ _ h' => h')) fun _ _ h' => h'))
    cases f with
    | next => exact wpG_any (wpAny_pure (.inl ⟨rfl, h₃⟩))
    | cont => exact wpG_any (wpAny_pure (.inl ⟨rfl, h₃⟩))
    | brk => exact wpG_any (wpAny_pure h₃)
    | ret v => exact wpG_any (wpAny_pure h₃)
theorem wpG_runOwn {c : Code} {Q : Flow → Shared → Prop} (hd : decFree c = true) (hc : codeG (model prog w) A c (fun r s' => match r with | .ok f => Q f s' | .error _ => False) s) : wpG (model prog w) A (runOwn c env) Q E s := by
  unfold runOwn
  exact wpG_onRaise (wpG_run hd hc)
theorem g_For {x : Str} {px pos : Pos} {iter : Expr} {body : List Stmt} {Q : Flow → Shared → Prop}
    (h : wpAny (model prog w) A (eval iter env) (fun xv s₁ => wpAny (model prog w) A (pyIter xv) (fun it s₂ =>
      codeG (model prog w) A (.forLoop (.Name x px) it body [] env) (fun r s' => match r with | .ok f => Q f s' | .error _ => False) s₂) E s₁) E s)
    (hs : ∀ x, foldedSetIterable iter env x = pure x := by intro _; rfl) : wpG (model prog w) A (exec (.For (.Name x px) iter body [] pos) env) Q E s := by
  rw [exec_For]
  refine wpG_bind (wpG_any (wpAny_standAt (wpG_bind (wpG_any (wpAny_mono h (fun xv s₁ h₁ => ?_) fun _ _ e => e)))))
  refine wpG_bind (wpG_any (wpAny_of_eq (hs xv) ?_))
  refine wpG_bind (wpG_any (wpAny_standAt ?_))
  refine wpG_bind (wpG_any (wpAny_holding (wpAny_mono h₁ (fun it s₂ h₂ => ?_) fun _ _ e => e)))
  exact wpG_runOwn rfl h₂
end
end
section
set_option Elab.async false
set_option maxRecDepth 100000
set_option maxHeartbeats 800000
open PyProof.Rows.LCg (fr_but news_but range_walks range_st)
def TurnEnd (h₀ : Heap) (L I : Addr) (oI : Obj) (J : (Str → Option Value) → List (Addr × Obj) → Prop) (s₀ : Shared) (Q : Flow → Shared → Prop) (f : Flow) (s' : Shared) : Prop := match f with
  | .next => ∃ h' tk' m₂ news₂, s' = { s₀ with heap := h', toks := tk' } ∧ Fr h₀ L h' m₂ ∧ News h₀ L h' ((I, oI) :: news₂) ∧ (∀ p ∈ news₂, @Ne Nat p.1 I) ∧ J m₂ news₂
  | .ret v => Q (.ret v) s'
  | _ => False
theorem g_range {prog : Program} {w : World} {A : Around} {E : Value → Shared → Prop} {s : Shared} {env : Env} {h₀ : Heap} {r : Addr} {a b : Int} {t u v : Tok} {n : Nat} {m : Str → Option Value} {news : List (Addr × Obj)} {x : Str} {px : Pos} {body : List Stmt} {Q : Flow → Shared → Prop}
    (J : Nat → (Str → Option Value) → List (Addr × Obj) → Prop) (hh : A.handled = none) (hx : env.kindOf x = some .local) (hp : (env.scope.kind == .class || (env.scope.kind == .module && env.locals != env.globals)) = false)
    (hr : IsRange s.heap r a b 1 t u v) (hsm : Builtin.Range.small a b 1 = true) (hn : Builtin.Range.rangeSize a b 1 = ((n : Nat) : Int)) (F : Fr h₀ env.locals s.heap m) (N : News h₀ env.locals s.heap news) (h0 : J 0 m news)
    (turn : ∀ (i : Nat) t' m₁ news₁ h tk I oI, i < n → J i m₁ news₁ → Fr h₀ env.locals h (fun y => if y = x then some (.int (a + (i : Int)) t') else m₁ y) → News h₀ env.locals h ((I, oI) :: news₁) → (∀ p ∈ news₁, @Ne Nat p.1 I) →
      wpG (model prog w) A (execs body env) (TurnEnd h₀ env.locals I oI (J (i + 1)) s Q) (fun _ _ => False) { s with heap := h, toks := tk })
    (done : ∀ h tk m' news', J n m' news' → Fr h₀ env.locals h m' → News h₀ env.locals h news' → Q .next { s with heap := h, toks := tk }) :
    wpAny (model prog w) A (pyIter (.ref r)) (fun it s₂ => codeG (model prog w) A (.forLoop (.Name x px) it body [] env) (fun r s' => match r with | .ok f => Q f s' | .error _ => False) s₂) E s := by
  refine wpAny_pyIter_range hr hsm ?_
  have W := range_walks (prog := prog) (w := w) (I := s.heap.objs.size) hh a n
  have hI₀ : h₀.get? s.heap.objs.size = none := next_is_new F
  have hIL : env.locals ≠ s.heap.objs.size := Nat.ne_of_lt F.ns.lt
  refine codeG_forLoop (fun k s' => ∃ h' tk i m' news', s' = { s with heap := h', toks := tk } ∧ i ≤ n ∧ k = n - i ∧ IsRangeIter h' s.heap.objs.size (a + (i : Nat) * 1) ((n : Int) - (i : Nat)) 1 ∧ Fr h₀ env.locals h' m' ∧ News h₀ env.locals h' news' ∧ (∀ p ∈ news', @Ne Nat p.1 s.heap.objs.size) ∧ J i m' news') ?_ n
    ⟨_, _, 0, m, news, rfl, Nat.zero_le _, rfl, by show IsRangeIter _ _ _ _ _; rw [hn]; simpa using Heap.get?_push_size _ rfl, F.keeps fun _ _ e => Heap.get?_push_of_some _ e, N.grown fun _ _ e => Heap.get?_push_of_some _ e, fun p hp => Nat.ne_of_lt (Heap.lt_size (N p hp).1), h0⟩
  rintro k s' ⟨h', tk, i, m', news', rfl, hi, rfl, hit, F', N', off', hJ⟩
  by_cases hlt : i < n
  · refine W.item i _ _ _ hlt hit fun vv h₂ tk₂ hPv hst₂ hk₂ => ?_
    obtain ⟨t', rfl⟩ := hPv
    dsimp only
    have F₂ : Fr h₀ env.locals h₂ m' := fr_but F' hk₂ hIL hI₀
    have N₂ : News h₀ env.locals h₂ news' := news_but N' hk₂ off'
    refine wpAny_assign_Name (wpAny_storeName_local hx F₂.ns (fun h₃ hn₃ hs₃ => ?_) hp)
    have F₃ := F₂.set hn₃ hs₃
    have N₃ := N₂.set hs₃
    have hst₃ : IsRangeIter h₃ s.heap.objs.size (a + ((i + 1 : Nat)) * 1) ((n : Int) - ((i + 1 : Nat))) 1 := W.frame _ _ _ hst₂ fun b hb o e => hs₃.extBut b o (fun q => by rw [List.mem_singleton.mp hb] at q; exact hIL q.symm) e
    have hIo : h₃.get? s.heap.objs.size = some ({ cls := .type "range_iterator", dict := none, data := .fields #[rawInt (a + ((i + 1 : Nat)) * 1), rawInt ((n : Int) - ((i + 1 : Nat))), rawInt 1], slots := #[] } : Obj) := hst₃
    refine wpG_mono (turn i t' m' news' h₃ _ s.heap.objs.size ({ cls := .type "range_iterator", dict := none, data := .fields #[rawInt (a + ((i + 1 : Nat)) * 1), rawInt ((n : Int) - ((i + 1 : Nat))), rawInt 1], slots := #[] } : Obj) hlt hJ F₃ (fun p hp => ?_) off') (fun f s₄ h₄ => ?_) fun _ _ e => e
    · rcases List.mem_cons.mp hp with rfl | hp
      · exact ⟨hIo, hIL.symm, hI₀⟩
      · exact N₃ p hp
    · cases f with
      | next =>
        obtain ⟨h₅, tk₅, m₅, news₅, rfl, F₅, N₅, off₅, hJ₅⟩ := h₄
        exact ⟨n - (i + 1), by omega, h₅, tk₅, i + 1, m₅, news₅, rfl, hlt, rfl, (N₅ _ (List.mem_cons_self ..)).1, F₅, fun p hp => N₅ p (List.mem_cons_of_mem _ hp), off₅, hJ₅⟩
      | cont => exact h₄.elim
      | brk => exact h₄.elim
      | ret v => exact h₄
  · obtain rfl : i = n := Nat.le_antisymm hi (Nat.le_of_not_lt hlt)
    refine W.done _ _ _ hit fun h₂ tk₂ hk₂ => ?_
    exact done h₂ _ m' news' hJ (fr_but F' hk₂ hIL hI₀) (news_but N' hk₂ off')
end
section
set_option Elab.async false
set_option maxRecDepth 100000
set_option maxHeartbeats 8000000
set_option linter.unusedVariables false
theorem LZ_rows0 : True := by
  k_with_none
  (k_with "STEPS9" => (repeat' (first | ((fail_if_success ((rename (_ : Type) => hc9); (with_unfolding_none rename Cl _ => hc8); (fail_if_success (have hc7 := hc9)))); (rename (_ : Type) => hc9); (refine hd_in ?_); revert hc9; (repeat ((fail_if_success ((rename (_ : Type) => hc9); (with_unfolding_none rename Cl _ => hc8); (fail_if_success (have hc7 := hc9)))); (rename (_ : Type) => hc9); revert hc9)); (with_reducible (refine eps_lt ?_; intro xc8; refine (?_ : ∀ y : Cl _, Ap _ y) xc8; clear xc8; intro _; refine ap_mk ?_)); (repeat (with_reducible (refine eps_lt ?_; intro xc8; refine (?_ : ∀ y : Cl _, Ap _ y) xc8; clear xc8; intro _; refine ap_mk ?_))); (set_option tactic.hygienic false in intros); (refine hd_out ?_)) | (k_unfold; (try dsimp only)) | (k_end; wrow_close) | walk1 | (dsimp only; walk1) | (leave1; walk_say "STEP leave1"; try dsimp only) | fail "no step")))
  trivial
theorem LZ_rows1 : True := by
  trivial
variable {b lo hi : Int} {M : Model} {A : Around} {st : Stmt} {rest : List Stmt} {env : Env} {E : Value → Shared → Prop} {h₀ : Heap} {L : Addr} {ns : List Int} {C : Addr} {h9 : Heap} {tk9 : Nat} {s' : Shared} {B S : Addr} {c2 : Nat} {ws : List Value} {o : Obj} {own peer : Int} {u1 u2 : Tok} {probe : Int} {u3 : Tok} {now k : Int} {u4 : Tok} {c1 : Nat} {w : World} {now0 : Int} {tw : Tok} {ia da : Addr} {k1 k2 k3 k4 u0 : Tok} {co : Addr} {X : List (Addr × Obj)} {m : Str → Option Value} {h : Heap} {tk : Nat} {vs : List Value} {news l : List (Addr × Obj)} {p : Program} {loose : List Str} {mean : ExcName → Option Value} {mg mb : Str → Option Value} {dp un : Nat} {gd : Option (List Code)} {cn : Str} {cs : Scope} {ccd : Value} {cl : List (Str × Addr)} {outer : List Env} {A₀ : Around} {base : Heap} {t1 t2 ts tn : Tok} {asked : Bool} {sv : Option Int} {q : Addr × Obj} {f row : Addr} {crow : Nat} {tf tsp : Tok} {nn : Nat} {dvs : List Value} {X' : List (Addr × Obj)} {u40 : Tok} {i : Nat} {m' : Str → Option Value} {I : Addr} {oI : Obj} {cD : Nat} {tv sv9 : Option Value} {ur : Tok} {Dd : Deeds} {nn' : Nat} {mB : Str → Option Value}
theorem getD3_lo {r : Nat} {a c : Int} (ha : lo ≤ a) (hb : lo ≤ b) (hc : lo ≤ c) (hd : lo ≤ 0 := by decide) : lo ≤ [a, b, c].getD r 0 := by
  rcases r with _ | _ | _ | r
  · exact ha
  · exact hb
  · exact hc
  · exact hd
theorem getD3_hi {r : Nat} {a c : Int} (ha : a < hi) (hb : b < hi) (hc : c < hi) (hd : 0 < hi := by decide) : [a, b, c].getD r 0 < hi := by
  rcases r with _ | _ | _ | r
  · exact ha
  · exact hb
  · exact hc
  · exact hd
theorem getD2_lo {r : Nat} {a : Int} (ha : lo ≤ a) (hb : lo ≤ b) (hd : lo ≤ 0 := by decide) : lo ≤ [a, b].getD r 0 := by
  rcases r with _ | _ | r
  · exact ha
  · exact hb
  · exact hd
theorem getD2_hi {r : Nat} {a : Int} (ha : a < hi) (hb : b < hi) (hd : 0 < hi := by decide) : [a, b].getD r 0 < hi := by
  rcases r with _ | _ | r
  · exact ha
  · exact hb
  · exact hd
def CutP (P : Shared → Prop) (f : Flow) (s' : Shared) : Prop := f = .next ∧ P s'
theorem g_cut {Q : Flow → Shared → Prop} {s : Shared} (P : Shared → Prop) (h1 : wpG M A (exec st env) (CutP P) (fun _ _ => False) s) (h2 : ∀ s', P s' → wpG M A (execs rest env) Q E s') : wpG M A (execs (st :: rest) env) Q E s :=
  g_execs_cons (wpG_mono h1 (fun f s' h => by obtain ⟨rfl, h⟩ := h; exact h2 s' h) fun _ _ h => h.elim)
def LawSt (s : Shared) (h₀ : Heap) (L : Addr) (m : Str → Option Value) (news : List (Addr × Obj)) (s' : Shared) : Prop := ∃ h' tk', s' = { s with heap := h', toks := tk' } ∧ Fr h₀ L h' m ∧ News h₀ L h' news
set_option genInjectivity false in
set_option genSizeOf false in
structure P1V where
  (B S D : Addr)
  (c1 c2 : Nat)
  (t : Tok)
  (ws : List Value)
  (o : Obj)
  (m : Str → Option Value)
def P1B (s : Shared) (h₀ : Heap) (L : Addr) (ns : List Int) (C : Addr) (B S D : Addr) (c1 c2 : Nat) (t : Tok) (ws : List Value) (o : Obj) (m : Str → Option Value) (s' : Shared) : Prop := LawSt s h₀ L (fun y => if y = Str.ofString "deeds" then some (.ref D) else m y) [(B, listOf #[.ref S, .int 0 t] c1), (S, listOf ws.toArray c2), (D, listOf #[] 0), (C, o), (674, tabObj #[])] s' ∧ o.data = .cell (some (.ref B)) ∧ IntsAre ws (ns.take 24) ∧ ([B, S, D, C, 674] : List Nat).Nodup
def P1 (s : Shared) (h₀ : Heap) (L : Addr) (ns : List Int) (C : Addr) (s' : Shared) : Prop := ∃ e : P1V, P1B s h₀ L ns C e.B e.S e.D e.c1 e.c2 e.t e.ws e.o e.m s'
theorem P1.intro {s : Shared} (B S D : Addr) (c1 c2 : Nat) (t : Tok) (ws : List Value) (o : Obj) (m : Str → Option Value) (F9 : Fr h₀ L h9 (fun y => if y = Str.ofString "deeds" then some (.ref D) else m y)) (N9 : News h₀ L h9 [(B, listOf #[.ref S, .int 0 t] c1), (S, listOf ws.toArray c2), (D, listOf #[] 0), (C, o), (674, tabObj #[])]) (a90 : o.data = .cell (some (.ref B))) (a91 : IntsAre ws (ns.take 24)) (a92 : ([B, S, D, C, 674] : List Nat).Nodup) : CutP (P1 s h₀ L ns C) .next { s with heap := h9, toks := tk9 } :=
  ⟨rfl, ⟨B, S, D, c1, c2, t, ws, o, m⟩, ⟨h9, tk9, rfl, F9, N9⟩, a90, a91, a92⟩
theorem P1.elim {s : Shared} {G9 : Shared → Prop} (hp : P1 s h₀ L ns C s') (kk99 : ∀ (B S D : Addr) (c1 c2 : Nat) (t : Tok) (ws : List Value) (o : Obj) (m : Str → Option Value) (h9 : Heap) (tk9 : Nat), Fr h₀ L h9 (fun y => if y = Str.ofString "deeds" then some (.ref D) else m y) → News h₀ L h9 [(B, listOf #[.ref S, .int 0 t] c1), (S, listOf ws.toArray c2), (D, listOf #[] 0), (C, o), (674, tabObj #[])] → (o.data = .cell (some (.ref B))) → (IntsAre ws (ns.take 24)) → (([B, S, D, C, 674] : List Nat).Nodup) → G9 { s with heap := h9, toks := tk9 }) : G9 s' :=
  Exists.elim hp fun e hb => Exists.elim (show LawSt _ _ _ _ _ _ from hb.1) fun h9 h1 => Exists.elim h1 fun tk9 h2 => (congrArg G9 h2.1).mpr (kk99 e.B e.S e.D e.c1 e.c2 e.t e.ws e.o e.m h9 tk9 h2.2.1 h2.2.2 hb.2.1 hb.2.2.1 hb.2.2.2)
set_option genInjectivity false in
set_option genSizeOf false in
structure P2V where
  (own peer k : Int)
  (t u1 u2 : Tok)
  (c1 : Nat)
  (m : Str → Option Value)
def P2B (s : Shared) (h₀ : Heap) (L : Addr) (B S D C : Addr) (c2 : Nat) (ws : List Value) (o : Obj) (own peer k : Int) (t u1 u2 : Tok) (c1 : Nat) (m : Str → Option Value) (s' : Shared) : Prop := LawSt s h₀ L (fun y => if y = Str.ofString "peer" then some (.int peer u2) else if y = Str.ofString "own" then some (.int own u1) else if y = Str.ofString "deeds" then some (.ref D) else m y) [(B, listOf #[.ref S, .int k t] c1), (S, listOf ws.toArray c2), (D, listOf #[] 0), (C, o), (674, tabObj #[])] s' ∧ 0 ≤ own ∧ own < 1000000000 ∧ 0 ≤ peer ∧ peer < 1000000000 ∧ 0 ≤ k
def P2 (s : Shared) (h₀ : Heap) (L : Addr) (B S D C : Addr) (c2 : Nat) (ws : List Value) (o : Obj) (s' : Shared) : Prop := ∃ e : P2V, P2B s h₀ L B S D C c2 ws o e.own e.peer e.k e.t e.u1 e.u2 e.c1 e.m s'
theorem P2.intro {s : Shared} {D : Addr} (own peer k : Int) (t u1 u2 : Tok) (c1 : Nat) (m : Str → Option Value) (F9 : Fr h₀ L h9 (fun y => if y = Str.ofString "peer" then some (.int peer u2) else if y = Str.ofString "own" then some (.int own u1) else if y = Str.ofString "deeds" then some (.ref D) else m y)) (N9 : News h₀ L h9 [(B, listOf #[.ref S, .int k t] c1), (S, listOf ws.toArray c2), (D, listOf #[] 0), (C, o), (674, tabObj #[])]) (a90 : 0 ≤ own) (a91 : own < 1000000000) (a92 : 0 ≤ peer) (a93 : peer < 1000000000) (a94 : 0 ≤ k) : CutP (P2 s h₀ L B S D C c2 ws o) .next { s with heap := h9, toks := tk9 } :=
  ⟨rfl, ⟨own, peer, k, t, u1, u2, c1, m⟩, ⟨h9, tk9, rfl, F9, N9⟩, a90, a91, a92, a93, a94⟩
theorem P2.elim {s : Shared} {D : Addr} {G9 : Shared → Prop} (hp : P2 s h₀ L B S D C c2 ws o s') (kk99 : ∀ (own peer k : Int) (t u1 u2 : Tok) (c1 : Nat) (m : Str → Option Value) (h9 : Heap) (tk9 : Nat), Fr h₀ L h9 (fun y => if y = Str.ofString "peer" then some (.int peer u2) else if y = Str.ofString "own" then some (.int own u1) else if y = Str.ofString "deeds" then some (.ref D) else m y) → News h₀ L h9 [(B, listOf #[.ref S, .int k t] c1), (S, listOf ws.toArray c2), (D, listOf #[] 0), (C, o), (674, tabObj #[])] → (0 ≤ own) → (own < 1000000000) → (0 ≤ peer) → (peer < 1000000000) → (0 ≤ k) → G9 { s with heap := h9, toks := tk9 }) : G9 s' :=
  Exists.elim hp fun e hb => Exists.elim (show LawSt _ _ _ _ _ _ from hb.1) fun h9 h1 => Exists.elim h1 fun tk9 h2 => (congrArg G9 h2.1).mpr (kk99 e.own e.peer e.k e.t e.u1 e.u2 e.c1 e.m h9 tk9 h2.2.1 h2.2.2 hb.2.1 hb.2.2.1 hb.2.2.2.1 hb.2.2.2.2.1 hb.2.2.2.2.2)
set_option genInjectivity false in
set_option genSizeOf false in
structure P3V where
  (probe k : Int)
  (t u3 : Tok)
  (c1 : Nat)
  (m : Str → Option Value)
def P3B (s : Shared) (h₀ : Heap) (L : Addr) (B S D C : Addr) (c2 : Nat) (ws : List Value) (o : Obj) (own peer : Int) (u1 u2 : Tok) (probe k : Int) (t u3 : Tok) (c1 : Nat) (m : Str → Option Value) (s' : Shared) : Prop := LawSt s h₀ L (fun y => if y = Str.ofString "probe" then some (.int probe u3) else if y = Str.ofString "peer" then some (.int peer u2) else if y = Str.ofString "own" then some (.int own u1) else if y = Str.ofString "deeds" then some (.ref D) else m y) [(B, listOf #[.ref S, .int k t] c1), (S, listOf ws.toArray c2), (D, listOf #[] 0), (C, o), (674, tabObj #[])] s' ∧ 0 ≤ probe ∧ probe < 1000000000 ∧ 0 ≤ k
def P3 (s : Shared) (h₀ : Heap) (L : Addr) (B S D C : Addr) (c2 : Nat) (ws : List Value) (o : Obj) (own peer : Int) (u1 u2 : Tok) (s' : Shared) : Prop := ∃ e : P3V, P3B s h₀ L B S D C c2 ws o own peer u1 u2 e.probe e.k e.t e.u3 e.c1 e.m s'
theorem P3.intro {s : Shared} {D : Addr} (probe k : Int) (t u3 : Tok) (c1 : Nat) (m : Str → Option Value) (F9 : Fr h₀ L h9 (fun y => if y = Str.ofString "probe" then some (.int probe u3) else if y = Str.ofString "peer" then some (.int peer u2) else if y = Str.ofString "own" then some (.int own u1) else if y = Str.ofString "deeds" then some (.ref D) else m y)) (N9 : News h₀ L h9 [(B, listOf #[.ref S, .int k t] c1), (S, listOf ws.toArray c2), (D, listOf #[] 0), (C, o), (674, tabObj #[])]) (a90 : 0 ≤ probe) (a91 : probe < 1000000000) (a92 : 0 ≤ k) : CutP (P3 s h₀ L B S D C c2 ws o own peer u1 u2) .next { s with heap := h9, toks := tk9 } :=
  ⟨rfl, ⟨probe, k, t, u3, c1, m⟩, ⟨h9, tk9, rfl, F9, N9⟩, a90, a91, a92⟩
theorem P3.elim {s : Shared} {D : Addr} {G9 : Shared → Prop} (hp : P3 s h₀ L B S D C c2 ws o own peer u1 u2 s') (kk99 : ∀ (probe k : Int) (t u3 : Tok) (c1 : Nat) (m : Str → Option Value) (h9 : Heap) (tk9 : Nat), Fr h₀ L h9 (fun y => if y = Str.ofString "probe" then some (.int probe u3) else if y = Str.ofString "peer" then some (.int peer u2) else if y = Str.ofString "own" then some (.int own u1) else if y = Str.ofString "deeds" then some (.ref D) else m y) → News h₀ L h9 [(B, listOf #[.ref S, .int k t] c1), (S, listOf ws.toArray c2), (D, listOf #[] 0), (C, o), (674, tabObj #[])] → (0 ≤ probe) → (probe < 1000000000) → (0 ≤ k) → G9 { s with heap := h9, toks := tk9 }) : G9 s' :=
  Exists.elim hp fun e hb => Exists.elim (show LawSt _ _ _ _ _ _ from hb.1) fun h9 h1 => Exists.elim h1 fun tk9 h2 => (congrArg G9 h2.1).mpr (kk99 e.probe e.k e.t e.u3 e.c1 e.m h9 tk9 h2.2.1 h2.2.2 hb.2.1 hb.2.2.1 hb.2.2.2)
set_option genInjectivity false in
set_option genSizeOf false in
structure P4V where
  (now k : Int)
  (t u4 : Tok)
  (c1 : Nat)
  (m : Str → Option Value)
def P4B (s : Shared) (h₀ : Heap) (L : Addr) (B S D C : Addr) (c2 : Nat) (ws : List Value) (o : Obj) (own peer probe : Int) (u1 u2 u3 : Tok) (now k : Int) (t u4 : Tok) (c1 : Nat) (m : Str → Option Value) (s' : Shared) : Prop := LawSt s h₀ L (fun y => if y = Str.ofString "now" then some (.int now u4) else if y = Str.ofString "probe" then some (.int probe u3) else if y = Str.ofString "peer" then some (.int peer u2) else if y = Str.ofString "own" then some (.int own u1) else if y = Str.ofString "deeds" then some (.ref D) else m y) [(B, listOf #[.ref S, .int k t] c1), (S, listOf ws.toArray c2), (D, listOf #[] 0), (C, o), (674, tabObj #[])] s' ∧ 0 ≤ k
def P4 (s : Shared) (h₀ : Heap) (L : Addr) (B S D C : Addr) (c2 : Nat) (ws : List Value) (o : Obj) (own peer probe : Int) (u1 u2 u3 : Tok) (s' : Shared) : Prop := ∃ e : P4V, P4B s h₀ L B S D C c2 ws o own peer probe u1 u2 u3 e.now e.k e.t e.u4 e.c1 e.m s'
theorem P4.intro {s : Shared} {D : Addr} (now k : Int) (t u4 : Tok) (c1 : Nat) (m : Str → Option Value) (F9 : Fr h₀ L h9 (fun y => if y = Str.ofString "now" then some (.int now u4) else if y = Str.ofString "probe" then some (.int probe u3) else if y = Str.ofString "peer" then some (.int peer u2) else if y = Str.ofString "own" then some (.int own u1) else if y = Str.ofString "deeds" then some (.ref D) else m y)) (N9 : News h₀ L h9 [(B, listOf #[.ref S, .int k t] c1), (S, listOf ws.toArray c2), (D, listOf #[] 0), (C, o), (674, tabObj #[])]) (a90 : 0 ≤ k) : CutP (P4 s h₀ L B S D C c2 ws o own peer probe u1 u2 u3) .next { s with heap := h9, toks := tk9 } :=
  ⟨rfl, ⟨now, k, t, u4, c1, m⟩, ⟨h9, tk9, rfl, F9, N9⟩, a90⟩
theorem P4.elim {s : Shared} {D : Addr} {G9 : Shared → Prop} (hp : P4 s h₀ L B S D C c2 ws o own peer probe u1 u2 u3 s') (kk99 : ∀ (now k : Int) (t u4 : Tok) (c1 : Nat) (m : Str → Option Value) (h9 : Heap) (tk9 : Nat), Fr h₀ L h9 (fun y => if y = Str.ofString "now" then some (.int now u4) else if y = Str.ofString "probe" then some (.int probe u3) else if y = Str.ofString "peer" then some (.int peer u2) else if y = Str.ofString "own" then some (.int own u1) else if y = Str.ofString "deeds" then some (.ref D) else m y) → News h₀ L h9 [(B, listOf #[.ref S, .int k t] c1), (S, listOf ws.toArray c2), (D, listOf #[] 0), (C, o), (674, tabObj #[])] → (0 ≤ k) → G9 { s with heap := h9, toks := tk9 }) : G9 s' :=
  Exists.elim hp fun e hb => Exists.elim (show LawSt _ _ _ _ _ _ from hb.1) fun h9 h1 => Exists.elim h1 fun tk9 h2 => (congrArg G9 h2.1).mpr (kk99 e.now e.k e.t e.u4 e.c1 e.m h9 tk9 h2.2.1 h2.2.2 hb.2)
set_option genInjectivity false in
set_option genSizeOf false in
structure P5V where
  (v : Value)
  (m : Str → Option Value)
def P5B (s : Shared) (h₀ : Heap) (L : Addr) (B S D C : Addr) (c2 : Nat) (ws : List Value) (o : Obj) (own peer probe now k : Int) (u1 u2 u3 u4 t : Tok) (c1 : Nat) (v : Value) (m : Str → Option Value) (s' : Shared) : Prop := LawSt s h₀ L (fun y => if y = Str.ofString "wait" then some (v) else if y = Str.ofString "now" then some (.int now u4) else if y = Str.ofString "probe" then some (.int probe u3) else if y = Str.ofString "peer" then some (.int peer u2) else if y = Str.ofString "own" then some (.int own u1) else if y = Str.ofString "deeds" then some (.ref D) else m y) [(B, listOf #[.ref S, .int k t] c1), (S, listOf ws.toArray c2), (D, listOf #[] 0), (C, o), (674, tabObj #[])] s' ∧ IsOpt (waitOf own peer probe) v
def P5 (s : Shared) (h₀ : Heap) (L : Addr) (B S D C : Addr) (c2 : Nat) (ws : List Value) (o : Obj) (own peer probe now k : Int) (u1 u2 u3 u4 t : Tok) (c1 : Nat) (s' : Shared) : Prop := ∃ e : P5V, P5B s h₀ L B S D C c2 ws o own peer probe now k u1 u2 u3 u4 t c1 e.v e.m s'
theorem P5.intro {s : Shared} {D : Addr} {t : Tok} (v : Value) (m : Str → Option Value) (F9 : Fr h₀ L h9 (fun y => if y = Str.ofString "wait" then some (v) else if y = Str.ofString "now" then some (.int now u4) else if y = Str.ofString "probe" then some (.int probe u3) else if y = Str.ofString "peer" then some (.int peer u2) else if y = Str.ofString "own" then some (.int own u1) else if y = Str.ofString "deeds" then some (.ref D) else m y)) (N9 : News h₀ L h9 [(B, listOf #[.ref S, .int k t] c1), (S, listOf ws.toArray c2), (D, listOf #[] 0), (C, o), (674, tabObj #[])]) (a90 : IsOpt (waitOf own peer probe) v) : CutP (P5 s h₀ L B S D C c2 ws o own peer probe now k u1 u2 u3 u4 t c1) .next { s with heap := h9, toks := tk9 } :=
  ⟨rfl, ⟨v, m⟩, ⟨h9, tk9, rfl, F9, N9⟩, a90⟩
theorem P5.elim {s : Shared} {D : Addr} {t : Tok} {G9 : Shared → Prop} (hp : P5 s h₀ L B S D C c2 ws o own peer probe now k u1 u2 u3 u4 t c1 s') (kk99 : ∀ (v : Value) (m : Str → Option Value) (h9 : Heap) (tk9 : Nat), Fr h₀ L h9 (fun y => if y = Str.ofString "wait" then some (v) else if y = Str.ofString "now" then some (.int now u4) else if y = Str.ofString "probe" then some (.int probe u3) else if y = Str.ofString "peer" then some (.int peer u2) else if y = Str.ofString "own" then some (.int own u1) else if y = Str.ofString "deeds" then some (.ref D) else m y) → News h₀ L h9 [(B, listOf #[.ref S, .int k t] c1), (S, listOf ws.toArray c2), (D, listOf #[] 0), (C, o), (674, tabObj #[])] → (IsOpt (waitOf own peer probe) v) → G9 { s with heap := h9, toks := tk9 }) : G9 s' :=
  Exists.elim hp fun e hb => Exists.elim (show LawSt _ _ _ _ _ _ from hb.1) fun h9 h1 => Exists.elim h1 fun tk9 h2 => (congrArg G9 h2.1).mpr (kk99 e.v e.m h9 tk9 h2.2.1 h2.2.2 hb.2)
set_option genInjectivity false in
set_option genSizeOf false in
structure P6V where
  (ia da : Addr)
  (k1 k2 k3 k4 u0 : Tok)
  (m : Str → Option Value)
def P6B (w : World) (s : Shared) (h₀ : Heap) (L : Addr) (B S D C : Addr) (c2 : Nat) (ws : List Value) (o : Obj) (own peer probe now0 k : Int) (u1 u2 u3 u4 t tw : Tok) (c1 : Nat) (ia da : Addr) (k1 k2 k3 k4 u0 : Tok) (m : Str → Option Value) (s' : Shared) : Prop := LawSt s h₀ L (fun y => if y = Str.ofString "idle" then some (.ref ia) else if y = Str.ofString "wait" then some (optV (waitOf own peer probe) tw) else if y = Str.ofString "now" then some (.int now0 u4) else if y = Str.ofString "probe" then some (.int probe u3) else if y = Str.ofString "peer" then some (.int peer u2) else if y = Str.ofString "own" then some (.int own u1) else if y = Str.ofString "deeds" then some (.ref D) else m y) [(da, dictOf [⟨PyData.keyHash w.params (Str.ofString "own"), .str (Str.ofString "own") k1, .int own u1⟩, ⟨PyData.keyHash w.params (Str.ofString "peer"), .str (Str.ofString "peer") k2, .int 0 u0⟩, ⟨PyData.keyHash w.params (Str.ofString "since"), .str (Str.ofString "since") k3, optV none 0⟩, ⟨PyData.keyHash w.params (Str.ofString "has_asked"), .str (Str.ofString "has_asked") k4, .bool false⟩] 4), (ia, instObj 85 da), (B, listOf #[.ref S, .int k t] c1), (S, listOf ws.toArray c2), (D, listOf #[] 0), (C, o), (674, tabObj #[])] s' ∧ ([ia, da, B, S, D, C, 674] : List Nat).Nodup
def P6 (w : World) (s : Shared) (h₀ : Heap) (L : Addr) (B S D C : Addr) (c2 : Nat) (ws : List Value) (o : Obj) (own peer probe now0 k : Int) (u1 u2 u3 u4 t tw : Tok) (c1 : Nat) (s' : Shared) : Prop := ∃ e : P6V, P6B w s h₀ L B S D C c2 ws o own peer probe now0 k u1 u2 u3 u4 t tw c1 e.ia e.da e.k1 e.k2 e.k3 e.k4 e.u0 e.m s'
theorem P6.intro {s : Shared} {D : Addr} {t : Tok} (ia da : Addr) (k1 k2 k3 k4 u0 : Tok) (m : Str → Option Value) (F9 : Fr h₀ L h9 (fun y => if y = Str.ofString "idle" then some (.ref ia) else if y = Str.ofString "wait" then some (optV (waitOf own peer probe) tw) else if y = Str.ofString "now" then some (.int now0 u4) else if y = Str.ofString "probe" then some (.int probe u3) else if y = Str.ofString "peer" then some (.int peer u2) else if y = Str.ofString "own" then some (.int own u1) else if y = Str.ofString "deeds" then some (.ref D) else m y)) (N9 : News h₀ L h9 [(da, dictOf [⟨PyData.keyHash w.params (Str.ofString "own"), .str (Str.ofString "own") k1, .int own u1⟩, ⟨PyData.keyHash w.params (Str.ofString "peer"), .str (Str.ofString "peer") k2, .int 0 u0⟩, ⟨PyData.keyHash w.params (Str.ofString "since"), .str (Str.ofString "since") k3, optV none 0⟩, ⟨PyData.keyHash w.params (Str.ofString "has_asked"), .str (Str.ofString "has_asked") k4, .bool false⟩] 4), (ia, instObj 85 da), (B, listOf #[.ref S, .int k t] c1), (S, listOf ws.toArray c2), (D, listOf #[] 0), (C, o), (674, tabObj #[])]) (a90 : ([ia, da, B, S, D, C, 674] : List Nat).Nodup) : CutP (P6 w s h₀ L B S D C c2 ws o own peer probe now0 k u1 u2 u3 u4 t tw c1) .next { s with heap := h9, toks := tk9 } :=
  ⟨rfl, ⟨ia, da, k1, k2, k3, k4, u0, m⟩, ⟨h9, tk9, rfl, F9, N9⟩, a90⟩
theorem P6.elim {s : Shared} {D : Addr} {t : Tok} {G9 : Shared → Prop} (hp : P6 w s h₀ L B S D C c2 ws o own peer probe now0 k u1 u2 u3 u4 t tw c1 s') (kk99 : ∀ (ia da : Addr) (k1 k2 k3 k4 u0 : Tok) (m : Str → Option Value) (h9 : Heap) (tk9 : Nat), Fr h₀ L h9 (fun y => if y = Str.ofString "idle" then some (.ref ia) else if y = Str.ofString "wait" then some (optV (waitOf own peer probe) tw) else if y = Str.ofString "now" then some (.int now0 u4) else if y = Str.ofString "probe" then some (.int probe u3) else if y = Str.ofString "peer" then some (.int peer u2) else if y = Str.ofString "own" then some (.int own u1) else if y = Str.ofString "deeds" then some (.ref D) else m y) → News h₀ L h9 [(da, dictOf [⟨PyData.keyHash w.params (Str.ofString "own"), .str (Str.ofString "own") k1, .int own u1⟩, ⟨PyData.keyHash w.params (Str.ofString "peer"), .str (Str.ofString "peer") k2, .int 0 u0⟩, ⟨PyData.keyHash w.params (Str.ofString "since"), .str (Str.ofString "since") k3, optV none 0⟩, ⟨PyData.keyHash w.params (Str.ofString "has_asked"), .str (Str.ofString "has_asked") k4, .bool false⟩] 4), (ia, instObj 85 da), (B, listOf #[.ref S, .int k t] c1), (S, listOf ws.toArray c2), (D, listOf #[] 0), (C, o), (674, tabObj #[])] → (([ia, da, B, S, D, C, 674] : List Nat).Nodup) → G9 { s with heap := h9, toks := tk9 }) : G9 s' :=
  Exists.elim hp fun e hb => Exists.elim (show LawSt _ _ _ _ _ _ from hb.1) fun h9 h1 => Exists.elim h1 fun tk9 h2 => (congrArg G9 h2.1).mpr (kk99 e.ia e.da e.k1 e.k2 e.k3 e.k4 e.u0 e.m h9 tk9 h2.2.1 h2.2.2 hb.2)
set_option genInjectivity false in
set_option genSizeOf false in
structure P7V where
  (co : Addr)
  (X : List (Addr × Obj))
  (m : Str → Option Value)
def P7B (w : World) (s : Shared) (h₀ : Heap) (L : Addr) (B S D C ia da : Addr) (c2 : Nat) (ws : List Value) (o : Obj) (own peer probe now0 k : Int) (u1 u2 u3 u4 t tw k1 k2 k3 k4 u0 : Tok) (c1 : Nat) (co : Addr) (X : List (Addr × Obj)) (m : Str → Option Value) (s' : Shared) : Prop := LawSt s h₀ L (fun y => if y = Str.ofString "conn" then some (.ref co) else if y = Str.ofString "idle" then some (.ref ia) else if y = Str.ofString "wait" then some (optV (waitOf own peer probe) tw) else if y = Str.ofString "now" then some (.int now0 u4) else if y = Str.ofString "probe" then some (.int probe u3) else if y = Str.ofString "peer" then some (.int peer u2) else if y = Str.ofString "own" then some (.int own u1) else if y = Str.ofString "deeds" then some (.ref D) else m y) ([(da, dictOf [⟨PyData.keyHash w.params (Str.ofString "own"), .str (Str.ofString "own") k1, .int own u1⟩, ⟨PyData.keyHash w.params (Str.ofString "peer"), .str (Str.ofString "peer") k2, .int 0 u0⟩, ⟨PyData.keyHash w.params (Str.ofString "since"), .str (Str.ofString "since") k3, optV none 0⟩, ⟨PyData.keyHash w.params (Str.ofString "has_asked"), .str (Str.ofString "has_asked") k4, .bool false⟩] 4), (ia, instObj 85 da), (B, listOf #[.ref S, .int k t] c1), (S, listOf ws.toArray c2), (D, listOf #[] 0), (C, o)] ++ X) s' ∧ ConnIn w h₀ co ia 0 X ∧ (∃ ps, ((674 : Addr), tabObj ps) ∈ X) ∧ (∀ p ∈ X, @Ne Nat p.1 da) ∧ (∀ p ∈ X, @Ne Nat p.1 ia) ∧ (∀ p ∈ X, @Ne Nat p.1 B) ∧ (∀ p ∈ X, @Ne Nat p.1 S) ∧ (∀ p ∈ X, @Ne Nat p.1 D) ∧ (∀ p ∈ X, @Ne Nat p.1 C)
def P7 (w : World) (s : Shared) (h₀ : Heap) (L : Addr) (B S D C ia da : Addr) (c2 : Nat) (ws : List Value) (o : Obj) (own peer probe now0 k : Int) (u1 u2 u3 u4 t tw k1 k2 k3 k4 u0 : Tok) (c1 : Nat) (s' : Shared) : Prop := ∃ e : P7V, P7B w s h₀ L B S D C ia da c2 ws o own peer probe now0 k u1 u2 u3 u4 t tw k1 k2 k3 k4 u0 c1 e.co e.X e.m s'
theorem P7.intro {s : Shared} {D : Addr} {t : Tok} (co : Addr) (X : List (Addr × Obj)) (m : Str → Option Value) (F9 : Fr h₀ L h9 (fun y => if y = Str.ofString "conn" then some (.ref co) else if y = Str.ofString "idle" then some (.ref ia) else if y = Str.ofString "wait" then some (optV (waitOf own peer probe) tw) else if y = Str.ofString "now" then some (.int now0 u4) else if y = Str.ofString "probe" then some (.int probe u3) else if y = Str.ofString "peer" then some (.int peer u2) else if y = Str.ofString "own" then some (.int own u1) else if y = Str.ofString "deeds" then some (.ref D) else m y)) (N9 : News h₀ L h9 ([(da, dictOf [⟨PyData.keyHash w.params (Str.ofString "own"), .str (Str.ofString "own") k1, .int own u1⟩, ⟨PyData.keyHash w.params (Str.ofString "peer"), .str (Str.ofString "peer") k2, .int 0 u0⟩, ⟨PyData.keyHash w.params (Str.ofString "since"), .str (Str.ofString "since") k3, optV none 0⟩, ⟨PyData.keyHash w.params (Str.ofString "has_asked"), .str (Str.ofString "has_asked") k4, .bool false⟩] 4), (ia, instObj 85 da), (B, listOf #[.ref S, .int k t] c1), (S, listOf ws.toArray c2), (D, listOf #[] 0), (C, o)] ++ X)) (a90 : ConnIn w h₀ co ia 0 X) (a91 : (∃ ps, ((674 : Addr), tabObj ps) ∈ X)) (a92 : (∀ p ∈ X, @Ne Nat p.1 da)) (a93 : (∀ p ∈ X, @Ne Nat p.1 ia)) (a94 : (∀ p ∈ X, @Ne Nat p.1 B)) (a95 : (∀ p ∈ X, @Ne Nat p.1 S)) (a96 : (∀ p ∈ X, @Ne Nat p.1 D)) (a97 : (∀ p ∈ X, @Ne Nat p.1 C)) : CutP (P7 w s h₀ L B S D C ia da c2 ws o own peer probe now0 k u1 u2 u3 u4 t tw k1 k2 k3 k4 u0 c1) .next { s with heap := h9, toks := tk9 } :=
  ⟨rfl, ⟨co, X, m⟩, ⟨h9, tk9, rfl, F9, N9⟩, a90, a91, a92, a93, a94, a95, a96, a97⟩
theorem P7.elim {s : Shared} {D : Addr} {t : Tok} {G9 : Shared → Prop} (hp : P7 w s h₀ L B S D C ia da c2 ws o own peer probe now0 k u1 u2 u3 u4 t tw k1 k2 k3 k4 u0 c1 s') (kk99 : ∀ (co : Addr) (X : List (Addr × Obj)) (m : Str → Option Value) (h9 : Heap) (tk9 : Nat), Fr h₀ L h9 (fun y => if y = Str.ofString "conn" then some (.ref co) else if y = Str.ofString "idle" then some (.ref ia) else if y = Str.ofString "wait" then some (optV (waitOf own peer probe) tw) else if y = Str.ofString "now" then some (.int now0 u4) else if y = Str.ofString "probe" then some (.int probe u3) else if y = Str.ofString "peer" then some (.int peer u2) else if y = Str.ofString "own" then some (.int own u1) else if y = Str.ofString "deeds" then some (.ref D) else m y) → News h₀ L h9 ([(da, dictOf [⟨PyData.keyHash w.params (Str.ofString "own"), .str (Str.ofString "own") k1, .int own u1⟩, ⟨PyData.keyHash w.params (Str.ofString "peer"), .str (Str.ofString "peer") k2, .int 0 u0⟩, ⟨PyData.keyHash w.params (Str.ofString "since"), .str (Str.ofString "since") k3, optV none 0⟩, ⟨PyData.keyHash w.params (Str.ofString "has_asked"), .str (Str.ofString "has_asked") k4, .bool false⟩] 4), (ia, instObj 85 da), (B, listOf #[.ref S, .int k t] c1), (S, listOf ws.toArray c2), (D, listOf #[] 0), (C, o)] ++ X) → (ConnIn w h₀ co ia 0 X) → ((∃ ps, ((674 : Addr), tabObj ps) ∈ X)) → ((∀ p ∈ X, @Ne Nat p.1 da)) → ((∀ p ∈ X, @Ne Nat p.1 ia)) → ((∀ p ∈ X, @Ne Nat p.1 B)) → ((∀ p ∈ X, @Ne Nat p.1 S)) → ((∀ p ∈ X, @Ne Nat p.1 D)) → ((∀ p ∈ X, @Ne Nat p.1 C)) → G9 { s with heap := h9, toks := tk9 }) : G9 s' :=
  Exists.elim hp fun e hb => Exists.elim (show LawSt _ _ _ _ _ _ from hb.1) fun h9 h1 => Exists.elim h1 fun tk9 h2 => (congrArg G9 h2.1).mpr (kk99 e.co e.X e.m h9 tk9 h2.2.1 h2.2.2 hb.2.1 hb.2.2.1 hb.2.2.2.1 hb.2.2.2.2.1 hb.2.2.2.2.2.1 hb.2.2.2.2.2.2.1 hb.2.2.2.2.2.2.2.1 hb.2.2.2.2.2.2.2.2)
set_option genInjectivity false in
set_option genSizeOf false in
structure P8V where
  (m : Str → Option Value)
def P8B (w : World) (s : Shared) (h₀ : Heap) (L : Addr) (B S D C ia da co : Addr) (c2 : Nat) (ws : List Value) (o : Obj) (own peer probe now0 k : Int) (u1 u2 u3 u4 t tw k1 k2 k3 k4 : Tok) (c1 : Nat) (X : List (Addr × Obj)) (m : Str → Option Value) (s' : Shared) : Prop := LawSt s h₀ L (fun y => if y = Str.ofString "conn" then some (.ref co) else if y = Str.ofString "idle" then some (.ref ia) else if y = Str.ofString "wait" then some (optV (waitOf own peer probe) tw) else if y = Str.ofString "now" then some (.int now0 u4) else if y = Str.ofString "probe" then some (.int probe u3) else if y = Str.ofString "peer" then some (.int peer u2) else if y = Str.ofString "own" then some (.int own u1) else if y = Str.ofString "deeds" then some (.ref D) else m y) ([(da, dictOf [⟨PyData.keyHash w.params (Str.ofString "own"), .str (Str.ofString "own") k1, .int own u1⟩, ⟨PyData.keyHash w.params (Str.ofString "peer"), .str (Str.ofString "peer") k2, .int peer u2⟩, ⟨PyData.keyHash w.params (Str.ofString "since"), .str (Str.ofString "since") k3, optV none 0⟩, ⟨PyData.keyHash w.params (Str.ofString "has_asked"), .str (Str.ofString "has_asked") k4, .bool false⟩] 4), (ia, instObj 85 da), (B, listOf #[.ref S, .int k t] c1), (S, listOf ws.toArray c2), (D, listOf #[] 0), (C, o)] ++ X) s'
def P8 (w : World) (s : Shared) (h₀ : Heap) (L : Addr) (B S D C ia da co : Addr) (c2 : Nat) (ws : List Value) (o : Obj) (own peer probe now0 k : Int) (u1 u2 u3 u4 t tw k1 k2 k3 k4 : Tok) (c1 : Nat) (X : List (Addr × Obj)) (s' : Shared) : Prop := ∃ e : P8V, P8B w s h₀ L B S D C ia da co c2 ws o own peer probe now0 k u1 u2 u3 u4 t tw k1 k2 k3 k4 c1 X e.m s'
theorem P8.intro {s : Shared} {D : Addr} {t : Tok} (m : Str → Option Value) (F9 : Fr h₀ L h9 (fun y => if y = Str.ofString "conn" then some (.ref co) else if y = Str.ofString "idle" then some (.ref ia) else if y = Str.ofString "wait" then some (optV (waitOf own peer probe) tw) else if y = Str.ofString "now" then some (.int now0 u4) else if y = Str.ofString "probe" then some (.int probe u3) else if y = Str.ofString "peer" then some (.int peer u2) else if y = Str.ofString "own" then some (.int own u1) else if y = Str.ofString "deeds" then some (.ref D) else m y)) (N9 : News h₀ L h9 ([(da, dictOf [⟨PyData.keyHash w.params (Str.ofString "own"), .str (Str.ofString "own") k1, .int own u1⟩, ⟨PyData.keyHash w.params (Str.ofString "peer"), .str (Str.ofString "peer") k2, .int peer u2⟩, ⟨PyData.keyHash w.params (Str.ofString "since"), .str (Str.ofString "since") k3, optV none 0⟩, ⟨PyData.keyHash w.params (Str.ofString "has_asked"), .str (Str.ofString "has_asked") k4, .bool false⟩] 4), (ia, instObj 85 da), (B, listOf #[.ref S, .int k t] c1), (S, listOf ws.toArray c2), (D, listOf #[] 0), (C, o)] ++ X)) : CutP (P8 w s h₀ L B S D C ia da co c2 ws o own peer probe now0 k u1 u2 u3 u4 t tw k1 k2 k3 k4 c1 X) .next { s with heap := h9, toks := tk9 } :=
  ⟨rfl, ⟨m⟩, ⟨h9, tk9, rfl, F9, N9⟩⟩
theorem P8.elim {s : Shared} {D : Addr} {t : Tok} {G9 : Shared → Prop} (hp : P8 w s h₀ L B S D C ia da co c2 ws o own peer probe now0 k u1 u2 u3 u4 t tw k1 k2 k3 k4 c1 X s') (kk99 : ∀ (m : Str → Option Value) (h9 : Heap) (tk9 : Nat), Fr h₀ L h9 (fun y => if y = Str.ofString "conn" then some (.ref co) else if y = Str.ofString "idle" then some (.ref ia) else if y = Str.ofString "wait" then some (optV (waitOf own peer probe) tw) else if y = Str.ofString "now" then some (.int now0 u4) else if y = Str.ofString "probe" then some (.int probe u3) else if y = Str.ofString "peer" then some (.int peer u2) else if y = Str.ofString "own" then some (.int own u1) else if y = Str.ofString "deeds" then some (.ref D) else m y) → News h₀ L h9 ([(da, dictOf [⟨PyData.keyHash w.params (Str.ofString "own"), .str (Str.ofString "own") k1, .int own u1⟩, ⟨PyData.keyHash w.params (Str.ofString "peer"), .str (Str.ofString "peer") k2, .int peer u2⟩, ⟨PyData.keyHash w.params (Str.ofString "since"), .str (Str.ofString "since") k3, optV none 0⟩, ⟨PyData.keyHash w.params (Str.ofString "has_asked"), .str (Str.ofString "has_asked") k4, .bool false⟩] 4), (ia, instObj 85 da), (B, listOf #[.ref S, .int k t] c1), (S, listOf ws.toArray c2), (D, listOf #[] 0), (C, o)] ++ X) → G9 { s with heap := h9, toks := tk9 }) : G9 s' :=
  Exists.elim hp fun e hb => Exists.elim (show LawSt _ _ _ _ _ _ from hb) fun h9 h1 => Exists.elim h1 fun tk9 h2 => (congrArg G9 h2.1).mpr (kk99 e.m h9 tk9 h2.2.1 h2.2.2 )
theorem cut1 {Q : Flow → Shared → Prop} {s : Shared} (hi : IntsAre vs ns) (F : Fr h₀ L h m) (N : News h₀ L h [(C, o), (674, tabObj #[])])
    (h1 : wpG M A (exec st env) (CutP (P1 s h₀ L ns C)) (fun _ _ => False) { s with heap := h, toks := tk }) (h2 : ∀ (B S D : Addr) (c1 c2 : Nat) (t : Tok) (ws : List Value) (o : Obj) (m : Str → Option Value) (h9 : Heap) (tk9 : Nat), Fr h₀ L h9 (fun y => if y = Str.ofString "deeds" then some (.ref D) else m y) → News h₀ L h9 [(B, listOf #[.ref S, .int 0 t] c1), (S, listOf ws.toArray c2), (D, listOf #[] 0), (C, o), (674, tabObj #[])] → (o.data = .cell (some (.ref B))) → (IntsAre ws (ns.take 24)) → (([B, S, D, C, 674] : List Nat).Nodup) → wpG M A (execs rest env) Q E { s with heap := h9, toks := tk9 }) : wpG M A (execs (st :: rest) env) Q E { s with heap := h, toks := tk } := g_cut _ h1 fun s' hp => P1.elim (G9 := fun s' => wpG M A (execs rest env) Q E s') hp h2
theorem cut2 {Q : Flow → Shared → Prop} {s : Shared} {D : Addr} {t : Tok}  (F : Fr h₀ L h (fun y => if y = Str.ofString "deeds" then some (.ref D) else m y)) (N : News h₀ L h [(B, listOf #[.ref S, .int k t] c1), (S, listOf ws.toArray c2), (D, listOf #[] 0), (C, o), (674, tabObj #[])])
    (h1 : wpG M A (exec st env) (CutP (P2 s h₀ L B S D C c2 ws o)) (fun _ _ => False) { s with heap := h, toks := tk }) (h2 : ∀ (own peer k : Int) (t u1 u2 : Tok) (c1 : Nat) (m : Str → Option Value) (h9 : Heap) (tk9 : Nat), Fr h₀ L h9 (fun y => if y = Str.ofString "peer" then some (.int peer u2) else if y = Str.ofString "own" then some (.int own u1) else if y = Str.ofString "deeds" then some (.ref D) else m y) → News h₀ L h9 [(B, listOf #[.ref S, .int k t] c1), (S, listOf ws.toArray c2), (D, listOf #[] 0), (C, o), (674, tabObj #[])] → (0 ≤ own) → (own < 1000000000) → (0 ≤ peer) → (peer < 1000000000) → (0 ≤ k) → wpG M A (execs rest env) Q E { s with heap := h9, toks := tk9 }) : wpG M A (execs (st :: rest) env) Q E { s with heap := h, toks := tk } := g_cut _ h1 fun s' hp => P2.elim (G9 := fun s' => wpG M A (execs rest env) Q E s') hp h2
theorem cut3 {Q : Flow → Shared → Prop} {s : Shared} {D : Addr} {t : Tok}  (F : Fr h₀ L h (fun y => if y = Str.ofString "peer" then some (.int peer u2) else if y = Str.ofString "own" then some (.int own u1) else if y = Str.ofString "deeds" then some (.ref D) else m y)) (N : News h₀ L h [(B, listOf #[.ref S, .int k t] c1), (S, listOf ws.toArray c2), (D, listOf #[] 0), (C, o), (674, tabObj #[])])
    (h1 : wpG M A (exec st env) (CutP (P3 s h₀ L B S D C c2 ws o own peer u1 u2)) (fun _ _ => False) { s with heap := h, toks := tk }) (h2 : ∀ (probe k : Int) (t u3 : Tok) (c1 : Nat) (m : Str → Option Value) (h9 : Heap) (tk9 : Nat), Fr h₀ L h9 (fun y => if y = Str.ofString "probe" then some (.int probe u3) else if y = Str.ofString "peer" then some (.int peer u2) else if y = Str.ofString "own" then some (.int own u1) else if y = Str.ofString "deeds" then some (.ref D) else m y) → News h₀ L h9 [(B, listOf #[.ref S, .int k t] c1), (S, listOf ws.toArray c2), (D, listOf #[] 0), (C, o), (674, tabObj #[])] → (0 ≤ probe) → (probe < 1000000000) → (0 ≤ k) → wpG M A (execs rest env) Q E { s with heap := h9, toks := tk9 }) : wpG M A (execs (st :: rest) env) Q E { s with heap := h, toks := tk } := g_cut _ h1 fun s' hp => P3.elim (G9 := fun s' => wpG M A (execs rest env) Q E s') hp h2
theorem cut4 {Q : Flow → Shared → Prop} {s : Shared} {D : Addr} {t : Tok}  (F : Fr h₀ L h (fun y => if y = Str.ofString "probe" then some (.int probe u3) else if y = Str.ofString "peer" then some (.int peer u2) else if y = Str.ofString "own" then some (.int own u1) else if y = Str.ofString "deeds" then some (.ref D) else m y)) (N : News h₀ L h [(B, listOf #[.ref S, .int k t] c1), (S, listOf ws.toArray c2), (D, listOf #[] 0), (C, o), (674, tabObj #[])])
    (h1 : wpG M A (exec st env) (CutP (P4 s h₀ L B S D C c2 ws o own peer probe u1 u2 u3)) (fun _ _ => False) { s with heap := h, toks := tk }) (h2 : ∀ (now k : Int) (t u4 : Tok) (c1 : Nat) (m : Str → Option Value) (h9 : Heap) (tk9 : Nat), Fr h₀ L h9 (fun y => if y = Str.ofString "now" then some (.int now u4) else if y = Str.ofString "probe" then some (.int probe u3) else if y = Str.ofString "peer" then some (.int peer u2) else if y = Str.ofString "own" then some (.int own u1) else if y = Str.ofString "deeds" then some (.ref D) else m y) → News h₀ L h9 [(B, listOf #[.ref S, .int k t] c1), (S, listOf ws.toArray c2), (D, listOf #[] 0), (C, o), (674, tabObj #[])] → (0 ≤ k) → wpG M A (execs rest env) Q E { s with heap := h9, toks := tk9 }) : wpG M A (execs (st :: rest) env) Q E { s with heap := h, toks := tk } := g_cut _ h1 fun s' hp => P4.elim (G9 := fun s' => wpG M A (execs rest env) Q E s') hp h2
theorem cut6 {Q : Flow → Shared → Prop} {s : Shared} {D : Addr} {t : Tok}  (F : Fr h₀ L h (fun y => if y = Str.ofString "wait" then some (optV (waitOf own peer probe) tw) else if y = Str.ofString "now" then some (.int now0 u4) else if y = Str.ofString "probe" then some (.int probe u3) else if y = Str.ofString "peer" then some (.int peer u2) else if y = Str.ofString "own" then some (.int own u1) else if y = Str.ofString "deeds" then some (.ref D) else m y)) (N : News h₀ L h [(B, listOf #[.ref S, .int k t] c1), (S, listOf ws.toArray c2), (D, listOf #[] 0), (C, o), (674, tabObj #[])])
    (h1 : wpG M A (exec st env) (CutP (P6 w s h₀ L B S D C c2 ws o own peer probe now0 k u1 u2 u3 u4 t tw c1)) (fun _ _ => False) { s with heap := h, toks := tk }) (h2 : ∀ (ia da : Addr) (k1 k2 k3 k4 u0 : Tok) (m : Str → Option Value) (h9 : Heap) (tk9 : Nat), Fr h₀ L h9 (fun y => if y = Str.ofString "idle" then some (.ref ia) else if y = Str.ofString "wait" then some (optV (waitOf own peer probe) tw) else if y = Str.ofString "now" then some (.int now0 u4) else if y = Str.ofString "probe" then some (.int probe u3) else if y = Str.ofString "peer" then some (.int peer u2) else if y = Str.ofString "own" then some (.int own u1) else if y = Str.ofString "deeds" then some (.ref D) else m y) → News h₀ L h9 [(da, dictOf [⟨PyData.keyHash w.params (Str.ofString "own"), .str (Str.ofString "own") k1, .int own u1⟩, ⟨PyData.keyHash w.params (Str.ofString "peer"), .str (Str.ofString "peer") k2, .int 0 u0⟩, ⟨PyData.keyHash w.params (Str.ofString "since"), .str (Str.ofString "since") k3, optV none 0⟩, ⟨PyData.keyHash w.params (Str.ofString "has_asked"), .str (Str.ofString "has_asked") k4, .bool false⟩] 4), (ia, instObj 85 da), (B, listOf #[.ref S, .int k t] c1), (S, listOf ws.toArray c2), (D, listOf #[] 0), (C, o), (674, tabObj #[])] → (([ia, da, B, S, D, C, 674] : List Nat).Nodup) → wpG M A (execs rest env) Q E { s with heap := h9, toks := tk9 }) : wpG M A (execs (st :: rest) env) Q E { s with heap := h, toks := tk } := g_cut _ h1 fun s' hp => P6.elim (G9 := fun s' => wpG M A (execs rest env) Q E s') hp h2
theorem cut7 {Q : Flow → Shared → Prop} {s : Shared} {D : Addr} {t : Tok}  (F : Fr h₀ L h (fun y => if y = Str.ofString "idle" then some (.ref ia) else if y = Str.ofString "wait" then some (optV (waitOf own peer probe) tw) else if y = Str.ofString "now" then some (.int now0 u4) else if y = Str.ofString "probe" then some (.int probe u3) else if y = Str.ofString "peer" then some (.int peer u2) else if y = Str.ofString "own" then some (.int own u1) else if y = Str.ofString "deeds" then some (.ref D) else m y)) (N : News h₀ L h [(da, dictOf [⟨PyData.keyHash w.params (Str.ofString "own"), .str (Str.ofString "own") k1, .int own u1⟩, ⟨PyData.keyHash w.params (Str.ofString "peer"), .str (Str.ofString "peer") k2, .int 0 u0⟩, ⟨PyData.keyHash w.params (Str.ofString "since"), .str (Str.ofString "since") k3, optV none 0⟩, ⟨PyData.keyHash w.params (Str.ofString "has_asked"), .str (Str.ofString "has_asked") k4, .bool false⟩] 4), (ia, instObj 85 da), (B, listOf #[.ref S, .int k t] c1), (S, listOf ws.toArray c2), (D, listOf #[] 0), (C, o), (674, tabObj #[])])
    (h1 : wpG M A (exec st env) (CutP (P7 w s h₀ L B S D C ia da c2 ws o own peer probe now0 k u1 u2 u3 u4 t tw k1 k2 k3 k4 u0 c1)) (fun _ _ => False) { s with heap := h, toks := tk }) (h2 : ∀ (co : Addr) (X : List (Addr × Obj)) (m : Str → Option Value) (h9 : Heap) (tk9 : Nat), Fr h₀ L h9 (fun y => if y = Str.ofString "conn" then some (.ref co) else if y = Str.ofString "idle" then some (.ref ia) else if y = Str.ofString "wait" then some (optV (waitOf own peer probe) tw) else if y = Str.ofString "now" then some (.int now0 u4) else if y = Str.ofString "probe" then some (.int probe u3) else if y = Str.ofString "peer" then some (.int peer u2) else if y = Str.ofString "own" then some (.int own u1) else if y = Str.ofString "deeds" then some (.ref D) else m y) → News h₀ L h9 ([(da, dictOf [⟨PyData.keyHash w.params (Str.ofString "own"), .str (Str.ofString "own") k1, .int own u1⟩, ⟨PyData.keyHash w.params (Str.ofString "peer"), .str (Str.ofString "peer") k2, .int 0 u0⟩, ⟨PyData.keyHash w.params (Str.ofString "since"), .str (Str.ofString "since") k3, optV none 0⟩, ⟨PyData.keyHash w.params (Str.ofString "has_asked"), .str (Str.ofString "has_asked") k4, .bool false⟩] 4), (ia, instObj 85 da), (B, listOf #[.ref S, .int k t] c1), (S, listOf ws.toArray c2), (D, listOf #[] 0), (C, o)] ++ X) → (ConnIn w h₀ co ia 0 X) → ((∃ ps, ((674 : Addr), tabObj ps) ∈ X)) → ((∀ p ∈ X, @Ne Nat p.1 da)) → ((∀ p ∈ X, @Ne Nat p.1 ia)) → ((∀ p ∈ X, @Ne Nat p.1 B)) → ((∀ p ∈ X, @Ne Nat p.1 S)) → ((∀ p ∈ X, @Ne Nat p.1 D)) → ((∀ p ∈ X, @Ne Nat p.1 C)) → wpG M A (execs rest env) Q E { s with heap := h9, toks := tk9 }) : wpG M A (execs (st :: rest) env) Q E { s with heap := h, toks := tk } := g_cut _ h1 fun s' hp => P7.elim (G9 := fun s' => wpG M A (execs rest env) Q E s') hp h2
theorem cut8 {Q : Flow → Shared → Prop} {s : Shared} {D : Addr} {t : Tok}  (F : Fr h₀ L h (fun y => if y = Str.ofString "conn" then some (.ref co) else if y = Str.ofString "idle" then some (.ref ia) else if y = Str.ofString "wait" then some (optV (waitOf own peer probe) tw) else if y = Str.ofString "now" then some (.int now0 u4) else if y = Str.ofString "probe" then some (.int probe u3) else if y = Str.ofString "peer" then some (.int peer u2) else if y = Str.ofString "own" then some (.int own u1) else if y = Str.ofString "deeds" then some (.ref D) else m y)) (N : News h₀ L h ([(da, dictOf [⟨PyData.keyHash w.params (Str.ofString "own"), .str (Str.ofString "own") k1, .int own u1⟩, ⟨PyData.keyHash w.params (Str.ofString "peer"), .str (Str.ofString "peer") k2, .int 0 u0⟩, ⟨PyData.keyHash w.params (Str.ofString "since"), .str (Str.ofString "since") k3, optV none 0⟩, ⟨PyData.keyHash w.params (Str.ofString "has_asked"), .str (Str.ofString "has_asked") k4, .bool false⟩] 4), (ia, instObj 85 da), (B, listOf #[.ref S, .int k t] c1), (S, listOf ws.toArray c2), (D, listOf #[] 0), (C, o)] ++ X))
    (h1 : wpG M A (exec st env) (CutP (P8 w s h₀ L B S D C ia da co c2 ws o own peer probe now0 k u1 u2 u3 u4 t tw k1 k2 k3 k4 c1 X)) (fun _ _ => False) { s with heap := h, toks := tk }) (h2 : ∀ (m : Str → Option Value) (h9 : Heap) (tk9 : Nat), Fr h₀ L h9 (fun y => if y = Str.ofString "conn" then some (.ref co) else if y = Str.ofString "idle" then some (.ref ia) else if y = Str.ofString "wait" then some (optV (waitOf own peer probe) tw) else if y = Str.ofString "now" then some (.int now0 u4) else if y = Str.ofString "probe" then some (.int probe u3) else if y = Str.ofString "peer" then some (.int peer u2) else if y = Str.ofString "own" then some (.int own u1) else if y = Str.ofString "deeds" then some (.ref D) else m y) → News h₀ L h9 ([(da, dictOf [⟨PyData.keyHash w.params (Str.ofString "own"), .str (Str.ofString "own") k1, .int own u1⟩, ⟨PyData.keyHash w.params (Str.ofString "peer"), .str (Str.ofString "peer") k2, .int peer u2⟩, ⟨PyData.keyHash w.params (Str.ofString "since"), .str (Str.ofString "since") k3, optV none 0⟩, ⟨PyData.keyHash w.params (Str.ofString "has_asked"), .str (Str.ofString "has_asked") k4, .bool false⟩] 4), (ia, instObj 85 da), (B, listOf #[.ref S, .int k t] c1), (S, listOf ws.toArray c2), (D, listOf #[] 0), (C, o)] ++ X) → wpG M A (execs rest env) Q E { s with heap := h9, toks := tk9 }) : wpG M A (execs (st :: rest) env) Q E { s with heap := h, toks := tk } := g_cut _ h1 fun s' hp => P8.elim (G9 := fun s' => wpG M A (execs rest env) Q E s') hp h2
theorem cut9 {Q : Flow → Shared → Prop} {s : Shared} {D : Addr} {t : Tok}  (F : Fr h₀ L h (fun y => if y = Str.ofString "conn" then some (.ref co) else if y = Str.ofString "idle" then some (.ref ia) else if y = Str.ofString "wait" then some (optV (waitOf own peer probe) tw) else if y = Str.ofString "now" then some (.int now0 u4) else if y = Str.ofString "probe" then some (.int probe u3) else if y = Str.ofString "peer" then some (.int peer u2) else if y = Str.ofString "own" then some (.int own u1) else if y = Str.ofString "deeds" then some (.ref D) else m y)) (N : News h₀ L h ([(da, dictOf [⟨PyData.keyHash w.params (Str.ofString "own"), .str (Str.ofString "own") k1, .int own u1⟩, ⟨PyData.keyHash w.params (Str.ofString "peer"), .str (Str.ofString "peer") k2, .int peer u2⟩, ⟨PyData.keyHash w.params (Str.ofString "since"), .str (Str.ofString "since") k3, optV none 0⟩, ⟨PyData.keyHash w.params (Str.ofString "has_asked"), .str (Str.ofString "has_asked") k4, .bool false⟩] 4), (ia, instObj 85 da), (B, listOf #[.ref S, .int k t] c1), (S, listOf ws.toArray c2), (D, listOf #[] 0), (C, o)] ++ X))
    (h1 : wpG M A (exec st env) (CutP (P8 w s h₀ L B S D C ia da co c2 ws o own peer probe now0 k u1 u2 u3 u4 t tw k1 k2 k3 k4 c1 X)) (fun _ _ => False) { s with heap := h, toks := tk }) (h2 : ∀ (m : Str → Option Value) (h9 : Heap) (tk9 : Nat), Fr h₀ L h9 (fun y => if y = Str.ofString "conn" then some (.ref co) else if y = Str.ofString "idle" then some (.ref ia) else if y = Str.ofString "wait" then some (optV (waitOf own peer probe) tw) else if y = Str.ofString "now" then some (.int now0 u4) else if y = Str.ofString "probe" then some (.int probe u3) else if y = Str.ofString "peer" then some (.int peer u2) else if y = Str.ofString "own" then some (.int own u1) else if y = Str.ofString "deeds" then some (.ref D) else m y) → News h₀ L h9 ([(da, dictOf [⟨PyData.keyHash w.params (Str.ofString "own"), .str (Str.ofString "own") k1, .int own u1⟩, ⟨PyData.keyHash w.params (Str.ofString "peer"), .str (Str.ofString "peer") k2, .int peer u2⟩, ⟨PyData.keyHash w.params (Str.ofString "since"), .str (Str.ofString "since") k3, optV none 0⟩, ⟨PyData.keyHash w.params (Str.ofString "has_asked"), .str (Str.ofString "has_asked") k4, .bool false⟩] 4), (ia, instObj 85 da), (B, listOf #[.ref S, .int k t] c1), (S, listOf ws.toArray c2), (D, listOf #[] 0), (C, o)] ++ X) → wpG M A (execs rest env) Q E { s with heap := h9, toks := tk9 }) : wpG M A (execs (st :: rest) env) Q E { s with heap := h, toks := tk } := g_cut _ h1 fun s' hp => P8.elim (G9 := fun s' => wpG M A (execs rest env) Q E s') hp h2
theorem idle_new2 (w : World) (own : Int) (t1 t2 : Tok) : RW = RW → ∀ (p : Program) (loose : List Str) (mean : ExcName → Option Value) (mg mb : Str → Option Value)
    (dp un : Nat) (gd : Option (List Code)) (cn : Str) (cs : Scope) (a : Addr) (ccd : Value) (cl : List (Str × Addr)) (outer : List Env) (A₀ : Around) (base h₀ : Heap) (L : Addr) (m : Str → Option Value) (news : List (Addr × Obj)) (s : Shared) (Q E : Value → Shared → Prop),
    Below A₀ base outer h₀ → Fr h₀ L s.heap m → (hd.heap_1 w.params).In h₀ → News h₀ L s.heap news → Top p loose mean mg mb h₀ → cs.kind = .function →
    dp + 12 < recursionLimit → un + 8 * 12 < cLine →
    (∀ (ia da : Addr) (k1 k2 k3 k4 : Tok) h' tk', Fr h₀ L h' m → News h₀ L h' ((ia, instObj 85 da) :: (da, dictOf [⟨PyData.keyHash w.params (Str.ofString "own"), .str (Str.ofString "own") k1, .int own t1⟩, ⟨PyData.keyHash w.params (Str.ofString "peer"), .str (Str.ofString "peer") k2, .int 0 t2⟩, ⟨PyData.keyHash w.params (Str.ofString "since"), .str (Str.ofString "since") k3, optV none 0⟩, ⟨PyData.keyHash w.params (Str.ofString "has_asked"), .str (Str.ofString "has_asked") k4, .bool false⟩] 4) :: news) → (∀ p ∈ news, p.1 < da) → @LT.lt Nat _ da ia → Q (.ref ia) { s with heap := h', toks := tk' }) →
    wpAny (model PR w) (ktrTop dp un gd cn cs L a ccd cl outer) (call (.ref 85) [.int own t1, .int 0 t2, .none]) Q E s := idle_new w own t1 t2
theorem rest674 : ∀ q ∈ restOf [((674 : Addr), tabObj #[])] news, q ∈ news ∧ @Ne Nat q.1 674 := fun q hq => ⟨(List.mem_filter.mp hq).1, by simpa using (List.mem_filter.mp hq).2⟩
theorem state_use2 
    {a : Addr} {s : Shared} {Q : Value → Shared → Prop}
    (B : Below A₀ base outer h₀) (F : Fr h₀ L s.heap m) (XK : (hd.heap_1 w.params).In h₀) (N : News h₀ L s.heap news) (T : Top p loose mean mg mb h₀) (hk : cs.kind = .function) (h1 : dp + 24 < recursionLimit) (h2 : un + 8 * 24 < cLine)
    (HT : ((674 : Addr), tabObj #[]) ∈ news) (HC : CodeHd base 678 674) (hl : ∀ q ∈ l, q ∈ news ∧ @Ne Nat q.1 674)
    (ret : ∀ co h' tk' X ps, Fr h₀ L h' m → News h₀ L h' (l ++ X) → ConnIn w h₀ co ia 0 X → ((674 : Addr), tabObj ps) ∈ X → (∀ q ∈ l, ∀ p ∈ X, @Ne Nat p.1 q.1) → Q (.ref co) { s with heap := h', toks := tk' }) :
    wpAny (model PR w) (ktrTop dp un gd cn cs L a ccd cl outer) (call (.ref 679) [.ref ia]) Q E s := state_use HT HC hl B F XK N T hk h1 h2 ret
theorem right_use {dl : Addr} {t3 : Tok} {c : Nat} {D : Deeds} 
    {a : Addr} {s : Shared} {Q : Value → Shared → Prop}
    (B : Below A₀ base outer h₀) (F : Fr h₀ L s.heap m) (XK : (hd.heap_1 w.params).In h₀) (N : News h₀ L s.heap news) (T : Top p loose mean mg mb h₀) (hk : cs.kind = .function) (h1 : dp + 34 < recursionLimit) (h2 : un + 8 * 34 < cLine)
    (m1 : (ia, instObj 85 da) ∈ news) (m2 : (da, dictOf [⟨PyData.keyHash w.params (Str.ofString "own"), .str (Str.ofString "own") k1, .int own t1⟩, ⟨PyData.keyHash w.params (Str.ofString "peer"), .str (Str.ofString "peer") k2, .int peer t2⟩, ⟨PyData.keyHash w.params (Str.ofString "since"), .str (Str.ofString "since") k3, optV sv ts⟩, ⟨PyData.keyHash w.params (Str.ofString "has_asked"), .str (Str.ofString "has_asked") k4, .bool asked⟩] 4) ∈ news) (m3 : (dl, listOf vs.toArray c) ∈ news) (HD : DeedsN h₀ news vs D) (hS : lawSince D = (sv, asked)) (hlen : D.length ≤ 1000) (o0 : 0 ≤ own) (o1 : own < 1000000000) (p0 : 0 ≤ peer) (p1 : peer < 1000000000) (q0 : 0 ≤ probe) (q1 : probe < 1000000000)
    (ret : ∀ h' tk', Fr h₀ L h' m → News h₀ L h' news → Q (.bool true) { s with heap := h', toks := tk' }) :
    wpAny (model PR w) (ktrTop dp un gd cn cs L a ccd cl outer) (call (.ref 689) [.ref ia, .ref dl, optV (waitOf own peer probe) tw, .int probe t3, .int now tn]) Q E s :=
  PureD.use (right_all w ia da k1 k2 k3 k4 t1 t2 ts own peer dl c vs D hlen asked sv o0 o1 p0 p1 probe now t3 tn tw q0 q1 hS) B F XK N T hk h1 h2 (need_cons m1 (need_cons m2 (need_cons m3 need_nil))) HD fun v h' tk' F' N' e => by subst e; exact ret h' tk' F' N'
theorem deeds_nil : DeedsN h₀ news [] [] := ⟨rfl, fun i t s h => by simp at h⟩
theorem DeedsN.mono {D : Deeds} (x : DeedsN h₀ X vs D) (hs : ∀ q ∈ X, q ∈ news) : DeedsN h₀ news vs D := ⟨x.1, fun i t s hd => by
  obtain ⟨a, u1, u2, e1, e2⟩ := x.2 i t s hd
  exact ⟨a, u1, u2, e1, e2.imp (hs _) id⟩⟩
theorem ap674 {a : Addr} (ap : ∀ q ∈ restOf [((674 : Addr), tabObj #[])] news, ∀ p ∈ X, @Ne Nat p.1 q.1) (h : (a, o) ∈ news) (hn : @Ne Nat a 674) : ∀ p ∈ X, @Ne Nat p.1 a := fun p hp => ap _ (List.mem_filter.mpr ⟨h, by simpa using hn⟩) p hp
theorem in674 (h : q ∈ news) (hn : @Ne Nat q.1 674) : q ∈ restOf [((674 : Addr), tabObj #[])] news := List.mem_filter.mpr ⟨h, by simpa using hn⟩
theorem six674 (N : News h₀ L h (restOf [((674 : Addr), tabObj #[])] news ++ X)) (hl : ∀ q ∈ l, q ∈ news ∧ @Ne Nat q.1 674) : News h₀ L h (l ++ X) := fun q hq => by
  rcases List.mem_append.mp hq with hq | hq
  · exact N q (List.mem_append_left _ (in674 (hl q hq).1 (hl q hq).2))
  · exact N q (List.mem_append_right _ hq)
theorem cut5 {Q : Flow → Shared → Prop} {s : Shared} {D : Addr} {t : Tok}  (F : Fr h₀ L h (fun y => if y = Str.ofString "now" then some (.int now u4) else if y = Str.ofString "probe" then some (.int probe u3) else if y = Str.ofString "peer" then some (.int peer u2) else if y = Str.ofString "own" then some (.int own u1) else if y = Str.ofString "deeds" then some (.ref D) else m y)) (N : News h₀ L h [(B, listOf #[.ref S, .int k t] c1), (S, listOf ws.toArray c2), (D, listOf #[] 0), (C, o), (674, tabObj #[])])
    (h1 : wpG M A (exec st env) (CutP (P5 s h₀ L B S D C c2 ws o own peer probe now k u1 u2 u3 u4 t c1)) (fun _ _ => False) { s with heap := h, toks := tk }) (h2 : ∀ (v : Value) (m : Str → Option Value) (h9 : Heap) (tk9 : Nat), Fr h₀ L h9 (fun y => if y = Str.ofString "wait" then some (v) else if y = Str.ofString "now" then some (.int now u4) else if y = Str.ofString "probe" then some (.int probe u3) else if y = Str.ofString "peer" then some (.int peer u2) else if y = Str.ofString "own" then some (.int own u1) else if y = Str.ofString "deeds" then some (.ref D) else m y) → News h₀ L h9 [(B, listOf #[.ref S, .int k t] c1), (S, listOf ws.toArray c2), (D, listOf #[] 0), (C, o), (674, tabObj #[])] → (IsOpt (waitOf own peer probe) v) → wpG M A (execs rest env) Q E { s with heap := h9, toks := tk9 }) : wpG M A (execs (st :: rest) env) Q E { s with heap := h, toks := tk } := g_cut _ h1 fun s' hp => P5.elim (G9 := fun s' => wpG M A (execs rest env) Q E s') hp h2
theorem LZ_rows2 : True := by
  (k_with "wpG" => (first
      | (with_reducible refine g_execs_nil ?_)
      | (with_reducible refine g_execs_cons ?_)
      | ((with_reducible refine g_leafS ?k1 ?_); (case k1 => k_dflt (exact rfl)); (try k_fold))
      | ((with_reducible refine g_leafE ?k1 ?_); (case k1 => k_dflt (exact rfl)); (try k_fold))
      | (with_reducible refine g_Return ?_)
      | ((with_reducible refine g_Assign ?_ ?k1); (case k1 => k_dflt (exact rfl)))
      | (with_reducible refine g_If ?_)
      | (with_reducible refine g_CallName ?_)
      | (with_reducible refine g_BinOp ?_)
      | (with_reducible refine g_Subscript ?_)
      | (with_reducible refine g_spliced_backTo_nil ?_)
      | ((refine g_spliced_backTo ?_ ?k1); (case k1 => k_dflt (exact rfl)))
      | ((refine' g_callWith_K ?k1 ?k2 ?_ ?k3 ?k4); (case k1 => k_asm); (case k2 => k_is); (case k3 => k_dflt (exact rfl)); (case k4 => k_dflt (exact rfl)); k_whole)
      | ((refine' g_callWith_type ?_ ?k3 ?k4); (case k3 => k_dflt (exact rfl)); (case k4 => k_dflt (exact rfl)))))
  (k_with "exec Raise some none" => (exfalso; contradiction))
  (k_with "True" => (skip))
  (k_with "And" => (refine ⟨True.intro, ?_⟩; (try dsimp only [List.nil_append, List.cons_append])))
  (k_with "k_room" => (ktr_room))
  (k_with "k_intsEnd" => (exact IntsAre.nil))
  (k_with "k_units" => (ktr_units))
  (k_with "call builtin:min" => ((rename (@Ne Nat _ _) => hh9; clear hh9); (repeat (rename (@Ne Nat _ _) => hh9; clear hh9))))
  (k_with "wtm_val" => (exact w_eq_bool (w_res rfl) w_lit))
  trivial
theorem pureM_more {d : Nat} {need need' : List (Addr × Obj)} {P : Value → Prop} (C : PureM w d f need vs P) (hs : ∀ q ∈ need, q ∈ need') : PureM w d f need' vs P :=
  fun p loose mean mg mb dp un gd cn cs a ccd cl outer A₀ base h₀ L m news s Q E B F X N T hk h1 h2 hn ret => C p loose mean mg mb dp un gd cn cs a ccd cl outer A₀ base h₀ L m news s Q E B F X N T hk h1 h2 (fun q hq => hn q (hs q hq)) ret
theorem seal_ping2 {D : Deeds} 
    {a : Addr} {s : Shared} {Q : Value → Shared → Prop}
    (B : Below A₀ base outer h₀) (F : Fr h₀ L s.heap m) (XK : (hd.heap_1 w.params).In h₀) (N : News h₀ L s.heap news) (T : Top p loose mean mg mb h₀) (hk : cs.kind = .function) (h1 : dp + 40 < recursionLimit) (h2 : un + 8 * 40 < cLine)
    (C : ConnIn w h₀ co ia nn X) (hn8 : nn ≤ 7) (HD : DeedsN h₀ X dvs D) (hX : ∀ q ∈ X, q ∈ news) (hO : ∀ q ∈ ([(da, dictOf [⟨PyData.keyHash w.params (Str.ofString "own"), .str (Str.ofString "own") k1, .int own t1⟩, ⟨PyData.keyHash w.params (Str.ofString "peer"), .str (Str.ofString "peer") k2, .int peer t2⟩, ⟨PyData.keyHash w.params (Str.ofString "since"), .str (Str.ofString "since") k3, optV sv ts⟩, ⟨PyData.keyHash w.params (Str.ofString "has_asked"), .str (Str.ofString "has_asked") k4, .bool asked⟩] 4), (ia, instObj 85 da), (row, listOf #[.ref f] crow), (f, { cls := .type "tuple", data := .seq #[.str (Str.ofString "ping") tf] })] : List (Addr × Obj)), q ∈ news ∧ ∀ p ∈ X, @Ne Nat p.1 q.1) (hnd : ([da, ia, row, f] : List Nat).Nodup)
    (ret : ∀ v h' tk' ts' X', Fr h₀ L h' m → News h₀ L h' ((da, dictOf [⟨PyData.keyHash w.params (Str.ofString "own"), .str (Str.ofString "own") k1, .int own t1⟩, ⟨PyData.keyHash w.params (Str.ofString "peer"), .str (Str.ofString "peer") k2, .int peer t2⟩, ⟨PyData.keyHash w.params (Str.ofString "since"), .str (Str.ofString "since") k3, optV (sentS true asked sv now) ts'⟩, ⟨PyData.keyHash w.params (Str.ofString "has_asked"), .str (Str.ofString "has_asked") k4, .bool (true || asked)⟩] 4) :: (butOf (da :: X.map (·.1)) news ++ X')) → ConnIn w h₀ co ia (nn + 1) X' → DeedsN h₀ X' dvs D → (∀ q ∈ X, (∀ es n, q.2.data ≠ .dict es n) → q ∈ X') → (∀ p ∈ X', @Ne Nat p.1 da) → (∀ q ∈ butOf (da :: X.map (·.1)) news, ∀ p ∈ X', @Ne Nat p.1 q.1) → Q v { s with heap := h', toks := tk' }) :
    wpG (model PR w) (ktrTop dp un gd cn cs L a ccd cl outer) (call (.ref 351) [.ref co, .str (Str.ofString "application") tsp, .ref row, .int now tn]) Q E s := by
  have hq2 : ∀ q ∈ ([(row, listOf #[.ref f] crow), (f, { cls := .type "tuple", data := .seq (.str (kindOf9 true) tf :: []).toArray })] : List (Addr × Obj)), q ∈ ([(row, listOf #[.ref f] crow), (f, { cls := .type "tuple", data := .seq #[.str (Str.ofString "ping") tf] })] : List (Addr × Obj)) := need_cons (.head _) (need_cons (.tail _ (.head _)) need_nil)
  have h0 := List.nodup_cons.mp hnd
  exact seal_g true 1 3 (.inl ⟨rfl, rfl⟩) (FO := [(row, listOf #[.ref f] crow), (f, { cls := .type "tuple", data := .seq #[.str (Str.ofString "ping") tf] })]) (fx := []) (any_el w row f crow tf [] true rfl) (any_fl w row f crow tf [] true rfl) (put_frames_ping_g w row f crow tf rfl) (.head _) (.tail _ (.head _)) B F XK N T hk h1 h2 C hn8 HD hX hO (fun e => h0.1 (e ▸ .head _)) (fun q hq e => h0.1 (e ▸ .tail _ (List.mem_map_of_mem (f := fun q : Addr × Obj => (q.1 : Nat)) hq))) ret
theorem seal_ack2 {rl rp : Addr} {crl : Nat} {tf1 tf2 tf3 : Tok} {D : Deeds} 
    {a : Addr} {s : Shared} {Q : Value → Shared → Prop}
    (B : Below A₀ base outer h₀) (F : Fr h₀ L s.heap m) (XK : (hd.heap_1 w.params).In h₀) (N : News h₀ L s.heap news) (T : Top p loose mean mg mb h₀) (hk : cs.kind = .function) (h1 : dp + 40 < recursionLimit) (h2 : un + 8 * 40 < cLine)
    (C : ConnIn w h₀ co ia nn X) (hn8 : nn ≤ 7) (HD : DeedsN h₀ X dvs D) (hX : ∀ q ∈ X, q ∈ news) (hO : ∀ q ∈ ([(da, dictOf [⟨PyData.keyHash w.params (Str.ofString "own"), .str (Str.ofString "own") k1, .int own t1⟩, ⟨PyData.keyHash w.params (Str.ofString "peer"), .str (Str.ofString "peer") k2, .int peer t2⟩, ⟨PyData.keyHash w.params (Str.ofString "since"), .str (Str.ofString "since") k3, optV sv ts⟩, ⟨PyData.keyHash w.params (Str.ofString "has_asked"), .str (Str.ofString "has_asked") k4, .bool asked⟩] 4), (ia, instObj 85 da), (row, listOf #[.ref f] crow), (f, { cls := .type "tuple", data := .seq #[.str (Str.ofString "ack") tf, .int 0 tf1, .ref rl, .none] }), (rl, listOf #[.ref rp] crl), (rp, { cls := .type "tuple", data := .seq #[.int 0 tf2, .int 0 tf3] })] : List (Addr × Obj)), q ∈ news ∧ ∀ p ∈ X, @Ne Nat p.1 q.1) (hnd : ([da, ia, row, f, rl, rp] : List Nat).Nodup)
    (ret : ∀ v h' tk' ts' X', Fr h₀ L h' m → News h₀ L h' ((da, dictOf [⟨PyData.keyHash w.params (Str.ofString "own"), .str (Str.ofString "own") k1, .int own t1⟩, ⟨PyData.keyHash w.params (Str.ofString "peer"), .str (Str.ofString "peer") k2, .int peer t2⟩, ⟨PyData.keyHash w.params (Str.ofString "since"), .str (Str.ofString "since") k3, optV (sentS false asked sv now) ts'⟩, ⟨PyData.keyHash w.params (Str.ofString "has_asked"), .str (Str.ofString "has_asked") k4, .bool (false || asked)⟩] 4) :: (butOf (da :: X.map (·.1)) news ++ X')) → ConnIn w h₀ co ia (nn + 1) X' → DeedsN h₀ X' dvs D → (∀ q ∈ X, (∀ es n, q.2.data ≠ .dict es n) → q ∈ X') → (∀ p ∈ X', @Ne Nat p.1 da) → (∀ q ∈ butOf (da :: X.map (·.1)) news, ∀ p ∈ X', @Ne Nat p.1 q.1) → Q v { s with heap := h', toks := tk' }) :
    wpG (model PR w) (ktrTop dp un gd cn cs L a ccd cl outer) (call (.ref 351) [.ref co, .str (Str.ofString "application") tsp, .ref row, .int now tn]) Q E s := by
  have hq2 : ∀ q ∈ ([(row, listOf #[.ref f] crow), (f, { cls := .type "tuple", data := .seq (.str (kindOf9 false) tf :: [.int 0 tf1, .ref rl, .none]).toArray })] : List (Addr × Obj)), q ∈ ([(row, listOf #[.ref f] crow), (f, { cls := .type "tuple", data := .seq #[.str (Str.ofString "ack") tf, .int 0 tf1, .ref rl, .none] }), (rl, listOf #[.ref rp] crl), (rp, { cls := .type "tuple", data := .seq #[.int 0 tf2, .int 0 tf3] })] : List (Addr × Obj)) := need_cons (.head _) (need_cons (.tail _ (.head _)) need_nil)
  have h0 := List.nodup_cons.mp hnd
  exact seal_g false 5 5 (.inr ⟨rfl, rfl⟩) (FO := [(row, listOf #[.ref f] crow), (f, { cls := .type "tuple", data := .seq #[.str (Str.ofString "ack") tf, .int 0 tf1, .ref rl, .none] }), (rl, listOf #[.ref rp] crl), (rp, { cls := .type "tuple", data := .seq #[.int 0 tf2, .int 0 tf3] })]) (fx := [.int 0 tf1, .ref rl, .none]) (pureM_more (any_el w row f crow tf [.int 0 tf1, .ref rl, .none] false rfl) fun q hq => hq2 q hq) (pureM_more (any_fl w row f crow tf [.int 0 tf1, .ref rl, .none] false rfl) fun q hq => hq2 q hq) (put_frames_ack_g w row crow f rl rp tf tf1 tf2 tf3 crl rfl) (.head _) (.tail _ (.head _)) B F XK N T hk h1 h2 C hn8 HD hX hO (fun e => h0.1 (e ▸ .head _)) (fun q hq e => h0.1 (e ▸ .tail _ (List.mem_map_of_mem (f := fun q : Addr × Obj => (q.1 : Nat)) hq))) ret
theorem received2 (w : World) (ia da : Addr) (k1 k2 k3 k4 t1 t2 ts : Tok) (own peer : Int) (asked : Bool) (sv : Option Int) (now : Int) (tn : Tok) : RW = RW → UpdM w 4 54 da (dictOf [⟨PyData.keyHash w.params (Str.ofString "own"), .str (Str.ofString "own") k1, .int own t1⟩, ⟨PyData.keyHash w.params (Str.ofString "peer"), .str (Str.ofString "peer") k2, .int peer t2⟩, ⟨PyData.keyHash w.params (Str.ofString "since"), .str (Str.ofString "since") k3, optV sv ts⟩, ⟨PyData.keyHash w.params (Str.ofString "has_asked"), .str (Str.ofString "has_asked") k4, .bool asked⟩] 4) [(ia, instObj 85 da)] [.ref ia, .int now tn] (fun _ o9 => o9 = dictOf [⟨PyData.keyHash w.params (Str.ofString "own"), .str (Str.ofString "own") k1, .int own t1⟩, ⟨PyData.keyHash w.params (Str.ofString "peer"), .str (Str.ofString "peer") k2, .int peer t2⟩, ⟨PyData.keyHash w.params (Str.ofString "since"), .str (Str.ofString "since") k3, optV (some now) tn⟩, ⟨PyData.keyHash w.params (Str.ofString "has_asked"), .str (Str.ofString "has_asked") k4, .bool false⟩] 4) := on_received_c w ia da k1 k2 k3 k4 t1 t2 ts own peer asked sv now tn
theorem ob_nil : ∀ q ∈ ([] : List (Addr × Obj)), q ∈ news ∧ ∀ p ∈ X, @Ne Nat p.1 q.1 := fun _ h => nomatch h
theorem ob_cons {a : Addr} (h : (a, o) ∈ news) (hx : ∀ p ∈ X, @Ne Nat p.1 a) (hl : ∀ q ∈ l, q ∈ news ∧ ∀ p ∈ X, @Ne Nat p.1 q.1) : ∀ q ∈ (a, o) :: l, q ∈ news ∧ ∀ p ∈ X, @Ne Nat p.1 q.1 := fun x hx' => by
  rcases List.mem_cons.mp hx' with rfl | hx'
  · exact ⟨h, hx⟩
  · exact hl x hx'
theorem ap_lt {a : Addr} (h : ∀ p ∈ X, p.1 < a) : ∀ p ∈ X, @Ne Nat p.1 a := fun p hp => Nat.ne_of_lt (h p hp)
def AlOk (d : Addr × Obj) (X news : List (Addr × Obj)) (l : List (Addr × Obj)) : Prop := ∀ q ∈ l, q = d ∨ (q ∈ news ∧ @Ne Nat q.1 d.1 ∧ ∀ p ∈ X, @Ne Nat p.1 q.1)
theorem al_nil {d : Addr × Obj} : AlOk d X news [] := fun _ h => nomatch h
theorem al_self {d : Addr × Obj} (h : AlOk d X news l) : AlOk d X news (d :: l) := fun x hx => by
  rcases List.mem_cons.mp hx with rfl | hx
  · exact .inl rfl
  · exact h x hx
theorem al_cons {d : Addr × Obj} {a : Addr} (h1 : (a, o) ∈ news) (h2 : @Ne Nat a d.1) (h3 : ∀ p ∈ X, @Ne Nat p.1 a) (h : AlOk d X news l) : AlOk d X news ((a, o) :: l) := fun x hx => by
  rcases List.mem_cons.mp hx with rfl | hx
  · exact .inr ⟨h1, h2, h3⟩
  · exact h x hx
theorem after_seal {d : Addr × Obj} (N : News h₀ L h (d :: (butOf (d.1 :: X.map (·.1)) news ++ X'))) (hl : AlOk d X news l) : News h₀ L h (l ++ X') := fun q hq => by
  rcases List.mem_append.mp hq with hq | hq
  · rcases hl q hq with rfl | ⟨h1, h2, h3⟩
    · exact N _ (List.Mem.head _)
    · refine N q (List.mem_cons_of_mem _ (List.mem_append_left _ (butOf_mem.mpr ⟨h1, fun hm => ?_⟩)))
      rcases List.mem_cons.mp hm with e | hm
      · exact h2 e
      · obtain ⟨p, hp, e⟩ := List.mem_map.mp hm
        exact h3 p hp e
  · exact N q (List.mem_cons_of_mem _ (List.mem_append_right _ hq))
theorem ap_seal {a : Addr} (ap : ∀ q ∈ butOf (da :: X.map (·.1)) news, ∀ p ∈ X', @Ne Nat p.1 q.1) (h1 : (a, o) ∈ news) (h2 : @Ne Nat a da) (h3 : ∀ p ∈ X, @Ne Nat p.1 a) : ∀ p ∈ X', @Ne Nat p.1 a := ap (a, o) (butOf_mem.mpr ⟨h1, fun hm => by
  rcases List.mem_cons.mp hm with e | hm
  · exact h2 e
  · obtain ⟨p, hp, e⟩ := List.mem_map.mp hm
    exact h3 p hp e⟩)
theorem ap_cons {a : Addr} (h : @Ne Nat q.1 a) (hx : ∀ p ∈ X, @Ne Nat p.1 a) : ∀ p ∈ q :: X, @Ne Nat p.1 a := fun p hp => by
  rcases List.mem_cons.mp hp with rfl | hp
  · exact h
  · exact hx p hp
theorem tab_surv (h : ∃ ps, ((674 : Addr), tabObj ps) ∈ X) (sv : ∀ q ∈ X, (∀ es n, q.2.data ≠ .dict es n) → q ∈ X') : ∃ ps, ((674 : Addr), tabObj ps) ∈ X' := h.elim fun ps hp => ⟨ps, sv _ hp fun _ _ e => nomatch e⟩
set_option genInjectivity false in
set_option genSizeOf false in
structure LJV where
  (now k : Int)
  (u4 t : Tok)
  (c1 cD : Nat)
  (sv : Option Int)
  (asked : Bool)
  (ts : Tok)
  (X : List (Addr × Obj))
  (dvs : List Value)
  (Dd : Deeds)
  (nn : Nat)
  (tv sv9 : Option Value)
theorem LZ_rows3 : True := by
  (k_with "call ref" => (first | ((try dsimp only [List.cons_append, List.nil_append]); (with_reducible show wpAny _ _ (call (Value.ref 672) [Value.ref _, Value.int _ _]) _ _ _); k_dflt ((repeat (rename (@LT.lt _ _ _ _ ∧ _) => hh9; obtain ⟨hh8, hh7⟩ := hh9)); (refine take_use (take_c _ rfl) (by k_asm) (by k_asm) (by k_asm) (by k_asm) (by k_asm) (by first | exact rfl | assumption) (by k_room) (by k_units) (by k_updF) (by k_mem) (by assumption) (by first | exact List.length_take_le _ _ | omega) (by omega) (by first | decide | omega) (by k_ne) ?_); intro r9 h9 tk9 t9 c9 tr9 r0 r1 F9 N9; (try dsimp only); (try dsimp only at N9); (try k_fold))) | (fail "x")))
  (k_with "CompSrc" => (k_here; k_dflt (refine LCg.CompSrc.range (by rfl) (by k_asm) (by k_asm) (by assumption) (by first | decide | rfl) (by first | rfl | decide) (by first | size_fits | exact Nat.le_of_ble_eq_true rfl) ?_; intro gw'; lcg_lit)))
  (k_with "exec Assign cons ListComp" => (k_here; (with_reducible show wpAny _ _ (exec (Stmt.Assign [Expr.Tuple _ _ _] _ _) _) _ _ _); k_dflt (refine Assign_Tuple ?_)))
  (k_with "k_ne" => (first | (refine neN ?_; (try dsimp only); first | assumption | exact Ne.symm (by assumption) | exact Nat.ne_of_lt (by assumption) | exact Nat.ne_of_gt (by assumption)) | (refine neN ?_; (try dsimp only); (repeat (rename (@Ne Nat _ _) => hh9; clear hh9)); omega)))
  (k_with "CompEnd" => (k_dflt lcg_end))
  (k_with "CompRest" => ((with_unfolding_all first
      | (refine LCg.CompRest.succ ?_; intro vw' Iw' oIw' Cw' oCw' Dw' mw' hw' tkw' Ew' hvw' hCw' hxw' Fw' Nw' offw' new'; (first | lcg_open hvw' | (obtain ⟨t9', hv9'⟩ := hvw'; subst hv9')); (k_dflt ((refine off_all offw' ?_); (repeat ((with_reducible show OffK _ _ _ (_ :: _) _); intro _ _ _)); (first | (with_reducible refine offk_nil ?_) | (with_reducible refine offk_tail (by (repeat (first | exact offw' | refine off_tl ?_))) ?_; intro _)); (try clear offw'))); (try (refine and3 new' ?_; intro _ _ _; clear new')); (repeat (rename (_ ∧ _) => hh9; obtain ⟨hh8, hh7⟩ := hh9)))
      | refine LCg.CompRest.zero ?_)))
  (k_with "eval ListComp" => (k_here; (with_reducible show wpAny _ _ (eval (Expr.ListComp (Expr.Name _ _) _ _ _) _) _ _ _); k_dflt (refine ListComp_TT (by k_asm) (by with_unfolding_all rfl) (by decide) (by rfl) (by decide) (by rfl) ?_)))
  (k_with "TupSrc" => (k_here; k_dflt (refine TupSrc.intro (by rfl) (by k_asm) (by k_asm) (by k_mem) (by first | size_fits | exact Nat.le_of_ble_eq_true rfl) ?_); intro gw'; first | (unfold RestTT; lct_lit) | (unfold RestUT; lcg_lit)))
  (k_with "CompRestT" => ((with_unfolding_all first
      | (refine LCt.CompRestT.succ ?_; intro vw' Iw' oIw' Cw' oCw' Dw' mw' hw' tkw' Ew' hvw' hCw' hxw' Fw' Nw' offw' new'; (first | lcg_open hvw' | (obtain ⟨t9', hv9'⟩ := hvw'; subst hv9')); (k_dflt ((refine off_all offw' ?_); (repeat ((with_reducible show OffK _ _ _ (_ :: _) _); intro _ _ _)); (first | (with_reducible refine offk_nil ?_) | (with_reducible refine offk_tail (by (repeat (first | exact offw' | refine off_tl ?_))) ?_; intro _)); (try clear offw'))); (try (refine and3 new' ?_; intro _ _ _; clear new')); (repeat (rename (_ ∧ _) => hh9; obtain ⟨hh8, hh7⟩ := hh9)))
      | refine LCt.CompRestT.zero ?_)))
  (k_with "call ref" => (first | ((try dsimp only [List.cons_append, List.nil_append]); (with_reducible show wpAny _ _ (call (Value.ref 85) [Value.int _ _, Value.int _ _, Value.none]) _ _ _); k_dflt ((refine idle_new2 _ _ _ _ rfl _ _ _ _ _ _ _ _ _ _ _ _ _ _ _ _ _ _ _ _ _ _ _ (by k_asm) (by k_asm) (by k_asm) (by k_asm) (by k_asm) (by first | exact rfl | assumption) (by k_room) (by k_units) ?_); intro ia9 da9 k19 k29 k39 k49 h9 tk9 F9 N9 l1 o2; (try k_lt l1); (replace o2 := ltN o2); (try dsimp only); (try dsimp only at N9); (try k_fold))) | (fail "x")))
  (k_with "call ref" => (first | ((try dsimp only [List.cons_append, List.nil_append]); (with_reducible show wpAny _ _ (call (Value.ref 679) [Value.ref _]) _ _ _); k_dflt ((refine state_use2 (l := restOf [((674 : Addr), tabObj #[])] _) (by k_asm) (by k_asm) (by k_asm) (by k_asm) (by k_asm) (by first | exact rfl | assumption) (by k_room) (by k_units) (by k_mem) (by assumption) rest674 ?_); intro co9 h9 tk9 X9 ps9 F9 N9 C9 tb9 ap9; (try dsimp only); (try k_fold))) | (fail "x")))
  (k_with "call ref" => (first | ((try dsimp only [List.cons_append, List.nil_append]); (with_reducible show wpAny _ _ (call (Value.ref 47) [Value.ref _, Value.int _ _]) _ _ _); k_dflt ((refine UpdM.use (tell_peer_c _ _ _ _ _ _ _ _ _ _ _ _ _ _ _ _ rfl) (by k_asm) (by k_asm) (by k_asm) (by k_asm) (by k_asm) (by first | exact rfl | assumption) (by k_room) (by k_units) (by k_updF) (by (repeat (first | exact need2_nil | (refine need2_cons (by k_mem) (by k_ne) ?_)))) ?_); intro v9 o9 h9 tk9 F9 N9 P9; subst P9; (try dsimp only); (try dsimp only at N9); (try k_fold))) | (fail "x")))
  (k_with "call ref" => (first | ((try dsimp only [List.cons_append, List.nil_append]); (with_reducible show wpAny _ _ (call (Value.ref 689) [Value.ref _, Value.ref _, _, Value.int _ _, Value.int _ _]) _ _ _); k_dflt ((refine right_use (by k_asm) (by k_asm) (by k_asm) (by k_asm) (by k_asm) (by first | exact rfl | assumption) (by k_room) (by k_units) (by k_mem) (by k_mem) (by k_mem) (by first | exact deeds_nil | exact DeedsN.mono (by assumption) (by (repeat (first | exact sub_self | refine sub_tail ?_))) | assumption) (by first | exact lawSince_nil | assumption) (by first | exact Nat.zero_le _ | assumption) (by assumption) (by assumption) (by assumption) (by assumption) (by assumption) (by assumption) ?_); intro h9 tk9 F9 N9; (try dsimp only); (try dsimp only at N9); (try k_fold))) | (fail "x")))
  (k_with "call ref" => (first | ((try dsimp only [List.cons_append, List.nil_append]); (with_reducible show wpAny _ _ (call (Value.ref 54) [Value.ref _, Value.int _ _]) _ _ _); k_dflt ((show wpAny (model PR w) _ _ _ _ _); (show wpAny _ (ktrTop _ _ _ _ _ _ _ _ _ _) _ _ _ _); (with_reducible apply UpdM.use (received2 w ia da k1 k2 k3 k4 u1 u2 ts own peer asked sv nw v4 rfl)); (case B => k_asm); (case F => k_asm); (case X => k_asm); (case N => k_asm); (case T => k_asm); (case hk => first | exact rfl | assumption); (case h1 => k_room); (case h2 => k_units); (case hn => (repeat (first | exact need2_nil | (refine need2_cons (by k_mem) (by k_ne) ?_)))); (case U => k_updF); (case' ret => (intro v9 o9 h9 tk9 F9 N9 P9; subst P9; (try dsimp only); (try dsimp only at N9); (try k_fold))))) | (fail "x")))
  (k_with "wpG" => (first | ((try dsimp only [List.cons_append, List.nil_append]); (with_reducible show wpG _ _ (call (Value.ref 351) [Value.ref _, Value.str _ _, Value.ref _, Value.int _ _]) _ _ _); (with_reducible (rename News _ _ _ ((_, _) :: (_, { cls := _, data := .seq #[_] }) :: _) => Ng9)); k_dflt (((repeat (rename (@LT.lt _ _ _ _ ∧ _) => hh9; obtain ⟨hh8, hh7⟩ := hh9))); (refine seal_ping2 (by k_asm) (by k_asm) (by k_asm) (by k_asm) (by k_asm) (by first | exact rfl | assumption) (by k_room) (by k_units) (by assumption) (by assumption) (by assumption) (by (repeat (first | exact sub_self | refine sub_tail ?_))) (by (repeat (first | exact ob_nil | (refine ob_cons (by ((repeat ((fail_if_success (with_reducible apply mem_hd)); with_reducible apply mem_tl)); with_reducible apply mem_hd)) (by first | assumption | exact ap_lt2 (by assumption)) ?_)))) (by (simp only [List.nodup_cons, List.mem_cons, List.not_mem_nil, or_false, not_or, List.nodup_nil, and_true, not_false_eq_true]; (repeat' (refine And.intro ?_ ?_)) <;> first | assumption | exact Ne.symm (by assumption) | omega)) ?_); intro v9 h9 tk9 ts9 X9 F9 N9 C9 D9 sv9 ap9 aq9; (try dsimp only); (try k_fold))) | (fail "x")))
  (k_with "wpG" => (first | ((try dsimp only [List.cons_append, List.nil_append]); (with_reducible show wpG _ _ (call (Value.ref 351) [Value.ref _, Value.str _ _, Value.ref _, Value.int _ _]) _ _ _); (with_reducible (rename News _ _ _ ((_, _) :: (_, { cls := _, data := .seq #[_, _, _, _] }) :: _) => Ng9)); k_dflt (((repeat (rename (@LT.lt _ _ _ _ ∧ _) => hh9; obtain ⟨hh8, hh7⟩ := hh9))); (refine seal_ack2 (by k_asm) (by k_asm) (by k_asm) (by k_asm) (by k_asm) (by first | exact rfl | assumption) (by k_room) (by k_units) (by assumption) (by assumption) (by assumption) (by (repeat (first | exact sub_self | refine sub_tail ?_))) (by (repeat (first | exact ob_nil | (refine ob_cons (by ((repeat ((fail_if_success (with_reducible apply mem_hd)); with_reducible apply mem_tl)); with_reducible apply mem_hd)) (by first | assumption | exact ap_lt2 (by assumption)) ?_)))) (by (simp only [List.nodup_cons, List.mem_cons, List.not_mem_nil, or_false, not_or, List.nodup_nil, and_true, not_false_eq_true]; (repeat' (refine And.intro ?_ ?_)) <;> first | assumption | exact Ne.symm (by assumption) | omega)) ?_); intro v9 h9 tk9 ts9 X9 F9 N9 C9 D9 sv9 ap9 aq9; (try dsimp only); (try k_fold))) | (fail "x")))
  (k_with "wpG" => (k_dflt (refine g_Expr ?_ (by rfl) (by with_unfolding_all rfl))))
  (k_with "call builtin:list.append" => (k_here; (try dsimp only [List.cons_append, List.nil_append]); k_dflt ((repeat (rename (@LT.lt _ _ _ _ ∧ _) => hh9; obtain ⟨hh8, hh7⟩ := hh9)); (refine append_K (by k_asm) (by k_asm) (by k_upd) ?_ (by rw [List.size_toArray, PySem.sizeLine_eq]; omega)); intro h9 F9 N9; (try dsimp only))))
  (k_with "k_all" => (with_reducible assumption))
  trivial
def LJB (w : World) (h₀ : Heap) (L B S D C ia da co : Addr) (c2 : Nat) (ws : List Value) (o : Obj) (own peer probe now0 : Int) (u1 u2 u3 u40 tw k1 k2 k3 k4 : Tok) (m : Str → Option Value) (i : Nat) (m' : Str → Option Value) (news : List (Addr × Obj)) (now k : Int) (u4 t : Tok) (c1 cD : Nat) (sv : Option Int) (asked : Bool) (ts : Tok) (X : List (Addr × Obj)) (dvs : List Value) (Dd : Deeds) (nn : Nat) (tv sv9 : Option Value) : Prop := m' = (fun y => if y = Str.ofString "sort" then sv9 else if y = Str.ofString "now" then some (.int now u4) else if y = Str.ofString "turn" then tv else if y = Str.ofString "conn" then some (.ref co) else if y = Str.ofString "idle" then some (.ref ia) else if y = Str.ofString "wait" then some (optV (waitOf own peer probe) tw) else if y = Str.ofString "now" then some (.int now0 u40) else if y = Str.ofString "probe" then some (.int probe u3) else if y = Str.ofString "peer" then some (.int peer u2) else if y = Str.ofString "own" then some (.int own u1) else if y = Str.ofString "deeds" then some (.ref D) else m y) ∧ news = [(da, dictOf [⟨PyData.keyHash w.params (Str.ofString "own"), .str (Str.ofString "own") k1, .int own u1⟩, ⟨PyData.keyHash w.params (Str.ofString "peer"), .str (Str.ofString "peer") k2, .int peer u2⟩, ⟨PyData.keyHash w.params (Str.ofString "since"), .str (Str.ofString "since") k3, optV sv ts⟩, ⟨PyData.keyHash w.params (Str.ofString "has_asked"), .str (Str.ofString "has_asked") k4, .bool asked⟩] 4), (ia, instObj 85 da), (B, listOf #[.ref S, .int k t] c1), (S, listOf ws.toArray c2), (D, listOf dvs.toArray cD), (C, o)] ++ X ∧ Dd.length = i ∧ nn ≤ i ∧ lawSince Dd = (sv, asked) ∧ ConnIn w h₀ co ia nn X ∧ DeedsN h₀ X dvs Dd ∧ (∃ ps, ((674 : Addr), tabObj ps) ∈ X) ∧ 0 ≤ k ∧ (∀ p ∈ X, @Ne Nat p.1 da) ∧ (∀ p ∈ X, @Ne Nat p.1 ia) ∧ (∀ p ∈ X, @Ne Nat p.1 B) ∧ (∀ p ∈ X, @Ne Nat p.1 S) ∧ (∀ p ∈ X, @Ne Nat p.1 D) ∧ (∀ p ∈ X, @Ne Nat p.1 C)
def LJ (w : World) (h₀ : Heap) (L B S D C ia da co : Addr) (c2 : Nat) (ws : List Value) (o : Obj) (own peer probe now0 : Int) (u1 u2 u3 u40 tw k1 k2 k3 k4 : Tok) (m : Str → Option Value) (i : Nat) (m' : Str → Option Value) (news : List (Addr × Obj)) : Prop := ∃ e : LJV, LJB w h₀ L B S D C ia da co c2 ws o own peer probe now0 u1 u2 u3 u40 tw k1 k2 k3 k4 m i m' news e.now e.k e.u4 e.t e.c1 e.cD e.sv e.asked e.ts e.X e.dvs e.Dd e.nn e.tv e.sv9
theorem LJ.intro {D : Addr} (now k : Int) (u4 t : Tok) (c1 cD : Nat) (sv : Option Int) (asked : Bool) (ts : Tok) (X : List (Addr × Obj)) (dvs : List Value) (Dd : Deeds) (nn : Nat) (tv sv9 : Option Value) (a90 : Dd.length = i) (a91 : nn ≤ i) (a92 : lawSince Dd = (sv, asked)) (a93 : ConnIn w h₀ co ia nn X) (a94 : DeedsN h₀ X dvs Dd) (a95 : (∃ ps, ((674 : Addr), tabObj ps) ∈ X)) (a96 : 0 ≤ k) (a97 : (∀ p ∈ X, @Ne Nat p.1 da)) (a98 : (∀ p ∈ X, @Ne Nat p.1 ia)) (a99 : (∀ p ∈ X, @Ne Nat p.1 B)) (a910 : (∀ p ∈ X, @Ne Nat p.1 S)) (a911 : (∀ p ∈ X, @Ne Nat p.1 D)) (a912 : (∀ p ∈ X, @Ne Nat p.1 C)) : LJ w h₀ L B S D C ia da co c2 ws o own peer probe now0 u1 u2 u3 u40 tw k1 k2 k3 k4 m i (fun y => if y = Str.ofString "sort" then sv9 else if y = Str.ofString "now" then some (.int now u4) else if y = Str.ofString "turn" then tv else if y = Str.ofString "conn" then some (.ref co) else if y = Str.ofString "idle" then some (.ref ia) else if y = Str.ofString "wait" then some (optV (waitOf own peer probe) tw) else if y = Str.ofString "now" then some (.int now0 u40) else if y = Str.ofString "probe" then some (.int probe u3) else if y = Str.ofString "peer" then some (.int peer u2) else if y = Str.ofString "own" then some (.int own u1) else if y = Str.ofString "deeds" then some (.ref D) else m y) ([(da, dictOf [⟨PyData.keyHash w.params (Str.ofString "own"), .str (Str.ofString "own") k1, .int own u1⟩, ⟨PyData.keyHash w.params (Str.ofString "peer"), .str (Str.ofString "peer") k2, .int peer u2⟩, ⟨PyData.keyHash w.params (Str.ofString "since"), .str (Str.ofString "since") k3, optV sv ts⟩, ⟨PyData.keyHash w.params (Str.ofString "has_asked"), .str (Str.ofString "has_asked") k4, .bool asked⟩] 4), (ia, instObj 85 da), (B, listOf #[.ref S, .int k t] c1), (S, listOf ws.toArray c2), (D, listOf dvs.toArray cD), (C, o)] ++ X) :=
  ⟨⟨now, k, u4, t, c1, cD, sv, asked, ts, X, dvs, Dd, nn, tv, sv9⟩, rfl, rfl, a90, a91, a92, a93, a94, a95, a96, a97, a98, a99, a910, a911, a912⟩
theorem LJ.elim {D : Addr} {G9 : (Str → Option Value) → List (Addr × Obj) → Prop} (hp : LJ w h₀ L B S D C ia da co c2 ws o own peer probe now0 u1 u2 u3 u40 tw k1 k2 k3 k4 m i m' news) (kk99 : ∀ (now k : Int) (u4 t : Tok) (c1 cD : Nat) (sv : Option Int) (asked : Bool) (ts : Tok) (X : List (Addr × Obj)) (dvs : List Value) (Dd : Deeds) (nn : Nat) (tv sv9 : Option Value), (Dd.length = i) → (nn ≤ i) → (lawSince Dd = (sv, asked)) → (ConnIn w h₀ co ia nn X) → (DeedsN h₀ X dvs Dd) → ((∃ ps, ((674 : Addr), tabObj ps) ∈ X)) → (0 ≤ k) → ((∀ p ∈ X, @Ne Nat p.1 da)) → ((∀ p ∈ X, @Ne Nat p.1 ia)) → ((∀ p ∈ X, @Ne Nat p.1 B)) → ((∀ p ∈ X, @Ne Nat p.1 S)) → ((∀ p ∈ X, @Ne Nat p.1 D)) → ((∀ p ∈ X, @Ne Nat p.1 C)) → G9 (fun y => if y = Str.ofString "sort" then sv9 else if y = Str.ofString "now" then some (.int now u4) else if y = Str.ofString "turn" then tv else if y = Str.ofString "conn" then some (.ref co) else if y = Str.ofString "idle" then some (.ref ia) else if y = Str.ofString "wait" then some (optV (waitOf own peer probe) tw) else if y = Str.ofString "now" then some (.int now0 u40) else if y = Str.ofString "probe" then some (.int probe u3) else if y = Str.ofString "peer" then some (.int peer u2) else if y = Str.ofString "own" then some (.int own u1) else if y = Str.ofString "deeds" then some (.ref D) else m y) ([(da, dictOf [⟨PyData.keyHash w.params (Str.ofString "own"), .str (Str.ofString "own") k1, .int own u1⟩, ⟨PyData.keyHash w.params (Str.ofString "peer"), .str (Str.ofString "peer") k2, .int peer u2⟩, ⟨PyData.keyHash w.params (Str.ofString "since"), .str (Str.ofString "since") k3, optV sv ts⟩, ⟨PyData.keyHash w.params (Str.ofString "has_asked"), .str (Str.ofString "has_asked") k4, .bool asked⟩] 4), (ia, instObj 85 da), (B, listOf #[.ref S, .int k t] c1), (S, listOf ws.toArray c2), (D, listOf dvs.toArray cD), (C, o)] ++ X)) : G9 m' news :=
  Exists.elim hp fun e hb => (congr (congrArg G9 hb.1) hb.2.1).mpr (kk99 e.now e.k e.u4 e.t e.c1 e.cD e.sv e.asked e.ts e.X e.dvs e.Dd e.nn e.tv e.sv9 hb.2.2.1 hb.2.2.2.1 hb.2.2.2.2.1 hb.2.2.2.2.2.1 hb.2.2.2.2.2.2.1 hb.2.2.2.2.2.2.2.1 hb.2.2.2.2.2.2.2.2.1 hb.2.2.2.2.2.2.2.2.2.1 hb.2.2.2.2.2.2.2.2.2.2.1 hb.2.2.2.2.2.2.2.2.2.2.2.1 hb.2.2.2.2.2.2.2.2.2.2.2.2.1 hb.2.2.2.2.2.2.2.2.2.2.2.2.2.1 hb.2.2.2.2.2.2.2.2.2.2.2.2.2.2)
set_option genInjectivity false in
set_option genSizeOf false in
structure T1V where
  (now k : Int)
  (u4 t : Tok)
  (c1 : Nat)
def T1B (w : World) (s : Shared) (h₀ : Heap) (L B S D C ia da co I : Addr) (oI : Obj) (c2 : Nat) (ws : List Value) (o : Obj) (own peer probe now0 : Int) (u1 u2 u3 u40 tw k1 k2 k3 k4 : Tok) (m : Str → Option Value) (cD : Nat) (sv : Option Int) (asked : Bool) (ts : Tok) (X : List (Addr × Obj)) (dvs : List Value) (tv sv9 : Option Value) (now k : Int) (u4 t : Tok) (c1 : Nat) (s' : Shared) : Prop := LawSt s h₀ L (fun y => if y = Str.ofString "sort" then sv9 else if y = Str.ofString "now" then some (.int now u4) else if y = Str.ofString "turn" then tv else if y = Str.ofString "conn" then some (.ref co) else if y = Str.ofString "idle" then some (.ref ia) else if y = Str.ofString "wait" then some (optV (waitOf own peer probe) tw) else if y = Str.ofString "now" then some (.int now0 u40) else if y = Str.ofString "probe" then some (.int probe u3) else if y = Str.ofString "peer" then some (.int peer u2) else if y = Str.ofString "own" then some (.int own u1) else if y = Str.ofString "deeds" then some (.ref D) else m y) ((I, oI) :: ([(da, dictOf [⟨PyData.keyHash w.params (Str.ofString "own"), .str (Str.ofString "own") k1, .int own u1⟩, ⟨PyData.keyHash w.params (Str.ofString "peer"), .str (Str.ofString "peer") k2, .int peer u2⟩, ⟨PyData.keyHash w.params (Str.ofString "since"), .str (Str.ofString "since") k3, optV sv ts⟩, ⟨PyData.keyHash w.params (Str.ofString "has_asked"), .str (Str.ofString "has_asked") k4, .bool asked⟩] 4), (ia, instObj 85 da), (B, listOf #[.ref S, .int k t] c1), (S, listOf ws.toArray c2), (D, listOf dvs.toArray cD), (C, o)] ++ X)) s' ∧ 0 ≤ k
def T1 (w : World) (s : Shared) (h₀ : Heap) (L B S D C ia da co I : Addr) (oI : Obj) (c2 : Nat) (ws : List Value) (o : Obj) (own peer probe now0 : Int) (u1 u2 u3 u40 tw k1 k2 k3 k4 : Tok) (m : Str → Option Value) (cD : Nat) (sv : Option Int) (asked : Bool) (ts : Tok) (X : List (Addr × Obj)) (dvs : List Value) (tv sv9 : Option Value) (s' : Shared) : Prop := ∃ e : T1V, T1B w s h₀ L B S D C ia da co I oI c2 ws o own peer probe now0 u1 u2 u3 u40 tw k1 k2 k3 k4 m cD sv asked ts X dvs tv sv9 e.now e.k e.u4 e.t e.c1 s'
theorem T1.intro {s : Shared} {D : Addr} (now k : Int) (u4 t : Tok) (c1 : Nat) (F9 : Fr h₀ L h9 (fun y => if y = Str.ofString "sort" then sv9 else if y = Str.ofString "now" then some (.int now u4) else if y = Str.ofString "turn" then tv else if y = Str.ofString "conn" then some (.ref co) else if y = Str.ofString "idle" then some (.ref ia) else if y = Str.ofString "wait" then some (optV (waitOf own peer probe) tw) else if y = Str.ofString "now" then some (.int now0 u40) else if y = Str.ofString "probe" then some (.int probe u3) else if y = Str.ofString "peer" then some (.int peer u2) else if y = Str.ofString "own" then some (.int own u1) else if y = Str.ofString "deeds" then some (.ref D) else m y)) (N9 : News h₀ L h9 ((I, oI) :: ([(da, dictOf [⟨PyData.keyHash w.params (Str.ofString "own"), .str (Str.ofString "own") k1, .int own u1⟩, ⟨PyData.keyHash w.params (Str.ofString "peer"), .str (Str.ofString "peer") k2, .int peer u2⟩, ⟨PyData.keyHash w.params (Str.ofString "since"), .str (Str.ofString "since") k3, optV sv ts⟩, ⟨PyData.keyHash w.params (Str.ofString "has_asked"), .str (Str.ofString "has_asked") k4, .bool asked⟩] 4), (ia, instObj 85 da), (B, listOf #[.ref S, .int k t] c1), (S, listOf ws.toArray c2), (D, listOf dvs.toArray cD), (C, o)] ++ X))) (a90 : 0 ≤ k) : CutP (T1 w s h₀ L B S D C ia da co I oI c2 ws o own peer probe now0 u1 u2 u3 u40 tw k1 k2 k3 k4 m cD sv asked ts X dvs tv sv9) .next { s with heap := h9, toks := tk9 } :=
  ⟨rfl, ⟨now, k, u4, t, c1⟩, ⟨h9, tk9, rfl, F9, N9⟩, a90⟩
theorem T1.elim {s : Shared} {D : Addr} {G9 : Shared → Prop} (hp : T1 w s h₀ L B S D C ia da co I oI c2 ws o own peer probe now0 u1 u2 u3 u40 tw k1 k2 k3 k4 m cD sv asked ts X dvs tv sv9 s') (kk99 : ∀ (now k : Int) (u4 t : Tok) (c1 : Nat) (h9 : Heap) (tk9 : Nat), Fr h₀ L h9 (fun y => if y = Str.ofString "sort" then sv9 else if y = Str.ofString "now" then some (.int now u4) else if y = Str.ofString "turn" then tv else if y = Str.ofString "conn" then some (.ref co) else if y = Str.ofString "idle" then some (.ref ia) else if y = Str.ofString "wait" then some (optV (waitOf own peer probe) tw) else if y = Str.ofString "now" then some (.int now0 u40) else if y = Str.ofString "probe" then some (.int probe u3) else if y = Str.ofString "peer" then some (.int peer u2) else if y = Str.ofString "own" then some (.int own u1) else if y = Str.ofString "deeds" then some (.ref D) else m y) → News h₀ L h9 ((I, oI) :: ([(da, dictOf [⟨PyData.keyHash w.params (Str.ofString "own"), .str (Str.ofString "own") k1, .int own u1⟩, ⟨PyData.keyHash w.params (Str.ofString "peer"), .str (Str.ofString "peer") k2, .int peer u2⟩, ⟨PyData.keyHash w.params (Str.ofString "since"), .str (Str.ofString "since") k3, optV sv ts⟩, ⟨PyData.keyHash w.params (Str.ofString "has_asked"), .str (Str.ofString "has_asked") k4, .bool asked⟩] 4), (ia, instObj 85 da), (B, listOf #[.ref S, .int k t] c1), (S, listOf ws.toArray c2), (D, listOf dvs.toArray cD), (C, o)] ++ X)) → (0 ≤ k) → G9 { s with heap := h9, toks := tk9 }) : G9 s' :=
  Exists.elim hp fun e hb => Exists.elim (show LawSt _ _ _ _ _ _ from hb.1) fun h9 h1 => Exists.elim h1 fun tk9 h2 => (congrArg G9 h2.1).mpr (kk99 e.now e.k e.u4 e.t e.c1 h9 tk9 h2.2.1 h2.2.2 hb.2)
set_option genInjectivity false in
set_option genSizeOf false in
structure T2V where
  (r k : Int)
  (ur t : Tok)
  (c1 : Nat)
def T2B (w : World) (s : Shared) (h₀ : Heap) (L B S D C ia da co I : Addr) (oI : Obj) (c2 : Nat) (ws : List Value) (o : Obj) (own peer probe now0 : Int) (u1 u2 u3 u40 tw k1 k2 k3 k4 : Tok) (m : Str → Option Value) (cD : Nat) (sv : Option Int) (asked : Bool) (ts : Tok) (X : List (Addr × Obj)) (dvs : List Value) (tv : Option Value) (now : Int) (u4 : Tok) (r k : Int) (ur t : Tok) (c1 : Nat) (s' : Shared) : Prop := LawSt s h₀ L (fun y => if y = Str.ofString "sort" then some (.int r ur) else if y = Str.ofString "now" then some (.int now u4) else if y = Str.ofString "turn" then tv else if y = Str.ofString "conn" then some (.ref co) else if y = Str.ofString "idle" then some (.ref ia) else if y = Str.ofString "wait" then some (optV (waitOf own peer probe) tw) else if y = Str.ofString "now" then some (.int now0 u40) else if y = Str.ofString "probe" then some (.int probe u3) else if y = Str.ofString "peer" then some (.int peer u2) else if y = Str.ofString "own" then some (.int own u1) else if y = Str.ofString "deeds" then some (.ref D) else m y) ((I, oI) :: ([(da, dictOf [⟨PyData.keyHash w.params (Str.ofString "own"), .str (Str.ofString "own") k1, .int own u1⟩, ⟨PyData.keyHash w.params (Str.ofString "peer"), .str (Str.ofString "peer") k2, .int peer u2⟩, ⟨PyData.keyHash w.params (Str.ofString "since"), .str (Str.ofString "since") k3, optV sv ts⟩, ⟨PyData.keyHash w.params (Str.ofString "has_asked"), .str (Str.ofString "has_asked") k4, .bool asked⟩] 4), (ia, instObj 85 da), (B, listOf #[.ref S, .int k t] c1), (S, listOf ws.toArray c2), (D, listOf dvs.toArray cD), (C, o)] ++ X)) s' ∧ 0 ≤ k ∧ 0 ≤ r ∧ r < 3
def T2 (w : World) (s : Shared) (h₀ : Heap) (L B S D C ia da co I : Addr) (oI : Obj) (c2 : Nat) (ws : List Value) (o : Obj) (own peer probe now0 : Int) (u1 u2 u3 u40 tw k1 k2 k3 k4 : Tok) (m : Str → Option Value) (cD : Nat) (sv : Option Int) (asked : Bool) (ts : Tok) (X : List (Addr × Obj)) (dvs : List Value) (tv : Option Value) (now : Int) (u4 : Tok) (s' : Shared) : Prop := ∃ e : T2V, T2B w s h₀ L B S D C ia da co I oI c2 ws o own peer probe now0 u1 u2 u3 u40 tw k1 k2 k3 k4 m cD sv asked ts X dvs tv now u4 e.r e.k e.ur e.t e.c1 s'
theorem T2.intro {s : Shared} {D : Addr} (r k : Int) (ur t : Tok) (c1 : Nat) (F9 : Fr h₀ L h9 (fun y => if y = Str.ofString "sort" then some (.int r ur) else if y = Str.ofString "now" then some (.int now u4) else if y = Str.ofString "turn" then tv else if y = Str.ofString "conn" then some (.ref co) else if y = Str.ofString "idle" then some (.ref ia) else if y = Str.ofString "wait" then some (optV (waitOf own peer probe) tw) else if y = Str.ofString "now" then some (.int now0 u40) else if y = Str.ofString "probe" then some (.int probe u3) else if y = Str.ofString "peer" then some (.int peer u2) else if y = Str.ofString "own" then some (.int own u1) else if y = Str.ofString "deeds" then some (.ref D) else m y)) (N9 : News h₀ L h9 ((I, oI) :: ([(da, dictOf [⟨PyData.keyHash w.params (Str.ofString "own"), .str (Str.ofString "own") k1, .int own u1⟩, ⟨PyData.keyHash w.params (Str.ofString "peer"), .str (Str.ofString "peer") k2, .int peer u2⟩, ⟨PyData.keyHash w.params (Str.ofString "since"), .str (Str.ofString "since") k3, optV sv ts⟩, ⟨PyData.keyHash w.params (Str.ofString "has_asked"), .str (Str.ofString "has_asked") k4, .bool asked⟩] 4), (ia, instObj 85 da), (B, listOf #[.ref S, .int k t] c1), (S, listOf ws.toArray c2), (D, listOf dvs.toArray cD), (C, o)] ++ X))) (a90 : 0 ≤ k) (a91 : 0 ≤ r) (a92 : r < 3) : CutP (T2 w s h₀ L B S D C ia da co I oI c2 ws o own peer probe now0 u1 u2 u3 u40 tw k1 k2 k3 k4 m cD sv asked ts X dvs tv now u4) .next { s with heap := h9, toks := tk9 } :=
  ⟨rfl, ⟨r, k, ur, t, c1⟩, ⟨h9, tk9, rfl, F9, N9⟩, a90, a91, a92⟩
theorem T2.elim {s : Shared} {D : Addr} {G9 : Shared → Prop} (hp : T2 w s h₀ L B S D C ia da co I oI c2 ws o own peer probe now0 u1 u2 u3 u40 tw k1 k2 k3 k4 m cD sv asked ts X dvs tv now u4 s') (kk99 : ∀ (r k : Int) (ur t : Tok) (c1 : Nat) (h9 : Heap) (tk9 : Nat), Fr h₀ L h9 (fun y => if y = Str.ofString "sort" then some (.int r ur) else if y = Str.ofString "now" then some (.int now u4) else if y = Str.ofString "turn" then tv else if y = Str.ofString "conn" then some (.ref co) else if y = Str.ofString "idle" then some (.ref ia) else if y = Str.ofString "wait" then some (optV (waitOf own peer probe) tw) else if y = Str.ofString "now" then some (.int now0 u40) else if y = Str.ofString "probe" then some (.int probe u3) else if y = Str.ofString "peer" then some (.int peer u2) else if y = Str.ofString "own" then some (.int own u1) else if y = Str.ofString "deeds" then some (.ref D) else m y) → News h₀ L h9 ((I, oI) :: ([(da, dictOf [⟨PyData.keyHash w.params (Str.ofString "own"), .str (Str.ofString "own") k1, .int own u1⟩, ⟨PyData.keyHash w.params (Str.ofString "peer"), .str (Str.ofString "peer") k2, .int peer u2⟩, ⟨PyData.keyHash w.params (Str.ofString "since"), .str (Str.ofString "since") k3, optV sv ts⟩, ⟨PyData.keyHash w.params (Str.ofString "has_asked"), .str (Str.ofString "has_asked") k4, .bool asked⟩] 4), (ia, instObj 85 da), (B, listOf #[.ref S, .int k t] c1), (S, listOf ws.toArray c2), (D, listOf dvs.toArray cD), (C, o)] ++ X)) → (0 ≤ k) → (0 ≤ r) → (r < 3) → G9 { s with heap := h9, toks := tk9 }) : G9 s' :=
  Exists.elim hp fun e hb => Exists.elim (show LawSt _ _ _ _ _ _ from hb.1) fun h9 h1 => Exists.elim h1 fun tk9 h2 => (congrArg G9 h2.1).mpr (kk99 e.r e.k e.ur e.t e.c1 h9 tk9 h2.2.1 h2.2.2 hb.2.1 hb.2.2.1 hb.2.2.2)
set_option genInjectivity false in
set_option genSizeOf false in
structure T3V where
  (sv : Option Int)
  (asked : Bool)
  (ts : Tok)
  (X : List (Addr × Obj))
  (nn' : Nat)
def T3B (w : World) (s : Shared) (h₀ : Heap) (L B S D C ia da co I : Addr) (oI : Obj) (c2 : Nat) (ws : List Value) (o : Obj) (own peer probe now0 : Int) (u1 u2 u3 u40 tw k1 k2 k3 k4 : Tok) (m : Str → Option Value) (cD c1 : Nat) (dvs : List Value) (tv : Option Value) (now r k : Int) (u4 ur t : Tok) (Dd : Deeds) (nn : Nat) (sv : Option Int) (asked : Bool) (ts : Tok) (X : List (Addr × Obj)) (nn' : Nat) (s' : Shared) : Prop := LawSt s h₀ L (fun y => if y = Str.ofString "sort" then some (.int r ur) else if y = Str.ofString "now" then some (.int now u4) else if y = Str.ofString "turn" then tv else if y = Str.ofString "conn" then some (.ref co) else if y = Str.ofString "idle" then some (.ref ia) else if y = Str.ofString "wait" then some (optV (waitOf own peer probe) tw) else if y = Str.ofString "now" then some (.int now0 u40) else if y = Str.ofString "probe" then some (.int probe u3) else if y = Str.ofString "peer" then some (.int peer u2) else if y = Str.ofString "own" then some (.int own u1) else if y = Str.ofString "deeds" then some (.ref D) else m y) ((I, oI) :: ([(da, dictOf [⟨PyData.keyHash w.params (Str.ofString "own"), .str (Str.ofString "own") k1, .int own u1⟩, ⟨PyData.keyHash w.params (Str.ofString "peer"), .str (Str.ofString "peer") k2, .int peer u2⟩, ⟨PyData.keyHash w.params (Str.ofString "since"), .str (Str.ofString "since") k3, optV sv ts⟩, ⟨PyData.keyHash w.params (Str.ofString "has_asked"), .str (Str.ofString "has_asked") k4, .bool asked⟩] 4), (ia, instObj 85 da), (B, listOf #[.ref S, .int k t] c1), (S, listOf ws.toArray c2), (D, listOf dvs.toArray cD), (C, o)] ++ X)) s' ∧ lawSince (Dd ++ [(now, r)]) = (sv, asked) ∧ nn' ≤ nn + 1 ∧ ConnIn w h₀ co ia nn' X ∧ DeedsN h₀ X dvs Dd ∧ (∃ ps, ((674 : Addr), tabObj ps) ∈ X) ∧ (∀ p ∈ X, @Ne Nat p.1 da) ∧ (∀ p ∈ X, @Ne Nat p.1 ia) ∧ (∀ p ∈ X, @Ne Nat p.1 B) ∧ (∀ p ∈ X, @Ne Nat p.1 S) ∧ (∀ p ∈ X, @Ne Nat p.1 D) ∧ (∀ p ∈ X, @Ne Nat p.1 C) ∧ (∀ p ∈ X, @Ne Nat p.1 I)
def T3 (w : World) (s : Shared) (h₀ : Heap) (L B S D C ia da co I : Addr) (oI : Obj) (c2 : Nat) (ws : List Value) (o : Obj) (own peer probe now0 : Int) (u1 u2 u3 u40 tw k1 k2 k3 k4 : Tok) (m : Str → Option Value) (cD c1 : Nat) (dvs : List Value) (tv : Option Value) (now r k : Int) (u4 ur t : Tok) (Dd : Deeds) (nn : Nat) (s' : Shared) : Prop := ∃ e : T3V, T3B w s h₀ L B S D C ia da co I oI c2 ws o own peer probe now0 u1 u2 u3 u40 tw k1 k2 k3 k4 m cD c1 dvs tv now r k u4 ur t Dd nn e.sv e.asked e.ts e.X e.nn' s'
theorem T3.intro {s : Shared} {D : Addr} {r : Int} {t : Tok} (sv : Option Int) (asked : Bool) (ts : Tok) (X : List (Addr × Obj)) (nn' : Nat) (F9 : Fr h₀ L h9 (fun y => if y = Str.ofString "sort" then some (.int r ur) else if y = Str.ofString "now" then some (.int now u4) else if y = Str.ofString "turn" then tv else if y = Str.ofString "conn" then some (.ref co) else if y = Str.ofString "idle" then some (.ref ia) else if y = Str.ofString "wait" then some (optV (waitOf own peer probe) tw) else if y = Str.ofString "now" then some (.int now0 u40) else if y = Str.ofString "probe" then some (.int probe u3) else if y = Str.ofString "peer" then some (.int peer u2) else if y = Str.ofString "own" then some (.int own u1) else if y = Str.ofString "deeds" then some (.ref D) else m y)) (N9 : News h₀ L h9 ((I, oI) :: ([(da, dictOf [⟨PyData.keyHash w.params (Str.ofString "own"), .str (Str.ofString "own") k1, .int own u1⟩, ⟨PyData.keyHash w.params (Str.ofString "peer"), .str (Str.ofString "peer") k2, .int peer u2⟩, ⟨PyData.keyHash w.params (Str.ofString "since"), .str (Str.ofString "since") k3, optV sv ts⟩, ⟨PyData.keyHash w.params (Str.ofString "has_asked"), .str (Str.ofString "has_asked") k4, .bool asked⟩] 4), (ia, instObj 85 da), (B, listOf #[.ref S, .int k t] c1), (S, listOf ws.toArray c2), (D, listOf dvs.toArray cD), (C, o)] ++ X))) (a90 : lawSince (Dd ++ [(now, r)]) = (sv, asked)) (a91 : nn' ≤ nn + 1) (a92 : ConnIn w h₀ co ia nn' X) (a93 : DeedsN h₀ X dvs Dd) (a94 : (∃ ps, ((674 : Addr), tabObj ps) ∈ X)) (a95 : (∀ p ∈ X, @Ne Nat p.1 da)) (a96 : (∀ p ∈ X, @Ne Nat p.1 ia)) (a97 : (∀ p ∈ X, @Ne Nat p.1 B)) (a98 : (∀ p ∈ X, @Ne Nat p.1 S)) (a99 : (∀ p ∈ X, @Ne Nat p.1 D)) (a910 : (∀ p ∈ X, @Ne Nat p.1 C)) (a911 : (∀ p ∈ X, @Ne Nat p.1 I)) : CutP (T3 w s h₀ L B S D C ia da co I oI c2 ws o own peer probe now0 u1 u2 u3 u40 tw k1 k2 k3 k4 m cD c1 dvs tv now r k u4 ur t Dd nn) .next { s with heap := h9, toks := tk9 } :=
  ⟨rfl, ⟨sv, asked, ts, X, nn'⟩, ⟨h9, tk9, rfl, F9, N9⟩, a90, a91, a92, a93, a94, a95, a96, a97, a98, a99, a910, a911⟩
theorem T3.elim {s : Shared} {D : Addr} {r : Int} {t : Tok} {G9 : Shared → Prop} (hp : T3 w s h₀ L B S D C ia da co I oI c2 ws o own peer probe now0 u1 u2 u3 u40 tw k1 k2 k3 k4 m cD c1 dvs tv now r k u4 ur t Dd nn s') (kk99 : ∀ (sv : Option Int) (asked : Bool) (ts : Tok) (X : List (Addr × Obj)) (nn' : Nat) (h9 : Heap) (tk9 : Nat), Fr h₀ L h9 (fun y => if y = Str.ofString "sort" then some (.int r ur) else if y = Str.ofString "now" then some (.int now u4) else if y = Str.ofString "turn" then tv else if y = Str.ofString "conn" then some (.ref co) else if y = Str.ofString "idle" then some (.ref ia) else if y = Str.ofString "wait" then some (optV (waitOf own peer probe) tw) else if y = Str.ofString "now" then some (.int now0 u40) else if y = Str.ofString "probe" then some (.int probe u3) else if y = Str.ofString "peer" then some (.int peer u2) else if y = Str.ofString "own" then some (.int own u1) else if y = Str.ofString "deeds" then some (.ref D) else m y) → News h₀ L h9 ((I, oI) :: ([(da, dictOf [⟨PyData.keyHash w.params (Str.ofString "own"), .str (Str.ofString "own") k1, .int own u1⟩, ⟨PyData.keyHash w.params (Str.ofString "peer"), .str (Str.ofString "peer") k2, .int peer u2⟩, ⟨PyData.keyHash w.params (Str.ofString "since"), .str (Str.ofString "since") k3, optV sv ts⟩, ⟨PyData.keyHash w.params (Str.ofString "has_asked"), .str (Str.ofString "has_asked") k4, .bool asked⟩] 4), (ia, instObj 85 da), (B, listOf #[.ref S, .int k t] c1), (S, listOf ws.toArray c2), (D, listOf dvs.toArray cD), (C, o)] ++ X)) → (lawSince (Dd ++ [(now, r)]) = (sv, asked)) → (nn' ≤ nn + 1) → (ConnIn w h₀ co ia nn' X) → (DeedsN h₀ X dvs Dd) → ((∃ ps, ((674 : Addr), tabObj ps) ∈ X)) → ((∀ p ∈ X, @Ne Nat p.1 da)) → ((∀ p ∈ X, @Ne Nat p.1 ia)) → ((∀ p ∈ X, @Ne Nat p.1 B)) → ((∀ p ∈ X, @Ne Nat p.1 S)) → ((∀ p ∈ X, @Ne Nat p.1 D)) → ((∀ p ∈ X, @Ne Nat p.1 C)) → ((∀ p ∈ X, @Ne Nat p.1 I)) → G9 { s with heap := h9, toks := tk9 }) : G9 s' :=
  Exists.elim hp fun e hb => Exists.elim (show LawSt _ _ _ _ _ _ from hb.1) fun h9 h1 => Exists.elim h1 fun tk9 h2 => (congrArg G9 h2.1).mpr (kk99 e.sv e.asked e.ts e.X e.nn' h9 tk9 h2.2.1 h2.2.2 hb.2.1 hb.2.2.1 hb.2.2.2.1 hb.2.2.2.2.1 hb.2.2.2.2.2.1 hb.2.2.2.2.2.2.1 hb.2.2.2.2.2.2.2.1 hb.2.2.2.2.2.2.2.2.1 hb.2.2.2.2.2.2.2.2.2.1 hb.2.2.2.2.2.2.2.2.2.2.1 hb.2.2.2.2.2.2.2.2.2.2.2.1 hb.2.2.2.2.2.2.2.2.2.2.2.2)
set_option genInjectivity false in
set_option genSizeOf false in
structure T4V where
  (dvs : List Value)
  (cD : Nat)
  (X : List (Addr × Obj))
def T4B (w : World) (s : Shared) (h₀ : Heap) (L B S D C ia da co I : Addr) (oI : Obj) (c2 : Nat) (ws : List Value) (o : Obj) (own peer probe now0 : Int) (u1 u2 u3 u40 tw k1 k2 k3 k4 : Tok) (m : Str → Option Value) (c1 : Nat) (sv : Option Int) (asked : Bool) (ts : Tok) (tv : Option Value) (now r k : Int) (u4 ur t : Tok) (Dd : Deeds) (nn' : Nat) (dvs : List Value) (cD : Nat) (X : List (Addr × Obj)) (s' : Shared) : Prop := LawSt s h₀ L (fun y => if y = Str.ofString "sort" then some (.int r ur) else if y = Str.ofString "now" then some (.int now u4) else if y = Str.ofString "turn" then tv else if y = Str.ofString "conn" then some (.ref co) else if y = Str.ofString "idle" then some (.ref ia) else if y = Str.ofString "wait" then some (optV (waitOf own peer probe) tw) else if y = Str.ofString "now" then some (.int now0 u40) else if y = Str.ofString "probe" then some (.int probe u3) else if y = Str.ofString "peer" then some (.int peer u2) else if y = Str.ofString "own" then some (.int own u1) else if y = Str.ofString "deeds" then some (.ref D) else m y) ((I, oI) :: ([(da, dictOf [⟨PyData.keyHash w.params (Str.ofString "own"), .str (Str.ofString "own") k1, .int own u1⟩, ⟨PyData.keyHash w.params (Str.ofString "peer"), .str (Str.ofString "peer") k2, .int peer u2⟩, ⟨PyData.keyHash w.params (Str.ofString "since"), .str (Str.ofString "since") k3, optV sv ts⟩, ⟨PyData.keyHash w.params (Str.ofString "has_asked"), .str (Str.ofString "has_asked") k4, .bool asked⟩] 4), (ia, instObj 85 da), (B, listOf #[.ref S, .int k t] c1), (S, listOf ws.toArray c2), (D, listOf dvs.toArray cD), (C, o)] ++ X)) s' ∧ ConnIn w h₀ co ia nn' X ∧ DeedsN h₀ X dvs (Dd ++ [(now, r)]) ∧ (∃ ps, ((674 : Addr), tabObj ps) ∈ X) ∧ (∀ p ∈ X, @Ne Nat p.1 da) ∧ (∀ p ∈ X, @Ne Nat p.1 ia) ∧ (∀ p ∈ X, @Ne Nat p.1 B) ∧ (∀ p ∈ X, @Ne Nat p.1 S) ∧ (∀ p ∈ X, @Ne Nat p.1 D) ∧ (∀ p ∈ X, @Ne Nat p.1 C) ∧ (∀ p ∈ X, @Ne Nat p.1 I)
def T4 (w : World) (s : Shared) (h₀ : Heap) (L B S D C ia da co I : Addr) (oI : Obj) (c2 : Nat) (ws : List Value) (o : Obj) (own peer probe now0 : Int) (u1 u2 u3 u40 tw k1 k2 k3 k4 : Tok) (m : Str → Option Value) (c1 : Nat) (sv : Option Int) (asked : Bool) (ts : Tok) (tv : Option Value) (now r k : Int) (u4 ur t : Tok) (Dd : Deeds) (nn' : Nat) (s' : Shared) : Prop := ∃ e : T4V, T4B w s h₀ L B S D C ia da co I oI c2 ws o own peer probe now0 u1 u2 u3 u40 tw k1 k2 k3 k4 m c1 sv asked ts tv now r k u4 ur t Dd nn' e.dvs e.cD e.X s'
theorem T4.intro {s : Shared} {D : Addr} {r : Int} {t : Tok} (dvs : List Value) (cD : Nat) (X : List (Addr × Obj)) (F9 : Fr h₀ L h9 (fun y => if y = Str.ofString "sort" then some (.int r ur) else if y = Str.ofString "now" then some (.int now u4) else if y = Str.ofString "turn" then tv else if y = Str.ofString "conn" then some (.ref co) else if y = Str.ofString "idle" then some (.ref ia) else if y = Str.ofString "wait" then some (optV (waitOf own peer probe) tw) else if y = Str.ofString "now" then some (.int now0 u40) else if y = Str.ofString "probe" then some (.int probe u3) else if y = Str.ofString "peer" then some (.int peer u2) else if y = Str.ofString "own" then some (.int own u1) else if y = Str.ofString "deeds" then some (.ref D) else m y)) (N9 : News h₀ L h9 ((I, oI) :: ([(da, dictOf [⟨PyData.keyHash w.params (Str.ofString "own"), .str (Str.ofString "own") k1, .int own u1⟩, ⟨PyData.keyHash w.params (Str.ofString "peer"), .str (Str.ofString "peer") k2, .int peer u2⟩, ⟨PyData.keyHash w.params (Str.ofString "since"), .str (Str.ofString "since") k3, optV sv ts⟩, ⟨PyData.keyHash w.params (Str.ofString "has_asked"), .str (Str.ofString "has_asked") k4, .bool asked⟩] 4), (ia, instObj 85 da), (B, listOf #[.ref S, .int k t] c1), (S, listOf ws.toArray c2), (D, listOf dvs.toArray cD), (C, o)] ++ X))) (a90 : ConnIn w h₀ co ia nn' X) (a91 : DeedsN h₀ X dvs (Dd ++ [(now, r)])) (a92 : (∃ ps, ((674 : Addr), tabObj ps) ∈ X)) (a93 : (∀ p ∈ X, @Ne Nat p.1 da)) (a94 : (∀ p ∈ X, @Ne Nat p.1 ia)) (a95 : (∀ p ∈ X, @Ne Nat p.1 B)) (a96 : (∀ p ∈ X, @Ne Nat p.1 S)) (a97 : (∀ p ∈ X, @Ne Nat p.1 D)) (a98 : (∀ p ∈ X, @Ne Nat p.1 C)) (a99 : (∀ p ∈ X, @Ne Nat p.1 I)) : CutP (T4 w s h₀ L B S D C ia da co I oI c2 ws o own peer probe now0 u1 u2 u3 u40 tw k1 k2 k3 k4 m c1 sv asked ts tv now r k u4 ur t Dd nn') .next { s with heap := h9, toks := tk9 } :=
  ⟨rfl, ⟨dvs, cD, X⟩, ⟨h9, tk9, rfl, F9, N9⟩, a90, a91, a92, a93, a94, a95, a96, a97, a98, a99⟩
theorem T4.elim {s : Shared} {D : Addr} {r : Int} {t : Tok} {G9 : Shared → Prop} (hp : T4 w s h₀ L B S D C ia da co I oI c2 ws o own peer probe now0 u1 u2 u3 u40 tw k1 k2 k3 k4 m c1 sv asked ts tv now r k u4 ur t Dd nn' s') (kk99 : ∀ (dvs : List Value) (cD : Nat) (X : List (Addr × Obj)) (h9 : Heap) (tk9 : Nat), Fr h₀ L h9 (fun y => if y = Str.ofString "sort" then some (.int r ur) else if y = Str.ofString "now" then some (.int now u4) else if y = Str.ofString "turn" then tv else if y = Str.ofString "conn" then some (.ref co) else if y = Str.ofString "idle" then some (.ref ia) else if y = Str.ofString "wait" then some (optV (waitOf own peer probe) tw) else if y = Str.ofString "now" then some (.int now0 u40) else if y = Str.ofString "probe" then some (.int probe u3) else if y = Str.ofString "peer" then some (.int peer u2) else if y = Str.ofString "own" then some (.int own u1) else if y = Str.ofString "deeds" then some (.ref D) else m y) → News h₀ L h9 ((I, oI) :: ([(da, dictOf [⟨PyData.keyHash w.params (Str.ofString "own"), .str (Str.ofString "own") k1, .int own u1⟩, ⟨PyData.keyHash w.params (Str.ofString "peer"), .str (Str.ofString "peer") k2, .int peer u2⟩, ⟨PyData.keyHash w.params (Str.ofString "since"), .str (Str.ofString "since") k3, optV sv ts⟩, ⟨PyData.keyHash w.params (Str.ofString "has_asked"), .str (Str.ofString "has_asked") k4, .bool asked⟩] 4), (ia, instObj 85 da), (B, listOf #[.ref S, .int k t] c1), (S, listOf ws.toArray c2), (D, listOf dvs.toArray cD), (C, o)] ++ X)) → (ConnIn w h₀ co ia nn' X) → (DeedsN h₀ X dvs (Dd ++ [(now, r)])) → ((∃ ps, ((674 : Addr), tabObj ps) ∈ X)) → ((∀ p ∈ X, @Ne Nat p.1 da)) → ((∀ p ∈ X, @Ne Nat p.1 ia)) → ((∀ p ∈ X, @Ne Nat p.1 B)) → ((∀ p ∈ X, @Ne Nat p.1 S)) → ((∀ p ∈ X, @Ne Nat p.1 D)) → ((∀ p ∈ X, @Ne Nat p.1 C)) → ((∀ p ∈ X, @Ne Nat p.1 I)) → G9 { s with heap := h9, toks := tk9 }) : G9 s' :=
  Exists.elim hp fun e hb => Exists.elim (show LawSt _ _ _ _ _ _ from hb.1) fun h9 h1 => Exists.elim h1 fun tk9 h2 => (congrArg G9 h2.1).mpr (kk99 e.dvs e.cD e.X h9 tk9 h2.2.1 h2.2.2 hb.2.1 hb.2.2.1 hb.2.2.2.1 hb.2.2.2.2.1 hb.2.2.2.2.2.1 hb.2.2.2.2.2.2.1 hb.2.2.2.2.2.2.2.1 hb.2.2.2.2.2.2.2.2.1 hb.2.2.2.2.2.2.2.2.2.1 hb.2.2.2.2.2.2.2.2.2.2)
set_option genInjectivity false in
set_option genSizeOf false in
structure P10V where
  (m : Str → Option Value)
  (news : List (Addr × Obj))
def P10B (s : Shared) (h₀ : Heap) (L : Addr) (m : Str → Option Value) (news : List (Addr × Obj)) (s' : Shared) : Prop := LawSt s h₀ L m news s' ∧ (∃ ps, ((674 : Addr), tabObj ps) ∈ news)
def P10 (s : Shared) (h₀ : Heap) (L : Addr) (s' : Shared) : Prop := ∃ e : P10V, P10B s h₀ L e.m e.news s'
theorem P10.intro {s : Shared} (m : Str → Option Value) (news : List (Addr × Obj)) (F9 : Fr h₀ L h9 m) (N9 : News h₀ L h9 news) (a90 : (∃ ps, ((674 : Addr), tabObj ps) ∈ news)) : CutP (P10 s h₀ L) .next { s with heap := h9, toks := tk9 } :=
  ⟨rfl, ⟨m, news⟩, ⟨h9, tk9, rfl, F9, N9⟩, a90⟩
theorem P10.elim {s : Shared} {G9 : Shared → Prop} (hp : P10 s h₀ L s') (kk99 : ∀ (m : Str → Option Value) (news : List (Addr × Obj)) (h9 : Heap) (tk9 : Nat), Fr h₀ L h9 m → News h₀ L h9 news → ((∃ ps, ((674 : Addr), tabObj ps) ∈ news)) → G9 { s with heap := h9, toks := tk9 }) : G9 s' :=
  Exists.elim hp fun e hb => Exists.elim (show LawSt _ _ _ _ _ _ from hb.1) fun h9 h1 => Exists.elim h1 fun tk9 h2 => (congrArg G9 h2.1).mpr (kk99 e.m e.news h9 tk9 h2.2.1 h2.2.2 hb.2)
theorem frTurn {a N : Option Value} (F : Fr h₀ L h (fun y => if y = Str.ofString "turn" then a else (if y = Str.ofString "sort" then sv9 else if y = Str.ofString "now" then N else if y = Str.ofString "turn" then tv else mB y))) : Fr h₀ L h (fun y => if y = Str.ofString "sort" then sv9 else if y = Str.ofString "now" then N else if y = Str.ofString "turn" then a else mB y) := by
  refine (congrArg (Fr h₀ L h) (funext fun y => ?_)).mp F
  by_cases h1 : y = Str.ofString "turn"
  · subst h1; rfl
  · simp only [if_neg h1]
theorem frNow {a N : Option Value} (F : Fr h₀ L h (fun y => if y = Str.ofString "now" then a else (if y = Str.ofString "sort" then sv9 else if y = Str.ofString "now" then N else if y = Str.ofString "turn" then tv else mB y))) : Fr h₀ L h (fun y => if y = Str.ofString "sort" then sv9 else if y = Str.ofString "now" then a else if y = Str.ofString "turn" then tv else mB y) := by
  refine (congrArg (Fr h₀ L h) (funext fun y => ?_)).mp F
  by_cases h1 : y = Str.ofString "now"
  · subst h1; rfl
  · simp only [if_neg h1]
theorem frSort {a N : Option Value} (F : Fr h₀ L h (fun y => if y = Str.ofString "sort" then a else (if y = Str.ofString "sort" then sv9 else if y = Str.ofString "now" then N else if y = Str.ofString "turn" then tv else mB y))) : Fr h₀ L h (fun y => if y = Str.ofString "sort" then a else if y = Str.ofString "now" then N else if y = Str.ofString "turn" then tv else mB y) := by
  refine (congrArg (Fr h₀ L h) (funext fun y => ?_)).mp F
  by_cases h1 : y = Str.ofString "sort"
  · subst h1; rfl
  · simp only [if_neg h1]
theorem frStart {N : Value} (F : Fr h₀ L h mB) (e : mB (Str.ofString "now") = some N) : Fr h₀ L h (fun y => if y = Str.ofString "sort" then mB (Str.ofString "sort") else if y = Str.ofString "now" then some N else if y = Str.ofString "turn" then mB (Str.ofString "turn") else mB y) := by
  refine (congrArg (Fr h₀ L h) (funext fun y => ?_)).mp F
  by_cases h1 : y = Str.ofString "sort"
  · subst h1; rw [if_pos rfl]
  · rw [if_neg h1]
    by_cases h2 : y = Str.ofString "now"
    · subst h2; rw [if_pos rfl]; exact e
    · rw [if_neg h2]
      by_cases h3 : y = Str.ofString "turn"
      · subst h3; rw [if_pos rfl]
      · rw [if_neg h3]
theorem DeedsN.snoc {D : Deeds} {a : Addr} {t s : Int} (x : DeedsN h₀ X vs D) : DeedsN h₀ ((a, deedO t s u1 u2) :: X) (vs ++ [.ref a]) (D ++ [(t, s)]) := by
  refine ⟨by simp [x.1], fun i t' s' hd => ?_⟩
  by_cases hi : i < D.length
  · rw [List.getElem?_append_left hi] at hd
    obtain ⟨b, v1, v2, e1, e2⟩ := x.2 i t' s' hd
    exact ⟨b, v1, v2, by rw [List.getElem?_append_left (by rw [x.1]; exact hi)]; exact e1, e2.imp (List.mem_cons_of_mem _) id⟩
  · have hi2 : i = D.length := by
      have := (List.getElem?_eq_some_iff.mp hd).1
      rw [List.length_append, List.length_singleton] at this
      omega
    subst hi2
    rw [List.getElem?_append_right (Nat.le_refl _), Nat.sub_self] at hd
    cases hd
    exact ⟨a, u1, u2, by rw [← x.1, List.getElem?_append_right (Nat.le_refl _), Nat.sub_self]; rfl, .inl (List.Mem.head _)⟩
theorem cut10 {Q : Flow → Shared → Prop} {s : Shared} (F : Fr h₀ L h m') (N : News h₀ L h news)
    (h1 : wpG M A (exec st env) (CutP (P10 s h₀ L)) (fun _ _ => False) { s with heap := h, toks := tk }) (h2 : ∀ (m : Str → Option Value) (news : List (Addr × Obj)) (h9 : Heap) (tk9 : Nat), Fr h₀ L h9 m → News h₀ L h9 news → ((∃ ps, ((674 : Addr), tabObj ps) ∈ news)) → wpG M A (execs rest env) Q E { s with heap := h9, toks := tk9 }) : wpG M A (execs (st :: rest) env) Q E { s with heap := h, toks := tk } := g_cut _ h1 fun s' hp => P10.elim (G9 := fun s' => wpG M A (execs rest env) Q E s') hp h2
theorem cutT1 {Q : Flow → Shared → Prop} {s : Shared} {D : Addr} {t : Tok} (F : Fr h₀ L h (fun y => if y = Str.ofString "sort" then sv9 else if y = Str.ofString "now" then some (.int now u4) else if y = Str.ofString "turn" then tv else if y = Str.ofString "conn" then some (.ref co) else if y = Str.ofString "idle" then some (.ref ia) else if y = Str.ofString "wait" then some (optV (waitOf own peer probe) tw) else if y = Str.ofString "now" then some (.int now0 u40) else if y = Str.ofString "probe" then some (.int probe u3) else if y = Str.ofString "peer" then some (.int peer u2) else if y = Str.ofString "own" then some (.int own u1) else if y = Str.ofString "deeds" then some (.ref D) else m y)) (N : News h₀ L h ((I, oI) :: ([(da, dictOf [⟨PyData.keyHash w.params (Str.ofString "own"), .str (Str.ofString "own") k1, .int own u1⟩, ⟨PyData.keyHash w.params (Str.ofString "peer"), .str (Str.ofString "peer") k2, .int peer u2⟩, ⟨PyData.keyHash w.params (Str.ofString "since"), .str (Str.ofString "since") k3, optV sv ts⟩, ⟨PyData.keyHash w.params (Str.ofString "has_asked"), .str (Str.ofString "has_asked") k4, .bool asked⟩] 4), (ia, instObj 85 da), (B, listOf #[.ref S, .int k t] c1), (S, listOf ws.toArray c2), (D, listOf dvs.toArray cD), (C, o)] ++ X)))
    (h1 : wpG M A (exec st env) (CutP (T1 w s h₀ L B S D C ia da co I oI c2 ws o own peer probe now0 u1 u2 u3 u40 tw k1 k2 k3 k4 m cD sv asked ts X dvs tv sv9)) (fun _ _ => False) { s with heap := h, toks := tk }) (h2 : ∀ (now k : Int) (u4 t : Tok) (c1 : Nat) (h9 : Heap) (tk9 : Nat), Fr h₀ L h9 (fun y => if y = Str.ofString "sort" then sv9 else if y = Str.ofString "now" then some (.int now u4) else if y = Str.ofString "turn" then tv else if y = Str.ofString "conn" then some (.ref co) else if y = Str.ofString "idle" then some (.ref ia) else if y = Str.ofString "wait" then some (optV (waitOf own peer probe) tw) else if y = Str.ofString "now" then some (.int now0 u40) else if y = Str.ofString "probe" then some (.int probe u3) else if y = Str.ofString "peer" then some (.int peer u2) else if y = Str.ofString "own" then some (.int own u1) else if y = Str.ofString "deeds" then some (.ref D) else m y) → News h₀ L h9 ((I, oI) :: ([(da, dictOf [⟨PyData.keyHash w.params (Str.ofString "own"), .str (Str.ofString "own") k1, .int own u1⟩, ⟨PyData.keyHash w.params (Str.ofString "peer"), .str (Str.ofString "peer") k2, .int peer u2⟩, ⟨PyData.keyHash w.params (Str.ofString "since"), .str (Str.ofString "since") k3, optV sv ts⟩, ⟨PyData.keyHash w.params (Str.ofString "has_asked"), .str (Str.ofString "has_asked") k4, .bool asked⟩] 4), (ia, instObj 85 da), (B, listOf #[.ref S, .int k t] c1), (S, listOf ws.toArray c2), (D, listOf dvs.toArray cD), (C, o)] ++ X)) → (0 ≤ k) → wpG M A (execs rest env) Q E { s with heap := h9, toks := tk9 }) : wpG M A (execs (st :: rest) env) Q E { s with heap := h, toks := tk } := g_cut _ h1 fun s' hp => T1.elim (G9 := fun s' => wpG M A (execs rest env) Q E s') hp h2
theorem cutT2 {Q : Flow → Shared → Prop} {s : Shared} {D : Addr} {t : Tok} (F : Fr h₀ L h (fun y => if y = Str.ofString "sort" then sv9 else if y = Str.ofString "now" then some (.int now u4) else if y = Str.ofString "turn" then tv else if y = Str.ofString "conn" then some (.ref co) else if y = Str.ofString "idle" then some (.ref ia) else if y = Str.ofString "wait" then some (optV (waitOf own peer probe) tw) else if y = Str.ofString "now" then some (.int now0 u40) else if y = Str.ofString "probe" then some (.int probe u3) else if y = Str.ofString "peer" then some (.int peer u2) else if y = Str.ofString "own" then some (.int own u1) else if y = Str.ofString "deeds" then some (.ref D) else m y)) (N : News h₀ L h ((I, oI) :: ([(da, dictOf [⟨PyData.keyHash w.params (Str.ofString "own"), .str (Str.ofString "own") k1, .int own u1⟩, ⟨PyData.keyHash w.params (Str.ofString "peer"), .str (Str.ofString "peer") k2, .int peer u2⟩, ⟨PyData.keyHash w.params (Str.ofString "since"), .str (Str.ofString "since") k3, optV sv ts⟩, ⟨PyData.keyHash w.params (Str.ofString "has_asked"), .str (Str.ofString "has_asked") k4, .bool asked⟩] 4), (ia, instObj 85 da), (B, listOf #[.ref S, .int k t] c1), (S, listOf ws.toArray c2), (D, listOf dvs.toArray cD), (C, o)] ++ X)))
    (h1 : wpG M A (exec st env) (CutP (T2 w s h₀ L B S D C ia da co I oI c2 ws o own peer probe now0 u1 u2 u3 u40 tw k1 k2 k3 k4 m cD sv asked ts X dvs tv now u4)) (fun _ _ => False) { s with heap := h, toks := tk }) (h2 : ∀ (r k : Int) (ur t : Tok) (c1 : Nat) (h9 : Heap) (tk9 : Nat), Fr h₀ L h9 (fun y => if y = Str.ofString "sort" then some (.int r ur) else if y = Str.ofString "now" then some (.int now u4) else if y = Str.ofString "turn" then tv else if y = Str.ofString "conn" then some (.ref co) else if y = Str.ofString "idle" then some (.ref ia) else if y = Str.ofString "wait" then some (optV (waitOf own peer probe) tw) else if y = Str.ofString "now" then some (.int now0 u40) else if y = Str.ofString "probe" then some (.int probe u3) else if y = Str.ofString "peer" then some (.int peer u2) else if y = Str.ofString "own" then some (.int own u1) else if y = Str.ofString "deeds" then some (.ref D) else m y) → News h₀ L h9 ((I, oI) :: ([(da, dictOf [⟨PyData.keyHash w.params (Str.ofString "own"), .str (Str.ofString "own") k1, .int own u1⟩, ⟨PyData.keyHash w.params (Str.ofString "peer"), .str (Str.ofString "peer") k2, .int peer u2⟩, ⟨PyData.keyHash w.params (Str.ofString "since"), .str (Str.ofString "since") k3, optV sv ts⟩, ⟨PyData.keyHash w.params (Str.ofString "has_asked"), .str (Str.ofString "has_asked") k4, .bool asked⟩] 4), (ia, instObj 85 da), (B, listOf #[.ref S, .int k t] c1), (S, listOf ws.toArray c2), (D, listOf dvs.toArray cD), (C, o)] ++ X)) → (0 ≤ k) → (0 ≤ r) → (r < 3) → wpG M A (execs rest env) Q E { s with heap := h9, toks := tk9 }) : wpG M A (execs (st :: rest) env) Q E { s with heap := h, toks := tk } := g_cut _ h1 fun s' hp => T2.elim (G9 := fun s' => wpG M A (execs rest env) Q E s') hp h2
theorem cutT3 {Q : Flow → Shared → Prop} {s : Shared} {D : Addr} {t : Tok} {r : Int} (F : Fr h₀ L h (fun y => if y = Str.ofString "sort" then some (.int r ur) else if y = Str.ofString "now" then some (.int now u4) else if y = Str.ofString "turn" then tv else if y = Str.ofString "conn" then some (.ref co) else if y = Str.ofString "idle" then some (.ref ia) else if y = Str.ofString "wait" then some (optV (waitOf own peer probe) tw) else if y = Str.ofString "now" then some (.int now0 u40) else if y = Str.ofString "probe" then some (.int probe u3) else if y = Str.ofString "peer" then some (.int peer u2) else if y = Str.ofString "own" then some (.int own u1) else if y = Str.ofString "deeds" then some (.ref D) else m y)) (N : News h₀ L h ((I, oI) :: ([(da, dictOf [⟨PyData.keyHash w.params (Str.ofString "own"), .str (Str.ofString "own") k1, .int own u1⟩, ⟨PyData.keyHash w.params (Str.ofString "peer"), .str (Str.ofString "peer") k2, .int peer u2⟩, ⟨PyData.keyHash w.params (Str.ofString "since"), .str (Str.ofString "since") k3, optV sv ts⟩, ⟨PyData.keyHash w.params (Str.ofString "has_asked"), .str (Str.ofString "has_asked") k4, .bool asked⟩] 4), (ia, instObj 85 da), (B, listOf #[.ref S, .int k t] c1), (S, listOf ws.toArray c2), (D, listOf dvs.toArray cD), (C, o)] ++ X)))
    (h1 : wpG M A (exec st env) (CutP (T3 w s h₀ L B S D C ia da co I oI c2 ws o own peer probe now0 u1 u2 u3 u40 tw k1 k2 k3 k4 m cD c1 dvs tv now r k u4 ur t Dd nn)) (fun _ _ => False) { s with heap := h, toks := tk }) (h2 : ∀ (sv : Option Int) (asked : Bool) (ts : Tok) (X : List (Addr × Obj)) (nn' : Nat) (h9 : Heap) (tk9 : Nat), Fr h₀ L h9 (fun y => if y = Str.ofString "sort" then some (.int r ur) else if y = Str.ofString "now" then some (.int now u4) else if y = Str.ofString "turn" then tv else if y = Str.ofString "conn" then some (.ref co) else if y = Str.ofString "idle" then some (.ref ia) else if y = Str.ofString "wait" then some (optV (waitOf own peer probe) tw) else if y = Str.ofString "now" then some (.int now0 u40) else if y = Str.ofString "probe" then some (.int probe u3) else if y = Str.ofString "peer" then some (.int peer u2) else if y = Str.ofString "own" then some (.int own u1) else if y = Str.ofString "deeds" then some (.ref D) else m y) → News h₀ L h9 ((I, oI) :: ([(da, dictOf [⟨PyData.keyHash w.params (Str.ofString "own"), .str (Str.ofString "own") k1, .int own u1⟩, ⟨PyData.keyHash w.params (Str.ofString "peer"), .str (Str.ofString "peer") k2, .int peer u2⟩, ⟨PyData.keyHash w.params (Str.ofString "since"), .str (Str.ofString "since") k3, optV sv ts⟩, ⟨PyData.keyHash w.params (Str.ofString "has_asked"), .str (Str.ofString "has_asked") k4, .bool asked⟩] 4), (ia, instObj 85 da), (B, listOf #[.ref S, .int k t] c1), (S, listOf ws.toArray c2), (D, listOf dvs.toArray cD), (C, o)] ++ X)) → (lawSince (Dd ++ [(now, r)]) = (sv, asked)) → (nn' ≤ nn + 1) → (ConnIn w h₀ co ia nn' X) → (DeedsN h₀ X dvs Dd) → ((∃ ps, ((674 : Addr), tabObj ps) ∈ X)) → ((∀ p ∈ X, @Ne Nat p.1 da)) → ((∀ p ∈ X, @Ne Nat p.1 ia)) → ((∀ p ∈ X, @Ne Nat p.1 B)) → ((∀ p ∈ X, @Ne Nat p.1 S)) → ((∀ p ∈ X, @Ne Nat p.1 D)) → ((∀ p ∈ X, @Ne Nat p.1 C)) → ((∀ p ∈ X, @Ne Nat p.1 I)) → wpG M A (execs rest env) Q E { s with heap := h9, toks := tk9 }) : wpG M A (execs (st :: rest) env) Q E { s with heap := h, toks := tk } := g_cut _ h1 fun s' hp => T3.elim (G9 := fun s' => wpG M A (execs rest env) Q E s') hp h2
theorem cutT4 {Q : Flow → Shared → Prop} {s : Shared} {D : Addr} {t : Tok} {r : Int} (F : Fr h₀ L h (fun y => if y = Str.ofString "sort" then some (.int r ur) else if y = Str.ofString "now" then some (.int now u4) else if y = Str.ofString "turn" then tv else if y = Str.ofString "conn" then some (.ref co) else if y = Str.ofString "idle" then some (.ref ia) else if y = Str.ofString "wait" then some (optV (waitOf own peer probe) tw) else if y = Str.ofString "now" then some (.int now0 u40) else if y = Str.ofString "probe" then some (.int probe u3) else if y = Str.ofString "peer" then some (.int peer u2) else if y = Str.ofString "own" then some (.int own u1) else if y = Str.ofString "deeds" then some (.ref D) else m y)) (N : News h₀ L h ((I, oI) :: ([(da, dictOf [⟨PyData.keyHash w.params (Str.ofString "own"), .str (Str.ofString "own") k1, .int own u1⟩, ⟨PyData.keyHash w.params (Str.ofString "peer"), .str (Str.ofString "peer") k2, .int peer u2⟩, ⟨PyData.keyHash w.params (Str.ofString "since"), .str (Str.ofString "since") k3, optV sv ts⟩, ⟨PyData.keyHash w.params (Str.ofString "has_asked"), .str (Str.ofString "has_asked") k4, .bool asked⟩] 4), (ia, instObj 85 da), (B, listOf #[.ref S, .int k t] c1), (S, listOf ws.toArray c2), (D, listOf dvs.toArray cD), (C, o)] ++ X)))
    (h1 : wpG M A (exec st env) (CutP (T4 w s h₀ L B S D C ia da co I oI c2 ws o own peer probe now0 u1 u2 u3 u40 tw k1 k2 k3 k4 m c1 sv asked ts tv now r k u4 ur t Dd nn')) (fun _ _ => False) { s with heap := h, toks := tk }) (h2 : ∀ (dvs : List Value) (cD : Nat) (X : List (Addr × Obj)) (h9 : Heap) (tk9 : Nat), Fr h₀ L h9 (fun y => if y = Str.ofString "sort" then some (.int r ur) else if y = Str.ofString "now" then some (.int now u4) else if y = Str.ofString "turn" then tv else if y = Str.ofString "conn" then some (.ref co) else if y = Str.ofString "idle" then some (.ref ia) else if y = Str.ofString "wait" then some (optV (waitOf own peer probe) tw) else if y = Str.ofString "now" then some (.int now0 u40) else if y = Str.ofString "probe" then some (.int probe u3) else if y = Str.ofString "peer" then some (.int peer u2) else if y = Str.ofString "own" then some (.int own u1) else if y = Str.ofString "deeds" then some (.ref D) else m y) → News h₀ L h9 ((I, oI) :: ([(da, dictOf [⟨PyData.keyHash w.params (Str.ofString "own"), .str (Str.ofString "own") k1, .int own u1⟩, ⟨PyData.keyHash w.params (Str.ofString "peer"), .str (Str.ofString "peer") k2, .int peer u2⟩, ⟨PyData.keyHash w.params (Str.ofString "since"), .str (Str.ofString "since") k3, optV sv ts⟩, ⟨PyData.keyHash w.params (Str.ofString "has_asked"), .str (Str.ofString "has_asked") k4, .bool asked⟩] 4), (ia, instObj 85 da), (B, listOf #[.ref S, .int k t] c1), (S, listOf ws.toArray c2), (D, listOf dvs.toArray cD), (C, o)] ++ X)) → (ConnIn w h₀ co ia nn' X) → (DeedsN h₀ X dvs (Dd ++ [(now, r)])) → ((∃ ps, ((674 : Addr), tabObj ps) ∈ X)) → ((∀ p ∈ X, @Ne Nat p.1 da)) → ((∀ p ∈ X, @Ne Nat p.1 ia)) → ((∀ p ∈ X, @Ne Nat p.1 B)) → ((∀ p ∈ X, @Ne Nat p.1 S)) → ((∀ p ∈ X, @Ne Nat p.1 D)) → ((∀ p ∈ X, @Ne Nat p.1 C)) → ((∀ p ∈ X, @Ne Nat p.1 I)) → wpG M A (execs rest env) Q E { s with heap := h9, toks := tk9 }) : wpG M A (execs (st :: rest) env) Q E { s with heap := h, toks := tk } := g_cut _ h1 fun s' hp => T4.elim (G9 := fun s' => wpG M A (execs rest env) Q E s') hp h2
def Hold (P : Prop) : Prop := P
theorem LZ_rows4 : True := by
  (k_with "pyIter ref" => ((with_reducible show wpAny _ _ (pyIter _) (fun _ _ => codeG _ _ _ _ _) _ _); (with_reducible change Hold _)))
  (k_with "pyIter" => ((with_reducible show wpAny _ _ (pyIter _) (fun _ _ => codeG _ _ _ _ _) _ _); (with_reducible change Hold _)))
  trivial
theorem law_all : Prem Mine.hd := by
  refine ubx ?_
  simp (disch := k_dflt (
    refine tyP ?_
    refine' (?g9 : ∀ q : (Prem Mine.hd), Keep q → (Prem Mine.hd)) _ ?w9
    case g9 => exact fun q _ => q
    case w9 =>
      refine' kp9 ?h9 fun k9 => ?j9
      case h9 =>
        delta Prem
        w_on
        w_strict (
          k_fill
          intro w s₀ s₁ mg mb G Y fa o pm cd doc dV kV ho hd hcd hD hmg hg args vals as hpre hlay hrd hwl hlo
          have KX := km_in_of Y
          km_tabs Y
          have X := (Ground.X G).1
          have V := (Ground.X G).2
          refine Ground.open G ?_
          intro T B D TE TW
          try (refine guard_noD D (by decide +kernel) ?_; clear D)
          km_lay T hmg ho hd cd
          clear hmg
          wrow_args hpre hlay hrd hwl hlo
          all_goals (
            refine Mine.enter_callG ?_
            w_top on
            refine Mine.posts_G hT9 (fun _ _ => rfl) ?_
            (have he := Dflts.none hD rfl; subst he; have he := Dflts.noKw hD; subst he
             refine Mine.call_cellsG (by decide) ho (fd_plain hd) (Top.nolimit T) hcd rfl (kinds_of (by kinds_ok)) (by decide) fun h₁ tk₁ cells F N0 X0 => ?_
             cells_open X0)
            clear hd
            kn_ghosts F T
            k_drop
            (try clear hcd); (try clear hD); (try clear ho); (try clear Y); (try clear G); (try clear hT8); (try clear hT9); (try clear hs); (try clear hlay0); (try clear hlay); (try clear hpre); (try clear hrd); (try clear hwl); (try clear hlo); (try clear hL); (try clear hr); (try clear hl2); (try clear ra); (try clear w1); (try clear r0); (try clear hcond); (try clear X0); (try clear right); (try clear TE); (try clear TW); (try clear V); (try clear fa); (try clear o); (try clear pm); (try clear cd); (try clear doc); (try clear dV); (try clear kV); skip
            (refine hd_in ?_); (repeat ((fail_if_success ((rename (_ : Type) => hc9); (with_unfolding_none rename Cl _ => hc8); (fail_if_success (have hc7 := hc9)))); (rename (_ : Type) => hc9); revert hc9)); (with_reducible (refine eps_ltw ?_; intro xc8; refine (?_ : ∀ y : Cl _, Ap _ y) xc8; clear xc8; intro w; refine ap_mk ?_)); (with_reducible (refine eps_lts ?_; intro xc8; refine (?_ : ∀ y : Cl _, Ap _ y) xc8; clear xc8; intro s₀; refine ap_mk ?_)); (with_reducible (refine eps_lts ?_; intro xc8; refine (?_ : ∀ y : Cl _, Ap _ y) xc8; clear xc8; intro s₁; refine ap_mk ?_)); (set_option tactic.hygienic false in intros); (refine hd_out ?_); (refine hd_in ?_); (repeat ((fail_if_success ((rename (_ : Type) => hc9); (with_unfolding_none rename Cl _ => hc8); (fail_if_success (have hc7 := hc9)))); (rename (_ : Type) => hc9); revert hc9)); (with_reducible (refine eps_lt ?_; intro xc8; refine (?_ : ∀ y : Cl _, Ap _ y) xc8; clear xc8; intro mg; refine ap_mk ?_)); (set_option tactic.hygienic false in intros); (refine hd_out ?_); (refine hd_in ?_); (repeat ((fail_if_success ((rename (_ : Type) => hc9); (with_unfolding_none rename Cl _ => hc8); (fail_if_success (have hc7 := hc9)))); (rename (_ : Type) => hc9); revert hc9)); (with_reducible (refine eps_lt ?_; intro xc8; refine (?_ : ∀ y : Cl _, Ap _ y) xc8; clear xc8; intro mb; refine ap_mk ?_)); (set_option tactic.hygienic false in intros); (refine hd_out ?_); (repeat (first | ((fail_if_success ((rename (_ : Type) => hc9); (with_unfolding_none rename Cl _ => hc8); (fail_if_success (have hc7 := hc9)))); (rename (_ : Type) => hc9); (refine hd_in ?_); revert hc9; (repeat ((fail_if_success ((rename (_ : Type) => hc9); (with_unfolding_none rename Cl _ => hc8); (fail_if_success (have hc7 := hc9)))); (rename (_ : Type) => hc9); revert hc9)); (with_reducible (refine eps_lt ?_; intro xc8; refine (?_ : ∀ y : Cl _, Ap _ y) xc8; clear xc8; intro _; refine ap_mk ?_)); (repeat (with_reducible (refine eps_lt ?_; intro xc8; refine (?_ : ∀ y : Cl _, Ap _ y) xc8; clear xc8; intro _; refine ap_mk ?_))); (set_option tactic.hygienic false in intros); (refine hd_out ?_))))
            refine Mine.cut1 (by assumption) (by assumption) (by assumption) ?_ ?_
            · (k_extra "STEPS9"; (all_goals ((rename News _ _ _ (_ :: _) => Nk9); exact Mine.P1.intro _ _ _ _ _ _ _ _ _ (by k_asm) (news_sub Nk9 (by (repeat (first | exact sub_nil | (refine sub_cons (by k_mem) ?_))))) (by assumption) (by assumption) (by (simp only [List.nodup_cons, List.mem_cons, List.not_mem_nil, or_false, not_or, List.nodup_nil, and_true, not_false_eq_true]; (repeat' (refine And.intro ?_ ?_)) <;> omega)))))
            (with_reducible (refine eps_lt ?_; intro xc8; refine (?_ : ∀ y : Cl _, Ap _ y) xc8; clear xc8; intro B; refine ap_mk ?_)); (with_reducible (refine eps_lt ?_; intro xc8; refine (?_ : ∀ y : Cl _, Ap _ y) xc8; clear xc8; intro S; refine ap_mk ?_)); (with_reducible (refine eps_lt ?_; intro xc8; refine (?_ : ∀ y : Cl _, Ap _ y) xc8; clear xc8; intro D; refine ap_mk ?_)); (with_reducible (refine eps_lt ?_; intro xc8; refine (?_ : ∀ y : Cl _, Ap _ y) xc8; clear xc8; intro c1; refine ap_mk ?_)); (with_reducible (refine eps_lt ?_; intro xc8; refine (?_ : ∀ y : Cl _, Ap _ y) xc8; clear xc8; intro c2; refine ap_mk ?_)); (with_reducible (refine eps_lt ?_; intro xc8; refine (?_ : ∀ y : Cl _, Ap _ y) xc8; clear xc8; intro t; refine ap_mk ?_)); (with_reducible (refine eps_lt ?_; intro xc8; refine (?_ : ∀ y : Cl _, Ap _ y) xc8; clear xc8; intro ws; refine ap_mk ?_)); (with_reducible (refine eps_lt ?_; intro xc8; refine (?_ : ∀ y : Cl _, Ap _ y) xc8; clear xc8; intro o; refine ap_mk ?_)); (with_reducible (refine eps_lt ?_; intro xc8; refine (?_ : ∀ y : Cl _, Ap _ y) xc8; clear xc8; intro m; refine ap_mk ?_)); (with_reducible (refine eps_lt ?_; intro xc8; refine (?_ : ∀ y : Cl _, Ap _ y) xc8; clear xc8; intro h'; refine ap_mk ?_)); (with_reducible (refine eps_lt ?_; intro xc8; refine (?_ : ∀ y : Cl _, Ap _ y) xc8; clear xc8; intro tk'; refine ap_mk ?_))
            intro F N hdat hws hnd
            simp only [List.nodup_cons, List.mem_cons, List.not_mem_nil, or_false, not_or, List.nodup_nil, and_true, not_false_eq_true] at hnd
            obtain ⟨⟨n1, n2, n3, n4⟩, ⟨n5, n6, n7⟩, ⟨n8, n9⟩, n10⟩ := hnd
            refine Mine.cut2 F N ?_ ?_
            · (k_extra "STEPS9"; (all_goals ((rename News _ _ _ (_ :: _) => Nk9); exact Mine.P2.intro _ _ _ _ _ _ _ _ (by k_asm) (news_sub Nk9 (by (repeat (first | exact sub_nil | (refine sub_cons (by k_mem) ?_))))) (by first | (exact getD3_lo (by decide) (by decide) (by decide)) | (exact getD3_hi (by decide) (by decide) (by decide)) | (exact getD2_lo (by decide) (by decide)) | (exact getD2_hi (by decide) (by decide))) (by first | (exact getD3_lo (by decide) (by decide) (by decide)) | (exact getD3_hi (by decide) (by decide) (by decide)) | (exact getD2_lo (by decide) (by decide)) | (exact getD2_hi (by decide) (by decide))) (by first | (exact getD3_lo (by decide) (by decide) (by decide)) | (exact getD3_hi (by decide) (by decide) (by decide)) | (exact getD2_lo (by decide) (by decide)) | (exact getD2_hi (by decide) (by decide))) (by first | (exact getD3_lo (by decide) (by decide) (by decide)) | (exact getD3_hi (by decide) (by decide) (by decide)) | (exact getD2_lo (by decide) (by decide)) | (exact getD2_hi (by decide) (by decide))) (by omega))))
            (with_reducible (refine eps_lt ?_; intro xc8; refine (?_ : ∀ y : Cl _, Ap _ y) xc8; clear xc8; intro own; refine ap_mk ?_)); (with_reducible (refine eps_lt ?_; intro xc8; refine (?_ : ∀ y : Cl _, Ap _ y) xc8; clear xc8; intro peer; refine ap_mk ?_)); (with_reducible (refine eps_lt ?_; intro xc8; refine (?_ : ∀ y : Cl _, Ap _ y) xc8; clear xc8; intro k; refine ap_mk ?_)); (with_reducible (refine eps_lt ?_; intro xc8; refine (?_ : ∀ y : Cl _, Ap _ y) xc8; clear xc8; intro t; refine ap_mk ?_)); (with_reducible (refine eps_lt ?_; intro xc8; refine (?_ : ∀ y : Cl _, Ap _ y) xc8; clear xc8; intro u1; refine ap_mk ?_)); (with_reducible (refine eps_lt ?_; intro xc8; refine (?_ : ∀ y : Cl _, Ap _ y) xc8; clear xc8; intro u2; refine ap_mk ?_)); (with_reducible (refine eps_lt ?_; intro xc8; refine (?_ : ∀ y : Cl _, Ap _ y) xc8; clear xc8; intro c1; refine ap_mk ?_)); (with_reducible (refine eps_lt ?_; intro xc8; refine (?_ : ∀ y : Cl _, Ap _ y) xc8; clear xc8; intro m; refine ap_mk ?_)); (with_reducible (refine eps_lt ?_; intro xc8; refine (?_ : ∀ y : Cl _, Ap _ y) xc8; clear xc8; intro h'; refine ap_mk ?_)); (with_reducible (refine eps_lt ?_; intro xc8; refine (?_ : ∀ y : Cl _, Ap _ y) xc8; clear xc8; intro tk'; refine ap_mk ?_))
            intro F N o0 o1 p0 p1 k0
            refine Mine.cut3 F N ?_ ?_
            · (k_extra "STEPS9"; (all_goals ((rename News _ _ _ (_ :: _) => Nk9); exact Mine.P3.intro _ _ _ _ _ _ (by k_asm) (news_sub Nk9 (by (repeat (first | exact sub_nil | (refine sub_cons (by k_mem) ?_))))) (by first | (exact getD3_lo (by decide) (by decide) (by decide)) | (exact getD3_hi (by decide) (by decide) (by decide)) | (exact getD2_lo (by decide) (by decide)) | (exact getD2_hi (by decide) (by decide))) (by first | (exact getD3_lo (by decide) (by decide) (by decide)) | (exact getD3_hi (by decide) (by decide) (by decide)) | (exact getD2_lo (by decide) (by decide)) | (exact getD2_hi (by decide) (by decide))) (by omega))))
            (with_reducible (refine eps_lt ?_; intro xc8; refine (?_ : ∀ y : Cl _, Ap _ y) xc8; clear xc8; intro probe; refine ap_mk ?_)); (with_reducible (refine eps_lt ?_; intro xc8; refine (?_ : ∀ y : Cl _, Ap _ y) xc8; clear xc8; intro k; refine ap_mk ?_)); (with_reducible (refine eps_lt ?_; intro xc8; refine (?_ : ∀ y : Cl _, Ap _ y) xc8; clear xc8; intro t; refine ap_mk ?_)); (with_reducible (refine eps_lt ?_; intro xc8; refine (?_ : ∀ y : Cl _, Ap _ y) xc8; clear xc8; intro u3; refine ap_mk ?_)); (with_reducible (refine eps_lt ?_; intro xc8; refine (?_ : ∀ y : Cl _, Ap _ y) xc8; clear xc8; intro c1; refine ap_mk ?_)); (with_reducible (refine eps_lt ?_; intro xc8; refine (?_ : ∀ y : Cl _, Ap _ y) xc8; clear xc8; intro m; refine ap_mk ?_)); (with_reducible (refine eps_lt ?_; intro xc8; refine (?_ : ∀ y : Cl _, Ap _ y) xc8; clear xc8; intro h'; refine ap_mk ?_)); (with_reducible (refine eps_lt ?_; intro xc8; refine (?_ : ∀ y : Cl _, Ap _ y) xc8; clear xc8; intro tk'; refine ap_mk ?_))
            intro F N q0 q1 k0
            refine Mine.cut4 F N ?_ ?_
            · (k_extra "STEPS9"; (all_goals ((rename News _ _ _ (_ :: _) => Nk9); exact Mine.P4.intro _ _ _ _ _ _ (by k_asm) (news_sub Nk9 (by (repeat (first | exact sub_nil | (refine sub_cons (by k_mem) ?_))))) (by omega))))
            (with_reducible (refine eps_lt ?_; intro xc8; refine (?_ : ∀ y : Cl _, Ap _ y) xc8; clear xc8; intro now; refine ap_mk ?_)); (with_reducible (refine eps_lt ?_; intro xc8; refine (?_ : ∀ y : Cl _, Ap _ y) xc8; clear xc8; intro k; refine ap_mk ?_)); (with_reducible (refine eps_lt ?_; intro xc8; refine (?_ : ∀ y : Cl _, Ap _ y) xc8; clear xc8; intro t; refine ap_mk ?_)); (with_reducible (refine eps_lt ?_; intro xc8; refine (?_ : ∀ y : Cl _, Ap _ y) xc8; clear xc8; intro u4; refine ap_mk ?_)); (with_reducible (refine eps_lt ?_; intro xc8; refine (?_ : ∀ y : Cl _, Ap _ y) xc8; clear xc8; intro c1; refine ap_mk ?_)); (with_reducible (refine eps_lt ?_; intro xc8; refine (?_ : ∀ y : Cl _, Ap _ y) xc8; clear xc8; intro m; refine ap_mk ?_)); (with_reducible (refine eps_lt ?_; intro xc8; refine (?_ : ∀ y : Cl _, Ap _ y) xc8; clear xc8; intro h'; refine ap_mk ?_)); (with_reducible (refine eps_lt ?_; intro xc8; refine (?_ : ∀ y : Cl _, Ap _ y) xc8; clear xc8; intro tk'; refine ap_mk ?_))
            intro F N k0
            refine Mine.cut5 F N ?_ ?_
            · (clear n1 n2 n3 n4 n5 n6 n7 n8 n9 n10; k_extra "STEPS9"; (all_goals (repeat (rename (@Ne Nat _ _) => hh9; clear hh9))); (all_goals first | ((rename News _ _ _ (_ :: _) => Nk9); exact Mine.P5.intro _ _ (by k_asm) (news_sub Nk9 (by (repeat (first | exact sub_nil | (refine sub_cons (by k_mem) ?_))))) (by first | (refine isOpt_some ?_; ((unfold waitOf); (repeat' split) <;> first | (exfalso; omega) | rfl | (refine congrArg some ?_; omega))) | (refine isOpt_none ?_; ((unfold waitOf); (repeat' split) <;> first | (exfalso; omega) | rfl | (refine congrArg some ?_; omega))))) | (exfalso; omega)))
            (with_reducible (refine eps_lt ?_; intro xc8; refine (?_ : ∀ y : Cl _, Ap _ y) xc8; clear xc8; intro v; refine ap_mk ?_)); (with_reducible (refine eps_lt ?_; intro xc8; refine (?_ : ∀ y : Cl _, Ap _ y) xc8; clear xc8; intro m; refine ap_mk ?_)); (with_reducible (refine eps_lt ?_; intro xc8; refine (?_ : ∀ y : Cl _, Ap _ y) xc8; clear xc8; intro h'; refine ap_mk ?_)); (with_reducible (refine eps_lt ?_; intro xc8; refine (?_ : ∀ y : Cl _, Ap _ y) xc8; clear xc8; intro tk'; refine ap_mk ?_))
            intro F N hv
            obtain ⟨tw, rfl⟩ := hv
            (refine hd_in ?_); revert tw; (with_reducible (refine eps_lt ?_; intro xc8; refine (?_ : ∀ y : Cl _, Ap _ y) xc8; clear xc8; intro tw; refine ap_mk ?_)); (first | (intro F; with_reducible refine hd_out ?_) | (intro F N; with_reducible refine hd_out ?_))
            refine Mine.cut6 (w := w) F N ?_ ?_
            · (k_extra "STEPS9"; (all_goals ((rename News _ _ _ (_ :: _) => Nk9); exact Mine.P6.intro _ _ _ _ _ _ _ _ (by k_asm) (news_sub Nk9 (by (repeat (first | exact sub_nil | (refine sub_cons (by k_mem) ?_))))) (by (simp only [List.nodup_cons, List.mem_cons, List.not_mem_nil, or_false, not_or, List.nodup_nil, and_true, not_false_eq_true]; (repeat' (refine And.intro ?_ ?_)) <;> omega)))))
            (with_reducible (refine eps_lt ?_; intro xc8; refine (?_ : ∀ y : Cl _, Ap _ y) xc8; clear xc8; intro ia; refine ap_mk ?_)); (with_reducible (refine eps_lt ?_; intro xc8; refine (?_ : ∀ y : Cl _, Ap _ y) xc8; clear xc8; intro da; refine ap_mk ?_)); (with_reducible (refine eps_lt ?_; intro xc8; refine (?_ : ∀ y : Cl _, Ap _ y) xc8; clear xc8; intro k1; refine ap_mk ?_)); (with_reducible (refine eps_lt ?_; intro xc8; refine (?_ : ∀ y : Cl _, Ap _ y) xc8; clear xc8; intro k2; refine ap_mk ?_)); (with_reducible (refine eps_lt ?_; intro xc8; refine (?_ : ∀ y : Cl _, Ap _ y) xc8; clear xc8; intro k3; refine ap_mk ?_)); (with_reducible (refine eps_lt ?_; intro xc8; refine (?_ : ∀ y : Cl _, Ap _ y) xc8; clear xc8; intro k4; refine ap_mk ?_)); (with_reducible (refine eps_lt ?_; intro xc8; refine (?_ : ∀ y : Cl _, Ap _ y) xc8; clear xc8; intro u0; refine ap_mk ?_)); (with_reducible (refine eps_lt ?_; intro xc8; refine (?_ : ∀ y : Cl _, Ap _ y) xc8; clear xc8; intro m; refine ap_mk ?_)); (with_reducible (refine eps_lt ?_; intro xc8; refine (?_ : ∀ y : Cl _, Ap _ y) xc8; clear xc8; intro h'; refine ap_mk ?_)); (with_reducible (refine eps_lt ?_; intro xc8; refine (?_ : ∀ y : Cl _, Ap _ y) xc8; clear xc8; intro tk'; refine ap_mk ?_))
            intro F N hnd
            simp only [List.nodup_cons, List.mem_cons, List.not_mem_nil, or_false, not_or, List.nodup_nil, and_true, not_false_eq_true] at hnd
            obtain ⟨⟨a1, a2, a3, a4, a5, a6⟩, ⟨a7, a8, a9, a10, a11⟩, _⟩ := hnd
            refine Mine.cut7 (w := w) F N ?_ ?_
            · (k_extra "STEPS9"; (all_goals ((rename News _ _ _ (_ ++ _) => Nk9); (rename ConnIn _ _ _ _ _ _ => C8); exact Mine.P7.intro _ _ _ (by k_asm) (six674 Nk9 (need2_cons (by k_mem) (by k_ne) (need2_cons (by k_mem) (by k_ne) (need2_cons (by k_mem) (by k_ne) (need2_cons (by k_mem) (by k_ne) (need2_cons (by k_mem) (by k_ne) (need2_cons (by k_mem) (by k_ne) need2_nil))))))) C8 ⟨_, by assumption⟩ (ap674 (by assumption) (by k_mem) (by k_ne)) (ap674 (by assumption) (by k_mem) (by k_ne)) (ap674 (by assumption) (by k_mem) (by k_ne)) (ap674 (by assumption) (by k_mem) (by k_ne)) (ap674 (by assumption) (by k_mem) (by k_ne)) (ap674 (by assumption) (by k_mem) (by k_ne)))))
            (with_reducible (refine eps_lt ?_; intro xc8; refine (?_ : ∀ y : Cl _, Ap _ y) xc8; clear xc8; intro co; refine ap_mk ?_)); (with_reducible (refine eps_lt ?_; intro xc8; refine (?_ : ∀ y : Cl _, Ap _ y) xc8; clear xc8; intro X; refine ap_mk ?_)); (with_reducible (refine eps_lt ?_; intro xc8; refine (?_ : ∀ y : Cl _, Ap _ y) xc8; clear xc8; intro m; refine ap_mk ?_)); (with_reducible (refine eps_lt ?_; intro xc8; refine (?_ : ∀ y : Cl _, Ap _ y) xc8; clear xc8; intro h'; refine ap_mk ?_)); (with_reducible (refine eps_lt ?_; intro xc8; refine (?_ : ∀ y : Cl _, Ap _ y) xc8; clear xc8; intro tk'; refine ap_mk ?_))
            intro F N HC HT x1 x2 x3 x4 x5 x6
            simp only [List.cons_append, List.nil_append] at N
            refine Mine.cut8 (w := w) F N ?_ ?_
            · (k_extra "STEPS9"; (all_goals ((rename News _ _ _ (_ :: _) => Nk9); exact Mine.P8.intro _ (by k_asm) (news_sub Nk9 (by (repeat (first | exact sub_self | (refine sub_cons (by k_mem) ?_) | refine sub_tail ?_)))))))
            (with_reducible (refine eps_lt ?_; intro xc8; refine (?_ : ∀ y : Cl _, Ap _ y) xc8; clear xc8; intro m; refine ap_mk ?_)); (with_reducible (refine eps_lt ?_; intro xc8; refine (?_ : ∀ y : Cl _, Ap _ y) xc8; clear xc8; intro h'; refine ap_mk ?_)); (with_reducible (refine eps_lt ?_; intro xc8; refine (?_ : ∀ y : Cl _, Ap _ y) xc8; clear xc8; intro tk'; refine ap_mk ?_))
            intro F N
            simp only [List.cons_append, List.nil_append] at N
            refine Mine.cut9 (w := w) F N ?_ ?_
            · (k_extra "STEPS9"; (all_goals ((rename News _ _ _ (_ :: _) => Nk9); exact Mine.P8.intro _ (by k_asm) (news_sub Nk9 (by (repeat (first | exact sub_self | (refine sub_cons (by k_mem) ?_) | refine sub_tail ?_)))))))
            (with_reducible (refine eps_lt ?_; intro xc8; refine (?_ : ∀ y : Cl _, Ap _ y) xc8; clear xc8; intro m; refine ap_mk ?_)); (with_reducible (refine eps_lt ?_; intro xc8; refine (?_ : ∀ y : Cl _, Ap _ y) xc8; clear xc8; intro h'; refine ap_mk ?_)); (with_reducible (refine eps_lt ?_; intro xc8; refine (?_ : ∀ y : Cl _, Ap _ y) xc8; clear xc8; intro tk'; refine ap_mk ?_))
            intro F N
            simp only [List.cons_append, List.nil_append] at N
            refine Mine.cut10 F N ?_ ?_
            · (refine Mine.g_For ?_
               k_extra "STEPS9"
               skip
               (rename News _ _ _ (_ :: _) => Nk9)
               (have Fj := Mine.frStart (by k_asm : Fr (ghostOf s₁.heap [(678, 674)]) s₁.heap.objs.size _ (fun y => if y = Str.ofString "conn" then some (.ref co) else if y = Str.ofString "idle" then some (.ref ia) else if y = Str.ofString "wait" then some (optV (waitOf own peer probe) tw) else if y = Str.ofString "now" then some (.int now u4) else if y = Str.ofString "probe" then some (.int probe u3) else if y = Str.ofString "peer" then some (.int peer u2) else if y = Str.ofString "own" then some (.int own u1) else if y = Str.ofString "deeds" then some (.ref D) else m y)) rfl)
               refine Mine.g_range (fun i m' news' => Mine.LJ w (ghostOf s₁.heap [(678, 674)]) s₁.heap.objs.size B S D (s₁.heap.objs.size + 1) ia da co c2 ws o own peer probe now u1 u2 u3 u4 tw k1 k2 k3 k4 m i m' news') rfl rfl rfl (by assumption) (small_one (by omega) (by omega) (by omega) (by omega)) (rangeSize_nat _ _) Fj (news_sub Nk9 (by (repeat (first | exact sub_self | (refine sub_cons (by k_mem) ?_) | refine sub_tail ?_)))) (Mine.LJ.intro now _ u4 _ _ _ none false _ X [] [] 0 _ _ rfl (Nat.le_refl _) Mine.lawSince_nil HC Mine.deeds_nil HT (by omega) x1 x2 x3 x4 x5 x6) ?_ ?_
               · (with_reducible (refine eps_lt ?_; intro xc8; refine (?_ : ∀ y : Cl _, Ap _ y) xc8; clear xc8; intro i; refine ap_mk ?_)); (with_reducible (refine eps_lt ?_; intro xc8; refine (?_ : ∀ y : Cl _, Ap _ y) xc8; clear xc8; intro t'; refine ap_mk ?_)); (with_reducible (refine eps_lt ?_; intro xc8; refine (?_ : ∀ y : Cl _, Ap _ y) xc8; clear xc8; intro m₁; refine ap_mk ?_)); (with_reducible (refine eps_lt ?_; intro xc8; refine (?_ : ∀ y : Cl _, Ap _ y) xc8; clear xc8; intro news₁; refine ap_mk ?_)); (with_reducible (refine eps_lt ?_; intro xc8; refine (?_ : ∀ y : Cl _, Ap _ y) xc8; clear xc8; intro h; refine ap_mk ?_)); (with_reducible (refine eps_lt ?_; intro xc8; refine (?_ : ∀ y : Cl _, Ap _ y) xc8; clear xc8; intro tk; refine ap_mk ?_)); (with_reducible (refine eps_lt ?_; intro xc8; refine (?_ : ∀ y : Cl _, Ap _ y) xc8; clear xc8; intro I; refine ap_mk ?_)); (with_reducible (refine eps_lt ?_; intro xc8; refine (?_ : ∀ y : Cl _, Ap _ y) xc8; clear xc8; intro oI; refine ap_mk ?_))
                 intro hi hJ
                 apply Mine.LJ.elim hJ
                 (with_reducible (refine eps_lt ?_; intro xc8; refine (?_ : ∀ y : Cl _, Ap _ y) xc8; clear xc8; intro nw; refine ap_mk ?_)); (with_reducible (refine eps_lt ?_; intro xc8; refine (?_ : ∀ y : Cl _, Ap _ y) xc8; clear xc8; intro kk; refine ap_mk ?_)); (with_reducible (refine eps_lt ?_; intro xc8; refine (?_ : ∀ y : Cl _, Ap _ y) xc8; clear xc8; intro v4; refine ap_mk ?_)); (with_reducible (refine eps_lt ?_; intro xc8; refine (?_ : ∀ y : Cl _, Ap _ y) xc8; clear xc8; intro tt; refine ap_mk ?_)); (with_reducible (refine eps_lt ?_; intro xc8; refine (?_ : ∀ y : Cl _, Ap _ y) xc8; clear xc8; intro cb; refine ap_mk ?_)); (with_reducible (refine eps_lt ?_; intro xc8; refine (?_ : ∀ y : Cl _, Ap _ y) xc8; clear xc8; intro cD; refine ap_mk ?_)); (with_reducible (refine eps_lt ?_; intro xc8; refine (?_ : ∀ y : Cl _, Ap _ y) xc8; clear xc8; intro sv; refine ap_mk ?_)); (with_reducible (refine eps_lt ?_; intro xc8; refine (?_ : ∀ y : Cl _, Ap _ y) xc8; clear xc8; intro asked; refine ap_mk ?_)); (with_reducible (refine eps_lt ?_; intro xc8; refine (?_ : ∀ y : Cl _, Ap _ y) xc8; clear xc8; intro ts; refine ap_mk ?_)); (with_reducible (refine eps_lt ?_; intro xc8; refine (?_ : ∀ y : Cl _, Ap _ y) xc8; clear xc8; intro X; refine ap_mk ?_)); (with_reducible (refine eps_lt ?_; intro xc8; refine (?_ : ∀ y : Cl _, Ap _ y) xc8; clear xc8; intro dvs; refine ap_mk ?_)); (with_reducible (refine eps_lt ?_; intro xc8; refine (?_ : ∀ y : Cl _, Ap _ y) xc8; clear xc8; intro Dd; refine ap_mk ?_)); (with_reducible (refine eps_lt ?_; intro xc8; refine (?_ : ∀ y : Cl _, Ap _ y) xc8; clear xc8; intro nn; refine ap_mk ?_)); (with_reducible (refine eps_lt ?_; intro xc8; refine (?_ : ∀ y : Cl _, Ap _ y) xc8; clear xc8; intro tv; refine ap_mk ?_)); (with_reducible (refine eps_lt ?_; intro xc8; refine (?_ : ∀ y : Cl _, Ap _ y) xc8; clear xc8; intro sv9; refine ap_mk ?_))
                 intro e1 e2 e3 HC HD HT k0 x1 x2 x3 x4 x5 x6 F N hoff
                 have F := Mine.frTurn F
                 have xI : ∀ p ∈ X, @Ne Nat p.1 I := fun p hp => hoff p (List.mem_append_right _ hp)
                 simp only [List.cons_append, List.nil_append, List.forall_mem_cons] at hoff
                 obtain ⟨i1, i2, i3, i4, i5, i6, _⟩ := hoff
                 have hn7 : @LE.le Nat _ nn 7 := by omega
                 have hd8 : dvs.length ≤ 7 := by have := HD.1; omega
                 have hD8 : Dd.length + 1 ≤ 1000 := by omega
                 clear hi
                 simp only [List.cons_append, List.nil_append] at N
                 refine Mine.cutT1 F N ?_ ?_
                 · (k_extra "STEPS9"; (all_goals ((rename News _ _ _ (_ :: _) => Nk9); exact Mine.T1.intro _ _ _ _ _ (Mine.frNow (by k_asm)) (news_sub Nk9 (by (repeat (first | exact sub_self | (refine sub_cons (by k_mem) ?_) | refine sub_tail ?_)))) (Int.add_nonneg k0 (by decide)))))
                 (with_reducible (refine eps_lt ?_; intro xc8; refine (?_ : ∀ y : Cl _, Ap _ y) xc8; clear xc8; intro nw; refine ap_mk ?_)); (with_reducible (refine eps_lt ?_; intro xc8; refine (?_ : ∀ y : Cl _, Ap _ y) xc8; clear xc8; intro kk; refine ap_mk ?_)); (with_reducible (refine eps_lt ?_; intro xc8; refine (?_ : ∀ y : Cl _, Ap _ y) xc8; clear xc8; intro v4; refine ap_mk ?_)); (with_reducible (refine eps_lt ?_; intro xc8; refine (?_ : ∀ y : Cl _, Ap _ y) xc8; clear xc8; intro tt; refine ap_mk ?_)); (with_reducible (refine eps_lt ?_; intro xc8; refine (?_ : ∀ y : Cl _, Ap _ y) xc8; clear xc8; intro cb; refine ap_mk ?_)); (with_reducible (refine eps_lt ?_; intro xc8; refine (?_ : ∀ y : Cl _, Ap _ y) xc8; clear xc8; intro h'; refine ap_mk ?_)); (with_reducible (refine eps_lt ?_; intro xc8; refine (?_ : ∀ y : Cl _, Ap _ y) xc8; clear xc8; intro tk'; refine ap_mk ?_))
                 intro F N k0
                 simp only [List.cons_append, List.nil_append] at N
                 refine Mine.cutT2 F N ?_ ?_
                 · (k_extra "STEPS9"; (all_goals ((rename News _ _ _ (_ :: _) => Nk9); exact Mine.T2.intro _ _ _ _ _ (Mine.frSort (by k_asm)) (news_sub Nk9 (by (repeat (first | exact sub_self | (refine sub_cons (by k_mem) ?_) | refine sub_tail ?_)))) (Int.add_nonneg k0 (by decide)) (by assumption) (by assumption))))
                 (with_reducible (refine eps_lt ?_; intro xc8; refine (?_ : ∀ y : Cl _, Ap _ y) xc8; clear xc8; intro r; refine ap_mk ?_)); (with_reducible (refine eps_lt ?_; intro xc8; refine (?_ : ∀ y : Cl _, Ap _ y) xc8; clear xc8; intro kk; refine ap_mk ?_)); (with_reducible (refine eps_lt ?_; intro xc8; refine (?_ : ∀ y : Cl _, Ap _ y) xc8; clear xc8; intro ur; refine ap_mk ?_)); (with_reducible (refine eps_lt ?_; intro xc8; refine (?_ : ∀ y : Cl _, Ap _ y) xc8; clear xc8; intro tt; refine ap_mk ?_)); (with_reducible (refine eps_lt ?_; intro xc8; refine (?_ : ∀ y : Cl _, Ap _ y) xc8; clear xc8; intro cb; refine ap_mk ?_)); (with_reducible (refine eps_lt ?_; intro xc8; refine (?_ : ∀ y : Cl _, Ap _ y) xc8; clear xc8; intro h'; refine ap_mk ?_)); (with_reducible (refine eps_lt ?_; intro xc8; refine (?_ : ∀ y : Cl _, Ap _ y) xc8; clear xc8; intro tk'; refine ap_mk ?_))
                 intro F N k0 r0 r1
                 simp only [List.cons_append, List.nil_append] at N
                 refine Mine.cutT3 (Dd := Dd) (nn := nn) F N ?_ ?_
                 · have hr : @Eq Int r 2 ∨ @Eq Int r 0 ∨ @Eq Int r 1 := by omega
                   rcases hr with rfl | rfl | rfl
                   · (k_extra "STEPS9"; (all_goals ((rename News _ _ _ (_ :: _) => Nk9); exact Mine.T3.intro (some nw) false _ X nn (by k_asm) (news_sub Nk9 (by (repeat (first | exact sub_self | (refine sub_cons (by k_mem) ?_) | refine sub_tail ?_)))) (Mine.lawSince_came _ _) (Nat.le_succ _) HC HD HT x1 x2 x3 x4 x5 x6 xI)))
                   · (k_extra "STEPS9"; (all_goals ((rename News _ _ _ (_ :: (butOf _ _ ++ _)) => Nk9); exact Mine.T3.intro (Mine.sentS true asked sv nw) (true || asked) _ _ (nn + 1) (by k_asm) (Mine.after_seal Nk9 (al_cons (by k_mem) (by k_ne) (by assumption) (al_self (al_cons (by k_mem) (by k_ne) (by assumption) (al_cons (by k_mem) (by k_ne) (by assumption) (al_cons (by k_mem) (by k_ne) (by assumption) (al_cons (by k_mem) (by k_ne) (by assumption) (al_cons (by k_mem) (by k_ne) (by assumption) al_nil)))))))) (by rw [Mine.lawSince_ask, e3]) (by omega) (by assumption) (by assumption) (Mine.tab_surv HT (by assumption)) (by assumption) (ap_seal (by assumption) (by k_mem) (by k_ne) (by assumption)) (ap_seal (by assumption) (by k_mem) (by k_ne) (by assumption)) (ap_seal (by assumption) (by k_mem) (by k_ne) (by assumption)) (ap_seal (by assumption) (by k_mem) (by k_ne) (by assumption)) (ap_seal (by assumption) (by k_mem) (by k_ne) (by assumption)) (ap_seal (by assumption) (by k_mem) (by k_ne) (by assumption)))))
                   · (k_extra "STEPS9"; (all_goals ((rename News _ _ _ (_ :: (butOf _ _ ++ _)) => Nk9); exact Mine.T3.intro (Mine.sentS false asked sv nw) (false || asked) _ _ (nn + 1) (by k_asm) (Mine.after_seal Nk9 (al_cons (by k_mem) (by k_ne) (by assumption) (al_self (al_cons (by k_mem) (by k_ne) (by assumption) (al_cons (by k_mem) (by k_ne) (by assumption) (al_cons (by k_mem) (by k_ne) (by assumption) (al_cons (by k_mem) (by k_ne) (by assumption) (al_cons (by k_mem) (by k_ne) (by assumption) al_nil)))))))) ((Mine.lawSince_ack _ _).trans e3) (by omega) (by assumption) (by assumption) (Mine.tab_surv HT (by assumption)) (by assumption) (ap_seal (by assumption) (by k_mem) (by k_ne) (by assumption)) (ap_seal (by assumption) (by k_mem) (by k_ne) (by assumption)) (ap_seal (by assumption) (by k_mem) (by k_ne) (by assumption)) (ap_seal (by assumption) (by k_mem) (by k_ne) (by assumption)) (ap_seal (by assumption) (by k_mem) (by k_ne) (by assumption)) (ap_seal (by assumption) (by k_mem) (by k_ne) (by assumption)))))
                 clear HC HD HT x1 x2 x3 x4 x5 x6 xI e3
                 (with_reducible (refine eps_lt ?_; intro xc8; refine (?_ : ∀ y : Cl _, Ap _ y) xc8; clear xc8; intro sv; refine ap_mk ?_)); (with_reducible (refine eps_lt ?_; intro xc8; refine (?_ : ∀ y : Cl _, Ap _ y) xc8; clear xc8; intro asked; refine ap_mk ?_)); (with_reducible (refine eps_lt ?_; intro xc8; refine (?_ : ∀ y : Cl _, Ap _ y) xc8; clear xc8; intro ts; refine ap_mk ?_)); (with_reducible (refine eps_lt ?_; intro xc8; refine (?_ : ∀ y : Cl _, Ap _ y) xc8; clear xc8; intro X; refine ap_mk ?_)); (with_reducible (refine eps_lt ?_; intro xc8; refine (?_ : ∀ y : Cl _, Ap _ y) xc8; clear xc8; intro nn1; refine ap_mk ?_)); (with_reducible (refine eps_lt ?_; intro xc8; refine (?_ : ∀ y : Cl _, Ap _ y) xc8; clear xc8; intro h'; refine ap_mk ?_)); (with_reducible (refine eps_lt ?_; intro xc8; refine (?_ : ∀ y : Cl _, Ap _ y) xc8; clear xc8; intro tk'; refine ap_mk ?_))
                 intro F N e3 hnn HC HD HT z1 z2 z3 z4 z5 z6 z7
                 simp only [List.cons_append, List.nil_append] at N
                 refine Mine.cutT4 (Dd := Dd) (nn' := nn1) F N ?_ ?_
                 · (k_extra "STEPS9"; (all_goals ((rename News _ _ _ (_ :: _) => Nk9); (simp only [List.push_toArray] at Nk9); exact Mine.T4.intro (dvs ++ [.ref _]) _ ((_, { cls := .type "tuple", data := .seq #[.int nw v4, .int r ur] }) :: X) (by k_asm) (news_sub Nk9 (by (repeat (first | exact sub_self | (refine sub_cons (by k_mem) ?_) | refine sub_tail ?_)))) (Mine.ConnIn.mono HC (fun q hq => List.mem_cons_of_mem _ hq)) (Mine.DeedsN.snoc HD) (HT.elim (fun ps hp => ⟨ps, List.mem_cons_of_mem _ hp⟩)) (ap_cons (by k_ne) (by assumption)) (ap_cons (by k_ne) (by assumption)) (ap_cons (by k_ne) (by assumption)) (ap_cons (by k_ne) (by assumption)) (ap_cons (by k_ne) (by assumption)) (ap_cons (by k_ne) (by assumption)) (ap_cons (by k_ne) (by assumption)))))
                 clear HC HD HT z1 z2 z3 z4 z5 z6 z7
                 (with_reducible (refine eps_lt ?_; intro xc8; refine (?_ : ∀ y : Cl _, Ap _ y) xc8; clear xc8; intro dvs; refine ap_mk ?_)); (with_reducible (refine eps_lt ?_; intro xc8; refine (?_ : ∀ y : Cl _, Ap _ y) xc8; clear xc8; intro cD; refine ap_mk ?_)); (with_reducible (refine eps_lt ?_; intro xc8; refine (?_ : ∀ y : Cl _, Ap _ y) xc8; clear xc8; intro X; refine ap_mk ?_)); (with_reducible (refine eps_lt ?_; intro xc8; refine (?_ : ∀ y : Cl _, Ap _ y) xc8; clear xc8; intro h'; refine ap_mk ?_)); (with_reducible (refine eps_lt ?_; intro xc8; refine (?_ : ∀ y : Cl _, Ap _ y) xc8; clear xc8; intro tk'; refine ap_mk ?_))
                 intro F N HC HD HT z1 z2 z3 z4 z5 z6 z7
                 simp only [List.cons_append, List.nil_append] at N
                 have hl9 : (Dd ++ [(nw, r)]).length ≤ 1000 := by rw [List.length_append, List.length_singleton]; exact hD8
                 · (k_extra "STEPS9"; (all_goals ((rename News _ _ _ (_ :: _) => Nk9); exact ⟨_, _, _, _, rfl, (by k_asm), news_sub Nk9 (by (repeat (first | exact sub_self | (refine sub_cons (by k_mem) ?_) | refine sub_tail ?_))), (by exact ne_all_cons (by k_ne) (ne_all_cons (by k_ne) (ne_all_cons (by k_ne) (ne_all_cons (by k_ne) (ne_all_cons (by k_ne) (ne_all_cons (by k_ne) z7)))))), Mine.LJ.intro nw kk v4 tt cb _ _ _ _ _ _ (Dd ++ [(nw, r)]) nn1 _ _ (by rw [List.length_append, List.length_singleton, e1]) (by omega) e3 HC HD HT k0 z1 z2 z3 z4 z5 z6⟩)))
               · (with_reducible (refine eps_lt ?_; intro xc8; refine (?_ : ∀ y : Cl _, Ap _ y) xc8; clear xc8; intro h; refine ap_mk ?_)); (with_reducible (refine eps_lt ?_; intro xc8; refine (?_ : ∀ y : Cl _, Ap _ y) xc8; clear xc8; intro tk; refine ap_mk ?_)); (with_reducible (refine eps_lt ?_; intro xc8; refine (?_ : ∀ y : Cl _, Ap _ y) xc8; clear xc8; intro m'; refine ap_mk ?_)); (with_reducible (refine eps_lt ?_; intro xc8; refine (?_ : ∀ y : Cl _, Ap _ y) xc8; clear xc8; intro news'; refine ap_mk ?_))
                 intro hJ
                 apply Mine.LJ.elim hJ
                 rintro now k u4 t c1 cD sv asked ts X dvs Dd nn tv sv9 e1 e2 e3 HC HD ⟨ps, HT⟩ _ _ _ _ _ _ _ F N
                 exact Mine.P10.intro _ _ F N ⟨ps, List.mem_append_right _ HT⟩)
            rintro m9 news9 h' tk' F N ⟨ps9, HT9⟩
            k_extra "STEPS9"
            done))
      case j9 => revert k9; (try delta id ap_mk hd_in hd_out); intro k9; (try conv at k9 => zeta); exact k9)) only [↓bxT]
end
end Mine
namespace Mine
section
open _root_.PySem _root_.PySem.W _root_.PyProof.Rows _root_.PySem.Calls _root_.PySem.Spec
set_option maxRecDepth 100000
set_option maxHeartbeats 8000000
set_option Elab.async true
namespace B
namespace fin
theorem tw10091737694555223756:True:=⟨⟩
theorem tw10133444441085425196:True:=⟨⟩
theorem tw10170923412822755516:True:=⟨⟩
theorem tw10350664836213519936:True:=⟨⟩
theorem tw10371519670434269381:True:=⟨⟩
theorem tw10410782428496010285:True:=⟨⟩
theorem tw10475091386575504529:True:=⟨⟩
theorem tw10524025136663556835:True:=⟨⟩
theorem tw1054082683022477217:True:=⟨⟩
theorem tw10575069730798032496:True:=⟨⟩
theorem tw10662843380203202771:True:=⟨⟩
theorem tw1067277876978516652:True:=⟨⟩
theorem tw10762849394873279392:True:=⟨⟩
theorem tw10774881352391406260:True:=⟨⟩
theorem tw10864731979946050656:True:=⟨⟩
theorem tw10900658044076775257:True:=⟨⟩
theorem tw10928787544609255269:True:=⟨⟩
theorem tw10983907460665303475:True:=⟨⟩
theorem tw11026530400050982908:True:=⟨⟩
theorem tw11137560316602782664:True:=⟨⟩
theorem tw11140069955102298841:True:=⟨⟩
theorem tw11157406013478525825:True:=⟨⟩
theorem tw11210201364887954632:True:=⟨⟩
theorem tw11211696615433395248:True:=⟨⟩
theorem tw11229768051512030457:True:=⟨⟩
theorem tw11231038935113704470:True:=⟨⟩
theorem tw1123298296378930757:True:=⟨⟩
theorem tw11256239276997639054:True:=⟨⟩
theorem tw11354391966810062557:True:=⟨⟩
theorem tw11422059508313471859:True:=⟨⟩
theorem tw11458873771002148321:True:=⟨⟩
theorem tw11484369653507309704:True:=⟨⟩
theorem tw1160781478219044030:True:=⟨⟩
theorem tw1161836956121126902:True:=⟨⟩
theorem tw11621280589429384326:True:=⟨⟩
theorem tw1162875507707817872:True:=⟨⟩
theorem tw11665461977003494223:True:=⟨⟩
theorem tw11687116483534637458:True:=⟨⟩
theorem tw11975201604831501965:True:=⟨⟩
theorem tw11981127756359398692:True:=⟨⟩
theorem tw12010001717721631106:True:=⟨⟩
theorem tw12019722263179633309:True:=⟨⟩
theorem tw1207490770433880519:True:=⟨⟩
theorem tw12098745137082740157:True:=⟨⟩
theorem tw12141826603914575877:True:=⟨⟩
theorem tw12233416464256906505:True:=⟨⟩
theorem tw1236524571455503626:True:=⟨⟩
theorem tw12409925248744987731:True:=⟨⟩
theorem tw12463608446041873533:True:=⟨⟩
theorem tw12516718683457738953:True:=⟨⟩
theorem tw12519554853524229098:True:=⟨⟩
theorem tw12548365521162370157:True:=⟨⟩
theorem tw1259220085093888582:True:=⟨⟩
theorem tw12646736157435844806:True:=⟨⟩
theorem tw12745675578413046245:True:=⟨⟩
theorem tw12796879525060836523:True:=⟨⟩
theorem tw12921459355928963087:True:=⟨⟩
theorem tw13026984508570734926:True:=⟨⟩
theorem tw13151411078803964709:True:=⟨⟩
theorem tw1316846634702090924:True:=⟨⟩
theorem tw13198707333041186667:True:=⟨⟩
theorem tw13259589121173377179:True:=⟨⟩
theorem tw13326329364193601686:True:=⟨⟩
theorem tw13342018522793259120:True:=⟨⟩
theorem tw13344138482708887698:True:=⟨⟩
theorem tw13351868388035228652:True:=⟨⟩
theorem tw13357279491611356391:True:=⟨⟩
theorem tw13408929375047924880:True:=⟨⟩
theorem tw13431700582402187909:True:=⟨⟩
theorem tw13471575168270298187:True:=⟨⟩
theorem tw13510960127990429705:True:=⟨⟩
theorem tw13538742120942550673:True:=⟨⟩
theorem tw13664943376765896491:True:=⟨⟩
theorem tw13872552743044151935:True:=⟨⟩
theorem tw13916208620186277486:True:=⟨⟩
theorem tw13928734228358999976:True:=⟨⟩
theorem tw13955406807675491821:True:=⟨⟩
theorem tw139685846697311788:True:=⟨⟩
theorem tw14001114373838844508:True:=⟨⟩
theorem tw14028807537144330811:True:=⟨⟩
theorem tw14109909601503074985:True:=⟨⟩
theorem tw14207572899267658019:True:=⟨⟩
theorem tw14241599399772703919:True:=⟨⟩
theorem tw14263760688433466729:True:=⟨⟩
theorem tw14337115880526503624:True:=⟨⟩
theorem tw14376820136168463256:True:=⟨⟩
theorem tw1441761442439638068:True:=⟨⟩
theorem tw14449776717834595130:True:=⟨⟩
theorem tw14527623345424160670:True:=⟨⟩
theorem tw1459722081036623204:True:=⟨⟩
theorem tw14617066471123938407:True:=⟨⟩
theorem tw14714297188323930942:True:=⟨⟩
theorem tw14773497118854969698:True:=⟨⟩
theorem tw14871407235909433542:True:=⟨⟩
theorem tw14876810410373554675:True:=⟨⟩
theorem tw14964961510614046591:True:=⟨⟩
theorem tw15014977328351114185:True:=⟨⟩
theorem tw15070613700591689903:True:=⟨⟩
theorem tw15073934273926412557:True:=⟨⟩
theorem tw15158226806770964796:True:=⟨⟩
theorem tw15167974903410460500:True:=⟨⟩
theorem tw15180667111782658127:True:=⟨⟩
theorem tw15216067237631336975:True:=⟨⟩
theorem tw15289658014369939019:True:=⟨⟩
theorem tw15294972292868151373:True:=⟨⟩
theorem tw15319878966027093645:True:=⟨⟩
theorem tw15391698855413690047:True:=⟨⟩
theorem tw15408285747784378373:True:=⟨⟩
theorem tw1544780884054479422:True:=⟨⟩
theorem tw15476341922582722158:True:=⟨⟩
theorem tw15560944220900589174:True:=⟨⟩
theorem tw15646372024813741442:True:=⟨⟩
theorem tw15778772875831615952:True:=⟨⟩
theorem tw15792202384377239619:True:=⟨⟩
theorem tw15793971610297218109:True:=⟨⟩
theorem tw15829523713743413169:True:=⟨⟩
theorem tw1589670389847480024:True:=⟨⟩
theorem tw15899371897983566628:True:=⟨⟩
theorem tw15931328201525701798:True:=⟨⟩
theorem tw15937608324366966115:True:=⟨⟩
theorem tw16075583310544671154:True:=⟨⟩
theorem tw16105828262102903829:True:=⟨⟩
theorem tw16119763831402729091:True:=⟨⟩
theorem tw16237942801122090338:True:=⟨⟩
theorem tw16303995236179651507:True:=⟨⟩
theorem tw16318867826135044591:True:=⟨⟩
theorem tw16354351879152366866:True:=⟨⟩
theorem tw16390340605649596315:True:=⟨⟩
theorem tw16396130088168246376:True:=⟨⟩
theorem tw1641634359830808852:True:=⟨⟩
theorem tw16426467615565056852:True:=⟨⟩
theorem tw16615084470710826111:True:=⟨⟩
theorem tw16634186372158408275:True:=⟨⟩
theorem tw16644548509888621727:True:=⟨⟩
theorem tw16653164133067022032:True:=⟨⟩
theorem tw16669888402688442674:True:=⟨⟩
theorem tw16677339827516903079:True:=⟨⟩
theorem tw16708362615866671695:True:=⟨⟩
theorem tw16722006140139352484:True:=⟨⟩
theorem tw16751653543936195668:True:=⟨⟩
theorem tw16758091497346140897:True:=⟨⟩
theorem tw1677576322688161:True:=⟨⟩
theorem tw16798096946078039376:True:=⟨⟩
theorem tw16829855634708309191:True:=⟨⟩
theorem tw16844176063574786537:True:=⟨⟩
theorem tw1686094215190198300:True:=⟨⟩
theorem tw16864761799372142167:True:=⟨⟩
theorem tw1687834240883283481:True:=⟨⟩
theorem tw16894223963541439756:True:=⟨⟩
theorem tw16911276798425775308:True:=⟨⟩
theorem tw16930652399367290274:True:=⟨⟩
theorem tw16943000095538501707:True:=⟨⟩
theorem tw16951409807741867009:True:=⟨⟩
theorem tw16955055899985968140:True:=⟨⟩
theorem tw16999455063077871912:True:=⟨⟩
theorem tw17032079115813172857:True:=⟨⟩
theorem tw17053344732278596909:True:=⟨⟩
theorem tw17118925033301109799:True:=⟨⟩
theorem tw17147020779221446066:True:=⟨⟩
theorem tw17210989020251495434:True:=⟨⟩
theorem tw17221371940550626327:True:=⟨⟩
theorem tw17267525259413724690:True:=⟨⟩
theorem tw17274048396660603842:True:=⟨⟩
theorem tw17304296257255007143:True:=⟨⟩
theorem tw17323391011745289267:True:=⟨⟩
theorem tw17350053843245211675:True:=⟨⟩
theorem tw17354345328004620862:True:=⟨⟩
theorem tw17366444798097191470:True:=⟨⟩
theorem tw17375793548139631060:True:=⟨⟩
theorem tw17384221779721967172:True:=⟨⟩
theorem tw17396565513182352725:True:=⟨⟩
theorem tw17415818689765360546:True:=⟨⟩
theorem tw17531675349521409147:True:=⟨⟩
theorem tw17540387756509840965:True:=⟨⟩
theorem tw17549016684145351984:True:=⟨⟩
theorem tw17583801099244060468:True:=⟨⟩
theorem tw17654750757912371336:True:=⟨⟩
theorem tw17678602673959145415:True:=⟨⟩
theorem tw17710351482943192021:True:=⟨⟩
theorem tw17726558958977456889:True:=⟨⟩
theorem tw17728253204907864414:True:=⟨⟩
theorem tw17782860562075767980:True:=⟨⟩
theorem tw17857420567612991543:True:=⟨⟩
theorem tw17861289347678476873:True:=⟨⟩
theorem tw17885078803515282317:True:=⟨⟩
theorem tw17908737738044923110:True:=⟨⟩
theorem tw1790940443654994378:True:=⟨⟩
theorem tw17922070112361627378:True:=⟨⟩
theorem tw1798176561655068968:True:=⟨⟩
theorem tw18001008844388532847:True:=⟨⟩
theorem tw18018149585739230644:True:=⟨⟩
theorem tw18056858418933439529:True:=⟨⟩
theorem tw18072304095936071768:True:=⟨⟩
theorem tw18108378808819503804:True:=⟨⟩
theorem tw18114263811641195452:True:=⟨⟩
theorem tw18114354444602346154:True:=⟨⟩
theorem tw18136531245143513795:True:=⟨⟩
theorem tw18142844985085128035:True:=⟨⟩
theorem tw18254127496231295580:True:=⟨⟩
theorem tw18346119441102778544:True:=⟨⟩
theorem tw18426173756170255812:True:=⟨⟩
theorem tw1888684113188198775:True:=⟨⟩
theorem tw2012685132528508448:True:=⟨⟩
theorem tw2044163838051583796:True:=⟨⟩
theorem tw2097748801679650748:True:=⟨⟩
theorem tw2152041832140281957:True:=⟨⟩
theorem tw2152295917444907956:True:=⟨⟩
theorem tw2180357129159866492:True:=⟨⟩
theorem tw2183221340853739683:True:=⟨⟩
theorem tw2184751630022295149:True:=⟨⟩
theorem tw2193549479841873881:True:=⟨⟩
theorem tw2194482381525995662:True:=⟨⟩
theorem tw2274931589848015113:True:=⟨⟩
theorem tw2323897856875898360:True:=⟨⟩
theorem tw2364718507464152524:True:=⟨⟩
theorem tw2447687076813228074:True:=⟨⟩
theorem tw2503583927399778989:True:=⟨⟩
theorem tw2525251912142354473:True:=⟨⟩
theorem tw2544702126794800553:True:=⟨⟩
theorem tw2599671159813691361:True:=⟨⟩
theorem tw2664127946322322285:True:=⟨⟩
theorem tw2722686203224114609:True:=⟨⟩
theorem tw2751173101297081630:True:=⟨⟩
theorem tw2766943052924003816:True:=⟨⟩
theorem tw2786558207257593103:True:=⟨⟩
theorem tw2787259908615026986:True:=⟨⟩
theorem tw2883576725557147147:True:=⟨⟩
theorem tw2902546287412374301:True:=⟨⟩
theorem tw3014275564869684992:True:=⟨⟩
theorem tw3016083882041098907:True:=⟨⟩
theorem tw3072440739866358593:True:=⟨⟩
theorem tw3091961645027327450:True:=⟨⟩
theorem tw3133865053803592938:True:=⟨⟩
theorem tw3166936583719445861:True:=⟨⟩
theorem tw3242776716540152982:True:=⟨⟩
theorem tw3289944148620937238:True:=⟨⟩
theorem tw3307923326123131124:True:=⟨⟩
theorem tw3427196016506480824:True:=⟨⟩
theorem tw3518948055947988567:True:=⟨⟩
theorem tw3675003194565906047:True:=⟨⟩
theorem tw3721409270261484740:True:=⟨⟩
theorem tw3828694834588197477:True:=⟨⟩
theorem tw3852963554883345286:True:=⟨⟩
theorem tw3867818840895661016:True:=⟨⟩
theorem tw3937813750171234727:True:=⟨⟩
theorem tw3987566195965261838:True:=⟨⟩
theorem tw4004892678141092494:True:=⟨⟩
theorem tw4018558872816513411:True:=⟨⟩
theorem tw4081232790600803936:True:=⟨⟩
theorem tw4088193144384303879:True:=⟨⟩
theorem tw4629090818892853620:True:=⟨⟩
theorem tw47071092785446199:True:=⟨⟩
theorem tw4775199453464287895:True:=⟨⟩
theorem tw4834717408310214148:True:=⟨⟩
theorem tw497768931810312060:True:=⟨⟩
theorem tw5139815693927671684:True:=⟨⟩
theorem tw5159249278391166565:True:=⟨⟩
theorem tw5162225802848024431:True:=⟨⟩
theorem tw5190587242171803929:True:=⟨⟩
theorem tw5279079795742179758:True:=⟨⟩
theorem tw5466566238761126887:True:=⟨⟩
theorem tw5484677678083591209:True:=⟨⟩
theorem tw5561572579342728729:True:=⟨⟩
theorem tw5570037184818272941:True:=⟨⟩
theorem tw5594932196766537605:True:=⟨⟩
theorem tw5699880175174605752:True:=⟨⟩
theorem tw5713450257285913775:True:=⟨⟩
theorem tw5721598900870407038:True:=⟨⟩
theorem tw5732167406831760460:True:=⟨⟩
theorem tw5749112237034158282:True:=⟨⟩
theorem tw5754344966809015888:True:=⟨⟩
theorem tw5804323292744829802:True:=⟨⟩
theorem tw5805517262244103724:True:=⟨⟩
theorem tw5866344451271984099:True:=⟨⟩
theorem tw5907353923778322726:True:=⟨⟩
theorem tw5975094863990438936:True:=⟨⟩
theorem tw6010338811558626469:True:=⟨⟩
theorem tw603590851045443459:True:=⟨⟩
theorem tw6047698268099634997:True:=⟨⟩
theorem tw6199561415019778602:True:=⟨⟩
theorem tw6232711323723737000:True:=⟨⟩
theorem tw6240288043156204264:True:=⟨⟩
theorem tw6302533678542964848:True:=⟨⟩
theorem tw6321510833754067856:True:=⟨⟩
theorem tw6420211671059206330:True:=⟨⟩
theorem tw6461838985778852507:True:=⟨⟩
theorem tw6463089705837456272:True:=⟨⟩
theorem tw647845410502162532:True:=⟨⟩
theorem tw6515369041642211283:True:=⟨⟩
theorem tw6542047426560556264:True:=⟨⟩
theorem tw67115754806207671:True:=⟨⟩
theorem tw6826269558617137920:True:=⟨⟩
theorem tw6910852761305481178:True:=⟨⟩
theorem tw7029433382196924132:True:=⟨⟩
theorem tw7069572594809947170:True:=⟨⟩
theorem tw712382098413852737:True:=⟨⟩
theorem tw7205176184295018355:True:=⟨⟩
theorem tw7208300849345783510:True:=⟨⟩
theorem tw7271553762491752319:True:=⟨⟩
theorem tw7285594552416377687:True:=⟨⟩
theorem tw7286263765114445669:True:=⟨⟩
theorem tw7336329291863657768:True:=⟨⟩
theorem tw7351141834671561722:True:=⟨⟩
theorem tw7364610776297111847:True:=⟨⟩
theorem tw7460259884771341490:True:=⟨⟩
theorem tw7461755528757635723:True:=⟨⟩
theorem tw7522735212146437747:True:=⟨⟩
theorem tw753049440300334970:True:=⟨⟩
theorem tw7556481070481330498:True:=⟨⟩
theorem tw7560218582438203716:True:=⟨⟩
theorem tw7588072162125439240:True:=⟨⟩
theorem tw7618315955150329355:True:=⟨⟩
theorem tw7632540112957130842:True:=⟨⟩
theorem tw7674135145423358169:True:=⟨⟩
theorem tw7719870909007457336:True:=⟨⟩
theorem tw7759631076538466170:True:=⟨⟩
theorem tw7760957286564038732:True:=⟨⟩
theorem tw7852313364793002558:True:=⟨⟩
theorem tw7867569324572860150:True:=⟨⟩
theorem tw7909226474876843273:True:=⟨⟩
theorem tw7927775467733307632:True:=⟨⟩
theorem tw8030402624210501650:True:=⟨⟩
theorem tw8067295024796458477:True:=⟨⟩
theorem tw8120445091786849233:True:=⟨⟩
theorem tw8129383506043565879:True:=⟨⟩
theorem tw82485997900863477:True:=⟨⟩
theorem tw8258255943222620145:True:=⟨⟩
theorem tw8316714917127023976:True:=⟨⟩
theorem tw8492814121724979431:True:=⟨⟩
theorem tw8573348130741247881:True:=⟨⟩
theorem tw860158767414354169:True:=⟨⟩
theorem tw8657703581099550242:True:=⟨⟩
theorem tw8682233731136290626:True:=⟨⟩
theorem tw8721498725739207524:True:=⟨⟩
theorem tw873540873431742327:True:=⟨⟩
theorem tw8748724816785038840:True:=⟨⟩
theorem tw8765625395887805663:True:=⟨⟩
theorem tw8810965715163001031:True:=⟨⟩
theorem tw8828779101303121159:True:=⟨⟩
theorem tw8850301205058440629:True:=⟨⟩
theorem tw8857455844888576418:True:=⟨⟩
theorem tw8914783105713244853:True:=⟨⟩
theorem tw8956881996819245907:True:=⟨⟩
theorem tw8981717373714066237:True:=⟨⟩
theorem tw8991239125877917502:True:=⟨⟩
theorem tw9166077695366844773:True:=⟨⟩
theorem tw920771606661872150:True:=⟨⟩
theorem tw9244196428951316394:True:=⟨⟩
theorem tw9385911657852559655:True:=⟨⟩
theorem tw939368841069020129:True:=⟨⟩
theorem tw9406426907069079234:True:=⟨⟩
theorem tw9420970044799656210:True:=⟨⟩
theorem tw9428522213207577931:True:=⟨⟩
theorem tw9439003510660888346:True:=⟨⟩
theorem tw9449279364415479594:True:=⟨⟩
theorem tw9472977808237025257:True:=⟨⟩
theorem tw9500794398436484666:True:=⟨⟩
theorem tw9610893556322673996:True:=⟨⟩
theorem tw9710306084214895807:True:=⟨⟩
theorem tw9776517458777738006:True:=⟨⟩
theorem tw9793215632089218982:True:=⟨⟩
theorem tw9853845102769816580:True:=⟨⟩
theorem tw9854135808935933237:True:=⟨⟩
theorem tw9856262603181548170:True:=⟨⟩
theorem tw9901981720967805288:True:=⟨⟩
theorem tw9918311883562930461:True:=⟨⟩
theorem tw9921826380865000618:True:=⟨⟩
theorem tw9923616709908123334:True:=⟨⟩
theorem tw9950118970965375013:True:=⟨⟩
end fin
theorem fin : PySem.Challenge.rw_rg0257_01.Holds := by
  w_on; o_law; k_head
  case hw => w_witness2
  exact Mine.law_all
end B
end
end Mine
theorem PySem.Challenge.cw_rg0257_01_holds : PySem.Challenge.rw_rg0257_01.Holds := by
  exact Mine.B.fin
