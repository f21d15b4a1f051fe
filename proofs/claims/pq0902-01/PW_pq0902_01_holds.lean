import PyProof.Rows.All
import Wide.All
import OpenK.AllK
import Wide.FinOn
import PySem.Challenge.RW_pq0902_01
open PySem PySem.W PyProof.Rows
set_option Elab.async false
set_option maxRecDepth 100000
set_option maxHeartbeats 4000000
set_option linter.unusedVariables false
namespace Mine
/-! The logic of this proof: the kit's own (wpAny) asks a tree to run well over EVERY stack below it. A bytearray's own
`__init__` looks through the stack for a decoder that holds it (`exported`): over such a stack it does not run. So here a tree is asked
to run well over every CLEAN stack: no code of it is one of those that `exported` asks for. -/
def dirtyIds : List String := ["bytearray.__contains__", "bytearray.__mod__", "bytearray.__rmod__", "_struct.pack_into.held", "bytearray.find.held"] ++ PySem.Builtin.Bytes.decodersThatHold
def dirtyCode : Code → Bool
  | .builtin id _ => dirtyIds.contains id
  | _ => false
def CleanB (Γ : Ctx) : Prop := ∀ c ∈ Γ.below, dirtyCode c.1 = false
def Clean (Γ : Ctx) : Prop := dirtyCode Γ.code = false ∧ CleanB Γ
def wpD {α : Type} (M : Model) (A : Around) (t : Sem α) (Q : α → Shared → Prop) (E : Value → Shared → Prop) (s : Shared) : Prop :=
  ∀ Γ p, Γ.In A → Clean Γ → Sem.wp M Γ t (fun a _ s' => Q a s') (fun e _ s' => E e s') p s
def codeD (M : Model) (A : Around) (c : Code) (R : Result → Shared → Prop) (s : Shared) : Prop :=
  ∀ Γ p, Γ.code = c → Γ.Below A → CleanB Γ → wpCode M Γ R p s
section
variable {α β : Type} {M : Model} {A : Around} {E : Value → Shared → Prop} {s : Shared}
theorem wpD_any {t : Sem α} {Q : α → Shared → Prop} (h : wpAny M A t Q E s) : wpD M A t Q E s := fun Γ p hΓ _ => h Γ p hΓ
theorem codeD_any {c : Code} {R : Result → Shared → Prop} (h : codeAny M A c R s) : codeD M A c R s := fun Γ p hc hΓ _ => h Γ p hc hΓ
theorem wpD_pure {a : α} {Q : α → Shared → Prop} (h : Q a s) : wpD M A (pure a) Q E s := fun _ _ _ _ => h
theorem wpD_mono {t : Sem α} {Q Q' : α → Shared → Prop} {E' : Value → Shared → Prop} (h : wpD M A t Q E s)
    (hQ : ∀ a s, Q a s → Q' a s) (hE : ∀ e s, E e s → E' e s) : wpD M A t Q' E' s :=
  fun Γ p hΓ hc => Sem.wp_mono M Γ t (fun a _ s => hQ a s) (fun e _ s => hE e s) p s (h Γ p hΓ hc)
theorem wpD_bind {m : Sem α} {f : α → Sem β} {Q : β → Shared → Prop} (h : wpD M A m (fun a s' => wpD M A (f a) Q E s') E s) :
    wpD M A (m >>= f) Q E s := fun Γ p hΓ hc => by
  rw [Sem.wp_bind']
  exact Sem.wp_mono M Γ m (fun a p' s' h' => h' Γ p' hΓ hc) (fun _ _ _ h' => h') p s (h Γ p hΓ hc)
/-- first a plain part with what it leaves, then the rest -/
theorem wpD_then {m : Sem α} {f : α → Sem β} {P : α → Shared → Prop} {Q : β → Shared → Prop} (h : wpAny M A m P E s) (k : ∀ a s', P a s' → wpD M A (f a) Q E s') :
    wpD M A (m >>= f) Q E s := wpD_bind (wpD_any (wpAny_mono h k fun _ _ e => e))
theorem wpD_onRaise {m : Sem α} {k : Value → Sem Unit} {Q : α → Shared → Prop}
    (h : wpD M A m Q (fun e s' => wpD M A (k e) (fun _ s'' => E e s'') E s') s) : wpD M A (m.onRaise k) Q E s := fun Γ p hΓ hc => by
  rw [Sem.wp_onRaise]
  exact Sem.wp_mono M Γ m (fun _ _ _ h' => h') (fun e p' s' h' => h' Γ p' hΓ hc) p s (h Γ p hΓ hc)
theorem wpD_holding {vs : List Value} {m : Sem α} {Q : α → Shared → Prop} (h : wpD M A m Q E s) : wpD M A (holding vs m) Q E s :=
  fun Γ p hΓ hc => by rw [Sem.wp_holding]; exact h Γ p hΓ hc
theorem wpD_keep {vs : List Value} {m : Sem α} {Q : α → Shared → Prop} (h : wpD M A m Q E s) : wpD M A (m.keep vs) Q E s :=
  fun Γ p hΓ hc => by rw [Sem.wp_keep]; exact h Γ p hΓ hc
theorem wpD_standAt {pos : Pos} {Q : Unit → Shared → Prop} (h : Q () s) : wpD M A (standAt pos) Q E s := fun _ _ _ _ => h
theorem wpD_point {Q : Unit → Shared → Prop} (h : Q () s) : wpD M A point Q E s := fun _ _ _ _ => h
theorem wpD_rule {tag : String} {Q : Unit → Shared → Prop} (h : Q () s) : wpD M A (rule tag) Q E s := fun _ _ _ _ => h
theorem clean_enter {Γ : Ctx} (h : Clean Γ) (c : Code) (hd : Option Value) (p : Pos) : CleanB (Γ.enter c hd p) := fun x hx => by
  rcases List.mem_cons.mp hx with rfl | hx
  · exact h.1
  · exact h.2 x hx
theorem wpD_run {c : Code} {h : Option Value} {Q : Flow → Shared → Prop}
    (hc : codeD M (A.mark h) c (fun r s' => match r with | .ok f => Q f s' | .error e => E e s') s) (hnb : h ≠ some byPass := by intro x; cases x) :
    wpD M A (run c h) Q E s :=
  fun Γ p hΓ hcl => by rw [Sem.wp_run]; exact hc _ p rfl (hΓ.enter c h p hnb) (clean_enter hcl c h p)
theorem wpD_runValue {c : Code} {Q : Value → Shared → Prop}
    (hc : codeD M A c (fun r s' => match r with | .ok (.ret v) => Q v s' | .ok _ => False | .error e => E e s') s) :
    wpD M A (runValue c) Q E s := fun Γ p hΓ hcl => by rw [Sem.wp_runValue]; exact hc _ p rfl (hΓ.enter c none p (by intro x; cases x)) (clean_enter hcl c none p)
theorem wpD_call {f : Value} {pos : List Value} {kw : List (Str × Value)} {Q : Value → Shared → Prop}
    (hc : codeD M A (.call f ⟨pos, kw⟩) (fun r s' => match r with | .ok (.ret v) => Q v s' | .ok _ => False | .error e => E e s') s) :
    wpD M A (call f pos kw) Q E s := wpD_runValue hc
theorem codeD_mono {c : Code} {R R' : Result → Shared → Prop} (h : codeD M A c R s) (hR : ∀ r s, R r s → R' r s) : codeD M A c R' s :=
  fun Γ p hc hΓ hb => wpCode_mono hR (h Γ p hc hΓ hb)
theorem codeD_of_tree {c : Code} {R : Result → Shared → Prop} (hcl : dirtyCode c = false)
    (h : wpD M (A.under c) (M.den c) (fun fin s' => match fin with | .done f => R (.ok f) s' | .again c' => c'.quiet = true ∧ codeD M A c' R s')
      (fun e s' => R (.error e) s') s) : codeD M A c R s := fun Γ p hc hΓ hb => by
  rw [wpCode_iff_wp, hc]
  refine Sem.wp_mono M Γ _ (fun fin p' s' h' => ?_) (fun _ _ _ h' => h') p s (h Γ p (hc ▸ hΓ.in) ⟨hc ▸ hcl, hb⟩)
  cases fin with
  | done f => exact h'
  | again c' => exact ⟨h'.1, h'.2 (Γ.goto c') p' rfl (hΓ.goto c') hb⟩
end
open PySem.Calls
def callerΓ : Ctx := ⟨.builtin "claim.caller" {}, none, none, [], none⟩
theorem clean_caller : Clean callerΓ := ⟨by decide +kernel, fun _ h => nomatch h⟩
theorem wp_of_wpD_done {M : Model} {t : Sem Fin} {R : Result → Shared → Prop} {s : Shared}
    (h : wpD M callerA t (fun fin s' => ∃ f, fin = .done f ∧ R (.ok f) s') (fun e s' => R (.error e) s') s) (p : Pos) :
    Sem.wp M callerΓ t (Sem.finPost M callerΓ R) (fun e _ s' => R (.error e) s') p s := by
  refine Sem.wp_mono M callerΓ t (fun fin p' s' h' => ?_) (fun _ _ _ h' => h') p s (h callerΓ p caller_in clean_caller)
  obtain ⟨f, rfl, hf⟩ := h'
  exact hf
theorem thread_endsD {prog : Program} {w : World} {t : Sem Fin} {s : Shared} {R : Result → Shared → Prop} (hreg : s.asleep)
    (h : wpD (model prog w) callerA t (fun fin s' => ∃ f, fin = .done f ∧ (R (.ok f) s' ∧ leftWithCleanup s'.gens = false)) (fun e s' => R (.error e) s' ∧ leftWithCleanup s'.gens = false) s) :
    ∃ n r s' s'', runN (denote table) prog w n s ⟨t, .builtin "claim.caller" {}, default, []⟩ = .halted (outcomeOf r) s' ∧
      schedN (denote table) prog w n (.single s ⟨t, .builtin "claim.caller" {}, default, []⟩) = .halted (outcomeOf r) s' ∧ s'.forget = s''.forget ∧ R r s'' := by
  obtain ⟨n, r, s₁, s₂, hs, hn, hfo, hR⟩ := wp_halts_full (M := model prog w) (R := R) hreg (wp_of_wpD_done (R := fun r s' => R r s' ∧ leftWithCleanup s'.gens = false) h default)
  exact ⟨n, r, s₂, s₁, hn, hs, hfo, hR⟩
/-- every call as claimed, where the tree is shown over clean stacks -/
theorem callFromD {c : ClaimW} {tree : List Value → Sem Fin} {w : World} {s : Shared} {free : Addr → Prop} {gens : Prop} {kept : Heap → Prop} (hz : s.asleep) (hgens : s.gens = #[])
    (hspec : ∀ args, c.pre args = true → WData.layableAll args = true →
      ∀ ord : List DictEntry → List DictEntry, (∀ l, (ord l).Perm l) →
      ∃ vs s₁, layAllW c.records (classAt s.heap) w.params ord args s = some (vs, s₁) ∧
        wpD (model c.prog w) callerA (tree vs) (fun fin s' => ∃ f, fin = .done f ∧ (c.Ends s args vs s₁ (.ok f) s' ∧ s'.os = s.os ∧ AllBare s'.gens ∧ kept s'.heap))
          (fun e s' => c.Ends s args vs s₁ (.error e) s' ∧ s'.os = s.os ∧ AllBare s'.gens ∧ kept s'.heap) s₁) :
    c.CallFrom (fun vs => ⟨tree vs, .builtin "claim.caller" {}, default, []⟩) w free gens kept s := by
  intro args hpre hlay ord hord
  obtain ⟨vs, s₁, hlaid, hcode⟩ := hspec args hpre hlay ord hord
  have hal := layAllW_rest _ _ _ hlaid
  obtain ⟨k, r, s', s'', hrun, hsched, hfo, hcase, hos, hkp⟩ := thread_endsD (prog := c.prog) (w := w) (t := tree vs) (s := s₁)
    (R := fun r s' => c.Ends s args vs s₁ r s' ∧ s'.os = s.os ∧ kept s'.heap)
    (Shared.asleep_of_life hal.2.2.2 hz)
    (wpD_mono hcode (by
      rintro fin s' ⟨f, e, h1, h2, h3, h4⟩
      exact ⟨f, e, ⟨h1, h2, h4⟩, leftWithCleanup_false_of_bare h3⟩) (by
      rintro e s' ⟨h1, h2, h3, h4⟩
      exact ⟨⟨h1, h2, h4⟩, leftWithCleanup_false_of_bare h3⟩))
  obtain ⟨eh, _, _, eo, _⟩ := Shared.forget_eq hfo
  have hcase := hcase.congr eh
  have hkp : kept s'.heap := by first | exact eh ▸ hkp | (rw [eh] at hkp; exact hkp) | (rw [← eh] at hkp; exact hkp)
  rw [← eo] at hos
  have hlife : s'.heap.life = s.heap.life := (runN_life _ _ _ hrun).trans hal.2.2.2
  refine ⟨vs, s₁, hlaid, k, _, s', hsched, ?_, (fun _ i x hx => by rw [hgens] at hx; simp at hx), hkp, by rw [hlife], Shared.rest_eq hos⟩
  rcases hcase with ⟨v, rfl, d1, d2, d3, d4, d5⟩ | ⟨e, ob, cls, rfl, d1, d2, d3, d4, d5⟩
  · exact .inl ⟨v, rfl, d1, d2, d3, fun b o y _ => d4 b o y, d5⟩
  · exact .inr ⟨e, ob, cls, rfl, d1, d2, d3, d4, fun b o y _ => d5 b o y⟩
abbrev WalkD (q : Program) (loose : List Str) (XP : (Str → Option Value) → Heap → Prop) (YP : World → Heap → Prop) (r : RowW) (d : DefRec) (kwd : List (Str × Expr)) (run : Value → List Value → Sem Value) : Prop :=
  ∀ (w : World) (s₀ s₁ : Shared) (mg mb : Str → Option Value), Ground q loose r.records XP w s₀ mg mb s₁.heap → YP w s₁.heap → ∀ (a : Addr) (o : Obj) (pm cd doc dV kV : Value), s₁.heap.get? a = some o →
    o.data = .func { docDef d.name d.params d.body d.scope pm cd doc with defaults := dV, kwdefaults := kV } → s₁.heap.CodeRec cd d.name → Dflts mg s₁.heap d.params kwd dV kV → mg d.name = some (.ref a) → s₁.gens = #[] →
    ∀ (args : List WData) (vals : List Value) (as : List Addr), r.claim.pre args = true → WData.layableAll args = true → ReadsAllW r.records (classAt s₀.heap) s₁.heap vals args as → WellAll w.params s₁.heap vals args → (∀ a ∈ as, (a == sysModules) = false) →
      wpD (model r.prog w) callerA (run (.ref a) vals) (fun v s' => GoodWG r.claim (classAt s₀.heap) (ExcName.means s₀.heap) args s₁ (.ok (.ret v)) s')
        (fun e s' => GoodWG r.claim (classAt s₀.heap) (ExcName.means s₀.heap) args s₁ (.error e) s') s₁
open PySem.Calls
/-- the top's run over a tree of objects, whole -/
def topRunT (tb : String → Option Builtin) (p : Program) (w : World) (n₀ : Nat) (ann : Option Value) : Nat → SharedT → Thread → Option SharedT
  | 0, _, _ => none
  | n + 1, s, t => match through t with
    | true => some s
    | false => match stepOk n₀ ann t with
      | false => none
      | true => match stepT (denote tb) p w s t with
        | some (s', t') => topRunT tb p w n₀ ann n s' t'
        | none => none
theorem topRun_of {tb : String → Option Builtin} {p : Program} {w : World} {n₀ : Nat} {ann : Option Value} : ∀ {n : Nat} {s s' : SharedT} {t : Thread}, topRunT tb p w n₀ ann n s t = some s' → topRun tb p w n₀ ann n s.abs t = some s'.abs
  | 0, _, _, _, h => by cases h
  | n + 1, s, s', t, h => by
    unfold topRunT at h
    unfold topRun
    cases ht : through t with
    | true => rw [ht] at h; cases h; rfl
    | false =>
      rw [ht] at h
      cases hk : stepOk n₀ ann t with
      | false => rw [hk] at h; cases h
      | true =>
        rw [hk] at h
        cases hs : stepT (denote tb) p w s t with
        | none => rw [hs] at h; cases h
        | some r => obtain ⟨s₂, t₂⟩ := r; rw [hs] at h; rw [stepT_spec hs]; exact topRun_of h
/-- the same, of the library's quick twins: they stand for stepOk, stepT, denote and treeTable -/
noncomputable def topRunQ (p : Program) (w : World) (n₀ : Nat) (ann : Option Value) : Nat → SharedT → Thread → Option SharedT
  | 0, _, _ => none
  | n + 1, s, t => match through t with
    | true => some s
    | false => match PySem.W.Fast.tw6613529449190102663 n₀ ann t with
      | false => none
      | true => match PySem.W.Fast.tw10156331382660048174 (PySem.W.Fast.tw11892475500146522536 PySem.W.Fast.tw14364793385576792824) p w s t with
        | some (s', t') => topRunQ p w n₀ ann n s' t'
        | none => none
theorem topRunQ_eq {p : Program} {w : World} {n₀ : Nat} {ann : Option Value} : ∀ {n : Nat} {s : SharedT} {t : Thread}, topRunQ p w n₀ ann n s t = topRunT treeTable p w n₀ ann n s t
  | 0, _, _ => rfl
  | n + 1, s, t => by
    unfold topRunQ topRunT
    rw [← PySem.W.Fast.te6613529449190102663, ← PySem.W.Fast.te10156331382660048174, ← PySem.W.Fast.te11892475500146522536, ← PySem.W.Fast.te14364793385576792824]
    cases through t with
    | true => rfl
    | false =>
      dsimp only
      cases stepOk n₀ ann t with
      | false => rfl
      | true =>
        dsimp only
        cases stepT (denote treeTable) p w s t with
        | none => rfl
        | some r => exact topRunQ_eq
noncomputable def bootTree (P : Params) : BT := (boot_heap P).objs.toList.zipIdx.foldl (fun t x => t.ins x.2 x.1) .nil
abbrev bootN : Nat := 11
theorem leftO_of_T {p q : Program} {loose : List Str} {Xt : Shared → Bool} {α : Type} {Yf : Shared → α} {Ya : World → α} {N : Nat} {t0 : Params → BT} {n0 : Nat} {life : Life} {m₀ : Nat} {ann : Option Value}
    (e : opening p = plainProg p.main.scope.names) (hN : Nat.ble 600 N = true) (f : ∀ s, fenceModules? p s = some s)
    (hb : ∀ P, boot_heap P = absHeap (t0 P) n0 life)
    (size : ∀ w : World, ((boot_heap w.params).isNs mainGlobals && (Array.mk [] : Array GenState).size == 0, (boot_heap w.params).objs.size, (boot_heap w.params).nsMap mainGlobals "__annotations__") = (true, m₀, ann))
    (run : ∀ (w : World) (os : OsState), (topRunT treeTable p w m₀ ann N ⟨t0 w.params, n0, life, Array.mk [], boot_drawn, boot_toks, os⟩ (topStub p)).map (fun s =>
      ((staticsOk (importedModules p.main.body) (boot_heap w.params) s.abs.heap && namesBound p s.abs.heap && gensDone s.abs && laidKept (boot_heap w.params) s.abs.heap), openSeen q loose (importedModules p.main.body) Xt true s.abs, Yf s.abs)) = some (true, openGood q loose, Ya w)) :
    LeftO p q loose Xt Yf Ya N := fun w => by
  obtain ⟨⟨h, gs, d, k, os⟩, e1, e'⟩ := Option.map_eq_some_iff.mp (boot_open e hN f w)
  obtain ⟨rfl, rfl, rfl, rfl⟩ : h = boot_heap w.params ∧ gs = Array.mk [] ∧ d = boot_drawn ∧ k = boot_toks := by simpa using e'
  obtain ⟨z1, z2, z3⟩ : _ ∧ _ ∧ _ := by simpa only [Prod.mk.injEq] using size w
  obtain ⟨s, hs, hv⟩ := Option.map_eq_some_iff.mp (run w os)
  obtain ⟨l1, l2, l3⟩ : _ ∧ _ ∧ _ := by simpa only [Prod.mk.injEq] using hv
  have r := topRun_of hs
  have t : topFrom treeTable p w N ⟨boot_heap w.params, Array.mk [], boot_drawn, boot_toks, os⟩ = some s.abs := by
    unfold topFrom
    dsimp only
    rw [z1, z2, z3]
    have r' : topRun treeTable p w m₀ ann N ⟨boot_heap w.params, Array.mk [], boot_drawn, boot_toks, os⟩ (topStub p) = some s.abs := by rw [hb w.params]; exact r
    rw [r']
    show (match staticsOk (importedModules p.main.body) (boot_heap w.params) s.abs.heap && namesBound p s.abs.heap && gensDone s.abs && laidKept (boot_heap w.params) s.abs.heap with | true => _ | false => _) = _
    rw [l1]
  unfold openEnds
  rw [e1]
  show (topFrom treeTable p w N _).map _ = _
  rw [t]
  exact congrArg some (Prod.ext l2 l3)
/-- the text without its assignments to __name__ -/
noncomputable def QQ : Program := { PySem.Challenge.pw_pq0902_01 with main := { PySem.Challenge.pw_pq0902_01.main with body := PySem.Challenge.pw_pq0902_01.main.body.filter fun s => match s with | .Assign .. => false | _ => true } }
abbrev LL : List Str := [Str.ofString "BoardError"]
/-- what the top's whole run over a tree leaves -/
noncomputable abbrev RunT (p : Program) (N : Nat) (w : World) (os : OsState) : Option SharedT := topRunQ p w bootN (some (.ref 6)) N ⟨bootTree w.params, bootN, {}, Array.mk [], boot_drawn, boot_toks, os⟩ (topStub p)
abbrev LeftT {α : Type} (p : Program) (N : Nat) (f : World → SharedT → α) (a : World → α) : Prop := ∀ w : World, (fun os : OsState => (RunT p N w os).map (f w)) = fun _ => some (a w)
noncomputable abbrev kept (p : Program) (w : World) (s : SharedT) : Bool := staticsOk (importedModules p.main.body) (boot_heap w.params) s.abs.heap && namesBound p s.abs.heap && gensDone s.abs && laidKept (boot_heap w.params) s.abs.heap
noncomputable abbrev XT : Shared → Bool := fun s => xlAt QQ [] s && recOk (RowW.records (OpenRow.toRowW PySem.Challenge.rw_pq0902_01.row)) s
noncomputable def getT (s : SharedT) (a : Addr) : Option Obj := match Nat.blt a s.n with
  | true => alive ((s.tree.get a).getD default)
  | false => none
theorem getT_eq (s : SharedT) : s.abs.heap.get? = getT s := funext fun a => by
  obtain ⟨T, n, life, gens, drawn, toks, os⟩ := s
  show (absHeap T n life).get? a = _
  unfold getT
  dsimp only
  cases q : Nat.blt a n with
  | false => exact abs_get_none fun h => by rw [Nat.blt, Nat.ble_eq_true_of_le h] at q; cases q
  | true =>
    have h : a < n := Nat.le_of_ble_eq_true q
    unfold Heap.get?
    rw [absHeap_at, if_pos h]
    show (match some ((T.get a).getD default) with | some { data := .freed, .. } => none | o => o) = alive ((T.get a).getD default)
    generalize (T.get a).getD default = o
    obtain ⟨_, _, d, _⟩ := o
    cases d <;> rfl
theorem left1 : LeftT PySem.Challenge.pw_pq0902_01 6570 (kept PySem.Challenge.pw_pq0902_01) fun _ => true := by intro w; kernel_rfl
theorem left2 : LeftT PySem.Challenge.pw_pq0902_01 6570 (fun _ s => openSeen QQ LL (importedModules PySem.Challenge.pw_pq0902_01.main.body) XT true s.abs) fun _ => openGood QQ LL := by intro w; kernel_rfl
theorem left_all {α β γ : Type} {p : Program} {N : Nat} {f : World → SharedT → α} {a : World → α} {g : World → SharedT → β} {b : World → β} {h : World → SharedT → γ} {c : World → γ} (e1 : LeftT p N f a) (e2 : LeftT p N g b) (e3 : LeftT p N h c)
    (w : World) (os : OsState) : (topRunT treeTable p w bootN (some (.ref 6)) N ⟨bootTree w.params, bootN, {}, Array.mk [], boot_drawn, boot_toks, os⟩ (topStub p)).map (fun s => (f w s, g w s, h w s)) = some (a w, b w, c w) := by
  have q : RunT p N w os = topRunT treeTable p w bootN (some (.ref 6)) N ⟨bootTree w.params, bootN, {}, Array.mk [], boot_drawn, boot_toks, os⟩ (topStub p) := topRunQ_eq
  have l1 := congrFun (e1 w) os
  have l2 := congrFun (e2 w) os
  have l3 := congrFun (e3 w) os
  change (RunT p N w os).map _ = _ at l1
  change (RunT p N w os).map _ = _ at l2
  change (RunT p N w os).map _ = _ at l3
  rw [q] at l1 l2 l3
  obtain ⟨s, hs, r⟩ := Option.map_eq_some_iff.mp l1
  rw [hs] at l2 l3 ⊢
  rw [Option.map_some, Option.some.injEq] at l2 l3 ⊢
  rw [r, l2, l3]
theorem boot_tree : ∀ P, boot_heap P = absHeap (bootTree P) bootN {} := fun P => by kernel_rfl
theorem boot_size : ∀ w : World, ((boot_heap w.params).isNs mainGlobals && (Array.mk [] : Array GenState).size == 0, (boot_heap w.params).objs.size, (boot_heap w.params).nsMap mainGlobals "__annotations__") = (true, bootN, some (.ref 6)) := fun w => by kernel_rfl
/-- the kit's head with the walk over clean stacks in the place of its own -/
theorem holds_openT {r : OpenRow} {q : Program} {loose : List Str} {Xt : Shared → Bool} {XP : (Str → Option Value) → Heap → Prop} {α : Type} {Yf : Shared → α} {Ya : World → α} {YP : World → Heap → Prop} {d : DefRec} {kwd : List (Str × Expr)} {N : Nat}
    (l1 : LeftT r.prog N (kept r.prog) fun _ => true) (l2 : LeftT r.prog N (fun _ s => openSeen q loose (importedModules r.prog.main.body) Xt true s.abs) fun _ => openGood q loose) {YT : SharedT → α} (hYT : ∀ s, YT s = Yf s.abs) (left : LeftT r.prog N (fun _ s => YT s) Ya) (hY : ∀ w s, Yf s = Ya w → YP w s.heap) (hYk : ∀ w h h', YP w h → (∀ b o, h.get? b = some o → h'.get? b = some o) → YP w h')
    (hX : ∀ s, Xt s = true → XP (s.heap.nsMap mainGlobals) s.heap) (hXk : ∀ mg h h', XP mg h → (∀ b o, h.get? b = some o → h'.get? b = some o) → XP mg h')
    (hdef : defOf q r.name = some (d, kwd)) (hp : r.prog.theDef r.name = some (d.params, d.body, d.scope)) (hk : kwWritten? d.params.kwonlyargs d.params.kw_defaults = some kwd) (hRf : ∀ s, Xt s = true → RecFacts r.records s.heap) (hwr : (!r.writes || r.records.isEmpty) = true)
    (k1 : r.wellSaid = true) (ok : (chainsOk q && opensWell r.prog && (frees r.toRowW && r.within.isEmpty)) = true) (hb : r.prog.bare) (hw : r.toRowW.promised)
    (he : opening r.prog = plainProg r.prog.main.scope.names) (hN : Nat.ble 600 N = true) (hf : ∀ s, fenceModules? r.prog s = some s)
    (hc : WalkD q loose XP YP r.toRowW d kwd fun f vs => PySem.call f vs) : r.Holds := by
  rename WalkD _ _ _ _ _ _ _ _ => call
  replace left : LeftO r.prog q loose Xt Yf Ya N := leftO_of_T he hN hf boot_tree boot_size (left_all l1 l2 fun w => (congrArg (fun f : SharedT → α => (fun os => (RunT r.prog N w os).map f) = fun _ => some (Ya w)) (funext hYT)).mp (left w))
  obtain ⟨ok, k5⟩ := Bool.and_eq_true_iff.mp ok
  obtain ⟨hch, o1⟩ := Bool.and_eq_true_iff.mp ok
  obtain ⟨k5, k6⟩ := Bool.and_eq_true_iff.mp k5
  obtain ⟨hsame, hu, ha, hap, hm⟩ := frees_parts k5
  refine ⟨k1, hw, ⟨hb, o1, by show r.toRowW.makers.map _ = []; rw [hm]; rfl⟩, hw.witness, fun w => ⟨(left.behind hX hch w).1, fun s' hs' => ?_⟩⟩
  obtain ⟨s₀, hf, hg0, s, hT, hz, hgens, hg, G00, y⟩ := (left.behind (XP := fun mg h => XP mg h ∧ RecFacts r.records h) (fun s hs => ⟨hX s hs, hRf s hs⟩) hch w).2 s' hs'
  have G0 : Ground q loose [] XP w s (s.heap.nsMap mainGlobals) (s.heap.nsMap builtinsNs) s.heap := ⟨G00.T, G00.B, G00.D, G00.TE, G00.TD, G00.W, G00.X.1, G00.cls, G00.has, G00.apart, G00.once, G00.K⟩
  have RF := G00.X.2
  have hT' := hT
  refine ⟨s₀, hf, hg0, s, hT, (fun n hn => ?_), RF.1, RF.2.1, ?_⟩
  · obtain rfl : n = r.name := by split at hn <;> simp_all
    exact pinned_of_view hg G0 hdef hp hk
  have hgens : s.gens = #[] := Array.eq_empty_of_size_eq_zero (beq_iff_eq.mp hgens)
  have G : Ground q loose r.toRowW.records XP w s _ _ s.heap := RF.ground G0
  refine callFromD (c := r.toRowW.claim) (tree := fun vs => do match ← nsGet mainNs r.name with
      | some f => do ret (← PySem.call f vs)
      | none => unsupported "claim.caller:no-such-global") hz hgens fun args hpre hlay ord hord => ?_
  obtain ⟨⟨vs, s₁⟩, hlaid⟩ := Option.isSome_iff_exists.mp (layAllW_isSome (P := w.params) (ord := ord) G.has args r.toRowW.args s (pre_splitW hpre).1)
  have keeps := layAllW_keeps _ _ _ hlaid
  have hal := layAllW_rest _ _ _ hlaid
  obtain ⟨as, hrd, hin, hold⟩ := reads_layAllW hord _ _ _ hlaid hlay s₁.heap (fun _ _ e => e)
  have L : Laid r.toRowW.records w s s₁ args vs as := ⟨⟨ord, hord, hlaid⟩, hrd, hin, hold, keeps, hal.1.trans hgens, hal.2.2.1⟩
  have G₁ := G.keeps hXk keeps
  obtain ⟨a, o, pm, cd, doc, dV, kV, h1, h2, h3, h4, h5⟩ := G₁.fn hdef
  have h := call w s s₁ _ _ G₁ (hYk _ _ _ (hY w s y) keeps) a o pm cd doc dV kV h2 h3 h4 h5 (defOf_name hdef ▸ h1) L.gens args vs as hpre hlay L.reads L.well (L.low G.low)
  have hi := ident_freeW hu ha hap
  have hwi : r.toRowW.claim.within = [] := List.isEmpty_iff.mp k6
  refine ⟨vs, s₁, hlaid, ?_⟩
  refine wpD_then (wpAny_nsGet (Q := fun a s' => a = some (.ref _) ∧ s' = s₁) G₁.T.g (by rw [h1]; exact ⟨rfl, rfl⟩)) fun a' s' hq => ?_
  obtain ⟨rfl, rfl⟩ := hq
  refine wpD_bind (wpD_mono h (fun v s' g => wpD_pure ⟨_, rfl, have z := g.laid (c := r.toRowW.claim) hsame hwi hi L; ⟨z.1, z.2.1, z.2.2, fun q => ⟨namesKept_of hT' hg _ keeps g.2.1.old, noTable hwr q⟩⟩⟩)
    fun e s' g => have z := g.laid (c := r.toRowW.claim) hsame hwi hi L; ⟨z.1, z.2.1, z.2.2, fun q => ⟨namesKept_of hT' hg _ keeps g.2.1.old, noTable hwr q⟩⟩)
/-- the kit's hook, and the namespace of the builtins beside it -/
noncomputable def bootZ (P : Params) : Option Obj := (boot_heap P).get? 0
noncomputable def bootD (P : Params) : Data := match bootZ P with | some o => o.data | none => .plain
theorem bootZ_is (P : Params) : bootZ P = some { cls := .type "dict", dict := none, data := bootD P, slots := #[] } := by kernel_rfl
noncomputable def hookZ (H : Hook) : Hook where
  α := H.α × Option Obj
  obs := fun s => (H.obs s, s.heap.get? 0)
  val := fun w => (H.val w, bootZ w.params)
  says := fun w h => H.says w h ∧ h.get? 0 = some { cls := .type "dict", dict := none, data := bootD w.params, slots := #[] }
  of := fun w s x => ⟨H.of w s (Prod.mk.inj x).1, (Prod.mk.inj x).2.trans (bootZ_is _)⟩
  keeps := fun w h h' x k => ⟨H.keeps w h h' x.1 k, k _ _ x.2⟩
local macro_rules | `(tactic| o_head ($f $a $b $c $d)) => `(tactic| apply Mine.holds_openT (r := PySem.Challenge.rw_pq0902_01.row) (q := QQ) (loose := LL) (N := 6570) (Xt := XT) (XP := XL QQ []) (Yf := Hook.obs (hookZ ($f $a $b $c $d))) (Ya := Hook.val (hookZ ($f $a $b $c $d))) (YP := Hook.says (hookZ ($f $a $b $c $d)))
    (l1 := left1) (l2 := left2) (YT := fun s => ((List.map (getT s) $b, List.map (getT s) $d), getT s 0)) (hYT := fun s => by rw [← getT_eq s]; rfl) (left := by intro w; kernel_rfl) (hY := Hook.of _) (hYk := Hook.keeps _) (hX := fun s e => xl_of s (Bool.and_eq_true_iff.mp e).1) (hXk := XL.keeps) (hdef := by rfl) (hp := by rfl) (hk := by rfl) (hRf := fun s e => recFacts_of (Bool.and_eq_true_iff.mp e).2) (hwr := by rfl)
    (k1 := by first | assumption | decide +kernel) (ok := by decide +kernel) (hb := ⟨rfl, rfl, rfl, rfl, rfl, by decide +kernel⟩) (he := by rfl) (hN := by rfl) (hf := by intro s; rfl))
local macro_rules | `(tactic| o_law) => `(tactic| refine holds_law (by kernel_rfl) fun said => ?_)
open_top hd for PySem.Challenge.rw_pq0902_01
theorem fillK_ALL : (∀ P, Mine.hd.heap_1 P = Mine.hd.heap_1 P) ∧ PySem.Challenge.rw_pq0902_01 = PySem.Challenge.rw_pq0902_01 := by
  k_fill
  exact ⟨fun _ => rfl, rfl⟩
/-- two addresses apart (hidden from omega) -/
structure Apart (a b : Addr) : Prop where
  ne : a ≠ b
def AllAp (d : Addr) : List (Addr × Obj) → Prop
  | [] => True
  | p :: r => Apart p.1 d ∧ AllAp d r
theorem allAp_of {d : Addr} : ∀ {l : List (Addr × Obj)}, (∀ p ∈ l, p.1 ≠ d) → AllAp d l
  | [], _ => trivial
  | p :: _, h => ⟨⟨h p (.head _)⟩, allAp_of fun q hq => h q (.tail _ hq)⟩
theorem AllAp.all {d : Addr} : ∀ {l : List (Addr × Obj)}, AllAp d l → ∀ p ∈ l, p.1 ≠ d
  | [], _, _, hp => nomatch hp
  | p :: r, h, q, hq => by
    rcases List.mem_cons.mp hq with rfl | hq
    · exact h.1.ne
    · exact AllAp.all h.2 q hq
theorem AllAp.mk {d : Addr} {p : Addr × Obj} {r : List (Addr × Obj)} (h : Apart p.1 d) (t : AllAp d r) : AllAp d (p :: r) := ⟨h, t⟩
theorem lt_lit {a n : Nat} (h : Nat.ble (a + 1) n = true) : a < n := Nat.le_of_ble_eq_true h
theorem lt_up {d j a n n' : Nat} (h : d + a < n) (e : Nat.ble (j + n) (n' + a) = true) : d + j < n' := by
  have := Nat.le_of_ble_eq_true e
  omega
theorem lt_upj {d j b a n n' : Nat} (h : d + a < n) (e : Nat.ble (j + b + n) (n' + a) = true) : d + j + b < n' := Nat.add_assoc d j b ▸ lt_up h e
theorem lt_up0 {d a n n' : Nat} (h : d + a < n) (e : Nat.ble n (n' + a) = true) : d < n' := lt_up (j := 0) h (by rwa [Nat.zero_add])
theorem fm (n k : Int) (h : 0 < k) : 0 ≤ n.fmod k ∧ n.fmod k < k := ⟨Int.fmod_nonneg_of_pos n h, Int.fmod_lt_of_pos n h⟩
local macro_rules | `(tactic| k_ne) => `(tactic| first | exact Apart.ne (by assumption) | exact (Apart.ne (by assumption)).symm)
local macro_rules | `(tactic| k_all) => `(tactic| exact AllAp.all (by assumption))
local macro_rules | `(tactic| walk_at "getMethod ref") => `(tactic| ((with_reducible show wpAny _ _ (getMethod (Value.ref _) (Str.ofString "get") _) _ _ _); k_dflt (refine kdg_method (knd := PySem.intKind _ _) (by k_asm) (by k_mem) (by k_asm) ?_)))
local macro_rules | `(tactic| walk_at "call builtin:dict.get") => `(tactic| (k_dflt (first
  | refine kdg_get1 (knd := PySem.intKind _ _) (by k_asm) (by k_mem) (by k_asm) (by k_asm) (intKind_is _ _ _ _) _ (by assumption) ?_
  | refine kdg_get2 (knd := PySem.intKind _ _) (by k_asm) (by k_mem) (by k_asm) (by k_asm) (intKind_is _ _ _ _) _ (by assumption) ?_); (try dsimp only [Option.getD])))
local macro_rules | `(tactic| walk_at "exec Raise some none") => `(tactic| (exfalso; omega))
local macro_rules | `(tactic| k_mem) => `(tactic| assumption)
local macro_rules | `(tactic| walk_at "r") => `(tactic| first | rfl | assumption)
local macro_rules | `(tactic| walk_at "o") => `(tactic| first | k_asm | omega)
local macro_rules | `(tactic| walk_at "h") => `(tactic| first | exact lt_lit (by rfl) | exact lt_up (by assumption) (by rfl) | exact lt_upj (by assumption) (by rfl) | omega | (dsimp only [ktrTop, Around.deeper, Around.in1]; omega))
local macro_rules | `(tactic| ktr_room) => `(tactic| first | exact lt_lit (by rfl) | exact lt_up0 (by assumption) (by rfl) | exact lt_up (by assumption) (by rfl))
abbrev ent (w : World) (n : String) (t : Tok) (v : Value) : DictEntry := ⟨PyData.keyHash w.params (Str.ofString n), .str (Str.ofString n) t, v⟩

abbrev bufD (w : World) (t : Nat → Tok) (k : Int) (y : Addr) (hd : Int)  : Obj :=
  dictOf [ent w "number" (t 1) (.int k (t 5)), ent w "data" (t 2) (.ref y), ent w "holders" (t 3) (.int hd (t 6)), ent w "pins" (t 4) (.int 0 (t 7))] 4

abbrev cacheD (w : World) (t : Nat → Tok) (kI rw bn : Addr) (hits reads writes : Int) : Obj :=
  dictOf [ent w "disk" (t 1) (.ref kI), ent w "most" (t 2) (.int 3 (t 11)), ent w "size" (t 3) (.int 4 (t 12)), ent w "row" (t 4) (.ref rw), ent w "by_number" (t 5) (.ref bn),
    ent w "hits" (t 6) (.int hits (t 13)), ent w "reads" (t 7) (.int reads (t 14)), ent w "writes" (t 8) (.int writes (t 15))] 8

abbrev diskD (w : World) (t : Nat → Tok) (kept lt uf : Addr) (writes : Int) : Obj :=
  dictOf [ent w "blocks" (t 1) (.int 6 (t 11)), ent w "size" (t 2) (.int 4 (t 12)), ent w "kept" (t 3) (.ref kept), ent w "latest" (t 4) (.ref lt), ent w "unflushed" (t 5) (.ref uf),
    ent w "writes" (t 6) (.int writes (t 13)), ent w "flushes" (t 7) (.int 0 (t 14)), ent w "last" (t 8) .none, ent w "last_flush" (t 9) .none, ent w "is_dead" (t 10) (.bool false)] 10
abbrev baO (d : Array UInt8) : Obj := { cls := .type "bytearray", data := .bytearray d }
def tokF (l : List Tok) (i : Nat) : Tok := l.getD i 0
def IsBufD (w : World) (o : Obj) (k : Int) (y : Addr) (hd : Int) : Prop := ∃ t, o = bufD w t k y hd
def IsCacheD (w : World) (o : Obj) (kI rw bn : Addr) (hits reads writes : Int) : Prop := ∃ t, o = cacheD w t kI rw bn hits reads writes
def IsDiskD (w : World) (o : Obj) (kept lt uf : Addr) (writes : Int) : Prop := ∃ t, o = diskD w t kept lt uf writes
theorem isBufD_mk {w : World} {k hd : Int} {y : Addr} {t1 t2 t3 t4 t5 t6 t7 : Tok} : IsBufD w (dictOf [ent w "number" t1 (.int k t5), ent w "data" t2 (.ref y), ent w "holders" t3 (.int hd t6), ent w "pins" t4 (.int 0 t7)] 4) k y hd :=
  ⟨tokF [0, t1, t2, t3, t4, t5, t6, t7], rfl⟩
theorem isCacheD_mk {w : World} {kI rw bn : Addr} {hits reads writes : Int} {t1 t2 t3 t4 t5 t6 t7 t8 t11 t12 t13 t14 t15 : Tok} : IsCacheD w (dictOf [ent w "disk" t1 (.ref kI), ent w "most" t2 (.int 3 t11), ent w "size" t3 (.int 4 t12), ent w "row" t4 (.ref rw), ent w "by_number" t5 (.ref bn),
    ent w "hits" t6 (.int hits t13), ent w "reads" t7 (.int reads t14), ent w "writes" t8 (.int writes t15)] 8) kI rw bn hits reads writes :=
  ⟨tokF [0, t1, t2, t3, t4, t5, t6, t7, t8, 0, 0, t11, t12, t13, t14, t15], rfl⟩
theorem isDiskD_mk {w : World} {kept lt uf : Addr} {writes : Int} {t1 t2 t3 t4 t5 t6 t7 t8 t9 t10 t11 t12 t13 t14 : Tok} : IsDiskD w (dictOf [ent w "blocks" t1 (.int 6 t11), ent w "size" t2 (.int 4 t12), ent w "kept" t3 (.ref kept), ent w "latest" t4 (.ref lt), ent w "unflushed" t5 (.ref uf),
    ent w "writes" t6 (.int writes t13), ent w "flushes" t7 (.int 0 t14), ent w "last" t8 .none, ent w "last_flush" t9 .none, ent w "is_dead" t10 (.bool false)] 10) kept lt uf writes :=
  ⟨tokF [0, t1, t2, t3, t4, t5, t6, t7, t8, t9, t10, t11, t12, t13, t14], rfl⟩
theorem wpAny_up {α : Type} {M : Model} {A A' : Around} {t : Sem α} {Q : α → Shared → Prop} {E : Value → Shared → Prop} {s : Shared} (h : wpAny M A' t Q E s)
    (e1 : A.handled = A'.handled) (e2 : A.depth ≤ A'.depth) (e3 : A'.frames = none) (e4 : A'.guards = none) (e5 : A.units ≤ A'.units) : wpAny M A t Q E s :=
  fun Γ p hΓ => h Γ p ⟨hΓ.1.trans e1, Nat.le_trans hΓ.2.1 e2, fun l hl => (by rw [e3] at hl; cases hl), (fun g hg => (by rw [e4] at hg; cases hg)), Nat.le_trans hΓ.2.2.2.2 e5⟩
/-- where a pure call is run: any place not too deep -/
def AX : Around := { handled := none, depth := 600, frames := none, guards := none, units := 6000 }
theorem wpAny_AX {α : Type} {M : Model} {A : Around} {t : Sem α} {Q : α → Shared → Prop} {E : Value → Shared → Prop} {s : Shared} (h : wpAny M AX t Q E s)
    (e1 : A.handled = none) (e2 : A.depth ≤ 600) (e5 : A.units ≤ 6000) : wpAny M A t Q E s := wpAny_up h e1 e2 rfl rfl e5
/-- what a pure run hands on: the heap has grown, nothing that stood has turned -/
def Grew (h h' : Heap) : Prop := ∀ b o, h.get? b = some o → h'.get? b = some o
def PureEnd (s : Shared) (P : Value → Heap → Prop) (v : Value) (s' : Shared) : Prop := ∃ h' tk, s' = { s with heap := h', toks := tk } ∧ Grew s.heap h' ∧ P v h'
theorem pureEnd {s : Shared} {P : Value → Heap → Prop} {v : Value} {h' : Heap} {news : List (Addr × Obj)} {tk : Nat} (D : PySem.W.X.Mem s.heap h' [] news) (p : P v h') : PureEnd s P v ⟨h', s.gens, s.drawn, tk, s.os⟩ :=
  ⟨h', tk, rfl, fun b o e => D.keep b o e (by cases PySem.W.X.hasCls o <;> rfl), p⟩
theorem pureEnd0 {s : Shared} {P : Value → Heap → Prop} {v : Value} {tk : Nat} (p : P v s.heap) : PureEnd s P v ⟨s.heap, s.gens, s.drawn, tk, s.os⟩ := ⟨s.heap, tk, rfl, fun _ _ e => e, p⟩
section
variable {h₀ h h' : Heap} {L a : Addr} {m : Str → Option Value} {news : List (Addr × Obj)} {o : Obj} {q : Addr × Obj}
theorem Grew.fr (G : Grew h h') (F : Fr h₀ L h m) : Fr h₀ L h' m := ⟨F.ns.keeps G, fun b o e => G b o (F.keep b o e), F.above⟩
theorem Grew.nws (G : Grew h h') (N : News h₀ L h news) : News h₀ L h' news := fun p hp => ⟨G _ _ (N p hp).1, (N p hp).2⟩
theorem newsNew (G : Grew h h') (F : Fr h₀ L h m) (N : News h₀ L h news) (ho : h'.get? a = some o) (hn : h.get? a = none) : News h₀ L h' ((a, o) :: news) ∧ ∀ p ∈ news, p.1 ≠ a := by
  refine ⟨fun p hp => ?_, fun p hp e => ?_⟩
  · rcases List.mem_cons.mp hp with rfl | hp
    · refine ⟨ho, ?_, ?_⟩
      · obtain ⟨oL, _, _, hL, _⟩ := F.ns
        intro e
        have e' : a = L := e
        rw [e', hL] at hn; cases hn
      · cases q : h₀.get? a with
        | none => rfl
        | some o' => have := F.keep _ _ q; rw [hn] at this; cases this
    · exact G.nws N p hp
  · have := (N p hp).1
    rw [e, hn] at this; cases this
theorem newsAdd (N : News h₀ L h news) (hq : q ∈ news) : News h₀ L h (q :: news) := fun p hp => by
  rcases List.mem_cons.mp hp with rfl | hp
  · exact N _ hq
  · exact N p hp
theorem newsTail (N : News h₀ L h (q :: news)) : News h₀ L h news := fun p hp => N p (.tail _ hp)
end
section
variable {prog : Program} {w : World} {A : Around} {E : Value → Shared → Prop} {s : Shared} {h₀ : Heap} {L : Addr} {m : Str → Option Value} {news : List (Addr × Obj)} {t : Sem Value} {P : Value → Heap → Prop} {Q : Value → Shared → Prop}
theorem lift_pure (F : Fr h₀ L s.heap m) (N : News h₀ L s.heap news) (hx : wpAny (model prog w) AX t (PureEnd s P) (fun _ _ => False) s)
    (e1 : A.handled = none) (e2 : A.depth ≤ 600) (e5 : A.units ≤ 6000) (h : ∀ v h' tk, Fr h₀ L h' m → News h₀ L h' news → Grew s.heap h' → P v h' → Q v { s with heap := h', toks := tk }) :
    wpAny (model prog w) A t Q E s := by
  refine wpAny_mono (wpAny_AX hx e1 e2 e5) (fun v s' hv => ?_) fun _ _ hf => hf.elim
  obtain ⟨h', tk, rfl, G, p⟩ := hv
  exact h v h' tk (G.fr F) (G.nws N) G p
end
theorem newsRot3 {h₀ h : Heap} {L : Addr} {x y z : Addr × Obj} {l : List (Addr × Obj)} (N : News h₀ L h (x :: y :: z :: l)) : News h₀ L h (y :: z :: x :: l) := fun p hp => N p (by
  simp only [List.mem_cons] at hp ⊢
  rcases hp with h | h | h | h
  · exact .inr (.inl h)
  · exact .inr (.inr (.inl h))
  · exact .inl h
  · exact .inr (.inr (.inr h)))
theorem newsRot4 {h₀ h : Heap} {L : Addr} {x y z u : Addr × Obj} {l : List (Addr × Obj)} (N : News h₀ L h (x :: y :: z :: u :: l)) : News h₀ L h (y :: z :: u :: x :: l) := fun p hp => N p (by
  simp only [List.mem_cons] at hp ⊢
  rcases hp with h | h | h | h | h
  · exact .inr (.inl h)
  · exact .inr (.inr (.inl h))
  · exact .inr (.inr (.inr (.inl h)))
  · exact .inl h
  · exact .inr (.inr (.inr (.inr h))))
theorem lift_mem {x : Addr × Obj} {items : Array Value} {b : Addr} {j : Nat} {news : List (Addr × Obj)} (h : items[j]? = some (.ref b) ∧ ∀ i < j, ∃ b' d', items[i]? = some (.ref b') ∧ b' ≠ b ∧ (b', instObj 189 d') ∈ news) :
    items[j]? = some (.ref b) ∧ ∀ i < j, ∃ b' d', items[i]? = some (.ref b') ∧ b' ≠ b ∧ (b', instObj 189 d') ∈ x :: news :=
  ⟨h.1, fun i hi => by obtain ⟨b', d', e1, e2, e3⟩ := h.2 i hi; exact ⟨b', d', e1, e2, .tail _ e3⟩⟩
theorem newsSub {h₀ h : Heap} {L : Addr} {l l' : List (Addr × Obj)} (N : News h₀ L h l) (hs : ∀ p ∈ l', p ∈ l) : News h₀ L h l' := fun p hp => N p (hs p hp)
theorem newsUn4 {h₀ h : Heap} {L : Addr} {x y z u : Addr × Obj} {l : List (Addr × Obj)} (N : News h₀ L h (y :: z :: u :: x :: l)) : News h₀ L h (x :: y :: z :: u :: l) := newsSub N fun p hp => by
  simp only [List.mem_cons] at hp ⊢
  rcases hp with h | h | h | h | h <;> simp [h]
local macro_rules | `(tactic| walk_at "c") => `(tactic| first | k_asm | rfl | omega | exact lift_mem (by k_asm) | exact AllAp.mk ⟨by k_ne⟩ (by k_asm) | exact AllAp.mk ⟨by k_ne⟩ (AllAp.mk ⟨by k_ne⟩ (by k_asm)))
section
open PySem.W.X PySem.W.XRun
local macro_rules | `(tactic| x_close) => `(tactic| (first | (refine pureEnd (by assumption) ?_; exact ⟨_, rfl⟩) | (refine pureEnd0 ?_; exact ⟨_, rfl⟩)))
theorem x_bytes_ba {prog : Program} {w : World} {s : Shared} {y : Addr} {data : Array UInt8} (hy : s.heap.get? y = some { cls := .type "bytearray", data := .bytearray data }) (hsz : data.size = 4) :
   wpAny (model prog w) AX (call (.type "bytes") [.ref y]) (PureEnd s fun v _ => ∃ t, v = .bytes data t) (fun _ _ => False) s := by
  x_run
theorem x_bytes_bytes {prog : Program} {w : World} {s : Shared} {u : Tok} {data : Array UInt8} (hsz : data.size = 4) :
   wpAny (model prog w) AX (call (.type "bytes") [.bytes data u]) (PureEnd s fun v _ => ∃ t, v = .bytes data t) (fun _ _ => False) s := by
  x_run
theorem x_len_bytes {prog : Program} {w : World} {s : Shared} {u : Tok} {data : Array UInt8} (hsz : data.size < 100) :
   wpAny (model prog w) AX (call (.builtin "len") [.bytes data u]) (PureEnd s fun v _ => ∃ t, v = .int data.size t) (fun _ _ => False) s := by
  x_run
theorem x_len_ba {prog : Program} {w : World} {s : Shared} {y : Addr} {data : Array UInt8} (hy : s.heap.get? y = some { cls := .type "bytearray", data := .bytearray data }) (hsz : data.size = 4) :
   wpAny (model prog w) AX (call (.builtin "len") [.ref y]) (PureEnd s fun v _ => ∃ t, v = .int data.size t) (fun _ _ => False) s := by
  x_run
theorem x_bytes_4 {prog : Program} {w : World} {s : Shared} {u : Tok} :
   wpAny (model prog w) AX (call (.type "bytes") [.int 4 u]) (PureEnd s fun v _ => ∃ t, v = .bytes #[0, 0, 0, 0] t) (fun _ _ => False) s := by
  x_run
end
theorem hOfN {h₀ h : Heap} {L : Addr} {news : List (Addr × Obj)} {c : Addr} {o : Obj} (N : News h₀ L h news) (hm : (c, o) ∈ news) : h.get? c = some o := (N _ hm).1
section
variable {prog : Program} {w : World} {A : Around} {E : Value → Shared → Prop} {s : Shared} {h₀ : Heap} {L : Addr} {m : Str → Option Value} {news : List (Addr × Obj)} {Q : Value → Shared → Prop}
theorem bytes_ba {y : Addr} {data : Array UInt8} (F : Fr h₀ L s.heap m) (N : News h₀ L s.heap news) (hy : (y, baO data) ∈ news) (hsz : data.size = 4) (e1 : A.handled = none) (e2 : A.depth ≤ 600) (e5 : A.units ≤ 6000)
    (h : ∀ t h' tk, Fr h₀ L h' m → News h₀ L h' news → Q (.bytes data t) { s with heap := h', toks := tk }) : wpAny (model prog w) A (call (.type "bytes") [.ref y]) Q E s :=
  lift_pure F N (x_bytes_ba (hOfN N hy) hsz) e1 e2 e5 fun v h' tk F' N' _ p => by obtain ⟨t, rfl⟩ := p; exact h t h' tk F' N'
theorem bytes_bytes {u : Tok} {data : Array UInt8} (F : Fr h₀ L s.heap m) (N : News h₀ L s.heap news) (hsz : data.size = 4) (e1 : A.handled = none) (e2 : A.depth ≤ 600) (e5 : A.units ≤ 6000)
    (h : ∀ t h' tk, Fr h₀ L h' m → News h₀ L h' news → Q (.bytes data t) { s with heap := h', toks := tk }) : wpAny (model prog w) A (call (.type "bytes") [.bytes data u]) Q E s :=
  lift_pure F N (x_bytes_bytes hsz) e1 e2 e5 fun v h' tk F' N' _ p => by obtain ⟨t, rfl⟩ := p; exact h t h' tk F' N'
theorem bytes_4 {u : Tok} (F : Fr h₀ L s.heap m) (N : News h₀ L s.heap news) (e1 : A.handled = none) (e2 : A.depth ≤ 600) (e5 : A.units ≤ 6000)
    (h : ∀ t h' tk, Fr h₀ L h' m → News h₀ L h' news → Q (.bytes #[0, 0, 0, 0] t) { s with heap := h', toks := tk }) : wpAny (model prog w) A (call (.type "bytes") [.int 4 u]) Q E s :=
  lift_pure F N x_bytes_4 e1 e2 e5 fun v h' tk F' N' _ p => by obtain ⟨t, rfl⟩ := p; exact h t h' tk F' N'
theorem len_bytes {u : Tok} {data : Array UInt8} (F : Fr h₀ L s.heap m) (N : News h₀ L s.heap news) (hsz : data.size < 100) (e1 : A.handled = none) (e2 : A.depth ≤ 600) (e5 : A.units ≤ 6000)
    (h : ∀ t h' tk, Fr h₀ L h' m → News h₀ L h' news → Q (.int data.size t) { s with heap := h', toks := tk }) : wpAny (model prog w) A (call (.builtin "len") [.bytes data u]) Q E s :=
  lift_pure F N (x_len_bytes hsz) e1 e2 e5 fun v h' tk F' N' _ p => by obtain ⟨t, rfl⟩ := p; exact h t h' tk F' N'
theorem len_ba {y : Addr} {data : Array UInt8} (F : Fr h₀ L s.heap m) (N : News h₀ L s.heap news) (hy : (y, baO data) ∈ news) (hsz : data.size = 4) (e1 : A.handled = none) (e2 : A.depth ≤ 600) (e5 : A.units ≤ 6000)
    (h : ∀ t h' tk, Fr h₀ L h' m → News h₀ L h' news → Q (.int data.size t) { s with heap := h', toks := tk }) : wpAny (model prog w) A (call (.builtin "len") [.ref y]) Q E s :=
  lift_pure F N (x_len_ba (hOfN N hy) hsz) e1 e2 e5 fun v h' tk F' N' _ p => by obtain ⟨t, rfl⟩ := p; exact h t h' tk F' N'
end
local macro_rules | `(tactic| walk_at "call type:bytes") => `(tactic| (k_dflt (first
  | (refine' bytes_ba ?kF ?kN ?hy ?hs ?e1 ?e2 ?e5 ?_; (case kF => k_asm); (case kN => k_asm); (case hy => k_mem); (case hs => k_asm))
  | (refine' bytes_bytes ?kF ?kN ?hs ?e1 ?e2 ?e5 ?_; (case kF => k_asm); (case kN => k_asm); (case hs => k_asm))
  | (refine' bytes_4 ?kF ?kN ?e1 ?e2 ?e5 ?_; (case kF => k_asm); (case kN => k_asm))); (case e1 => rfl); (case e2 => (dsimp only [ktrTop, Around.deeper, Around.in1]; omega)); (case e5 => (dsimp only [ktrTop, Around.deeper, Around.in1]; omega)); intro t' h' tk' F' N'; (try k_sweep)))
local macro_rules | `(tactic| walk_at "call builtin:len") => `(tactic| (k_dflt (first
  | (refine' len_ba ?kF ?kN ?hy ?hs ?e1 ?e2 ?e5 ?_; (case kF => k_asm); (case kN => k_asm); (case hy => k_mem); (case hs => k_asm))
  | (refine' len_bytes ?kF ?kN ?hs ?e1 ?e2 ?e5 ?_; (case kF => k_asm); (case kN => k_asm); (case hs => walk_at "o"))); (case e1 => rfl); (case e2 => (dsimp only [ktrTop, Around.deeper, Around.in1]; omega)); (case e5 => (dsimp only [ktrTop, Around.deeper, Around.in1]; omega)); intro t' h' tk' F' N'; (try k_sweep)))
theorem len_obj {prog : Program} {w : World} {A : Around} {E : Value → Shared → Prop} {s : Shared} {h₀ : Heap} {L : Addr} {news : List (Addr × Obj)} {l : Addr} {xs : Array Value} {n : Nat} {Q : Value → Shared → Prop} (N : News h₀ L s.heap news) (hm : (l, listOf xs n) ∈ news) (hz : xs.size < 16384)
    (h : Q (.int xs.size (s.toks + 1)) { s with toks := s.toks + 1 + 1 }) : wpAny (model prog w) A (call (.builtin "len") [.ref l]) Q E s := kun_lenL (News.isList N hm) rfl (by omega) h
local macro_rules | `(tactic| walk_at "call builtin:len") => `(tactic| (k_dflt (refine' len_obj (by k_asm) (by k_mem) (by first | omega | decide) ?_)))
section
variable {prog : Program} {w : World} {p : Program} {loose : List Str} {mean : ExcName → Option Value} {mg mb : Str → Option Value} {dp un : Nat} {gd : Option (List Code)} {cn : Str} {cs : Scope} {a : Addr} {ccd : Value} {cl : List (Str × Addr)} {outer : List Env} {A₀ : Around} {base h₀ : Heap} {L : Addr} {m : Str → Option Value} {s : Shared} {Q E : Value → Shared → Prop} {news : List (Addr × Obj)}
  (B : Below A₀ base outer h₀) (F : Fr h₀ L s.heap m) (X : (Mine.hd.heap_1 w.params).In h₀) (T : Top p loose mean mg mb h₀) (hk : cs.kind = .function)
include B F X T hk
theorem need_block_ok {cI cD kI kD rw bn kept lt uf : Addr} {tc tk : Nat → Tok} {hits reads writes dw k : Int} {kt : Tok}
  (N : News h₀ L s.heap (news)) (m1 : (cI, instObj 304 cD) ∈ news) (m2 : (cD, cacheD w tc kI rw bn hits reads writes) ∈ news) (m3 : (kI, instObj 402 kD) ∈ news) (m4 : (kD, diskD w tk kept lt uf dw) ∈ news) (c1 : 0 ≤ k) (c2 : k < 6)
  (hdp : dp + 1 < 500) (hun : un + 8 < 5000)
  (hret : ∀ h' tk' , Fr h₀ L h' m → News h₀ L h' (news) → Q .none { s with heap := h', toks := tk' }) :
   wpAny (model prog w) (ktrTop dp un gd cn cs L a ccd cl outer) (call (.ref 214) [.ref cI, .int k kt]) Q E s := by
  refine wpAny_call ?_
  k_dflt ktr_enter
  k_steps
  all_goals exact hret _ _  (by k_asm) (by first | k_asm | exact newsTail (by k_asm))
end
local macro_rules | `(tactic| walk_at "call ref") => `(tactic| ((with_reducible show wpAny _ _ (call (Value.ref 214) _ _) _ _ _); k_dflt (refine' need_block_ok (by k_asm) (by k_asm) (by k_asm) (by k_asm) (by walk_at "r") (by k_asm) (by k_mem) (by k_mem) (by k_mem) (by k_mem) (by walk_at "c") (by walk_at "c") (by walk_at "h") (by walk_at "h") ?_; k_whole); intro h' tk' F' N'; (try k_sweep)))
section
variable {prog : Program} {w : World} {p : Program} {loose : List Str} {mean : ExcName → Option Value} {mg mb : Str → Option Value} {dp un : Nat} {gd : Option (List Code)} {cn : Str} {cs : Scope} {a : Addr} {ccd : Value} {cl : List (Str × Addr)} {outer : List Env} {A₀ : Around} {base h₀ : Heap} {L : Addr} {m : Str → Option Value} {s : Shared} {Q E : Value → Shared → Prop} {news : List (Addr × Obj)}
  (B : Below A₀ base outer h₀) (F : Fr h₀ L s.heap m) (X : (Mine.hd.heap_1 w.params).In h₀) (T : Top p loose mean mg mb h₀) (hk : cs.kind = .function)
include B F X T hk
theorem need_held_ok {cI cD kI rw bn b d y : Addr} {tc tb : Nat → Tok} {hits reads writes k hd : Int} {ob : Obj} {kvs : List (Int × Value)}
  (N : News h₀ L s.heap (news)) (m1 : (cI, instObj 304 cD) ∈ news) (m2 : (cD, cacheD w tc kI rw bn hits reads writes) ∈ news) (m3 : (bn, ob) ∈ news) (m4 : (b, instObj 189 d) ∈ news) (m5 : (d, bufD w tb k y hd) ∈ news) (c1 : ob.IsDictOf (intKind prog w) kvs) (c2 : (bn == sysModules) = false) (c3 : valueAt kvs k = some (.ref b)) (c4 : hd ≠ 0)
  (hdp : dp + 1 < 500) (hun : un + 8 < 5000)
  (hret : ∀ h' tk' , Fr h₀ L h' m → News h₀ L h' (news) → Q .none { s with heap := h', toks := tk' }) :
   wpAny (model prog w) (ktrTop dp un gd cn cs L a ccd cl outer) (call (.ref 221) [.ref cI, .ref b]) Q E s := by
  refine wpAny_call ?_
  k_dflt ktr_enter
  k_steps
  all_goals exact hret _ _  (by k_asm) (by first | k_asm | exact newsTail (by k_asm))
end
section
variable {prog : Program} {w : World} {p : Program} {loose : List Str} {mean : ExcName → Option Value} {mg mb : Str → Option Value} {dp un : Nat} {gd : Option (List Code)} {cn : Str} {cs : Scope} {a : Addr} {ccd : Value} {cl : List (Str × Addr)} {outer : List Env} {A₀ : Around} {base h₀ : Heap} {L : Addr} {m : Str → Option Value} {s : Shared} {Q E : Value → Shared → Prop} {news : List (Addr × Obj)}
  (B : Below A₀ base outer h₀) (F : Fr h₀ L s.heap m) (X : (Mine.hd.heap_1 w.params).In h₀) (T : Top p loose mean mg mb h₀) (hk : cs.kind = .function)
include B F X T hk
theorem is_free_ok {b d y : Addr} {tb : Nat → Tok} {k hd : Int}
  (N : News h₀ L s.heap (news)) (m1 : (b, instObj 189 d) ∈ news) (m2 : (d, bufD w tb k y hd) ∈ news)
  (hdp : dp + 1 < 500) (hun : un + 8 < 5000)
  (hret : ∀ h' tk' , Fr h₀ L h' m → News h₀ L h' (news) → Q (.bool (hd == 0)) { s with heap := h', toks := tk' }) :
   wpAny (model prog w) (ktrTop dp un gd cn cs L a ccd cl outer) (call (.ref 118) [.ref b]) Q E s := by
  refine wpAny_call ?_
  k_dflt ktr_enter
  k_steps
  all_goals (first | exact hret _ _ (by k_asm) (by k_asm) | (have e : (hd == 0) = ((0 : Int) == 0) := by (have z : hd = 0 := by omega); rw [z]); rw [← e]; exact hret _ _ (by k_asm) (by k_asm))
end
local macro_rules | `(tactic| walk_at "call ref") => `(tactic| ((with_reducible show wpAny _ _ (call (Value.ref 118) _ _) _ _ _); k_dflt (refine' is_free_ok (by k_asm) (by k_asm) (by k_asm) (by k_asm) (by walk_at "r") (by k_asm) (by k_mem) (by k_mem)  (by walk_at "h") (by walk_at "h") ?_; k_whole); intro h' tk' F' N'; (try k_sweep)))
section
variable {prog : Program} {w : World} {p : Program} {loose : List Str} {mean : ExcName → Option Value} {mg mb : Str → Option Value} {dp un : Nat} {gd : Option (List Code)} {cn : Str} {cs : Scope} {a : Addr} {ccd : Value} {cl : List (Str × Addr)} {outer : List Env} {A₀ : Around} {base h₀ : Heap} {L : Addr} {m : Str → Option Value} {s : Shared} {Q E : Value → Shared → Prop} {news : List (Addr × Obj)}
  (B : Below A₀ base outer h₀) (F : Fr h₀ L s.heap m) (X : (Mine.hd.heap_1 w.params).In h₀) (T : Top p loose mean mg mb h₀) (hk : cs.kind = .function)
include B F X T hk
theorem octets_ok {b d y : Addr} {tb : Nat → Tok} {k hd : Int} {data : Array UInt8}
  (N : News h₀ L s.heap (news)) (m1 : (b, instObj 189 d) ∈ news) (m2 : (d, bufD w tb k y hd) ∈ news) (m3 : (y, baO data) ∈ news) (c1 : data.size = 4)
  (hdp : dp + 1 < 500) (hun : un + 8 < 5000)
  (hret : ∀ h' tk' t, Fr h₀ L h' m → News h₀ L h' (news) → Q (.bytes data t) { s with heap := h', toks := tk' }) :
   wpAny (model prog w) (ktrTop dp un gd cn cs L a ccd cl outer) (call (.ref 125) [.ref b]) Q E s := by
  refine wpAny_call ?_
  k_dflt ktr_enter
  k_steps
  all_goals exact hret _ _ _ (by k_asm) (by first | k_asm | exact newsTail (by k_asm))
end
local macro_rules | `(tactic| walk_at "call ref") => `(tactic| ((with_reducible show wpAny _ _ (call (Value.ref 125) _ _) _ _ _); k_dflt (refine' octets_ok (by k_asm) (by k_asm) (by k_asm) (by k_asm) (by walk_at "r") (by k_asm) (by k_mem) (by k_mem) (by k_mem) (by walk_at "c") (by walk_at "h") (by walk_at "h") ?_; k_whole); intro h' tk' t' F' N'; (try k_sweep)))
section
variable {prog : Program} {w : World} {p : Program} {loose : List Str} {mean : ExcName → Option Value} {mg mb : Str → Option Value} {dp un : Nat} {gd : Option (List Code)} {cn : Str} {cs : Scope} {a : Addr} {ccd : Value} {cl : List (Str × Addr)} {outer : List Env} {A₀ : Around} {base h₀ : Heap} {L : Addr} {m : Str → Option Value} {s : Shared} {Q E : Value → Shared → Prop} {news : List (Addr × Obj)}
  (B : Below A₀ base outer h₀) (F : Fr h₀ L s.heap m) (X : (Mine.hd.heap_1 w.params).In h₀) (T : Top p loose mean mg mb h₀) (hk : cs.kind = .function)
include B F X T hk
theorem dneed_block_ok {kI kD kept lt uf : Addr} {tk : Nat → Tok} {dw k : Int} {kt : Tok}
  (N : News h₀ L s.heap (news)) (m1 : (kI, instObj 402 kD) ∈ news) (m2 : (kD, diskD w tk kept lt uf dw) ∈ news) (c1 : 0 ≤ k) (c2 : k < 6)
  (hdp : dp + 1 < 500) (hun : un + 8 < 5000)
  (hret : ∀ h' tk' , Fr h₀ L h' m → News h₀ L h' (news) → Q .none { s with heap := h', toks := tk' }) :
   wpAny (model prog w) (ktrTop dp un gd cn cs L a ccd cl outer) (call (.ref 336) [.ref kI, .int k kt]) Q E s := by
  refine wpAny_call ?_
  k_dflt ktr_enter
  k_steps
  all_goals exact hret _ _  (by k_asm) (by first | k_asm | exact newsTail (by k_asm))
end
section
variable {prog : Program} {w : World} {p : Program} {loose : List Str} {mean : ExcName → Option Value} {mg mb : Str → Option Value} {dp un : Nat} {gd : Option (List Code)} {cn : Str} {cs : Scope} {a : Addr} {ccd : Value} {cl : List (Str × Addr)} {outer : List Env} {A₀ : Around} {base h₀ : Heap} {L : Addr} {m : Str → Option Value} {s : Shared} {Q E : Value → Shared → Prop} {news : List (Addr × Obj)}
  (B : Below A₀ base outer h₀) (F : Fr h₀ L s.heap m) (X : (Mine.hd.heap_1 w.params).In h₀) (T : Top p loose mean mg mb h₀) (hk : cs.kind = .function)
include B F X T hk
theorem need_power_ok {kI kD kept lt uf : Addr} {tk : Nat → Tok} {dw : Int}
  (N : News h₀ L s.heap (news)) (m1 : (kI, instObj 402 kD) ∈ news) (m2 : (kD, diskD w tk kept lt uf dw) ∈ news)
  (hdp : dp + 1 < 500) (hun : un + 8 < 5000)
  (hret : ∀ h' tk' , Fr h₀ L h' m → News h₀ L h' (news) → Q .none { s with heap := h', toks := tk' }) :
   wpAny (model prog w) (ktrTop dp un gd cn cs L a ccd cl outer) (call (.ref 329) [.ref kI]) Q E s := by
  refine wpAny_call ?_
  k_dflt ktr_enter
  k_steps
  all_goals exact hret _ _  (by k_asm) (by first | k_asm | exact newsTail (by k_asm))
end
section
variable {prog : Program} {w : World} {p : Program} {loose : List Str} {mean : ExcName → Option Value} {mg mb : Str → Option Value} {dp un : Nat} {gd : Option (List Code)} {cn : Str} {cs : Scope} {a : Addr} {ccd : Value} {cl : List (Str × Addr)} {outer : List Env} {A₀ : Around} {base h₀ : Heap} {L : Addr} {m : Str → Option Value} {s : Shared} {Q E : Value → Shared → Prop} {news : List (Addr × Obj)}
  (B : Below A₀ base outer h₀) (F : Fr h₀ L s.heap m) (X : (Mine.hd.heap_1 w.params).In h₀) (T : Top p loose mean mg mb h₀) (hk : cs.kind = .function)
include B F X T hk
theorem disk_read_ok {kI kD kept lt uf : Addr} {tk : Nat → Tok} {dw k : Int} {kt : Tok} {ol : Obj} {xv : Option Value} {lvs : List (Int × Value)}
  (N : News h₀ L s.heap (news)) (m1 : (kI, instObj 402 kD) ∈ news) (m2 : (kD, diskD w tk kept lt uf dw) ∈ news) (m3 : (lt, ol) ∈ news) (c1 : ol.IsDictOf (intKind prog w) lvs) (c2 : (lt == sysModules) = false) (c3 : 0 ≤ k) (c4 : k < 6) (c5 : valueAt lvs k = xv)
  (hdp : dp + 2 < 500) (hun : un + 16 < 5000)
  (hret : ∀ h' tk' t, Fr h₀ L h' m → News h₀ L h' (news) → Q (xv.getD (.bytes #[0, 0, 0, 0] t)) { s with heap := h', toks := tk' }) :
   wpAny (model prog w) (ktrTop dp un gd cn cs L a ccd cl outer) (call (.ref 343) [.ref kI, .int k kt]) Q E s := by
  refine wpAny_call ?_
  k_dflt ktr_enter
  k_steps
  any_goals ((with_reducible show wpAny _ _ (call (Value.ref 329) _ _) _ _ _); k_dflt (refine' need_power_ok (by k_asm) (by k_asm) (by k_asm) (by k_asm) (by walk_at "r") (by k_asm) (by k_mem) (by k_mem)  (by walk_at "h") (by walk_at "h") ?_; k_whole); intro h'z tk'z F'z N'z; (try k_sweep))
  k_steps
  any_goals ((with_reducible show wpAny _ _ (call (Value.ref 336) _ _) _ _ _); k_dflt (refine' dneed_block_ok (by k_asm) (by k_asm) (by k_asm) (by k_asm) (by walk_at "r") (by k_asm) (by k_mem) (by k_mem) (by walk_at "c") (by walk_at "c") (by walk_at "h") (by walk_at "h") ?_; k_whole); intro h'z tk'z F'z N'z; (try k_sweep))
  k_steps
  all_goals exact hret _ _ _ (by k_asm) (by first | k_asm | exact newsTail (by k_asm))
end
section
variable {prog : Program} {w : World} {A : Around} {E : Value → Shared → Prop} {R : Result → Shared → Prop} {s : Shared} {env : Env}
theorem forLoop_turn {target : Expr} {it : Value} {body orelse : List Stmt}
    (turn : wpAny (model prog w) A (pyNext it) (fun r s₁ => match r with
      | none => wpAny (model prog w) A (execs orelse env) (fun f s₃ => R (.ok f) s₃) (notedBy (model prog w) A env fun e s' => R (.error e) s') s₁
      | some v => wpAny (model prog w) A (letOwnedTupleGo target it v) (fun _ s₁' =>
          wpAny (model prog w) A (assign target env v) (fun _ s₂ => wpAny (model prog w) A (execs body env) (fun f s₃ => match f with
            | .next | .cont => codeAny (model prog w) A (.forLoop target it body orelse env) R s₃
            | .brk => R (.ok .next) s₃
            | .ret v => R (.ok (.ret v)) s₃) (notedBy (model prog w) A env fun e s' => R (.error e) s') s₂) (notedBy (model prog w) A env fun e s' => R (.error e) s') s₁')
          (notedBy (model prog w) A env fun e s' => R (.error e) s') s₁) (notedBy (model prog w) A env fun e s' => R (.error e) s') s) :
    codeAny (model prog w) A (.forLoop target it body orelse env) R s := by
  refine codeAny_of_tree ?_
  show wpAny _ A ((forTurn target it body orelse env).onRaise (fun x => do noteFrame x env; theTreesLotGoes x)) _ _ s
  refine wpAny_noted ?_
  simp only [forTurn]
  refine wpAny_bind (wpAny_standAt (wpAny_bind (wpAny_onRaise (wpAny_mono turn (fun r s₁ h₁ => ?_) fun _ _ h' => wpAny_standAt h'))))
  cases r with
  | none => exact wpAny_pure ⟨rfl, codeAny_block h₁⟩
  | some v =>
    refine wpAny_bind (wpAny_mono h₁ (fun _ s₁' h₁' => ?_) fun _ _ h' => h')
    refine wpAny_bind (wpAny_mono h₁' (fun _ s₂ h₂ => wpAny_bind (wpAny_mono h₂ (fun f s₃ h₃ => ?_) fun _ _ h' => h')) fun _ _ h' => h')
    cases f with
    | next => exact wpAny_pure ⟨rfl, h₃⟩
    | cont => exact wpAny_pure ⟨rfl, h₃⟩
    | brk => exact wpAny_pure h₃
    | ret v => exact wpAny_pure h₃
/-- an enumeration's objects at a turn -/
def EnumAt (h : Heap) (L e it l : Addr) (items : Array Value) (i : Nat) : Prop :=
  e ≠ it ∧ e ≠ L ∧ it ≠ L ∧ l ≠ L ∧ l ≠ e ∧ l ≠ it ∧ (∃ old, IsEnum h e it (i : Int) old) ∧ h.IsListIter it l i ∧ h.IsList l items
theorem enum_item {xi xv : Str} {pi pv pt : Pos} {x1} {body : List Stmt} {e it l : Addr} {items : Array Value} {m : Str → Option Value} {i : Nat} {v : Value} {h₀ : Heap} {news : List (Addr × Obj)}
    (hh : A.handled = none) (hxi : env.kindOf xi = some .local) (hxv : env.kindOf xv = some .local)
    (hp : (env.scope.kind == .class || (env.scope.kind == .module && env.locals != env.globals)) = false)
    (En : EnumAt s.heap env.locals e it l items i) (hv : items[i]? = some v) (F : Fr h₀ env.locals s.heap m) (N : News h₀ env.locals s.heap news)
    (n0 : h₀.get? e = none) (n1 : h₀.get? it = none) (n2 : ∀ p ∈ news, p.1 ≠ e ∧ p.1 ≠ it)
    (h : ∀ h' tk, EnumAt h' env.locals e it l items (i + 1) → Fr h₀ env.locals h' (fun y => if y = xv then some v else if y = xi then some (.int i s.toks) else m y) → News h₀ env.locals h' news →
      wpAny (model prog w) A (execs body env) (fun f s₃ => match f with
            | .next | .cont => codeAny (model prog w) A (.forLoop (.Tuple [.Name xi pi, .Name xv pv] x1 pt) (.ref e) body [] env) R s₃
            | .brk => R (.ok .next) s₃
            | .ret v => R (.ok (.ret v)) s₃) (notedBy (model prog w) A env fun e s' => R (.error e) s') { s with heap := h', toks := tk }) :
    codeAny (model prog w) A (.forLoop (.Tuple [.Name xi pi, .Name xv pv] x1 pt) (.ref e) body [] env) R s := by
  obtain ⟨H, g, d, tk, os⟩ := s
  obtain ⟨hei, heL, hiL, hlL, hle, hli, ⟨old, he'⟩, hit', hl'⟩ := En
  have hn' := F.ns
  have hlt : i < items.size := (Array.getElem?_eq_some_iff.mp hv).1
  have heH : e < H.objs.size := Heap.lt_size he'
  have hLH : env.locals < H.objs.size := hn'.lt
  obtain ⟨oi, hoi, _⟩ := id hit'
  obtain ⟨ol, hol, _⟩ := id hl'
  have hiH : it < H.objs.size := Heap.lt_size hoi
  have hlH : l < H.objs.size := Heap.lt_size hol
  refine forLoop_turn (wpAny_pyNext_enum_item he' hit' hl' hv hei fun h₁ heo hit₁ ht₁ hz₁ hk₁ => ?_)
  refine wpAny_letOwnedTupleGo_enum heo fun h₂ he₂ hs₂ => ?_
  replace hs₂ : Heap.SameBut e h₁ h₂ := hs₂
  have ht₂ : h₂.IsTuple H.objs.size #[.int i tk, v] := ⟨_, (hs₂.2 _ (Nat.ne_of_gt heH)).trans ht₁, rfl, _, rfl⟩
  have hz₂ : h₂.objs.size = H.objs.size + 1 := hs₂.1.trans hz₁
  refine wpAny_assign_Tuple hh ht₂ rfl rfl fun h₃ hx₃ => ?_
  replace hx₃ : Heap.ExtBut h₂.objs.size h₂ h₃ := hx₃
  have old₃ : ∀ b o, b < H.objs.size → h₂.get? b = some o → h₃.get? b = some o := fun b o hb x => hx₃ b o (by rw [hz₂]; exact Nat.ne_of_lt (Nat.lt_succ_of_lt hb)) x
  have hn₃ : h₃.Ns env.locals m := (hn'.at fun o x => hk₁ _ o (Ne.symm heL) (Ne.symm hiL) x).sameBut hs₂ (Ne.symm heL) |>.at fun o x => old₃ _ o hLH x
  show wpAny _ A (do holding [v] (assign (.Name xi pi) env (.int i tk)); do holding [] (assign (.Name xv pv) env v); pure ()) _ _ _
  refine wpAny_bind (wpAny_holding (wpAny_assign_Name (wpAny_storeName_local hxi hn₃ (fun h₄ hn₄ hs₄ => ?_) hp)))
  replace hs₄ : Heap.SameBut env.locals h₃ h₄ := hs₄
  refine wpAny_bind (wpAny_holding (wpAny_assign_Name (wpAny_storeName_local hxv hn₄ (fun h₅ hn₅ hs₅ => wpAny_pure ?_) hp)))
  replace hs₅ : Heap.SameBut env.locals h₄ h₅ := hs₅
  have up : ∀ b o, b ≠ env.locals → b < H.objs.size → h₂.get? b = some o → h₅.get? b = some o := fun b o hbL hb x => hs₅.extBut b o hbL (hs₄.extBut b o hbL (old₃ b o hb x))
  have keep : ∀ b o, b ≠ env.locals → b ≠ e → b ≠ it → H.get? b = some o → h₅.get? b = some o := fun b o hbL hbe hbi x => up b o hbL (Heap.lt_size x) (hs₂.extBut b o hbe (hk₁ b o hbe hbi x))
  refine h h₅ _ ⟨hei, heL, hiL, hlL, hle, hli, ⟨v, ?_⟩, ?_, ?_⟩ ⟨hn₅, fun b o x => keep b o (fun q => ?_) (fun q => ?_) (fun q => ?_) (F.keep b o x), F.above⟩ fun p hp => ⟨keep _ _ (N p hp).2.1 (n2 p hp).1 (n2 p hp).2 (N p hp).1, (N p hp).2⟩
  · have : ((i + 1 : Nat) : Int) = (i : Int) + 1 := by push_cast; rfl
    rw [this]; exact up e _ heL heH he₂
  · exact (hit₁.extBut hs₂.extBut (Ne.symm hei)).at fun o x => up it o hiL hiH x
  · exact ((hl'.at fun o x => hk₁ l o hle hli x).extBut hs₂.extBut hle).at fun o x => up l o hlL hlH x
  · rw [q, kts_self F] at x; cases x
  · rw [q, n0] at x; cases x
  · rw [q, n1] at x; cases x
theorem enum_end {target : Expr} {body : List Stmt} {e it l : Addr} {items : Array Value} {m : Str → Option Value} {i : Nat} {h₀ : Heap} {news : List (Addr × Obj)}
    (hh : A.handled = none) (En : EnumAt s.heap env.locals e it l items i) (hv : items[i]? = none) (F : Fr h₀ env.locals s.heap m) (N : News h₀ env.locals s.heap news)
    (n0 : h₀.get? e = none) (n1 : h₀.get? it = none) (n2 : ∀ p ∈ news, p.1 ≠ e ∧ p.1 ≠ it)
    (h : ∀ h', Fr h₀ env.locals h' m → News h₀ env.locals h' news → R (.ok .next) { s with heap := h' }) :
    codeAny (model prog w) A (.forLoop target (.ref e) body [] env) R s := by
  obtain ⟨hei, heL, hiL, hlL, hle, hli, ⟨old, he'⟩, hit', hl'⟩ := En
  refine forLoop_turn (wpAny_pyNext_enum_end hh he' hit' hl' hv fun h₁ he₁ => wpAny_execs_nil (h h₁ ⟨F.ns.extBut he₁ (Ne.symm hiL), fun b o x => he₁ b o (fun q => ?_) (F.keep b o x), F.above⟩ fun p hp => ⟨he₁ _ _ (n2 p hp).2 (N p hp).1, (N p hp).2⟩))
  rw [q, n1] at x; cases x
theorem call_enum {Q : Value → Shared → Prop} {l L : Addr} {xs : Array Value} {n : Nat} {m : Str → Option Value} {h₀ : Heap} {news : List (Addr × Obj)} (F : Fr h₀ L s.heap m) (N : News h₀ L s.heap news) (hm : (l, listOf xs n) ∈ news)
    (h : ∀ e it h', EnumAt h' L e it l xs 0 → h₀.get? e = none → h₀.get? it = none → (∀ p ∈ news, p.1 ≠ e ∧ p.1 ≠ it) → Fr h₀ L h' m → News h₀ L h' news → wpAny (model prog w) A (pyIter (.ref e)) (fun v s' => v = .ref e ∧ s' = { s with heap := h' }) E { s with heap := h' } → Q (.ref e) { s with heap := h' }) :
    wpAny (model prog w) A (call (.type "enumerate") [.ref l]) Q E s := by
  refine call_enumerate_1 (N _ hm).1 fun h' he hit hz keep => ?_
  have lt : ∀ b o, s.heap.get? b = some o → b < s.heap.objs.size := fun b o x => Heap.lt_size x
  have hl : l < s.heap.objs.size := lt _ _ (N _ hm).1
  have hL : L < s.heap.objs.size := F.ns.lt
  have nn : ∀ b, s.heap.objs.size ≤ b → h₀.get? b = none := fun b hb => by
    cases q : h₀.get? b with
    | none => rfl
    | some o => exact absurd (lt _ _ (F.keep _ _ q)) (Nat.not_lt.mpr hb)
  refine h _ _ h' ⟨Nat.succ_ne_self _, Nat.ne_of_gt (Nat.lt_succ_of_lt hL), Nat.ne_of_gt hL, (N _ hm).2.1, Nat.ne_of_lt (Nat.lt_succ_of_lt hl), Nat.ne_of_lt hl, ⟨_, he⟩, hit, ⟨_, keep _ _ (N _ hm).1, rfl, n, rfl⟩⟩ (nn _ (Nat.le_succ _)) (nn _ (Nat.le_refl _)) (fun p hp => ?_) ⟨F.ns.keeps keep, fun b o x => keep b o (F.keep b o x), F.above⟩ (fun p hp => ⟨keep _ _ (N p hp).1, (N p hp).2⟩) (wpAny_pyIter_enum he ⟨rfl, rfl⟩)
  have := lt _ _ (N p hp).1
  exact ⟨Nat.ne_of_lt (Nat.lt_succ_of_lt this), Nat.ne_of_lt this⟩
end
local macro_rules | `(tactic| walk_at "exec For Tuple Call") => `(tactic| (k_dflt (refine wpAny_For ?_ (by intro _; rfl))))
theorem item0 {v : Value} {r : List Value} : (List.toArray (v :: r))[0]? = some v := rfl
theorem item1 {u v : Value} {r : List Value} : (List.toArray (u :: v :: r))[1]? = some v := rfl
theorem item2 {t u v : Value} {r : List Value} : (List.toArray (t :: u :: v :: r))[2]? = some v := rfl
local macro_rules | `(tactic| walk_at "call type:enumerate") => `(tactic| (k_dflt (refine' call_enum ?kF ?kN ?kM ?_; (case kF => k_asm); (case kN => k_asm); (case kM => k_mem)); intro e' it' h' En' n0' n1' n2' F' N' pI'; k_sweep; refine wpAny_mono pI' (fun v' s' hq' => ?_) (fun _ _ x => x); clear pI'; have hv' := hq'.1; have hs' := hq'.2; clear hq'; subst hv'; subst hs'; k_dflt (refine' enum_item rfl rfl rfl rfl En' item0 ?kF ?kN n0' n1' n2' ?_; (case kF => k_asm); (case kN => k_asm)); clear En'; intro h' tk' En' F' N'; k_sweep))
local macro_rules | `(tactic| walk_at "delItem ref") => `(tactic| (k_dflt (refine' kob_del (knd := PySem.intKind _ _) (by k_asm) (by k_asm) (by k_updF) (by k_asm) (intKind_is _ _ _ _) (by k_asm) (by k_asm) ?_); intro h' o' F' N' d'; (try k_sweep)))
section
variable {prog : Program} {w : World} {p : Program} {loose : List Str} {mean : ExcName → Option Value} {mg mb : Str → Option Value} {dp un : Nat} {gd : Option (List Code)} {cn : Str} {cs : Scope} {a : Addr} {ccd : Value} {cl : List (Str × Addr)} {outer : List Env} {A₀ : Around} {base h₀ : Heap} {L : Addr} {m : Str → Option Value} {s : Shared} {Q E : Value → Shared → Prop} {news : List (Addr × Obj)}
  (B : Below A₀ base outer h₀) (F : Fr h₀ L s.heap m) (X : (Mine.hd.heap_1 w.params).In h₀) (T : Top p loose mean mg mb h₀) (hk : cs.kind = .function)
include B F X T hk
theorem room_ok {cI cD kI rw bn : Addr} {tc : Nat → Tok} {hits reads writes : Int} {bs : Array Value} {rn : Nat}
  (N : News h₀ L s.heap (news)) (m1 : (cI, instObj 304 cD) ∈ news) (m2 : (cD, cacheD w tc kI rw bn hits reads writes) ∈ news) (m3 : (rw, listOf bs rn) ∈ news) (c1 : bs.size < 3)
  (hdp : dp + 1 < 500) (hun : un + 8 < 5000)
  (hret : ∀ h' tk' , Fr h₀ L h' m → News h₀ L h' (news) → Q .none { s with heap := h', toks := tk' }) :
   wpAny (model prog w) (ktrTop dp un gd cn cs L a ccd cl outer) (call (.ref 235) [.ref cI]) Q E s := by
  refine wpAny_call ?_
  k_dflt ktr_enter
  k_steps
  all_goals exact hret _ _  (by k_asm) (by first | k_asm | exact newsTail (by k_asm))
end
section
variable {prog : Program} {w : World} {p : Program} {loose : List Str} {mean : ExcName → Option Value} {mg mb : Str → Option Value} {dp un : Nat} {gd : Option (List Code)} {cn : Str} {cs : Scope} {a : Addr} {ccd : Value} {cl : List (Str × Addr)} {outer : List Env} {A₀ : Around} {base h₀ : Heap} {L : Addr} {m : Str → Option Value} {s : Shared} {Q E : Value → Shared → Prop} {news : List (Addr × Obj)}
  (B : Below A₀ base outer h₀) (F : Fr h₀ L s.heap m) (X : (Mine.hd.heap_1 w.params).In h₀) (T : Top p loose mean mg mb h₀) (hk : cs.kind = .function)
include B F X T hk
theorem room_evict {cI cD kI rw bn b d y : Addr} {tc tb : Nat → Tok} {hits reads writes k : Int} {b2 b3 : Addr} {rn : Nat} {ob : Obj} {kvs : List (Int × Value)}
  (N : News h₀ L s.heap ((rw, listOf #[.ref b, .ref b2, .ref b3] rn) :: (bn, ob) :: news)) (m1 : (cI, instObj 304 cD) ∈ news) (m2 : (cD, cacheD w tc kI rw bn hits reads writes) ∈ news) (m3 : (b, instObj 189 d) ∈ news) (m4 : (d, bufD w tb k y 0) ∈ news) (c1 : ob.IsDictOf (intKind prog w) kvs) (c2 : (bn == sysModules) = false) (c3 : (valueAt kvs k).isSome = true) (c4 : kvs.length ≤ sizeLine) (c5 : Apart rw bn) (c6 : AllAp rw news) (c7 : AllAp bn news)
  (hdp : dp + 2 < 500) (hun : un + 16 < 5000)
  (hret : ∀ h' tk' rn' ob', Fr h₀ L h' m → News h₀ L h' ((rw, listOf #[.ref b2, .ref b3] rn') :: (bn, ob') :: news) → ob'.IsDictOf (intKind prog w) (without kvs k) → Q .none { s with heap := h', toks := tk' }) :
   wpAny (model prog w) (ktrTop dp un gd cn cs L a ccd cl outer) (call (.ref 235) [.ref cI]) Q E s := by
  refine wpAny_call ?_
  k_dflt ktr_enter
  k_steps
  all_goals exact hret _ _ _ _ (by k_asm) (by first | k_asm | exact newsTail (by k_asm)) (by k_asm)
end
theorem strKeys_all {es : Array DictEntry} (h : es.toList.all (fun e => match e.key with | .str _ _ => true | _ => false) = true) : StrKeys es := fun e he => by
  have q := List.all_eq_true.mp h e (by simpa using he)
  revert q
  cases e.key <;> intro q <;> first | exact ⟨_, _, rfl⟩ | cases q
section
variable {w : World} {h : Heap}
theorem bufCmp {b d : Addr} (X : (Mine.hd.heap_1 w.params).In h) (hb : h.get? b = some (instObj 189 d)) : h.CmpInst b 189 [.type "object"] := by
  have hC := X 189 _ (by k_is)
  obtain ⟨m, hns, e1, e2⟩ : ∃ m : Str → Option Value, h.Ns 188 m ∧ m "__eq__" = none ∧ m "__ne__" = none := by
    have hN := X 188 _ (by k_is)
    exact ⟨_, ⟨_, _, _, hN, rfl, strKeys_all (by rfl), fun x => rfl⟩, by rfl, by rfl⟩
  exact ⟨_, _, _, 188, _, _, _, _, _, _, _, _, _, _, _, _, _, m, hb, rfl, hC, hns, e1, e2⟩
end
section
variable {prog : Program} {w : World} {A : Around} {E : Value → Shared → Prop} {s : Shared} {h₀ : Heap} {L : Addr} {m : Str → Option Value} {news : List (Addr × Obj)}
theorem eqBool_buf {b b' d d' : Addr} {Q : Bool → Shared → Prop} (X : (Mine.hd.heap_1 w.params).In s.heap) (hb : s.heap.get? b = some (instObj 189 d)) (hb' : s.heap.get? b' = some (instObj 189 d')) (hne : b ≠ b') (hu : A.units < cLine)
    (h : Q false s) : wpAny (model prog w) A (eqBool (.ref b) (.ref b')) Q E s := by
  obtain ⟨H, g, d, t, os⟩ := s
  have n1 : (Value.ref b == Value.ref b') = false := by simp [hne]
  unfold eqBool
  refine wpAny_holding ?_
  rw [n1]
  show wpAny _ _ (richCompare .Eq (.ref b) (.ref b') >>= truthOfDropped) _ _ _
  exact wpAny_bind (richCompare_eq_other F.cmp_object F.cmp_object (bufCmp X hb) (bufCmp X hb') hne hu (by exact wpAny_pure h))
theorem eqBool_self {b : Addr} {Q : Bool → Shared → Prop} (h : Q true s) : wpAny (model prog w) A (eqBool (.ref b) (.ref b)) Q E s := by
  unfold eqBool
  refine wpAny_holding ?_
  rw [beq_self_eq_true]
  exact wpAny_bind (wpAny_rule (wpAny_pure h))
/-- the place of a buffer in a row of buffers -/
def RowAt (h : Heap) (b : Addr) (items : Array Value) (j : Nat) : Prop := items[j]? = some (.ref b) ∧ ∀ i < j, ∃ b' d', items[i]? = some (.ref b') ∧ b' ≠ b ∧ h.get? b' = some (instObj 189 d')
theorem remove_loop_buf {l b d : Addr} {items : Array Value} {n : Nat} {R : Result → Shared → Prop} {j : Nat} (X : (Mine.hd.heap_1 w.params).In s.heap) (hb : s.heap.get? b = some (instObj 189 d)) (hl : s.heap.get? l = some (listOf items n)) (hz : items.size < 100)
    (hr : RowAt s.heap b items j) (hu : A.units + 1 < cLine) (h : R (.ok (.ret .none)) { s with heap := s.heap.update l (Obj.mapSeq fun xs => xs.eraseIdxIfInBounds j) }) :
    ∀ k i : Nat, j - i = k → i ≤ j → codeAny (model prog w) A (.builtin "list.remove.loop" ⟨[.ref l, .ref b, rawInt i], []⟩) R s := by
  obtain ⟨H, g, dr, tk, os⟩ := s
  have hjs : j < items.size := (Array.getElem?_eq_some_iff.mp hr.1).1
  intro k
  induction k with
  | zero =>
    intro i hk hij
    obtain rfl : i = j := by omega
    refine codeAny_builtin PySem.MeetsSeq.entry_remove_loop ?_
    rw [Around.under_plainId PySem.MeetsSeq.plain_remove_loop _]
    show wpAny _ A.in1 (Builtin.«list.remove.loop» ⟨[.ref l, .ref b, .int i 0], []⟩) _ _ _
    wp_walk using wpAny_loadPart' hl
    have hi : items[((i : Nat) : Int).toNat]? = some (.ref b) := by simpa using hr.1
    rw [hi]
    refine wpAny_bind (eqBool_self ?_)
    have hz' : (items.eraseIdxIfInBounds i).size ≤ sizeLine + 1 := Nat.le_trans (PySem.MeetsSeq.size_erased items _) (by rw [sizeLine_eq]; omega)
    have hs1 : items.size ≤ sizeLine := by rw [sizeLine_eq]; omega
    wp_walk using (wpAny_updateSeq hl rfl (hz := hs1) (_hz' := hz')), wpAny_loadPart' hl
    simpa using h
  | succ k ih =>
    intro i hk hij
    have hlt : i < j := by omega
    obtain ⟨b', d', hi', hne, hb'⟩ := hr.2 i hlt
    refine codeAny_builtin PySem.MeetsSeq.entry_remove_loop ?_
    rw [Around.under_plainId PySem.MeetsSeq.plain_remove_loop _]
    show wpAny _ A.in1 (Builtin.«list.remove.loop» ⟨[.ref l, .ref b, .int i 0], []⟩) _ _ _
    wp_walk using wpAny_loadPart' hl
    have hi : items[((i : Nat) : Int).toNat]? = some (.ref b') := by simpa using hi'
    rw [hi]
    refine wpAny_bind (eqBool_buf X hb' hb hne hu ?_)
    wp_walk
    have hc : ((i : Int) + 1) = ((i + 1 : Nat) : Int) := by push_cast; rfl
    rw [hc]
    exact ⟨plainId_quiet PySem.MeetsSeq.plain_remove_loop _, ih (i + 1) (by omega) (by omega)⟩
end
section
variable {prog : Program} {w : World} {A : Around} {E : Value → Shared → Prop} {s : Shared} {h₀ : Heap} {L : Addr} {m : Str → Option Value} {news : List (Addr × Obj)} {g : Obj → List (Addr × Obj)}
theorem call_remove_buf {l b d : Addr} {items : Array Value} {n : Nat} {j : Nat} {Q : Value → Shared → Prop} (F : Fr h₀ L s.heap m) (X : (Mine.hd.heap_1 w.params).In h₀) (N : News h₀ L s.heap news) (U : UpdF l (listOf items n) news g) (hb : (b, instObj 189 d) ∈ news)
    (hr : items[j]? = some (.ref b) ∧ ∀ i < j, ∃ b' d', items[i]? = some (.ref b') ∧ b' ≠ b ∧ (b', instObj 189 d') ∈ news) (hz : items.size < 100) (hu : A.units + 2 < cLine)
    (h : ∀ h' n', Fr h₀ L h' m → News h₀ L h' (g (listOf (items.eraseIdxIfInBounds j) n')) → Q .none { s with heap := h' }) :
    wpAny (model prog w) A (call (.builtin "list.remove") [.ref l, .ref b]) Q E s := by
  have X' := X.keeps F.keep
  obtain ⟨pre, post, rfl, hg, p1, p2⟩ := U.split
  have hm := N (l, listOf items n) (List.mem_append_right _ (.head _))
  have hl := hm.1
  have hr' : RowAt s.heap b items j := ⟨hr.1, fun i hi => by obtain ⟨b', d', e1, e2, e3⟩ := hr.2 i hi; exact ⟨b', d', e1, e2, (N _ e3).1⟩⟩
  have hT : s.TypeIs (.ref l) "list" := ⟨_, hl, rfl⟩
  refine wpAny_call (codeAny_call_builtin PySem.F.slot_list_remove.plain PySem.F.entry_list_remove (PySem.F.slot_list_remove.check _ _ _ _ _ _ _ _ hT (PySem.F.args_list_remove_2 _ _) ?_))
  have fin := remove_loop_buf (prog := prog) (A := A) (R := fun r s' => match r with | .ok (.ret v) => Q v s' | .ok _ => False | .error e => E e s') X' (N _ hb).1 hl hz hr' (by omega) (by
    have ge := Heap.get?_update_self (Obj.mapSeq fun xs => xs.eraseIdxIfInBounds j) hl rfl
    have hs : Heap.SameBut l s.heap (s.heap.update l (Obj.mapSeq fun xs => xs.eraseIdxIfInBounds j)) := Heap.SameBut.update ..
    obtain ⟨n', hn'⟩ : ∃ n', Obj.mapSeq (fun xs => xs.eraseIdxIfInBounds j) (listOf items n) = listOf (items.eraseIdxIfInBounds j) n' := ⟨_, rfl⟩
    exact h _ n' (F.change hs hm.2.1 hm.2.2) (hg _ ▸ N.setIn p1 p2 hs (ge.trans (congrArg some hn')))) _ 0 rfl (Nat.zero_le _)
  obtain ⟨H, gg, dr, tk, os⟩ := s
  wp_walk using wpAny_loadPart' hl
  exact ⟨plainId_quiet PySem.MeetsSeq.plain_remove_loop _, fin⟩
end
local macro_rules | `(tactic| walk_at "call builtin:list.remove") => `(tactic| (k_dflt (refine' call_remove_buf (by k_asm) (by k_asm) (by k_asm) (by k_updF) (by k_mem) (by first | k_asm | exact lift_mem (by k_asm) | exact lift_mem (lift_mem (by k_asm))) (by k_asm) (by (have hcL9 := cLine_is; dsimp only [ktrTop, Around.deeper, Around.in1]; omega)) ?_); intro h' n' F' N'; (try k_sweep)))
theorem erase_fits {items : Array Value} {j : Nat} (h : items.size < 100) : (items.eraseIdxIfInBounds j).size ≤ sizeLine := by
  rw [sizeLine_eq]; exact Nat.le_trans (PySem.MeetsSeq.size_erased items _) (by omega)
local macro_rules | `(tactic| walk_at "call builtin:list.append") => `(tactic| (k_dflt (refine' append_K (by k_asm) (by k_asm) (by k_upd) ?_ (by first | exact erase_fits (by k_asm) | (rw [sizeLine_eq]; omega))); intro h' F' N'; (try k_sweep)))
local macro_rules | `(tactic| walk_at "setItem ref") => `(tactic| (k_dflt (refine' kda_set (knd := PySem.intKind _ _) (by k_asm) (by k_asm) (by k_updF) (by k_asm) (intKind_is _ _ _ _) (by k_asm) ?_); intro h' o' F' N' d'; (try k_sweep)))
section
variable {prog : Program} {w : World} {p : Program} {loose : List Str} {mean : ExcName → Option Value} {mg mb : Str → Option Value} {dp un : Nat} {gd : Option (List Code)} {cn : Str} {cs : Scope} {a : Addr} {ccd : Value} {cl : List (Str × Addr)} {outer : List Env} {A₀ : Around} {base h₀ : Heap} {L : Addr} {m : Str → Option Value} {s : Shared} {Q E : Value → Shared → Prop} {news : List (Addr × Obj)}
  (B : Below A₀ base outer h₀) (F : Fr h₀ L s.heap m) (X : (Mine.hd.heap_1 w.params).In h₀) (T : Top p loose mean mg mb h₀) (hk : cs.kind = .function)
include B F X T hk
theorem release_ok {cI cD kI rw bn b d y : Addr} {tc tb : Nat → Tok} {hits reads writes k : Int} {items : Array Value} {rn j : Nat} {ob : Obj} {kvs : List (Int × Value)}
  (N : News h₀ L s.heap ((d, bufD w tb k y 1) :: (rw, listOf items rn) :: news)) (m1 : (cI, instObj 304 cD) ∈ news) (m2 : (cD, cacheD w tc kI rw bn hits reads writes) ∈ news) (m3 : (bn, ob) ∈ news) (m4 : (b, instObj 189 d) ∈ news) (c1 : ob.IsDictOf (intKind prog w) kvs) (c2 : (bn == sysModules) = false) (c3 : valueAt kvs k = some (.ref b)) (c4 : items[j]? = some (.ref b) ∧ ∀ i < j, ∃ b' d', items[i]? = some (.ref b') ∧ b' ≠ b ∧ (b', instObj 189 d') ∈ news) (c5 : items.size < 100) (c6 : Apart d rw) (c7 : AllAp d news) (c8 : AllAp rw news)
  (hdp : dp + 2 < 500) (hun : un + 16 < 5000)
  (hret : ∀ h' tk' od rn', Fr h₀ L h' m → News h₀ L h' ((d, od) :: (rw, listOf ((items.eraseIdxIfInBounds j).push (.ref b)) rn') :: news) → IsBufD w od k y 0 → Q .none { s with heap := h', toks := tk' }) :
   wpAny (model prog w) (ktrTop dp un gd cn cs L a ccd cl outer) (call (.ref 242) [.ref cI, .ref b]) Q E s := by
  refine wpAny_call ?_
  k_dflt ktr_enter
  k_steps
  any_goals ((with_reducible show wpAny _ _ (call (Value.ref 221) _ _) _ _ _); k_dflt (refine' need_held_ok (by k_asm) (by k_asm) (by k_asm) (by k_asm) (by walk_at "r") (by k_asm) (by k_mem) (by k_mem) (by k_mem) (by k_mem) (by k_mem) (by walk_at "c") (by walk_at "c") (by walk_at "c") (by walk_at "c") (by walk_at "h") (by walk_at "h") ?_; k_whole); intro h'z tk'z F'z N'z; (try k_sweep))
  k_steps
  all_goals exact hret _ _ _ _ (by k_asm) (by first | k_asm | exact newsTail (by k_asm)) isBufD_mk
end
section
variable {prog : Program} {w : World} {p : Program} {loose : List Str} {mean : ExcName → Option Value} {mg mb : Str → Option Value} {dp un : Nat} {gd : Option (List Code)} {cn : Str} {cs : Scope} {a : Addr} {ccd : Value} {cl : List (Str × Addr)} {outer : List Env} {A₀ : Around} {base h₀ : Heap} {L : Addr} {m : Str → Option Value} {s : Shared} {Q E : Value → Shared → Prop} {news : List (Addr × Obj)}
  (B : Below A₀ base outer h₀) (F : Fr h₀ L s.heap m) (X : (Mine.hd.heap_1 w.params).In h₀) (T : Top p loose mean mg mb h₀) (hk : cs.kind = .function)
include B F X T hk
theorem octets_in_ok {data : Array UInt8} {u : Tok}
  (N : News h₀ L s.heap (news)) (c1 : data.size = 4)
  (hdp : dp + 2 < 500) (hun : un + 16 < 5000)
  (hret : ∀ h' tk' t, Fr h₀ L h' m → News h₀ L h' (news) → Q (.bytes data t) { s with heap := h', toks := tk' }) :
   wpAny (model prog w) (ktrTop dp un gd cn cs L a ccd cl outer) (call (.ref 413) [.bytes data u]) Q E s := by
  refine wpAny_call ?_
  k_dflt ktr_enter
  k_steps
  all_goals exact hret _ _ _ (by k_asm) (by first | k_asm | exact newsTail (by k_asm))
end
local macro_rules | `(tactic| walk_at "call ref") => `(tactic| ((with_reducible show wpAny _ _ (call (Value.ref 413) _ _) _ _ _); k_dflt (refine' octets_in_ok (by k_asm) (by k_asm) (by k_asm) (by k_asm) (by walk_at "r") (by k_asm)  (by walk_at "c") (by walk_at "h") (by walk_at "h") ?_; k_whole); intro h' tk' t' F' N'; (try k_sweep)))
section
variable {prog : Program} {w : World} {p : Program} {loose : List Str} {mean : ExcName → Option Value} {mg mb : Str → Option Value} {dp un : Nat} {gd : Option (List Code)} {cn : Str} {cs : Scope} {a : Addr} {ccd : Value} {cl : List (Str × Addr)} {outer : List Env} {A₀ : Around} {base h₀ : Heap} {L : Addr} {m : Str → Option Value} {s : Shared} {Q E : Value → Shared → Prop} {news : List (Addr × Obj)}
  (B : Below A₀ base outer h₀) (F : Fr h₀ L s.heap m) (X : (Mine.hd.heap_1 w.params).In h₀) (T : Top p loose mean mg mb h₀) (hk : cs.kind = .function)
include B F X T hk
theorem disk_write_ok {kI kD kept lt uf : Addr} {tk : Nat → Tok} {dw k : Int} {kt u : Tok} {data : Array UInt8} {ol : Obj} {lvs : List (Int × Value)} {us : Array Value} {un0 : Nat}
  (N : News h₀ L s.heap ((kD, diskD w tk kept lt uf dw) :: (lt, ol) :: (uf, listOf us un0) :: news)) (m1 : (kI, instObj 402 kD) ∈ news) (c1 : ol.IsDictOf (intKind prog w) lvs) (c2 : (lt == sysModules) = false) (c3 : 0 ≤ k) (c4 : k < 6) (c5 : data.size = 4) (c6 : us.size < 10000) (c7 : lvs.length ≤ sizeLine) (c8 : Apart kD lt) (c9 : Apart kD uf) (c10 : Apart lt uf) (c11 : AllAp kD news) (c12 : AllAp lt news) (c13 : AllAp uf news)
  (hdp : dp + 3 < 500) (hun : un + 24 < 5000)
  (hret : ∀ h' tk' od ol' t tp un', Fr h₀ L h' m → News h₀ L h' ((kD, od) :: (lt, ol') :: (uf, listOf (us.push (.ref tp)) un') :: news) → IsDiskD w od kept lt uf (dw + 1) → ol'.IsDictOf (intKind prog w) (stored lvs k (.bytes data t)) → Q .none { s with heap := h', toks := tk' }) :
   wpAny (model prog w) (ktrTop dp un gd cn cs L a ccd cl outer) (call (.ref 350) [.ref kI, .int k kt, .bytes data u]) Q E s := by
  refine wpAny_call ?_
  k_dflt ktr_enter
  k_steps
  any_goals ((with_reducible show wpAny _ _ (call (Value.ref 329) _ _) _ _ _); k_dflt (refine' need_power_ok (by k_asm) (by k_asm) (by k_asm) (by k_asm) (by walk_at "r") (by k_asm) (by k_mem) (by k_mem)  (by walk_at "h") (by walk_at "h") ?_; k_whole); intro h'z tk'z F'z N'z; (try k_sweep))
  k_steps
  any_goals ((with_reducible show wpAny _ _ (call (Value.ref 336) _ _) _ _ _); k_dflt (refine' dneed_block_ok (by k_asm) (by k_asm) (by k_asm) (by k_asm) (by walk_at "r") (by k_asm) (by k_mem) (by k_mem) (by walk_at "c") (by walk_at "c") (by walk_at "h") (by walk_at "h") ?_; k_whole); intro h'z tk'z F'z N'z; (try k_sweep))
  k_steps
  all_goals exact hret _ _ _ _ _ _ _ (by k_asm) (by first | k_asm | exact newsTail (by k_asm)) isDiskD_mk (by k_asm)
end
section
variable {prog : Program} {w : World} {p : Program} {loose : List Str} {mean : ExcName → Option Value} {mg mb : Str → Option Value} {dp un : Nat} {gd : Option (List Code)} {cn : Str} {cs : Scope} {a : Addr} {ccd : Value} {cl : List (Str × Addr)} {outer : List Env} {A₀ : Around} {base h₀ : Heap} {L : Addr} {m : Str → Option Value} {s : Shared} {Q E : Value → Shared → Prop} {news : List (Addr × Obj)}
  (B : Below A₀ base outer h₀) (F : Fr h₀ L s.heap m) (X : (Mine.hd.heap_1 w.params).In h₀) (T : Top p loose mean mg mb h₀) (hk : cs.kind = .function)
include B F X T hk
theorem get_hit {cI cD kI kD rw bn kept lt uf b d y : Addr} {tc tk tb : Nat → Tok} {hits reads writes dw k hd : Int} {kt : Tok} {ob : Obj} {kvs : List (Int × Value)}
  (N : News h₀ L s.heap ((cD, cacheD w tc kI rw bn hits reads writes) :: (d, bufD w tb k y hd) :: news)) (m1 : (cI, instObj 304 cD) ∈ news) (m2 : (kI, instObj 402 kD) ∈ news) (m3 : (kD, diskD w tk kept lt uf dw) ∈ news) (m4 : (bn, ob) ∈ news) (m5 : (b, instObj 189 d) ∈ news) (c1 : ob.IsDictOf (intKind prog w) kvs) (c2 : (bn == sysModules) = false) (c3 : valueAt kvs k = some (.ref b)) (c4 : 0 ≤ k) (c5 : k < 6) (c6 : Apart cD d) (c7 : AllAp cD news) (c8 : AllAp d news)
  (hdp : dp + 2 < 500) (hun : un + 16 < 5000)
  (hret : ∀ h' tk' oc od, Fr h₀ L h' m → News h₀ L h' ((cD, oc) :: (d, od) :: news) → IsCacheD w oc kI rw bn (hits + 1) reads writes → IsBufD w od k y (hd + 1) → Q (.ref b) { s with heap := h', toks := tk' }) :
   wpAny (model prog w) (ktrTop dp un gd cn cs L a ccd cl outer) (call (.ref 228) [.ref cI, .int k kt]) Q E s := by
  refine wpAny_call ?_
  k_dflt ktr_enter
  k_steps
  all_goals exact hret _ _ _ _ (by k_asm) (by first | k_asm | exact newsTail (by k_asm)) isCacheD_mk isBufD_mk
end
section
variable {prog : Program} {w : World} {p : Program} {loose : List Str} {mean : ExcName → Option Value} {mg mb : Str → Option Value} {dp un : Nat} {gd : Option (List Code)} {cn : Str} {cs : Scope} {a : Addr} {ccd : Value} {cl : List (Str × Addr)} {outer : List Env} {A₀ : Around} {base h₀ : Heap} {L : Addr} {m : Str → Option Value} {s : Shared} {Q E : Value → Shared → Prop} {news : List (Addr × Obj)}
  (B : Below A₀ base outer h₀) (F : Fr h₀ L s.heap m) (X : (Mine.hd.heap_1 w.params).In h₀) (T : Top p loose mean mg mb h₀) (hk : cs.kind = .function)
include B F X T hk
theorem write_ok {cI cD kI kD rw bn kept lt uf b d y : Addr} {tc tk tb : Nat → Tok} {hits reads writes dw k hd : Int} {data : Array UInt8} {ob : Obj} {kvs : List (Int × Value)} {ol : Obj} {lvs : List (Int × Value)} {us : Array Value} {un0 : Nat}
  (N : News h₀ L s.heap ((cD, cacheD w tc kI rw bn hits reads writes) :: (kD, diskD w tk kept lt uf dw) :: (lt, ol) :: (uf, listOf us un0) :: news)) (m1 : (cI, instObj 304 cD) ∈ news) (m2 : (kI, instObj 402 kD) ∈ news) (m3 : (bn, ob) ∈ news) (m4 : (b, instObj 189 d) ∈ news) (m5 : (d, bufD w tb k y hd) ∈ news) (m6 : (y, baO data) ∈ news) (c1 : ob.IsDictOf (intKind prog w) kvs) (c2 : (bn == sysModules) = false) (c3 : valueAt kvs k = some (.ref b)) (c4 : hd ≠ 0) (c5 : ol.IsDictOf (intKind prog w) lvs) (c6 : (lt == sysModules) = false) (c7 : 0 ≤ k) (c8 : k < 6) (c9 : data.size = 4) (c10 : us.size < 10000) (c11 : lvs.length ≤ sizeLine) (c12 : Apart cD kD) (c13 : Apart cD lt) (c14 : Apart cD uf) (c15 : Apart kD lt) (c16 : Apart kD uf) (c17 : Apart lt uf) (c18 : AllAp cD news) (c19 : AllAp kD news) (c20 : AllAp lt news) (c21 : AllAp uf news)
  (hdp : dp + 5 < 500) (hun : un + 48 < 5000)
  (hret : ∀ h' tk' oc od ol' t tp un', Fr h₀ L h' m → News h₀ L h' ((cD, oc) :: (kD, od) :: (lt, ol') :: (uf, listOf (us.push (.ref tp)) un') :: news) → IsCacheD w oc kI rw bn hits reads (writes + 1) → IsDiskD w od kept lt uf (dw + 1) → ol'.IsDictOf (intKind prog w) (stored lvs k (.bytes data t)) → Q .none { s with heap := h', toks := tk' }) :
   wpAny (model prog w) (ktrTop dp un gd cn cs L a ccd cl outer) (call (.ref 263) [.ref cI, .ref b]) Q E s := by
  refine wpAny_call ?_
  k_dflt ktr_enter
  k_steps
  any_goals ((with_reducible show wpAny _ _ (call (Value.ref 221) _ _) _ _ _); k_dflt (refine' need_held_ok (by k_asm) (by k_asm) (by k_asm) (by k_asm) (by walk_at "r") (by k_asm) (by k_mem) (by k_mem) (by k_mem) (by k_mem) (by k_mem) (by walk_at "c") (by walk_at "c") (by walk_at "c") (by walk_at "c") (by walk_at "h") (by walk_at "h") ?_; k_whole); intro h'z tk'z F'z N'z; (try k_sweep))
  k_steps
  any_goals ((with_reducible show wpAny _ _ (call (Value.ref 350) _ _) _ _ _); k_dflt (refine' disk_write_ok (by k_asm) (by k_asm) (by k_asm) (by k_asm) (by walk_at "r") (by first | k_asm | exact newsRot4 (by k_asm)) (by k_mem) (by walk_at "c") (by walk_at "c") (by walk_at "c") (by walk_at "c") (by walk_at "c") (by walk_at "c") (by walk_at "c") (by walk_at "c") (by walk_at "c") (by walk_at "c") (by walk_at "c") (by walk_at "c") (by walk_at "c") (by walk_at "h") (by walk_at "h") ?_; k_whole); intro h' tk' o' ol' t' tp' un' F' N' z' d'; (rcases z' with ⟨t', hz'⟩; subst hz'); (try k_sweep))
  k_steps
  all_goals exact hret _ _ _ _ _ _ _ _ (by k_asm) (by first | k_asm | exact newsUn4 (by k_asm)) isCacheD_mk ⟨_, rfl⟩ (by k_asm)
end
section
variable {prog : Program} {w : World} {p : Program} {loose : List Str} {mean : ExcName → Option Value} {mg mb : Str → Option Value} {dp un : Nat} {gd : Option (List Code)} {cn : Str} {cs : Scope} {a : Addr} {ccd : Value} {cl : List (Str × Addr)} {outer : List Env} {A₀ : Around} {base h₀ : Heap} {L : Addr} {m : Str → Option Value} {s : Shared} {Q E : Value → Shared → Prop} {news : List (Addr × Obj)}
  (B : Below A₀ base outer h₀) (F : Fr h₀ L s.heap m) (X : (Mine.hd.heap_1 w.params).In h₀) (T : Top p loose mean mg mb h₀) (hk : cs.kind = .function)
include B F X T hk
theorem peek_hit {cI cD kI kD rw bn kept lt uf b d y : Addr} {tc tk tb : Nat → Tok} {hits reads writes dw k : Int} {kt : Tok} {data : Array UInt8} {ob : Obj} {kvs : List (Int × Value)} {items : Array Value} {rn j : Nat}
  (N : News h₀ L s.heap ((cD, cacheD w tc kI rw bn hits reads writes) :: (d, bufD w tb k y 0) :: (rw, listOf items rn) :: news)) (m1 : (cI, instObj 304 cD) ∈ news) (m2 : (kI, instObj 402 kD) ∈ news) (m3 : (kD, diskD w tk kept lt uf dw) ∈ news) (m4 : (bn, ob) ∈ news) (m5 : (b, instObj 189 d) ∈ news) (m6 : (y, baO data) ∈ news) (c1 : ob.IsDictOf (intKind prog w) kvs) (c2 : (bn == sysModules) = false) (c3 : valueAt kvs k = some (.ref b)) (c4 : 0 ≤ k) (c5 : k < 6) (c6 : items[j]? = some (.ref b) ∧ ∀ i < j, ∃ b' d', items[i]? = some (.ref b') ∧ b' ≠ b ∧ (b', instObj 189 d') ∈ news) (c7 : items.size < 100) (c8 : data.size = 4) (c9 : Apart cD d) (c10 : Apart cD rw) (c11 : Apart d rw) (c12 : AllAp cD news) (c13 : AllAp d news) (c14 : AllAp rw news)
  (hdp : dp + 5 < 500) (hun : un + 48 < 5000)
  (hret : ∀ h' tk' oc od rn' t, Fr h₀ L h' m → News h₀ L h' ((d, od) :: (rw, listOf ((items.eraseIdxIfInBounds j).push (.ref b)) rn') :: (cD, oc) :: news) → IsCacheD w oc kI rw bn (hits + 1) reads writes → IsBufD w od k y 0 → Q (.bytes data t) { s with heap := h', toks := tk' }) :
   wpAny (model prog w) (ktrTop dp un gd cn cs L a ccd cl outer) (call (.ref 277) [.ref cI, .int k kt]) Q E s := by
  refine wpAny_call ?_
  k_dflt ktr_enter
  k_steps
  any_goals ((with_reducible show wpAny _ _ (call (Value.ref 228) _ _) _ _ _); k_dflt (refine' get_hit (by k_asm) (by k_asm) (by k_asm) (by k_asm) (by walk_at "r") (by k_asm) (by k_mem) (by k_mem) (by k_mem) (by k_mem) (by k_mem) (by walk_at "c") (by walk_at "c") (by walk_at "c") (by walk_at "c") (by walk_at "c") (by walk_at "c") (by walk_at "c") (by walk_at "c") (by walk_at "h") (by walk_at "h") ?_; k_whole); intro h' tk' oc' od' F' N' z' z2'; (rcases z' with ⟨t', hz'⟩; subst hz'); (rcases z2' with ⟨t2', hz2'⟩; subst hz2'); (try k_sweep))
  k_steps
  any_goals ((with_reducible show wpAny _ _ (call (Value.ref 242) _ _) _ _ _); k_dflt (refine' release_ok (by k_asm) (by k_asm) (by k_asm) (by k_asm) (by walk_at "r") (by first | k_asm | exact newsRot3 (by k_asm)) (by k_mem) (by k_mem) (by k_mem) (by k_mem) (by walk_at "c") (by walk_at "c") (by walk_at "c") (by walk_at "c") (by walk_at "c") (by walk_at "c") (by walk_at "c") (by walk_at "c") (by walk_at "h") (by walk_at "h") ?_; k_whole); intro h' tk' o' rn' F' N' z'; (rcases z' with ⟨t', hz'⟩; subst hz'); (try k_sweep))
  k_steps
  all_goals exact hret _ _ _ _ _ _ (by k_asm) (by first | k_asm | exact newsTail (by k_asm)) ⟨_, rfl⟩ ⟨_, rfl⟩
end
abbrev enO (it : Addr) (i : Nat) (old : Value) : Obj := { cls := .type "enumerate", dict := none, data := .fields #[.none, .bool false, .ref it, rawInt i, .none, old], slots := #[] }
def ItO (l : Addr) (i : Nat) (o : Obj) : Prop := o.cls = .type "list_iterator" ∧ o.data = .fields #[.ref l, .int i 0]
section
variable {prog : Program} {w : World} {A : Around} {E : Value → Shared → Prop} {R : Result → Shared → Prop} {s : Shared} {env : Env}
theorem enumAt_of {h₀ : Heap} {L e it l : Addr} {h : Heap} {news : List (Addr × Obj)} {i n : Nat} {old : Value} {oit : Obj} {items : Array Value} (N : News h₀ L h ((e, enO it i old) :: (it, oit) :: news)) (hi : ItO l i oit) (hl : (l, listOf items n) ∈ news) (a1 : Apart e it) (a2 : AllAp e news) (a3 : AllAp it news) :
    EnumAt h L e it l items i :=
  ⟨a1.ne, (N _ (.head _)).2.1, (N _ (.tail _ (.head _))).2.1, (N _ (.tail _ (.tail _ hl))).2.1, AllAp.all a2 _ hl, AllAp.all a3 _ hl, ⟨old, (N _ (.head _)).1⟩, ⟨oit, (N _ (.tail _ (.head _))).1, hi⟩, ⟨_, (N _ (.tail _ (.tail _ hl))).1, rfl, n, rfl⟩⟩
theorem enumN_of {h₀ : Heap} {L e it l : Addr} {h : Heap} {news : List (Addr × Obj)} {i : Nat} {items : Array Value} (En : EnumAt h L e it l items i) (N : News h₀ L h news) (n0 : h₀.get? e = none) (n1 : h₀.get? it = none) :
    ∃ old oit, ItO l i oit ∧ News h₀ L h ((e, enO it i old) :: (it, oit) :: news) := by
  obtain ⟨hei, heL, hiL, _, _, _, ⟨old, he⟩, ⟨oit, hit, hi⟩, _⟩ := En
  refine ⟨old, oit, hi, fun p hp => ?_⟩
  rcases List.mem_cons.mp hp with rfl | hp
  · exact ⟨he, heL, n0⟩
  · rcases List.mem_cons.mp hp with rfl | hp
    · exact ⟨hit, hiL, n1⟩
    · exact N p hp
theorem enum_itemN {xi xv : Str} {pi pv pt : Pos} {x1} {body : List Stmt} {e it l : Addr} {items : Array Value} {m : Str → Option Value} {i n : Nat} {v old : Value} {oit : Obj} {h₀ : Heap} {news : List (Addr × Obj)}
    (hh : A.handled = none) (hxi : env.kindOf xi = some .local) (hxv : env.kindOf xv = some .local)
    (hp : (env.scope.kind == .class || (env.scope.kind == .module && env.locals != env.globals)) = false)
    (F : Fr h₀ env.locals s.heap m) (N : News h₀ env.locals s.heap ((e, enO it i old) :: (it, oit) :: news)) (hi : ItO l i oit) (hl : (l, listOf items n) ∈ news) (a1 : Apart e it) (a2 : AllAp e news) (a3 : AllAp it news) (hv : items[i]? = some v)
    (h : ∀ h' tk old' oit', ItO l (i + 1) oit' → Fr h₀ env.locals h' (fun y => if y = xv then some v else if y = xi then some (.int i s.toks) else m y) → News h₀ env.locals h' ((e, enO it (i + 1) old') :: (it, oit') :: news) →
      wpAny (model prog w) A (execs body env) (fun f s₃ => match f with
            | .next | .cont => codeAny (model prog w) A (.forLoop (.Tuple [.Name xi pi, .Name xv pv] x1 pt) (.ref e) body [] env) R s₃
            | .brk => R (.ok .next) s₃
            | .ret v => R (.ok (.ret v)) s₃) (notedBy (model prog w) A env fun e s' => R (.error e) s') { s with heap := h', toks := tk }) :
    codeAny (model prog w) A (.forLoop (.Tuple [.Name xi pi, .Name xv pv] x1 pt) (.ref e) body [] env) R s := by
  have n0 := (N _ (.head _)).2.2
  have n1 := (N _ (.tail _ (.head _))).2.2
  refine enum_item hh hxi hxv hp (enumAt_of N hi hl a1 a2 a3) hv F (newsTail (newsTail N)) n0 n1 (fun p hp => ⟨AllAp.all a2 p hp, AllAp.all a3 p hp⟩) fun h' tk En' F' N' => ?_
  obtain ⟨old', oit', hi', N''⟩ := enumN_of En' N' n0 n1
  exact h h' tk old' oit' hi' F' N''
theorem enum_endN {target : Expr} {body : List Stmt} {e it l : Addr} {items : Array Value} {m : Str → Option Value} {i n : Nat} {old : Value} {oit : Obj} {h₀ : Heap} {news : List (Addr × Obj)}
    (hh : A.handled = none) (F : Fr h₀ env.locals s.heap m) (N : News h₀ env.locals s.heap ((e, enO it i old) :: (it, oit) :: news)) (hi : ItO l i oit) (hl : (l, listOf items n) ∈ news) (a1 : Apart e it) (a2 : AllAp e news) (a3 : AllAp it news) (hv : items[i]? = none)
    (h : ∀ h', Fr h₀ env.locals h' m → News h₀ env.locals h' news → R (.ok .next) { s with heap := h' }) :
    codeAny (model prog w) A (.forLoop target (.ref e) body [] env) R s :=
  enum_end hh (enumAt_of N hi hl a1 a2 a3) hv F (newsTail (newsTail N)) (N _ (.head _)).2.2 (N _ (.tail _ (.head _))).2.2 (fun p hp => ⟨AllAp.all a2 p hp, AllAp.all a3 p hp⟩) h
theorem call_enumN {Q : Value → Shared → Prop} {l L : Addr} {xs : Array Value} {n : Nat} {m : Str → Option Value} {h₀ : Heap} {news : List (Addr × Obj)} (F : Fr h₀ L s.heap m) (N : News h₀ L s.heap news) (hm : (l, listOf xs n) ∈ news)
    (h : ∀ e it h' old oit, ItO l 0 oit → Apart e it → AllAp e news → AllAp it news → Fr h₀ L h' m → News h₀ L h' ((e, enO it 0 old) :: (it, oit) :: news) → wpAny (model prog w) A (pyIter (.ref e)) (fun v s' => v = .ref e ∧ s' = { s with heap := h' }) E { s with heap := h' } → Q (.ref e) { s with heap := h' }) :
    wpAny (model prog w) A (call (.type "enumerate") [.ref l]) Q E s :=
  call_enum F N hm fun e it h' En n0 n1 n2 F' N' P => by
    obtain ⟨old, oit, hi, N''⟩ := enumN_of En N' n0 n1
    exact h e it h' old oit hi ⟨En.1⟩ (allAp_of fun p hp => (n2 p hp).1) (allAp_of fun p hp => (n2 p hp).2) F' N'' P
end
local macro_rules | `(tactic| walk_at "call type:enumerate") => `(tactic| (k_dflt (refine' call_enumN (by k_asm) (by k_asm) (by k_mem) ?_); intro e' it' h' old' oit' It' ap1' ap2' ap3' F' N' pI'; k_sweep; refine wpAny_mono pI' (fun v' s' hq' => ?_) (fun _ _ x => x); clear pI'; have hv' := hq'.1; have hs' := hq'.2; clear hq'; subst hv'; subst hs'; (k_dflt (refine' enum_itemN rfl rfl rfl rfl (by k_asm) (by k_asm) (by assumption) (by k_mem) (by assumption) (by assumption) (by assumption) item0 ?_); intro h' tk' old' oit' It' F' N'; k_sweep)))
section
variable {prog : Program} {w : World} {p : Program} {loose : List Str} {mean : ExcName → Option Value} {mg mb : Str → Option Value} {dp un : Nat} {gd : Option (List Code)} {cn : Str} {cs : Scope} {a : Addr} {ccd : Value} {cl : List (Str × Addr)} {outer : List Env} {A₀ : Around} {base h₀ : Heap} {L : Addr} {m : Str → Option Value} {s : Shared} {Q E : Value → Shared → Prop} {news : List (Addr × Obj)}
  (B : Below A₀ base outer h₀) (F : Fr h₀ L s.heap m) (X : (Mine.hd.heap_1 w.params).In h₀) (T : Top p loose mean mg mb h₀) (hk : cs.kind = .function)
include B F X T hk
theorem room_evict1 {cI cD kI rw bn b d y : Addr} {tc tb : Nat → Tok} {hits reads writes k : Int} {b1 d1 y1 b3 : Addr} {tb1 : Nat → Tok} {k1 : Int} {rn : Nat} {ob : Obj} {kvs : List (Int × Value)}
  (N : News h₀ L s.heap ((rw, listOf #[.ref b1, .ref b, .ref b3] rn) :: (bn, ob) :: news)) (m1 : (cI, instObj 304 cD) ∈ news) (m2 : (cD, cacheD w tc kI rw bn hits reads writes) ∈ news) (m3 : (b, instObj 189 d) ∈ news) (m4 : (d, bufD w tb k y 0) ∈ news) (m5 : (b1, instObj 189 d1) ∈ news) (m6 : (d1, bufD w tb1 k1 y1 1) ∈ news) (c1 : ob.IsDictOf (intKind prog w) kvs) (c2 : (bn == sysModules) = false) (c3 : (valueAt kvs k).isSome = true) (c4 : kvs.length ≤ sizeLine) (c5 : Apart rw bn) (c6 : AllAp rw news) (c7 : AllAp bn news)
  (hdp : dp + 2 < 500) (hun : un + 16 < 5000)
  (hret : ∀ h' tk' rn' ob', Fr h₀ L h' m → News h₀ L h' ((rw, listOf #[.ref b1, .ref b3] rn') :: (bn, ob') :: news) → ob'.IsDictOf (intKind prog w) (without kvs k) → Q .none { s with heap := h', toks := tk' }) :
   wpAny (model prog w) (ktrTop dp un gd cn cs L a ccd cl outer) (call (.ref 235) [.ref cI]) Q E s := by
  refine wpAny_call ?_
  k_dflt ktr_enter
  k_steps
  dsimp only
  (k_dflt (refine' enum_itemN rfl rfl rfl rfl (by k_asm) (by k_asm) (by assumption) (by k_mem) (by assumption) (by assumption) (by assumption) item1 ?_); intro h'z tk'z old'z oit'z It'z F'z N'z; k_sweep)
  (with_reducible rename News _ _ _ _ => nN)
  replace nN := newsTail (newsTail nN)
  k_steps
  all_goals exact hret _ _ _ _ (by k_asm) (by first | k_asm | exact newsTail (by k_asm)) (by k_asm)
end
section
variable {prog : Program} {w : World} {p : Program} {loose : List Str} {mean : ExcName → Option Value} {mg mb : Str → Option Value} {dp un : Nat} {gd : Option (List Code)} {cn : Str} {cs : Scope} {a : Addr} {ccd : Value} {cl : List (Str × Addr)} {outer : List Env} {A₀ : Around} {base h₀ : Heap} {L : Addr} {m : Str → Option Value} {s : Shared} {Q E : Value → Shared → Prop} {news : List (Addr × Obj)}
  (B : Below A₀ base outer h₀) (F : Fr h₀ L s.heap m) (X : (Mine.hd.heap_1 w.params).In h₀) (T : Top p loose mean mg mb h₀) (hk : cs.kind = .function)
include B F X T hk
theorem room_evict2 {cI cD kI rw bn b d y : Addr} {tc tb : Nat → Tok} {hits reads writes k : Int} {b1 d1 y1 b2 d2 y2 : Addr} {tb1 tb2 : Nat → Tok} {k1 k2 : Int} {rn : Nat} {ob : Obj} {kvs : List (Int × Value)}
  (N : News h₀ L s.heap ((rw, listOf #[.ref b1, .ref b2, .ref b] rn) :: (bn, ob) :: news)) (m1 : (cI, instObj 304 cD) ∈ news) (m2 : (cD, cacheD w tc kI rw bn hits reads writes) ∈ news) (m3 : (b, instObj 189 d) ∈ news) (m4 : (d, bufD w tb k y 0) ∈ news) (m5 : (b1, instObj 189 d1) ∈ news) (m6 : (d1, bufD w tb1 k1 y1 1) ∈ news) (m7 : (b2, instObj 189 d2) ∈ news) (m8 : (d2, bufD w tb2 k2 y2 1) ∈ news) (c1 : ob.IsDictOf (intKind prog w) kvs) (c2 : (bn == sysModules) = false) (c3 : (valueAt kvs k).isSome = true) (c4 : kvs.length ≤ sizeLine) (c5 : Apart rw bn) (c6 : AllAp rw news) (c7 : AllAp bn news)
  (hdp : dp + 2 < 500) (hun : un + 16 < 5000)
  (hret : ∀ h' tk' rn' ob', Fr h₀ L h' m → News h₀ L h' ((rw, listOf #[.ref b1, .ref b2] rn') :: (bn, ob') :: news) → ob'.IsDictOf (intKind prog w) (without kvs k) → Q .none { s with heap := h', toks := tk' }) :
   wpAny (model prog w) (ktrTop dp un gd cn cs L a ccd cl outer) (call (.ref 235) [.ref cI]) Q E s := by
  refine wpAny_call ?_
  k_dflt ktr_enter
  k_steps
  dsimp only
  (k_dflt (refine' enum_itemN rfl rfl rfl rfl (by k_asm) (by k_asm) (by assumption) (by k_mem) (by assumption) (by assumption) (by assumption) item1 ?_); intro h'z tk'z old'z oit'z It'z F'z N'z; k_sweep)
  k_steps
  dsimp only
  (k_dflt (refine' enum_itemN rfl rfl rfl rfl (by k_asm) (by k_asm) (by assumption) (by k_mem) (by assumption) (by assumption) (by assumption) item2 ?_); intro h' tk' old' oit' It' F' N'; k_sweep)
  (with_reducible rename News _ _ _ _ => nN)
  replace nN := newsTail (newsTail nN)
  k_steps
  all_goals exact hret _ _ _ _ (by k_asm) (by first | k_asm | exact newsTail (by k_asm)) (by k_asm)
end
/-! rules of the D logic for statements and calls -/
section
variable {M : Model} {A : Around} {E : Value → Shared → Prop} {s : Shared} {env : Env}
theorem wpD_execs_cons {st : Stmt} {rest : List Stmt} {Q : Flow → Shared → Prop}
    (h : wpD M A (exec st env) (fun f s' => match f with | .next => wpD M A (execs rest env) Q E s' | f => Q f s') E s) : wpD M A (execs (st :: rest) env) Q E s := by
  rw [execs_cons]
  refine wpD_bind (wpD_mono h (fun f s' h' => ?_) fun _ _ e => e)
  cases f <;> first | exact h' | exact wpD_pure h'
theorem wpD_execs_nil {Q : Flow → Shared → Prop} (h : Q .next s) : wpD M A (execs [] env) Q E s := wpD_pure h
theorem wpD_If {test : Expr} {body orelse : List Stmt} {pos : Pos} {Q : Flow → Shared → Prop}
    (h : wpD M A (isTrue test env (eval test env)) (fun b s₂ => if b then wpD M A (execs body env) Q E s₂ else wpD M A (execs orelse env) Q E s₂) E s) : wpD M A (exec (.If test body orelse pos) env) Q E s := by
  rw [exec_If]
  refine wpD_bind (wpD_standAt (wpD_bind (wpD_mono h (fun b s' h' => ?_) fun _ _ e => e)))
  cases b <;> exact h'
theorem wpD_Assign_Name {x : Str} {value : Expr} {pos' pos : Pos} {Q : Flow → Shared → Prop}
    (h : wpD M A (eval value env) (fun v s₁ => wpAny M A (storeName env x v) (fun _ => Q .next) E s₁) E s)
    (hs : swapsWith value (some (.Name x pos')) pos.line env = pure false) : wpD M A (exec (.Assign [.Name x pos'] value pos) env) Q E s := by
  rw [exec_Assign_Name env x pos' value pos hs]
  exact wpD_bind (wpD_standAt (wpD_bind (wpD_mono h (fun v s' h' => wpD_bind (wpD_standAt (wpD_any (wpAny_bind (wpAny_bindName (wpAny_mono h' (fun _ _ q => wpAny_pure q) fun _ _ e => e)))))) fun _ _ e => e)))
theorem wpD_Assign_Attr {o : Expr} {attr : Str} {value : Expr} {pos' pos : Pos} {Q : Flow → Shared → Prop}
    (h : wpD M A (eval value env) (fun v s₁ => wpAny M A (eval o env) (fun ov s₂ => wpAny M A (setAttr ov attr v) (fun _ => Q .next) E s₂) E s₁) E s)
    (hs : swapsWith value (some (.Attribute o attr pos')) pos.line env = pure false) : wpD M A (exec (.Assign [.Attribute o attr pos'] value pos) env) Q E s := by
  rw [plainObj_exec_Assign_Attribute o attr pos' value pos hs]
  refine wpD_bind (wpD_standAt (wpD_bind (wpD_mono h (fun v s' h' => wpD_any fun Γ p hΓ => ?_) fun _ _ e => e)))
  simp only [assign_Attribute, Sem.wp_bind', Sem.wp_holding, Sem.wp_cmd_standAt, Sem.wp_release, Sem.wp_pure']
  exact Sem.wp_mono M Γ _ (fun ov _ s₂ h₂ => h₂ Γ _ hΓ) (fun _ _ _ q => q) _ _ (h' Γ p hΓ)
theorem wpD_Expr {e : Expr} {pos : Pos} {Q : Flow → Shared → Prop} (h : wpD M A (eval e env) (fun v s' => (∀ a, v ≠ .ref a) ∧ Q .next s') E s)
    (hi : interactive env = false) (hs : swapsWith e none pos.line env = pure false) : wpD M A (exec (.Expr e pos) env) Q E s := by
  rw [exec_Expr env e pos hi hs]
  refine wpD_bind (wpD_standAt (wpD_bind (wpD_mono h (fun v s' h' => ?_) fun _ _ x => x)))
  rw [dropValue_plain h'.1]
  exact wpD_pure h'.2
theorem wpD_methodCall {o : Expr} {name : Str} {apos pos : Pos} {args : List Expr} {kws : List Keyword} {pl : Sem Bool} {Q : Value → Shared → Prop}
    (h : wpAny M A (eval o env) (fun ov s₁ => wpAny M A (getMethod ov name pl) (fun fx s₂ => wpD M A (callWith pos fx.1 fx.2 (backTo pos (starEach args env)) (backToKw pos (keywordEach kws env))) Q E s₂) E s₁) E s)
    (he : eval (.Call (.Attribute o name apos) args kws pos) env = (do
      let ov ← eval o env
      standAt apos.atName
      let (f, first) ← holding [ov] (getMethod ov name pl)
      callWith pos f first (backTo pos (starEach args env)) (backToKw pos (keywordEach kws env)))) :
    wpD M A (eval (.Call (.Attribute o name apos) args kws pos) env) Q E s := by
  rw [he]
  refine wpD_bind (wpD_any (wpAny_mono h (fun ov s₁ h₁ => ?_) fun _ _ x => x))
  refine wpD_bind (wpD_standAt (wpD_bind (wpD_any (wpAny_holding (wpAny_mono h₁ (fun fx s₂ h₂ => ?_) fun _ _ x => x)))))
  exact h₂
theorem wpD_nameCall {id : Str} {p pos : Pos} {args : List Expr} {kws : List Keyword} {Q : Value → Shared → Prop}
    (h : wpAny M A (eval (.Name id p) env) (fun f s₁ => wpD M A (callWith pos f [] (backTo pos (starEach args env)) (backToKw pos (keywordEach kws env))) Q E s₁) E s) :
    wpD M A (eval (.Call (.Name id p) args kws pos) env) Q E s := by
  show wpD M A (do callWith pos (← eval (.Name id p) env) [] (backTo pos (starEach args env)) (backToKw pos (keywordEach kws env))) Q E s
  exact wpD_bind (wpD_any h)
theorem callWith_ofD {P : Heap → Prop} {pos : Pos} {f : Value} {first : List Value} {args : List (Bool × Sem Value)} {keywords : List (Option Str × Sem Value)} {Q : Value → Shared → Prop} (hplain : (args.any (·.1) || keywords.any (·.1.isNone)) = false)
    (hk : ∀ h, P h → ∃ k, (k = Keeper.frame ∨ k = Keeper.machine ∨ k = Keeper.boundFrame) ∧ Looks M h (keeperOf f) k)
    (h : wpAny M A (evalArgs f true args keywords) (fun a s₁ => P s₁.heap ∧ wpD M A (call f (first ++ a.pos) a.kw) Q E s₁) E s) : wpD M A (callWith pos f first args keywords) Q E s := by
  unfold callWith
  refine wpD_bind (wpD_any (wpAny_holding (wpAny_mono h (fun a s₁ h₁ => ?_) fun _ _ x => x)))
  refine wpD_bind (wpD_standAt ?_)
  obtain ⟨k, hk', L⟩ := hk _ h₁.1
  simp only [hplain]
  refine wpD_bind (wpD_any (L.here ?_))
  have tail : ∀ {t : Sem Value}, wpD M A t Q E s₁ → wpD M A (t >>= fun r => holding [r] point >>= fun _ => pure r) Q E s₁ :=
    fun ht => wpD_bind (wpD_mono ht (fun r s₂ hr => wpD_bind (wpD_holding (wpD_point (wpD_pure hr)))) fun _ _ x => x)
  have marked (mk : Value) : wpD M A (callMarked mk f (first ++ a.pos) a.kw) Q E s₁ := by unfold callMarked; exact wpD_keep h₁.2
  rcases hk' with rfl | rfl | rfl <;> dsimp only <;> first | exact tail h₁.2 | (split <;> first | exact tail h₁.2 | exact tail (marked _))
theorem callWith_KD {K : Frag} {h₀ : Heap} {pos : Pos} {f : Value} {first : List Value} {e : Expr} {rest : List Expr} {Q : Value → Shared → Prop} (_X : K.In h₀) (hk : keepIn K f = true)
    (h : wpAny M A (spliced (backTo pos (starEach (e :: rest) env))) (fun vs s₁ => K.In s₁.heap ∧ wpD M A (call f (first ++ vs)) Q E s₁) E s)
    (he : starEach (e :: rest) env = (false, eval e env) :: starEach rest env := by rfl) (hplain : (backTo pos (starEach rest env)).any (·.1) = false := by rfl) :
    wpD M A (callWith pos f first (backTo pos (starEach (e :: rest) env)) []) Q E s := by
  rw [he] at h ⊢
  exact callWith_ofD (by show ((false || (backTo pos (starEach rest env)).any (·.1)) || false) = false; rw [hplain]; rfl) (keeps_K hk) (Calls.evalArgs_plain h)
theorem wpD_holdIf {c : Bool} {α : Type} {a b : Sem α} {Q : α → Shared → Prop} (hc : c = true) (h : wpD M A a Q E s) : wpD M A (if c = true then a else b) Q E s := by subst hc; exact h
end
section
variable {prog : Program} {w : World} {A A₀ : Around} {s : Shared} {R : Result → Shared → Prop}
theorem codeD_func {body : List Stmt} {env : Env}
    (h : wpD (model prog w) (A.deeper env) (execs body env) (fun f s' => R (.ok (.ret (match f with | .ret v => v | _ => .none))) s') (fun _ _ => False) s) :
    codeD (model prog w) A (.func body env) R s := by
  refine codeD_of_tree rfl ?_
  show wpD _ (A.deeper env) (do point; match ← (execs body env).onRaise (leaving env) with | .ret v => ret v | _ => ret .none) _ _ s
  refine wpD_bind (wpD_point (wpD_bind (wpD_onRaise (wpD_mono h (fun f s' h' => ?_) fun _ _ h' => h'.elim))))
  cases f <;> exact wpD_pure h'
theorem codeD_call_function {a : Addr} {args : Args} {o : Obj} {fd : FuncData} {body : List Stmt} (hroom : A.depth < recursionLimit)
    (ho : s.heap.get? a = some o)
    (hd' : o.data = .func fd) (hco : fd.scope.isCoroutine = false) (hgen : fd.scope.isGenerator = false) (hbody : fd.body = .stmts body) (hcd : s.heap.CodeRec fd.code fd.qualname)
    (h : wpAny (model prog w) A.in1 (bindArgs fd args) (fun binds s₁ =>
      wpAny (model prog w) A.in1 (newFunctionEnv fd.scope fd.globals fd.closure binds (fd.qualname ++ ".<locals>.") (some a) fd.code none fd.builtins)
        (fun env s₂ => s₂.heap.NoLimit ∧ codeD (model prog w) A (.func body env) R s₂) (fun e s' => R (.error e) s') s₁) (fun e s' => R (.error e) s') s) :
    codeD (model prog w) A (.call (.ref a) args) R s := by
  refine codeD_of_tree rfl (wpD_any ?_)
  show wpAny _ A.in1 (callAny (.ref a) args) _ _ s
  simp only [callAny]
  refine wpAny_bind (wpAny_load ho ?_)
  obtain ⟨c, oc, vs, tq, hc, hoc, hdc, hq⟩ := hcd
  simp only [hd', callFunction, hco, hgen, hbody, hc]
  rw [hc] at h
  refine wpAny_bind (m := field (.ref c) 1) (wpAny_field hoc hdc hq (wpAny_bind (wpAny_pure ?_)))
  exact wpAny_bind (wpAny_mono h (fun binds s₁ h₁ => wpAny_bind (wpAny_mono h₁ (fun env s₂ h₂ => wpAny_bind (wpAny_enterFrame h₂.1 hroom
    (wpAny_pure (And.intro rfl h₂.2)))) fun _ _ h' => h')) fun _ _ h' => h')
end
section
variable {prog : Program} {w : World} {A₀ A : Around} {s : Shared} {base h₀ : Heap} {outer : List Env} {L : Addr} {m : Str → Option Value} {env : Env} {news : List (Addr × Obj)} {K : Frag} {p : Program} {loose : List Str} {mean : ExcName → Option Value} {mg mb : Str → Option Value}
  {R : Result → Shared → Prop} {name qual : Str} {params : Arguments} {body : List Stmt} {scope : Scope} {dV kV doc pm cdv ct oc : Value} {an od : Option Addr} {osl : Array (Option Value)} {f : Addr} {args : Args} {binds : List (Str × Value)}
theorem code_defD (B : Below A₀ base outer h₀) (F : Fr h₀ L s.heap m) (X₀ : K.In h₀) (N : News h₀ L s.heap news) (T : Top p loose mean mg mb h₀) (hA : A.frames = some (env :: outer)) (hf : env.frame = some L) (hke : env.scope.kind = .function)
    (ho : K.lookup f = some ⟨oc, od, .func (fnOf name qual params body scope dV kV doc pm an cdv ct), osl⟩) (hcd : codeIn K cdv qual = true) (hroom : A.depth < recursionLimit)
    (hbind : BindsTo s (fnOf name qual params body scope dV kV doc pm an cdv ct) args binds) (hloc : ∀ y ∈ binds, scope.names.lookup y.1 = some .local)
    (h : ∀ g L' h₁, Fr h₀ L g m → Fr g L' h₁ (fun y => binds.reverse.lookup y) → News g L' h₁ news → Below A base (env :: outer) g → K.In g → Top p loose mean mg mb g →
      wpD (model prog w) (A.deeper (envOf qual scope L' f cdv)) (execs body (envOf qual scope L' f cdv))
        (fun fl s' => LeaveK h₀ L m g R (match fl with | .ret v => v | _ => .none) s') (fun _ _ => False)
        { s with heap := h₁, toks := s.toks + binds.length })
    (hco : scope.isCoroutine = false) (hgen : scope.isGenerator = false) (hk : scope.kind = .function)
    (hcell : ∀ x ∈ scope.names, x.2 ≠ .cell) : codeD (model prog w) A (.call (.ref f) args) R s := by
  obtain ⟨FG, BG, st, lv⟩ := groundX (R := R) B F N hA hf hke
  refine codeD_call_function hroom ((X₀.keeps F.keep) _ _ ho) rfl hco hgen rfl (codeRec_of (X₀.keeps F.keep) hcd) (hbind _ _ _ _ ?_)
  refine wpAny_newFunctionEnv hcell hloc (fun h₁ hns₀ hsb₀ => ⟨(T.nolimit.keeps F.keep).fresh _ hsb₀, codeD_func ?_⟩) hk
  have hk₁ : ∀ b o, s.heap.get? b = some o → h₁.get? b = some o := fun b o e => hsb₀.extBut b o (Nat.ne_of_lt (Heap.lt_size e)) (Heap.get?_push_of_some _ e)
  exact wpD_mono (h _ s.heap.objs.size h₁ FG ⟨hns₀, fun b o e => hk₁ b o (of_hideAll _ e), Nat.le_of_eq (hideAll_size _ _)⟩
    (fun p hp => ⟨hk₁ _ _ (N p hp).1, Nat.ne_of_lt (Heap.lt_size (N p hp).1), hideAll_none _ (List.mem_map_of_mem hp)⟩) BG (X₀.keeps st) (T.keeps st)) (fun fl s' hl => lv _ _ hl) fun _ _ y => y
theorem code_defCD (B : Below A₀ base outer h₀) (F : Fr h₀ L s.heap m) (X₀ : K.In h₀) (N : News h₀ L s.heap news) (T : Top p loose mean mg mb h₀) (hA : A.frames = some (env :: outer)) (hf : env.frame = some L) (hke : env.scope.kind = .function)
    (ho : K.lookup f = some ⟨oc, od, .func (fnOf name qual params body scope dV kV doc pm an cdv ct), osl⟩) (hcd : codeIn K cdv qual = true) (hroom : A.depth < recursionLimit)
    (hbind : BindsTo s (fnOf name qual params body scope dV kV doc pm an cdv ct) args binds) (hkind : (binds.all fun y => scope.names.lookup y.1 == some .local || scope.names.lookup y.1 == some .cell) = true)
    (hnd : ((cellsFrom 0 scope.names []).map (·.1)).Nodup)
    (h : ∀ g L' h₁ tk cells, Fr h₀ L g m → Fr g L' h₁ (bindL (envOfC qual scope L' f cdv).kindOf binds fun _ => none) → News g L' h₁ (cells ++ news) →
      CellsAre (bindC (envOfC qual scope L' f cdv).kindOf binds fun _ => none) (cellsFrom (L' + 1) scope.names []) cells → Below A base (env :: outer) g → K.In g → Top p loose mean mg mb g → (∀ p ∈ news, p.1 < L') →
      wpD (model prog w) (A.deeper (envOfC qual scope L' f cdv)) (execs body (envOfC qual scope L' f cdv))
        (fun fl s' => LeaveK h₀ L m g R (match fl with | .ret v => v | _ => .none) s') (fun _ _ => False)
        { s with heap := h₁, toks := tk })
    (hco : scope.isCoroutine = false) (hgen : scope.isGenerator = false) (hk : scope.kind = .function) : codeD (model prog w) A (.call (.ref f) args) R s := by
  obtain ⟨FG, BG, st, lv⟩ := groundX (R := R) B F N hA hf hke
  refine codeD_call_function hroom ((X₀.keeps F.keep) _ _ ho) rfl hco hgen rfl (codeRec_of (X₀.keeps F.keep) hcd) (hbind _ _ _ _ ?_)
  refine wpAny_newFunctionEnv_cells hk (kindsX hkind _) fun env' he s' x => ?_
  subst he
  refine ⟨(T.nolimit.keeps F.keep).keeps x.toInCall.keep, codeD_func ?_⟩
  obtain ⟨h₁, tk, rfl, _⟩ := x.done
  have hk₁ := x.toInCall.keep
  obtain ⟨cells, NC, Y⟩ := Cl.news (h₀ := s.heap) (Nat.le_refl _) fun n c hm => ⟨x.cell n c (lookup_of_mem_nodup (cellsFrom_names scope.names 0 (s.heap.objs.size + 1) [] [] rfl ▸ hnd) hm), x.above n c hm⟩
  refine wpD_mono (h _ s.heap.objs.size h₁ tk cells FG ⟨x.toInCall.ns, fun b o e => hk₁ b o (of_hideAll _ e), Nat.le_of_eq (hideAll_size _ _)⟩ (fun p hp => ?_) Y BG (X₀.keeps st) (T.keeps st) (fun p hp => Heap.lt_size (N p hp).1)) (fun fl s' hl => lv _ _ hl) fun _ _ y => y
  rcases List.mem_append.mp hp with hp | hp
  · refine ⟨(NC p hp).1, (NC p hp).2.1, ?_⟩
    cases q : (hideAll s.heap (news.map (·.1))).get? p.1 with
    | none => rfl
    | some o => have := of_hideAll _ q; rw [(NC p hp).2.2] at this; cases this
  · exact ⟨hk₁ _ _ (N p hp).1, Nat.ne_of_lt (Heap.lt_size (N p hp).1), hideAll_none _ (List.mem_map_of_mem hp)⟩
end
namespace F
theorem ba_mro : mroOf (.type "bytearray") = pure [.type "bytearray", .type "object"] := by rw [mroOf_type]; kernel_rfl
theorem ba_lookup_new : typeLookup (.type "bytearray") "__new__" = pure (some (.builtin "bytearray.__new__")) := by rw [typeLookup_type, builtinLookup_eq_fast]; kernel_rfl
theorem ba_slot_init : Slot "bytearray" "__init__" "bytearray.__init__" :=
  .of (owner := "bytearray") (n := "__init__") (by rw [typeLookup_type, builtinLookup_eq_fast]; kernel_rfl) (by decide +kernel) (by decide +kernel) (by decide +kernel)
    (by first | exact .inl (by decide +kernel) | exact .inr (by decide +kernel)) (by rw [isSubtype_type]; kernel_rfl)
theorem ba_called : TypeCalled "bytearray" "bytearray.__new__" "bytearray.__init__" :=
  ⟨by decide +kernel, by decide +kernel, ⟨_, _, ba_mro⟩, madeBy_type ba_mro ba_lookup_new (by decide +kernel), by decide +kernel, by rw [isSubtype_type]; kernel_rfl, ba_slot_init⟩
theorem ba_typeCall (b : Array UInt8) (t : Tok) : checkTypeCall "bytearray" ⟨[.bytes b t], []⟩ = pure () := by kernel_rfl
theorem ba_newCall (b : Array UInt8) (t : Tok) : checkBuiltinCall "bytearray.__new__" ⟨[.type "bytearray", .bytes b t], []⟩ = pure () := by kernel_rfl

theorem ba_plain : plainId "bytearray.__new__" = true := by decide +kernel
theorem ba_plain_init : plainId "bytearray.__init__" = true := by decide +kernel
theorem ba_entry : entryFor table "bytearray.__new__" = some Builtin.«list.__new__» := entryFor_alias (id' := "list.__new__") (by kernel_rfl) (by first | rfl | decide +kernel) (by decide +kernel) (by kernel_rfl)
theorem ba_entry_init : entryFor table "bytearray.__init__" = some Builtin.«bytearray.__init__» := by first | exact entryFor_of_fast (by kernel_rfl) | exact entryFor_of_tree (by kernel_rfl)
theorem ba_release : typeLookup (.type "bytearray") "__release_buffer__" = pure (some (.builtin "bytearray.__release_buffer__")) := by rw [typeLookup_type, builtinLookup_eq_fast]; kernel_rfl
theorem ba_bind (v : Value) : Builtin.Bytes.bindOptional "bytearray.__init__" "bytearray" ["source", "encoding", "errors"] [v] [] = pure [some v, none, none] := by kernel_rfl
theorem ba_sub : isSubtype (.type "bytearray") (.type "bytearray") = pure true := by rw [isSubtype_type]; kernel_rfl
theorem ba_noindex : typeLookup (.type "bytes") "__index__" = pure none := by rw [typeLookup_type, builtinLookup_eq_fast]; kernel_rfl
theorem ba_buffer : typeLookup (.type "bytes") "__buffer__" = pure (some (.builtin "bytes.__buffer__")) := by rw [typeLookup_type, builtinLookup_eq_fast]; kernel_rfl
theorem ba_brelease : typeLookup (.type "bytes") "__release_buffer__" = pure none := by rw [typeLookup_type, builtinLookup_eq_fast]; kernel_rfl
end F
section
variable {M : Model} {A : Around} {E : Value → Shared → Prop} {s : Shared}
theorem dirty_ne {id t : String} {a : Args} (hd : dirtyCode (.builtin id a) = false) (h : dirtyIds.contains t = true) : id ≠ t := fun e => by
  rw [e] at hd
  exact Bool.noConfusion (h.symm.trans hd)
theorem dirty_not {id : String} {a : Args} (hd : dirtyCode (.builtin id a) = false) : Builtin.Bytes.decodersThatHold.contains id = false := by
  have hd : (["bytearray.__contains__", "bytearray.__mod__", "bytearray.__rmod__", "_struct.pack_into.held", "bytearray.find.held"] ++ Builtin.Bytes.decodersThatHold).contains id = false := hd
  rw [List.contains_append, Bool.or_eq_false_iff] at hd
  exact hd.2
theorem wpD_exported {self : Value} {Q : Bool → Shared → Prop} (h : Q false s) : wpD M A (Builtin.Bytes.exported self) Q E s := fun Γ p hΓ hc => by
  unfold Builtin.Bytes.exported
  rw [Sem.wp_bind']
  unfold stack
  have fin : ∀ f : Code × Pos → Bool, (∀ c p, dirtyCode c = false → f (c, p) = false) → Q (((Γ.code, p) :: Γ.below).any f) s := fun f hf => by
    have hz : (((Γ.code, p) :: Γ.below).any f) = false := List.any_eq_false.mpr fun x hx => by
      have hd : dirtyCode x.1 = false := by
        rcases List.mem_cons.mp hx with rfl | hx
        · exact hc.1
        · exact hc.2 x hx
      rw [Bool.not_eq_true]
      exact hf x.1 x.2 hd
    rw [hz]
    exact h
  refine fin _ fun c p hd => ?_
  cases c with
  | builtin id args =>
    obtain ⟨pos, kw⟩ := args
    delta Builtin.Bytes.exported.match_1
    with_unfolding_all refine (dif_neg (dirty_ne (t := "bytearray.__contains__") hd (by decide +kernel))).trans ?_
    with_unfolding_all refine (dif_neg (dirty_ne (t := "bytearray.__mod__") hd (by decide +kernel))).trans ?_
    with_unfolding_all refine (dif_neg (dirty_ne (t := "bytearray.__rmod__") hd (by decide +kernel))).trans ?_
    with_unfolding_all refine (dif_neg (dirty_ne (t := "_struct.pack_into.held") hd (by decide +kernel))).trans ?_
    with_unfolding_all refine (dif_neg (dirty_ne (t := "bytearray.find.held") hd (by decide +kernel))).trans ?_
    cases pos with
    | nil => rfl
    | cons v t =>
      show (Builtin.Bytes.sameRef v self && Builtin.Bytes.decodersThatHold.contains id) = false
      rw [dirty_not hd, Bool.and_false]
  | _ => rfl
end
section
variable {prog : Program} {w : World} {A : Around} {E : Value → Shared → Prop} {s : Shared}
theorem code_ba_new (b : Array UInt8) (t : Tok) {Q₁ : Value → Shared → Prop}
    (h : Q₁ (.ref s.heap.objs.size) { s with heap := s.heap.push { cls := .type "bytearray", data := .bytearray #[] } }) :
    codeAny (model prog w) A (.call (.builtin "bytearray.__new__") ⟨[.type "bytearray", .bytes b t], []⟩) (wants Q₁ E) s := by
  refine codeAny_of_tree ?_
  show wpAny _ A.in1 (do checkBuiltinCall "bytearray.__new__" ⟨[.type "bytearray", .bytes b t], []⟩; again (.builtin "bytearray.__new__" ⟨[.type "bytearray", .bytes b t], []⟩)) _ _ s
  refine wpAny_bind (wpAny_of_eq (F.ba_newCall b t) (wpAny_pure ⟨plainId_quiet F.ba_plain _, codeAny_builtin_stack F.ba_entry rfl fun p st => ?_⟩))
  rw [Around.under_plainId F.ba_plain _]
  have hsub := F.ba_sub
  have hown : ("bytearray.__new__".splitOn ".__new__").headD "" = "bytearray" := by simp +decide [String.splitOn, String.splitOnAux]
  obtain ⟨hp, g, d, tk, os⟩ := s
  simp only [hown]
  wp_walk
  exact h
theorem wpD_builtin {id : String} {args : Args} {b : Builtin} {R : Result → Shared → Prop} (hcl : dirtyCode (.builtin id args) = false) (hb : entryFor table id = some b)
    (h : wpD (model prog w) (A.under (.builtin id args)) (b args)
      (fun fin s' => match fin with | .done f => R (.ok f) s' | .again c' => c'.quiet = true ∧ codeD (model prog w) A c' R s') (fun e s' => R (.error e) s') s) :
    codeD (model prog w) A (.builtin id args) R s := by
  refine codeD_of_tree hcl ?_
  show wpD _ _ (match entryFor table id with | some b => b args | none => unsupported ((withoutEnding? id "#data").getD id)) _ _ s
  rw [hb]; exact h
theorem ba_ends : "bytearray.__release_buffer__".endsWith ("." ++ "__release_buffer__") = true := by decide +kernel
theorem ba_drop : "bytearray.__release_buffer__".dropRight ("__release_buffer__".length + 1) = "bytearray" := by decide +kernel
theorem ownRelease_ba {v : Value} {Q : Bool → Shared → Prop} (hT : s.TypeIs v "bytearray") (h : Q false s) : wpAny (model prog w) A (Builtin.Bytes.ownRelease v) Q E s := by
  unfold Builtin.Bytes.ownRelease Builtin.Bytes.slotIsOwn
  refine wpAny_bind (wpAny_bind (wpAny_specialOf hT F.ba_release ?_))
  dsimp only
  rw [ba_ends, ba_drop]
  exact wpAny_isInstance hT F.ba_sub (wpAny_pure h)
theorem ownRelease_bytes {b : Array UInt8} {t : Tok} {Q : Bool → Shared → Prop} (h : Q false s) : wpAny (model prog w) A (Builtin.Bytes.ownRelease (.bytes b t)) Q E s := by
  unfold Builtin.Bytes.ownRelease Builtin.Bytes.slotIsOwn
  exact wpAny_bind (wpAny_bind (wpAny_specialOf_val rfl F.ba_brelease (wpAny_pure (wpAny_pure h))))
theorem ba_write {S : Addr} {b₀ : Array UInt8} {f : Array UInt8 → Array UInt8} {Q : Unit → Shared → Prop} (hS : s.heap.get? S = some { cls := .type "bytearray", data := .bytearray b₀ }) (hz : (f b₀).size ≤ sizeLine)
    (h : Q () { s with heap := s.heap.update S (Obj.mapBytearray f) }) : wpAny (model prog w) A (Builtin.Bytes.write (.ref S) f) Q E s := by
  show wpAny _ _ (updateBytearray S f) _ _ _
  unfold updateBytearray
  refine wpAny_bind (wpAny_load hS ?_)
  show wpAny _ _ (update S (Obj.mapBytearray f) >>= fun _ => lookBehind S) _ _ _
  refine wpAny_bind (wpAny_update hS ?_)
  have hS₂ : (s.heap.update S (Obj.mapBytearray f)).get? S = some { cls := .type "bytearray", data := .bytearray (f b₀) } := Heap.get?_update_self (Obj.mapBytearray f) hS rfl
  refine wpAny_lookBehind hS₂ ?_ h
  show (if (f b₀).size > sizeLine then some "bytearray:memory" else none) = none
  rw [if_neg (by omega)]
theorem buffer_bytes {id : String} {b : Array UInt8} {t : Tok} {full : Bool} {Q : Option (Array UInt8) → Shared → Prop} (h : Q (some b) s) : wpAny (model prog w) A (Builtin.Bytes.buffer? id (.bytes b t) full) Q E s := by
  unfold Builtin.Bytes.buffer?
  have hb : typeOf (.bytes b t) = pure (.type "bytes") := rfl
  refine wpAny_bind (wpAny_specialOf_val hb F.ba_buffer ?_)
  refine wpAny_bind ?_
  unfold Builtin.Bytes.slotIsOwn
  refine wpAny_bind (wpAny_specialOf_val hb F.ba_buffer ?_)
  have e1 : "bytes.__buffer__".endsWith ("." ++ "__buffer__") = true := by decide +kernel
  have e2 : "bytes.__buffer__".dropRight ("__buffer__".length + 1) = "bytes" := by decide +kernel
  dsimp only
  rw [e1, e2]
  refine wpAny_isInstance_val hb F.bm_sub ?_
  refine wpAny_pure ?_
  exact h
theorem wpD_if_false {α : Type} {c : Bool} {a b : Sem α} {Q : α → Shared → Prop} (hc : c = false) (h : wpD (model prog w) A b Q E s) : wpD (model prog w) A (if c = true then a else b) Q E s := by
  subst hc
  exact h
theorem code_ba_init {S : Addr} {b : Array UInt8} {t : Tok} {R : Result → Shared → Prop} (hS : s.heap.get? S = some { cls := .type "bytearray", data := .bytearray #[] }) (hz : b.size ≤ sizeLine)
    (h : R (.ok (.ret .none)) { s with heap := (s.heap.update S (Obj.mapBytearray fun _ => #[])).update S (Obj.mapBytearray fun _ => b) }) :
    codeD (model prog w) A (.call (.builtin "bytearray.__init__") ⟨[.ref S, .bytes b t], []⟩) R s := by
  have hT : s.TypeIs (.ref S) "bytearray" := ⟨_, hS, rfl⟩
  refine codeD_of_tree rfl ?_
  show wpD _ A.in1 (do checkBuiltinCall "bytearray.__init__" ⟨[.ref S, .bytes b t], []⟩; again (.builtin "bytearray.__init__" ⟨[.ref S, .bytes b t], []⟩)) _ _ s
  refine wpD_bind (wpD_any (F.ba_slot_init.check _ _ _ _ _ _ _ _ hT (by trivial) (wpD_pure ⟨plainId_quiet F.ba_plain_init _, wpD_builtin (by with_unfolding_all rfl) F.ba_entry_init ?_⟩)))
  rw [Around.under_plainId F.ba_plain_init _]
  unfold Builtin.«bytearray.__init__»
  refine wpD_bind (wpD_any (ownRelease_ba hT ?_))
  refine wpD_if_false rfl ?_
  refine wpD_bind (wpD_any (wpAny_of_eq (F.ba_bind _) ?_))
  refine wpD_bind (wpD_any (wpAny_of_eq (a := ()) rfl ?_))
  refine wpD_bind (wpD_any (wpAny_of_eq (a := ()) rfl ?_))
  refine wpD_bind (wpD_bind (wpD_exported (wpD_any ?_)))
  show wpAny _ _ (Builtin.Bytes.exportsOf (.ref S) >>= _) _ _ _
  refine wpAny_bind (m := Builtin.Bytes.exportsOf (.ref S)) ?_
  unfold Builtin.Bytes.exportsOf
  refine wpAny_bind (wpAny_load hS (wpAny_pure (wpAny_pure (wpD_any ?_))))
  refine bm_if_false rfl ?_
  refine wpAny_bind (ba_write hS (by decide) ?_)
  have hS₁ : (s.heap.update S (Obj.mapBytearray fun _ => #[])).get? S = some { cls := .type "bytearray", data := .bytearray #[] } := Heap.get?_update_self (Obj.mapBytearray fun _ => #[]) hS rfl
  refine wpAny_bind (wpAny_of_eq (a := none) rfl ?_)
  refine bm_if_false rfl ?_
  refine wpAny_bind (wpAny_of_eq (a := ()) rfl ?_)
  refine wpAny_bind (wpAny_specialOf_val (T := "bytes") rfl F.ba_noindex ?_)
  refine bm_if_false rfl ?_
  refine wpAny_bind (buffer_bytes ?_)
  refine wpAny_bind (wpAny_rule ?_)
  refine wpAny_bind (ba_write (s := { s with heap := _ }) hS₁ hz ?_)
  exact wpAny_pure h
end
section
variable {prog : Program} {w : World} {A : Around} {E : Value → Shared → Prop} {s : Shared}
theorem wpD_ite_false {α : Type} {c : Prop} [Decidable c] {a b : Sem α} {Q : α → Shared → Prop} (hc : decide c = false) (h : wpD (model prog w) A b Q E s) :
    wpD (model prog w) A (if c then a else b) Q E s := by rw [if_neg (of_decide_eq_false hc)]; exact h
theorem wpD_ite_true {α : Type} {c : Prop} [Decidable c] {a b : Sem α} {Q : α → Shared → Prop} (hc : decide c = true) (h : wpD (model prog w) A a Q E s) :
    wpD (model prog w) A (if c then a else b) Q E s := by rw [if_pos (of_decide_eq_true hc)]; exact h
theorem call_bytearray {b : Array UInt8} {t : Tok} {Q : Value → Shared → Prop} (hz : b.size ≤ sizeLine)
    (h : ∀ h' S, Grew s.heap h' → h'.get? S = some { cls := .type "bytearray", data := .bytearray b } → s.heap.get? S = none → Q (.ref S) { s with heap := h' }) :
    wpD (model prog w) A (call (.type "bytearray") [.bytes b t]) Q E s := by
  have ft := F.ba_called
  obtain ⟨c, tl, hmro⟩ := ft.mro
  have hmade := ft.made
  have hsub := ft.sub
  refine wpD_call (codeD_of_tree rfl ?_)
  show wpD _ _ (callAny (.type "bytearray") _) _ _ _
  refine wpD_pure ⟨Code.quiet_builtin _ (by decide +kernel), wpD_builtin (by with_unfolding_all rfl) F.entry_type_call ?_⟩
  rw [Around.under_plain (weight_type_call_type "bytearray" [.bytes b t] []) (units_type_call_type "bytearray" [.bytes b t] [])]
  have h1 := ft.notType
  have h2 := ft.canCreate
  have hct := F.ba_typeCall b t
  unfold Builtin.«type.__call__»
  repeat (any_goals (first | assumption | (with_reducible refine wpD_bind (wpD_any ?_)) | (with_reducible apply wpD_ite_false; focus (rfl; done)) | (with_reducible apply wpD_ite_false; focus (simp [*]; done)) | wp_step))
  have hTS : ∀ (h' : Heap) (bb : Array UInt8), h'.get? s.heap.objs.size = some { cls := .type "bytearray", data := .bytearray bb } → ({ s with heap := h' } : Shared).TypeIs (.ref s.heap.objs.size) "bytearray" := fun h' bb e => ⟨_, e, rfl⟩
  refine codeAny_mono (code_ba_new (E := fun _ _ => False) b t (Q₁ := fun v s₁ => v = .ref s.heap.objs.size ∧ s₁ = { s with heap := s.heap.push { cls := .type "bytearray", data := .bytearray #[] } }) ⟨rfl, rfl⟩) fun r s₁ hr => ?_
  cases r with
  | error e => exact hr.elim
  | ok fl =>
    cases fl with
    | ret obj =>
      obtain ⟨rfl, rfl⟩ := hr
      have hp := Heap.get?_push_size s.heap (o := { cls := .type "bytearray", data := .bytearray #[] }) rfl
      have hp1 := Heap.get?_update_self (Obj.mapBytearray fun _ => #[]) hp rfl
      have hp2 := Heap.get?_update_self (Obj.mapBytearray fun _ => b) hp1 rfl
      have hg : Grew s.heap (((s.heap.push { cls := .type "bytearray", data := .bytearray #[] }).update s.heap.objs.size (Obj.mapBytearray fun _ => #[])).update s.heap.objs.size (Obj.mapBytearray fun _ => b)) := fun c o e => by
        have hne : s.heap.objs.size ≠ c := (Nat.ne_of_lt (Heap.lt_size e)).symm
        exact Heap.get?_update_of_ne _ hne (Heap.get?_update_of_ne _ hne (Heap.get?_push_of_some _ e))
      have hn : s.heap.get? s.heap.objs.size = none := by
        cases q : s.heap.get? s.heap.objs.size with
        | none => rfl
        | some o => exact absurd (Heap.lt_size q) (Nat.lt_irrefl _)
      refine wpD_bind (wpD_any (wpAny_isInstance (hTS _ _ hp) F.ba_sub ?_))
      refine wpD_ite_false rfl ?_
      refine wpD_bind (wpD_holding ?_)
      unfold callSpecial?
      refine wpD_bind (wpD_any (wpAny_specialOf (hTS _ _ hp) ft.init.lookup ?_))
      refine wpD_holding (wpD_bind (wpD_any (wpAny_of_eq (ft.init.bind _) ?_)))
      refine wpD_bind (wpD_call (code_ba_init hp hz (wpD_pure ?_)))
      exact wpD_pure (h _ _ hg hp2 hn)
    | _ => exact hr.elim
end
section
variable {prog : Program} {w : World} {A : Around} {K : Frag} {C : Addr} {R : Result → Shared → Prop} {h : Heap} {g : Array GenState} {d : Drawn} {t : Nat} {os : OsState}
theorem make_coreD {rest : List Value} {kw : List (Str × Value)} {init : Value} (Y : Makes (model prog w) h C) (hi : Looks (model prog w) h (typeLookup (.ref C) "__init__") (some init))
    (hb : ∀ self, Looks (model prog w) h (bindSpecial init self) (init, [self])) (hne : (some init != some (Value.builtin "object.__init__")) = true)
    (hq : codeD (model prog w) (A.under (.builtin "type.__call__" ⟨.ref C :: rest, kw⟩)) (.call init ⟨.ref (h.objs.size + 1) :: rest, kw⟩) (InitBack (h.objs.size + 1) R) ⟨(h.push emptyDict).push (instObj C h.objs.size), g, d, t, os⟩) :
    codeD (model prog w) A (.call (.ref C) ⟨rest, kw⟩) R ⟨h, g, d, t, os⟩ := by
  have Y' := Y
  obtain ⟨⟨oc, od, cd, sl, hC, e1, e2, e4⟩, made, base, self, top, call, typ⟩ := Y
  refine codeD_of_tree rfl (wpD_any ?_)
  show wpAny _ _ (callAny (.ref C) _) _ _ _
  refine nd_load hC ?_
  show wpAny _ _ (callAny.viaDunder (.ref C) _) _ _ _
  unfold callAny.viaDunder
  refine wpAny_bind (call.at ?_)
  dsimp only
  rw [tc_bind]
  refine wpAny_bind (wpAny_pure (wpAny_bind (wpAny_pure ?_)))
  refine wpAny_pure (a := Fin.again (.call (.builtin "type.__call__") ⟨.ref C :: rest, kw⟩)) (And.intro rfl ?_)
  refine codeD_of_tree (by with_unfolding_all rfl) (wpD_any ?_)
  show wpAny _ A.in1 (do checkBuiltinCall "type.__call__" ⟨.ref C :: rest, kw⟩; again (.builtin "type.__call__" ⟨.ref C :: rest, kw⟩)) _ _ _
  refine wpAny_bind (check_slot tc_kind tc_split typ (tc_args _ _ _) (wpAny_pure (And.intro (Code.quiet_builtin _ (by decide +kernel)) (wpD_builtin (by with_unfolding_all rfl) entry_typeCall ?_))))
  unfold Builtin.«type.__call__»
  have hm : Looks (model prog w) h (mroOf (.ref C)) cd.mro := ((Looks.ld (part := none) hC).andThen .now).andThen .now
  dsimp only
  rw [if_neg (by simp)]
  refine wpD_bind (wpD_any (hm.at ?_))
  simp only [e4, Bool.false_eq_true, if_false]
  refine wpD_bind (wpD_any (made.at ?_))
  dsimp only
  refine wpD_bind (wpD_pure ?_)
  refine wpD_bind (wpD_holding (wpD_any (wpAny_call (new_K Y' hi (.inl hne) ?_))))
  dsimp only
  have k : ∀ b o, h.get? b = some o → ((h.push emptyDict).push (instObj C h.objs.size)).get? b = some o := fun b o e => Heap.get?_push_of_some _ (Heap.get?_push_of_some _ e)
  have hx : ((h.push emptyDict).push (instObj C h.objs.size)).get? (h.objs.size + 1) = some (instObj C h.objs.size) := by heap_get
  have t1 : Looks (model prog w) ((h.push emptyDict).push (instObj C h.objs.size)) (typeOf (.ref (h.objs.size + 1))) (.ref C) := (Looks.ld hx).andThen .now
  have s1 := self.keeps k
  have i1 := hi.keeps k
  have b1 := (hb (.ref (h.objs.size + 1))).keeps k
  have q1 : Looks (model prog w) ((h.push emptyDict).push (instObj C h.objs.size)) (isInstance (.ref (h.objs.size + 1)) (.ref C)) true := by unfold isInstance; exact t1.andThen s1
  refine wpD_bind (wpD_any (q1.at ?_))
  simp only [Bool.not_true, Bool.false_eq_true, if_false]
  have q2 : Looks (model prog w) ((h.push emptyDict).push (instObj C h.objs.size)) (specialOf (.ref (h.objs.size + 1)) "__init__") (some init) := by unfold specialOf; exact t1.andThen i1
  refine wpD_bind (wpD_holding ?_)
  unfold callSpecial?
  refine wpD_bind (wpD_any (q2.at ?_))
  refine wpD_holding (wpD_bind (wpD_any (b1.at ?_)))
  refine wpD_bind (wpD_call (codeD_mono hq fun r s' z => ?_))
  rcases r with e | (v | _ | _ | _) <;> first | exact z | exact z.elim | skip
  obtain ⟨rfl, z⟩ := z
  exact wpD_pure (wpD_pure z)
end
section
variable {prog : Program} {w : World} {A : Around} {K : Frag} {C : Addr} {s : Shared} {h₀ : Heap} {L : Addr} {m : Str → Option Value} {news : List (Addr × Obj)} {R : Result → Shared → Prop} {E : Value → Shared → Prop} {Q : Value → Shared → Prop}
theorem call_clsD {pos : List Value} {kw : List (Str × Value)} {fI : Addr} (F : Fr h₀ L s.heap m) (X₀ : K.In h₀) (N : News h₀ L s.heap news) (hm : makesIn K C = true) (hi : findIn K (.ref C) "__init__" = some (some (.ref fI))) (hf : isFn K (.ref fI) = true)
    (h : ∀ x dx h', Fr h₀ L h' m → News h₀ L h' ((x, instObj C dx) :: (dx, dictOf [] 0) :: news) → (∀ p ∈ news, p.1 < dx) → dx < x →
      codeD (model prog w) (A.under (.builtin "type.__call__" ⟨.ref C :: pos, kw⟩)) (.call (.ref fI) ⟨.ref x :: pos, kw⟩) (InitBack x fun r s' => match r with | .ok (.ret v) => Q v s' | .ok _ => False | .error e => E e s') { s with heap := h' }) :
    wpD (model prog w) A (call (.ref C) pos kw) Q E s := by
  have X := X₀.keeps F.keep
  obtain ⟨hh, g, d, t, os⟩ := s
  have N' := (N.push F emptyDict).push (F.push _) (instObj C hh.objs.size)
  rw [Heap.size_push] at N'
  exact wpD_call (make_coreD (makes_of X hm) (looks_findIn X hi) (fun self => bind_fn X self (beq_iff_eq.mp hf)) (by rfl) (h _ hh.objs.size _ ((F.push _).push _) N' (fun p hp => Heap.lt_size (N p hp).1) (Nat.lt_succ_self _)))
end
theorem callWith_typeD {M : Model} {A : Around} {E : Value → Shared → Prop} {s : Shared} {env : Env} {pos : Pos} {T : String} {first : List Value} {e : Expr} {rest : List Expr} {Q : Value → Shared → Prop}
    (h : wpAny M A (spliced (backTo pos (starEach (e :: rest) env))) (fun vs s₁ => wpD M A (call (.type T) (first ++ vs)) Q E s₁) E s)
    (he : starEach (e :: rest) env = (false, eval e env) :: starEach rest env := by rfl) (hplain : (backTo pos (starEach rest env)).any (·.1) = false := by rfl) :
    wpD M A (callWith pos (.type T) first (backTo pos (starEach (e :: rest) env)) []) Q E s := by
  rw [he] at h ⊢
  exact callWith_ofD (P := fun _ => True) (by show ((false || (backTo pos (starEach rest env)).any (·.1)) || false) = false; rw [hplain]; rfl) (fun _ _ => ⟨.machine, .inr (.inl rfl), fun A Q E s k q => wpAny_pure q⟩) (Calls.evalArgs_plain (wpAny_mono h (fun _ _ q => ⟨trivial, q⟩) fun _ _ q => q))
theorem execs_nextD {M : Model} {A : Around} {E : Value → Shared → Prop} {s : Shared} {env : Env} {st : Stmt} {rest : List Stmt} {Q : Flow → Shared → Prop}
    (h : wpAny M A (exec st env) (fun f s' => match f with | .next => wpD M A (execs rest env) Q E s' | f => Q f s') E s) : wpD M A (execs (st :: rest) env) Q E s :=
  wpD_execs_cons (wpD_any h)
theorem bytearray_K {prog : Program} {w : World} {A : Around} {E : Value → Shared → Prop} {s : Shared} {h₀ : Heap} {L : Addr} {m : Str → Option Value} {news : List (Addr × Obj)} {b : Array UInt8} {t : Tok} {Q : Value → Shared → Prop} (F : Fr h₀ L s.heap m) (N : News h₀ L s.heap news) (hz : b.size = 4)
    (h : ∀ h' y, Fr h₀ L h' m → News h₀ L h' ((y, baO b) :: news) → (∀ p ∈ news, p.1 ≠ y) → Q (.ref y) { s with heap := h' }) : wpD (model prog w) A (call (.type "bytearray") [.bytes b t]) Q E s :=
  call_bytearray (by rw [hz]; decide) fun h' y G ho hn => h h' y (G.fr F) (newsNew G F N ho hn).1 (newsNew G F N ho hn).2
section
variable {prog : Program} {w : World} {p : Program} {loose : List Str} {mean : ExcName → Option Value} {mg mb : Str → Option Value} {dp un : Nat} {gd : Option (List Code)} {cn : Str} {cs : Scope} {a : Addr} {ccd : Value} {cl : List (Str × Addr)} {outer : List Env} {A₀ : Around} {base h₀ : Heap} {L : Addr} {m : Str → Option Value} {s : Shared} {Q E : Value → Shared → Prop} {news : List (Addr × Obj)}
  (B : Below A₀ base outer h₀) (F : Fr h₀ L s.heap m) (X : (Mine.hd.heap_1 w.params).In h₀) (T : Top p loose mean mg mb h₀) (hk : cs.kind = .function)
include B F X T hk
theorem buffer_new {k : Int} {kt u : Tok} {data : Array UInt8} (N : News h₀ L s.heap news) (hsz : data.size = 4)
  (hdp : dp + 2 < 500) (hun : un + 16 < 5000)
  (hret : ∀ h' tk' b d y od, Fr h₀ L h' m → News h₀ L h' ((y, baO data) :: (b, instObj 189 d) :: (d, od) :: news) → IsBufD w od k y 0 → (∀ q ∈ news, q.1 ≠ b ∧ q.1 ≠ d ∧ q.1 ≠ y) → b ≠ d → b ≠ y → d ≠ y → Q (.ref b) { s with heap := h', toks := tk' }) :
   wpD (model prog w) (ktrTop dp un gd cn cs L a ccd cl outer) (call (.ref 189) [.int k kt, .bytes data u]) Q E s := by
  k_dflt (refine' call_clsD ?k1 ?k2 ?k3 ?k4 ?k5 ?k6 ?_; (case k1 => k_asm); (case k2 => k_asm); (case k3 => k_asm); (case k4 => k_is); (case k5 => k_is); (case k6 => k_is); k_whole; intro x' d' h' F' N' l1 l2)
  have ap1 : Apart x' d' := ⟨Nat.ne_of_gt l2⟩
  have ap2 : AllAp d' news := allAp_of fun p hp => Nat.ne_of_lt (l1 p hp)
  k_sweep
  k_dflt ((refine' code_defD (by k_asm) (by k_asm) (by k_asm) (by k_asm) (by k_asm) (by exact rfl) (by exact rfl) (by assumption) (by k_is) (by k_is) (by ktr_room) (by exact BindsTo.of_eq rfl) (by exact locs rfl) ?_ (by exact rfl) (by exact rfl) (by exact rfl) (by decide); k_whole; intro g'z L'z h'z FG'z F'z N'z B'z X'z T'z; (try dsimp only)))
  refine execs_nextD ?_
  k_steps
  dsimp only
  refine wpD_execs_cons (wpD_Assign_Attr (wpD_nameCall ?_) rfl)
  k_steps
  refine callWith_typeD ?_
  k_steps
  k_dflt (refine' bytearray_K ?kF ?kN ?kz ?_; (case kF => k_asm); (case kN => k_asm); (case kz => k_asm))
  intro h' y' F' N' ny'
  k_sweep
  have ap3 : Apart y' d' := ⟨fun e => ny' (d', _) (.tail _ (.head _)) e.symm⟩
  have ap4 : Apart y' x' := ⟨fun e => ny' (x', _) (.head _) e.symm⟩
  k_steps
  refine wpD_any ?_
  k_steps
  exact hret _ _ x' d' y' _ (by k_asm) (by k_asm) isBufD_mk (fun q hq => ⟨Nat.ne_of_lt (Nat.lt_trans (l1 q hq) l2), Nat.ne_of_lt (l1 q hq), ny' q (.tail _ (.tail _ hq))⟩) ap1.ne ap4.ne.symm ap3.ne.symm
end
namespace F
theorem ba_slot_setitem : Slot "bytearray" "__setitem__" "bytearray.__setitem__" :=
  .of (owner := "bytearray") (n := "__setitem__") (by rw [typeLookup_type, builtinLookup_eq_fast]; kernel_rfl) (by decide +kernel) (by decide +kernel) (by decide +kernel)
    (by first | exact .inl (by decide +kernel) | exact .inr (by decide +kernel)) (by rw [isSubtype_type]; kernel_rfl)
theorem ba_plain_setitem : plainId "bytearray.__setitem__" = true := by decide +kernel
theorem ba_entry_setitem : entryFor table "bytearray.__setitem__" = some Builtin.«bytearray.__setitem__» := by first | exact entryFor_of_fast (by kernel_rfl) | exact entryFor_of_tree (by kernel_rfl)
theorem slice_noindex : typeLookup (.type "slice") "__index__" = pure none := by rw [typeLookup_type, builtinLookup_eq_fast]; kernel_rfl
theorem bytes_notba : isSubtype (.type "bytes") (.type "bytearray") = pure false := by rw [isSubtype_type]; kernel_rfl
theorem bytes_noint : typeLookup (.type "bytes") "__int__" = pure none := by rw [typeLookup_type, builtinLookup_eq_fast]; kernel_rfl
theorem bytes_nofloat : typeLookup (.type "bytes") "__float__" = pure none := by rw [typeLookup_type, builtinLookup_eq_fast]; kernel_rfl
theorem bytes_notcomplex : isSubtype (.type "bytes") (.type "complex") = pure false := by rw [isSubtype_type]; kernel_rfl
end F
abbrev sliceO : Obj := { cls := .type "slice", data := .fields #[.none, .none, .none] }
section
variable {prog : Program} {w : World} {A : Around} {E : Value → Shared → Prop} {s : Shared}
theorem sliceParts_none {M : Model} {sl : Addr} {Q : Value × Value × Value → Shared → Prop} (hs : s.heap.get? sl = some sliceO) (h : Q (.none, .none, .none) s) : wpAny M A (Builtin.Bytes.sliceParts (.ref sl)) Q E s := by
  unfold Builtin.Bytes.sliceParts
  refine wpAny_bind (m := field (.ref sl) 2) (wpAny_field hs rfl rfl ?_)
  refine wpAny_bind (wpAny_of_eq (a := .none) rfl ?_)
  refine wpAny_bind (m := field (.ref sl) 0) (wpAny_field hs rfl rfl ?_)
  refine wpAny_bind (wpAny_of_eq (a := .none) rfl ?_)
  refine wpAny_bind (m := field (.ref sl) 1) (wpAny_field hs rfl rfl ?_)
  exact wpAny_bind (wpAny_of_eq (a := .none) rfl (wpAny_pure h))
theorem sliceIdx_none (n : Nat) : sliceIndices .none .none .none n = pure (0, (n : Int), 1) := rfl
theorem payload_ba {M : Model} {y : Addr} {b : Array UInt8} {Q : Array UInt8 → Shared → Prop} (hy : s.heap.get? y = some (baO b)) (h : Q b s) : wpAny M A (Builtin.Bytes.payload (.ref y)) Q E s := by
  unfold Builtin.Bytes.payload Builtin.Bytes.payload?
  refine wpAny_bind (wpAny_bind (wpAny_load hy ?_))
  exact wpAny_pure (wpAny_pure h)
theorem code_ba_setitem {y sl : Addr} {old b : Array UInt8} {t : Tok} {R : Result → Shared → Prop} (hy : s.heap.get? y = some (baO old)) (hs : s.heap.get? sl = some sliceO) (hz : b.size = 4) (ho : old.size = 4)
    (h : ∀ h' f, Grew s.heap h' → f (baO old) = baO b → R (.ok (.ret .none)) { s with heap := h'.update y f }) :
    codeD (model prog w) A (.call (.builtin "bytearray.__setitem__") ⟨[.ref y, .ref sl, .bytes b t], []⟩) R s := by
  have hT : s.TypeIs (.ref y) "bytearray" := ⟨_, hy, rfl⟩
  have hTs : s.TypeIs (.ref sl) "slice" := ⟨_, hs, rfl⟩
  refine codeD_of_tree rfl ?_
  show wpD _ A.in1 (do checkBuiltinCall "bytearray.__setitem__" ⟨[.ref y, .ref sl, .bytes b t], []⟩; again (.builtin "bytearray.__setitem__" ⟨[.ref y, .ref sl, .bytes b t], []⟩)) _ _ s
  refine wpD_bind (wpD_any (F.ba_slot_setitem.check _ _ _ _ _ _ _ _ hT (by trivial) (wpD_pure ⟨plainId_quiet F.ba_plain_setitem _, wpD_builtin (by with_unfolding_all rfl) F.ba_entry_setitem ?_⟩)))
  rw [Around.under_plainId F.ba_plain_setitem _]
  unfold Builtin.«bytearray.__setitem__»
  refine wpD_if_false rfl ?_
  refine wpD_bind (m := Builtin.Bytes.subscript? (.ref sl)) (wpD_any ?_)
  unfold Builtin.Bytes.subscript?
  refine wpAny_bind (wpAny_specialOf hTs F.slice_noindex ?_)
  refine wpAny_pure ?_
  dsimp only
  refine wpD_bind (wpD_any (wpAny_typeOf hTs ?_))
  refine wpD_if_false rfl ?_
  refine wpD_bind (wpD_any (sliceParts_none hs ?_))
  refine wpD_if_false rfl ?_
  refine wpD_bind (wpD_any (wpAny_isInstance_val (T := "bytes") rfl F.bytes_notba ?_))
  refine wpD_holdIf rfl ?_
  refine wpD_bind (wpD_any ?_)
  refine wpAny_bind (wpAny_bind (wpAny_specialOf_val (T := "bytes") rfl F.ba_noindex (wpAny_pure ?_)))
  refine wpAny_bind (wpAny_bind (wpAny_specialOf_val (T := "bytes") rfl F.bytes_noint (wpAny_pure ?_)))
  refine wpAny_bind (wpAny_bind (wpAny_specialOf_val (T := "bytes") rfl F.bytes_nofloat (wpAny_pure ?_)))
  refine wpAny_isInstance_val (T := "bytes") rfl F.bytes_notcomplex ?_
  refine wpD_bind (wpD_any (wpAny_of_eq (a := none) rfl ?_))
  refine wpD_if_false rfl ?_
  refine wpD_bind (wpD_rule ?_)
  refine wpD_bind (call_bytearray (by rw [hz]; decide) fun h₁ S G hS _ => ?_)
  refine wpD_any ?_
  refine wpAny_bind (wpAny_holding (sliceParts_none (s := { s with heap := h₁ }) (G _ _ hs) ?_))
  refine wpAny_bind (payload_ba (s := { s with heap := h₁ }) hS ?_)
  refine wpAny_bind (payload_ba (s := { s with heap := h₁ }) (G _ _ hy) ?_)
  refine wpAny_bind (wpAny_of_eq (sliceIdx_none _) ?_)
  dsimp only
  rw [if_pos (by rfl)]
  refine wpAny_bind (wpAny_rule ?_)
  rw [if_neg (by rw [hz, ho]; decide)]
  refine wpAny_bind (ba_write (s := { s with heap := h₁ }) (G _ _ hy) (by simp [hz, ho]; decide) ?_)
  refine wpAny_pure ?_
  refine h h₁ (Obj.mapBytearray fun b_1 => b_1.extract 0 (Int.toNat 0) ++ b ++ b_1.extract (max 0 (old.size : Int)).toNat) G ?_
  have e1 : old.extract 0 (Int.toNat 0) = #[] := by simp
  have e2 : old.extract (max 0 (old.size : Int)).toNat = #[] := by
    have : (max 0 (old.size : Int)).toNat = old.size := by omega
    rw [this]; simp
  show ({ cls := .type "bytearray", data := .bytearray (old.extract 0 (Int.toNat 0) ++ b ++ old.extract (max 0 (old.size : Int)).toNat) } : Obj) = _
  rw [e1, e2]
  simp
theorem seqKey_ba {M : Model} {y : Addr} {b : Array UInt8} {k : Value} {n : Str} {Q : Value → Shared → Prop} (hy : s.heap.get? y = some (baO b)) (h : Q k s) : wpAny M A (sequenceKey (.ref y) k n) Q E s := by
  unfold sequenceKey
  refine wpAny_bind (wpAny_typeOf ⟨_, hy, rfl⟩ ?_)
  dsimp only
  have e : (!seqItemTypes.contains "bytearray") = true := by decide +kernel
  rw [if_pos e]
  exact wpAny_pure h
theorem setItem_baD {y sl : Addr} {old b : Array UInt8} {t : Tok} {Q : Unit → Shared → Prop} (hy : s.heap.get? y = some (baO old)) (hs : s.heap.get? sl = some sliceO) (hz : b.size = 4) (ho : old.size = 4)
    (h : ∀ h' f, Grew s.heap h' → f (baO old) = baO b → Q () { s with heap := h'.update y f }) :
    wpD (model prog w) A (setItem (.ref y) (.ref sl) (.bytes b t)) Q E s := by
  have hT : s.TypeIs (.ref y) "bytearray" := ⟨_, hy, rfl⟩
  unfold setItem
  refine wpD_holding ?_
  refine wpD_bind (wpD_any (seqKey_ba hy ?_))
  refine wpD_bind ?_
  unfold callSpecial?
  refine wpD_bind (wpD_any (wpAny_specialOf hT F.ba_slot_setitem.lookup ?_))
  refine wpD_holding (wpD_bind (wpD_any (wpAny_of_eq (F.ba_slot_setitem.bind _) ?_)))
  refine wpD_bind (wpD_call (code_ba_setitem hy hs hz ho fun h' f G e => wpD_pure ?_))
  exact wpD_pure (h h' f G e)
theorem wpD_Assign_Subscript {M : Model} {env : Env} {o i value : Expr} {pos' pos : Pos} {Q : Flow → Shared → Prop}
    (h : wpAny M A (eval value env) (fun v s₁ => wpAny M A (eval o env) (fun ov s₂ => wpAny M A (eval i env) (fun iv s₃ => wpD M A (setItem ov iv v) (fun _ => Q .next) E s₃) E s₂) E s₁) E s)
    (hs : swapsWith value (some (.Subscript o i pos')) pos.line env = pure false) : wpD M A (exec (.Assign [.Subscript o i pos'] value pos) env) Q E s := by
  rw [exec_Assign_Subscript o i pos' value pos hs]
  refine wpD_bind (wpD_standAt (wpD_bind (wpD_any (wpAny_mono h (fun v s₁ h₁ => ?_) fun _ _ q => q))))
  rw [assign_Subscript]
  refine wpD_bind (wpD_bind (wpD_any (wpAny_holding (wpAny_mono h₁ (fun ov s₂ h₂ => ?_) fun _ _ q => q))))
  refine wpD_bind (wpD_any (wpAny_holding (wpAny_mono h₂ (fun iv s₃ h₃ => ?_) fun _ _ q => q)))
  refine wpD_bind (wpD_standAt (wpD_bind (wpD_holding (wpD_mono h₃ (fun _ s₄ h₄ => ?_) fun _ _ q => q))))
  exact wpD_any fun Γ p hΓ => by rw [Sem.wp_release]; exact wpD_pure h₄
end
section
variable {prog : Program} {w : World} {A : Around} {E : Value → Shared → Prop} {s : Shared} {h₀ : Heap} {L : Addr} {m : Str → Option Value} {news : List (Addr × Obj)} {Q : Unit → Shared → Prop}
theorem setItem_K {y sl : Addr} {old b : Array UInt8} {t : Tok} (F : Fr h₀ L s.heap m) (N : News h₀ L s.heap ((y, baO old) :: news)) (hs : (sl, sliceO) ∈ news) (hz : b.size = 4) (ho : old.size = 4) (ap : AllAp y news)
    (h : ∀ h', Fr h₀ L h' m → News h₀ L h' ((y, baO b) :: news) → Q () { s with heap := h' }) :
    wpD (model prog w) A (setItem (.ref y) (.ref sl) (.bytes b t)) Q E s := by
  have hy := N (y, baO old) (.head _)
  refine setItem_baD hy.1 (N _ (.tail _ hs)).1 hz ho fun h' f G e => ?_
  have F' := G.fr F
  have N' := G.nws N
  have hsb : Heap.SameBut y h' (h'.update y f) := Heap.SameBut.update ..
  have ge : (h'.update y f).get? y = some (baO b) := by
    have q := Heap.get?_update_self f (N' _ (.head _)).1 (by show (f (baO old)).isFreed = false; rw [e]; rfl)
    rw [q]; exact congrArg some e
  refine h _ (F'.change hsb hy.2.1 hy.2.2) fun p hp => ?_
  rcases List.mem_cons.mp hp with rfl | hp
  · exact ⟨ge, hy.2⟩
  · exact ⟨(hsb.2 _ (AllAp.all ap p hp)).trans (N' p (.tail _ hp)).1, (N' p (.tail _ hp)).2⟩
theorem setItem_push {H : Heap} {g : Array GenState} {d : Drawn} {tk : Nat} {os : OsState} {y : Addr} {old b : Array UInt8} {t : Tok} (F : Fr h₀ L H m) (N : News h₀ L H ((y, baO old) :: news)) (hz : b.size = 4) (ho : old.size = 4) (ap : AllAp y news)
    (h : ∀ h', Fr h₀ L h' m → News h₀ L h' ((y, baO b) :: news) → Q () ⟨h', g, d, tk, os⟩) :
    wpD (model prog w) A (setItem (.ref y) (.ref H.objs.size) (.bytes b t)) Q E ⟨H.push sliceO, g, d, tk, os⟩ := by
  have N' := N.push F sliceO
  have ny : H.objs.size ≠ y := Nat.ne_of_gt (Heap.lt_size (N _ (.head _)).1)
  refine setItem_K (s := ⟨H.push sliceO, g, d, tk, os⟩) (news := (H.objs.size, sliceO) :: news) (F.push _) (newsSub N' fun p hp => ?_) (.head _) hz ho (AllAp.mk ⟨ny⟩ ap) fun h' F' N'' => h h' F' (newsSub N'' fun p hp => ?_)
  · simp only [List.mem_cons] at hp ⊢
    rcases hp with q | q | q <;> simp [q]
  · simp only [List.mem_cons] at hp ⊢
    rcases hp with q | q <;> simp [q]
end
section
variable {prog : Program} {w : World} {p : Program} {loose : List Str} {mean : ExcName → Option Value} {mg mb : Str → Option Value} {dp un : Nat} {gd : Option (List Code)} {cn : Str} {cs : Scope} {a : Addr} {ccd : Value} {cl : List (Str × Addr)} {outer : List Env} {A₀ : Around} {base h₀ : Heap} {L : Addr} {m : Str → Option Value} {s : Shared} {Q E : Value → Shared → Prop} {news : List (Addr × Obj)}
  (B : Below A₀ base outer h₀) (F : Fr h₀ L s.heap m) (X : (Mine.hd.heap_1 w.params).In h₀) (T : Top p loose mean mg mb h₀) (hk : cs.kind = .function)
include B F X T hk
theorem fill_okD {b d y : Addr} {u : Tok} {tb : Nat → Tok} {k hd : Int} {old data : Array UInt8} (N : News h₀ L s.heap ((y, baO old) :: news)) (m1 : (b, instObj 189 d) ∈ news) (m2 : (d, bufD w tb k y hd) ∈ news) (c1 : old.size = 4) (c2 : data.size = 4) (c3 : AllAp y news)
  (hdp : dp + 2 < 500) (hun : un + 16 < 5000)
  (hret : ∀ h' tk', Fr h₀ L h' m → News h₀ L h' ((y, baO data) :: news) → Q .none { s with heap := h', toks := tk' }) :
   wpD (model prog w) (ktrTop dp un gd cn cs L a ccd cl outer) (call (.ref 153) [.ref b, .bytes data u]) Q E s := by
  refine wpD_call ?_
  k_dflt ((refine' code_defD (by k_asm) (by k_asm) (by k_asm) (by k_asm) (by k_asm) (by exact rfl) (by exact rfl) (by assumption) (by k_is) (by k_is) (by ktr_room) (by exact BindsTo.of_eq rfl) (by exact locs rfl) ?_ (by exact rfl) (by exact rfl) (by exact rfl) (by decide); k_whole; intro g'z L'z h'z FG'z F'z N'z B'z X'z T'z; (try dsimp only)))
  refine execs_nextD ?_
  k_steps
  dsimp only
  refine wpD_execs_cons (wpD_Assign_Subscript ?_ rfl)
  k_steps
  k_dflt (refine' setItem_push ?kF ?kN ?kz ?ko ?ka ?_; (case kF => k_asm); (case kN => k_asm); (case kz => k_asm); (case ko => k_asm); (case ka => k_asm))
  intro h' F' N'
  k_sweep
  dsimp only
  refine wpD_any ?_
  k_steps
  all_goals exact hret _ _ (by k_asm) (by k_asm)
end
def MakesRoom (prog : Program) (w : World) (p : Program) (loose : List Str) (mean : ExcName → Option Value) (mg mb : Str → Option Value) (cI rw bn : Addr) (news : List (Addr × Obj)) (items items' : Array Value) (rn : Nat) (ob : Obj) (kvs' : List (Int × Value)) : Prop :=
  ∀ (dp un : Nat) (gd : Option (List Code)) (cn : Str) (cs : Scope) (a : Addr) (ccd : Value) (cl : List (Str × Addr)) (outer : List Env) (A₀ : Around) (base h₀ : Heap) (L : Addr) (m : Str → Option Value) (s : Shared) (Q E : Value → Shared → Prop),
    Below A₀ base outer h₀ → Fr h₀ L s.heap m → (Mine.hd.heap_1 w.params).In h₀ → Top p loose mean mg mb h₀ → cs.kind = .function → News h₀ L s.heap ((rw, listOf items rn) :: (bn, ob) :: news) → dp + 2 < 500 → un + 16 < 5000 →
    (∀ h' tk' rn' ob', Fr h₀ L h' m → News h₀ L h' ((rw, listOf items' rn') :: (bn, ob') :: news) → ob'.IsDictOf (intKind prog w) kvs' → Q .none { s with heap := h', toks := tk' }) →
    wpAny (model prog w) (ktrTop dp un gd cn cs L a ccd cl outer) (call (.ref 235) [.ref cI]) Q E s
section
variable {prog : Program} {w : World} {p : Program} {loose : List Str} {mean : ExcName → Option Value} {mg mb : Str → Option Value} {dp un : Nat} {gd : Option (List Code)} {cn : Str} {cs : Scope} {a : Addr} {ccd : Value} {cl : List (Str × Addr)} {outer : List Env} {A₀ : Around} {base h₀ : Heap} {L : Addr} {m : Str → Option Value} {s : Shared} {Q E : Value → Shared → Prop} {news : List (Addr × Obj)}
theorem makesRoom_use {cI rw bn : Addr} {items items' : Array Value} {rn : Nat} {ob : Obj} {kvs' : List (Int × Value)}
  (B : Below A₀ base outer h₀) (F : Fr h₀ L s.heap m) (X : (Mine.hd.heap_1 w.params).In h₀) (T : Top p loose mean mg mb h₀) (hk : cs.kind = .function) (N : News h₀ L s.heap ((rw, listOf items rn) :: (bn, ob) :: news)) (M : MakesRoom prog w p loose mean mg mb cI rw bn news items items' rn ob kvs')
  (hdp : dp + 2 < 500) (hun : un + 16 < 5000)
  (hret : ∀ h' tk' rn' ob', Fr h₀ L h' m → News h₀ L h' ((rw, listOf items' rn') :: (bn, ob') :: news) → ob'.IsDictOf (intKind prog w) kvs' → Q .none { s with heap := h', toks := tk' }) :
   wpAny (model prog w) (ktrTop dp un gd cn cs L a ccd cl outer) (call (.ref 235) [.ref cI]) Q E s := M _ _ _ _ _ _ _ _ _ _ _ _ _ _ _ _ _ B F X T hk N hdp hun hret
end
section
variable {prog : Program} {w : World} {p : Program} {loose : List Str} {mean : ExcName → Option Value} {mg mb : Str → Option Value} {dp un : Nat} {gd : Option (List Code)} {cn : Str} {cs : Scope} {a : Addr} {ccd : Value} {cl : List (Str × Addr)} {outer : List Env} {A₀ : Around} {base h₀ : Heap} {L : Addr} {m : Str → Option Value} {s : Shared} {Q E : Value → Shared → Prop} {news : List (Addr × Obj)}
  (B : Below A₀ base outer h₀) (F : Fr h₀ L s.heap m) (X : (Mine.hd.heap_1 w.params).In h₀) (T : Top p loose mean mg mb h₀) (hk : cs.kind = .function)
include B F X T hk
theorem buffer_newV {k : Int} {kt : Tok} {v : Value} {data : Array UInt8} (N : News h₀ L s.heap news) (hv : ∃ u, v = .bytes data u) (hsz : data.size = 4)
  (hdp : dp + 2 < 500) (hun : un + 16 < 5000)
  (hret : ∀ h' tk' b d y od, Fr h₀ L h' m → News h₀ L h' ((y, baO data) :: (b, instObj 189 d) :: (d, od) :: news) → IsBufD w od k y 0 → (∀ q ∈ news, q.1 ≠ b ∧ q.1 ≠ d ∧ q.1 ≠ y) → b ≠ d → b ≠ y → d ≠ y → Q (.ref b) { s with heap := h', toks := tk' }) :
   wpD (model prog w) (ktrTop dp un gd cn cs L a ccd cl outer) (call (.ref 189) [.int k kt, v]) Q E s := by
  obtain ⟨u, rfl⟩ := hv
  exact buffer_new B F X T hk N hsz hdp hun hret
theorem get_missD {cI cD kI kD rw bn kept lt uf : Addr} {tc tk : Nat → Tok} {hits reads writes dw k : Int} {kt : Tok} {items items' : Array Value} {rn : Nat} {ob ol : Obj} {kvs kvs' lvs : List (Int × Value)} {xv : Option Value} {dat : Array UInt8}
  (N : News h₀ L s.heap ((rw, listOf items rn) :: (bn, ob) :: (cD, cacheD w tc kI rw bn hits reads writes) :: news)) (m1 : (cI, instObj 304 cD) ∈ news) (m2 : (kI, instObj 402 kD) ∈ news) (m3 : (kD, diskD w tk kept lt uf dw) ∈ news) (m4 : (lt, ol) ∈ news)
  (MR : MakesRoom prog w p loose mean mg mb cI rw bn ((cD, cacheD w tc kI rw bn hits reads writes) :: news) items items' rn ob kvs')
  (c1 : ob.IsDictOf (intKind prog w) kvs) (c2 : (bn == sysModules) = false) (c3 : valueAt kvs k = none) (c4 : 0 ≤ k) (c5 : k < 6) (c6 : ol.IsDictOf (intKind prog w) lvs) (c7 : (lt == sysModules) = false) (c8 : valueAt lvs k = xv) (c9 : ∀ t, ∃ u, xv.getD (.bytes #[0, 0, 0, 0] t) = .bytes dat u) (c10 : dat.size = 4) (c11 : kvs'.length ≤ sizeLine) (c12 : items'.size < 100)
  (a1 : Apart rw bn) (a2 : Apart rw cD) (a3 : Apart bn cD) (a4 : AllAp rw news) (a5 : AllAp bn news) (a6 : AllAp cD news)
  (hdp : dp + 5 < 500) (hun : un + 48 < 5000)
  (hret : ∀ h' tk' b d y od oc rn' ob', Fr h₀ L h' m → News h₀ L h' ((y, baO dat) :: (b, instObj 189 d) :: (d, od) :: (rw, listOf (items'.push (.ref b)) rn') :: (bn, ob') :: (cD, oc) :: news) → IsBufD w od k y 1 → ob'.IsDictOf (intKind prog w) (stored kvs' k (.ref b)) → IsCacheD w oc kI rw bn hits (reads + 1) writes → (∀ q ∈ ((rw, listOf items rn) :: (bn, ob) :: (cD, cacheD w tc kI rw bn hits reads writes) :: news), q.1 ≠ b ∧ q.1 ≠ d ∧ q.1 ≠ y) → b ≠ d → b ≠ y → d ≠ y → Q (.ref b) { s with heap := h', toks := tk' }) :
   wpD (model prog w) (ktrTop dp un gd cn cs L a ccd cl outer) (call (.ref 228) [.ref cI, .int k kt]) Q E s := by
  refine wpD_call ?_
  k_dflt ((refine' code_defD (by k_asm) (by k_asm) (by k_asm) (by k_asm) (by k_asm) (by exact rfl) (by exact rfl) (by assumption) (by k_is) (by k_is) (by ktr_room) (by exact BindsTo.of_eq rfl) (by exact locs rfl) ?_ (by exact rfl) (by exact rfl) (by exact rfl) (by decide); k_whole; intro g'z L'z h'z FG'z F'z N'z B'z X'z T'z; (try dsimp only)))
  refine execs_nextD ?_
  k_steps
  dsimp only
  refine execs_nextD ?_
  k_steps
  refine wpD_execs_cons (wpD_If (wpD_any ?_))
  k_steps
  refine execs_nextD ?_
  k_steps
  any_goals ((with_reducible show wpAny _ _ (call (Value.ref 235) _ _) _ _ _); k_dflt (refine' makesRoom_use (by k_asm) (by k_asm) (by k_asm) (by k_asm) (by walk_at "r") (by k_asm) (by assumption) (by walk_at "h") (by walk_at "h") ?_; k_whole); intro h' tk' rn' ob' F' N' d'; (try k_sweep))
  k_steps
  dsimp only
  refine wpD_execs_cons (wpD_Assign_Name (wpD_nameCall ?_) rfl)
  k_steps
  k_dflt (refine' callWith_KD ?k1 ?k2 ?_; (case k1 => k_asm); (case k2 => k_is); k_whole)
  k_steps
  any_goals ((with_reducible show wpAny _ _ (call (Value.ref 343) _ _) _ _ _); k_dflt (refine' disk_read_ok (by k_asm) (by k_asm) (by k_asm) (by k_asm) (by walk_at "r") (by k_asm) (by k_mem) (by k_mem) (by k_mem) (by walk_at "c") (by walk_at "c") (by walk_at "c") (by walk_at "c") (by walk_at "c") (by walk_at "h") (by walk_at "h") ?_; k_whole); intro h'z tk'z t'z F'z N'z; (try k_sweep))
  k_steps
  k_dflt (refine' buffer_newV ?kB ?kF ?kX ?kT ?kk ?kN ?kv ?kz ?hdp ?hun ?_; (case kB => k_asm); (case kF => k_asm); (case kX => k_asm); (case kT => k_asm); (case kk => rfl); (case kN => k_asm); (case kv => exact c9 _); (case kz => exact c10); (case hdp => first | omega | (dsimp only [ktrTop, Around.deeper, Around.in1]; omega)); (case hun => first | omega | (dsimp only [ktrTop, Around.deeper, Around.in1]; omega)); k_whole)
  intro h' tk' b' d' y' od' F' N' hb' ny' e1 e2 e3
  rcases hb' with ⟨tb', rfl⟩
  k_sweep
  have p1 : Apart y' b' := ⟨e2.symm⟩
  have p2 : Apart y' d' := ⟨e3.symm⟩
  have p3 : Apart b' d' := ⟨e1⟩
  have q1 := ny' (rw, _) (.head _)
  have q2 := ny' (bn, _) (.tail _ (.head _))
  have q3 := ny' (cD, _) (.tail _ (.tail _ (.head _)))
  have p4 : Apart rw b' := ⟨q1.1⟩
  have p5 : Apart rw d' := ⟨q1.2.1⟩
  have p6 : Apart rw y' := ⟨q1.2.2⟩
  have p7 : Apart bn b' := ⟨q2.1⟩
  have p8 : Apart bn d' := ⟨q2.2.1⟩
  have p9 : Apart bn y' := ⟨q2.2.2⟩
  have p10 : Apart cD b' := ⟨q3.1⟩
  have p11 : Apart cD d' := ⟨q3.2.1⟩
  have p12 : Apart cD y' := ⟨q3.2.2⟩
  have ny9 : ∀ q ∈ news, q.1 ≠ b' ∧ q.1 ≠ d' ∧ q.1 ≠ y' := fun q hq => ny' q (.tail _ (.tail _ (.tail _ hq)))
  have p13 : AllAp d' news := allAp_of fun q hq => (ny9 q hq).2.1
  clear q1 q2 q3
  k_steps
  refine wpD_any ?_
  k_steps
  dsimp only
  refine wpD_any ?_
  k_steps
  all_goals exact hret _ _ b' d' y' _ _ _ _ (by k_asm) (by k_asm) isBufD_mk (by k_asm) isCacheD_mk (fun q hq => by
    simp only [List.mem_cons] at hq
    rcases hq with rfl | rfl | rfl | hq
    · exact ⟨p4.ne, p5.ne, p6.ne⟩
    · exact ⟨p7.ne, p8.ne, p9.ne⟩
    · exact ⟨p10.ne, p11.ne, p12.ne⟩
    · exact ny9 q hq) e1 e2 e3
end
structure Ids where
  (cI cD kI kD rw bn kept lt uf : Addr)
structure Buf where
  (b d y : Addr)
  (k hd : Int)
  (data : Array UInt8)
structure CSt where
  (row : List Buf)
  (hits reads writes dw : Int)
  (us : Array Value)
  (lat : Int → Option (Array UInt8))
  (nb : Nat)
def Ids.all (I : Ids) : List Addr := [I.cI, I.cD, I.kI, I.kD, I.rw, I.bn, I.lt, I.uf]
def Buf.all (B : Buf) : List Addr := [B.b, B.d, B.y]
structure RowOk (I : Ids) (row : List Buf) : Prop where
  idb : ∀ B ∈ row, ∀ a ∈ B.all, a ∉ I.all
  bn1 : ∀ B ∈ row, B.b ≠ B.d ∧ B.b ≠ B.y ∧ B.d ≠ B.y
  bb : ∀ B ∈ row, ∀ B' ∈ row, B.k ≠ B'.k → ∀ a ∈ B.all, a ∉ B'.all
  keys : (row.map (·.k)).Nodup
  len : row.length ≤ 3
  rng : ∀ B ∈ row, 0 ≤ B.k ∧ B.k < 6
structure Rep (prog : Program) (w : World) (I : Ids) (l : List (Addr × Obj)) (σ : CSt) : Prop where
  nd : (l.map (·.1)).Nodup
  idn : I.all.Nodup
  rok : RowOk I σ.row
  mcI : (I.cI, instObj 304 I.cD) ∈ l
  mcD : ∃ t, (I.cD, cacheD w t I.kI I.rw I.bn σ.hits σ.reads σ.writes) ∈ l
  mkI : (I.kI, instObj 402 I.kD) ∈ l
  mkD : ∃ t, (I.kD, diskD w t I.kept I.lt I.uf σ.dw) ∈ l
  mrw : ∃ n, (I.rw, listOf (σ.row.map fun B => Value.ref B.b).toArray n) ∈ l
  mbn : ∃ ob kvs, (I.bn, ob) ∈ l ∧ ob.IsDictOf (intKind prog w) kvs ∧ kvs.length ≤ σ.nb ∧ ∀ k, valueAt kvs k = (σ.row.find? (fun B => decide (B.k = k))).map fun B => Value.ref B.b
  mlt : ∃ ol lvs, (I.lt, ol) ∈ l ∧ ol.IsDictOf (intKind prog w) lvs ∧ lvs.length ≤ σ.us.size ∧ ∀ k, match σ.lat k with | none => valueAt lvs k = none | some d => ∃ t, valueAt lvs k = some (.bytes d t)
  muf : ∃ n, (I.uf, listOf σ.us n) ∈ l
  bufs : ∀ B ∈ σ.row, (B.b, instObj 189 B.d) ∈ l ∧ (∃ t, (B.d, bufD w t B.k B.y B.hd) ∈ l) ∧ (B.y, baO B.data) ∈ l ∧ B.data.size = 4
  low1 : (I.bn == sysModules) = false
  low2 : (I.lt == sysModules) = false
  szl : ∀ k d, σ.lat k = some d → d.size = 4
  usr : ∀ v ∈ σ.us.toList, ∃ a, v = .ref a
/-- the addresses of what the cache turns -/
def mutOf (I : Ids) (σ : CSt) : List Addr := I.all ++ σ.row.flatMap Buf.all
/-- whatever else stood stands yet -/
def Keep (I : Ids) (l : List (Addr × Obj)) (σ : CSt) (l' : List (Addr × Obj)) (σ' : CSt) : Prop := ∀ p ∈ l, p.1 ∉ mutOf I σ → p ∈ l' ∧ p.1 ∉ mutOf I σ'
theorem Keep.refl {I : Ids} {l : List (Addr × Obj)} {σ : CSt} : Keep I l σ l σ := fun _ h q => ⟨h, q⟩
theorem Keep.trans {I : Ids} {l l' l'' : List (Addr × Obj)} {σ σ' σ'' : CSt} (x : Keep I l σ l' σ') (y : Keep I l' σ' l'' σ'') : Keep I l σ l'' σ'' := fun p h q => y p (x p h q).1 (x p h q).2
def rem (l : List (Addr × Obj)) (ks : List Addr) : List (Addr × Obj) := l.filter fun p => decide (p.1 ∉ ks)
theorem mem_rem {l : List (Addr × Obj)} {ks : List Addr} {p : Addr × Obj} : p ∈ rem l ks ↔ p ∈ l ∧ p.1 ∉ ks := by simp [rem]
theorem allAp_rem {l : List (Addr × Obj)} {ks : List Addr} {a : Addr} (h : a ∈ ks) : AllAp a (rem l ks) := allAp_of fun p hp e => (mem_rem.mp hp).2 (e ▸ h)
theorem rem_keys {l : List (Addr × Obj)} {ks : List Addr} : ∀ a ∈ (rem l ks).map (·.1), a ∉ ks := fun a ha => by
  obtain ⟨p, hp, rfl⟩ := List.mem_map.mp ha
  exact (mem_rem.mp hp).2
theorem rem_nodup {l : List (Addr × Obj)} {ks : List Addr} (h : (l.map (·.1)).Nodup) : ((rem l ks).map (·.1)).Nodup := by
  have := List.Sublist.map (·.1) (List.filter_sublist (l := l) (p := fun p => decide (p.1 ∉ ks)))
  exact this.nodup h
theorem put_nodup {l es : List (Addr × Obj)} {ks : List Addr} (h : (l.map (·.1)).Nodup) (he : es.map (·.1) = ks) (hk : ks.Nodup) : ((es ++ rem l ks).map (·.1)).Nodup := by
  rw [List.map_append, List.nodup_append, he]
  refine ⟨hk, rem_nodup h, fun a ha b hb e => ?_⟩
  exact rem_keys b hb (e ▸ ha)
theorem newsPut {h₀ h : Heap} {L : Addr} {l es : List (Addr × Obj)} {ks : List Addr} (N : News h₀ L h l) (he : ∀ p ∈ es, p ∈ l) : News h₀ L h (es ++ rem l ks) := newsSub N fun p hp => by
  rcases List.mem_append.mp hp with q | q
  · exact he p q
  · exact (mem_rem.mp q).1
theorem memPut {l es : List (Addr × Obj)} {ks : List Addr} {p : Addr × Obj} (h : p ∈ l) (hk : p.1 ∉ ks) : p ∈ es ++ rem l ks := List.mem_append_right _ (mem_rem.mpr ⟨h, hk⟩)
theorem key_uniq {l : List (Addr × Obj)} (nd : (l.map (·.1)).Nodup) {a : Addr} {o o' : Obj} (h : (a, o) ∈ l) (h' : (a, o') ∈ l) : o = o' := by
  induction l with
  | nil => exact nomatch h
  | cons p r ih =>
    rw [List.map_cons, List.nodup_cons] at nd
    rcases List.mem_cons.mp h with e | h1
    · rcases List.mem_cons.mp h' with e' | h2
      · exact (Prod.mk.inj (e.trans e'.symm)).2
      · exact absurd (by rw [← e]; exact List.mem_map_of_mem (f := (·.1)) h2) nd.1
    · rcases List.mem_cons.mp h' with e' | h2
      · exact absurd (by rw [← e']; exact List.mem_map_of_mem (f := (·.1)) h1) nd.1
      · exact ih nd.2 h1 h2
section
variable {prog : Program} {w : World} {I : Ids} {l : List (Addr × Obj)} {σ : CSt}
theorem Rep.nx (r : Rep prog w I l σ) : I.cD ≠ I.kD ∧ I.cD ≠ I.rw ∧ I.cD ≠ I.bn ∧ I.cD ≠ I.lt ∧ I.cD ≠ I.uf ∧ I.kD ≠ I.rw ∧ I.kD ≠ I.bn ∧ I.kD ≠ I.lt ∧ I.kD ≠ I.uf ∧ I.rw ≠ I.bn ∧ I.rw ≠ I.lt ∧ I.rw ≠ I.uf ∧ I.bn ≠ I.lt ∧ I.bn ≠ I.uf ∧ I.lt ≠ I.uf := by
  have := r.idn
  simp only [Ids.all, List.nodup_cons, List.mem_cons, not_or, List.not_mem_nil, not_false_eq_true, List.nodup_nil, and_true] at this
  obtain ⟨_, ⟨a1, a2, a3, a4, a5, a6⟩, _, ⟨b1, b2, b3, b4⟩, ⟨c1, c2, c3⟩, ⟨d1, d2⟩, e1⟩ := this
  exact ⟨a2, a3, a4, a5, a6, b1, b2, b3, b4, c1, c2, c3, d1, d2, e1⟩
theorem Rep.ni (r : Rep prog w I l σ) : I.cI ≠ I.cD ∧ I.cI ≠ I.kD ∧ I.cI ≠ I.rw ∧ I.cI ≠ I.bn ∧ I.cI ≠ I.lt ∧ I.cI ≠ I.uf ∧ I.kI ≠ I.cD ∧ I.kI ≠ I.kD ∧ I.kI ≠ I.rw ∧ I.kI ≠ I.bn ∧ I.kI ≠ I.lt ∧ I.kI ≠ I.uf := by
  have := r.idn
  simp only [Ids.all, List.nodup_cons, List.mem_cons, not_or, List.not_mem_nil, not_false_eq_true, List.nodup_nil, and_true] at this
  obtain ⟨⟨z1, z2, z3, z4, z5, z6, z7⟩, ⟨a1, a2, a3, a4, a5, a6⟩, ⟨y1, y2, y3, y4, y5⟩, ⟨b1, b2, b3, b4⟩, ⟨c1, c2, c3⟩, ⟨d1, d2⟩, e1⟩ := this
  exact ⟨z1, z3, z4, z5, z6, z7, Ne.symm a1, y1, y2, y3, y4, y5⟩
theorem Rep.nb (r : Rep prog w I l σ) {B : Buf} (hB : B ∈ σ.row) {a : Addr} (ha : a ∈ B.all) : a ≠ I.cI ∧ a ≠ I.cD ∧ a ≠ I.kI ∧ a ≠ I.kD ∧ a ≠ I.rw ∧ a ≠ I.bn ∧ a ≠ I.lt ∧ a ≠ I.uf := by
  have := r.rok.idb B hB a ha
  simp only [Ids.all, List.mem_cons, not_or, List.not_mem_nil, not_false_eq_true, and_true] at this
  exact this
theorem Buf.memb (B : Buf) : B.b ∈ B.all := .head _
theorem Buf.memd (B : Buf) : B.d ∈ B.all := .tail _ (.head _)
theorem Buf.memy (B : Buf) : B.y ∈ B.all := .tail _ (.tail _ (.head _))
theorem keys_eq {row : List Buf} (h : (row.map (·.k)).Nodup) {B B' : Buf} (hB : B ∈ row) (hB' : B' ∈ row) (e : B.k = B'.k) : B = B' := by
  induction row with
  | nil => exact nomatch hB
  | cons p r ih =>
    rw [List.map_cons, List.nodup_cons] at h
    rcases List.mem_cons.mp hB with e1 | h1
    · rcases List.mem_cons.mp hB' with e2 | h2
      · exact e1.trans e2.symm
      · exact absurd (List.mem_map.mpr ⟨B', h2, by rw [← e, e1]⟩) h.1
    · rcases List.mem_cons.mp hB' with e2 | h2
      · exact absurd (List.mem_map.mpr ⟨B, h1, by rw [e, e2]⟩) h.1
      · exact ih h.2 h1 h2
theorem find_key {row : List Buf} (h : (row.map (·.k)).Nodup) {B : Buf} (hB : B ∈ row) : row.find? (fun B' => decide (B'.k = B.k)) = some B := by
  cases q : row.find? (fun B' => decide (B'.k = B.k)) with
  | none => exact absurd (List.find?_eq_none.mp q B hB) (by simp)
  | some B' => exact congrArg some (keys_eq h (List.mem_of_find?_eq_some q) hB (by simpa using List.find?_some q))
theorem find_none {row : List Buf} {k : Int} (h : ∀ B ∈ row, B.k ≠ k) : row.find? (fun B' => decide (B'.k = k)) = none := List.find?_eq_none.mpr fun B hB => by simpa using h B hB
end

def upd (row : List Buf) (k : Int) (f : Buf → Buf) : List Buf := row.map fun B => if B.k = k then f B else B
structure SameId (f : Buf → Buf) : Prop where
  b : ∀ B, (f B).b = B.b
  d : ∀ B, (f B).d = B.d
  y : ∀ B, (f B).y = B.y
  k : ∀ B, (f B).k = B.k
theorem SameId.all {f : Buf → Buf} (h : SameId f) (B : Buf) : (f B).all = B.all := by simp only [Buf.all, h.b, h.d, h.y]
theorem SameId.ite {f : Buf → Buf} (h : SameId f) (k : Int) : SameId fun B => if B.k = k then f B else B :=
  ⟨fun B => by split; exact h.b B; rfl, fun B => by split; exact h.d B; rfl, fun B => by split; exact h.y B; rfl, fun B => by split; exact h.k B; rfl⟩
theorem map_b {row : List Buf} {f : Buf → Buf} (h : SameId f) : (row.map f).map (fun B => Value.ref B.b) = row.map fun B => Value.ref B.b := by
  rw [List.map_map]; exact List.map_congr_left fun B _ => by simp [h.b]
theorem map_k {row : List Buf} {f : Buf → Buf} (h : SameId f) : (row.map f).map (·.k) = row.map (·.k) := by
  rw [List.map_map]; exact List.map_congr_left fun B _ => by simp [h.k]
theorem map_find {row : List Buf} {f : Buf → Buf} (h : SameId f) (k : Int) : ((row.map f).find? (fun B => decide (B.k = k))).map (fun B => Value.ref B.b) = (row.find? (fun B => decide (B.k = k))).map fun B => Value.ref B.b := by
  induction row with
  | nil => rfl
  | cons p r ih =>
    simp only [List.map_cons, List.find?_cons, h.k]
    by_cases q : p.k = k
    · simp [q, h.b]
    · rw [decide_eq_false q]; exact ih
theorem RowOk.map {I : Ids} {row : List Buf} {f : Buf → Buf} (r : RowOk I row) (h : SameId f) : RowOk I (row.map f) where
  idb := fun B hB a ha => by
    obtain ⟨B0, h0, rfl⟩ := List.mem_map.mp hB
    rw [h.all] at ha; exact r.idb B0 h0 a ha
  bn1 := fun B hB => by
    obtain ⟨B0, h0, rfl⟩ := List.mem_map.mp hB
    rw [h.b, h.d, h.y]; exact r.bn1 B0 h0
  bb := fun B hB B' hB' e a ha => by
    obtain ⟨B0, h0, rfl⟩ := List.mem_map.mp hB
    obtain ⟨B1, h1, rfl⟩ := List.mem_map.mp hB'
    rw [h.k, h.k] at e
    rw [h.all] at ha ⊢
    exact r.bb B0 h0 B1 h1 e a ha
  keys := by rw [map_k h]; exact r.keys
  len := by rw [List.length_map]; exact r.len
  rng := fun B hB => by
    obtain ⟨B0, h0, rfl⟩ := List.mem_map.mp hB
    rw [h.k]; exact r.rng B0 h0
theorem RowOk.sub {I : Ids} {row row' : List Buf} (r : RowOk I row) (h : List.Sublist row' row) : RowOk I row' where
  idb := fun B hB => r.idb B (h.subset hB)
  bn1 := fun B hB => r.bn1 B (h.subset hB)
  bb := fun B hB B' hB' => r.bb B (h.subset hB) B' (h.subset hB')
  keys := (h.map _).nodup r.keys
  len := Nat.le_trans h.length_le r.len
  rng := fun B hB => r.rng B (h.subset hB)
theorem RowOk.push {I : Ids} {row : List Buf} (r : RowOk I row) {B : Buf} (h1 : ∀ a ∈ B.all, a ∉ I.all) (h2 : B.b ≠ B.d ∧ B.b ≠ B.y ∧ B.d ≠ B.y) (h3 : ∀ B' ∈ row, ∀ a ∈ B.all, a ∉ B'.all) (h4 : ∀ B' ∈ row, B'.k ≠ B.k) (h5 : row.length < 3) (h6 : 0 ≤ B.k ∧ B.k < 6) : RowOk I (row ++ [B]) where
  idb := fun B' hB' => by
    rcases List.mem_append.mp hB' with q | q
    · exact r.idb B' q
    · rw [List.mem_singleton.mp q]; exact h1
  bn1 := fun B' hB' => by
    rcases List.mem_append.mp hB' with q | q
    · exact r.bn1 B' q
    · rw [List.mem_singleton.mp q]; exact h2
  bb := fun B' hB' B'' hB'' e a ha hn => by
    rcases List.mem_append.mp hB' with q | q
    · rcases List.mem_append.mp hB'' with q' | q'
      · exact r.bb B' q B'' q' e a ha hn
      · rw [List.mem_singleton.mp q'] at hn; exact h3 B' q a hn ha
    · rcases List.mem_append.mp hB'' with q' | q'
      · rw [List.mem_singleton.mp q] at ha; exact h3 B'' q' a ha hn
      · rw [List.mem_singleton.mp q, List.mem_singleton.mp q'] at e; exact e rfl
  keys := by
    rw [List.map_append, List.nodup_append]
    refine ⟨r.keys, by simp, fun a ha b hb e => ?_⟩
    obtain ⟨B', hB', rfl⟩ := List.mem_map.mp ha
    simp only [List.map_cons, List.map_nil, List.mem_singleton] at hb
    exact h4 B' hB' (e.trans hb)
  len := by rw [List.length_append]; simp; omega
  rng := fun B' hB' => by
    rcases List.mem_append.mp hB' with q | q
    · exact r.rng B' q
    · rw [List.mem_singleton.mp q]; exact h6
theorem mem_upd {row : List Buf} (hn : (row.map (·.k)).Nodup) {B B' : Buf} {f : Buf → Buf} (hB : B ∈ row) : B' ∈ upd row B.k f ↔ B' = f B ∨ (B' ∈ row ∧ B'.k ≠ B.k) := by
  unfold upd
  rw [List.mem_map]
  constructor
  · rintro ⟨B0, h0, rfl⟩
    by_cases e : B0.k = B.k
    · rw [if_pos e, keys_eq hn h0 hB e]; exact .inl rfl
    · rw [if_neg e]; exact .inr ⟨h0, e⟩
  · rintro (rfl | ⟨h, e⟩)
    · exact ⟨B, hB, by rw [if_pos rfl]⟩
    · exact ⟨B', h, by rw [if_neg e]⟩
def CSt.hit (σ : CSt) (U : Buf) : CSt := { σ with row := upd σ.row U.k fun B => { B with hd := B.hd + 1 }, hits := σ.hits + 1 }
theorem sameId_hd (f : Int → Int) : SameId fun B => { B with hd := f B.hd } := ⟨fun _ => rfl, fun _ => rfl, fun _ => rfl, fun _ => rfl⟩
theorem sameId_data (d : Array UInt8) : SameId fun B => { B with data := d } := ⟨fun _ => rfl, fun _ => rfl, fun _ => rfl, fun _ => rfl⟩
theorem RowOk.upd {I : Ids} {row : List Buf} {f : Buf → Buf} {k : Int} (r : RowOk I row) (h : SameId f) : RowOk I (Mine.upd row k f) := r.map (h.ite k)
theorem mutOf_mem {I : Ids} {σ : CSt} {a : Addr} (h : a ∉ mutOf I σ) : a ∉ I.all ∧ ∀ B ∈ σ.row, a ∉ B.all := by
  unfold mutOf at h
  rw [List.mem_append, not_or] at h
  exact ⟨h.1, fun B hB ha => h.2 (List.mem_flatMap.mpr ⟨B, hB, ha⟩)⟩
theorem mutOf_not {I : Ids} {σ : CSt} {a : Addr} (h : a ∉ I.all) (h2 : ∀ B ∈ σ.row, a ∉ B.all) : a ∉ mutOf I σ := by
  unfold mutOf
  rw [List.mem_append, not_or]
  exact ⟨h, fun ha => by obtain ⟨B, hB, q⟩ := List.mem_flatMap.mp ha; exact h2 B hB q⟩
theorem Ids.nmem {I : Ids} {a : Addr} (h : a ∉ I.all) : a ≠ I.cI ∧ a ≠ I.cD ∧ a ≠ I.kI ∧ a ≠ I.kD ∧ a ≠ I.rw ∧ a ≠ I.bn ∧ a ≠ I.lt ∧ a ≠ I.uf := by
  simp only [Ids.all, List.mem_cons, not_or, List.not_mem_nil, not_false_eq_true, and_true] at h
  exact h
theorem Buf.nmem {U : Buf} {a : Addr} (h : a ∉ U.all) : a ≠ U.b ∧ a ≠ U.d ∧ a ≠ U.y := by
  simp only [Buf.all, List.mem_cons, not_or, List.not_mem_nil, not_false_eq_true, and_true] at h
  exact h
/-- another buffer's addresses -/
theorem RowOk.ne {I : Ids} {row : List Buf} (r : RowOk I row) {B U : Buf} (hB : B ∈ row) (hU : U ∈ row) (e : B.k ≠ U.k) {a : Addr} (ha : a ∈ B.all) : a ≠ U.b ∧ a ≠ U.d ∧ a ≠ U.y := Buf.nmem (r.bb B hB U hU e a ha)
section
variable {prog : Program} {w : World} {p : Program} {loose : List Str} {mean : ExcName → Option Value} {mg mb : Str → Option Value} {dp un : Nat} {gd : Option (List Code)} {cn : Str} {cs : Scope} {a : Addr} {ccd : Value} {cl : List (Str × Addr)} {outer : List Env} {A₀ : Around} {base h₀ : Heap} {L : Addr} {m : Str → Option Value} {s : Shared} {Q E : Value → Shared → Prop} {l : List (Addr × Obj)} {I : Ids} {σ : CSt} {U : Buf}
  (B : Below A₀ base outer h₀) (F : Fr h₀ L s.heap m) (X : (Mine.hd.heap_1 w.params).In h₀) (T : Top p loose mean mg mb h₀) (hk : cs.kind = .function)
include B F X T hk
theorem get_hitR {kt : Tok} (N : News h₀ L s.heap l) (r : Rep prog w I l σ) (hU : U ∈ σ.row) (hdp : dp + 2 < 500) (hun : un + 16 < 5000)
  (hret : ∀ h' tk' l', Fr h₀ L h' m → News h₀ L h' l' → Rep prog w I l' (σ.hit U) → Keep I l σ l' (σ.hit U) → Q (.ref U.b) { s with heap := h', toks := tk' }) :
   wpAny (model prog w) (ktrTop dp un gd cn cs L a ccd cl outer) (call (.ref 228) [.ref I.cI, .int U.k kt]) Q E s := by
  obtain ⟨tc, mcD⟩ := r.mcD
  obtain ⟨tk, mkD⟩ := r.mkD
  obtain ⟨ob, kvs, mbn, dbn, lbn, vbn⟩ := r.mbn
  obtain ⟨mb', ⟨tb, md⟩, my, hsz⟩ := r.bufs U hU
  obtain ⟨u1, u2, u3, u4, u5, u6, u7, u8⟩ := r.nb hU U.memd
  obtain ⟨v1, v2, v3, v4, v5, v6, v7, v8⟩ := r.nb hU U.memb
  obtain ⟨z1, z2, z3, z4, z5, z6, z7⟩ := r.ni
  obtain ⟨x1, x2, x3, x4, x5, x6, _⟩ := r.nx
  obtain ⟨n1, n2, n3⟩ := r.rok.bn1 U hU
  obtain ⟨w1, w2, w3, w4, w5, w6, w7, w8⟩ := r.nb hU U.memy
  have put : ∀ q ∈ l, q.1 ≠ I.cD → q.1 ≠ U.d → ∀ es : List (Addr × Obj), q ∈ es ++ rem l [I.cD, U.d] := fun q hq e1 e2 es => memPut hq (by simp [e1, e2])
  have inr : ∀ q ∈ l, q.1 ≠ I.cD → q.1 ≠ U.d → q ∈ rem l [I.cD, U.d] := fun q hq e1 e2 => mem_rem.mpr ⟨hq, by simp [e1, e2]⟩
  refine get_hit B F X T hk (news := rem l [I.cD, U.d]) (newsPut (es := [(I.cD, _), (U.d, _)]) N (by intro q hq; simp only [List.mem_cons, List.not_mem_nil, or_false] at hq; rcases hq with rfl | rfl; exact mcD; exact md))
    (inr _ r.mcI z1 (Ne.symm u1)) (inr _ r.mkI z7.1 (Ne.symm u3)) (inr _ mkD (Ne.symm x1) (Ne.symm u4)) (inr _ mbn (Ne.symm x3) (Ne.symm u6)) (inr _ mb' v2 n1) dbn r.low1 (by rw [vbn, find_key r.rok.keys hU]; rfl) (r.rok.rng U hU).1 (r.rok.rng U hU).2
    ⟨Ne.symm u2⟩ (allAp_rem (by simp)) (allAp_rem (by simp)) hdp hun fun h' tk' oc od F' N' hc hd => ?_
  refine hret h' tk' _ F' N' ?_ ?_
  · have rok' : RowOk I (σ.hit U).row := r.rok.upd (sameId_hd (· + 1))
    refine ⟨put_nodup (es := [(I.cD, oc), (U.d, od)]) r.nd rfl (by simp [Ne.symm u2]), r.idn, rok', put _ r.mcI z1 (Ne.symm u1) [_, _], ?_, put _ r.mkI z7.1 (Ne.symm u3) [_, _], ⟨tk, put _ mkD (Ne.symm x1) (Ne.symm u4) [_, _]⟩, ?_, ?_, ?_, ?_, ?_, r.low1, r.low2, r.szl, r.usr⟩
    · obtain ⟨t, rfl⟩ := hc; exact ⟨t, .head _⟩
    · obtain ⟨n, hn⟩ := r.mrw
      exact ⟨n, by show (_, listOf ((Mine.upd σ.row U.k _).map _).toArray _) ∈ _; unfold Mine.upd; rw [map_b ((sameId_hd (· + 1)).ite U.k)]; exact put _ hn (Ne.symm x2) (Ne.symm u5) [_, _]⟩
    · exact ⟨ob, kvs, put _ mbn (Ne.symm x3) (Ne.symm u6) [_, _], dbn, lbn, fun k => by rw [vbn]; exact (map_find ((sameId_hd (· + 1)).ite U.k) k).symm⟩
    · obtain ⟨ol, lvs, ml, dl, ll, vl⟩ := r.mlt
      exact ⟨ol, lvs, put _ ml (Ne.symm x4) (Ne.symm u7) [_, _], dl, ll, vl⟩
    · obtain ⟨n, hn⟩ := r.muf
      exact ⟨n, put _ hn (Ne.symm x5) (Ne.symm u8) [_, _]⟩
    · intro V hV
      rcases (mem_upd r.rok.keys hU).mp hV with rfl | ⟨hV, e⟩
      · obtain ⟨t, rfl⟩ := hd
        exact ⟨put _ mb' v2 n1 [_, _], ⟨t, .tail _ (.head _)⟩, put _ my w2 (Ne.symm n3) [_, _], hsz⟩
      · obtain ⟨q1, ⟨t, q2⟩, q3, q4⟩ := r.bufs V hV
        exact ⟨put _ q1 (r.nb hV V.memb).2.1 (r.rok.ne hV hU e V.memb).2.1 [_, _], ⟨t, put _ q2 (r.nb hV V.memd).2.1 (r.rok.ne hV hU e V.memd).2.1 [_, _]⟩, put _ q3 (r.nb hV V.memy).2.1 (r.rok.ne hV hU e V.memy).2.1 [_, _], q4⟩
  · intro q hq hn
    obtain ⟨h1, h2⟩ := mutOf_mem hn
    refine ⟨put _ hq (Ids.nmem h1).2.1 (Buf.nmem (h2 U hU)).2.1 [_, _], mutOf_not h1 fun V hV => ?_⟩
    obtain ⟨V0, hV0, rfl⟩ := List.mem_map.mp hV
    rw [((sameId_hd (· + 1)).ite U.k).all]; exact h2 V0 hV0
end
theorem valueAt_stored {kvs : List (Int × Value)} {k j : Int} {v : Value} : valueAt (stored kvs k v) j = if j = k then some v else valueAt kvs j := by
  unfold stored
  split
  · rename_i h
    induction kvs with
    | nil => simp at h
    | cons p r ih =>
      unfold valueAt at *
      simp only [List.map_cons, List.find?_cons]
      by_cases q : p.1 = k
      · subst q
        by_cases e : j = p.1
        · subst e; simp
        · have e' : ¬ p.1 = j := fun z => e z.symm
          rw [if_neg e]
          simp only [if_true, e', decide_false]
          cases hr : r.any (fun kv => decide (kv.1 = p.1)) with
          | true => rw [ih hr, if_neg e]
          | false =>
            have : r.map (fun kv => if kv.1 = p.1 then (kv.1, v) else kv) = r := by
              conv => rhs; rw [← List.map_id r]
              refine List.map_congr_left fun x hx => ?_
              have : ¬ x.1 = p.1 := fun z => by
                have := List.any_eq_false.mp hr x hx
                simp [z] at this
              simp [this]
            rw [this]
      · simp only [q, if_false]
        have h' : r.any (fun kv => decide (kv.1 = k)) = true := by simpa [q] using h
        by_cases e : p.1 = j
        · have : ¬ j = k := fun z => q (e.trans z)
          simp [e, this]
        · simp only [e, decide_false]
          exact ih h'
  · rename_i h
    unfold valueAt
    rw [List.find?_append]
    by_cases e : j = k
    · subst e
      have : kvs.find? (fun kv => decide (kv.1 = j)) = none := by
        rw [List.find?_eq_none]
        intro x hx hq
        exact h (List.any_eq_true.mpr ⟨x, hx, hq⟩)
      simp [this]
    · have e' : ¬ k = j := fun z => e z.symm
      simp [e, e']
theorem valueAt_without {kvs : List (Int × Value)} {k j : Int} : valueAt (without kvs k) j = if j = k then none else valueAt kvs j := by
  unfold without valueAt
  induction kvs with
  | nil => simp
  | cons p r ih =>
    rw [List.filter_cons]
    by_cases q : p.1 = k
    · simp only [q, ne_eq, not_true_eq_false, decide_false, Bool.false_eq_true, if_false, List.find?_cons]
      rw [ih]
      by_cases e : j = k
      · simp [e]
      · have e' : ¬ k = j := fun z => e z.symm
        simp [e, e']
    · simp only [q, ne_eq, not_false_eq_true, decide_true, if_true, List.find?_cons]
      by_cases e : p.1 = j
      · have : ¬ j = k := fun z => q (e.trans z)
        simp [e, this]
      · simp only [e, decide_false]
        exact ih
def CSt.rel (σ : CSt) (U : Buf) : CSt := { σ with row := σ.row.filter (fun B => decide (B.k ≠ U.k)) ++ [{ U with hd := 0 }] }
def CSt.wr (σ : CSt) (U : Buf) (tp : Addr) : CSt := { σ with writes := σ.writes + 1, dw := σ.dw + 1, us := σ.us.push (.ref tp), lat := fun j => if j = U.k then some U.data else σ.lat j }
theorem filter_split {pre post : List Buf} {U : Buf} (h : ((pre ++ U :: post).map (·.k)).Nodup) : (pre ++ U :: post).filter (fun B => decide (B.k ≠ U.k)) = pre ++ post ∧ ∀ V ∈ pre ++ post, V.k ≠ U.k := by
  have h1 : ∀ V ∈ pre ++ post, V.k ≠ U.k := by
    rw [List.map_append, List.map_cons, List.nodup_append] at h
    obtain ⟨_, h2, h3⟩ := h
    rw [List.nodup_cons] at h2
    intro V hV e
    rcases List.mem_append.mp hV with q | q
    · exact h3 V.k (List.mem_map_of_mem (f := (·.k)) q) U.k (.head _) e
    · exact h2.1 (e ▸ List.mem_map_of_mem (f := (·.k)) q)
  refine ⟨?_, h1⟩
  rw [List.filter_append, List.filter_cons]
  simp only [ne_eq, not_true_eq_false, decide_false, Bool.false_eq_true, if_false]
  rw [List.filter_eq_self.mpr fun V hV => by simpa using h1 V (List.mem_append_left _ hV), List.filter_eq_self.mpr fun V hV => by simpa using h1 V (List.mem_append_right _ hV)]
theorem erase_mid {pre post : List Value} {v : Value} : ((pre ++ v :: post).toArray.eraseIdxIfInBounds pre.length) = (pre ++ post).toArray := by
  unfold Array.eraseIdxIfInBounds
  rw [dif_pos (by simp)]
  simp [List.eraseIdx_append_of_length_le]
section
variable {prog : Program} {w : World} {p : Program} {loose : List Str} {mean : ExcName → Option Value} {mg mb : Str → Option Value} {dp un : Nat} {gd : Option (List Code)} {cn : Str} {cs : Scope} {a : Addr} {ccd : Value} {cl : List (Str × Addr)} {outer : List Env} {A₀ : Around} {base h₀ : Heap} {L : Addr} {m : Str → Option Value} {s : Shared} {Q E : Value → Shared → Prop} {l : List (Addr × Obj)} {I : Ids} {σ : CSt} {U : Buf}
  (B : Below A₀ base outer h₀) (F : Fr h₀ L s.heap m) (X : (Mine.hd.heap_1 w.params).In h₀) (T : Top p loose mean mg mb h₀) (hk : cs.kind = .function)
include B F X T hk
theorem releaseR (N : News h₀ L s.heap l) (r : Rep prog w I l σ) (hU : U ∈ σ.row) (h1 : U.hd = 1) (hdp : dp + 2 < 500) (hun : un + 16 < 5000)
  (hret : ∀ h' tk' l', Fr h₀ L h' m → News h₀ L h' l' → Rep prog w I l' (σ.rel U) → Keep I l σ l' (σ.rel U) → Q .none { s with heap := h', toks := tk' }) :
   wpAny (model prog w) (ktrTop dp un gd cn cs L a ccd cl outer) (call (.ref 242) [.ref I.cI, .ref U.b]) Q E s := by
  obtain ⟨pre, post, hrow⟩ := List.append_of_mem hU
  have hks := r.rok.keys
  rw [hrow] at hks
  obtain ⟨hf, hne⟩ := filter_split hks
  have hsub : ∀ V ∈ pre ++ post, V ∈ σ.row := fun V hV => by rw [hrow]; rcases List.mem_append.mp hV with q | q; exact List.mem_append_left _ q; exact List.mem_append_right _ (.tail _ q)
  obtain ⟨tc, mcD⟩ := r.mcD
  obtain ⟨tk, mkD⟩ := r.mkD
  obtain ⟨ob, kvs, mbn, dbn, lbn, vbn⟩ := r.mbn
  obtain ⟨n, mrw⟩ := r.mrw
  obtain ⟨mb', ⟨tb, md⟩, my, hsz⟩ := r.bufs U hU
  obtain ⟨u1, u2, u3, u4, u5, u6, u7, u8⟩ := r.nb hU U.memd
  obtain ⟨v1, v2, v3, v4, v5, v6, v7, v8⟩ := r.nb hU U.memb
  obtain ⟨w1, w2, w3, w4, w5, w6, w7, w8⟩ := r.nb hU U.memy
  obtain ⟨z1, z2, z3, z4, z5, z6, z7, z8, z9, _⟩ := r.ni
  obtain ⟨x1, x2, x3, x4, x5, x6, x7, x8, x9, x10, x11, x12, _⟩ := r.nx
  obtain ⟨n1, n2, n3⟩ := r.rok.bn1 U hU
  rw [h1] at md
  have put : ∀ q ∈ l, q.1 ≠ U.d → q.1 ≠ I.rw → ∀ es : List (Addr × Obj), q ∈ es ++ rem l [U.d, I.rw] := fun q hq e1 e2 es => memPut hq (by simp [e1, e2])
  have inr : ∀ q ∈ l, q.1 ≠ U.d → q.1 ≠ I.rw → q ∈ rem l [U.d, I.rw] := fun q hq e1 e2 => mem_rem.mpr ⟨hq, by simp [e1, e2]⟩
  have hitems : (σ.row.map fun B => Value.ref B.b).toArray = ((pre.map fun B => Value.ref B.b) ++ Value.ref U.b :: post.map fun B => Value.ref B.b).toArray := by rw [hrow]; simp
  refine release_ok B F X T hk (news := rem l [U.d, I.rw]) (j := pre.length) (newsPut (es := [(U.d, _), (I.rw, _)]) N (by intro q hq; simp only [List.mem_cons, List.not_mem_nil, or_false] at hq; rcases hq with rfl | rfl; exact md; exact mrw))
    (inr _ r.mcI (Ne.symm u1) z3) (inr _ mcD (Ne.symm u2) x2) (inr _ mbn (Ne.symm u6) (Ne.symm x10)) (inr _ mb' n1 v5) dbn r.low1 (by rw [vbn, find_key r.rok.keys hU]; rfl) ⟨?_, fun i hi => ?_⟩ ?_ ⟨u5⟩ (allAp_rem (by simp)) (allAp_rem (by simp)) hdp hun fun h' tk' od rn' F' N' hd => ?_
  · rw [hitems]; simp
  · have hV : pre[i] ∈ σ.row := hsub _ (List.mem_append_left _ (List.getElem_mem hi))
    have hVk := hne _ (List.mem_append_left _ (List.getElem_mem hi))
    refine ⟨(pre[i]).b, (pre[i]).d, ?_, (r.rok.ne hV hU hVk (Buf.memb _)).1, inr _ (r.bufs _ hV).1 (r.rok.ne hV hU hVk (Buf.memb _)).2.1 (r.nb hV (Buf.memb _)).2.2.2.2.1⟩
    rw [hitems]
    simp [List.getElem?_append_left, hi]
  · have := r.rok.len; simp; omega
  refine hret h' tk' _ F' N' ?_ ?_
  · have rok0 : RowOk I (σ.row.filter (fun B => decide (B.k ≠ U.k))) := r.rok.sub List.filter_sublist
    have rok' : RowOk I (σ.rel U).row := by
      refine rok0.push (r.rok.idb U hU) (r.rok.bn1 U hU) (fun V hV a ha => ?_) (fun V hV => ?_) ?_ (r.rok.rng U hU)
      · have hV' := List.mem_filter.mp hV
        exact r.rok.bb U hU V hV'.1 (fun e => by simpa [e] using hV'.2) a ha
      · have hV' := List.mem_filter.mp hV
        simpa using hV'.2
      · rw [hrow, hf]
        have := r.rok.len
        rw [hrow] at this
        simp at this ⊢; omega
    refine ⟨put_nodup (es := [(U.d, od), (I.rw, _)]) r.nd rfl (by simp [u5]), r.idn, rok', put _ r.mcI (Ne.symm u1) z3 [_, _], ⟨tc, put _ mcD (Ne.symm u2) x2 [_, _]⟩, put _ r.mkI (Ne.symm u3) z9 [_, _], ⟨tk, put _ mkD (Ne.symm u4) x6 [_, _]⟩, ?_, ?_, ?_, ?_, ?_, r.low1, r.low2, r.szl, r.usr⟩
    · refine ⟨rn', ?_⟩
      have : ((σ.rel U).row.map fun B => Value.ref B.b).toArray = (((σ.row.map fun B => Value.ref B.b).toArray.eraseIdxIfInBounds pre.length).push (.ref U.b)) := by
        have e := erase_mid (pre := pre.map fun B => Value.ref B.b) (post := post.map fun B => Value.ref B.b) (v := .ref U.b)
        rw [List.length_map] at e
        rw [hitems, e]
        show (((σ.row.filter _) ++ [_]).map _).toArray = _
        rw [hrow, hf]; simp
      rw [this]
      exact .tail _ (.head _)
    · refine ⟨ob, kvs, put _ mbn (Ne.symm u6) (Ne.symm x10) [_, _], dbn, lbn, fun k => ?_⟩
      rw [vbn]
      show _ = (((σ.row.filter _) ++ [_]).find? _).map _
      rw [hrow, hf]
      rw [List.find?_append, List.find?_append]
      by_cases q : U.k = k
      · have e1 : pre.find? (fun B => decide (B.k = k)) = none := find_none fun V hV => by rw [← q]; exact hne V (List.mem_append_left _ hV)
        have e2 : post.find? (fun B => decide (B.k = k)) = none := find_none fun V hV => by rw [← q]; exact hne V (List.mem_append_right _ hV)
        simp [e1, e2, q, List.find?_cons]
      · simp [q, List.find?_cons]
    · obtain ⟨ol, lvs, ml, dl, ll, vl⟩ := r.mlt
      exact ⟨ol, lvs, put _ ml (Ne.symm u7) (Ne.symm x11) [_, _], dl, ll, vl⟩
    · obtain ⟨n, hn⟩ := r.muf
      exact ⟨n, put _ hn (Ne.symm u8) (Ne.symm x12) [_, _]⟩
    · intro V hV
      rcases List.mem_append.mp hV with hV | hV
      · obtain ⟨hV, e⟩ := List.mem_filter.mp hV
        have e : V.k ≠ U.k := by simpa using e
        obtain ⟨q1, ⟨t, q2⟩, q3, q4⟩ := r.bufs V hV
        exact ⟨put _ q1 (r.rok.ne hV hU e V.memb).2.1 (r.nb hV V.memb).2.2.2.2.1 [_, _], ⟨t, put _ q2 (r.rok.ne hV hU e V.memd).2.1 (r.nb hV V.memd).2.2.2.2.1 [_, _]⟩, put _ q3 (r.rok.ne hV hU e V.memy).2.1 (r.nb hV V.memy).2.2.2.2.1 [_, _], q4⟩
      · rw [List.mem_singleton.mp hV]
        obtain ⟨t, rfl⟩ := hd
        exact ⟨put _ mb' n1 v5 [_, _], ⟨t, .head _⟩, put _ my (Ne.symm n3) w5 [_, _], hsz⟩
  · intro q hq hn
    obtain ⟨h1, h2⟩ := mutOf_mem hn
    refine ⟨put _ hq (Buf.nmem (h2 U hU)).2.1 (Ids.nmem h1).2.2.2.2.1 [_, _], mutOf_not h1 fun V hV => ?_⟩
    rcases List.mem_append.mp hV with hV | hV
    · exact h2 V (List.mem_filter.mp hV).1
    · rw [List.mem_singleton.mp hV]; exact h2 U hU
theorem writeR (N : News h₀ L s.heap l) (r : Rep prog w I l σ) (hU : U ∈ σ.row) (h1 : U.hd ≠ 0) (hus : σ.us.size < 10000) (hdp : dp + 5 < 500) (hun : un + 48 < 5000)
  (hret : ∀ h' tk' l' tp, Fr h₀ L h' m → News h₀ L h' l' → Rep prog w I l' (σ.wr U tp) → Keep I l σ l' (σ.wr U tp) → Q .none { s with heap := h', toks := tk' }) :
   wpAny (model prog w) (ktrTop dp un gd cn cs L a ccd cl outer) (call (.ref 263) [.ref I.cI, .ref U.b]) Q E s := by
  obtain ⟨tc, mcD⟩ := r.mcD
  obtain ⟨tk, mkD⟩ := r.mkD
  obtain ⟨ob, kvs, mbn, dbn, lbn, vbn⟩ := r.mbn
  obtain ⟨n, mrw⟩ := r.mrw
  obtain ⟨ol, lvs, ml, dl, ll, vl⟩ := r.mlt
  obtain ⟨un0, muf⟩ := r.muf
  obtain ⟨mb', ⟨tb, md⟩, my, hsz⟩ := r.bufs U hU
  obtain ⟨u1, u2, u3, u4, u5, u6, u7, u8⟩ := r.nb hU U.memd
  obtain ⟨v1, v2, v3, v4, v5, v6, v7, v8⟩ := r.nb hU U.memb
  obtain ⟨w1, w2, w3, w4, w5, w6, w7, w8⟩ := r.nb hU U.memy
  obtain ⟨z1, z2, z3, z4, z5, z6, z7, z8, z9, z10, z11, z12⟩ := r.ni
  obtain ⟨x1, x2, x3, x4, x5, x6, x7, x8, x9, x10, x11, x12, x13, x14, x15⟩ := r.nx
  have put : ∀ q ∈ l, q.1 ≠ I.cD → q.1 ≠ I.kD → q.1 ≠ I.lt → q.1 ≠ I.uf → ∀ es : List (Addr × Obj), q ∈ es ++ rem l [I.cD, I.kD, I.lt, I.uf] := fun q hq e1 e2 e3 e4 es => memPut hq (by simp [e1, e2, e3, e4])
  have inr : ∀ q ∈ l, q.1 ≠ I.cD → q.1 ≠ I.kD → q.1 ≠ I.lt → q.1 ≠ I.uf → q ∈ rem l [I.cD, I.kD, I.lt, I.uf] := fun q hq e1 e2 e3 e4 => mem_rem.mpr ⟨hq, by simp [e1, e2, e3, e4]⟩
  refine write_ok B F X T hk (news := rem l [I.cD, I.kD, I.lt, I.uf]) (newsPut (es := [(I.cD, _), (I.kD, _), (I.lt, _), (I.uf, _)]) N (by intro q hq; simp only [List.mem_cons, List.not_mem_nil, or_false] at hq; rcases hq with rfl | rfl | rfl | rfl; exact mcD; exact mkD; exact ml; exact muf))
    (inr _ r.mcI z1 z2 z5 z6) (inr _ r.mkI z7 z8 z11 z12) (inr _ mbn (Ne.symm x3) (Ne.symm x7) x13 x14) (inr _ mb' v2 v4 v7 v8) (inr _ md u2 u4 u7 u8) (inr _ my w2 w4 w7 w8) dbn r.low1 (by rw [vbn, find_key r.rok.keys hU]; rfl) h1 dl r.low2 (r.rok.rng U hU).1 (r.rok.rng U hU).2 hsz hus (by rw [sizeLine_eq]; omega)
    ⟨x1⟩ ⟨x4⟩ ⟨x5⟩ ⟨x8⟩ ⟨x9⟩ ⟨x15⟩ (allAp_rem (by simp)) (allAp_rem (by simp)) (allAp_rem (by simp)) (allAp_rem (by simp)) hdp hun fun h' tk' oc od ol' t tp un' F' N' hc hd hl => ?_
  refine hret h' tk' _ tp F' N' ?_ ?_
  · refine ⟨put_nodup (es := [(I.cD, oc), (I.kD, od), (I.lt, ol'), (I.uf, _)]) r.nd rfl (by simp [x1, x4, x5, x8, x9, x15]), r.idn, r.rok, put _ r.mcI z1 z2 z5 z6 [_, _, _, _], ?_, put _ r.mkI z7 z8 z11 z12 [_, _, _, _], ?_, ⟨n, put _ mrw (Ne.symm x2) (Ne.symm x6) x11 x12 [_, _, _, _]⟩, ⟨ob, kvs, put _ mbn (Ne.symm x3) (Ne.symm x7) x13 x14 [_, _, _, _], dbn, lbn, vbn⟩, ?_, ⟨un', .tail _ (.tail _ (.tail _ (.head _)))⟩, ?_, r.low1, r.low2, ?_, ?_⟩
    · obtain ⟨t, rfl⟩ := hc; exact ⟨t, .head _⟩
    · obtain ⟨t, rfl⟩ := hd; exact ⟨t, .tail _ (.head _)⟩
    · refine ⟨ol', _, .tail _ (.tail _ (.head _)), hl, ?_, fun k => ?_⟩
      · have := stored_length_le lvs U.k (.bytes U.data t)
        show _ ≤ (σ.us.push _).size
        rw [Array.size_push]; omega
      · show (match (if k = U.k then some U.data else σ.lat k) with | none => _ | some d => _)
        rw [valueAt_stored]
        by_cases e : k = U.k
        · rw [if_pos e, if_pos e]; exact ⟨t, rfl⟩
        · rw [if_neg e, if_neg e]; exact vl k
    · intro V hV
      obtain ⟨q1, ⟨t, q2⟩, q3, q4⟩ := r.bufs V hV
      obtain ⟨_, b2, _, b4, _, _, b7, b8⟩ := r.nb hV V.memb
      obtain ⟨_, d2, _, d4, _, _, d7, d8⟩ := r.nb hV V.memd
      obtain ⟨_, y2, _, y4, _, _, y7, y8⟩ := r.nb hV V.memy
      exact ⟨put _ q1 b2 b4 b7 b8 [_, _, _, _], ⟨t, put _ q2 d2 d4 d7 d8 [_, _, _, _]⟩, put _ q3 y2 y4 y7 y8 [_, _, _, _], q4⟩
    · intro k d hkd
      replace hkd : (if k = U.k then some U.data else σ.lat k) = some d := hkd
      by_cases e : k = U.k
      · rw [if_pos e] at hkd; cases hkd; exact hsz
      · rw [if_neg e] at hkd; exact r.szl k d hkd
    · intro v hv
      replace hv : v ∈ (σ.us.push (.ref tp)).toList := hv
      rw [Array.toList_push, List.mem_append, List.mem_singleton] at hv
      rcases hv with hv | rfl
      · exact r.usr v hv
      · exact ⟨tp, rfl⟩
  · intro q hq hn
    obtain ⟨h1, h2⟩ := mutOf_mem hn
    obtain ⟨_, e2, _, e4, _, _, e7, e8⟩ := Ids.nmem h1
    exact ⟨put _ hq e2 e4 e7 e8 [_, _, _, _], mutOf_not h1 h2⟩
end
def CSt.fil (σ : CSt) (U : Buf) (d : Array UInt8) : CSt := { σ with row := upd σ.row U.k fun B => { B with data := d } }
def CSt.miss (σ : CSt) (row' : List Buf) (V : Buf) : CSt := { σ with row := row' ++ [V], reads := σ.reads + 1, nb := σ.nb + 1 }
/-- what a call for room leaves of the row -/
def RoomFor (row row' : List Buf) : Prop :=
  (row.length < 3 ∧ row' = row) ∨ (∃ V W2 W3, row = [V, W2, W3] ∧ V.hd = 0 ∧ row' = [W2, W3]) ∨ (∃ W1 V W3, row = [W1, V, W3] ∧ W1.hd = 1 ∧ V.hd = 0 ∧ row' = [W1, W3]) ∨ (∃ W1 W2 V, row = [W1, W2, V] ∧ W1.hd = 1 ∧ W2.hd = 1 ∧ V.hd = 0 ∧ row' = [W1, W2])
theorem RoomFor.sub {row row' : List Buf} (h : RoomFor row row') : List.Sublist row' row := by
  rcases h with ⟨_, rfl⟩ | ⟨V, W2, W3, rfl, _, rfl⟩ | ⟨W1, V, W3, rfl, _, _, rfl⟩ | ⟨W1, W2, V, rfl, _, _, _, rfl⟩
  · exact List.Sublist.refl _
  · exact List.sublist_cons_self _ _
  · exact List.Sublist.cons_cons _ (List.sublist_cons_self _ _)
  · exact List.Sublist.cons_cons _ (List.Sublist.cons_cons _ (List.sublist_cons_self _ _))
theorem RoomFor.len {row row' : List Buf} (h : RoomFor row row') : row'.length < 3 := by
  rcases h with ⟨h, rfl⟩ | ⟨V, W2, W3, rfl, _, rfl⟩ | ⟨W1, V, W3, rfl, _, _, rfl⟩ | ⟨W1, W2, V, rfl, _, _, _, rfl⟩
  · exact h
  all_goals exact Nat.lt_succ_self _
section
variable {prog : Program} {w : World} {p : Program} {loose : List Str} {mean : ExcName → Option Value} {mg mb : Str → Option Value} {dp un : Nat} {gd : Option (List Code)} {cn : Str} {cs : Scope} {a : Addr} {ccd : Value} {cl : List (Str × Addr)} {outer : List Env} {A₀ : Around} {base h₀ : Heap} {L : Addr} {m : Str → Option Value} {s : Shared} {Q E : Value → Shared → Prop} {l : List (Addr × Obj)} {I : Ids} {σ : CSt} {U : Buf}
theorem Rep.keysI (r : Rep prog w I l σ) : ∀ a ∈ I.all, ∃ o, (a, o) ∈ l := by
  intro a ha
  obtain ⟨_, m2⟩ := r.mcD
  obtain ⟨_, m4⟩ := r.mkD
  obtain ⟨_, m5⟩ := r.mrw
  obtain ⟨_, _, m6, _⟩ := r.mbn
  obtain ⟨_, _, m7, _⟩ := r.mlt
  obtain ⟨_, m8⟩ := r.muf
  simp only [Ids.all, List.mem_cons, List.not_mem_nil, or_false] at ha
  rcases ha with rfl | rfl | rfl | rfl | rfl | rfl | rfl | rfl
  · exact ⟨_, r.mcI⟩
  · exact ⟨_, m2⟩
  · exact ⟨_, r.mkI⟩
  · exact ⟨_, m4⟩
  · exact ⟨_, m5⟩
  · exact ⟨_, m6⟩
  · exact ⟨_, m7⟩
  · exact ⟨_, m8⟩
theorem Rep.keysB (r : Rep prog w I l σ) : ∀ V ∈ σ.row, ∀ a ∈ V.all, ∃ o, (a, o) ∈ l := by
  intro V hV a ha
  obtain ⟨q1, ⟨_, q2⟩, q3, _⟩ := r.bufs V hV
  simp only [Buf.all, List.mem_cons, List.not_mem_nil, or_false] at ha
  rcases ha with rfl | rfl | rfl
  · exact ⟨_, q1⟩
  · exact ⟨_, q2⟩
  · exact ⟨_, q3⟩
theorem room_key (r : Rep prog w I l σ) {row' : List Buf} (hr : RoomFor σ.row row') {tc : Nat → Tok} {rn : Nat} {ob : Obj} {kvs : List (Int × Value)} (mcD : (I.cD, cacheD w tc I.kI I.rw I.bn σ.hits σ.reads σ.writes) ∈ l)
    (dbn : ob.IsDictOf (intKind prog w) kvs) (lbn : kvs.length ≤ σ.nb) (vbn : ∀ k, valueAt kvs k = (σ.row.find? (fun B => decide (B.k = k))).map fun B => Value.ref B.b) (hnb : σ.nb < 10000) :
    ∃ kvs', MakesRoom prog w p loose mean mg mb I.cI I.rw I.bn ((I.cD, cacheD w tc I.kI I.rw I.bn σ.hits σ.reads σ.writes) :: rem l [I.rw, I.bn, I.cD]) (σ.row.map fun B => Value.ref B.b).toArray (row'.map fun B => Value.ref B.b).toArray rn ob kvs' ∧
      kvs'.length ≤ σ.nb ∧ ∀ k, valueAt kvs' k = (row'.find? (fun B => decide (B.k = k))).map fun B => Value.ref B.b := by
  obtain ⟨z1, z2, z3, z4, z5, z6, z7, z8, z9, z10, z11, z12⟩ := r.ni
  obtain ⟨x1, x2, x3, x4, x5, x6, x7, x8, x9, x10, x11, x12, x13, x14, x15⟩ := r.nx
  have inr : ∀ q ∈ l, q.1 ≠ I.rw → q.1 ≠ I.bn → q.1 ≠ I.cD → q ∈ (I.cD, cacheD w tc I.kI I.rw I.bn σ.hits σ.reads σ.writes) :: rem l [I.rw, I.bn, I.cD] := fun q hq e1 e2 e3 => .tail _ (mem_rem.mpr ⟨hq, by simp [e1, e2, e3]⟩)
  have hle : kvs.length ≤ sizeLine := by rw [sizeLine_eq]; omega
  have hbuf : ∀ V ∈ σ.row, (V.b, instObj 189 V.d) ∈ (I.cD, cacheD w tc I.kI I.rw I.bn σ.hits σ.reads σ.writes) :: rem l [I.rw, I.bn, I.cD] ∧ ∃ t, (V.d, bufD w t V.k V.y V.hd) ∈ (I.cD, cacheD w tc I.kI I.rw I.bn σ.hits σ.reads σ.writes) :: rem l [I.rw, I.bn, I.cD] := fun V hV => by
    obtain ⟨q1, ⟨t, q2⟩, _⟩ := r.bufs V hV
    have e1 := r.nb hV V.memb
    have e2 := r.nb hV V.memd
    exact ⟨inr _ q1 e1.2.2.2.2.1 e1.2.2.2.2.2.1 e1.2.1, t, inr _ q2 e2.2.2.2.2.1 e2.2.2.2.2.2.1 e2.2.1⟩
  have ap1 : AllAp I.rw ((I.cD, cacheD w tc I.kI I.rw I.bn σ.hits σ.reads σ.writes) :: rem l [I.rw, I.bn, I.cD]) := AllAp.mk ⟨x2⟩ (allAp_rem (by simp))
  have ap2 : AllAp I.bn ((I.cD, cacheD w tc I.kI I.rw I.bn σ.hits σ.reads σ.writes) :: rem l [I.rw, I.bn, I.cD]) := AllAp.mk ⟨x3⟩ (allAp_rem (by simp))
  have hcI := inr _ r.mcI z3 z4 z1
  have gone : ∀ {V : Buf} {row'' : List Buf}, V ∈ σ.row → σ.row.filter (fun B => decide (B.k ≠ V.k)) = row'' → (without kvs V.k).length ≤ σ.nb ∧ ∀ k, valueAt (without kvs V.k) k = (row''.find? (fun B => decide (B.k = k))).map fun B => Value.ref B.b := by
    rintro V row'' hV rfl
    refine ⟨Nat.le_trans (List.length_filter_le _ _) lbn, fun k => ?_⟩
    rw [valueAt_without, List.find?_filter]
    by_cases e : k = V.k
    · subst e
      rw [if_pos rfl]
      have : σ.row.find? (fun B => decide (B.k ≠ V.k) && decide (B.k = V.k)) = none := List.find?_eq_none.mpr fun B _ => by simp
      simp only [decide_eq_true_eq, Bool.decide_and] at this ⊢
      first | rw [this]; rfl | simp_all
    · rw [if_neg e, vbn]
      congr 1
      refine congrArg (fun f => List.find? f σ.row) (funext fun B => ?_)
      by_cases q : B.k = k
      · simp [q, e]
      · simp [q]
  rcases hr with ⟨h, rfl⟩ | ⟨V, W2, W3, hrow, hV, rfl⟩ | ⟨W1, V, W3, hrow, hW1, hV, rfl⟩ | ⟨W1, W2, V, hrow, hW1, hW2, hV, rfl⟩
  · refine ⟨kvs, ?_, lbn, vbn⟩
    intro dp un gd cn cs a ccd cl outer A₀ base h₀ L m s Q E B F X T hk N hdp hun hret
    exact room_ok B F X T hk N (.tail _ (.tail _ hcI)) (.tail _ (.tail _ (.head _))) (.head _) (by simpa using h) (by omega) (by omega) fun h' tk' F' N' => hret h' tk' rn ob F' N' dbn
  · have m1 : V ∈ σ.row := by rw [hrow]; simp
    have ks := r.rok.keys
    rw [hrow] at ks
    have k2 : W2.k ≠ V.k ∧ W3.k ≠ V.k := by simp at ks; exact ⟨fun e => ks.1.1 e.symm, fun e => ks.1.2 e.symm⟩
    refine ⟨without kvs V.k, ?_, gone m1 (by rw [hrow]; simp [List.filter_cons, k2.1, k2.2])⟩
    intro dp un gd cn cs a ccd cl outer A₀ base h₀ L m s Q E B F X T hk N hdp hun hret
    obtain ⟨b1, tb, b2⟩ := hbuf V m1
    rw [hV] at b2
    rw [hrow] at N
    exact room_evict B F X T hk N hcI (.head _) b1 b2 dbn r.low1 (by rw [vbn, find_key r.rok.keys m1]; rfl) hle ⟨x10⟩ ap1 ap2 hdp hun hret
  · have m1 : V ∈ σ.row := by rw [hrow]; simp
    have m2 : W1 ∈ σ.row := by rw [hrow]; simp
    have ks := r.rok.keys
    rw [hrow] at ks
    have k2 : W1.k ≠ V.k ∧ W3.k ≠ V.k := by simp at ks; exact ⟨ks.1.1, fun e => ks.2 e.symm⟩
    refine ⟨without kvs V.k, ?_, gone m1 (by rw [hrow]; simp [List.filter_cons, k2.1, k2.2])⟩
    intro dp un gd cn cs a ccd cl outer A₀ base h₀ L m s Q E B F X T hk N hdp hun hret
    obtain ⟨b1, tb, b2⟩ := hbuf V m1
    obtain ⟨c1, tb1, c2⟩ := hbuf W1 m2
    rw [hV] at b2
    rw [hW1] at c2
    rw [hrow] at N
    exact room_evict1 B F X T hk N hcI (.head _) b1 b2 c1 c2 dbn r.low1 (by rw [vbn, find_key r.rok.keys m1]; rfl) hle ⟨x10⟩ ap1 ap2 hdp hun hret
  · have m1 : V ∈ σ.row := by rw [hrow]; simp
    have m2 : W1 ∈ σ.row := by rw [hrow]; simp
    have m3 : W2 ∈ σ.row := by rw [hrow]; simp
    have ks := r.rok.keys
    rw [hrow] at ks
    have k2 : W1.k ≠ V.k ∧ W2.k ≠ V.k := by simp at ks; exact ⟨ks.1.2, ks.2⟩
    refine ⟨without kvs V.k, ?_, gone m1 (by rw [hrow]; simp [List.filter_cons, k2.1, k2.2])⟩
    intro dp un gd cn cs a ccd cl outer A₀ base h₀ L m s Q E B F X T hk N hdp hun hret
    obtain ⟨b1, tb, b2⟩ := hbuf V m1
    obtain ⟨c1, tb1, c2⟩ := hbuf W1 m2
    obtain ⟨d1, tb2, d2⟩ := hbuf W2 m3
    rw [hV] at b2
    rw [hW1] at c2
    rw [hW2] at d2
    rw [hrow] at N
    exact room_evict2 B F X T hk N hcI (.head _) b1 b2 c1 c2 d1 d2 dbn r.low1 (by rw [vbn, find_key r.rok.keys m1]; rfl) hle ⟨x10⟩ ap1 ap2 hdp hun hret
end
def zeros4 : Array UInt8 := #[0, 0, 0, 0]
section
variable {prog : Program} {w : World} {p : Program} {loose : List Str} {mean : ExcName → Option Value} {mg mb : Str → Option Value} {dp un : Nat} {gd : Option (List Code)} {cn : Str} {cs : Scope} {a : Addr} {ccd : Value} {cl : List (Str × Addr)} {outer : List Env} {A₀ : Around} {base h₀ : Heap} {L : Addr} {m : Str → Option Value} {s : Shared} {Q E : Value → Shared → Prop} {l : List (Addr × Obj)} {I : Ids} {σ : CSt} {U : Buf}
  (B : Below A₀ base outer h₀) (F : Fr h₀ L s.heap m) (X : (Mine.hd.heap_1 w.params).In h₀) (T : Top p loose mean mg mb h₀) (hk : cs.kind = .function)
include B F X T hk
theorem fillR {u : Tok} {data : Array UInt8} (N : News h₀ L s.heap l) (r : Rep prog w I l σ) (hU : U ∈ σ.row) (hz : data.size = 4) (hdp : dp + 2 < 500) (hun : un + 16 < 5000)
  (hret : ∀ h' tk' l', Fr h₀ L h' m → News h₀ L h' l' → Rep prog w I l' (σ.fil U data) → Keep I l σ l' (σ.fil U data) → Q .none { s with heap := h', toks := tk' }) :
   wpD (model prog w) (ktrTop dp un gd cn cs L a ccd cl outer) (call (.ref 153) [.ref U.b, .bytes data u]) Q E s := by
  obtain ⟨tc, mcD⟩ := r.mcD
  obtain ⟨tk, mkD⟩ := r.mkD
  obtain ⟨ob, kvs, mbn, dbn, lbn, vbn⟩ := r.mbn
  obtain ⟨n, mrw⟩ := r.mrw
  obtain ⟨ol, lvs, ml, dl, ll, vl⟩ := r.mlt
  obtain ⟨un0, muf⟩ := r.muf
  obtain ⟨mb', ⟨tb, md⟩, my, hsz⟩ := r.bufs U hU
  obtain ⟨u1, u2, u3, u4, u5, u6, u7, u8⟩ := r.nb hU U.memy
  obtain ⟨n1, n2, n3⟩ := r.rok.bn1 U hU
  have put : ∀ q ∈ l, q.1 ≠ U.y → ∀ es : List (Addr × Obj), q ∈ es ++ rem l [U.y] := fun q hq e1 es => memPut hq (by simp [e1])
  have inr : ∀ q ∈ l, q.1 ≠ U.y → q ∈ rem l [U.y] := fun q hq e1 => mem_rem.mpr ⟨hq, by simp [e1]⟩
  refine fill_okD B F X T hk (news := rem l [U.y]) (newsPut (es := [(U.y, _)]) N (by intro q hq; simp only [List.mem_cons, List.not_mem_nil, or_false] at hq; subst hq; exact my))
    (inr _ mb' n2) (inr _ md n3) hsz hz (allAp_rem (by simp)) hdp hun fun h' tk' F' N' => ?_
  refine hret h' tk' _ F' N' ?_ ?_
  · refine ⟨put_nodup (es := [(U.y, baO data)]) r.nd rfl (by simp), r.idn, r.rok.upd (sameId_data data), put _ r.mcI (Ne.symm u1) [_], ⟨tc, put _ mcD (Ne.symm u2) [_]⟩, put _ r.mkI (Ne.symm u3) [_], ⟨tk, put _ mkD (Ne.symm u4) [_]⟩, ?_, ?_, ⟨ol, lvs, put _ ml (Ne.symm u7) [_], dl, ll, vl⟩, ⟨un0, put _ muf (Ne.symm u8) [_]⟩, ?_, r.low1, r.low2, r.szl, r.usr⟩
    · exact ⟨n, by show (_, listOf ((Mine.upd σ.row U.k _).map _).toArray _) ∈ _; unfold Mine.upd; rw [map_b ((sameId_data data).ite U.k)]; exact put _ mrw (Ne.symm u5) [_]⟩
    · exact ⟨ob, kvs, put _ mbn (Ne.symm u6) [_], dbn, lbn, fun k => by rw [vbn]; exact (map_find ((sameId_data data).ite U.k) k).symm⟩
    · intro V hV
      rcases (mem_upd r.rok.keys hU).mp hV with rfl | ⟨hV, e⟩
      · exact ⟨put _ mb' n2 [_], ⟨tb, put _ md n3 [_]⟩, .head _, hz⟩
      · obtain ⟨q1, ⟨t, q2⟩, q3, q4⟩ := r.bufs V hV
        exact ⟨put _ q1 (r.rok.ne hV hU e V.memb).2.2 [_], ⟨t, put _ q2 (r.rok.ne hV hU e V.memd).2.2 [_]⟩, put _ q3 (r.rok.ne hV hU e V.memy).2.2 [_], q4⟩
  · intro q hq hn
    obtain ⟨h1, h2⟩ := mutOf_mem hn
    refine ⟨put _ hq (Buf.nmem (h2 U hU)).2.2 [_], mutOf_not h1 fun V hV => ?_⟩
    obtain ⟨V0, hV0, rfl⟩ := List.mem_map.mp hV
    rw [((sameId_data data).ite U.k).all]; exact h2 V0 hV0
theorem get_missR {k : Int} {kt : Tok} {row' : List Buf} (N : News h₀ L s.heap l) (r : Rep prog w I l σ) (hno : ∀ V ∈ σ.row, V.k ≠ k) (hr : RoomFor σ.row row') (hk0 : 0 ≤ k) (hk6 : k < 6) (hnb : σ.nb < 10000) (hdp : dp + 5 < 500) (hun : un + 48 < 5000)
  (hret : ∀ h' tk' l' V, Fr h₀ L h' m → News h₀ L h' l' → V.k = k → V.hd = 1 → V.data = (σ.lat k).getD zeros4 → Rep prog w I l' (σ.miss row' V) → Keep I l σ l' (σ.miss row' V) → Q (.ref V.b) { s with heap := h', toks := tk' }) :
   wpD (model prog w) (ktrTop dp un gd cn cs L a ccd cl outer) (call (.ref 228) [.ref I.cI, .int k kt]) Q E s := by
  obtain ⟨tc, mcD⟩ := r.mcD
  obtain ⟨tk, mkD⟩ := r.mkD
  obtain ⟨ob, kvs, mbn, dbn, lbn, vbn⟩ := r.mbn
  obtain ⟨n, mrw⟩ := r.mrw
  obtain ⟨ol, lvs, ml, dl, ll, vl⟩ := r.mlt
  obtain ⟨un0, muf⟩ := r.muf
  obtain ⟨z1, z2, z3, z4, z5, z6, z7, z8, z9, z10, z11, z12⟩ := r.ni
  obtain ⟨x1, x2, x3, x4, x5, x6, x7, x8, x9, x10, x11, x12, x13, x14, x15⟩ := r.nx
  obtain ⟨kvs', MR, lbn', vbn'⟩ := room_key (p := p) (loose := loose) (mean := mean) (mg := mg) (mb := mb) r hr (rn := n) mcD dbn lbn vbn hnb
  have put : ∀ q ∈ l, q.1 ≠ I.rw → q.1 ≠ I.bn → q.1 ≠ I.cD → ∀ es : List (Addr × Obj), q ∈ es ++ rem l [I.rw, I.bn, I.cD] := fun q hq e1 e2 e3 es => memPut hq (by simp [e1, e2, e3])
  have inr : ∀ q ∈ l, q.1 ≠ I.rw → q.1 ≠ I.bn → q.1 ≠ I.cD → q ∈ rem l [I.rw, I.bn, I.cD] := fun q hq e1 e2 e3 => mem_rem.mpr ⟨hq, by simp [e1, e2, e3]⟩
  have hlat := vl k
  have hdat : ((σ.lat k).getD zeros4).size = 4 := by
    cases e : σ.lat k with
    | none => rfl
    | some d => exact r.szl k d e
  have hsz : row'.length < 100 := by have := hr.len; omega
  refine get_missD B F X T hk (news := rem l [I.rw, I.bn, I.cD]) (dat := (σ.lat k).getD zeros4) (newsPut (es := [(I.rw, _), (I.bn, _), (I.cD, _)]) N (by intro q hq; simp only [List.mem_cons, List.not_mem_nil, or_false] at hq; rcases hq with rfl | rfl | rfl; exact mrw; exact mbn; exact mcD))
    (inr _ r.mcI z3 z4 z1) (inr _ r.mkI z9 z10 z7) (inr _ mkD x6 x7 (Ne.symm x1)) (inr _ ml (Ne.symm x11) (Ne.symm x13) (Ne.symm x4)) MR dbn r.low1 (by rw [vbn, find_none hno]; rfl) hk0 hk6 dl r.low2 rfl (fun t => ?_) hdat (by rw [sizeLine_eq]; omega) (by simpa using hsz)
    ⟨x10⟩ ⟨Ne.symm x2⟩ ⟨Ne.symm x3⟩ (allAp_rem (by simp)) (allAp_rem (by simp)) (allAp_rem (by simp)) hdp hun fun h' tk' b d y od oc rn' ob' F' N' hd hob hc hfr e1 e2 e3 => ?_
  · cases e : σ.lat k with
    | none => rw [e] at hlat; replace hlat : valueAt lvs k = none := hlat; rw [hlat]; exact ⟨t, rfl⟩
    | some d => rw [e] at hlat; obtain ⟨u, hu⟩ := hlat; rw [hu]; exact ⟨u, rfl⟩
  have fresh : ∀ q ∈ l, q.1 ≠ b ∧ q.1 ≠ d ∧ q.1 ≠ y := fun q hq => by
    by_cases c1 : q.1 = I.rw
    · rw [c1]; exact hfr (I.rw, _) (.head _)
    · by_cases c2 : q.1 = I.bn
      · rw [c2]; exact hfr (I.bn, _) (.tail _ (.head _))
      · by_cases c3 : q.1 = I.cD
        · rw [c3]; exact hfr (I.cD, _) (.tail _ (.tail _ (.head _)))
        · exact hfr q (.tail _ (.tail _ (.tail _ (inr q hq c1 c2 c3))))
  have hsub := hr.sub
  have inl : ∀ es : List (Addr × Obj), ∀ q ∈ l, q.1 ≠ I.rw → q.1 ≠ I.bn → q.1 ≠ I.cD → q ∈ es ++ rem l [I.rw, I.bn, I.cD] := fun es q hq e1 e2 e3 => put q hq e1 e2 e3 es
  refine hret h' tk' _ ⟨b, d, y, k, 1, (σ.lat k).getD zeros4⟩ F' N' rfl rfl rfl ?_ ?_
  · have hI : ∀ a ∈ (⟨b, d, y, k, 1, (σ.lat k).getD zeros4⟩ : Buf).all, ∀ a' o, (a', o) ∈ l → a ≠ a' := fun a ha a' o hm e => by
      have := fresh _ hm
      simp only [Buf.all, List.mem_cons, List.not_mem_nil, or_false] at ha
      rcases ha with rfl | rfl | rfl
      · exact this.1 e.symm
      · exact this.2.1 e.symm
      · exact this.2.2 e.symm
    have rok' : RowOk I (σ.miss row' ⟨b, d, y, k, 1, (σ.lat k).getD zeros4⟩).row := by
      refine (r.rok.sub hsub).push (fun a ha hn => ?_) ⟨e1, e2, e3⟩ (fun V hV a ha hn => ?_) (fun V hV => hno V (hsub.subset hV)) hr.len ⟨hk0, hk6⟩
      · obtain ⟨o, ho⟩ := r.keysI a hn; exact hI a ha a o ho rfl
      · obtain ⟨o, ho⟩ := r.keysB V (hsub.subset hV) a hn; exact hI a ha a o ho rfl
    refine ⟨?_, r.idn, rok', inl [_, _, _, _, _, _] _ r.mcI z3 z4 z1, ?_, inl [_, _, _, _, _, _] _ r.mkI z9 z10 z7, ⟨tk, inl [_, _, _, _, _, _] _ mkD x6 x7 (Ne.symm x1)⟩, ?_, ?_, ⟨ol, lvs, inl [_, _, _, _, _, _] _ ml (Ne.symm x11) (Ne.symm x13) (Ne.symm x4), dl, ll, vl⟩, ⟨un0, inl [_, _, _, _, _, _] _ muf (Ne.symm x12) (Ne.symm x14) (Ne.symm x5)⟩, ?_, r.low1, r.low2, r.szl, r.usr⟩
    · show (((y, _) :: (b, _) :: (d, _) :: ([(I.rw, _), (I.bn, _), (I.cD, _)] ++ rem l [I.rw, I.bn, I.cD])).map (·.1)).Nodup
      have base0 := put_nodup (es := [(I.rw, listOf ((row'.map fun B => Value.ref B.b).toArray.push (.ref b)) rn'), (I.bn, ob'), (I.cD, oc)]) r.nd rfl (by simp [x10, Ne.symm x2, Ne.symm x3])
      have nin : ∀ a ∈ (⟨b, d, y, k, 1, (σ.lat k).getD zeros4⟩ : Buf).all, a ∉ ([(I.rw, listOf ((row'.map fun B => Value.ref B.b).toArray.push (.ref b)) rn'), (I.bn, ob'), (I.cD, oc)] ++ rem l [I.rw, I.bn, I.cD]).map (·.1) := fun a ha hn => by
        rw [List.map_append, List.mem_append] at hn
        rcases hn with hn | hn
        · simp only [List.map_cons, List.map_nil, List.mem_cons, List.not_mem_nil, or_false] at hn
          rcases hn with hn | hn | hn
          · exact hI a ha _ _ mrw hn
          · exact hI a ha _ _ mbn hn
          · exact hI a ha _ _ mcD hn
        · obtain ⟨q, hq, rfl⟩ := List.mem_map.mp hn
          exact hI _ ha q.1 q.2 (mem_rem.mp hq).1 rfl
      rw [List.map_cons, List.map_cons, List.map_cons, List.nodup_cons, List.nodup_cons, List.nodup_cons]
      refine ⟨fun h => ?_, fun h => ?_, nin d (Buf.memd _), base0⟩
      · rcases List.mem_cons.mp h with h | h
        · exact e2 h.symm
        · rcases List.mem_cons.mp h with h | h
          · exact e3 h.symm
          · exact nin y (Buf.memy _) h
      · rcases List.mem_cons.mp h with h | h
        · exact e1 h
        · exact nin b (Buf.memb _) h
    · obtain ⟨t, rfl⟩ := hc; exact ⟨t, .tail _ (.tail _ (.tail _ (.tail _ (.tail _ (.head _)))))⟩
    · refine ⟨rn', ?_⟩
      have : ((σ.miss row' ⟨b, d, y, k, 1, (σ.lat k).getD zeros4⟩).row.map fun B => Value.ref B.b).toArray = (row'.map fun B => Value.ref B.b).toArray.push (.ref b) := by
        show ((row' ++ [_]).map _).toArray = _
        simp
      rw [this]
      exact .tail _ (.tail _ (.tail _ (.head _)))
    · refine ⟨ob', _, .tail _ (.tail _ (.tail _ (.tail _ (.head _)))), hob, ?_, fun j => ?_⟩
      · have := stored_length_le kvs' k (.ref b)
        show _ ≤ σ.nb + 1
        omega
      · rw [valueAt_stored]
        show _ = ((row' ++ [_]).find? _).map _
        rw [List.find?_append]
        by_cases e : j = k
        · subst e
          have : row'.find? (fun B => decide (B.k = j)) = none := find_none fun V hV => hno V (hsub.subset hV)
          simp [this]
        · have e' : ¬ k = j := fun z => e z.symm
          rw [if_neg e, vbn']
          simp [e']
    · intro V hV
      rcases List.mem_append.mp hV with hV | hV
      · have hV := hsub.subset hV
        obtain ⟨q1, ⟨t, q2⟩, q3, q4⟩ := r.bufs V hV
        obtain ⟨_, b2, _, _, b5, b6, _⟩ := r.nb hV V.memb
        obtain ⟨_, d2, _, _, d5, d6, _⟩ := r.nb hV V.memd
        obtain ⟨_, y2, _, _, y5, y6, _⟩ := r.nb hV V.memy
        exact ⟨inl [_, _, _, _, _, _] _ q1 b5 b6 b2, ⟨t, inl [_, _, _, _, _, _] _ q2 d5 d6 d2⟩, inl [_, _, _, _, _, _] _ q3 y5 y6 y2, q4⟩
      · rw [List.mem_singleton.mp hV]
        obtain ⟨t, rfl⟩ := hd
        exact ⟨.tail _ (.head _), ⟨t, .tail _ (.tail _ (.head _))⟩, .head _, hdat⟩
  · intro q hq hn
    obtain ⟨h1, h2⟩ := mutOf_mem hn
    obtain ⟨_, c2, _, _, c5, c6, _⟩ := Ids.nmem h1
    refine ⟨inl [_, _, _, _, _, _] _ hq c5 c6 c2, mutOf_not h1 fun V hV => ?_⟩
    rcases List.mem_append.mp hV with hV | hV
    · exact h2 V (hsub.subset hV)
    · rw [List.mem_singleton.mp hV]
      have := fresh q hq
      simp only [Buf.all, List.mem_cons, List.not_mem_nil, or_false, not_or]
      exact this
end
def GetTo (σ : CSt) (k : Int) (σ' : CSt) (V : Buf) : Prop :=
  (∃ U ∈ σ.row, U.k = k ∧ σ' = σ.hit U ∧ V = { U with hd := U.hd + 1 }) ∨ ((∀ W ∈ σ.row, W.k ≠ k) ∧ ∃ row', RoomFor σ.row row' ∧ V.k = k ∧ V.hd = 1 ∧ V.data = (σ.lat k).getD zeros4 ∧ σ' = σ.miss row' V)
def CanGet (σ : CSt) (k : Int) : Prop := (∃ U ∈ σ.row, U.k = k) ∨ ∃ row', RoomFor σ.row row'
theorem GetTo.mem {σ σ' : CSt} {k : Int} {V : Buf} (h : GetTo σ k σ' V) (hn : (σ.row.map (·.k)).Nodup) : V ∈ σ'.row := by
  rcases h with ⟨U, hU, rfl, rfl, rfl⟩ | ⟨_, row', _, _, _, _, rfl⟩
  · exact (mem_upd hn hU).mpr (.inl rfl)
  · exact List.mem_append_right _ (.head _)
theorem GetTo.k {σ σ' : CSt} {k : Int} {V : Buf} (h : GetTo σ k σ' V) : V.k = k := by
  rcases h with ⟨U, hU, rfl, rfl, rfl⟩ | ⟨_, row', _, e, _, _, rfl⟩
  · rfl
  · exact e
theorem GetTo.one {σ σ' : CSt} {k : Int} {V : Buf} (h : GetTo σ k σ' V) (h0 : ∀ U ∈ σ.row, U.k = k → U.hd = 0) : V.hd = 1 := by
  rcases h with ⟨U, hU, rfl, rfl, rfl⟩ | ⟨_, row', _, _, e, _, rfl⟩
  · show U.hd + 1 = 1
    rw [h0 U hU rfl]; rfl
  · exact e
theorem GetTo.us {σ σ' : CSt} {k : Int} {V : Buf} (h : GetTo σ k σ' V) : σ'.us = σ.us := by
  rcases h with ⟨U, hU, rfl, rfl, rfl⟩ | ⟨_, row', _, _, e, _, rfl⟩ <;> rfl
section
variable {prog : Program} {w : World} {p : Program} {loose : List Str} {mean : ExcName → Option Value} {mg mb : Str → Option Value} {dp un : Nat} {gd : Option (List Code)} {cn : Str} {cs : Scope} {a : Addr} {ccd : Value} {cl : List (Str × Addr)} {outer : List Env} {A₀ : Around} {base h₀ : Heap} {L : Addr} {m : Str → Option Value} {s : Shared} {Q E : Value → Shared → Prop} {l : List (Addr × Obj)} {I : Ids} {σ : CSt} {U : Buf}
  (B : Below A₀ base outer h₀) (F : Fr h₀ L s.heap m) (X : (Mine.hd.heap_1 w.params).In h₀) (T : Top p loose mean mg mb h₀) (hk : cs.kind = .function)
include B F X T hk
theorem getR {k : Int} {kt : Tok} (N : News h₀ L s.heap l) (r : Rep prog w I l σ) (hc : CanGet σ k) (hk0 : 0 ≤ k) (hk6 : k < 6) (hnb : σ.nb < 10000) (hdp : dp + 5 < 500) (hun : un + 48 < 5000)
  (hret : ∀ h' tk' l' σ' V, Fr h₀ L h' m → News h₀ L h' l' → GetTo σ k σ' V → Rep prog w I l' σ' → Keep I l σ l' σ' → Q (.ref V.b) { s with heap := h', toks := tk' }) :
   wpD (model prog w) (ktrTop dp un gd cn cs L a ccd cl outer) (call (.ref 228) [.ref I.cI, .int k kt]) Q E s := by
  by_cases e : ∃ U ∈ σ.row, U.k = k
  · obtain ⟨U, hU, rfl⟩ := e
    exact wpD_any (get_hitR B F X T hk N r hU (by omega) (by omega) fun h' tk' l' F' N' r' K' => hret h' tk' l' _ { U with hd := U.hd + 1 } F' N' (.inl ⟨U, hU, rfl, rfl, rfl⟩) r' K')
  · have hno : ∀ V ∈ σ.row, V.k ≠ k := fun V hV q => e ⟨V, hV, q⟩
    rcases hc with hc | ⟨row', hr⟩
    · exact absurd hc e
    · exact get_missR B F X T hk N r hno hr hk0 hk6 hnb hdp hun fun h' tk' l' V F' N' e1 e2 e3 r' K' => hret h' tk' l' _ V F' N' (.inr ⟨hno, row', hr, e1, e2, e3, rfl⟩) r' K'
end
section
variable {prog : Program} {w : World} {p : Program} {loose : List Str} {mean : ExcName → Option Value} {mg mb : Str → Option Value} {dp un : Nat} {gd : Option (List Code)} {cn : Str} {cs : Scope} {a : Addr} {ccd : Value} {cl : List (Str × Addr)} {outer : List Env} {A₀ : Around} {base h₀ : Heap} {L : Addr} {m : Str → Option Value} {s : Shared} {Q E : Value → Shared → Prop} {l : List (Addr × Obj)} {I : Ids} {σ : CSt} {U : Buf}
  (B : Below A₀ base outer h₀) (F : Fr h₀ L s.heap m) (X : (Mine.hd.heap_1 w.params).In h₀) (T : Top p loose mean mg mb h₀) (hk : cs.kind = .function)
include B F X T hk
theorem peekR {k : Int} {kt : Tok} (N : News h₀ L s.heap l) (r : Rep prog w I l σ) (hc : CanGet σ k) (hk0 : 0 ≤ k) (hk6 : k < 6) (hnb : σ.nb < 10000) (h0 : ∀ U ∈ σ.row, U.k = k → U.hd = 0) (hdp : dp + 8 < 500) (hun : un + 80 < 5000)
  (hret : ∀ h' tk' l' σ' V t, Fr h₀ L h' m → News h₀ L h' l' → GetTo σ k σ' V → Rep prog w I l' (σ'.rel V) → Keep I l σ l' (σ'.rel V) → Q (.bytes V.data t) { s with heap := h', toks := tk' }) :
   wpD (model prog w) (ktrTop dp un gd cn cs L a ccd cl outer) (call (.ref 277) [.ref I.cI, .int k kt]) Q E s := by
  have mcI := r.mcI
  obtain ⟨tc9, mcD⟩ := r.mcD
  refine wpD_call ?_
  k_dflt ((refine' code_defD (by k_asm) (by k_asm) (by k_asm) (by k_asm) (by k_asm) (by exact rfl) (by exact rfl) (by assumption) (by k_is) (by k_is) (by ktr_room) (by exact BindsTo.of_eq rfl) (by exact locs rfl) ?_ (by exact rfl) (by exact rfl) (by exact rfl) (by decide); k_whole; intro g'z L'z h'z FG'z F'z N'z B'z X'z T'z; (try dsimp only)))
  refine wpD_execs_cons (wpD_Assign_Name (wpD_methodCall ?_ rfl) rfl)
  k_steps
  k_dflt (refine' callWith_KD ?k1 ?k2 ?_; (case k1 => k_asm); (case k2 => k_is); k_whole)
  k_steps
  (k_dflt (refine' getR (by k_asm) (by k_asm) (by k_asm) (by k_asm) (by walk_at "r") (by k_asm) (by assumption) (by assumption) (by assumption) (by assumption) (by assumption) (by walk_at "h") (by walk_at "h") ?_; k_whole))
  intro h' tk' l' σ' V F' N' g' r' K'
  k_sweep
  have hV := g'.mem r.rok.keys
  have h1 := g'.one h0
  obtain ⟨mVb, ⟨tV, mVd⟩, mVy, zV⟩ := r'.bufs V hV
  have mcI' := r'.mcI
  obtain ⟨tc', mcD'⟩ := r'.mcD
  clear mcI mcD r
  k_steps
  refine wpD_any ?_
  k_steps
  any_goals ((with_reducible show wpAny _ _ (call (Value.ref 242) _ _) _ _ _); k_dflt (refine' releaseR (by k_asm) (by k_asm) (by k_asm) (by k_asm) (by walk_at "r") (by k_asm) (by assumption) (by assumption) (by assumption) (by walk_at "h") (by walk_at "h") ?_; k_whole); intro h8 tk8 l8 F8 N8 r8 K8; (try k_sweep))
  k_steps
  all_goals exact hret _ _ _ σ' V _ (by k_asm) (by k_asm) g' (by assumption) (K'.trans (by assumption))
def PokeTo (σ : CSt) (k : Int) (data : Array UInt8) (σ' : CSt) : Prop := ∃ σ₁ V tp, GetTo σ k σ₁ V ∧ σ' = ((σ₁.fil V data).wr { V with data := data } tp).rel { V with data := data }
theorem pokeR {k : Int} {kt u : Tok} {data : Array UInt8} (N : News h₀ L s.heap l) (r : Rep prog w I l σ) (hc : CanGet σ k) (hk0 : 0 ≤ k) (hk6 : k < 6) (hnb : σ.nb < 10000) (h0 : ∀ U ∈ σ.row, U.k = k → U.hd = 0) (hus : σ.us.size < 10000) (hz : data.size = 4) (hdp : dp + 8 < 500) (hun : un + 80 < 5000)
  (hret : ∀ h' tk' l' σ', Fr h₀ L h' m → News h₀ L h' l' → PokeTo σ k data σ' → Rep prog w I l' σ' → Keep I l σ l' σ' → Q .none { s with heap := h', toks := tk' }) :
   wpD (model prog w) (ktrTop dp un gd cn cs L a ccd cl outer) (call (.ref 284) [.ref I.cI, .int k kt, .bytes data u]) Q E s := by
  have mcI := r.mcI
  obtain ⟨tc9, mcD⟩ := r.mcD
  have mkI := r.mkI
  obtain ⟨tk9, mkD⟩ := r.mkD
  refine wpD_call ?_
  k_dflt ((refine' code_defD (by k_asm) (by k_asm) (by k_asm) (by k_asm) (by k_asm) (by exact rfl) (by exact rfl) (by assumption) (by k_is) (by k_is) (by ktr_room) (by exact BindsTo.of_eq rfl) (by exact locs rfl) ?_ (by exact rfl) (by exact rfl) (by exact rfl) (by decide); k_whole; intro g'z L'z h'z FG'z F'z N'z B'z X'z T'z; (try dsimp only)))
  refine execs_nextD ?_
  k_steps
  dsimp only
  refine execs_nextD ?_
  k_steps
  dsimp only
  refine wpD_execs_cons (wpD_Assign_Name (wpD_methodCall ?_ rfl) rfl)
  k_steps
  k_dflt (refine' callWith_KD ?k1 ?k2 ?_; (case k1 => k_asm); (case k2 => k_is); k_whole)
  k_steps
  (k_dflt (refine' getR (by k_asm) (by k_asm) (by k_asm) (by k_asm) (by walk_at "r") (by k_asm) (by assumption) (by assumption) (by assumption) (by assumption) (by assumption) (by walk_at "h") (by walk_at "h") ?_; k_whole))
  intro h' tk' l' σ' V F' N' g' r' K'
  k_sweep
  have hV := g'.mem r.rok.keys
  have h1 := g'.one h0
  obtain ⟨mVb, ⟨tV, mVd⟩, mVy, zV⟩ := r'.bufs V hV
  clear mcI mcD mkI mkD
  k_steps
  refine wpD_execs_cons (wpD_Expr (wpD_methodCall ?_ rfl) rfl rfl)
  k_steps
  k_dflt (refine' callWith_KD ?k1 ?k2 ?_; (case k1 => k_asm); (case k2 => k_is); k_whole)
  k_steps
  (k_dflt (refine' fillR (by k_asm) (by k_asm) (by k_asm) (by k_asm) (by walk_at "r") (by k_asm) (by assumption) (by assumption) (by assumption) (by walk_at "h") (by walk_at "h") ?_; k_whole))
  intro h' tk' l'' F' N' r'' K''
  k_sweep
  refine ⟨(by intro _ e; cases e), ?_⟩
  try dsimp only
  have hV2 : ({ V with data := data } : Buf) ∈ (σ'.fil V data).row := (mem_upd r'.rok.keys hV).mpr (.inl rfl)
  have h2 : ({ V with data := data } : Buf).hd ≠ 0 := by rw [show ({ V with data := data } : Buf).hd = V.hd from rfl, h1]; decide
  have h3 : ({ V with data := data } : Buf).hd = 1 := h1
  have h4 : (σ'.fil V data).us.size < 10000 := by show σ'.us.size < 10000; rw [g'.us]; exact hus
  clear mVb mVd mVy
  have mcI' := r''.mcI
  obtain ⟨tc', mcD'⟩ := r''.mcD
  refine wpD_any ?_
  k_steps
  k_dflt (refine' writeR (U := { V with data := data }) ?kB ?kF ?kX ?kT ?kk ?kN r'' hV2 h2 h4 ?hdp ?hun ?_; (case kB => k_asm); (case kF => k_asm); (case kX => k_asm); (case kT => k_asm); (case kk => first | rfl | assumption); (case kN => k_asm); (case hdp => first | omega | (dsimp only [ktrTop, Around.deeper, Around.in1]; omega)); (case hun => first | omega | (dsimp only [ktrTop, Around.deeper, Around.in1]; omega)); k_whole)
  intro h' tk' l3 tp' F' N' r3 K3
  k_sweep
  have hV3 : ({ V with data := data } : Buf) ∈ ((σ'.fil V data).wr { V with data := data } tp').row := hV2
  clear mcI' mcD'
  have mcI' := r3.mcI
  obtain ⟨tc3, mcD'⟩ := r3.mcD
  k_steps
  k_dflt (refine' releaseR (U := { V with data := data }) ?kB ?kF ?kX ?kT ?kk ?kN r3 hV3 h3 ?hdp ?hun ?_; (case kB => k_asm); (case kF => k_asm); (case kX => k_asm); (case kT => k_asm); (case kk => first | rfl | assumption); (case kN => k_asm); (case hdp => first | omega | (dsimp only [ktrTop, Around.deeper, Around.in1]; omega)); (case hun => first | omega | (dsimp only [ktrTop, Around.deeper, Around.in1]; omega)); k_whole)
  intro h' tk' l4 F' N' r4 K4
  k_sweep
  k_steps
  all_goals exact hret _ _ _ _ (by k_asm) (by k_asm) ⟨σ', V, tp', g', rfl⟩ r4 (((K'.trans K'').trans K3).trans K4)
end
abbrev excO (C : Addr) (t : Addr) : Obj := { cls := .ref C, dict := none, data := .fields #[.ref t, .none, .none, .none, .bool false, .none], slots := #[] }
section
variable {prog : Program} {w : World} {A : Around} {E : Value → Shared → Prop} {s : Shared} {K : Frag} {h₀ : Heap} {L : Addr} {m : Str → Option Value} {news : List (Addr × Obj)} {C e t N₀ : Addr} {msg : Str} {u : Tok} {Q : Value → Shared → Prop} {nm q : Str} {bs bm : List Value} {hdct : Bool} {sn : List Str} {sub : List Value} {ab : Bool} {col : Option Bool} {dd : Option Addr} {k0 k1 k2 k3 k5 : Option Value} {newId : String}
theorem exc_init (F : Fr h₀ L s.heap m) (X₀ : K.In h₀) (N : News h₀ L s.heap ((e, excO C t) :: news)) (hne : ∀ p ∈ news, p.1 ≠ e)
    (hK : K.lookup C = some (excClassObj nm q C N₀ bs bm hdct sn sub ab col dd k0 k1 k2 k3 k5 newId)) (hcB : (Value.ref C :: bm).contains (.type "ValueError") = true)
    (h : ∀ h' t', Fr h₀ L h' m → News h₀ L h' ((e, excO C t') :: news) → Q .none { s with heap := h' }) : wpAny (model prog w) A (call (.builtin "ValueError.__init__") [.ref e, .str msg u]) Q E s := by
  have Fx := PySem.F.excBase_ValueError
  have hC := X₀.keeps F.keep _ _ hK
  have he := (N _ (.head _)).1
  have F1 := F.push { cls := .type "tuple", data := .seq #[.str msg u] }
  have N1 := News.push F N { cls := .type "tuple", data := .seq #[.str msg u] }
  have hsz : s.heap.objs.size ≠ e := Ne.symm (Nat.ne_of_lt (Heap.lt_size he))
  obtain ⟨F2, N2⟩ := news_upd (f := Obj.mapFields (·.setIfInBounds 0 (.ref s.heap.objs.size))) (pre := [(s.heap.objs.size, _)]) (o' := excO C s.heap.objs.size) F1 N1 (fun p hp => by cases List.mem_singleton.mp hp; exact hsz) hne rfl rfl
  have fin := h _ _ F2 fun p hp => N2 p (.tail _ hp)
  obtain ⟨hp, g, d, tk, os⟩ := s
  refine wpAny_call (codeAny_call_builtin Fx.init.plain Fx.initEntry ?_)
  have hshort := Fx.noStar
  simp only [checkBuiltinCall, Fx.initKind, Fx.initSplit, Fx.initRow]
  repeat (first | with_reducible refine wpAny_loadPart_at he ?_ | with_reducible refine wpAny_loadPart_at hC ?_ | (with_reducible refine wpAny_isSubtype_exc hC ?_; rw [hcB]) | wp_step)
  exact fin
theorem exc_osa {cd : ClassData} {name : Str} {tk : Tok} {v : Value} {R : Result → Shared → Prop} (F : Fr h₀ L s.heap m) (X₀ : K.In h₀) (N : News h₀ L s.heap ((e, excO C t) :: news)) (hne : ∀ p ∈ news, p.1 ≠ e)
    (hc : clsIn K C = some cd) (ha : findIn K (.ref C) name = some none) (hso : subIn K (.ref C) (.type "object") = some true) (hr : refuseLoop (.ref e) "__setattr__" cd.mro = pure ()) (hd : cd.hasDict = true)
    (h : ∀ h' ob, Fr h₀ L h' m → News h₀ L h' ((e, ob) :: news) → ob.cls = .ref C → ob.data = (excO C t).data → R (.ok (.ret .none)) { s with heap := h', toks := s.toks + 1 }) : codeAny (model prog w) A (.call (.builtin "object.__setattr__") ⟨[.ref e, .str name tk, v], []⟩) R s := by
  have X := X₀.keeps F.keep
  have he := (N _ (.head _)).1
  have I : InstAt s.heap e (excO C t) C none := ⟨he, rfl, rfl, trivial⟩
  have SF := PySem.F.store_object
  have sub : Looks (model prog w) s.heap (isInstance (.ref e) (.type "object")) true := I.type.andThen (looks_subIn X hso)
  refine codeAny_call_builtin SF.slot.plain SF.entry (@check_slot (model prog w) _ _ s "object.__setattr__" "object" "__setattr__" (.ref e) [.str name tk, v] [] _ SF.kind SF.split sub (SF.args (.ref e) (.str name tk) v) ?_)
  rw [osa_eq, refuse_eq]
  have hm : Looks (model prog w) s.heap (mroOf (.ref C)) cd.mro := (looks_clsIn X hc).andThen .now
  refine wpAny_bind (wpAny_bind (I.type.here (wpAny_bind (hm.here ?_))))
  rw [hr]
  refine wpAny_pure (wpAny_bind (I.type.here (wpAny_bind ((looks_findIn X ha).here (wpAny_bind (Looks.now.here ?_))))))
  dsimp only
  refine wpAny_bind (wpAny_pure (wpAny_bind (wpAny_bind (wpAny_loadPart he (wpAny_bind ((looks_clsIn X hc).here ?_))))))
  rw [hd]
  have hsz : ∀ p ∈ (e, excO C t) :: news, p.1 ≠ s.heap.objs.size := fun p hp => Nat.ne_of_lt (Heap.lt_size (N p hp).1)
  have F1 := F.push { cls := .type "dict", data := .dict #[] }
  have N1 := News.push F N { cls := .type "dict", data := .dict #[] }
  obtain ⟨F2, N2⟩ := news_upd (f := fun o : Obj => { o with dict := some s.heap.objs.size }) (pre := [(s.heap.objs.size, _)]) (o' := { excO C t with dict := some s.heap.objs.size }) F1 N1 (fun p hp => by cases List.mem_singleton.mp hp; exact Ne.symm (hsz _ (.head _))) hne rfl rfl
  obtain ⟨F3, N3⟩ := news_upd (f := Obj.putName name (PyData.keyHash w.params name) (.str name s.toks) v) (pre := []) F2 N2 (fun _ hp => nomatch hp) (fun p hp => by rcases List.mem_cons.mp hp with rfl | hp; exact hsz (e, excO C t) (.head _); exact hsz _ (.tail _ hp)) rfl rfl
  have D := (N2 _ (.head _)).1
  have D' := (N3 _ (.head _)).1
  have fin := h _ _ F3 (fun p hp => N3 p (.tail _ hp)) rfl rfl
  obtain ⟨hp, g, d, tk, os⟩ := s
  dsimp only at *
  wp_walk
  refine wpAny_askSetting (wpAny_pure (wpAny_bind (wpAny_mkText (wpAny_bind (wpAny_loadPart D ?_)))))
  refine wpAny_updatePart D ?_
  refine wpAny_bind (wpAny_lookBehind D' rfl ?_)
  exact wpAny_pure fin
end
section
variable {prog : Program} {w : World} {A : Around} {E : Value → Shared → Prop} {s : Shared} {K : Frag} {h₀ : Heap} {L : Addr} {m : Str → Option Value} {news : List (Addr × Obj)} {C e t N₀ : Addr} {nm q : Str} {bs bm : List Value} {hdct : Bool} {sn : List Str} {sub : List Value} {ab : Bool} {col : Option Bool} {dd : Option Addr} {k0 k1 k2 k3 k5 : Option Value}
theorem exc_store {cd : ClassData} {name : Str} {v : Value} {Q : Unit → Shared → Prop} (F : Fr h₀ L s.heap m) (X₀ : K.In h₀) (N : News h₀ L s.heap ((e, excO C t) :: news)) (hne : ∀ p ∈ news, p.1 ≠ e)
    (hc : clsIn K C = some cd) (hs : findIn K (.ref C) "__setattr__" = some (some (.builtin "object.__setattr__"))) (ha : findIn K (.ref C) name = some none) (hso : subIn K (.ref C) (.type "object") = some true) (hr : refuseLoop (.ref e) "__setattr__" cd.mro = pure ()) (hd : cd.hasDict = true)
    (h : ∀ h' ob, Fr h₀ L h' m → News h₀ L h' ((e, ob) :: news) → ob.cls = .ref C → ob.data = (excO C t).data → Q () { s with heap := h', toks := s.toks + 1 + 1 }) : wpAny (model prog w) A (setAttr (.ref e) name v) Q E s :=
  set_plain (X₀.keeps F.keep) (show W.InstAt s.heap e (excO C t) C none from ⟨(N _ (.head _)).1, rfl, rfl, trivial⟩) hs (exc_osa (s := { s with toks := s.toks + 1 }) F X₀ N hne hc ha hso hr hd h)
theorem exc_new {v : Value} {R : Result → Shared → Prop} {h : Heap} {g : Array GenState} {d : Drawn} {tk : Nat} {os : OsState} (hC : h.get? C = some (excClassObj nm q C N₀ bs bm hdct sn sub ab col dd k0 k1 k2 k3 k5 "ValueError.__new__"))
    (hcB : (Value.ref C :: bm).contains (.type "ValueError") = true) (hcA : (Value.ref C :: bm).contains (.type "AttributeError") = false) (hcN : (Value.ref C :: bm).contains (.type "NameError") = false)
    (hq : R (.ok (.ret (.ref (h.objs.size + 1)))) ⟨(h.push { cls := .type "tuple", data := .seq #[v] }).push { cls := .ref C, data := .fields #[.ref h.objs.size, .none, .none, .none, .bool false, .none] }, g, d, tk, os⟩) :
    codeAny (model prog w) A (.builtin "ValueError.__new__" ⟨[.ref C, v], []⟩) R ⟨h, g, d, tk, os⟩ := by
  have Fx := PySem.F.excBase_ValueError
  have hends := Fx.ends
  refine codeAny_builtinAt Fx.entry ?_
  unfold Builtin.«BaseException.__new__»
  refine PySem.wpAt_bind ?_
  show PySem.wpAt _ _ _ (stack >>= _) _ _ _
  refine PySem.wpAt_bind (PySem.wpAt_stack fun p below => PySem.wpAt_of_wpAny ?_)
  wp_walk
  refine PySem.wpAt_of_wpAny ?_
  rw [Fx.owner]
  repeat (first | with_reducible refine wpAny_madeHere_exc Fx.canon hC ?_ | with_reducible refine wpAny_loadPart_at hC ?_ | (with_reducible refine wpAny_isSubtype_exc hC ?_; first | rw [hcB] | rw [hcA] | rw [hcN]) | wp_step)
  show R _ _
  rw [Heap.size_push]
  exact hq
theorem exc_call {v : Value} {fI : Addr} {oI : Obj} {Q : Value → Shared → Prop} (X : K.In s.heap) (hK : K.lookup C = some (excClassObj nm q C N₀ bs bm hdct sn sub ab col dd k0 k1 k2 k3 k5 "ValueError.__new__"))
    (hcB : (Value.ref C :: bm).contains (.type "ValueError") = true) (hcA : (Value.ref C :: bm).contains (.type "AttributeError") = false) (hcN : (Value.ref C :: bm).contains (.type "NameError") = false)
    (hi : findIn K (.ref C) "__init__" = some (some (.ref fI))) (hfI : K.lookup fI = some oI) (hfc : oI.cls = .type "function")
    (hq : ∀ h' e t, (∀ b o, s.heap.get? b = some o → h'.get? b = some o) → s.heap.get? e = none → h'.get? e = some (excO C t) → wpAny (model prog w) (A.under (.builtin "type.__call__" ⟨[.ref C, v], []⟩)) (call (.ref fI) [.ref e, v]) (fun r s' => r = .none ∧ Q (.ref e) s') E { s with heap := h' }) :
    wpAny (model prog w) A (call (.ref C) [v]) Q E s := by
  have Fx := PySem.F.excBase_ValueError
  have hC := X _ _ hK
  obtain ⟨h, g, d, tk, os⟩ := s
  have f1 := tc_lookup
  have f2 := tc_bind (.ref C)
  have hT : (⟨h, g, d, tk, os⟩ : Shared).TypeIs (.ref C) "type" := ⟨_, hC, rfl⟩
  refine wpAny_call (codeAny_of_tree ?_)
  show wpAny _ _ (callAny (.ref C) _) _ _ _
  repeat (any_goals (first | assumption | with_reducible refine wpAny_loadPart_at hC ?_ | wp_step))
  refine ⟨rfl, ?_⟩
  refine codeAny_call_builtin_at (Code.quiet_builtin _ (by decide +kernel)) entry_typeCall (wpAny_check_type_call_sub hC ?_)
  repeat (first | with_reducible refine wpAny_loadPart_at hC ?_ | with_reducible refine wpAny_madeBy_exc hC ?_ | wp_step)
  refine codeAny_call_builtin_code (Code.quiet_builtin _ Fx.quiet) (wpAny_check_new_subU Fx (by simpa using hcB) OwnTail.base hC ?_)
  refine exc_new hC hcB hcA hcN ?_
  show wpAny _ _ _ _ _ _
  have st : ∀ b o, h.get? b = some o → ((h.push { cls := .type "tuple", data := .seq #[v] }).push { cls := .ref C, data := .fields #[.ref h.objs.size, .none, .none, .none, .bool false, .none] }).get? b = some o := fun b o x => Heap.get?_push_of_some _ (Heap.get?_push_of_some _ x)
  have X₁ := X.keeps st
  have hC₁ := st _ _ hC
  have hget : ((h.push { cls := .type "tuple", data := .seq #[v] }).push { cls := .ref C, data := .fields #[.ref h.objs.size, .none, .none, .none, .bool false, .none] }).get? (h.objs.size + 1) = some (excO C h.objs.size) := by heap_get
  have hcC : (Value.ref C :: bm).contains (.ref C) = true := by simp
  unfold isInstance
  repeat (first | with_reducible refine wpAny_loadPart_at hget ?_ | (with_reducible refine wpAny_isSubtype_exc hC₁ ?_; rw [hcC]) | wp_step)
  show wpAny _ _ (typeLookup (.ref C) _) _ _ _
  refine (looks_findIn X₁ hi).here ?_
  refine wpAny_holding (wpAny_bind ?_)
  unfold bindSpecial
  refine wpAny_bind (wpAny_typeOf (T := "function") ⟨_, X₁ _ _ hfI, hfc⟩ ?_)
  rw [if_pos (by decide)]
  refine wpAny_pure (wpAny_bind (wpAny_mono (hq _ (h.objs.size + 1) _ st (Heap.get?_none_of_le (Nat.le_succ _)) hget) (fun r s' hr => ?_) fun _ _ x => x))
  obtain ⟨rfl, hQ⟩ := hr
  wp_walk
  exact hQ
end
/-- an exception newly made, of any class: what the ledger says of it -/
structure NewExcK (h₀ : Heap) (L : Addr) (m : Str → Option Value) (news : List (Addr × Obj)) (h' : Heap) (e : Addr) (cls : Value) : Prop where
  fr : Fr h₀ L h' m
  nw : ∃ ob t, News h₀ L h' ((e, ob) :: news) ∧ ob.cls = cls ∧ ob.data = .fields #[.ref t, .none, .none, .none, .bool false, .none]
  ne : ∀ p ∈ news, p.1 ≠ e
section
variable {prog : Program} {w : World} {p : Program} {loose : List Str} {mean : ExcName → Option Value} {mg mb : Str → Option Value} {dp un : Nat} {gd : Option (List Code)} {cn : Str} {cs : Scope} {a : Addr} {ccd : Value} {cl : List (Str × Addr)} {outer : List Env} {A₀ : Around} {base h₀ : Heap} {L : Addr} {m : Str → Option Value} {s : Shared} {Q E : Value → Shared → Prop} {news : List (Addr × Obj)}
  {C N₀ : Addr} {nm q : Str} {bs bm : List Value} {hdct : Bool} {sn : List Str} {sub : List Value} {ab : Bool} {col : Option Bool} {dd : Option Addr} {k0 k1 k2 k3 k5 : Option Value} {cd : ClassData} {msg : Str} {u : Tok}
theorem newExcK (hK : (Mine.hd.heap_1 w.params).lookup C = some (excClassObj nm q C N₀ bs bm hdct sn sub ab col dd k0 k1 k2 k3 k5 "ValueError.__new__"))
    (hcB : (Value.ref C :: bm).contains (.type "ValueError") = true) (hcA : (Value.ref C :: bm).contains (.type "AttributeError") = false) (hcN : (Value.ref C :: bm).contains (.type "NameError") = false)
    (hi : findIn (Mine.hd.heap_1 w.params) (.ref C) "__init__" = some (some (.ref 36))) (hc : clsIn (Mine.hd.heap_1 w.params) C = some cd) (hs : findIn (Mine.hd.heap_1 w.params) (.ref C) "__setattr__" = some (some (.builtin "object.__setattr__"))) (ha : findIn (Mine.hd.heap_1 w.params) (.ref C) "reason" = some none)
    (hso : subIn (Mine.hd.heap_1 w.params) (.ref C) (.type "object") = some true) (hr : ∀ e : Addr, refuseLoop (.ref e) "__setattr__" cd.mro = pure ()) (hd : cd.hasDict = true)
    (B : Below A₀ base outer h₀) (F : Fr h₀ L s.heap m) (X : (Mine.hd.heap_1 w.params).In h₀) (T : Top p loose mean mg mb h₀) (hk : cs.kind = .function) (N : News h₀ L s.heap news) (hdp : dp + 3 < 1000) (hun : un + 30 < 6000)
    (h : ∀ h' tk e, NewExcK h₀ L m news h' e (.ref C) → Q (.ref e) { s with heap := h', toks := tk }) : wpAny (model prog w) (ktrTop dp un gd cn cs L a ccd cl outer) (call (.ref C) [.str msg u]) Q E s := by
  refine exc_call (X.keeps F.keep) hK hcB hcA hcN hi (show (Mine.hd.heap_1 w.params).lookup 36 = some _ from by k_is) rfl fun h1 e t st hn he => ?_
  have F1 := Grew.fr st F
  obtain ⟨N1, hne⟩ := newsNew st F N he hn
  refine wpAny_call ?_
  k_dflt (refine' code_def ?k1 ?k2 ?k3 ?k4 ?k5 ?kA ?kF ?kK ?k6 ?k7 ?k8 ?k9 ?kB ?_ ?c2 ?c3 ?c4 ?c5; (case kA => exact rfl); (case kF => exact rfl); (case kK => assumption); (case k1 => k_asm); (case k2 => k_asm); (case k3 => k_asm); (case k4 => k_asm); (case k5 => k_asm); (case k6 => k_is); (case k7 => k_is); (case k8 => ktr_room); (case k9 => exact binds_K (by k_in) rfl (by k_is) rfl rfl rfl); (case c5 => decide); (case kB => exact locs rfl); (case c2 => exact rfl); (case c3 => exact rfl); (case c4 => exact rfl); k_whole; intro g' L' h' FG' F' N' B' X' T'; (try dsimp only); (try k_fold))
  k_steps
  with_reducible refine' method_type ?a1 ?a2 ?a3 ?a4 ?a5 ?a6 ?_
  case a1 => k_asm
  case a2 => k_asm
  case a3 => kernel_rfl
  case a4 => kernel_rfl
  case a5 => k_is
  case a6 => rfl
  k_steps
  k_dflt (refine exc_init (by k_asm) (by k_asm) (by k_asm) hne hK hcB fun h2 t2 F2 N2 => ?_)
  k_steps
  k_dflt (refine exc_store (by k_asm) (by k_asm) (by k_asm) hne hc hs ha hso (hr _) hd fun h3 ob F3 N3 c3 d3 => ?_)
  k_steps
  exact h _ _ _ ⟨by k_asm, ⟨_, _, by k_asm, c3, d3⟩, hne⟩
end
section
variable {M : Model} {A : Around} {E : Value → Shared → Prop} {s' : Shared} {base g g₂ h : Heap} {outer : List Env} {L e : Addr} {m : Str → Option Value} {env : Env} {Q : Unit → Shared → Prop} {news news' : List (Addr × Obj)} {cls : Value}
theorem ktx_mem {b : Addr} (hf : env.frame = some L) (hm : b ∈ (env :: outer).filterMap (·.frame)) : b = L ∨ b ∈ outer.filterMap (·.frame) := by
  obtain ⟨e', he, hf'⟩ := List.mem_filterMap.mp hm
  rcases List.mem_cons.mp he with rfl | he
  · exact .inl (Option.some.inj (hf'.symm.trans hf))
  · exact .inr (List.mem_filterMap.mpr ⟨e', he, hf'⟩)
/-- a newly made exception leaves the frame in which it is raised -/
theorem leave_newV (hf : env.frame = some L) (hke : env.scope.kind = .function) (K : Below A base outer g) (hx : NewExcK g L m news s'.heap e cls)
    (hQ : ∀ h', RaisedSN base g outer e cls news h' → g.UpToSlots h' → Q () { s' with heap := h' }) : wpAny M (A.deeper env) (leaving env (.ref e)) Q E s' := by
  obtain ⟨F, ⟨ob, tp, N, hcls, hd⟩, hne⟩ := hx
  have K' := pushX K F hf hke
  have Ne := N _ (.head _)
  have be := fresh_of_stays K.stays Ne.2.2
  have hin : ∀ e' ∈ (env :: outer), ∀ b, e'.frame = some b → b ∈ e :: (env :: outer).filterMap (·.frame) := fun e' he b hb => .tail _ (List.mem_filterMap.mpr ⟨e', he, hb⟩)
  have st : base.StaysIn (hideAll s'.heap (e :: (env :: outer).filterMap (·.frame))) := fun b o q => hideAll_get _ (K'.stays b o q) fun hm => by
    rcases List.mem_cons.mp hm with z | hm
    · rw [z, be] at q; cases q
    · rw [(K'.frames.mem hm).1] at q; cases q
  have sg : ∀ b o, g.get? b = some o → b ∉ outer.filterMap (·.frame) → (hideAll s'.heap (e :: (env :: outer).filterMap (·.frame))).get? b = some o := fun b o q nm => hideAll_get _ (F.keep b o q) fun hm => by
    rcases List.mem_cons.mp hm with z | hm
    · rw [z, Ne.2.2] at q; cases q
    · rcases ktx_mem hf hm with z | z
      · rw [z, kts_self F] at q
        cases q
      · exact nm z
  have hl : ∀ q ∈ news, (hideAll s'.heap (e :: (env :: outer).filterMap (·.frame))).get? q.1 = some q.2 ∧ g.get? q.1 = none ∧ base.get? q.1 = none := fun q hq => by
    have hN := N q (.tail _ hq)
    refine ⟨hideAll_get _ hN.1 fun hm => ?_, hN.2.2, fresh_of_stays K.stays hN.2.2⟩
    rcases List.mem_cons.mp hm with z | hm
    · exact hne q hq z
    · rcases ktx_mem hf hm with z | z
      · exact hN.2.1 z
      · obtain ⟨o, ho, _⟩ := (K.frames.mem z).2
        rw [hN.2.2] at ho; cases ho
  have hen : (hideAll s'.heap (e :: (env :: outer).filterMap (·.frame))).get? e = none := hideAll_none _ (.head _)
  refine wpAny_leaving_firstW (a0 := .ref tp) K'.stack (funFrames_hide K'.frames hin) hf Ne.1 (fun b o hb => of_hideAll _ hb) hen hd rfl rfl fun h' hL => ?_
  obtain ⟨k1, ⟨_, _, k2⟩, k3, k4⟩ := hL
  exact hQ h' ⟨_, .ref tp, st, sg, hl, k1, hen, k2, by rw [← hcls]; exact k3⟩ ((Heap.UpToSlots.of_keeps F.keep).trans k4)
/-- an exception in flight leaves one frame more -/
theorem leave_onV (hf : env.frame = some L) (K : Below A base outer g) (F : Fr g L g₂ m) (R : RaisedSN base g₂ (env :: outer) e cls news s'.heap) (hsm : g₂.UpToSlots s'.heap)
    (hQ : ∀ h', RaisedSN base g outer e cls news h' → g.UpToSlots h' → Q () { s' with heap := h' }) : wpAny M (A.deeper env) (leaving env (.ref e)) Q E s' := by
  obtain ⟨B, a0, hB, hBG, hl, hfl⟩ := R
  exact wpAny_leaves_onW (Around.frames_deeper K.stack) hf hfl fun h' x1 x2 =>
    hQ h' ⟨B, a0, hB, fun b o q nm => hBG b o (F.keep b o q) (fun hm => by
      rcases ktx_mem hf hm with z | z
      · rw [z, kts_self F] at q
        cases q
      · exact nm z), fun q hq => ⟨(hl q hq).1, kts_none F.keep (hl q hq).2.1, (hl q hq).2.2⟩, x1⟩ ((Heap.UpToSlots.of_keeps F.keep).trans (hsm.trans x2))
theorem RaisedSN.sub {G : Heap} {l : List Env} (R : RaisedSN base G l e cls news h) (hs : ∀ p ∈ news', p ∈ news) : RaisedSN base G l e cls news' h := by
  obtain ⟨B, a0, hB, hBG, hl, hfl⟩ := R
  exact ⟨B, a0, hB, hBG, fun q hq => hl q (hs q hq), hfl⟩
end
section
variable {prog : Program} {w : World} {A : Around} {E : Value → Shared → Prop} {s : Shared} {env : Env} {K : Frag} {C e : Addr} {h₀ : Heap} {L : Addr} {m : Str → Option Value} {news : List (Addr × Obj)}
/-- `raise X(..)` that its own call makes -/
theorem raiseStmt_V {x : Sem Value} {Q : Flow → Shared → Prop} (hh : A.handled = none) (X : K.In h₀) (hs : subIn K (.ref C) (.type "BaseException") = some true) (hty : typeIn K (.ref C) = some (.type "type"))
    (h : wpAny (model prog w) A x (fun v s₁ => ∃ e, v = .ref e ∧ NewExcK h₀ L m news s₁.heap e (.ref C) ∧ E (.ref e) s₁) E s) : wpAny (model prog w) A (raiseStmt env (some x) none) Q E s := by
  unfold raiseStmt
  refine wpAny_bind (wpAny_mono h (fun v s₁ h₁ => ?_) fun _ _ q => q)
  obtain ⟨e, rfl, hx, hE⟩ := h₁
  obtain ⟨hp, g, d, tk, os⟩ := s₁
  obtain ⟨F, ⟨ob, tp, N, hcls, hd⟩, -⟩ := hx
  have he := (N _ (.head _)).1
  have X' : K.In hp := X.keeps F.keep
  have T1 : Looks (model prog w) hp (typeOf (.ref e)) (.ref C) := hcls ▸ (Looks.ld he).andThen .now
  have T2 : Looks (model prog w) hp (isType (.ref e)) false := by
    unfold isType
    exact (Looks.ld he).andThen (by rw [hd]; exact .now)
  have T3 : Looks (model prog w) hp (isInstance (.ref e) (.type "BaseException")) true := by
    unfold isInstance
    exact T1.andThen (looks_subIn X' hs)
  have T4 := looks_typeIn (M := model prog w) X' hty
  refine wpAny_bind (wpAny_pure ?_)
  dsimp only
  refine wpAny_bind (wpAny_holding ?_)
  unfold excFromValue isExcClass
  refine wpAny_bind (wpAny_bind (T2.at ?_))
  refine wpAny_pure ?_
  refine wpAny_bind (T3.at ?_)
  refine wpAny_pure ?_
  refine wpAny_bind (T2.at ?_)
  refine wpAny_bind ?_
  unfold raisedInstance
  refine wpAny_bind (T1.at (wpAny_bind (T4.at ?_)))
  refine wpAny_pure ?_
  unfold setFlight
  refine wpAny_bind (wpAny_bind (m := field (.ref e) 1) (wpAny_field he hd rfl ?_))
  refine wpAny_pure ?_
  unfold raiseNew
  refine wpAny_bind (wpAny_handled ?_)
  rw [hh]
  exact wpAny_bind (wpAny_pure (wpAny_throw hE))
end
noncomputable abbrev zO (w : World) : Obj := { cls := .type "dict", dict := none, data := bootD w.params, slots := #[] }
section
variable {prog : Program} {w : World} {p : Program} {loose : List Str} {mean : ExcName → Option Value} {mg mb : Str → Option Value} {dp un : Nat} {gd : Option (List Code)} {cn : Str} {cs : Scope} {a : Addr} {ccd : Value} {cl : List (Str × Addr)} {outer : List Env} {A₀ : Around} {base h₀ : Heap} {L : Addr} {m : Str → Option Value} {s : Shared} {Q E : Value → Shared → Prop} {news : List (Addr × Obj)} {msg : Str} {u : Tok}
theorem newExc52 (B : Below A₀ base outer h₀) (F : Fr h₀ L s.heap m) (X : (Mine.hd.heap_1 w.params).In h₀) (T : Top p loose mean mg mb h₀) (hk : cs.kind = .function) (N : News h₀ L s.heap news) (hdp : dp + 3 < 1000) (hun : un + 30 < 6000)
    (h : ∀ h' tk e, NewExcK h₀ L m news h' e (.ref 52) → Q (.ref e) { s with heap := h', toks := tk }) : wpAny (model prog w) (ktrTop dp un gd cn cs L a ccd cl outer) (call (.ref 52) [.str msg u]) Q E s :=
  newExcK (show (Mine.hd.heap_1 w.params).lookup 52 = some (excClassObj _ _ _ _ _ _ _ _ _ _ _ _ _ _ _ _ _ _) from by k_is) (by decide) (by decide) (by decide) (by k_is) (by k_is) (by k_is) (by k_is) (by k_is) (fun e => by kernel_rfl) rfl B F X T hk N hdp hun h
theorem newExc64 (B : Below A₀ base outer h₀) (F : Fr h₀ L s.heap m) (X : (Mine.hd.heap_1 w.params).In h₀) (T : Top p loose mean mg mb h₀) (hk : cs.kind = .function) (N : News h₀ L s.heap news) (hdp : dp + 3 < 1000) (hun : un + 30 < 6000)
    (h : ∀ h' tk e, NewExcK h₀ L m news h' e (.ref 64) → Q (.ref e) { s with heap := h', toks := tk }) : wpAny (model prog w) (ktrTop dp un gd cn cs L a ccd cl outer) (call (.ref 64) [.str msg u]) Q E s :=
  newExcK (show (Mine.hd.heap_1 w.params).lookup 64 = some (excClassObj _ _ _ _ _ _ _ _ _ _ _ _ _ _ _ _ _ _) from by k_is) (by decide) (by decide) (by decide) (by k_is) (by k_is) (by k_is) (by k_is) (by k_is) (fun e => by kernel_rfl) rfl B F X T hk N hdp hun h
theorem newExc76 (B : Below A₀ base outer h₀) (F : Fr h₀ L s.heap m) (X : (Mine.hd.heap_1 w.params).In h₀) (T : Top p loose mean mg mb h₀) (hk : cs.kind = .function) (N : News h₀ L s.heap news) (hdp : dp + 3 < 1000) (hun : un + 30 < 6000)
    (h : ∀ h' tk e, NewExcK h₀ L m news h' e (.ref 76) → Q (.ref e) { s with heap := h', toks := tk }) : wpAny (model prog w) (ktrTop dp un gd cn cs L a ccd cl outer) (call (.ref 76) [.str msg u]) Q E s :=
  newExcK (show (Mine.hd.heap_1 w.params).lookup 76 = some (excClassObj _ _ _ _ _ _ _ _ _ _ _ _ _ _ _ _ _ _) from by k_is) (by decide) (by decide) (by decide) (by k_is) (by k_is) (by k_is) (by k_is) (by k_is) (fun e => by kernel_rfl) rfl B F X T hk N hdp hun h
end
section
variable {prog : Program} {w : World} {A : Around} {E : Value → Shared → Prop} {s : Shared} {h₀ : Heap} {L : Addr} {m : Str → Option Value} {C : Addr} {news : List (Addr × Obj)}
theorem exec_RaiseV {K : Frag} {x : Expr} {pos : Pos} {env : Env} {Q : Flow → Shared → Prop} (hh : A.handled = none) (X : K.In h₀) (F : Fr h₀ L s.heap m) (_N : News h₀ L s.heap news) (hs : subIn K (.ref C) (.type "BaseException") = some true) (hty : typeIn K (.ref C) = some (.type "type"))
    (h : wpAny (model prog w) A (eval x env) (fun v s₁ => ∃ e, v = .ref e ∧ NewExcK h₀ L m news s₁.heap e (.ref C) ∧ E (.ref e) s₁) E s) : wpAny (model prog w) A (exec (.Raise (some x) none pos) env) Q E s := by
  show wpAny _ _ (do standAt pos; raiseStmt env (some (do let v ← eval x env; standAt pos; pure v)) none) _ _ _
  refine wpAny_bind (wpAny_standAt (raiseStmt_V (L := L) (m := m) (news := news) hh X hs hty ?_))
  exact wpAny_bind (wpAny_mono h (fun v s₁ q => wpAny_bind (wpAny_standAt (wpAny_pure q))) fun _ _ q => q)
end
local macro_rules | `(tactic| walk_at "bad") => `(tactic| (intro h' tk' e' g' F' U' R'; (try k_unfold); (try dsimp only); k_dflt (refine' leave_onV rfl (by k_asm) F' R' U' ?_); intro h' R' U'; (try dsimp only)))
local macro_rules | `(tactic| walk_at "exec Raise some none") => `(tactic| first
  | (exfalso; omega)
  | ((with_reducible show wpAny _ _ (exec (Stmt.Raise (some (Expr.Call (Expr.Name ("BadArgument" : Str) _) _ _ _)) none _) _) _ _ _); k_dflt (refine' exec_RaiseV (C := 52) (by rfl) (by k_asm) (by k_asm) (by k_asm) (by k_is) (by k_is) ?_))
  | ((with_reducible show wpAny _ _ (exec (Stmt.Raise (some (Expr.Call (Expr.Name ("BadDisk" : Str) _) _ _ _)) none _) _) _ _ _); k_dflt (refine' exec_RaiseV (C := 64) (by rfl) (by k_asm) (by k_asm) (by k_asm) (by k_is) (by k_is) ?_))
  | ((with_reducible show wpAny _ _ (exec (Stmt.Raise (some (Expr.Call (Expr.Name ("NoRoom" : Str) _) _ _ _)) none _) _) _ _ _); k_dflt (refine' exec_RaiseV (C := 76) (by rfl) (by k_asm) (by k_asm) (by k_asm) (by k_is) (by k_is) ?_)))
local macro_rules | `(tactic| walk_at "call ref") => `(tactic| ((with_reducible show wpAny _ _ (call (Value.ref 52) _ _) _ _ _); k_dflt (refine' newExc52 (by k_asm) (by k_asm) (by k_asm) (by k_asm) (by walk_at "r") (by k_asm) (by walk_at "h") (by walk_at "h") ?_); intro h' tk' e' x'; refine ⟨_, rfl, x', ?_⟩; (try k_unfold); (try dsimp only); k_dflt (refine' leave_newV rfl rfl (by k_asm) x' ?_); intro h' R' U'; (try dsimp only)))
section
variable {prog : Program} {w : World} {p : Program} {loose : List Str} {mean : ExcName → Option Value} {mg mb : Str → Option Value} {dp un : Nat} {gd : Option (List Code)} {cn : Str} {cs : Scope} {a : Addr} {ccd : Value} {cl : List (Str × Addr)} {outer : List Env} {A₀ : Around} {base h₀ : Heap} {L : Addr} {m : Str → Option Value} {s : Shared} {Q E : Value → Shared → Prop} {news : List (Addr × Obj)}
  (B : Below A₀ base outer h₀) (F : Fr h₀ L s.heap m) (X : (Mine.hd.heap_1 w.params).In h₀) (T : Top p loose mean mg mb h₀) (hk : cs.kind = .function) (ZB : base.get? 0 = some (zO w))
include B F X T hk ZB
theorem need_block_bad {cI cD kI kD rw bn kept lt uf : Addr} {tc tk : Nat → Tok} {hits reads writes dw k : Int} {kt : Tok}
  (N : News h₀ L s.heap (news)) (m1 : (cI, instObj 304 cD) ∈ news) (m2 : (cD, cacheD w tc kI rw bn hits reads writes) ∈ news) (m3 : (kI, instObj 402 kD) ∈ news) (m4 : (kD, diskD w tk kept lt uf dw) ∈ news) (c1 : k < 0 ∨ 6 ≤ k)
  (hdp : dp + 1 < 500) (hun : un + 8 < 5000)
  (hE : ∀ h' tk' e g, Fr h₀ L g m → g.UpToSlots h' → RaisedSN base g (envX cn cs L a ccd cl :: outer) e (.ref 64) news h' → E (.ref e) { s with heap := h', toks := tk' }) :
   wpAny (model prog w) (ktrTop dp un gd cn cs L a ccd cl outer) (call (.ref 214) [.ref cI, .int k kt]) Q E s := by
  refine wpAny_call ?_
  k_dflt ktr_enter
  have Z' : (_ : Heap).get? 0 = some (zO w) := (by assumption : Below _ _ _ _).stays _ _ ZB
  k_steps
  any_goals ((with_reducible show wpAny _ _ (call (Value.ref 64) _ _) _ _ _); k_dflt (refine' newExc64 (by k_asm) (by k_asm) (by k_asm) (by k_asm) (by walk_at "r") (by k_asm) (by walk_at "h") (by walk_at "h") ?_); intro h' tk' e' x'; refine ⟨_, rfl, x', ?_⟩; (try k_unfold); (try dsimp only); k_dflt (refine' leave_newV rfl rfl (by k_asm) x' ?_); intro h' R' U'; (try dsimp only))
  k_steps
  all_goals exact hE _ _ _ _ (by k_asm) (by assumption) (by assumption)
end
section
variable {prog : Program} {w : World} {p : Program} {loose : List Str} {mean : ExcName → Option Value} {mg mb : Str → Option Value} {dp un : Nat} {gd : Option (List Code)} {cn : Str} {cs : Scope} {a : Addr} {ccd : Value} {cl : List (Str × Addr)} {outer : List Env} {A₀ : Around} {base h₀ : Heap} {L : Addr} {m : Str → Option Value} {s : Shared} {Q E : Value → Shared → Prop} {news : List (Addr × Obj)}
  (B : Below A₀ base outer h₀) (F : Fr h₀ L s.heap m) (X : (Mine.hd.heap_1 w.params).In h₀) (T : Top p loose mean mg mb h₀) (hk : cs.kind = .function) (ZB : base.get? 0 = some (zO w))
include B F X T hk ZB
theorem get_bad {cI cD kI kD rw bn kept lt uf : Addr} {tc tk : Nat → Tok} {hits reads writes dw k : Int} {kt : Tok}
  (N : News h₀ L s.heap (news)) (m1 : (cI, instObj 304 cD) ∈ news) (m2 : (cD, cacheD w tc kI rw bn hits reads writes) ∈ news) (m3 : (kI, instObj 402 kD) ∈ news) (m4 : (kD, diskD w tk kept lt uf dw) ∈ news) (c1 : k < 0 ∨ 6 ≤ k)
  (hdp : dp + 2 < 500) (hun : un + 16 < 5000)
  (hE : ∀ h' tk' e g, Fr h₀ L g m → g.UpToSlots h' → RaisedSN base g (envX cn cs L a ccd cl :: outer) e (.ref 64) news h' → E (.ref e) { s with heap := h', toks := tk' }) :
   wpAny (model prog w) (ktrTop dp un gd cn cs L a ccd cl outer) (call (.ref 228) [.ref cI, .int k kt]) Q E s := by
  refine wpAny_call ?_
  k_dflt ktr_enter
  have Z' : (_ : Heap).get? 0 = some (zO w) := (by assumption : Below _ _ _ _).stays _ _ ZB
  k_steps
  any_goals ((with_reducible show wpAny _ _ (call (Value.ref 214) _ _) _ _ _); k_dflt (refine' need_block_bad (by k_asm) (by k_asm) (by k_asm) (by k_asm) (by walk_at "r") (by assumption) (by k_asm) (by k_mem) (by k_mem) (by k_mem) (by k_mem) (by walk_at "o") (by walk_at "h") (by walk_at "h") ?_; k_whole); walk_at "bad")
  k_steps
  all_goals first | exact hE _ _ _ _ (by k_asm) (by assumption) (by first | assumption | exact RaisedSN.sub (by assumption) (fun p hp => .tail _ hp)) | (exfalso; omega)
end
section
variable {prog : Program} {w : World} {p : Program} {loose : List Str} {mean : ExcName → Option Value} {mg mb : Str → Option Value} {dp un : Nat} {gd : Option (List Code)} {cn : Str} {cs : Scope} {a : Addr} {ccd : Value} {cl : List (Str × Addr)} {outer : List Env} {A₀ : Around} {base h₀ : Heap} {L : Addr} {m : Str → Option Value} {s : Shared} {Q E : Value → Shared → Prop} {news : List (Addr × Obj)}
  (B : Below A₀ base outer h₀) (F : Fr h₀ L s.heap m) (X : (Mine.hd.heap_1 w.params).In h₀) (T : Top p loose mean mg mb h₀) (hk : cs.kind = .function) (ZB : base.get? 0 = some (zO w))
include B F X T hk ZB
theorem peek_bad {cI cD kI kD rw bn kept lt uf : Addr} {tc tk : Nat → Tok} {hits reads writes dw k : Int} {kt : Tok}
  (N : News h₀ L s.heap (news)) (m1 : (cI, instObj 304 cD) ∈ news) (m2 : (cD, cacheD w tc kI rw bn hits reads writes) ∈ news) (m3 : (kI, instObj 402 kD) ∈ news) (m4 : (kD, diskD w tk kept lt uf dw) ∈ news) (c1 : k < 0 ∨ 6 ≤ k)
  (hdp : dp + 3 < 500) (hun : un + 24 < 5000)
  (hE : ∀ h' tk' e g, Fr h₀ L g m → g.UpToSlots h' → RaisedSN base g (envX cn cs L a ccd cl :: outer) e (.ref 64) news h' → E (.ref e) { s with heap := h', toks := tk' }) :
   wpAny (model prog w) (ktrTop dp un gd cn cs L a ccd cl outer) (call (.ref 277) [.ref cI, .int k kt]) Q E s := by
  refine wpAny_call ?_
  k_dflt ktr_enter
  have Z' : (_ : Heap).get? 0 = some (zO w) := (by assumption : Below _ _ _ _).stays _ _ ZB
  k_steps
  any_goals ((with_reducible show wpAny _ _ (call (Value.ref 228) _ _) _ _ _); k_dflt (refine' get_bad (by k_asm) (by k_asm) (by k_asm) (by k_asm) (by walk_at "r") (by assumption) (by k_asm) (by k_mem) (by k_mem) (by k_mem) (by k_mem) (by walk_at "o") (by walk_at "h") (by walk_at "h") ?_; k_whole); walk_at "bad")
  k_steps
  all_goals first | exact hE _ _ _ _ (by k_asm) (by assumption) (by first | assumption | exact RaisedSN.sub (by assumption) (fun p hp => .tail _ hp)) | (exfalso; omega)
end
section
variable {prog : Program} {w : World} {p : Program} {loose : List Str} {mean : ExcName → Option Value} {mg mb : Str → Option Value} {dp un : Nat} {gd : Option (List Code)} {cn : Str} {cs : Scope} {a : Addr} {ccd : Value} {cl : List (Str × Addr)} {outer : List Env} {A₀ : Around} {base h₀ : Heap} {L : Addr} {m : Str → Option Value} {s : Shared} {Q E : Value → Shared → Prop} {news : List (Addr × Obj)}
  (B : Below A₀ base outer h₀) (F : Fr h₀ L s.heap m) (X : (Mine.hd.heap_1 w.params).In h₀) (T : Top p loose mean mg mb h₀) (hk : cs.kind = .function) (ZB : base.get? 0 = some (zO w))
include B F X T hk ZB
theorem poke_badk {cI cD kI kD rw bn kept lt uf : Addr} {tc tk : Nat → Tok} {hits reads writes dw k : Int} {kt : Tok} {u : Tok} {data : Array UInt8}
  (N : News h₀ L s.heap (news)) (m1 : (cI, instObj 304 cD) ∈ news) (m2 : (cD, cacheD w tc kI rw bn hits reads writes) ∈ news) (m3 : (kI, instObj 402 kD) ∈ news) (m4 : (kD, diskD w tk kept lt uf dw) ∈ news) (c1 : k < 0 ∨ 6 ≤ k)
  (hdp : dp + 2 < 500) (hun : un + 16 < 5000)
  (hE : ∀ h' tk' e g, Fr h₀ L g m → g.UpToSlots h' → RaisedSN base g (envX cn cs L a ccd cl :: outer) e (.ref 64) news h' → E (.ref e) { s with heap := h', toks := tk' }) :
   wpAny (model prog w) (ktrTop dp un gd cn cs L a ccd cl outer) (call (.ref 284) [.ref cI, .int k kt, .bytes data u]) Q E s := by
  refine wpAny_call ?_
  k_dflt ktr_enter
  have Z' : (_ : Heap).get? 0 = some (zO w) := (by assumption : Below _ _ _ _).stays _ _ ZB
  k_steps
  any_goals ((with_reducible show wpAny _ _ (call (Value.ref 214) _ _) _ _ _); k_dflt (refine' need_block_bad (by k_asm) (by k_asm) (by k_asm) (by k_asm) (by walk_at "r") (by assumption) (by k_asm) (by k_mem) (by k_mem) (by k_mem) (by k_mem) (by walk_at "o") (by walk_at "h") (by walk_at "h") ?_; k_whole); walk_at "bad")
  k_steps
  all_goals first | exact hE _ _ _ _ (by k_asm) (by assumption) (by first | assumption | exact RaisedSN.sub (by assumption) (fun p hp => .tail _ hp)) | (exfalso; omega)
end
section
variable {prog : Program} {w : World} {p : Program} {loose : List Str} {mean : ExcName → Option Value} {mg mb : Str → Option Value} {dp un : Nat} {gd : Option (List Code)} {cn : Str} {cs : Scope} {a : Addr} {ccd : Value} {cl : List (Str × Addr)} {outer : List Env} {A₀ : Around} {base h₀ : Heap} {L : Addr} {m : Str → Option Value} {s : Shared} {Q E : Value → Shared → Prop} {news : List (Addr × Obj)}
  (B : Below A₀ base outer h₀) (F : Fr h₀ L s.heap m) (X : (Mine.hd.heap_1 w.params).In h₀) (T : Top p loose mean mg mb h₀) (hk : cs.kind = .function) (ZB : base.get? 0 = some (zO w))
include B F X T hk ZB
theorem poke_bads {cI cD kI kD rw bn kept lt uf : Addr} {tc tk : Nat → Tok} {hits reads writes dw k : Int} {kt : Tok} {u : Tok} {data : Array UInt8}
  (N : News h₀ L s.heap (news)) (m1 : (cI, instObj 304 cD) ∈ news) (m2 : (cD, cacheD w tc kI rw bn hits reads writes) ∈ news) (m3 : (kI, instObj 402 kD) ∈ news) (m4 : (kD, diskD w tk kept lt uf dw) ∈ news) (c1 : 0 ≤ k) (c2 : k < 6) (c3 : data.size < 100) (c4 : data.size ≠ 4)
  (hdp : dp + 2 < 500) (hun : un + 16 < 5000)
  (hE : ∀ h' tk' e g, Fr h₀ L g m → g.UpToSlots h' → RaisedSN base g (envX cn cs L a ccd cl :: outer) e (.ref 52) news h' → E (.ref e) { s with heap := h', toks := tk' }) :
   wpAny (model prog w) (ktrTop dp un gd cn cs L a ccd cl outer) (call (.ref 284) [.ref cI, .int k kt, .bytes data u]) Q E s := by
  refine wpAny_call ?_
  k_dflt ktr_enter
  have Z' : (_ : Heap).get? 0 = some (zO w) := (by assumption : Below _ _ _ _).stays _ _ ZB
  k_steps
  any_goals ((with_reducible show wpAny _ _ (call (Value.ref 228) _ _) _ _ _); k_dflt (refine' get_bad (by k_asm) (by k_asm) (by k_asm) (by k_asm) (by walk_at "r") (by assumption) (by k_asm) (by k_mem) (by k_mem) (by k_mem) (by k_mem) (by walk_at "o") (by walk_at "h") (by walk_at "h") ?_; k_whole); walk_at "bad")
  k_steps
  all_goals first | exact hE _ _ _ _ (by k_asm) (by assumption) (by first | assumption | exact RaisedSN.sub (by assumption) (fun p hp => .tail _ hp)) | (exfalso; omega)
end
section
variable {prog : Program} {w : World} {p : Program} {loose : List Str} {mean : ExcName → Option Value} {mg mb : Str → Option Value} {dp un : Nat} {gd : Option (List Code)} {cn : Str} {cs : Scope} {a : Addr} {ccd : Value} {cl : List (Str × Addr)} {outer : List Env} {A₀ : Around} {base h₀ : Heap} {L : Addr} {m : Str → Option Value} {s : Shared} {Q E : Value → Shared → Prop} {news : List (Addr × Obj)}
  (B : Below A₀ base outer h₀) (F : Fr h₀ L s.heap m) (X : (Mine.hd.heap_1 w.params).In h₀) (T : Top p loose mean mg mb h₀) (hk : cs.kind = .function) (ZB : base.get? 0 = some (zO w))
include B F X T hk ZB
theorem fill_bad {b d y : Addr} {tb : Nat → Tok} {k hd : Int} {old data : Array UInt8} {u : Tok}
  (N : News h₀ L s.heap (news)) (m1 : (b, instObj 189 d) ∈ news) (m2 : (d, bufD w tb k y hd) ∈ news) (m3 : (y, baO old) ∈ news) (c1 : old.size = 4) (c2 : data.size < 100) (c3 : data.size ≠ 4)
  (hdp : dp + 2 < 500) (hun : un + 16 < 5000)
  (hE : ∀ h' tk' e g, Fr h₀ L g m → g.UpToSlots h' → RaisedSN base g (envX cn cs L a ccd cl :: outer) e (.ref 52) news h' → E (.ref e) { s with heap := h', toks := tk' }) :
   wpAny (model prog w) (ktrTop dp un gd cn cs L a ccd cl outer) (call (.ref 153) [.ref b, .bytes data u]) Q E s := by
  refine wpAny_call ?_
  k_dflt ktr_enter
  have Z' : (_ : Heap).get? 0 = some (zO w) := (by assumption : Below _ _ _ _).stays _ _ ZB
  k_steps
  all_goals first | exact hE _ _ _ _ (by k_asm) (by assumption) (by first | assumption | exact RaisedSN.sub (by assumption) (fun p hp => .tail _ hp)) | (exfalso; omega)
end
section
variable {prog : Program} {w : World} {p : Program} {loose : List Str} {mean : ExcName → Option Value} {mg mb : Str → Option Value} {dp un : Nat} {gd : Option (List Code)} {cn : Str} {cs : Scope} {a : Addr} {ccd : Value} {cl : List (Str × Addr)} {outer : List Env} {A₀ : Around} {base h₀ : Heap} {L : Addr} {m : Str → Option Value} {s : Shared} {Q E : Value → Shared → Prop} {news : List (Addr × Obj)}
  (B : Below A₀ base outer h₀) (F : Fr h₀ L s.heap m) (X : (Mine.hd.heap_1 w.params).In h₀) (T : Top p loose mean mg mb h₀) (hk : cs.kind = .function) (ZB : base.get? 0 = some (zO w))
include B F X T hk ZB
theorem unpin_bad0 {cI cD kI rw bn : Addr} {tc : Nat → Tok} {hits reads writes k : Int} {kt : Tok} {ob : Obj} {kvs : List (Int × Value)}
  (N : News h₀ L s.heap (news)) (m1 : (cI, instObj 304 cD) ∈ news) (m2 : (cD, cacheD w tc kI rw bn hits reads writes) ∈ news) (m3 : (bn, ob) ∈ news) (c1 : ob.IsDictOf (intKind prog w) kvs) (c2 : (bn == sysModules) = false) (c3 : valueAt kvs k = none)
  (hdp : dp + 2 < 500) (hun : un + 16 < 5000)
  (hE : ∀ h' tk' e g, Fr h₀ L g m → g.UpToSlots h' → RaisedSN base g (envX cn cs L a ccd cl :: outer) e (.ref 52) news h' → E (.ref e) { s with heap := h', toks := tk' }) :
   wpAny (model prog w) (ktrTop dp un gd cn cs L a ccd cl outer) (call (.ref 256) [.ref cI, .int k kt]) Q E s := by
  refine wpAny_call ?_
  k_dflt ktr_enter
  have Z' : (_ : Heap).get? 0 = some (zO w) := (by assumption : Below _ _ _ _).stays _ _ ZB
  k_steps
  all_goals first | exact hE _ _ _ _ (by k_asm) (by assumption) (by first | assumption | exact RaisedSN.sub (by assumption) (fun p hp => .tail _ hp)) | (exfalso; omega)
end
section
variable {prog : Program} {w : World} {p : Program} {loose : List Str} {mean : ExcName → Option Value} {mg mb : Str → Option Value} {dp un : Nat} {gd : Option (List Code)} {cn : Str} {cs : Scope} {a : Addr} {ccd : Value} {cl : List (Str × Addr)} {outer : List Env} {A₀ : Around} {base h₀ : Heap} {L : Addr} {m : Str → Option Value} {s : Shared} {Q E : Value → Shared → Prop} {news : List (Addr × Obj)}
  (B : Below A₀ base outer h₀) (F : Fr h₀ L s.heap m) (X : (Mine.hd.heap_1 w.params).In h₀) (T : Top p loose mean mg mb h₀) (hk : cs.kind = .function) (ZB : base.get? 0 = some (zO w))
include B F X T hk ZB
theorem unpin_bad1 {cI cD kI rw bn b d y : Addr} {tc tb : Nat → Tok} {hits reads writes k hd : Int} {kt : Tok} {ob : Obj} {kvs : List (Int × Value)}
  (N : News h₀ L s.heap (news)) (m1 : (cI, instObj 304 cD) ∈ news) (m2 : (cD, cacheD w tc kI rw bn hits reads writes) ∈ news) (m3 : (bn, ob) ∈ news) (m4 : (b, instObj 189 d) ∈ news) (m5 : (d, bufD w tb k y hd) ∈ news) (c1 : ob.IsDictOf (intKind prog w) kvs) (c2 : (bn == sysModules) = false) (c3 : valueAt kvs k = some (.ref b))
  (hdp : dp + 2 < 500) (hun : un + 16 < 5000)
  (hE : ∀ h' tk' e g, Fr h₀ L g m → g.UpToSlots h' → RaisedSN base g (envX cn cs L a ccd cl :: outer) e (.ref 52) news h' → E (.ref e) { s with heap := h', toks := tk' }) :
   wpAny (model prog w) (ktrTop dp un gd cn cs L a ccd cl outer) (call (.ref 256) [.ref cI, .int k kt]) Q E s := by
  refine wpAny_call ?_
  k_dflt ktr_enter
  have Z' : (_ : Heap).get? 0 = some (zO w) := (by assumption : Below _ _ _ _).stays _ _ ZB
  k_steps
  all_goals first | exact hE _ _ _ _ (by k_asm) (by assumption) (by first | assumption | exact RaisedSN.sub (by assumption) (fun p hp => .tail _ hp)) | (exfalso; omega)
end
section
variable {prog : Program} {w : World} {p : Program} {loose : List Str} {mean : ExcName → Option Value} {mg mb : Str → Option Value} {dp un : Nat} {gd : Option (List Code)} {cn : Str} {cs : Scope} {a : Addr} {ccd : Value} {cl : List (Str × Addr)} {outer : List Env} {A₀ : Around} {base h₀ : Heap} {L : Addr} {m : Str → Option Value} {s : Shared} {Q E : Value → Shared → Prop} {news : List (Addr × Obj)}
  (B : Below A₀ base outer h₀) (F : Fr h₀ L s.heap m) (X : (Mine.hd.heap_1 w.params).In h₀) (T : Top p loose mean mg mb h₀) (hk : cs.kind = .function) (ZB : base.get? 0 = some (zO w))
include B F X T hk ZB
theorem put_little_bad {b : Addr} {pl ct v : Int} {pt ctt vt : Tok} {d : Addr}
  (N : News h₀ L s.heap (news)) (m1 : (b, instObj 189 d) ∈ news) (c1 : ct < 0)
  (hdp : dp + 2 < 500) (hun : un + 16 < 5000)
  (hE : ∀ h' tk' e g, Fr h₀ L g m → g.UpToSlots h' → RaisedSN base g (envX cn cs L a ccd cl :: outer) e (.ref 52) news h' → E (.ref e) { s with heap := h', toks := tk' }) :
   wpAny (model prog w) (ktrTop dp un gd cn cs L a ccd cl outer) (call (.ref 172) [.ref b, .int pl pt, .int ct ctt, .int v vt]) Q E s := by
  refine wpAny_call ?_
  k_dflt ((refine' code_defC (by k_asm) (by k_asm) (by k_asm) (by k_asm) (by k_asm) (by exact rfl) (by exact rfl) (by assumption) (by k_is) (by k_is) (by ktr_room) (by exact BindsTo.of_eq rfl) (by exact rfl) (by decide +kernel) ?_ (by exact rfl) (by exact rfl) (by exact rfl); k_whole; intro g' L' h' tk' cells' FG' F' N' Y' B' X' T' l1; (try k_lt l1); k_cells Y'; (try simp only [List.cons_append, List.nil_append] at N'); (try dsimp only); (try k_fold)))
  have Z' : (_ : Heap).get? 0 = some (zO w) := (by assumption : Below _ _ _ _).stays _ _ ZB
  k_steps
  all_goals first | exact hE _ _ _ _ (by k_asm) (by assumption) (by first | assumption | exact RaisedSN.sub (by assumption) (fun p hp => .tail _ hp)) | (exfalso; omega)
end
section
variable {prog : Program} {w : World} {p : Program} {loose : List Str} {mean : ExcName → Option Value} {mg mb : Str → Option Value} {dp un : Nat} {gd : Option (List Code)} {cn : Str} {cs : Scope} {a : Addr} {ccd : Value} {cl : List (Str × Addr)} {outer : List Env} {A₀ : Around} {base h₀ : Heap} {L : Addr} {m : Str → Option Value} {s : Shared} {Q E : Value → Shared → Prop} {news : List (Addr × Obj)}
  (B : Below A₀ base outer h₀) (F : Fr h₀ L s.heap m) (X : (Mine.hd.heap_1 w.params).In h₀) (T : Top p loose mean mg mb h₀) (hk : cs.kind = .function) (ZB : base.get? 0 = some (zO w))
include B F X T hk ZB
theorem need_held_bad {cI cD kI rw bn b d y : Addr} {tc tb : Nat → Tok} {hits reads writes k : Int} {ob : Obj} {kvs : List (Int × Value)}
  (N : News h₀ L s.heap (news)) (m1 : (cI, instObj 304 cD) ∈ news) (m2 : (cD, cacheD w tc kI rw bn hits reads writes) ∈ news) (m3 : (bn, ob) ∈ news) (m4 : (b, instObj 189 d) ∈ news) (m5 : (d, bufD w tb k y 0) ∈ news) (c1 : ob.IsDictOf (intKind prog w) kvs) (c2 : (bn == sysModules) = false) (c3 : valueAt kvs k = some (.ref b))
  (hdp : dp + 2 < 500) (hun : un + 16 < 5000)
  (hE : ∀ h' tk' e g, Fr h₀ L g m → g.UpToSlots h' → RaisedSN base g (envX cn cs L a ccd cl :: outer) e (.ref 52) news h' → E (.ref e) { s with heap := h', toks := tk' }) :
   wpAny (model prog w) (ktrTop dp un gd cn cs L a ccd cl outer) (call (.ref 221) [.ref cI, .ref b]) Q E s := by
  refine wpAny_call ?_
  k_dflt ktr_enter
  have Z' : (_ : Heap).get? 0 = some (zO w) := (by assumption : Below _ _ _ _).stays _ _ ZB
  k_steps
  all_goals first | exact hE _ _ _ _ (by k_asm) (by assumption) (by first | assumption | exact RaisedSN.sub (by assumption) (fun p hp => .tail _ hp)) | (exfalso; omega)
end
section
variable {prog : Program} {w : World} {p : Program} {loose : List Str} {mean : ExcName → Option Value} {mg mb : Str → Option Value} {dp un : Nat} {gd : Option (List Code)} {cn : Str} {cs : Scope} {a : Addr} {ccd : Value} {cl : List (Str × Addr)} {outer : List Env} {A₀ : Around} {base h₀ : Heap} {L : Addr} {m : Str → Option Value} {s : Shared} {Q E : Value → Shared → Prop} {news : List (Addr × Obj)}
  (B : Below A₀ base outer h₀) (F : Fr h₀ L s.heap m) (X : (Mine.hd.heap_1 w.params).In h₀) (T : Top p loose mean mg mb h₀) (hk : cs.kind = .function) (ZB : base.get? 0 = some (zO w))
include B F X T hk ZB
theorem release_bad {cI cD kI rw bn b d y : Addr} {tc tb : Nat → Tok} {hits reads writes k : Int} {ob : Obj} {kvs : List (Int × Value)}
  (N : News h₀ L s.heap (news)) (m1 : (cI, instObj 304 cD) ∈ news) (m2 : (cD, cacheD w tc kI rw bn hits reads writes) ∈ news) (m3 : (bn, ob) ∈ news) (m4 : (b, instObj 189 d) ∈ news) (m5 : (d, bufD w tb k y 0) ∈ news) (c1 : ob.IsDictOf (intKind prog w) kvs) (c2 : (bn == sysModules) = false) (c3 : valueAt kvs k = some (.ref b))
  (hdp : dp + 3 < 500) (hun : un + 24 < 5000)
  (hE : ∀ h' tk' e g, Fr h₀ L g m → g.UpToSlots h' → RaisedSN base g (envX cn cs L a ccd cl :: outer) e (.ref 52) news h' → E (.ref e) { s with heap := h', toks := tk' }) :
   wpAny (model prog w) (ktrTop dp un gd cn cs L a ccd cl outer) (call (.ref 242) [.ref cI, .ref b]) Q E s := by
  refine wpAny_call ?_
  k_dflt ktr_enter
  have Z' : (_ : Heap).get? 0 = some (zO w) := (by assumption : Below _ _ _ _).stays _ _ ZB
  k_steps
  any_goals ((with_reducible show wpAny _ _ (call (Value.ref 221) _ _) _ _ _); k_dflt (refine' need_held_bad (by k_asm) (by k_asm) (by k_asm) (by k_asm) (by walk_at "r") (by assumption) (by k_asm) (by k_mem) (by k_mem) (by k_mem) (by k_mem) (by k_mem) (by walk_at "o") (by walk_at "o") (by walk_at "o") (by walk_at "h") (by walk_at "h") ?_; k_whole); walk_at "bad")
  k_steps
  all_goals first | exact hE _ _ _ _ (by k_asm) (by assumption) (by first | assumption | exact RaisedSN.sub (by assumption) (fun p hp => .tail _ hp)) | (exfalso; omega)
end
section
variable {prog : Program} {w : World} {p : Program} {loose : List Str} {mean : ExcName → Option Value} {mg mb : Str → Option Value} {dp un : Nat} {gd : Option (List Code)} {cn : Str} {cs : Scope} {a : Addr} {ccd : Value} {cl : List (Str × Addr)} {outer : List Env} {A₀ : Around} {base h₀ : Heap} {L : Addr} {m : Str → Option Value} {s : Shared} {Q E : Value → Shared → Prop} {news : List (Addr × Obj)}
  (B : Below A₀ base outer h₀) (F : Fr h₀ L s.heap m) (X : (Mine.hd.heap_1 w.params).In h₀) (T : Top p loose mean mg mb h₀) (hk : cs.kind = .function)
include B F X T hk
theorem need_part_ok {b d y : Addr} {tb : Nat → Tok} {k hd pl ct : Int} {pt ctt : Tok} {data : Array UInt8}
  (N : News h₀ L s.heap (news)) (m1 : (b, instObj 189 d) ∈ news) (m2 : (d, bufD w tb k y hd) ∈ news) (m3 : (y, baO data) ∈ news) (c1 : 0 ≤ pl) (c2 : 0 ≤ ct) (c3 : pl + ct ≤ 4) (c4 : data.size = 4)
  (hdp : dp + 1 < 500) (hun : un + 8 < 5000)
  (hret : ∀ h' tk' , Fr h₀ L h' m → News h₀ L h' (news) → Q .none { s with heap := h', toks := tk' }) :
   wpAny (model prog w) (ktrTop dp un gd cn cs L a ccd cl outer) (call (.ref 132) [.ref b, .int pl pt, .int ct ctt]) Q E s := by
  refine wpAny_call ?_
  k_dflt ktr_enter
  k_steps
  all_goals exact hret _ _  (by k_asm) (by first | k_asm | exact newsTail (by k_asm))
end
section
variable {prog : Program} {w : World} {p : Program} {loose : List Str} {mean : ExcName → Option Value} {mg mb : Str → Option Value} {dp un : Nat} {gd : Option (List Code)} {cn : Str} {cs : Scope} {a : Addr} {ccd : Value} {cl : List (Str × Addr)} {outer : List Env} {A₀ : Around} {base h₀ : Heap} {L : Addr} {m : Str → Option Value} {s : Shared} {Q E : Value → Shared → Prop} {news : List (Addr × Obj)}
  (B : Below A₀ base outer h₀) (F : Fr h₀ L s.heap m) (X : (Mine.hd.heap_1 w.params).In h₀) (T : Top p loose mean mg mb h₀) (hk : cs.kind = .function) (ZB : base.get? 0 = some (zO w))
include B F X T hk ZB
theorem put_bit_bad {b d y : Addr} {tb : Nat → Tok} {k hd pl v : Int} {pt vt : Tok} {data : Array UInt8}
  (N : News h₀ L s.heap (news)) (m1 : (b, instObj 189 d) ∈ news) (m2 : (d, bufD w tb k y hd) ∈ news) (m3 : (y, baO data) ∈ news) (c1 : 0 ≤ pl) (c2 : pl < 32) (c3 : v ≠ 0) (c4 : v ≠ 1) (c5 : data.size = 4)
  (hdp : dp + 2 < 500) (hun : un + 16 < 5000)
  (hE : ∀ h' tk' e g, Fr h₀ L g m → g.UpToSlots h' → RaisedSN base g (envX cn cs L a ccd cl :: outer) e (.ref 52) news h' → E (.ref e) { s with heap := h', toks := tk' }) :
   wpAny (model prog w) (ktrTop dp un gd cn cs L a ccd cl outer) (call (.ref 186) [.ref b, .int pl pt, .int v vt]) Q E s := by
  refine wpAny_call ?_
  k_dflt ktr_enter
  have Z' : (_ : Heap).get? 0 = some (zO w) := (by assumption : Below _ _ _ _).stays _ _ ZB
  have f0 : pl.fdiv (2 ^ Int.toNat 3) = pl / 8 := by rw [Int.fdiv_eq_ediv_of_nonneg _ (by decide)]; rfl
  have f1 : 0 ≤ pl.fdiv (2 ^ Int.toNat 3) := by rw [f0]; omega
  have f2 : pl.fdiv (2 ^ Int.toNat 3) + 1 ≤ 4 := by rw [f0]; omega
  clear f0
  have f3 : (([0, 1] : List Int).any fun x => x == v) = false := by simp only [List.any_cons, List.any_nil, Bool.or_false, Bool.or_eq_false_iff, beq_eq_false_iff_ne]; exact ⟨Ne.symm c3, Ne.symm c4⟩
  k_steps
  any_goals ((with_reducible show wpAny _ _ (call (Value.ref 132) _ _) _ _ _); k_dflt (refine' need_part_ok (by k_asm) (by k_asm) (by k_asm) (by k_asm) (by walk_at "r") (by k_asm) (by k_mem) (by k_mem) (by k_mem) (by walk_at "c") (by walk_at "c") (by walk_at "c") (by walk_at "c") (by walk_at "h") (by walk_at "h") ?_; k_whole); intro h' tk' F' N'; (try k_sweep))
  k_steps
  all_goals first | exact hE _ _ _ _ (by k_asm) (by assumption) (by first | assumption | exact RaisedSN.sub (by assumption) (fun p hp => .tail _ hp)) | (exfalso; omega) | (exfalso; exact Bool.noConfusion ((by assumption : (([0, 1] : List Int).any fun x => x == v) = true).symm.trans f3))
end
section
variable {prog : Program} {w : World} {p : Program} {loose : List Str} {mean : ExcName → Option Value} {mg mb : Str → Option Value} {dp un : Nat} {gd : Option (List Code)} {cn : Str} {cs : Scope} {a : Addr} {ccd : Value} {cl : List (Str × Addr)} {outer : List Env} {A₀ : Around} {base h₀ : Heap} {L : Addr} {m : Str → Option Value} {s : Shared} {Q E : Value → Shared → Prop} {news : List (Addr × Obj)}
  (B : Below A₀ base outer h₀) (F : Fr h₀ L s.heap m) (X : (Mine.hd.heap_1 w.params).In h₀) (T : Top p loose mean mg mb h₀) (hk : cs.kind = .function) (ZB : base.get? 0 = some (zO w))
include B F X T hk ZB
theorem room_bad {cI cD kI rw bn : Addr} {tc : Nat → Tok} {hits reads writes : Int} {b1 d1 y1 b2 d2 y2 b3 d3 y3 : Addr} {tb1 tb2 tb3 : Nat → Tok} {k1 k2 k3 : Int} {rn : Nat}
  (N : News h₀ L s.heap news) (m1 : (cI, instObj 304 cD) ∈ news) (m2 : (cD, cacheD w tc kI rw bn hits reads writes) ∈ news) (m3 : (rw, listOf #[.ref b1, .ref b2, .ref b3] rn) ∈ news) (m4 : (b1, instObj 189 d1) ∈ news) (m5 : (d1, bufD w tb1 k1 y1 1) ∈ news) (m6 : (b2, instObj 189 d2) ∈ news) (m7 : (d2, bufD w tb2 k2 y2 1) ∈ news) (m8 : (b3, instObj 189 d3) ∈ news) (m9 : (d3, bufD w tb3 k3 y3 1) ∈ news)
  (hdp : dp + 2 < 500) (hun : un + 16 < 5000)
  (hE : ∀ h' tk' e g, Fr h₀ L g m → g.UpToSlots h' → RaisedSN base g (envX cn cs L a ccd cl :: outer) e (.ref 76) news h' → E (.ref e) { s with heap := h', toks := tk' }) :
   wpAny (model prog w) (ktrTop dp un gd cn cs L a ccd cl outer) (call (.ref 235) [.ref cI]) Q E s := by
  refine wpAny_call ?_
  k_dflt ktr_enter
  have Z' : (_ : Heap).get? 0 = some (zO w) := (by assumption : Below _ _ _ _).stays _ _ ZB
  k_steps
  dsimp only
  (k_dflt (refine' enum_itemN rfl rfl rfl rfl (by k_asm) (by k_asm) (by assumption) (by k_mem) (by assumption) (by assumption) (by assumption) item1 ?_); intro h'z tk'z old'z oit'z It'z F'z N'z; k_sweep)
  k_steps
  dsimp only
  (k_dflt (refine' enum_itemN rfl rfl rfl rfl (by k_asm) (by k_asm) (by assumption) (by k_mem) (by assumption) (by assumption) (by assumption) item2 ?_); intro h' tk' old' oit' It' F' N'; k_sweep)
  k_steps
  dsimp only
  (k_dflt (refine' enum_endN rfl (by k_asm) (by k_asm) (by assumption) (by k_mem) (by assumption) (by assumption) (by assumption) (by rfl) ?_); intro h' F' N'; k_sweep)
  k_steps
  any_goals ((with_reducible show wpAny _ _ (call (Value.ref 76) _ _) _ _ _); k_dflt (refine' newExc76 (by k_asm) (by k_asm) (by k_asm) (by k_asm) (by walk_at "r") (by k_asm) (by walk_at "h") (by walk_at "h") ?_); intro h' tk' e' x'; refine ⟨_, rfl, x', ?_⟩; (try k_unfold); (try dsimp only); k_dflt (refine' leave_newV rfl rfl (by k_asm) x' ?_); intro h' R' U'; (try dsimp only))
  k_steps
  all_goals exact hE _ _ _ _ (by k_asm) (by assumption) (by first | assumption | exact RaisedSN.sub (by assumption) (fun p hp => .tail _ hp))
end
section
variable {prog : Program} {w : World} {p : Program} {loose : List Str} {mean : ExcName → Option Value} {mg mb : Str → Option Value} {dp un : Nat} {gd : Option (List Code)} {cn : Str} {cs : Scope} {a : Addr} {ccd : Value} {cl : List (Str × Addr)} {outer : List Env} {A₀ : Around} {base h₀ : Heap} {L : Addr} {m : Str → Option Value} {s : Shared} {Q E : Value → Shared → Prop} {news : List (Addr × Obj)}
  (B : Below A₀ base outer h₀) (F : Fr h₀ L s.heap m) (X : (Mine.hd.heap_1 w.params).In h₀) (T : Top p loose mean mg mb h₀) (hk : cs.kind = .function) (ZB : base.get? 0 = some (zO w))
include B F X T hk ZB
theorem get_full {cI cD kI kD rw bn kept lt uf : Addr} {tc tk : Nat → Tok} {hits reads writes dw k : Int} {kt : Tok} {b1 d1 y1 b2 d2 y2 b3 d3 y3 : Addr} {tb1 tb2 tb3 : Nat → Tok} {k1 k2 k3 : Int} {rn : Nat} {ob : Obj} {kvs : List (Int × Value)}
  (N : News h₀ L s.heap news) (m1 : (cI, instObj 304 cD) ∈ news) (m2 : (cD, cacheD w tc kI rw bn hits reads writes) ∈ news) (m3 : (rw, listOf #[.ref b1, .ref b2, .ref b3] rn) ∈ news) (m4 : (b1, instObj 189 d1) ∈ news) (m5 : (d1, bufD w tb1 k1 y1 1) ∈ news) (m6 : (b2, instObj 189 d2) ∈ news) (m7 : (d2, bufD w tb2 k2 y2 1) ∈ news) (m8 : (b3, instObj 189 d3) ∈ news) (m9 : (d3, bufD w tb3 k3 y3 1) ∈ news)
  (mA : (kI, instObj 402 kD) ∈ news) (mB : (kD, diskD w tk kept lt uf dw) ∈ news) (mC : (bn, ob) ∈ news) (c1 : ob.IsDictOf (intKind prog w) kvs) (c2 : (bn == sysModules) = false) (c3 : valueAt kvs k = none) (c4 : 0 ≤ k) (c5 : k < 6)
  (hdp : dp + 3 < 500) (hun : un + 24 < 5000)
  (hE : ∀ h' tk' e g, Fr h₀ L g m → g.UpToSlots h' → RaisedSN base g (envX cn cs L a ccd cl :: outer) e (.ref 76) news h' → E (.ref e) { s with heap := h', toks := tk' }) :
   wpAny (model prog w) (ktrTop dp un gd cn cs L a ccd cl outer) (call (.ref 228) [.ref cI, .int k kt]) Q E s := by
  refine wpAny_call ?_
  k_dflt ktr_enter
  have Z' : (_ : Heap).get? 0 = some (zO w) := (by assumption : Below _ _ _ _).stays _ _ ZB
  k_steps
  k_dflt (refine' room_bad ?kB ?kF ?kX ?kT rfl ZB ?kN m1 m2 m3 m4 m5 m6 m7 m8 m9 ?hdp ?hun ?_; (case kB => k_asm); (case kF => k_asm); (case kX => k_asm); (case kT => k_asm); (case kN => k_asm); (case hdp => (dsimp only [ktrTop, Around.deeper, Around.in1]; omega)); (case hun => (dsimp only [ktrTop, Around.deeper, Around.in1]; omega)))
  intro h' tk' e' g' F' U' R'
  (try k_unfold)
  (try dsimp only)
  k_dflt (refine' leave_onV rfl (by k_asm) F' R' U' ?_)
  intro h' R' U'
  (try dsimp only)
  all_goals exact hE _ _ _ _ (by k_asm) (by assumption) (by first | assumption | exact RaisedSN.sub (by assumption) (fun p hp => .tail _ hp))
end
/-! frames below which a raise may have been caught: their frames' slots may have turned -/
def LeaveT (fs : List Addr) (A₀ : Around) (base : Heap) (outer : List Env) (h₀ : Heap) (L : Addr) (m : Str → Option Value) (g : Heap) (R : Result → Shared → Prop) (v : Value) (s' : Shared) : Prop :=
  ∃ g' L' m' news', KtsTurn fs g g' ∧ Fr g' L' s'.heap m' ∧ News g' L' s'.heap news' ∧ ∀ h₀', KtsTurn (outer.filterMap (·.frame)) h₀ h₀' → Fr h₀' L s'.heap m → News h₀' L s'.heap news' → Below A₀ base outer h₀' → R (.ok (.ret v)) s'
theorem leaveT_ {fs : List Addr} {A₀ : Around} {base : Heap} {outer : List Env} {h₀ : Heap} {L : Addr} {m : Str → Option Value} {g g' : Heap} {R : Result → Shared → Prop} {v : Value} {s' : Shared} {L' : Addr} {m' : Str → Option Value} {news' : List (Addr × Obj)}
    (T : KtsTurn fs g g') (F : Fr g' L' s'.heap m') (N : News g' L' s'.heap news') (k : ∀ h₀', KtsTurn (outer.filterMap (·.frame)) h₀ h₀' → Fr h₀' L s'.heap m → News h₀' L s'.heap news' → Below A₀ base outer h₀' → R (.ok (.ret v)) s') :
    LeaveT fs A₀ base outer h₀ L m g R v s' := ⟨g', L', m', news', T, F, N, k⟩
section
variable {prog : Program} {w : World} {A₀ A : Around} {s : Shared} {base h₀ : Heap} {outer : List Env} {L : Addr} {m : Str → Option Value} {env : Env} {news : List (Addr × Obj)} {R : Result → Shared → Prop}
theorem groundT (B : Below A₀ base outer h₀) (F : Fr h₀ L s.heap m) (N : News h₀ L s.heap news) (D : KtsDicts (outer.filterMap (·.frame)) h₀) (hA : A.frames = some (env :: outer)) (hf : env.frame = some L) (hke : env.scope.kind = .function) :
    Fr h₀ L (hideAll s.heap (news.map (·.1))) m ∧ Below A base (env :: outer) (hideAll s.heap (news.map (·.1))) ∧ h₀.StaysIn (hideAll s.heap (news.map (·.1))) ∧ KtsDicts ((env :: outer).filterMap (·.frame)) (hideAll s.heap (news.map (·.1))) ∧
      ∀ v s', LeaveT ((env :: outer).filterMap (·.frame)) A₀ base outer h₀ L m (hideAll s.heap (news.map (·.1))) R v s' → R (.ok (.ret v)) s' := by
  obtain ⟨FG, BG, st, _⟩ := groundX (R := R) B F N hA hf hke
  have nm : ∀ b o, h₀.get? b = some o → b ∉ news.map (·.1) := fun b o e q => by
    obtain ⟨p, hp, rfl⟩ := List.mem_map.mp q
    rw [(N p hp).2.2] at e; cases e
  obtain ⟨oL, es, ep, hL, hLd, hLk, hLf⟩ := F.ns
  have nL : L ∉ news.map (·.1) := fun q => by
    obtain ⟨p, hp, e⟩ := List.mem_map.mp q
    exact (N p hp).2.1 e
  have hLg := hideAll_get (news.map (·.1)) hL nL
  refine ⟨FG, BG, st, fun b hb => ?_, fun v s' hl => ?_⟩
  · rcases ktx_mem hf hb with rfl | hb
    · exact ⟨oL, es, ep, hLg, hLd⟩
    · obtain ⟨o, es', n', ho', hd'⟩ := D b hb
      exact ⟨o, es', n', st b o ho', hd'⟩
  have nL₀ : h₀.get? L = none := kts_self F
  obtain ⟨g', L', m', news', T', F', N', k⟩ := hl
  obtain ⟨sl, hs⟩ := T'.up hLg
  obtain ⟨T₁, S₁⟩ := kts_turn_at (h := s'.heap) (fs := outer.filterMap (·.frame)) (g := h₀)
    (fun b hb => by
      obtain ⟨_, o, ho', _⟩ := B.frames.mem hb
      exact ⟨o, ho'⟩)
    (fun b o e nmem => F'.keep b o (T'.other b o (st b o e) (fun q => by
      rcases ktx_mem hf q with z | z
      · rw [z, nL₀] at e
        cases e
      · exact nmem z)))
    (fun b o e hm => by
      obtain ⟨sl', hs'⟩ := T'.up (st b o e)
      exact ⟨sl', F'.keep _ _ hs'⟩)
  have B₃ : Below A₀ base outer (ktsHeap s'.heap (outer.filterMap (·.frame)) h₀) := ⟨B.stack, fun b o e => T₁.other b o (B.stays b o e) (fun hm => by
    rw [(B.frames.mem hm).1] at e
    cases e), B.frames.of_keeps fun b o e _ => by
    obtain ⟨sl', hs'⟩ := T₁.up e
    exact ⟨_, hs', rfl⟩⟩
  refine k _ T₁ ⟨⟨_, es, ep, F'.keep _ _ hs, hLd, hLk, hLf⟩, S₁, by rw [T₁.size]; exact F.above⟩ (fun p hp => ⟨(N' p hp).1, fun q => ?_, ?_⟩) B₃
  · have := (N' p hp).2.2; rw [q, hs] at this; cases this
  · refine T₁.none_ _ ?_
    cases q : h₀.get? p.1 with
    | none => rfl
    | some o =>
      obtain ⟨sl', hs'⟩ := T'.up (st _ _ q)
      have := (N' p hp).2.2
      rw [hs'] at this
      cases this
end
section
variable {prog : Program} {w : World} {A₀ A : Around} {s : Shared} {base h₀ : Heap} {outer : List Env} {L : Addr} {m : Str → Option Value} {env : Env} {news : List (Addr × Obj)} {K : Frag} {p : Program} {loose : List Str} {mean : ExcName → Option Value} {mg mb : Str → Option Value}
  {R : Result → Shared → Prop} {name qual : Str} {params : Arguments} {body : List Stmt} {scope : Scope} {dV kV doc pm cdv ct oc : Value} {an od : Option Addr} {osl : Array (Option Value)} {f : Addr} {args : Args} {binds : List (Str × Value)}
/-- entry of a frame in whose reach a raise is caught -/
theorem code_defT (B : Below A₀ base outer h₀) (F : Fr h₀ L s.heap m) (X₀ : K.In h₀) (N : News h₀ L s.heap news) (T : Top p loose mean mg mb h₀) (D : KtsDicts (outer.filterMap (·.frame)) h₀) (hA : A.frames = some (env :: outer)) (hf : env.frame = some L) (hke : env.scope.kind = .function)
    (ho : K.lookup f = some ⟨oc, od, .func (fnOf name qual params body scope dV kV doc pm an cdv ct), osl⟩) (hcd : codeIn K cdv qual = true) (hroom : A.depth < recursionLimit)
    (hbind : BindsTo s (fnOf name qual params body scope dV kV doc pm an cdv ct) args binds) (hloc : ∀ y ∈ binds, scope.names.lookup y.1 = some .local)
    (h : ∀ g L' h₁, Fr h₀ L g m → Fr g L' h₁ (fun y => binds.reverse.lookup y) → News g L' h₁ news → Below A base (env :: outer) g → K.In g → Top p loose mean mg mb g → KtsDicts ((env :: outer).filterMap (·.frame)) g →
      wpAny (model prog w) (A.deeper (envOf qual scope L' f cdv)) (execs body (envOf qual scope L' f cdv))
        (fun fl s' => LeaveT ((env :: outer).filterMap (·.frame)) A₀ base outer h₀ L m g R (match fl with | .ret v => v | _ => .none) s')
        (fun e s' => wpAny (model prog w) (A.deeper (envOf qual scope L' f cdv)) (leaving (envOf qual scope L' f cdv) e) (fun _ s'' => R (.error e) s'') (fun e' s'' => R (.error e') s'') s')
        { s with heap := h₁, toks := s.toks + binds.length })
    (hco : scope.isCoroutine = false) (hgen : scope.isGenerator = false) (hk : scope.kind = .function)
    (hcell : ∀ x ∈ scope.names, x.2 ≠ .cell) : codeAny (model prog w) A (.call (.ref f) args) R s := by
  obtain ⟨FG, BG, st, DG, lv⟩ := groundT (R := R) B F N D hA hf hke
  refine codeAny_call_def (fd := fnOf name qual params body scope dV kV doc pm an cdv ct) (body := body) (binds := binds) hroom ((X₀.keeps F.keep) _ _ ho) rfl (T.nolimit.keeps F.keep) (codeRec_of (X₀.keeps F.keep) hcd) rfl hbind hcell hloc (fun h₁ hns hk₁ => ?_) hco hgen hk
  exact wpAny_mono (h _ s.heap.objs.size h₁ FG ⟨hns, fun b o e => hk₁ b o (of_hideAll _ e), Nat.le_of_eq (hideAll_size _ _)⟩
    (fun p hp => ⟨hk₁ _ _ (N p hp).1, Nat.ne_of_lt (Heap.lt_size (N p hp).1), hideAll_none _ (List.mem_map_of_mem hp)⟩) BG (X₀.keeps st) (T.keeps st) DG) (fun fl s' hl => lv _ _ hl) fun _ _ y => y
/-- the same over cells -/
theorem code_defCT (B : Below A₀ base outer h₀) (F : Fr h₀ L s.heap m) (X₀ : K.In h₀) (N : News h₀ L s.heap news) (T : Top p loose mean mg mb h₀) (D : KtsDicts (outer.filterMap (·.frame)) h₀) (hA : A.frames = some (env :: outer)) (hf : env.frame = some L) (hke : env.scope.kind = .function)
    (ho : K.lookup f = some ⟨oc, od, .func (fnOf name qual params body scope dV kV doc pm an cdv ct), osl⟩) (hcd : codeIn K cdv qual = true) (hroom : A.depth < recursionLimit)
    (hbind : BindsTo s (fnOf name qual params body scope dV kV doc pm an cdv ct) args binds) (hkind : (binds.all fun y => scope.names.lookup y.1 == some .local || scope.names.lookup y.1 == some .cell) = true)
    (hnd : ((cellsFrom 0 scope.names []).map (·.1)).Nodup)
    (h : ∀ g L' h₁ tk cells, Fr h₀ L g m → Fr g L' h₁ (bindL (envOfC qual scope L' f cdv).kindOf binds fun _ => none) → News g L' h₁ (cells ++ news) →
      CellsAre (bindC (envOfC qual scope L' f cdv).kindOf binds fun _ => none) (cellsFrom (L' + 1) scope.names []) cells → Below A base (env :: outer) g → K.In g → Top p loose mean mg mb g → KtsDicts ((env :: outer).filterMap (·.frame)) g → (∀ p ∈ news, p.1 < L') →
      wpAny (model prog w) (A.deeper (envOfC qual scope L' f cdv)) (execs body (envOfC qual scope L' f cdv))
        (fun fl s' => LeaveT ((env :: outer).filterMap (·.frame)) A₀ base outer h₀ L m g R (match fl with | .ret v => v | _ => .none) s')
        (fun e s' => wpAny (model prog w) (A.deeper (envOfC qual scope L' f cdv)) (leaving (envOfC qual scope L' f cdv) e) (fun _ s'' => R (.error e) s'') (fun e' s'' => R (.error e') s'') s')
        { s with heap := h₁, toks := tk })
    (hco : scope.isCoroutine = false) (hgen : scope.isGenerator = false) (hk : scope.kind = .function) : codeAny (model prog w) A (.call (.ref f) args) R s := by
  obtain ⟨FG, BG, st, DG, lv⟩ := groundT (R := R) B F N D hA hf hke
  refine codeAny_call_function ((hroom)) ((X₀.keeps F.keep) _ _ ho) rfl hco hgen rfl (codeRec_of (X₀.keeps F.keep) hcd) (hbind _ _ _ _ ?_)
  refine wpAny_newFunctionEnv_cells hk (kindsX hkind _) fun env' he s' x => ?_
  subst he
  refine ⟨(T.nolimit.keeps F.keep).keeps x.toInCall.keep, codeAny_func ?_⟩
  obtain ⟨h₁, tk, rfl, _⟩ := x.done
  have hk₁ := x.toInCall.keep
  obtain ⟨cells, NC, Y⟩ := Cl.news (h₀ := s.heap) (Nat.le_refl _) fun n c hm => ⟨x.cell n c (lookup_of_mem_nodup (cellsFrom_names scope.names 0 (s.heap.objs.size + 1) [] [] rfl ▸ hnd) hm), x.above n c hm⟩
  refine wpAny_mono (h _ s.heap.objs.size h₁ tk cells FG ⟨x.toInCall.ns, fun b o e => hk₁ b o (of_hideAll _ e), Nat.le_of_eq (hideAll_size _ _)⟩ (fun p hp => ?_) Y BG (X₀.keeps st) (T.keeps st) DG (fun p hp => Heap.lt_size (N p hp).1)) (fun fl s' hl => lv _ _ hl) fun _ _ y => y
  rcases List.mem_append.mp hp with hp | hp
  · refine ⟨(NC p hp).1, (NC p hp).2.1, ?_⟩
    cases q : (hideAll s.heap (news.map (·.1))).get? p.1 with
    | none => rfl
    | some o => have := of_hideAll _ q; rw [(NC p hp).2.2] at this; cases this
  · exact ⟨hk₁ _ _ (N p hp).1, Nat.ne_of_lt (Heap.lt_size (N p hp).1), hideAll_none _ (List.mem_map_of_mem hp)⟩
/-- the same in the D logic -/
theorem code_defCTD (B : Below A₀ base outer h₀) (F : Fr h₀ L s.heap m) (X₀ : K.In h₀) (N : News h₀ L s.heap news) (T : Top p loose mean mg mb h₀) (D : KtsDicts (outer.filterMap (·.frame)) h₀) (hA : A.frames = some (env :: outer)) (hf : env.frame = some L) (hke : env.scope.kind = .function)
    (ho : K.lookup f = some ⟨oc, od, .func (fnOf name qual params body scope dV kV doc pm an cdv ct), osl⟩) (hcd : codeIn K cdv qual = true) (hroom : A.depth < recursionLimit)
    (hbind : BindsTo s (fnOf name qual params body scope dV kV doc pm an cdv ct) args binds) (hkind : (binds.all fun y => scope.names.lookup y.1 == some .local || scope.names.lookup y.1 == some .cell) = true)
    (hnd : ((cellsFrom 0 scope.names []).map (·.1)).Nodup)
    (h : ∀ g L' h₁ tk cells, Fr h₀ L g m → Fr g L' h₁ (bindL (envOfC qual scope L' f cdv).kindOf binds fun _ => none) → News g L' h₁ (cells ++ news) →
      CellsAre (bindC (envOfC qual scope L' f cdv).kindOf binds fun _ => none) (cellsFrom (L' + 1) scope.names []) cells → Below A base (env :: outer) g → K.In g → Top p loose mean mg mb g → KtsDicts ((env :: outer).filterMap (·.frame)) g → (∀ p ∈ news, p.1 < L') →
      wpD (model prog w) (A.deeper (envOfC qual scope L' f cdv)) (execs body (envOfC qual scope L' f cdv))
        (fun fl s' => LeaveT ((env :: outer).filterMap (·.frame)) A₀ base outer h₀ L m g R (match fl with | .ret v => v | _ => .none) s') (fun _ _ => False)
        { s with heap := h₁, toks := tk })
    (hco : scope.isCoroutine = false) (hgen : scope.isGenerator = false) (hk : scope.kind = .function) : codeD (model prog w) A (.call (.ref f) args) R s := by
  obtain ⟨FG, BG, st, DG, lv⟩ := groundT (R := R) B F N D hA hf hke
  refine codeD_call_function ((hroom)) ((X₀.keeps F.keep) _ _ ho) rfl hco hgen rfl (codeRec_of (X₀.keeps F.keep) hcd) (hbind _ _ _ _ ?_)
  refine wpAny_newFunctionEnv_cells hk (kindsX hkind _) fun env' he s' x => ?_
  subst he
  refine ⟨(T.nolimit.keeps F.keep).keeps x.toInCall.keep, codeD_func ?_⟩
  obtain ⟨h₁, tk, rfl, _⟩ := x.done
  have hk₁ := x.toInCall.keep
  obtain ⟨cells, NC, Y⟩ := Cl.news (h₀ := s.heap) (Nat.le_refl _) fun n c hm => ⟨x.cell n c (lookup_of_mem_nodup (cellsFrom_names scope.names 0 (s.heap.objs.size + 1) [] [] rfl ▸ hnd) hm), x.above n c hm⟩
  refine wpD_mono (h _ s.heap.objs.size h₁ tk cells FG ⟨x.toInCall.ns, fun b o e => hk₁ b o (of_hideAll _ e), Nat.le_of_eq (hideAll_size _ _)⟩ (fun p hp => ?_) Y BG (X₀.keeps st) (T.keeps st) DG (fun p hp => Heap.lt_size (N p hp).1)) (fun fl s' hl => lv _ _ hl) fun _ _ y => y
  rcases List.mem_append.mp hp with hp | hp
  · refine ⟨(NC p hp).1, (NC p hp).2.1, ?_⟩
    cases q : (hideAll s.heap (news.map (·.1))).get? p.1 with
    | none => rfl
    | some o => have := of_hideAll _ q; rw [(NC p hp).2.2] at this; cases this
  · exact ⟨hk₁ _ _ (N p hp).1, Nat.ne_of_lt (Heap.lt_size (N p hp).1), hideAll_none _ (List.mem_map_of_mem hp)⟩
end
/-- a deed that raises -/
def Deed (prog : Program) (w : World) (p : Program) (loose : List Str) (mean : ExcName → Option Value) (mg mb : Str → Option Value) (base : Heap) (f C : Addr) (news : List (Addr × Obj)) : Prop :=
  ∀ (dp un : Nat) (gd : Option (List Code)) (cn : Str) (cs : Scope) (a : Addr) (ccd : Value) (cl : List (Str × Addr)) (outer : List Env) (A₀ : Around) (h₀ : Heap) (L : Addr) (m : Str → Option Value) (s : Shared) (Q E : Value → Shared → Prop),
    Below A₀ base outer h₀ → Fr h₀ L s.heap m → (Mine.hd.heap_1 w.params).In h₀ → Top p loose mean mg mb h₀ → cs.kind = .function → News h₀ L s.heap news → dp + 10 < 500 → un + 100 < 5000 →
    (∀ h' tk' e g, Fr h₀ L g m → g.UpToSlots h' → RaisedSN base g (envX cn cs L a ccd cl :: outer) e (.ref C) news h' → E (.ref e) { s with heap := h', toks := tk' }) →
    wpAny (model prog w) (ktrTop dp un gd cn cs L a ccd cl outer) (call (.ref f) []) Q E s
theorem deed_use {prog : Program} {w : World} {p : Program} {loose : List Str} {mean : ExcName → Option Value} {mg mb : Str → Option Value} {dp un : Nat} {gd : Option (List Code)} {cn : Str} {cs : Scope} {a : Addr} {ccd : Value} {cl : List (Str × Addr)} {outer : List Env} {A₀ : Around} {base h₀ : Heap} {L : Addr} {m : Str → Option Value} {s : Shared} {Q E : Value → Shared → Prop} {news : List (Addr × Obj)} {f C : Addr}
    (B : Below A₀ base outer h₀) (F : Fr h₀ L s.heap m) (X : (Mine.hd.heap_1 w.params).In h₀) (T : Top p loose mean mg mb h₀) (hk : cs.kind = .function) (N : News h₀ L s.heap news) (D : Deed prog w p loose mean mg mb base f C news) (hdp : dp + 10 < 500) (hun : un + 100 < 5000)
    (hE : ∀ h' tk' e g, Fr h₀ L g m → g.UpToSlots h' → RaisedSN base g (envX cn cs L a ccd cl :: outer) e (.ref C) news h' → E (.ref e) { s with heap := h', toks := tk' }) :
    wpAny (model prog w) (ktrTop dp un gd cn cs L a ccd cl outer) (call (.ref f) []) Q E s := D _ _ _ _ _ _ _ _ _ _ _ _ _ _ _ _ B F X T hk N hdp hun hE
theorem callWith_N0 {M : Model} {A : Around} {E : Value → Shared → Prop} {s : Shared} {h₀ : Heap} {L : Addr} {news : List (Addr × Obj)} {env : Env} {pos : Pos} {f : Addr} {fd : FuncData} {Q : Value → Shared → Prop} (N : News h₀ L s.heap news) (hf : (f, { cls := .type "function", data := .func fd }) ∈ news)
    (h : wpAny M A (call (.ref f) []) Q E s) : wpAny M A (callWith pos (.ref f) [] (backTo pos (starEach [] env)) []) Q E s :=
  callWith_of (P := fun h => h.get? f = some { cls := .type "function", data := .func fd }) rfl (fun h e => ⟨.frame, .inl rfl, (Looks.ld (part := none) e).andThen .now⟩) (evalArgs_nil3 ⟨(N _ hf).1, h⟩)
local macro_rules | `(tactic| walk_at "callWith ref") => `(tactic| ((with_reducible show wpAny _ _ (callWith _ (Value.ref _) [] (backTo _ (starEach [] _)) []) _ _ _); k_dflt (refine' callWith_N0 (by k_asm) (by assumption) ?_)))
local macro_rules | `(tactic| walk_at "call ref") => `(tactic| ((with_reducible show wpAny _ _ (call (Value.ref _) []) _ _ _); k_dflt (refine' deed_use (by k_asm) (by k_asm) (by k_asm) (by k_asm) (by walk_at "r") (by k_asm) (by assumption) (by walk_at "h") (by walk_at "h") ?_); intro h' tk' e' g' F' U' R'; (try k_unfold); (try dsimp only)))
section
variable {prog : Program} {w : World} {p : Program} {loose : List Str} {mean : ExcName → Option Value} {mg mb : Str → Option Value} {dp un : Nat} {gd : Option (List Code)} {cn : Str} {cs : Scope} {a : Addr} {ccd : Value} {cl : List (Str × Addr)} {outer : List Env} {A₀ : Around} {base h₀ : Heap} {L : Addr} {m : Str → Option Value} {s : Shared} {Q E : Value → Shared → Prop} {news : List (Addr × Obj)}
  (B : Below A₀ base outer h₀) (F : Fr h₀ L s.heap m) (X : (Mine.hd.heap_1 w.params).In h₀) (T : Top p loose mean mg mb h₀) (hk : cs.kind = .function) (ZB : base.get? 0 = some (zO w)) (XB : (Mine.hd.heap_1 w.params).In base) (TB : Top p loose mean mg mb base) (D : KtsDicts (outer.filterMap (·.frame)) h₀)
include B F X T hk ZB XB TB D
theorem met52 {f : Addr} {fd : FuncData} (N : News h₀ L s.heap news) (hf : (f, { cls := .type "function", data := .func fd }) ∈ news) (hD : Deed prog w p loose mean mg mb base f 52 news)
  (hdp : dp + 20 < 500) (hun : un + 200 < 5000)
  (hret : ∀ h' tk' t h₀', KtsTurn (outer.filterMap (·.frame)) h₀ h₀' → Fr h₀' L h' m → News h₀' L h' news → Below A₀ base outer h₀' → Q (.str (Str.ofString "argument") t) { s with heap := h', toks := tk' }) :
   wpAny (model prog w) (ktrTop dp un gd cn cs L a ccd cl outer) (call (.ref 420) [.ref f]) Q E s := by
  refine wpAny_call ?_
  k_dflt ((refine' code_defT (by k_asm) (by k_asm) (by k_asm) (by k_asm) (by k_asm) (by assumption) (by exact rfl) (by exact rfl) (by assumption) (by k_is) (by k_is) (by ktr_room) (by exact BindsTo.of_eq rfl) (by exact locs rfl) ?_ (by exact rfl) (by exact rfl) (by exact rfl) (by decide); k_whole; intro g'z L'z h'z FG'z F'z N'z B'z X'z T'z D'z; (try dsimp only); (try k_fold)))
  k_steps
  dsimp only
  (try k_unfold)
  (try dsimp only)
  exact leaveT_ (by assumption) (by k_asm) (by k_asm) fun h₀' t f n b => hret _ _ _ h₀' t f n b
theorem met64 {f : Addr} {fd : FuncData} (N : News h₀ L s.heap news) (hf : (f, { cls := .type "function", data := .func fd }) ∈ news) (hD : Deed prog w p loose mean mg mb base f 64 news)
  (hdp : dp + 20 < 500) (hun : un + 200 < 5000)
  (hret : ∀ h' tk' t h₀', KtsTurn (outer.filterMap (·.frame)) h₀ h₀' → Fr h₀' L h' m → News h₀' L h' news → Below A₀ base outer h₀' → Q (.str (Str.ofString "disk") t) { s with heap := h', toks := tk' }) :
   wpAny (model prog w) (ktrTop dp un gd cn cs L a ccd cl outer) (call (.ref 420) [.ref f]) Q E s := by
  refine wpAny_call ?_
  k_dflt ((refine' code_defT (by k_asm) (by k_asm) (by k_asm) (by k_asm) (by k_asm) (by assumption) (by exact rfl) (by exact rfl) (by assumption) (by k_is) (by k_is) (by ktr_room) (by exact BindsTo.of_eq rfl) (by exact locs rfl) ?_ (by exact rfl) (by exact rfl) (by exact rfl) (by decide); k_whole; intro g'z L'z h'z FG'z F'z N'z B'z X'z T'z D'z; (try dsimp only); (try k_fold)))
  k_steps
  dsimp only
  (try k_unfold)
  (try dsimp only)
  exact leaveT_ (by assumption) (by k_asm) (by k_asm) fun h₀' t f n b => hret _ _ _ h₀' t f n b
theorem met76 {f : Addr} {fd : FuncData} (N : News h₀ L s.heap news) (hf : (f, { cls := .type "function", data := .func fd }) ∈ news) (hD : Deed prog w p loose mean mg mb base f 76 news)
  (hdp : dp + 20 < 500) (hun : un + 200 < 5000)
  (hret : ∀ h' tk' t h₀', KtsTurn (outer.filterMap (·.frame)) h₀ h₀' → Fr h₀' L h' m → News h₀' L h' news → Below A₀ base outer h₀' → Q (.str (Str.ofString "room") t) { s with heap := h', toks := tk' }) :
   wpAny (model prog w) (ktrTop dp un gd cn cs L a ccd cl outer) (call (.ref 420) [.ref f]) Q E s := by
  refine wpAny_call ?_
  k_dflt ((refine' code_defT (by k_asm) (by k_asm) (by k_asm) (by k_asm) (by k_asm) (by assumption) (by exact rfl) (by exact rfl) (by assumption) (by k_is) (by k_is) (by ktr_room) (by exact BindsTo.of_eq rfl) (by exact locs rfl) ?_ (by exact rfl) (by exact rfl) (by exact rfl) (by decide); k_whole; intro g'z L'z h'z FG'z F'z N'z B'z X'z T'z D'z; (try dsimp only); (try k_fold)))
  k_steps
  dsimp only
  (try k_unfold)
  (try dsimp only)
  exact leaveT_ (by assumption) (by k_asm) (by k_asm) fun h₀' t f n b => hret _ _ _ h₀' t f n b
end
/-- a code's table of the codes made within it: each stands, under one name -/
def TabInv (q : Str) (ps : Array Value) (led : List (Addr × Obj)) : Prop :=
  TriplesOk ps.toList ∧ ∀ pos v, codeAmong pos ps.toList = some v → ∃ c' oc vs t, v = .ref c' ∧ (c', oc) ∈ led ∧ oc.data = .fields vs ∧ vs[1]? = some (.str q t)
theorem triples_snoc : ∀ (l : List Value), TriplesOk l → ∀ (a b : Nat) (c : Value), TriplesOk (l ++ [rawInt a, rawInt b, c])
  | [], _, _, _, _ => trivial
  | .int _ _ :: .int _ _ :: _ :: rest, h, a, b, c => triples_snoc rest h a b c
theorem among_snoc {pos pos' : Pos} {c v : Value} : ∀ (l : List Value), TriplesOk l → codeAmong pos (l ++ [rawInt pos'.line, rawInt pos'.col, c]) = some v → codeAmong pos l = some v ∨ v = c
  | [], _, h => by
    simp only [List.nil_append, codeAmong, rawInt] at h
    split at h
    · exact .inr (Option.some.inj h).symm
    · cases h
  | .int _ _ :: .int _ _ :: x :: rest, hl, h => by
    simp only [List.cons_append, codeAmong] at h ⊢
    split at h
    · rename_i hc; rw [if_pos hc]; exact .inl h
    · rename_i hc; rw [if_neg hc]; exact among_snoc rest hl h
theorem TabInv.mono {q : Str} {ps : Array Value} {led led' : List (Addr × Obj)} (h : TabInv q ps led) (hs : ∀ p ∈ led, p ∈ led') : TabInv q ps led' :=
  ⟨h.1, fun pos v e => by obtain ⟨c', oc, vs, t, h1, h2, h3, h4⟩ := h.2 pos v e; exact ⟨c', oc, vs, t, h1, hs _ h2, h3, h4⟩⟩
theorem TabInv.snoc {q : Str} {ps : Array Value} {led : List (Addr × Obj)} {c' : Addr} {oc : Obj} {vs : Array Value} {t : Tok} {pos : Pos} (h : TabInv q ps led) (hd : oc.data = .fields vs) (hv : vs[1]? = some (.str q t)) :
    TabInv q (ps ++ #[rawInt pos.line, rawInt pos.col, .ref c']) ((c', oc) :: led) := by
  refine ⟨by rw [Array.toList_append]; exact triples_snoc _ h.1 _ _ _, fun pos' v e => ?_⟩
  rw [Array.toList_append] at e
  rcases among_snoc _ h.1 e with e | rfl
  · obtain ⟨c₁, oc₁, vs₁, t₁, h1, h2, h3, h4⟩ := h.2 pos' v e
    exact ⟨c₁, oc₁, vs₁, t₁, h1, .tail _ h2, h3, h4⟩
  · exact ⟨c', oc, vs, t, rfl, .head _, hd, hv⟩
theorem TabInv.nil {q : Str} {led : List (Addr × Obj)} : TabInv q #[] led := ⟨trivial, fun _ _ e => nomatch e⟩
section
variable {M : Model} {A : Around} {E : Value → Shared → Prop} {s : Shared} {h₀ : Heap} {L a c P : Addr} {m mg mb : Str → Option Value} {cn : Str} {cs : Scope} {ccd : Value} {cl : List (Str × Addr)} {news own rest : List (Addr × Obj)}
  {p : Program} {loose : List Str} {mean : ExcName → Option Value} {params : Arguments} {body : Expr} {scope : Scope} {ps : Array Value} {pos : Pos} {clos : List (Str × Addr)}
/-- a lambda made: its code anew, or found in the table -/
theorem lam_two {q : Str} {Q : Value → Shared → Prop} (F : Fr h₀ L s.heap m) (N : News h₀ L s.heap (own ++ (P, tabObj ps) :: rest)) (T : Top p loose mean mg mb h₀) (C : CodeHd h₀ c P) (hcd : ccd = .ref c) (a1 : ∀ x ∈ own, x.1 ≠ P) (a2 : ∀ x ∈ rest, x.1 ≠ P) (ht : TabInv q ps rest)
    (hq : (envX cn cs L a ccd cl).qual ++ ("<lambda>" : Str) = q) (hcl : closureFor scope (envX cn cs L a ccd cl) = pure clos) (hdef : defaultsOf params (envX cn cs L a ccd cl) = ([], []))
    (h1 : ∀ f c' oc vs t ctv h' tk, Fr h₀ L h' m →
      News h₀ L h' ((f, kla_obj "<lambda>" q params body scope clos ((mg "__name__").getD .none) c' ctv) :: (c', oc) :: own ++ (P, tabObj (ps ++ #[rawInt pos.line, rawInt pos.col, .ref c'])) :: rest) →
      oc.data = .fields vs → vs[1]? = some (.str q t) → (∀ x ∈ own ++ (P, tabObj ps) :: rest, x.1 < c') → c' < f → Q (.ref f) { s with heap := h', toks := tk })
    (h2 : ∀ f c' oc vs t ctv h' tk, Fr h₀ L h' m →
      News h₀ L h' ((f, kla_obj "<lambda>" q params body scope clos ((mg "__name__").getD .none) c' ctv) :: own ++ (P, tabObj ps) :: rest) → (c', oc) ∈ rest →
      oc.data = .fields vs → vs[1]? = some (.str q t) → (∀ x ∈ own ++ (P, tabObj ps) :: rest, x.1 < f) → Q (.ref f) { s with heap := h', toks := tk }) :
    wpAny M A (eval (.Lambda params body scope pos) (envX cn cs L a ccd cl)) Q E s := by
  refine kla_eval hdef ?_
  rw [hq]
  cases e : codeAmong pos ps.toList with
  | none =>
    have U : ∀ own : List (Addr × Obj), (∀ x ∈ own, x.1 ≠ P) → UpdF P (tabObj ps) (own ++ (P, tabObj ps) :: rest) (fun o => own ++ (P, o) :: rest) := fun own => by
      induction own with
      | nil => exact fun _ => .head a2
      | cons x r ih => exact fun h => .tail (h x (.head _)) (ih fun y hy => h y (.tail _ hy))
    exact kla_nest F N T C hcd (U own a1) ht.1 e hcl fun f c' oc vs t ctv h' tk F' N' hd hv l1 l2 => h1 f c' oc vs t ctv h' tk F' N' hd hv l1 l2
  | some v =>
    obtain ⟨c', oc, vs, t, rfl, hm, hd, hv⟩ := ht.2 pos v e
    exact kla_hit F N T C hcd (List.mem_append_right _ (.head _)) ht.1 e hcl fun f ctv h' tk F' N' l => h2 f c' oc vs t ctv h' tk F' N' hm hd hv l
end
section
variable {M : Model} {A : Around} {E : Value → Shared → Prop} {s : Shared} {h₀ : Heap} {L a c P : Addr} {m mg mb : Str → Option Value} {cn : Str} {cs : Scope} {ccd : Value} {cl : List (Str × Addr)} {news own rest : List (Addr × Obj)}
  {p : Program} {loose : List Str} {mean : ExcName → Option Value} {params : Arguments} {body : Expr} {scope : Scope} {ps : Array Value} {pos : Pos} {clos : List (Str × Addr)}
/-- what a table's growth leaves: the table, what codes were made -/
structure Grown (q : Str) (P : Addr) (ps ps' : Array Value) (ex rest : List (Addr × Obj)) : Prop where
  ok : ∀ led, TabInv q ps led → TabInv q ps' (ex ++ led)
  nd : (ex.map (·.1)).Nodup
  ap : ∀ x ∈ ex, x.1 ≠ P ∧ ∀ y ∈ rest, x.1 ≠ y.1
/-- a lambda made, over an opaque ledger -/
theorem lam_one {q : Str} {Q : Value → Shared → Prop} (F : Fr h₀ L s.heap m) (N : News h₀ L s.heap (own ++ (P, tabObj ps) :: rest)) (T : Top p loose mean mg mb h₀) (C : CodeHd h₀ c P) (hcd : ccd = .ref c) (a1 : ∀ x ∈ own, x.1 ≠ P) (a2 : ∀ x ∈ rest, x.1 ≠ P) (ht : TabInv q ps rest)
    (hq : (envX cn cs L a ccd cl).qual ++ ("<lambda>" : Str) = q) (hcl : closureFor scope (envX cn cs L a ccd cl) = pure clos) (hdef : defaultsOf params (envX cn cs L a ccd cl) = ([], []))
    (h : ∀ f c' oc vs t ctv h' tk ps' ex ls, Fr h₀ L h' m → News h₀ L h' ls → (f, kla_obj "<lambda>" q params body scope clos ((mg "__name__").getD .none) c' ctv) ∈ ls → (c', oc) ∈ ls →
      oc.data = .fields vs → vs[1]? = some (.str q t) → (∀ x ∈ own, x ∈ ls) → (∀ x ∈ rest, x ∈ ls) → (∀ x ∈ (P, tabObj ps') :: (ex ++ rest), x ∈ ls) → Grown q P ps ps' ex rest → Q (.ref f) { s with heap := h', toks := tk }) :
    wpAny M A (eval (.Lambda params body scope pos) (envX cn cs L a ccd cl)) Q E s := by
  refine lam_two F N T C hcd a1 a2 ht hq hcl hdef (fun f c' oc vs t ctv h' tk F' N' hd hv l1 l2 => ?_) (fun f c' oc vs t ctv h' tk F' N' hm hd hv l => ?_)
  · refine h f c' oc vs t ctv h' tk (ps ++ #[rawInt pos.line, rawInt pos.col, .ref c']) [(c', oc)] _ F' N' (.head _) (.tail _ (.head _)) hd hv (fun x hx => .tail _ (.tail _ (List.mem_append_left _ hx))) (fun x hx => .tail _ (.tail _ (List.mem_append_right _ (.tail _ hx)))) (fun x hx => ?_)
      ⟨fun led ht => TabInv.snoc (pos := pos) ht hd hv, by simp, fun x hx => ?_⟩
    · rcases List.mem_cons.mp hx with rfl | hx
      · exact .tail _ (.tail _ (List.mem_append_right _ (.head _)))
      · rcases List.mem_cons.mp hx with rfl | hx
        · exact .tail _ (.head _)
        · exact .tail _ (.tail _ (List.mem_append_right _ (.tail _ hx)))
    · rcases List.mem_singleton.mp hx with rfl
      exact ⟨fun e => absurd (l1 _ (List.mem_append_right _ (.head _))) (by show ¬ (P < c'); rw [show c' = P from e]; exact Nat.lt_irrefl _),
        fun y hy e => absurd (l1 _ (List.mem_append_right _ (.tail _ hy))) (by show ¬ (y.1 < c'); rw [show c' = y.1 from e]; exact Nat.lt_irrefl _)⟩
  · exact h f c' oc vs t ctv h' tk ps [] _ F' N' (.head _) (.tail _ (List.mem_append_right _ (.tail _ hm))) hd hv (fun x hx => .tail _ (List.mem_append_left _ hx)) (fun x hx => .tail _ (List.mem_append_right _ (.tail _ hx)))
      (fun x hx => .tail _ (List.mem_append_right _ hx)) ⟨fun led ht => ht, List.nodup_nil, fun x hx => nomatch hx⟩
end
theorem own1 {P L' : Addr} {ob o1 : Obj} {rest : List (Addr × Obj)} (l : ∀ p ∈ (P, ob) :: rest, p.1 < L') : ∀ x ∈ [(L' + 1, o1)], x.1 ≠ P := by
  have := l _ (.head _); have this : @LT.lt Nat _ P L' := this; intro x hx; simp only [List.mem_cons, List.not_mem_nil, or_false] at hx; subst hx; show @Ne Nat _ P; omega
theorem own2 {P L' : Addr} {ob o1 o2 : Obj} {rest : List (Addr × Obj)} (l : ∀ p ∈ (P, ob) :: rest, p.1 < L') : ∀ x ∈ [(L' + 1 + 1, o2), (L' + 1, o1)], x.1 ≠ P := by
  have := l _ (.head _); have this : @LT.lt Nat _ P L' := this; intro x hx; simp only [List.mem_cons, List.not_mem_nil, or_false] at hx; rcases hx with rfl | rfl <;> (show @Ne Nat _ P; omega)
theorem own3 {P L' : Addr} {ob o1 o2 o3 : Obj} {rest : List (Addr × Obj)} (l : ∀ p ∈ (P, ob) :: rest, p.1 < L') : ∀ x ∈ [(L' + 1 + 1 + 1, o3), (L' + 1 + 1, o2), (L' + 1, o1)], x.1 ≠ P := by
  have := l _ (.head _); have this : @LT.lt Nat _ P L' := this; intro x hx; simp only [List.mem_cons, List.not_mem_nil, or_false] at hx; rcases hx with rfl | rfl | rfl <;> (show @Ne Nat _ P; omega)
local macro_rules | `(tactic| walk_at "tc_enter") => `(tactic| (refine' code_defCT (by k_asm) (by k_asm) (by k_asm) (by k_asm) (by k_asm) (by assumption) (by exact rfl) (by exact rfl) (by assumption) (by k_is) (by k_is) (by ktr_room) (by exact BindsTo.of_eq rfl) (by exact rfl) (by decide +kernel) ?_ (by exact rfl) (by exact rfl) (by exact rfl); k_whole; intro g' L' h' tk' cells' FG' F' N' Y' B' X' T' D' l1; k_cells Y'; (try simp only [List.cons_append, List.nil_append] at N'); (try dsimp only); (try k_fold)))
local macro_rules | `(tactic| walk_at "eval Name") => `(tactic| (kc_free; k_dflt (refine' nameX_F (by k_asm) (by rfl) (by first | assumption | exact List.Mem.tail _ (by assumption)) (by assumption) ?_ (by rfl) (by rfl); k_whole)))
theorem News.sub {g h : Heap} {L : Addr} {l l' : List (Addr × Obj)} (N : News g L h l) (k : ∀ x ∈ l', x ∈ l) : News g L h l' := fun p hp => N p (k p hp)
theorem News.subC {g h : Heap} {L : Addr} {q : Addr × Obj} {l l' : List (Addr × Obj)} (N : News g L h (q :: l)) (k : ∀ x ∈ l', x ∈ l) : News g L h (q :: l') := fun p hp => by
  rcases List.mem_cons.mp hp with rfl | hp
  · exact N _ (.head _)
  · exact N p (.tail _ (k p hp))
section
variable {prog : Program} {w : World} {p : Program} {loose : List Str} {mean : ExcName → Option Value} {mg mb : Str → Option Value} {dp un : Nat} {gd : Option (List Code)} {cn : Str} {cs : Scope} {a : Addr} {ccd : Value} {cl : List (Str × Addr)} {outer : List Env} {A₀ : Around} {base h₀ : Heap} {L : Addr} {m : Str → Option Value} {s : Shared} {Q E : Value → Shared → Prop} {news : List (Addr × Obj)}
  (B : Below A₀ base outer h₀) (F : Fr h₀ L s.heap m) (X : (Mine.hd.heap_1 w.params).In h₀) (T : Top p loose mean mg mb h₀) (hk : cs.kind = .function) (ZB : base.get? 0 = some (zO w)) (XB : (Mine.hd.heap_1 w.params).In base) (TB : Top p loose mean mg mb base) (D : KtsDicts (outer.filterMap (·.frame)) h₀)
include B F X T hk ZB XB TB D
theorem loc7 {cI cD kI kD rw bn kept lt uf : Addr} {tc tk : Nat → Tok} {hits reads writes dw rest : Int} {wt rt : Tok} {ps : Array Value}
  (N : News h₀ L s.heap ((429, tabObj ps) :: news)) (m1 : (cI, instObj 304 cD) ∈ news) (m2 : (cD, cacheD w tc kI rw bn hits reads writes) ∈ news) (m3 : (kI, instObj 402 kD) ∈ news) (m4 : (kD, diskD w tk kept lt uf dw) ∈ news) (ht : TabInv "_law_of_cache.<locals>.<lambda>" ps news) (ha : ∀ x ∈ news, x.1 ≠ 429) (c1 : 0 ≤ rest)
  (hdp : dp + 30 < 500) (hun : un + 300 < 5000)
  (hret : ∀ h' tk' t1 t2 tp ps' ex h₀', KtsTurn (outer.filterMap (·.frame)) h₀ h₀' → Fr h₀' L h' m → News h₀' L h' ((tp, { cls := .type "tuple", data := .seq #[.str (Str.ofString "disk") t1, .str (Str.ofString "disk") t2] }) :: (429, tabObj ps') :: (ex ++ news)) → Grown "_law_of_cache.<locals>.<lambda>" 429 ps ps' ex news → Below A₀ base outer h₀' → Q (.ref tp) { s with heap := h', toks := tk' }) :
   wpAny (model prog w) (ktrTop dp un gd cn cs L a ccd cl outer) (call (.ref 434) [.ref cI, .int 7 wt, .int rest rt]) Q E s := by
  refine wpAny_call ?_
  k_dflt (walk_at "tc_enter")
  k_steps
  k_dflt (refine' lam_one (own := [_, _, _]) (P := 429) (c := 433) (q := "_law_of_cache.<locals>.<lambda>") ?F ?N ?T ?C ?cd ?a1 ?a2 ?t ?q ?cl ?d ?_; ((case F => k_asm); (case N => k_asm); (case T => k_asm); (case cd => exact rfl); (case cl => exact rfl); (case d => exact rfl); (case t => assumption); (case a2 => assumption); (case q => kernel_rfl); (case C => exact codeHd_of_K (by assumption) (by kernel_rfl)); (case a1 => first | exact own3 (by assumption) | exact own2 (by assumption) | exact own1 (by assumption))))
  intro f c' oc vs t ctv h₁ tk₁ ps' ex ls F₁ N₁ mf mc hd hv ho hrr hx G
  have o1 : ∃ o, (_, o) ∈ ls ∧ o.data = .cell (some (.int rest rt)) := ⟨_, ho _ (.tail _ (.head _)), by first | rfl | assumption⟩
  have o2 : ∃ o, (_, o) ∈ ls ∧ o.data = .cell (some (.ref cI)) := ⟨_, ho _ (.tail _ (.tail _ (.head _))), by first | rfl | assumption⟩
  have n1 := hrr _ m1
  have n2 := hrr _ m2
  have n3 := hrr _ m3
  have n4 := hrr _ m4
  have hD : Deed prog w p loose mean mg mb base f 64 ls := by
    obtain ⟨b1, o1, e1⟩ := o1
    obtain ⟨b2, o2, e2⟩ := o2
    rename_i g' L' h' tk' FG' F' B' X' T' D' l1 o1' o2' o3' d1' d2' d3' N' t1 t2
    clear N' d1' d2' d3' l1 D' F' X' T' B' FG' G hx ho F₁ N₁ hret N ha ht F X T B D
    intro dp un gd cn cs a ccd cl outer A₀ h₀ L m s Q E B F X T hk N hdp hun hE
    refine wpAny_call ?_
    k_dflt ((refine' kla_code (by k_asm) (by k_asm) (by k_asm) (by k_asm) (by k_asm) (by exact rfl) (by exact rfl) (by assumption) (by assumption) (by exact codeRec_news (by k_asm) (by assumption) (by assumption) (by assumption)) (by ktr_room) (by exact rfl) (by exact locs rfl) ?_ (by exact rfl) (by exact rfl) (by exact rfl) (by decide); k_whole; intro g'z L'z h'z FG'z F'z N'z B'z X'z T'z; (try dsimp only); (try k_fold)))
    have q := fm rest 3 (by decide)
    k_steps
    any_goals ((with_reducible show wpAny _ _ (call (Value.ref 277) _ _) _ _ _); k_dflt (refine' peek_bad (by k_asm) (by k_asm) (by k_asm) (by k_asm) (by walk_at "r") (by assumption) (by k_asm) (by k_mem) (by k_mem) (by k_mem) (by k_mem) (by walk_at "o") (by walk_at "h") (by walk_at "h") ?_; k_whole); walk_at "bad")
    k_steps
    all_goals exact hE _ _ _ _ (by k_asm) (by assumption) (by assumption)
  clear o1 o2
  k_steps
  k_dflt ((k_dflt (first | refine' met64 ?kB ?kF ?kX ?kT ?kk ?kZ ?kXB ?kTB ?kD ?kN (by assumption) (by assumption) ?hdp ?hun ?_ | refine' met52 ?kB ?kF ?kX ?kT ?kk ?kZ ?kXB ?kTB ?kD ?kN (by assumption) (by assumption) ?hdp ?hun ?_ | refine' met76 ?kB ?kF ?kX ?kT ?kk ?kZ ?kXB ?kTB ?kD ?kN (by assumption) (by assumption) ?hdp ?hun ?_); (case kB => k_asm); (case kF => k_asm); (case kX => assumption); (case kT => assumption); (case kk => walk_at "r"); (case kZ => assumption); (case kXB => assumption); (case kTB => assumption); (case kD => assumption); (case kN => k_asm); (case hdp => (dsimp only [ktrTop, Around.deeper, Around.in1]; omega)); (case hun => (dsimp only [ktrTop, Around.deeper, Around.in1]; omega))))
  intro h₂ tk₂ tq h₀' T₂ F₂ N₂ B₂
  k_steps
  (try dsimp only)
  exact leaveT_ T₂ (by k_asm) (by k_asm) fun h₀' t f n b => hret _ _ _ _ _ _ _ h₀' t f (News.subC n hx) G b
end
section
variable {prog : Program} {w : World} {p : Program} {loose : List Str} {mean : ExcName → Option Value} {mg mb : Str → Option Value} {dp un : Nat} {gd : Option (List Code)} {cn : Str} {cs : Scope} {a : Addr} {ccd : Value} {cl : List (Str × Addr)} {outer : List Env} {A₀ : Around} {base h₀ : Heap} {L : Addr} {m : Str → Option Value} {s : Shared} {Q E : Value → Shared → Prop} {news : List (Addr × Obj)}
  (B : Below A₀ base outer h₀) (F : Fr h₀ L s.heap m) (X : (Mine.hd.heap_1 w.params).In h₀) (T : Top p loose mean mg mb h₀) (hk : cs.kind = .function) (ZB : base.get? 0 = some (zO w)) (XB : (Mine.hd.heap_1 w.params).In base) (TB : Top p loose mean mg mb base) (D : KtsDicts (outer.filterMap (·.frame)) h₀)
include B F X T hk ZB XB TB D
theorem loc1 {cI cD kI kD rw bn kept lt uf : Addr} {tc tk : Nat → Tok} {hits reads writes dw rest : Int} {wt rt : Tok} {ps : Array Value}
  (N : News h₀ L s.heap ((429, tabObj ps) :: news)) (m1 : (cI, instObj 304 cD) ∈ news) (m2 : (cD, cacheD w tc kI rw bn hits reads writes) ∈ news) (m3 : (kI, instObj 402 kD) ∈ news) (m4 : (kD, diskD w tk kept lt uf dw) ∈ news) (ht : TabInv "_law_of_cache.<locals>.<lambda>" ps news) (ha : ∀ x ∈ news, x.1 ≠ 429) (c1 : 0 ≤ rest)
  (hdp : dp + 30 < 500) (hun : un + 300 < 5000)
  (hret : ∀ h' tk' t1 t2 tp ps' ex h₀', KtsTurn (outer.filterMap (·.frame)) h₀ h₀' → Fr h₀' L h' m → News h₀' L h' ((tp, { cls := .type "tuple", data := .seq #[.str (Str.ofString "disk") t1, .str (Str.ofString "disk") t2] }) :: (429, tabObj ps') :: (ex ++ news)) → Grown "_law_of_cache.<locals>.<lambda>" 429 ps ps' ex news → Below A₀ base outer h₀' → Q (.ref tp) { s with heap := h', toks := tk' }) :
   wpAny (model prog w) (ktrTop dp un gd cn cs L a ccd cl outer) (call (.ref 434) [.ref cI, .int 1 wt, .int rest rt]) Q E s := by
  refine wpAny_call ?_
  k_dflt (walk_at "tc_enter")
  k_steps
  k_dflt (refine' lam_one (own := [_, _, _]) (P := 429) (c := 433) (q := "_law_of_cache.<locals>.<lambda>") ?F ?N ?T ?C ?cd ?a1 ?a2 ?t ?q ?cl ?d ?_; ((case F => k_asm); (case N => k_asm); (case T => k_asm); (case cd => exact rfl); (case cl => exact rfl); (case d => exact rfl); (case t => assumption); (case a2 => assumption); (case q => kernel_rfl); (case C => exact codeHd_of_K (by assumption) (by kernel_rfl)); (case a1 => first | exact own3 (by assumption) | exact own2 (by assumption) | exact own1 (by assumption))))
  intro f c' oc vs t ctv h₁ tk₁ ps' ex ls F₁ N₁ mf mc hd hv ho hrr hx G
  have o1 : ∃ o, (_, o) ∈ ls ∧ o.data = .cell (some (.int rest rt)) := ⟨_, ho _ (.tail _ (.head _)), by first | rfl | assumption⟩
  have o2 : ∃ o, (_, o) ∈ ls ∧ o.data = .cell (some (.ref cI)) := ⟨_, ho _ (.tail _ (.tail _ (.head _))), by first | rfl | assumption⟩
  have n1 := hrr _ m1
  have n2 := hrr _ m2
  have n3 := hrr _ m3
  have n4 := hrr _ m4
  have hD : Deed prog w p loose mean mg mb base f 64 ls := by
    obtain ⟨b1, o1, e1⟩ := o1
    obtain ⟨b2, o2, e2⟩ := o2
    rename_i g' L' h' tk' FG' F' B' X' T' D' l1 o1' o2' o3' d1' d2' d3' N' t1
    clear N' d1' d2' d3' l1 D' F' X' T' B' FG' G hx ho F₁ N₁ hret N ha ht F X T B D
    intro dp un gd cn cs a ccd cl outer A₀ h₀ L m s Q E B F X T hk N hdp hun hE
    refine wpAny_call ?_
    k_dflt ((refine' kla_code (by k_asm) (by k_asm) (by k_asm) (by k_asm) (by k_asm) (by exact rfl) (by exact rfl) (by assumption) (by assumption) (by exact codeRec_news (by k_asm) (by assumption) (by assumption) (by assumption)) (by ktr_room) (by exact rfl) (by exact locs rfl) ?_ (by exact rfl) (by exact rfl) (by exact rfl) (by decide); k_whole; intro g'z L'z h'z FG'z F'z N'z B'z X'z T'z; (try dsimp only); (try k_fold)))
    have q := fm rest 3 (by decide)
    k_steps
    any_goals ((with_reducible show wpAny _ _ (call (Value.ref 284) _ _) _ _ _); k_dflt (refine' poke_badk (by k_asm) (by k_asm) (by k_asm) (by k_asm) (by walk_at "r") (by assumption) (by k_asm) (by k_mem) (by k_mem) (by k_mem) (by k_mem) (by walk_at "o") (by walk_at "h") (by walk_at "h") ?_; k_whole); walk_at "bad")
    k_steps
    all_goals exact hE _ _ _ _ (by k_asm) (by assumption) (by assumption)
  clear o1 o2
  k_steps
  k_dflt ((k_dflt (first | refine' met64 ?kB ?kF ?kX ?kT ?kk ?kZ ?kXB ?kTB ?kD ?kN (by assumption) (by assumption) ?hdp ?hun ?_ | refine' met52 ?kB ?kF ?kX ?kT ?kk ?kZ ?kXB ?kTB ?kD ?kN (by assumption) (by assumption) ?hdp ?hun ?_ | refine' met76 ?kB ?kF ?kX ?kT ?kk ?kZ ?kXB ?kTB ?kD ?kN (by assumption) (by assumption) ?hdp ?hun ?_); (case kB => k_asm); (case kF => k_asm); (case kX => assumption); (case kT => assumption); (case kk => walk_at "r"); (case kZ => assumption); (case kXB => assumption); (case kTB => assumption); (case kD => assumption); (case kN => k_asm); (case hdp => (dsimp only [ktrTop, Around.deeper, Around.in1]; omega)); (case hun => (dsimp only [ktrTop, Around.deeper, Around.in1]; omega))))
  intro h₂ tk₂ tq h₀' T₂ F₂ N₂ B₂
  k_steps
  (try dsimp only)
  exact leaveT_ T₂ (by k_asm) (by k_asm) fun h₀' t f n b => hret _ _ _ _ _ _ _ h₀' t f (News.subC n hx) G b
end
section
variable {prog : Program} {w : World} {p : Program} {loose : List Str} {mean : ExcName → Option Value} {mg mb : Str → Option Value} {dp un : Nat} {gd : Option (List Code)} {cn : Str} {cs : Scope} {a : Addr} {ccd : Value} {cl : List (Str × Addr)} {outer : List Env} {A₀ : Around} {base h₀ : Heap} {L : Addr} {m : Str → Option Value} {s : Shared} {Q E : Value → Shared → Prop} {news : List (Addr × Obj)}
  (B : Below A₀ base outer h₀) (F : Fr h₀ L s.heap m) (X : (Mine.hd.heap_1 w.params).In h₀) (T : Top p loose mean mg mb h₀) (hk : cs.kind = .function) (ZB : base.get? 0 = some (zO w)) (XB : (Mine.hd.heap_1 w.params).In base) (TB : Top p loose mean mg mb base) (D : KtsDicts (outer.filterMap (·.frame)) h₀)
include B F X T hk ZB XB TB D
theorem loc6 {cI cD kI rw bn : Addr} {tc : Nat → Tok} {hits reads writes rest : Int} {wt rt : Tok} {ob : Obj} {kvs : List (Int × Value)} {ps : Array Value}
  (N : News h₀ L s.heap ((429, tabObj ps) :: news)) (m1 : (cI, instObj 304 cD) ∈ news) (m2 : (cD, cacheD w tc kI rw bn hits reads writes) ∈ news) (m3 : (bn, ob) ∈ news) (ht : TabInv "_law_of_cache.<locals>.<lambda>" ps news) (ha : ∀ x ∈ news, x.1 ≠ 429) (c1 : ob.IsDictOf (intKind prog w) kvs) (c2 : (bn == sysModules) = false) (c3 : valueAt kvs (rest.fmod 6) = none ∨ ∃ b d y tb hd, valueAt kvs (rest.fmod 6) = some (.ref b) ∧ (b, instObj 189 d) ∈ news ∧ (d, bufD w tb (rest.fmod 6) y hd) ∈ news)
  (hdp : dp + 30 < 500) (hun : un + 300 < 5000)
  (hret : ∀ h' tk' t1 t2 tp ps' ex h₀', KtsTurn (outer.filterMap (·.frame)) h₀ h₀' → Fr h₀' L h' m → News h₀' L h' ((tp, { cls := .type "tuple", data := .seq #[.str (Str.ofString "argument") t1, .str (Str.ofString "argument") t2] }) :: (429, tabObj ps') :: (ex ++ news)) → Grown "_law_of_cache.<locals>.<lambda>" 429 ps ps' ex news → Below A₀ base outer h₀' → Q (.ref tp) { s with heap := h', toks := tk' }) :
   wpAny (model prog w) (ktrTop dp un gd cn cs L a ccd cl outer) (call (.ref 434) [.ref cI, .int 6 wt, .int rest rt]) Q E s := by
  refine wpAny_call ?_
  k_dflt (walk_at "tc_enter")
  k_steps
  k_dflt (refine' lam_one (own := [_, _, _]) (P := 429) (c := 433) (q := "_law_of_cache.<locals>.<lambda>") ?F ?N ?T ?C ?cd ?a1 ?a2 ?t ?q ?cl ?d ?_; ((case F => k_asm); (case N => k_asm); (case T => k_asm); (case cd => exact rfl); (case cl => exact rfl); (case d => exact rfl); (case t => assumption); (case a2 => assumption); (case q => kernel_rfl); (case C => exact codeHd_of_K (by assumption) (by kernel_rfl)); (case a1 => first | exact own3 (by assumption) | exact own2 (by assumption) | exact own1 (by assumption))))
  intro f c' oc vs t ctv h₁ tk₁ ps' ex ls F₁ N₁ mf mc hd hv ho hrr hx G
  have o1 : ∃ o, (_, o) ∈ ls ∧ o.data = .cell (some (.int rest rt)) := ⟨_, ho _ (.tail _ (.head _)), by first | rfl | assumption⟩
  have o2 : ∃ o, (_, o) ∈ ls ∧ o.data = .cell (some (.ref cI)) := ⟨_, ho _ (.tail _ (.tail _ (.head _))), by first | rfl | assumption⟩
  have n1 := hrr _ m1
  have n2 := hrr _ m2
  have n3 := hrr _ m3
  have hD : Deed prog w p loose mean mg mb base f 52 ls := by
    obtain ⟨b1, o1, e1⟩ := o1
    obtain ⟨b2, o2, e2⟩ := o2
    rename_i g' L' h' tk' FG' F' B' X' T' D' l1 o1' o2' o3' d1' d2' d3' N' t1 t2
    clear N' d1' d2' d3' l1 D' F' X' T' B' FG' G hx ho F₁ N₁ hret N ha ht F X T B D
    intro dp un gd cn cs a ccd cl outer A₀ h₀ L m s Q E B F X T hk N hdp hun hE
    refine wpAny_call ?_
    k_dflt ((refine' kla_code (by k_asm) (by k_asm) (by k_asm) (by k_asm) (by k_asm) (by exact rfl) (by exact rfl) (by assumption) (by assumption) (by exact codeRec_news (by k_asm) (by assumption) (by assumption) (by assumption)) (by ktr_room) (by exact rfl) (by exact locs rfl) ?_ (by exact rfl) (by exact rfl) (by exact rfl) (by decide); k_whole; intro g'z L'z h'z FG'z F'z N'z B'z X'z T'z; (try dsimp only); (try k_fold)))
    rcases c3 with c3 | ⟨bb, dd, yy, tb, hd₁, c3, w1, w2⟩
    case' inr => (have w1 := hrr _ w1; have w2 := hrr _ w2)
    k_steps
    any_goals ((with_reducible show wpAny _ _ (call (Value.ref 256) _ _) _ _ _); k_dflt (refine' unpin_bad1 (by k_asm) (by k_asm) (by k_asm) (by k_asm) (by walk_at "r") (by assumption) (by k_asm) (by k_mem) (by k_mem) (by k_mem) (by k_mem) (by k_mem) (by walk_at "o") (by walk_at "o") (by walk_at "o") (by walk_at "h") (by walk_at "h") ?_; k_whole); walk_at "bad")
    k_steps
    any_goals ((with_reducible show wpAny _ _ (call (Value.ref 256) _ _) _ _ _); k_dflt (refine' unpin_bad0 (by k_asm) (by k_asm) (by k_asm) (by k_asm) (by walk_at "r") (by assumption) (by k_asm) (by k_mem) (by k_mem) (by k_mem) (by walk_at "o") (by walk_at "o") (by walk_at "o") (by walk_at "h") (by walk_at "h") ?_; k_whole); walk_at "bad")
    k_steps
    all_goals exact hE _ _ _ _ (by k_asm) (by assumption) (by assumption)
  clear o1 o2
  k_steps
  k_dflt ((k_dflt (first | refine' met64 ?kB ?kF ?kX ?kT ?kk ?kZ ?kXB ?kTB ?kD ?kN (by assumption) (by assumption) ?hdp ?hun ?_ | refine' met52 ?kB ?kF ?kX ?kT ?kk ?kZ ?kXB ?kTB ?kD ?kN (by assumption) (by assumption) ?hdp ?hun ?_ | refine' met76 ?kB ?kF ?kX ?kT ?kk ?kZ ?kXB ?kTB ?kD ?kN (by assumption) (by assumption) ?hdp ?hun ?_); (case kB => k_asm); (case kF => k_asm); (case kX => assumption); (case kT => assumption); (case kk => walk_at "r"); (case kZ => assumption); (case kXB => assumption); (case kTB => assumption); (case kD => assumption); (case kN => k_asm); (case hdp => (dsimp only [ktrTop, Around.deeper, Around.in1]; omega)); (case hun => (dsimp only [ktrTop, Around.deeper, Around.in1]; omega))))
  intro h₂ tk₂ tq h₀' T₂ F₂ N₂ B₂
  k_steps
  (try dsimp only)
  exact leaveT_ T₂ (by k_asm) (by k_asm) fun h₀' t f n b => hret _ _ _ _ _ _ _ h₀' t f (News.subC n hx) G b
end
section
open PySem.W.X PySem.W.XRun
local macro_rules | `(tactic| x_close) => `(tactic| (first | (refine pureEnd (by assumption) ?_; exact ⟨_, rfl⟩) | (refine pureEnd0 ?_; exact ⟨_, rfl⟩)))
theorem x_bytes_z {prog : Program} {w : World} {s : Shared} {u : Tok} {n : Int} (h0 : 0 ≤ n) (h7 : n ≤ 7) :
   wpAny (model prog w) AX (call (.type "bytes") [.int n u]) (PureEnd s fun v _ => ∃ t, v = .bytes (Array.replicate n.toNat 0) t) (fun _ _ => False) s := by
  have hn : n = 0 ∨ n = 1 ∨ n = 2 ∨ n = 3 ∨ n = 4 ∨ n = 5 ∨ n = 6 ∨ n = 7 := by omega
  rcases hn with rfl | rfl | rfl | rfl | rfl | rfl | rfl | rfl
  · x_run
  · x_run
  · x_run
  · x_run
  · x_run
  · x_run
  · x_run
  · x_run
end
theorem bytes_z {prog : Program} {w : World} {A : Around} {E : Value → Shared → Prop} {s : Shared} {h₀ : Heap} {L : Addr} {m : Str → Option Value} {news : List (Addr × Obj)} {Q : Value → Shared → Prop} {u : Tok} {n : Int} (F : Fr h₀ L s.heap m) (N : News h₀ L s.heap news) (h0 : 0 ≤ n) (h7 : n ≤ 7) (e1 : A.handled = none) (e2 : A.depth ≤ 600) (e5 : A.units ≤ 6000)
    (h : ∀ data t h' tk, Fr h₀ L h' m → News h₀ L h' news → data.size = n.toNat → Q (.bytes data t) { s with heap := h', toks := tk }) : wpAny (model prog w) A (call (.type "bytes") [.int n u]) Q E s :=
  lift_pure F N (x_bytes_z h0 h7) e1 e2 e5 fun v h' tk F' N' _ p => by obtain ⟨t, rfl⟩ := p; exact h _ t h' tk F' N' (by simp)
local macro_rules | `(tactic| walk_at "call type:bytes") => `(tactic| (k_dflt (refine' bytes_z (by k_asm) (by k_asm) (by omega) (by omega) (by rfl) (by walk_at "h") (by walk_at "h") ?_); intro dt' t' h' tk' F' N' hs'; (try k_sweep)))
theorem cell3 {P L' : Addr} {ob o1 o2 : Obj} {rest : List (Addr × Obj)} (l : ∀ p ∈ (P, ob) :: rest, p.1 < L') : ∀ x ∈ (L' + 1 + 1, o2) :: (L' + 1, o1) :: (P, ob) :: rest, x.1 ≠ L' + 1 + 1 + 1 := by
  intro x hx
  show @Ne Nat _ _
  rcases List.mem_cons.mp hx with rfl | hx
  · show @Ne Nat (L' + 1 + 1) _; omega
  · rcases List.mem_cons.mp hx with rfl | hx
    · show @Ne Nat (L' + 1) _; omega
    · have := l _ hx; have this : @LT.lt Nat _ x.1 L' := this; omega
section
variable {prog : Program} {w : World} {p : Program} {loose : List Str} {mean : ExcName → Option Value} {mg mb : Str → Option Value} {dp un : Nat} {gd : Option (List Code)} {cn : Str} {cs : Scope} {a : Addr} {ccd : Value} {cl : List (Str × Addr)} {outer : List Env} {A₀ : Around} {base h₀ : Heap} {L : Addr} {m : Str → Option Value} {s : Shared} {Q E : Value → Shared → Prop} {news : List (Addr × Obj)}
  (B : Below A₀ base outer h₀) (F : Fr h₀ L s.heap m) (X : (Mine.hd.heap_1 w.params).In h₀) (T : Top p loose mean mg mb h₀) (hk : cs.kind = .function) (ZB : base.get? 0 = some (zO w)) (XB : (Mine.hd.heap_1 w.params).In base) (TB : Top p loose mean mg mb base) (D : KtsDicts (outer.filterMap (·.frame)) h₀)
include B F X T hk ZB XB TB D
theorem loc0 {cI cD kI kD rw bn kept lt uf : Addr} {tc tk : Nat → Tok} {hits reads writes dw rest : Int} {wt rt : Tok} {ps : Array Value}
  (N : News h₀ L s.heap ((429, tabObj ps) :: news)) (m1 : (cI, instObj 304 cD) ∈ news) (m2 : (cD, cacheD w tc kI rw bn hits reads writes) ∈ news) (m3 : (kI, instObj 402 kD) ∈ news) (m4 : (kD, diskD w tk kept lt uf dw) ∈ news) (ht : TabInv "_law_of_cache.<locals>.<lambda>" ps news) (ha : ∀ x ∈ news, x.1 ≠ 429) (c1 : 0 ≤ rest)
  (hdp : dp + 30 < 500) (hun : un + 300 < 5000)
  (hret : ∀ h' tk' t1 t2 tp ps' ex h₀', KtsTurn (outer.filterMap (·.frame)) h₀ h₀' → Fr h₀' L h' m → News h₀' L h' ((tp, { cls := .type "tuple", data := .seq #[.str (Str.ofString "argument") t1, .str (Str.ofString "argument") t2] }) :: (429, tabObj ps') :: (ex ++ news)) → Grown "_law_of_cache.<locals>.<lambda>" 429 ps ps' ex news → Below A₀ base outer h₀' → Q (.ref tp) { s with heap := h', toks := tk' }) :
   wpAny (model prog w) (ktrTop dp un gd cn cs L a ccd cl outer) (call (.ref 434) [.ref cI, .int 0 wt, .int rest rt]) Q E s := by
  refine wpAny_call ?_
  k_dflt (walk_at "tc_enter")
  have q2 := fm rest 2 (by decide)
  have q3 := fm rest 3 (by decide)
  have q4 := fm rest 4 (by decide)
  have q6 := fm rest 6 (by decide)
  k_steps
  all_goals dsimp only
  all_goals (k_dflt (((k_dflt (refine' storeX_C (by k_asm) (by k_asm) (by rfl) (by exact .head (cell3 (by assumption))) (by assumption) ?_ (by rfl) (by rfl))); intro h' o' F' N' d'; (try dsimp only at N'); (try k_sweep))))
  all_goals k_steps
  all_goals (
    k_dflt (refine' lam_one (own := [_, _, _]) (P := 429) (c := 433) (q := "_law_of_cache.<locals>.<lambda>") ?F ?N ?T ?C ?cd ?a1 ?a2 ?t ?q ?cl ?d ?_; ((case F => k_asm); (case N => k_asm); (case T => k_asm); (case cd => exact rfl); (case cl => exact rfl); (case d => exact rfl); (case t => assumption); (case a2 => assumption); (case q => kernel_rfl); (case C => exact codeHd_of_K (by assumption) (by kernel_rfl)); (case a1 => first | exact own3 (by assumption) | exact own2 (by assumption) | exact own1 (by assumption))))
    intro f c' oc vs t ctv h₁ tk₁ ps' ex ls F₁ N₁ mf mc hd hv ho hrr hx G
    have o0 : ∃ o, (_, o) ∈ ls ∧ o.data = .cell (some (.bytes _ _)) := ⟨_, ho _ (.head _), by first | rfl | assumption⟩
    have o1 : ∃ o, (_, o) ∈ ls ∧ o.data = .cell (some (.int rest rt)) := ⟨_, ho _ (.tail _ (.head _)), by first | rfl | assumption⟩
    have o2 : ∃ o, (_, o) ∈ ls ∧ o.data = .cell (some (.ref cI)) := ⟨_, ho _ (.tail _ (.tail _ (.head _))), by first | rfl | assumption⟩
    have n1 := hrr _ m1
    have n2 := hrr _ m2
    have n3 := hrr _ m3
    have n4 := hrr _ m4
    have hD : Deed prog w p loose mean mg mb base f 52 ls := by
      obtain ⟨b0, o0, e0⟩ := o0
      obtain ⟨b1, o1, e1⟩ := o1
      obtain ⟨b2, o2, e2⟩ := o2
      skip
      intro dp un gd cn cs a ccd cl outer A₀ h₀ L m s Q E B F X T hk N hdp hun hE
      refine wpAny_call ?_
      k_dflt ((refine' kla_code (by k_asm) (by k_asm) (by k_asm) (by k_asm) (by k_asm) (by exact rfl) (by exact rfl) (by assumption) (by assumption) (by exact codeRec_news (by k_asm) (by assumption) (by assumption) (by assumption)) (by ktr_room) (by exact rfl) (by exact locs rfl) ?_ (by exact rfl) (by exact rfl) (by exact rfl) (by decide); k_whole; intro g'z L'z h'z FG'z F'z N'z B'z X'z T'z; (try dsimp only); (try k_fold)))
      k_steps
      any_goals ((with_reducible show wpAny _ _ (call (Value.ref 284) _ _) _ _ _); k_dflt (refine' poke_bads (by k_asm) (by k_asm) (by k_asm) (by k_asm) (by walk_at "r") (by assumption) (by k_asm) (by k_mem) (by k_mem) (by k_mem) (by k_mem) (by walk_at "o") (by walk_at "o") (by walk_at "o") (by walk_at "o") (by walk_at "h") (by walk_at "h") ?_; k_whole); walk_at "bad")
      k_steps
      all_goals exact hE _ _ _ _ (by k_asm) (by assumption) (by assumption)
    clear o0 o1 o2
    k_steps
    k_dflt ((k_dflt (first | refine' met64 ?kB ?kF ?kX ?kT ?kk ?kZ ?kXB ?kTB ?kD ?kN (by assumption) (by assumption) ?hdp ?hun ?_ | refine' met52 ?kB ?kF ?kX ?kT ?kk ?kZ ?kXB ?kTB ?kD ?kN (by assumption) (by assumption) ?hdp ?hun ?_ | refine' met76 ?kB ?kF ?kX ?kT ?kk ?kZ ?kXB ?kTB ?kD ?kN (by assumption) (by assumption) ?hdp ?hun ?_); (case kB => k_asm); (case kF => k_asm); (case kX => assumption); (case kT => assumption); (case kk => walk_at "r"); (case kZ => assumption); (case kXB => assumption); (case kTB => assumption); (case kD => assumption); (case kN => k_asm); (case hdp => (dsimp only [ktrTop, Around.deeper, Around.in1]; omega)); (case hun => (dsimp only [ktrTop, Around.deeper, Around.in1]; omega))))
    intro h₂ tk₂ tq h₀' T₂ F₂ N₂ B₂
    k_steps
    (try dsimp only)
    exact leaveT_ T₂ (by k_asm) (by k_asm) fun h₀' t f n b => hret _ _ _ _ _ _ _ h₀' t f (News.subC n hx) G b)
end
section
variable {prog : Program} {w : World} {p : Program} {loose : List Str} {mean : ExcName → Option Value} {mg mb : Str → Option Value} {dp un : Nat} {gd : Option (List Code)} {cn : Str} {cs : Scope} {a : Addr} {ccd : Value} {cl : List (Str × Addr)} {outer : List Env} {A₀ : Around} {base h₀ : Heap} {L : Addr} {m : Str → Option Value} {s : Shared} {Q E : Value → Shared → Prop} {news : List (Addr × Obj)}
  (B : Below A₀ base outer h₀) (F : Fr h₀ L s.heap m) (X : (Mine.hd.heap_1 w.params).In h₀) (T : Top p loose mean mg mb h₀) (hk : cs.kind = .function) (ZB : base.get? 0 = some (zO w)) (XB : (Mine.hd.heap_1 w.params).In base) (TB : Top p loose mean mg mb base) (D : KtsDicts (outer.filterMap (·.frame)) h₀)
include B F X T hk ZB XB TB D
theorem lob2 {b d y : Addr} {tb : Nat → Tok} {k hd₀ rest : Int} {data : Array UInt8} {wt rt : Tok} {ps : Array Value}
  (N : News h₀ L s.heap ((436, tabObj ps) :: news)) (m1 : (b, instObj 189 d) ∈ news) (m2 : (d, bufD w tb k y hd₀) ∈ news) (m3 : (y, baO data) ∈ news) (ht : TabInv "_law_of_buffer.<locals>.<lambda>" ps news) (ha : ∀ x ∈ news, x.1 ≠ 436) (c1 : 0 ≤ rest) (c2 : data.size = 4)
  (hdp : dp + 30 < 500) (hun : un + 300 < 5000)
  (hret : ∀ h' tk' t1 ps' ex h₀', KtsTurn (outer.filterMap (·.frame)) h₀ h₀' → Fr h₀' L h' m → News h₀' L h' ((436, tabObj ps') :: (ex ++ news)) → Grown "_law_of_buffer.<locals>.<lambda>" 436 ps ps' ex news → Below A₀ base outer h₀' → Q (.str (Str.ofString "argument") t1) { s with heap := h', toks := tk' }) :
   wpAny (model prog w) (ktrTop dp un gd cn cs L a ccd cl outer) (call (.ref 441) [.ref b, .int 2 wt, .int rest rt]) Q E s := by
  refine wpAny_call ?_
  k_dflt (walk_at "tc_enter")
  k_steps
  k_dflt (refine' lam_one (own := [_, _]) (P := 436) (c := 440) (q := "_law_of_buffer.<locals>.<lambda>") ?F ?N ?T ?C ?cd ?a1 ?a2 ?t ?q ?cl ?d ?_; ((case F => k_asm); (case N => k_asm); (case T => k_asm); (case cd => exact rfl); (case cl => exact rfl); (case d => exact rfl); (case t => assumption); (case a2 => assumption); (case q => kernel_rfl); (case C => exact codeHd_of_K (by assumption) (by kernel_rfl)); (case a1 => first | exact own3 (by assumption) | exact own2 (by assumption) | exact own1 (by assumption))))
  intro f c' oc vs t ctv h₁ tk₁ ps' ex ls F₁ N₁ mf mc hd hv ho hrr hx G
  have o0 : ∃ o, (_, o) ∈ ls ∧ o.data = .cell (some (.int rest rt)) := ⟨_, ho _ (.head _), by first | rfl | assumption⟩
  have o1 : ∃ o, (_, o) ∈ ls ∧ o.data = .cell (some (.ref b)) := ⟨_, ho _ (.tail _ (.head _)), by first | rfl | assumption⟩
  have n1 := hrr _ m1
  have n2 := hrr _ m2
  have n3 := hrr _ m3
  have hD : Deed prog w p loose mean mg mb base f 52 ls := by
    obtain ⟨b0, o0, e0⟩ := o0
    obtain ⟨b1, o1, e1⟩ := o1
    skip
    intro dp un gd cn cs a ccd cl outer A₀ h₀ L m s Q E B F X T hk N hdp hun hE
    refine wpAny_call ?_
    k_dflt ((refine' kla_code (by k_asm) (by k_asm) (by k_asm) (by k_asm) (by k_asm) (by exact rfl) (by exact rfl) (by assumption) (by assumption) (by exact codeRec_news (by k_asm) (by assumption) (by assumption) (by assumption)) (by ktr_room) (by exact rfl) (by exact locs rfl) ?_ (by exact rfl) (by exact rfl) (by exact rfl) (by decide); k_whole; intro g'z L'z h'z FG'z F'z N'z B'z X'z T'z; (try dsimp only); (try k_fold)))
    have q2 := fm rest 2 (by decide)
    have q3 := fm rest 3 (by decide)
    have q4 := fm rest 4 (by decide)
    have q32 := fm rest 32 (by decide)
    k_steps
    any_goals ((with_reducible show wpAny _ _ (call (Value.ref 172) _ _) _ _ _); k_dflt (refine' put_little_bad (by k_asm) (by k_asm) (by k_asm) (by k_asm) (by walk_at "r") (by assumption) (by k_asm) (by k_mem) (by walk_at "o") (by walk_at "h") (by walk_at "h") ?_; k_whole); walk_at "bad")
    k_steps
    all_goals exact hE _ _ _ _ (by k_asm) (by assumption) (by assumption)
  clear o0 o1
  k_steps
  k_dflt ((k_dflt (first | refine' met64 ?kB ?kF ?kX ?kT ?kk ?kZ ?kXB ?kTB ?kD ?kN (by assumption) (by assumption) ?hdp ?hun ?_ | refine' met52 ?kB ?kF ?kX ?kT ?kk ?kZ ?kXB ?kTB ?kD ?kN (by assumption) (by assumption) ?hdp ?hun ?_ | refine' met76 ?kB ?kF ?kX ?kT ?kk ?kZ ?kXB ?kTB ?kD ?kN (by assumption) (by assumption) ?hdp ?hun ?_); (case kB => k_asm); (case kF => k_asm); (case kX => assumption); (case kT => assumption); (case kk => walk_at "r"); (case kZ => assumption); (case kXB => assumption); (case kTB => assumption); (case kD => assumption); (case kN => k_asm); (case hdp => (dsimp only [ktrTop, Around.deeper, Around.in1]; omega)); (case hun => (dsimp only [ktrTop, Around.deeper, Around.in1]; omega))))
  intro h₂ tk₂ tq h₀' T₂ F₂ N₂ B₂
  k_steps
  (try dsimp only)
  exact leaveT_ T₂ (by k_asm) (by k_asm) fun h₀' t f n b => hret _ _ _ _ _ h₀' t f (News.sub n hx) G b
end
section
variable {prog : Program} {w : World} {p : Program} {loose : List Str} {mean : ExcName → Option Value} {mg mb : Str → Option Value} {dp un : Nat} {gd : Option (List Code)} {cn : Str} {cs : Scope} {a : Addr} {ccd : Value} {cl : List (Str × Addr)} {outer : List Env} {A₀ : Around} {base h₀ : Heap} {L : Addr} {m : Str → Option Value} {s : Shared} {Q E : Value → Shared → Prop} {news : List (Addr × Obj)}
  (B : Below A₀ base outer h₀) (F : Fr h₀ L s.heap m) (X : (Mine.hd.heap_1 w.params).In h₀) (T : Top p loose mean mg mb h₀) (hk : cs.kind = .function) (ZB : base.get? 0 = some (zO w)) (XB : (Mine.hd.heap_1 w.params).In base) (TB : Top p loose mean mg mb base) (D : KtsDicts (outer.filterMap (·.frame)) h₀)
include B F X T hk ZB XB TB D
theorem lob4 {b d y : Addr} {tb : Nat → Tok} {k hd₀ rest : Int} {data : Array UInt8} {wt rt : Tok} {ps : Array Value}
  (N : News h₀ L s.heap ((436, tabObj ps) :: news)) (m1 : (b, instObj 189 d) ∈ news) (m2 : (d, bufD w tb k y hd₀) ∈ news) (m3 : (y, baO data) ∈ news) (ht : TabInv "_law_of_buffer.<locals>.<lambda>" ps news) (ha : ∀ x ∈ news, x.1 ≠ 436) (c1 : 0 ≤ rest) (c2 : data.size = 4)
  (hdp : dp + 30 < 500) (hun : un + 300 < 5000)
  (hret : ∀ h' tk' t1 ps' ex h₀', KtsTurn (outer.filterMap (·.frame)) h₀ h₀' → Fr h₀' L h' m → News h₀' L h' ((436, tabObj ps') :: (ex ++ news)) → Grown "_law_of_buffer.<locals>.<lambda>" 436 ps ps' ex news → Below A₀ base outer h₀' → Q (.str (Str.ofString "argument") t1) { s with heap := h', toks := tk' }) :
   wpAny (model prog w) (ktrTop dp un gd cn cs L a ccd cl outer) (call (.ref 441) [.ref b, .int 4 wt, .int rest rt]) Q E s := by
  refine wpAny_call ?_
  k_dflt (walk_at "tc_enter")
  k_steps
  k_dflt (refine' lam_one (own := [_, _]) (P := 436) (c := 440) (q := "_law_of_buffer.<locals>.<lambda>") ?F ?N ?T ?C ?cd ?a1 ?a2 ?t ?q ?cl ?d ?_; ((case F => k_asm); (case N => k_asm); (case T => k_asm); (case cd => exact rfl); (case cl => exact rfl); (case d => exact rfl); (case t => assumption); (case a2 => assumption); (case q => kernel_rfl); (case C => exact codeHd_of_K (by assumption) (by kernel_rfl)); (case a1 => first | exact own3 (by assumption) | exact own2 (by assumption) | exact own1 (by assumption))))
  intro f c' oc vs t ctv h₁ tk₁ ps' ex ls F₁ N₁ mf mc hd hv ho hrr hx G
  have o0 : ∃ o, (_, o) ∈ ls ∧ o.data = .cell (some (.int rest rt)) := ⟨_, ho _ (.head _), by first | rfl | assumption⟩
  have o1 : ∃ o, (_, o) ∈ ls ∧ o.data = .cell (some (.ref b)) := ⟨_, ho _ (.tail _ (.head _)), by first | rfl | assumption⟩
  have n1 := hrr _ m1
  have n2 := hrr _ m2
  have n3 := hrr _ m3
  have hD : Deed prog w p loose mean mg mb base f 52 ls := by
    obtain ⟨b0, o0, e0⟩ := o0
    obtain ⟨b1, o1, e1⟩ := o1
    skip
    intro dp un gd cn cs a ccd cl outer A₀ h₀ L m s Q E B F X T hk N hdp hun hE
    refine wpAny_call ?_
    k_dflt ((refine' kla_code (by k_asm) (by k_asm) (by k_asm) (by k_asm) (by k_asm) (by exact rfl) (by exact rfl) (by assumption) (by assumption) (by exact codeRec_news (by k_asm) (by assumption) (by assumption) (by assumption)) (by ktr_room) (by exact rfl) (by exact locs rfl) ?_ (by exact rfl) (by exact rfl) (by exact rfl) (by decide); k_whole; intro g'z L'z h'z FG'z F'z N'z B'z X'z T'z; (try dsimp only); (try k_fold)))
    have q2 := fm rest 2 (by decide)
    have q3 := fm rest 3 (by decide)
    have q4 := fm rest 4 (by decide)
    have q32 := fm rest 32 (by decide)
    k_steps
    any_goals ((with_reducible show wpAny _ _ (call (Value.ref 153) _ _) _ _ _); k_dflt (refine' fill_bad (by k_asm) (by k_asm) (by k_asm) (by k_asm) (by walk_at "r") (by assumption) (by k_asm) (by k_mem) (by k_mem) (by k_mem) (by walk_at "o") (by walk_at "o") (by walk_at "o") (by walk_at "h") (by walk_at "h") ?_; k_whole); walk_at "bad")
    k_steps
    all_goals exact hE _ _ _ _ (by k_asm) (by assumption) (by assumption)
  clear o0 o1
  k_steps
  k_dflt ((k_dflt (first | refine' met64 ?kB ?kF ?kX ?kT ?kk ?kZ ?kXB ?kTB ?kD ?kN (by assumption) (by assumption) ?hdp ?hun ?_ | refine' met52 ?kB ?kF ?kX ?kT ?kk ?kZ ?kXB ?kTB ?kD ?kN (by assumption) (by assumption) ?hdp ?hun ?_ | refine' met76 ?kB ?kF ?kX ?kT ?kk ?kZ ?kXB ?kTB ?kD ?kN (by assumption) (by assumption) ?hdp ?hun ?_); (case kB => k_asm); (case kF => k_asm); (case kX => assumption); (case kT => assumption); (case kk => walk_at "r"); (case kZ => assumption); (case kXB => assumption); (case kTB => assumption); (case kD => assumption); (case kN => k_asm); (case hdp => (dsimp only [ktrTop, Around.deeper, Around.in1]; omega)); (case hun => (dsimp only [ktrTop, Around.deeper, Around.in1]; omega))))
  intro h₂ tk₂ tq h₀' T₂ F₂ N₂ B₂
  k_steps
  (try dsimp only)
  exact leaveT_ T₂ (by k_asm) (by k_asm) fun h₀' t f n b => hret _ _ _ _ _ h₀' t f (News.sub n hx) G b
end
section
variable {prog : Program} {w : World} {p : Program} {loose : List Str} {mean : ExcName → Option Value} {mg mb : Str → Option Value} {dp un : Nat} {gd : Option (List Code)} {cn : Str} {cs : Scope} {a : Addr} {ccd : Value} {cl : List (Str × Addr)} {outer : List Env} {A₀ : Around} {base h₀ : Heap} {L : Addr} {m : Str → Option Value} {s : Shared} {Q E : Value → Shared → Prop} {news : List (Addr × Obj)}
  (B : Below A₀ base outer h₀) (F : Fr h₀ L s.heap m) (X : (Mine.hd.heap_1 w.params).In h₀) (T : Top p loose mean mg mb h₀) (hk : cs.kind = .function) (ZB : base.get? 0 = some (zO w)) (XB : (Mine.hd.heap_1 w.params).In base) (TB : Top p loose mean mg mb base) (D : KtsDicts (outer.filterMap (·.frame)) h₀)
include B F X T hk ZB XB TB D
local macro_rules | `(tactic| walk_at "subscriptTail") => `(tactic| (dsimp only; walk_at "subscriptTail"))
theorem lob3 {b d y : Addr} {tb : Nat → Tok} {k hd₀ rest : Int} {data : Array UInt8} {wt rt : Tok} {ps : Array Value}
  (N : News h₀ L s.heap ((436, tabObj ps) :: news)) (m1 : (b, instObj 189 d) ∈ news) (m2 : (d, bufD w tb k y hd₀) ∈ news) (m3 : (y, baO data) ∈ news) (ht : TabInv "_law_of_buffer.<locals>.<lambda>" ps news) (ha : ∀ x ∈ news, x.1 ≠ 436) (c1 : 0 ≤ rest) (c2 : data.size = 4)
  (hdp : dp + 30 < 500) (hun : un + 300 < 5000)
  (hret : ∀ h' tk' t1 ps' ex h₀', KtsTurn (outer.filterMap (·.frame)) h₀ h₀' → Fr h₀' L h' m → News h₀' L h' ((436, tabObj ps') :: (ex ++ news)) → Grown "_law_of_buffer.<locals>.<lambda>" 436 ps ps' ex news → Below A₀ base outer h₀' → Q (.str (Str.ofString "argument") t1) { s with heap := h', toks := tk' }) :
   wpAny (model prog w) (ktrTop dp un gd cn cs L a ccd cl outer) (call (.ref 441) [.ref b, .int 3 wt, .int rest rt]) Q E s := by
  refine wpAny_call ?_
  k_dflt (walk_at "tc_enter")
  k_steps
  k_dflt (refine' lam_one (own := [_, _]) (P := 436) (c := 440) (q := "_law_of_buffer.<locals>.<lambda>") ?F ?N ?T ?C ?cd ?a1 ?a2 ?t ?q ?cl ?d ?_; ((case F => k_asm); (case N => k_asm); (case T => k_asm); (case cd => exact rfl); (case cl => exact rfl); (case d => exact rfl); (case t => assumption); (case a2 => assumption); (case q => kernel_rfl); (case C => exact codeHd_of_K (by assumption) (by kernel_rfl)); (case a1 => first | exact own3 (by assumption) | exact own2 (by assumption) | exact own1 (by assumption))))
  intro f c' oc vs t ctv h₁ tk₁ ps' ex ls F₁ N₁ mf mc hd hv ho hrr hx G
  have o0 : ∃ o, (_, o) ∈ ls ∧ o.data = .cell (some (.int rest rt)) := ⟨_, ho _ (.head _), by first | rfl | assumption⟩
  have o1 : ∃ o, (_, o) ∈ ls ∧ o.data = .cell (some (.ref b)) := ⟨_, ho _ (.tail _ (.head _)), by first | rfl | assumption⟩
  have n1 := hrr _ m1
  have n2 := hrr _ m2
  have n3 := hrr _ m3
  have hD : Deed prog w p loose mean mg mb base f 52 ls := by
    obtain ⟨b0, o0, e0⟩ := o0
    obtain ⟨b1, o1, e1⟩ := o1
    skip
    intro dp un gd cn cs a ccd cl outer A₀ h₀ L m s Q E B F X T hk N hdp hun hE
    refine wpAny_call ?_
    k_dflt ((refine' kla_code (by k_asm) (by k_asm) (by k_asm) (by k_asm) (by k_asm) (by exact rfl) (by exact rfl) (by assumption) (by assumption) (by exact codeRec_news (by k_asm) (by assumption) (by assumption) (by assumption)) (by ktr_room) (by exact rfl) (by exact locs rfl) ?_ (by exact rfl) (by exact rfl) (by exact rfl) (by decide); k_whole; intro g'z L'z h'z FG'z F'z N'z B'z X'z T'z; (try dsimp only); (try k_fold)))
    have q2 := fm rest 2 (by decide)
    have q3 := fm rest 3 (by decide)
    have q4 := fm rest 4 (by decide)
    have q32 := fm rest 32 (by decide)
    have g4 : (rest.fmod 4).toNat < 4 := by omega
    have g0 : ([2, 3, -1, 256] : List Int).getD (rest.fmod 4).toNat 0 ≠ 0 := (by decide : ∀ n < 4, ([2, 3, -1, 256] : List Int).getD n 0 ≠ 0) _ g4
    have g1 : ([2, 3, -1, 256] : List Int).getD (rest.fmod 4).toNat 0 ≠ 1 := (by decide : ∀ n < 4, ([2, 3, -1, 256] : List Int).getD n 0 ≠ 1) _ g4
    k_steps
    any_goals ((with_reducible show wpAny _ _ (call (Value.ref 186) _ _) _ _ _); k_dflt (refine' put_bit_bad (by k_asm) (by k_asm) (by k_asm) (by k_asm) (by walk_at "r") (by assumption) (by k_asm) (by k_mem) (by k_mem) (by k_mem) (by walk_at "o") (by walk_at "o") (by walk_at "o") (by walk_at "o") (by walk_at "o") (by walk_at "h") (by walk_at "h") ?_; k_whole); walk_at "bad")
    k_steps
    all_goals exact hE _ _ _ _ (by k_asm) (by assumption) (by first | assumption | exact RaisedSN.sub (by assumption) (fun p hp => .tail _ hp))
  clear o0 o1
  k_steps
  k_dflt ((k_dflt (first | refine' met64 ?kB ?kF ?kX ?kT ?kk ?kZ ?kXB ?kTB ?kD ?kN (by assumption) (by assumption) ?hdp ?hun ?_ | refine' met52 ?kB ?kF ?kX ?kT ?kk ?kZ ?kXB ?kTB ?kD ?kN (by assumption) (by assumption) ?hdp ?hun ?_ | refine' met76 ?kB ?kF ?kX ?kT ?kk ?kZ ?kXB ?kTB ?kD ?kN (by assumption) (by assumption) ?hdp ?hun ?_); (case kB => k_asm); (case kF => k_asm); (case kX => assumption); (case kT => assumption); (case kk => walk_at "r"); (case kZ => assumption); (case kXB => assumption); (case kTB => assumption); (case kD => assumption); (case kN => k_asm); (case hdp => (dsimp only [ktrTop, Around.deeper, Around.in1]; omega)); (case hun => (dsimp only [ktrTop, Around.deeper, Around.in1]; omega))))
  intro h₂ tk₂ tq h₀' T₂ F₂ N₂ B₂
  k_steps
  (try dsimp only)
  exact leaveT_ T₂ (by k_asm) (by k_asm) fun h₀' t f n b => hret _ _ _ _ _ h₀' t f (News.sub n hx) G b
end
section
variable {prog : Program} {w : World} {p : Program} {loose : List Str} {mean : ExcName → Option Value} {mg mb : Str → Option Value} {dp un : Nat} {gd : Option (List Code)} {cn : Str} {cs : Scope} {a : Addr} {ccd : Value} {cl : List (Str × Addr)} {outer : List Env} {A₀ : Around} {base h₀ : Heap} {L : Addr} {m : Str → Option Value} {s : Shared} {Q E : Value → Shared → Prop} {news : List (Addr × Obj)}
  (B : Below A₀ base outer h₀) (F : Fr h₀ L s.heap m) (X : (Mine.hd.heap_1 w.params).In h₀) (T : Top p loose mean mg mb h₀) (hk : cs.kind = .function) (ZB : base.get? 0 = some (zO w)) (XB : (Mine.hd.heap_1 w.params).In base) (TB : Top p loose mean mg mb base) (D : KtsDicts (outer.filterMap (·.frame)) h₀)
include B F X T hk ZB XB TB D
theorem lobs {v : Int} (hv : v = 2 ∨ v = 3 ∨ v = 4) {b d y : Addr} {tb : Nat → Tok} {k hd₀ rest : Int} {data : Array UInt8} {wt rt : Tok} {ps : Array Value}
  (N : News h₀ L s.heap ((436, tabObj ps) :: news)) (m1 : (b, instObj 189 d) ∈ news) (m2 : (d, bufD w tb k y hd₀) ∈ news) (m3 : (y, baO data) ∈ news) (ht : TabInv "_law_of_buffer.<locals>.<lambda>" ps news) (ha : ∀ x ∈ news, x.1 ≠ 436) (c1 : 0 ≤ rest) (c2 : data.size = 4)
  (hdp : dp + 30 < 500) (hun : un + 300 < 5000)
  (hret : ∀ h' tk' t1 ps' ex h₀', KtsTurn (outer.filterMap (·.frame)) h₀ h₀' → Fr h₀' L h' m → News h₀' L h' ((436, tabObj ps') :: (ex ++ news)) → Grown "_law_of_buffer.<locals>.<lambda>" 436 ps ps' ex news → Below A₀ base outer h₀' → Q (.str (Str.ofString "argument") t1) { s with heap := h', toks := tk' }) :
   wpAny (model prog w) (ktrTop dp un gd cn cs L a ccd cl outer) (call (.ref 441) [.ref b, .int v wt, .int rest rt]) Q E s := by
  rcases hv with rfl | rfl | rfl
  · exact lob2 B F X T hk ZB XB TB D N m1 m2 m3 ht ha c1 c2 hdp hun hret
  · exact lob3 B F X T hk ZB XB TB D N m1 m2 m3 ht ha c1 c2 hdp hun hret
  · exact lob4 B F X T hk ZB XB TB D N m1 m2 m3 ht ha c1 c2 hdp hun hret
end
local macro_rules | `(tactic| walk_at "CompEnd") => `(tactic| (k_dflt (refine' LCg.CompEnd.intro (by k_asm) (by k_asm) _ (fun _ h => h) (by assumption) (by lcg_src) ?_)))
def fcOf (hds : List Int) : Int := ((hds.filter (fun i => i != 0)).length : Int)
theorem q_int {Q : Value → Shared → Prop} {a b : Int} {t : Tok} {s : Shared} (e : a = b) (h : Q (.int b t) s) : Q (.int a t) s := e ▸ h
section
variable {prog : Program} {w : World} {p : Program} {loose : List Str} {mean : ExcName → Option Value} {mg mb : Str → Option Value} {dp un : Nat} {gd : Option (List Code)} {cn : Str} {cs : Scope} {a : Addr} {ccd : Value} {cl : List (Str × Addr)} {outer : List Env} {A₀ : Around} {base h₀ : Heap} {L : Addr} {m : Str → Option Value} {s : Shared} {Q E : Value → Shared → Prop} {news : List (Addr × Obj)}
  (B : Below A₀ base outer h₀) (F : Fr h₀ L s.heap m) (X : (Mine.hd.heap_1 w.params).In h₀) (T : Top p loose mean mg mb h₀) (hk : cs.kind = .function)
include B F X T hk
theorem known0 {cI cD kI rw bn  : Addr} {tc  : Nat → Tok} {hits reads writes  : Int} {rn : Nat}
  (N : News h₀ L s.heap (news)) (m1 : (cI, instObj 304 cD) ∈ news) (m2 : (cD, cacheD w tc kI rw bn hits reads writes) ∈ news) (m3 : (rw, listOf #[] rn) ∈ news)
  (hdp : dp + 2 < 500) (hun : un + 40 < 5000)
  (hret : ∀ h' tk' ka ks, Fr h₀ L h' m → News h₀ L h' ((ka, LCg.lst ks) :: news) → IntsAre ks [] → Q (.ref ka) { s with heap := h', toks := tk' }) :
   wpAny (model prog w) (ktrTop dp un gd cn cs L a ccd cl outer) (call (.ref 289) [.ref cI]) Q E s := by
  refine wpAny_call ?_
  k_dflt ktr_enter
  k_steps
  all_goals exact hret _ _ _ _ (by k_asm) (by k_asm) (.nil)
end
section
variable {prog : Program} {w : World} {p : Program} {loose : List Str} {mean : ExcName → Option Value} {mg mb : Str → Option Value} {dp un : Nat} {gd : Option (List Code)} {cn : Str} {cs : Scope} {a : Addr} {ccd : Value} {cl : List (Str × Addr)} {outer : List Env} {A₀ : Around} {base h₀ : Heap} {L : Addr} {m : Str → Option Value} {s : Shared} {Q E : Value → Shared → Prop} {news : List (Addr × Obj)}
  (B : Below A₀ base outer h₀) (F : Fr h₀ L s.heap m) (X : (Mine.hd.heap_1 w.params).In h₀) (T : Top p loose mean mg mb h₀) (hk : cs.kind = .function)
include B F X T hk
theorem free0 {cI cD kI rw bn  : Addr} {tc  : Nat → Tok} {hits reads writes  : Int} {rn : Nat}
  (N : News h₀ L s.heap (news)) (m1 : (cI, instObj 304 cD) ∈ news) (m2 : (cD, cacheD w tc kI rw bn hits reads writes) ∈ news) (m3 : (rw, listOf #[] rn) ∈ news)
  (hdp : dp + 2 < 500) (hun : un + 40 < 5000)
  (hret : ∀ h' tk' t, Fr h₀ L h' m → News h₀ L h' (news) → Q (.int (3 - fcOf []) t) { s with heap := h', toks := tk' }) :
   wpAny (model prog w) (ktrTop dp un gd cn cs L a ccd cl outer) (call (.ref 294) [.ref cI]) Q E s := by
  refine wpAny_call ?_
  k_dflt ktr_enter
  k_steps
  all_goals (refine q_int ?_ (hret _ _ _ (by k_asm) (newsTail (by k_asm))); simp [fcOf, *])
end
section
variable {prog : Program} {w : World} {p : Program} {loose : List Str} {mean : ExcName → Option Value} {mg mb : Str → Option Value} {dp un : Nat} {gd : Option (List Code)} {cn : Str} {cs : Scope} {a : Addr} {ccd : Value} {cl : List (Str × Addr)} {outer : List Env} {A₀ : Around} {base h₀ : Heap} {L : Addr} {m : Str → Option Value} {s : Shared} {Q E : Value → Shared → Prop} {news : List (Addr × Obj)}
  (B : Below A₀ base outer h₀) (F : Fr h₀ L s.heap m) (X : (Mine.hd.heap_1 w.params).In h₀) (T : Top p loose mean mg mb h₀) (hk : cs.kind = .function)
include B F X T hk
theorem known1 {cI cD kI rw bn b1 d1 y1 : Addr} {tc tb1 : Nat → Tok} {hits reads writes k1 hd1 : Int} {rn : Nat}
  (N : News h₀ L s.heap (news)) (m1 : (cI, instObj 304 cD) ∈ news) (m2 : (cD, cacheD w tc kI rw bn hits reads writes) ∈ news) (m3 : (rw, listOf #[.ref b1] rn) ∈ news) (m4 : (b1, instObj 189 d1) ∈ news) (m5 : (d1, bufD w tb1 k1 y1 hd1) ∈ news)
  (hdp : dp + 2 < 500) (hun : un + 40 < 5000)
  (hret : ∀ h' tk' ka ks, Fr h₀ L h' m → News h₀ L h' ((ka, LCg.lst ks) :: news) → IntsAre ks [k1] → Q (.ref ka) { s with heap := h', toks := tk' }) :
   wpAny (model prog w) (ktrTop dp un gd cn cs L a ccd cl outer) (call (.ref 289) [.ref cI]) Q E s := by
  refine wpAny_call ?_
  k_dflt ktr_enter
  k_steps
  all_goals exact hret _ _ _ _ (by k_asm) (by k_asm) (.cons _ _ .nil)
end
section
variable {prog : Program} {w : World} {p : Program} {loose : List Str} {mean : ExcName → Option Value} {mg mb : Str → Option Value} {dp un : Nat} {gd : Option (List Code)} {cn : Str} {cs : Scope} {a : Addr} {ccd : Value} {cl : List (Str × Addr)} {outer : List Env} {A₀ : Around} {base h₀ : Heap} {L : Addr} {m : Str → Option Value} {s : Shared} {Q E : Value → Shared → Prop} {news : List (Addr × Obj)}
  (B : Below A₀ base outer h₀) (F : Fr h₀ L s.heap m) (X : (Mine.hd.heap_1 w.params).In h₀) (T : Top p loose mean mg mb h₀) (hk : cs.kind = .function)
include B F X T hk
theorem free1 {cI cD kI rw bn b1 d1 y1 : Addr} {tc tb1 : Nat → Tok} {hits reads writes k1 hd1 : Int} {rn : Nat}
  (N : News h₀ L s.heap (news)) (m1 : (cI, instObj 304 cD) ∈ news) (m2 : (cD, cacheD w tc kI rw bn hits reads writes) ∈ news) (m3 : (rw, listOf #[.ref b1] rn) ∈ news) (m4 : (b1, instObj 189 d1) ∈ news) (m5 : (d1, bufD w tb1 k1 y1 hd1) ∈ news)
  (hdp : dp + 2 < 500) (hun : un + 40 < 5000)
  (hret : ∀ h' tk' t, Fr h₀ L h' m → News h₀ L h' (news) → Q (.int (3 - fcOf [hd1]) t) { s with heap := h', toks := tk' }) :
   wpAny (model prog w) (ktrTop dp un gd cn cs L a ccd cl outer) (call (.ref 294) [.ref cI]) Q E s := by
  refine wpAny_call ?_
  k_dflt ktr_enter
  k_steps
  all_goals (refine q_int ?_ (hret _ _ _ (by k_asm) (newsTail (by k_asm))); simp [fcOf, *])
end
section
variable {prog : Program} {w : World} {p : Program} {loose : List Str} {mean : ExcName → Option Value} {mg mb : Str → Option Value} {dp un : Nat} {gd : Option (List Code)} {cn : Str} {cs : Scope} {a : Addr} {ccd : Value} {cl : List (Str × Addr)} {outer : List Env} {A₀ : Around} {base h₀ : Heap} {L : Addr} {m : Str → Option Value} {s : Shared} {Q E : Value → Shared → Prop} {news : List (Addr × Obj)}
  (B : Below A₀ base outer h₀) (F : Fr h₀ L s.heap m) (X : (Mine.hd.heap_1 w.params).In h₀) (T : Top p loose mean mg mb h₀) (hk : cs.kind = .function)
include B F X T hk
theorem known2 {cI cD kI rw bn b1 d1 y1 b2 d2 y2 : Addr} {tc tb1 tb2 : Nat → Tok} {hits reads writes k1 hd1 k2 hd2 : Int} {rn : Nat}
  (N : News h₀ L s.heap (news)) (m1 : (cI, instObj 304 cD) ∈ news) (m2 : (cD, cacheD w tc kI rw bn hits reads writes) ∈ news) (m3 : (rw, listOf #[.ref b1, .ref b2] rn) ∈ news) (m4 : (b1, instObj 189 d1) ∈ news) (m5 : (d1, bufD w tb1 k1 y1 hd1) ∈ news) (m6 : (b2, instObj 189 d2) ∈ news) (m7 : (d2, bufD w tb2 k2 y2 hd2) ∈ news)
  (hdp : dp + 2 < 500) (hun : un + 40 < 5000)
  (hret : ∀ h' tk' ka ks, Fr h₀ L h' m → News h₀ L h' ((ka, LCg.lst ks) :: news) → IntsAre ks [k1, k2] → Q (.ref ka) { s with heap := h', toks := tk' }) :
   wpAny (model prog w) (ktrTop dp un gd cn cs L a ccd cl outer) (call (.ref 289) [.ref cI]) Q E s := by
  refine wpAny_call ?_
  k_dflt ktr_enter
  k_steps
  all_goals exact hret _ _ _ _ (by k_asm) (by k_asm) (.cons _ _ (.cons _ _ .nil))
end
section
variable {prog : Program} {w : World} {p : Program} {loose : List Str} {mean : ExcName → Option Value} {mg mb : Str → Option Value} {dp un : Nat} {gd : Option (List Code)} {cn : Str} {cs : Scope} {a : Addr} {ccd : Value} {cl : List (Str × Addr)} {outer : List Env} {A₀ : Around} {base h₀ : Heap} {L : Addr} {m : Str → Option Value} {s : Shared} {Q E : Value → Shared → Prop} {news : List (Addr × Obj)}
  (B : Below A₀ base outer h₀) (F : Fr h₀ L s.heap m) (X : (Mine.hd.heap_1 w.params).In h₀) (T : Top p loose mean mg mb h₀) (hk : cs.kind = .function)
include B F X T hk
theorem free2 {cI cD kI rw bn b1 d1 y1 b2 d2 y2 : Addr} {tc tb1 tb2 : Nat → Tok} {hits reads writes k1 hd1 k2 hd2 : Int} {rn : Nat}
  (N : News h₀ L s.heap (news)) (m1 : (cI, instObj 304 cD) ∈ news) (m2 : (cD, cacheD w tc kI rw bn hits reads writes) ∈ news) (m3 : (rw, listOf #[.ref b1, .ref b2] rn) ∈ news) (m4 : (b1, instObj 189 d1) ∈ news) (m5 : (d1, bufD w tb1 k1 y1 hd1) ∈ news) (m6 : (b2, instObj 189 d2) ∈ news) (m7 : (d2, bufD w tb2 k2 y2 hd2) ∈ news)
  (hdp : dp + 2 < 500) (hun : un + 40 < 5000)
  (hret : ∀ h' tk' t, Fr h₀ L h' m → News h₀ L h' (news) → Q (.int (3 - fcOf [hd1, hd2]) t) { s with heap := h', toks := tk' }) :
   wpAny (model prog w) (ktrTop dp un gd cn cs L a ccd cl outer) (call (.ref 294) [.ref cI]) Q E s := by
  refine wpAny_call ?_
  k_dflt ktr_enter
  k_steps
  all_goals (refine q_int ?_ (hret _ _ _ (by k_asm) (newsTail (by k_asm))); simp [fcOf, *])
end
section
variable {prog : Program} {w : World} {p : Program} {loose : List Str} {mean : ExcName → Option Value} {mg mb : Str → Option Value} {dp un : Nat} {gd : Option (List Code)} {cn : Str} {cs : Scope} {a : Addr} {ccd : Value} {cl : List (Str × Addr)} {outer : List Env} {A₀ : Around} {base h₀ : Heap} {L : Addr} {m : Str → Option Value} {s : Shared} {Q E : Value → Shared → Prop} {news : List (Addr × Obj)}
  (B : Below A₀ base outer h₀) (F : Fr h₀ L s.heap m) (X : (Mine.hd.heap_1 w.params).In h₀) (T : Top p loose mean mg mb h₀) (hk : cs.kind = .function)
include B F X T hk
theorem known3 {cI cD kI rw bn b1 d1 y1 b2 d2 y2 b3 d3 y3 : Addr} {tc tb1 tb2 tb3 : Nat → Tok} {hits reads writes k1 hd1 k2 hd2 k3 hd3 : Int} {rn : Nat}
  (N : News h₀ L s.heap (news)) (m1 : (cI, instObj 304 cD) ∈ news) (m2 : (cD, cacheD w tc kI rw bn hits reads writes) ∈ news) (m3 : (rw, listOf #[.ref b1, .ref b2, .ref b3] rn) ∈ news) (m4 : (b1, instObj 189 d1) ∈ news) (m5 : (d1, bufD w tb1 k1 y1 hd1) ∈ news) (m6 : (b2, instObj 189 d2) ∈ news) (m7 : (d2, bufD w tb2 k2 y2 hd2) ∈ news) (m8 : (b3, instObj 189 d3) ∈ news) (m9 : (d3, bufD w tb3 k3 y3 hd3) ∈ news)
  (hdp : dp + 2 < 500) (hun : un + 40 < 5000)
  (hret : ∀ h' tk' ka ks, Fr h₀ L h' m → News h₀ L h' ((ka, LCg.lst ks) :: news) → IntsAre ks [k1, k2, k3] → Q (.ref ka) { s with heap := h', toks := tk' }) :
   wpAny (model prog w) (ktrTop dp un gd cn cs L a ccd cl outer) (call (.ref 289) [.ref cI]) Q E s := by
  refine wpAny_call ?_
  k_dflt ktr_enter
  k_steps
  all_goals exact hret _ _ _ _ (by k_asm) (by k_asm) (.cons _ _ (.cons _ _ (.cons _ _ .nil)))
end
section
variable {prog : Program} {w : World} {p : Program} {loose : List Str} {mean : ExcName → Option Value} {mg mb : Str → Option Value} {dp un : Nat} {gd : Option (List Code)} {cn : Str} {cs : Scope} {a : Addr} {ccd : Value} {cl : List (Str × Addr)} {outer : List Env} {A₀ : Around} {base h₀ : Heap} {L : Addr} {m : Str → Option Value} {s : Shared} {Q E : Value → Shared → Prop} {news : List (Addr × Obj)}
  (B : Below A₀ base outer h₀) (F : Fr h₀ L s.heap m) (X : (Mine.hd.heap_1 w.params).In h₀) (T : Top p loose mean mg mb h₀) (hk : cs.kind = .function)
include B F X T hk
theorem free3 {cI cD kI rw bn b1 d1 y1 b2 d2 y2 b3 d3 y3 : Addr} {tc tb1 tb2 tb3 : Nat → Tok} {hits reads writes k1 hd1 k2 hd2 k3 hd3 : Int} {rn : Nat}
  (N : News h₀ L s.heap (news)) (m1 : (cI, instObj 304 cD) ∈ news) (m2 : (cD, cacheD w tc kI rw bn hits reads writes) ∈ news) (m3 : (rw, listOf #[.ref b1, .ref b2, .ref b3] rn) ∈ news) (m4 : (b1, instObj 189 d1) ∈ news) (m5 : (d1, bufD w tb1 k1 y1 hd1) ∈ news) (m6 : (b2, instObj 189 d2) ∈ news) (m7 : (d2, bufD w tb2 k2 y2 hd2) ∈ news) (m8 : (b3, instObj 189 d3) ∈ news) (m9 : (d3, bufD w tb3 k3 y3 hd3) ∈ news)
  (hdp : dp + 2 < 500) (hun : un + 40 < 5000)
  (hret : ∀ h' tk' t, Fr h₀ L h' m → News h₀ L h' (news) → Q (.int (3 - fcOf [hd1, hd2, hd3]) t) { s with heap := h', toks := tk' }) :
   wpAny (model prog w) (ktrTop dp un gd cn cs L a ccd cl outer) (call (.ref 294) [.ref cI]) Q E s := by
  refine wpAny_call ?_
  k_dflt ktr_enter
  k_steps
  all_goals (refine q_int ?_ (hret _ _ _ (by k_asm) (newsTail (by k_asm))); simp [fcOf, *])
end
section
variable {prog : Program} {w : World} {p : Program} {loose : List Str} {mean : ExcName → Option Value} {mg mb : Str → Option Value} {dp un : Nat} {gd : Option (List Code)} {cn : Str} {cs : Scope} {a : Addr} {ccd : Value} {cl : List (Str × Addr)} {outer : List Env} {A₀ : Around} {base h₀ : Heap} {L : Addr} {m : Str → Option Value} {s : Shared} {Q E : Value → Shared → Prop} {l nw : List (Addr × Obj)} {I : Ids} {σ : CSt}
  (B : Below A₀ base outer h₀) (F : Fr h₀ L s.heap m) (X : (Mine.hd.heap_1 w.params).In h₀) (T : Top p loose mean mg mb h₀) (hk : cs.kind = .function)
include B F X T hk
theorem knownR (N : News h₀ L s.heap nw) (r : Rep prog w I l σ) (hs : ∀ q ∈ l, q ∈ nw) (hdp : dp + 2 < 500) (hun : un + 40 < 5000)
  (hret : ∀ h' tk' ka ks, Fr h₀ L h' m → News h₀ L h' ((ka, LCg.lst ks) :: nw) → IntsAre ks (σ.row.map (·.k)) → Q (.ref ka) { s with heap := h', toks := tk' }) :
   wpAny (model prog w) (ktrTop dp un gd cn cs L a ccd cl outer) (call (.ref 289) [.ref I.cI]) Q E s := by
  obtain ⟨tc, mcD⟩ := r.mcD
  obtain ⟨n, mrw⟩ := r.mrw
  have hl := r.rok.len
  have hb := r.bufs
  rcases hr : σ.row with _ | ⟨B1, _ | ⟨B2, _ | ⟨B3, _ | ⟨B4, tl⟩⟩⟩⟩
  all_goals rw [hr] at hret mrw hl hb
  · exact known0 B F X T hk N (hs _ r.mcI) (hs _ mcD) (hs _ mrw) hdp hun hret
  · obtain ⟨x1, ⟨t1, y1⟩, _⟩ := hb B1 (.head _)
    exact known1 B F X T hk N (hs _ r.mcI) (hs _ mcD) (hs _ mrw) (hs _ x1) (hs _ y1) hdp hun hret
  · obtain ⟨x1, ⟨t1, y1⟩, _⟩ := hb B1 (.head _)
    obtain ⟨x2, ⟨t2, y2⟩, _⟩ := hb B2 (.tail _ (.head _))
    exact known2 B F X T hk N (hs _ r.mcI) (hs _ mcD) (hs _ mrw) (hs _ x1) (hs _ y1) (hs _ x2) (hs _ y2) hdp hun hret
  · obtain ⟨x1, ⟨t1, y1⟩, _⟩ := hb B1 (.head _)
    obtain ⟨x2, ⟨t2, y2⟩, _⟩ := hb B2 (.tail _ (.head _))
    obtain ⟨x3, ⟨t3, y3⟩, _⟩ := hb B3 (.tail _ (.tail _ (.head _)))
    exact known3 B F X T hk N (hs _ r.mcI) (hs _ mcD) (hs _ mrw) (hs _ x1) (hs _ y1) (hs _ x2) (hs _ y2) (hs _ x3) (hs _ y3) hdp hun hret
  · simp at hl
theorem freeR (N : News h₀ L s.heap nw) (r : Rep prog w I l σ) (hs : ∀ q ∈ l, q ∈ nw) (hdp : dp + 2 < 500) (hun : un + 40 < 5000)
  (hret : ∀ h' tk' t, Fr h₀ L h' m → News h₀ L h' nw → Q (.int (3 - fcOf (σ.row.map (·.hd))) t) { s with heap := h', toks := tk' }) :
   wpAny (model prog w) (ktrTop dp un gd cn cs L a ccd cl outer) (call (.ref 294) [.ref I.cI]) Q E s := by
  obtain ⟨tc, mcD⟩ := r.mcD
  obtain ⟨n, mrw⟩ := r.mrw
  have hl := r.rok.len
  have hb := r.bufs
  rcases hr : σ.row with _ | ⟨B1, _ | ⟨B2, _ | ⟨B3, _ | ⟨B4, tl⟩⟩⟩⟩
  all_goals rw [hr] at hret mrw hl hb
  · exact free0 B F X T hk N (hs _ r.mcI) (hs _ mcD) (hs _ mrw) hdp hun hret
  · obtain ⟨x1, ⟨t1, y1⟩, _⟩ := hb B1 (.head _)
    exact free1 B F X T hk N (hs _ r.mcI) (hs _ mcD) (hs _ mrw) (hs _ x1) (hs _ y1) hdp hun hret
  · obtain ⟨x1, ⟨t1, y1⟩, _⟩ := hb B1 (.head _)
    obtain ⟨x2, ⟨t2, y2⟩, _⟩ := hb B2 (.tail _ (.head _))
    exact free2 B F X T hk N (hs _ r.mcI) (hs _ mcD) (hs _ mrw) (hs _ x1) (hs _ y1) (hs _ x2) (hs _ y2) hdp hun hret
  · obtain ⟨x1, ⟨t1, y1⟩, _⟩ := hb B1 (.head _)
    obtain ⟨x2, ⟨t2, y2⟩, _⟩ := hb B2 (.tail _ (.head _))
    obtain ⟨x3, ⟨t3, y3⟩, _⟩ := hb B3 (.tail _ (.tail _ (.head _)))
    exact free3 B F X T hk N (hs _ r.mcI) (hs _ mcD) (hs _ mrw) (hs _ x1) (hs _ y1) (hs _ x2) (hs _ y2) (hs _ x3) (hs _ y3) hdp hun hret
  · simp at hl
end
theorem subTail {l nw : List (Addr × Obj)} {x : Addr × Obj} (h : ∀ q ∈ l, q ∈ nw) : ∀ q ∈ l, q ∈ x :: nw := fun q hq => .tail _ (h q hq)
local macro_rules | `(tactic| walk_at "mem_sub") => `(tactic| first | assumption | exact fun q hq => hq | exact subTail (by walk_at "mem_sub"))
local macro_rules | `(tactic| walk_at "call ref") => `(tactic| ((with_reducible show wpAny _ _ (call (Value.ref 294) _ _) _ _ _); k_dflt (refine' freeR (by k_asm) (by k_asm) (by k_asm) (by k_asm) (by walk_at "r") (by k_asm) (by assumption) (by walk_at "mem_sub") (by walk_at "h") (by walk_at "h") ?_; k_whole); intro h' tk' t' F' N'; (try k_sweep)))
local macro_rules | `(tactic| walk_at "call type:list") => `(tactic| (k_dflt (refine' list_copyK (by k_asm) (by k_asm) (by exact News.isList (by k_asm) (by k_mem)) ?_ (by (have : (10000 : Nat) ≤ sizeLine := by decide); omega)); intro D' c' h' F' N' l1; (try k_sweep)))
/-- a state as `_law_state` hands it on: its list, its list of what is unflushed, its list of numbers -/
def StL (σ : CSt) (sr : Addr) (es : List (Addr × Obj)) : Prop :=
  ∃ (ka D : Addr) (ks : List Value) (c : Nat) (t1 t2 t3 t4 t5 t6 : Tok), es = [(sr, listOf #[.ref ka, .int (3 - fcOf (σ.row.map (·.hd))) t1, .int σ.hits t2, .int σ.reads t3, .int σ.writes t4, .int σ.dw t5, .int 0 t6, .ref D] 0), (D, listOf σ.us c), (ka, LCg.lst ks)] ∧ IntsAre ks (σ.row.map (·.k))
section
variable {prog : Program} {w : World} {p : Program} {loose : List Str} {mean : ExcName → Option Value} {mg mb : Str → Option Value} {dp un : Nat} {gd : Option (List Code)} {cn : Str} {cs : Scope} {a : Addr} {ccd : Value} {cl : List (Str × Addr)} {outer : List Env} {A₀ : Around} {base h₀ : Heap} {L : Addr} {m : Str → Option Value} {s : Shared} {Q E : Value → Shared → Prop} {l nw : List (Addr × Obj)} {I : Ids} {σ : CSt}
  (B : Below A₀ base outer h₀) (F : Fr h₀ L s.heap m) (X : (Mine.hd.heap_1 w.params).In h₀) (T : Top p loose mean mg mb h₀) (hk : cs.kind = .function)
include B F X T hk
theorem stateR (N : News h₀ L s.heap nw) (r : Rep prog w I l σ) (hs : ∀ q ∈ l, q ∈ nw) (hus : σ.us.size < 10000) (hdp : dp + 4 < 500) (hun : un + 80 < 5000)
  (hret : ∀ h' tk' sr es, Fr h₀ L h' m → News h₀ L h' (es ++ nw) → StL σ sr es → Q (.ref sr) { s with heap := h', toks := tk' }) :
   wpAny (model prog w) (ktrTop dp un gd cn cs L a ccd cl outer) (call (.ref 427) [.ref I.cI]) Q E s := by
  have mcI := hs _ r.mcI
  obtain ⟨tc, mcD⟩ := r.mcD
  obtain ⟨tk, mkD⟩ := r.mkD
  obtain ⟨n, muf⟩ := r.muf
  have mcD := hs _ mcD
  have mkI := hs _ r.mkI
  have mkD := hs _ mkD
  have muf := hs _ muf
  refine wpAny_call ?_
  k_dflt ktr_enter
  k_steps
  any_goals ((with_reducible show wpAny _ _ (call (Value.ref 289) _ _) _ _ _); k_dflt (refine' knownR (by k_asm) (by k_asm) (by k_asm) (by k_asm) (by walk_at "r") (by k_asm) (by assumption) (by walk_at "mem_sub") (by walk_at "h") (by walk_at "h") ?_; k_whole); intro h' tk' ka' ks' F' N' z'; (try k_sweep))
  k_steps
  exact hret _ _ _ [_, _, _] (by k_asm) (by k_asm) ⟨_, _, _, _, _, _, _, _, _, _, rfl, by assumption⟩
end
theorem ints_at {A : Around} {s : Shared} : ∀ {vs ws : List Value} {ns : List Int}, IntsAre vs ns → IntsAre ws ns → vs.length = ws.length ∧ ∀ j (h1 : j < vs.length) (h2 : j < ws.length), SeqAt.EqAt A s vs[j] ws[j] true
  | _, _, _, .nil, .nil => ⟨rfl, fun _ h1 _ => absurd h1 (Nat.not_lt_zero _)⟩
  | _, _, _, .cons n t r, .cons _ u r' => by
    obtain ⟨e, q⟩ := ints_at (A := A) (s := s) r r'
    refine ⟨by simp [e], fun j h1 h2 => ?_⟩
    cases j with
    | zero => have := (MeetsSeq.EqGives.int n n t u).at A s; rw [beq_self_eq_true] at this; exact this
    | succ j => exact q j (by simpa using h1) (by simpa using h2)
theorem lists_at {A : Around} {s : Shared} {a b : Addr} {xs ys : Array Value} (ha : s.heap.IsList a xs) (hb : s.heap.IsList b ys) (hz : xs.size = ys.size) (hu : A.units < cLine)
    (he : ∀ j (h1 : j < xs.size) (h2 : j < ys.size), SeqAt.EqAt A.in1 s xs[j] ys[j] true) : SeqAt.EqAt A s (.ref a) (.ref b) true := by
  by_cases e : a = b
  · subst e; exact SeqAt.EqAt.same _
  · have := SeqAt.RcAt.lists (A := A) (e := fun _ => true) ha hb hz hu he
    rw [show (List.range xs.size).all (fun _ => true) = true by simp] at this
    exact SeqAt.EqAt.of_refs e this
theorem int_at {A : Around} {s : Shared} {n : Int} {t u : Tok} : SeqAt.EqAt A s (.int n t) (.int n u) true := by
  have := (MeetsSeq.EqGives.int n n t u).at A s; rw [beq_self_eq_true] at this; exact this
/-- two states of one cache are equal -/
theorem state_eq {prog : Program} {w : World} {A : Around} {E : Value → Shared → Prop} {s : Shared} {h₀ : Heap} {L : Addr} {nw es es' : List (Addr × Obj)} {σ : CSt} {a b : Addr} {Q : Value → Shared → Prop} (N : News h₀ L s.heap nw) (h1 : ∀ q ∈ es, q ∈ nw) (h2 : ∀ q ∈ es', q ∈ nw)
    (x : StL σ a es) (y : StL σ b es') (hu : A.units + 10 < cLine) (h : Q (.bool true) s) : wpAny (model prog w) A (compareOp .Eq (.ref a) (.ref b)) Q E s := by
  obtain ⟨ka, D, ks, c, t1, t2, t3, t4, t5, t6, rfl, hk⟩ := x
  obtain ⟨ka', D', ks', c', t1', t2', t3', t4', t5', t6', rfl, hk'⟩ := y
  have m1 := N.isList (h1 _ (.head _)); have m2 := N.isList (h1 _ (.tail _ (.head _))); have m3 := N.isList (h1 _ (.tail _ (.tail _ (.head _))))
  have n1 := N.isList (h2 _ (.head _)); have n2 := N.isList (h2 _ (.tail _ (.head _))); have n3 := N.isList (h2 _ (.tail _ (.tail _ (.head _))))
  have u1 : A.in1.units < cLine := by show A.units + 1 < cLine; omega
  refine SeqAt.eq_listAt (e := fun _ => true) m1 n1 rfl (by omega) (fun j h1 h2 => ?_) h
  have hj : j < 8 := h1
  rcases j with _ | _ | _ | _ | _ | _ | _ | _ | j
  · obtain ⟨e, q⟩ := ints_at (A := A.in1.in1) (s := s) hk hk'
    exact lists_at m3 n3 (by simpa using e) u1 fun j h1 h2 => by simpa using q j (by simpa using h1) (by simpa using h2)
  · exact int_at
  · exact int_at
  · exact int_at
  · exact int_at
  · exact int_at
  · exact int_at
  · exact lists_at m2 n2 rfl u1 fun j h1 h2 => SeqAt.EqAt.same _
  · omega
def TQ : List (Addr × Str) := [(429, "_law_of_cache.<locals>.<lambda>"), (436, "_law_of_buffer.<locals>.<lambda>"), (443, "_law_refused_right.<locals>.<lambda>"), (450, "law.<locals>.<lambda>")]
def TT : List Addr := [429, 436, 443, 450]
/-- what is neither the cache's nor a table -/
def codesOf (I : Ids) (σ : CSt) (l : List (Addr × Obj)) : List (Addr × Obj) := rem l (mutOf I σ ++ TT)
theorem mem_codes {I : Ids} {σ : CSt} {l : List (Addr × Obj)} {p : Addr × Obj} : p ∈ codesOf I σ l ↔ p ∈ l ∧ p.1 ∉ mutOf I σ ∧ p.1 ∉ TT := by
  unfold codesOf; rw [mem_rem, List.mem_append, not_or]
def KeepT (I : Ids) (l : List (Addr × Obj)) (σ : CSt) (l' : List (Addr × Obj)) (σ' : CSt) : Prop := ∀ p ∈ codesOf I σ l, p ∈ codesOf I σ' l'
theorem KeepT.refl {I : Ids} {l : List (Addr × Obj)} {σ : CSt} : KeepT I l σ l σ := fun _ h => h
theorem KeepT.trans {I : Ids} {l l' l'' : List (Addr × Obj)} {σ σ' σ'' : CSt} (x : KeepT I l σ l' σ') (y : KeepT I l' σ' l'' σ'') : KeepT I l σ l'' σ'' := fun p h => y p (x p h)
theorem Keep.t {I : Ids} {l l' : List (Addr × Obj)} {σ σ' : CSt} (x : Keep I l σ l' σ') : KeepT I l σ l' σ' := fun p h => by
  obtain ⟨h1, h2, h3⟩ := mem_codes.mp h
  obtain ⟨k1, k2⟩ := x p h1 h2
  exact mem_codes.mpr ⟨k1, k2, h3⟩
structure Tabs (I : Ids) (σ : CSt) (l : List (Addr × Obj)) : Prop where
  off : ∀ P ∈ TT, P ∉ mutOf I σ
  tab : ∀ x ∈ TQ, ∃ ps, (x.1, tabObj ps) ∈ l ∧ TabInv x.2 ps (codesOf I σ l)
theorem TQ_TT : ∀ P, P ∈ TT → ∃ q, (P, q) ∈ TQ := by
  intro P h
  unfold TT at h
  simp only [List.mem_cons, List.not_mem_nil, or_false] at h
  rcases h with rfl | rfl | rfl | rfl
  · exact ⟨_, .head _⟩
  · exact ⟨_, .tail _ (.head _)⟩
  · exact ⟨_, .tail _ (.tail _ (.head _))⟩
  · exact ⟨_, .tail _ (.tail _ (.tail _ (.head _)))⟩
theorem TT_TQ : ∀ x ∈ TQ, x.1 ∈ TT := by
  intro x h
  unfold TQ at h
  simp only [List.mem_cons, List.not_mem_nil, or_false] at h
  rcases h with rfl | rfl | rfl | rfl <;> decide
theorem TQ_fun : ∀ x ∈ TQ, ∀ y ∈ TQ, x.1 = y.1 → x = y := by
  intro x h y h' e
  unfold TQ at h h'
  simp only [List.mem_cons, List.not_mem_nil, or_false] at h h'
  rcases h with rfl | rfl | rfl | rfl <;> rcases h' with rfl | rfl | rfl | rfl <;> first | rfl | exact absurd e (by decide)
section
variable {prog : Program} {w : World} {I : Ids} {l l' : List (Addr × Obj)} {σ σ' : CSt}
theorem Tabs.keep (T : Tabs I σ l) (K : Keep I l σ l' σ') : Tabs I σ' l' := by
  refine ⟨fun P hP => ?_, fun x hx => ?_⟩
  · obtain ⟨q, hq⟩ := TQ_TT P hP
    obtain ⟨ps, h, _⟩ := T.tab _ hq
    exact (K _ h (T.off P hP)).2
  · obtain ⟨ps, h, i⟩ := T.tab x hx
    exact ⟨ps, (K _ h (T.off _ (TT_TQ x hx))).1, i.mono fun p hp => K.t p hp⟩
theorem Rep.move (r : Rep prog w I l σ) (nd : (l'.map (·.1)).Nodup) (hs : ∀ p ∈ l, p.1 ∈ mutOf I σ → p ∈ l') : Rep prog w I l' σ := by
  have hI : ∀ a ∈ I.all, a ∈ mutOf I σ := fun a ha => List.mem_append_left _ ha
  have hB : ∀ B ∈ σ.row, ∀ a ∈ B.all, a ∈ mutOf I σ := fun B hB a ha => List.mem_append_right _ (List.mem_flatMap.mpr ⟨B, hB, ha⟩)
  refine ⟨nd, r.idn, r.rok, hs _ r.mcI (hI _ (by simp [Ids.all])), ?_, hs _ r.mkI (hI _ (by simp [Ids.all])), ?_, ?_, ?_, ?_, ?_, ?_, r.low1, r.low2, r.szl, r.usr⟩
  · obtain ⟨t, h⟩ := r.mcD; exact ⟨t, hs _ h (hI _ (by simp [Ids.all]))⟩
  · obtain ⟨t, h⟩ := r.mkD; exact ⟨t, hs _ h (hI _ (by simp [Ids.all]))⟩
  · obtain ⟨t, h⟩ := r.mrw; exact ⟨t, hs _ h (hI _ (by simp [Ids.all]))⟩
  · obtain ⟨ob, kvs, h, z⟩ := r.mbn; exact ⟨ob, kvs, hs _ h (hI _ (by simp [Ids.all])), z⟩
  · obtain ⟨ob, kvs, h, z⟩ := r.mlt; exact ⟨ob, kvs, hs _ h (hI _ (by simp [Ids.all])), z⟩
  · obtain ⟨t, h⟩ := r.muf; exact ⟨t, hs _ h (hI _ (by simp [Ids.all]))⟩
  · intro B hb
    obtain ⟨h1, ⟨t, h2⟩, h3, h4⟩ := r.bufs B hb
    exact ⟨hs _ h1 (hB B hb _ B.memb), ⟨t, hs _ h2 (hB B hb _ B.memd)⟩, hs _ h3 (hB B hb _ B.memy), h4⟩
theorem Rep.mutKey (r : Rep prog w I l σ) {a : Addr} (h : a ∈ mutOf I σ) : ∃ o, (a, o) ∈ l := by
  rcases List.mem_append.mp h with h | h
  · exact r.keysI a h
  · obtain ⟨B, hB, q⟩ := List.mem_flatMap.mp h
    exact r.keysB B hB a q
/-- a table has grown: the cache and the other tables stand -/
theorem tab_grow (r : Rep prog w I l σ) (T : Tabs I σ l) {P : Addr} {q : Str} {ps ps' : Array Value} {ex es : List (Addr × Obj)} (hx : (P, q) ∈ TQ) (hp : (P, tabObj ps) ∈ l) (G : Grown q P ps ps' ex (es ++ rem l [P])) :
    Rep prog w I ((P, tabObj ps') :: (ex ++ rem l [P])) σ ∧ Tabs I σ ((P, tabObj ps') :: (ex ++ rem l [P])) ∧ KeepT I l σ ((P, tabObj ps') :: (ex ++ rem l [P])) σ := by
  have hPT := TT_TQ _ hx
  have hexl : ∀ x ∈ ex, ∀ y ∈ l, x.1 ≠ y.1 := fun x h y hy e => by
    by_cases z : y.1 = P
    · exact (G.ap x h).1 (e.trans z)
    · exact (G.ap x h).2 y (List.mem_append_right _ (mem_rem.mpr ⟨hy, by simpa using z⟩)) e
  have hexm : ∀ x ∈ ex, x.1 ∉ mutOf I σ := fun x h z => by
    obtain ⟨o, ho⟩ := r.mutKey z
    exact hexl x h _ ho rfl
  have hext : ∀ x ∈ ex, x.1 ∉ TT := fun x h z => by
    obtain ⟨q, hq⟩ := TQ_TT _ z
    obtain ⟨_, ho, _⟩ := T.tab _ hq
    exact hexl x h _ ho rfl
  have hin : ∀ p ∈ l, p.1 ≠ P → p ∈ (P, tabObj ps') :: (ex ++ rem l [P]) := fun p h z => .tail _ (List.mem_append_right _ (mem_rem.mpr ⟨h, by simpa using z⟩))
  have nd : (((P, tabObj ps') :: (ex ++ rem l [P])).map (·.1)).Nodup := by
    rw [List.map_cons, List.nodup_cons, List.map_append, List.nodup_append]
    refine ⟨fun h => ?_, G.nd, rem_nodup r.nd, fun a ha b hb e => ?_⟩
    · rcases List.mem_append.mp h with h | h
      · obtain ⟨x, hx, e⟩ := List.mem_map.mp h
        exact (G.ap x hx).1 e
      · exact rem_keys _ h (.head _)
    · obtain ⟨x, hx, rfl⟩ := List.mem_map.mp ha
      obtain ⟨y, hy, rfl⟩ := List.mem_map.mp hb
      exact hexl x hx y (mem_rem.mp hy).1 e
  have KT : KeepT I l σ ((P, tabObj ps') :: (ex ++ rem l [P])) σ := fun p h => by
    obtain ⟨h1, h2, h3⟩ := mem_codes.mp h
    exact mem_codes.mpr ⟨hin p h1 (fun e => h3 (e ▸ hPT)), h2, h3⟩
  refine ⟨r.move nd fun p h z => hin p h (fun e => T.off P hPT (e ▸ z)), ⟨T.off, fun x hx' => ?_⟩, KT⟩
  obtain ⟨qs, h, i⟩ := T.tab x hx'
  by_cases e : x.1 = P
  · have := TQ_fun x hx' _ hx e
    subst this
    have hq : qs = ps := by
      have := key_uniq r.nd h hp
      simpa using this
    subst hq
    refine ⟨ps', .head _, (G.ok _ i).mono fun p hp => ?_⟩
    rcases List.mem_append.mp hp with hp | hp
    · exact mem_codes.mpr ⟨.tail _ (List.mem_append_left _ hp), hexm p hp, hext p hp⟩
    · exact KT p hp
  · exact ⟨qs, hin _ h e, i.mono KT⟩
end
theorem news_ne {h₀ h : Heap} {L : Addr} {nw : List (Addr × Obj)} (N : News h₀ L h nw) {p q : Addr × Obj} (hp : p ∈ nw) (hq : q ∈ nw) (hne : p.2 ≠ q.2) : p.1 ≠ q.1 := fun e => by
  have h1 := (N p hp).1
  have h2 := (N q hq).1
  rw [e, h2] at h1
  exact hne (Option.some.inj h1).symm
theorem StL.off {h₀ h : Heap} {L : Addr} {nw es : List (Addr × Obj)} {σ : CSt} {sr P : Addr} {ps : Array Value} (x : StL σ sr es) (N : News h₀ L h nw) (hs : ∀ q ∈ es, q ∈ nw) (hP : (P, tabObj ps) ∈ nw) : ∀ q ∈ es, q.1 ≠ P := by
  obtain ⟨ka, D, ks, c, t1, t2, t3, t4, t5, t6, rfl, hk⟩ := x
  intro q hq
  have hne : q.2 ≠ tabObj ps := by
    simp only [List.mem_cons, List.not_mem_nil, or_false] at hq
    rcases hq with rfl | rfl | rfl <;> exact fun e => nomatch congrArg Obj.cls e
  exact news_ne N (hs q hq) hP hne
theorem Grown.mono {q : Str} {P : Addr} {ps ps' : Array Value} {ex rest rest' : List (Addr × Obj)} (G : Grown q P ps ps' ex rest) (h : ∀ y ∈ rest', y ∈ rest) : Grown q P ps ps' ex rest' := ⟨G.ok, G.nd, fun x hx => ⟨(G.ap x hx).1, fun y hy => (G.ap x hx).2 y (h y hy)⟩⟩
theorem rem_sub {l ls : List (Addr × Obj)} {ks : List Addr} (h : ∀ q ∈ l, q ∈ ls) : ∀ q ∈ rem l ks, q ∈ rem ls ks := fun q hq => mem_rem.mpr ⟨h q (mem_rem.mp hq).1, (mem_rem.mp hq).2⟩
theorem News.opq {g h : Heap} {L : Addr} {es nw : List (Addr × Obj)} (N : News g L h (es ++ nw)) : ∃ ls, News g L h ls ∧ (∀ q ∈ es, q ∈ ls) ∧ ∀ q ∈ nw, q ∈ ls := ⟨_, N, fun _ => List.mem_append_left _, fun _ => List.mem_append_right _⟩
theorem News.opq1 {g h : Heap} {L : Addr} {nw : List (Addr × Obj)} (N : News g L h nw) : ∃ ls, News g L h ls ∧ ∀ q ∈ nw, q ∈ ls := ⟨_, N, fun _ h => h⟩
theorem newsPut1 {g h : Heap} {L : Addr} {ls : List (Addr × Obj)} {p : Addr × Obj} (N : News g L h ls) (hp : p ∈ ls) : News g L h (p :: rem ls [p.1]) := newsPut (es := [p]) N fun q hq => by rw [List.mem_singleton.mp hq]; exact hp
theorem codes_rem {I : Ids} {σ : CSt} {l : List (Addr × Obj)} {P : Addr} (hP : P ∈ TT) {q : Addr × Obj} (h : q ∈ codesOf I σ l) : q ∈ rem l [P] := by
  obtain ⟨h1, _, h3⟩ := mem_codes.mp h
  exact mem_rem.mpr ⟨h1, fun z => h3 (by rw [List.mem_singleton.mp z]; exact hP)⟩
theorem in_rem {l : List (Addr × Obj)} {P : Addr} {ms : List Addr} (off : P ∉ ms) {q : Addr × Obj} (h : q ∈ l) (hm : q.1 ∈ ms) : q ∈ rem l [P] := mem_rem.mpr ⟨h, fun z => off (by rw [← List.mem_singleton.mp z]; exact hm)⟩
theorem cell_ne {g h : Heap} {L : Addr} {ls : List (Addr × Obj)} (N : News g L h ls) {c P : Addr} {o : Obj} {v : Option Value} {ps : Array Value} (mo : (c, o) ∈ ls) (ho : o.data = .cell v) (hp : (P, tabObj ps) ∈ ls) : c ≠ P := news_ne N mo hp (fun e => by
  have e : o = tabObj ps := e
  rw [e] at ho; cases ho)
theorem rem1 {ls : List (Addr × Obj)} {P : Addr} {p : Addr × Obj} (h : p ∈ ls) (ne : p.1 ≠ P) : p ∈ rem ls [P] := mem_rem.mpr ⟨h, fun z => ne (List.mem_singleton.mp z)⟩
theorem state_ne {prog : Program} {w : World} {A : Around} {E : Value → Shared → Prop} {s : Shared} {h₀ : Heap} {L : Addr} {nw es es' : List (Addr × Obj)} {σ : CSt} {a b : Addr} {Q : Value → Shared → Prop} (N : News h₀ L s.heap nw) (h1 : ∀ q ∈ es, q ∈ nw) (h2 : ∀ q ∈ es', q ∈ nw)
    (x : StL σ a es) (y : StL σ b es') (hu : A.units + 10 < cLine) (h : Q (.bool false) s) : wpAny (model prog w) A (compareOp .NotEq (.ref a) (.ref b)) Q E s := by
  obtain ⟨ka, D, ks, c, t1, t2, t3, t4, t5, t6, rfl, hk⟩ := x
  obtain ⟨ka', D', ks', c', t1', t2', t3', t4', t5', t6', rfl, hk'⟩ := y
  have m1 := N.isList (h1 _ (.head _)); have m2 := N.isList (h1 _ (.tail _ (.head _))); have m3 := N.isList (h1 _ (.tail _ (.tail _ (.head _))))
  have n1 := N.isList (h2 _ (.head _)); have n2 := N.isList (h2 _ (.tail _ (.head _))); have n3 := N.isList (h2 _ (.tail _ (.tail _ (.head _))))
  have u1 : A.in1.units < cLine := by show A.units + 1 < cLine; omega
  refine SeqAt.RcNeAt.lists (e := fun _ => true) m1 n1 rfl (by omega) (fun j h1 h2 => ?_) prog w E Q h
  have hj : j < 8 := h1
  rcases j with _ | _ | _ | _ | _ | _ | _ | _ | j
  · obtain ⟨e, q⟩ := ints_at (A := A.in1.in1) (s := s) hk hk'
    exact lists_at m3 n3 (by simpa using e) u1 fun j h1 h2 => by simpa using q j (by simpa using h1) (by simpa using h2)
  · exact int_at
  · exact int_at
  · exact int_at
  · exact int_at
  · exact int_at
  · exact int_at
  · exact lists_at m2 n2 rfl u1 fun j h1 h2 => SeqAt.EqAt.same _
  · omega
theorem TabInv.monoF {q : Str} {ps : Array Value} {led led' : List (Addr × Obj)} (h : TabInv q ps led) (hs : ∀ p ∈ led, (∃ vs, p.2.data = .fields vs) → p ∈ led') : TabInv q ps led' :=
  ⟨h.1, fun pos v e => by obtain ⟨c', oc, vs, t, h1, h2, h3, h4⟩ := h.2 pos v e; exact ⟨c', oc, vs, t, h1, hs _ h2 ⟨vs, h3⟩, h3, h4⟩⟩
section
variable {prog : Program} {w : World} {I : Ids} {l l' : List (Addr × Obj)} {σ σ' : CSt} {c : Addr} {o1 o2 o2' : Obj}
theorem lt_ne {c a : Addr} (h : a < c) : a ≠ c + 1 ∧ a ≠ c + 1 + 1 := by
  have h : @LT.lt Nat _ a c := h
  exact ⟨by show @Ne Nat _ _; omega, by show @Ne Nat _ _; omega⟩
theorem two_cells (l1 : ∀ p ∈ l, p.1 < c) (r : Rep prog w I l σ) (T : Tabs I σ l) :
    Rep prog w I ((c + 1 + 1, o2) :: (c + 1, o1) :: l) σ ∧ Tabs I σ ((c + 1 + 1, o2) :: (c + 1, o1) :: l) ∧ Keep I l σ ((c + 1 + 1, o2) :: (c + 1, o1) :: l) σ ∧ c + 1 ∉ mutOf I σ ∧ c + 1 + 1 ∉ mutOf I σ ∧ c + 1 ∉ TT ∧ c + 1 + 1 ∉ TT := by
  have k1 : ∀ a : Addr, (∃ o, (a, o) ∈ l) → a ≠ c + 1 ∧ a ≠ c + 1 + 1 := fun a ⟨o, h⟩ => lt_ne (l1 _ h)
  have K : Keep I l σ ((c + 1 + 1, o2) :: (c + 1, o1) :: l) σ := fun p h q => ⟨.tail _ (.tail _ h), q⟩
  have tk : ∀ P ∈ TT, ∃ o, (P, o) ∈ l := fun P hP => by
    obtain ⟨q, hq⟩ := TQ_TT P hP
    obtain ⟨_, h, _⟩ := T.tab _ hq
    exact ⟨_, h⟩
  refine ⟨r.move ?_ fun p h _ => .tail _ (.tail _ h), T.keep K, K, fun h => (k1 _ (r.mutKey h)).1 rfl, fun h => (k1 _ (r.mutKey h)).2 rfl, fun h => (k1 _ (tk _ h)).1 rfl, fun h => (k1 _ (tk _ h)).2 rfl⟩
  rw [List.map_cons, List.map_cons, List.nodup_cons, List.nodup_cons]
  refine ⟨fun h => ?_, fun h => ?_, r.nd⟩
  · rcases List.mem_cons.mp h with h | h
    · have h : @Eq Nat (c + 1 + 1) (c + 1) := h
      omega
    · obtain ⟨p, hp, e⟩ := List.mem_map.mp h
      exact (lt_ne (l1 p hp)).2 e
  · obtain ⟨p, hp, e⟩ := List.mem_map.mp h
    exact (lt_ne (l1 p hp)).1 e
theorem after_get (l1 : ∀ p ∈ l, p.1 < c) (r : Rep prog w I l σ) (T : Tabs I σ l) (K : Keep I ((c + 1 + 1, o2) :: (c + 1, o1) :: l) σ l' σ') (r' : Rep prog w I l' σ') {v : Option Value} (d2 : o2.data = .cell v) :
    Rep prog w I ((c + 1 + 1, o2') :: rem l' [c + 1 + 1]) σ' ∧ Tabs I σ' ((c + 1 + 1, o2') :: rem l' [c + 1 + 1]) ∧ KeepT I l σ ((c + 1 + 1, o2') :: rem l' [c + 1 + 1]) σ' ∧ (c + 1, o1) ∈ rem l' [c + 1 + 1] ∧ c + 1 ∉ mutOf I σ' ∧ c + 1 + 1 ∉ mutOf I σ' ∧ (c + 1 + 1, o2) ∈ l' := by
  obtain ⟨r0, T0, K0, a1, a2, b1, b2⟩ := two_cells (o1 := o1) (o2 := o2) l1 r T
  obtain ⟨m1, n1⟩ := K _ (.tail _ (.head _)) a1
  obtain ⟨m2, n2⟩ := K _ (.head _) a2
  have T' := T0.keep K
  have hin : ∀ p ∈ l', p.1 ≠ c + 1 + 1 → p ∈ (c + 1 + 1, o2') :: rem l' [c + 1 + 1] := fun p h z => .tail _ (rem1 h z)
  have hcd : ∀ p ∈ codesOf I σ' l', p.1 ≠ c + 1 + 1 → p ∈ codesOf I σ' ((c + 1 + 1, o2') :: rem l' [c + 1 + 1]) := fun p h z => by
    obtain ⟨h1, h2, h3⟩ := mem_codes.mp h
    exact mem_codes.mpr ⟨hin p h1 z, h2, h3⟩
  refine ⟨r'.move (put_nodup (es := [_]) r'.nd rfl (by simp)) fun p h z => hin p h (fun e => n2 (e ▸ z)), ⟨T'.off, fun x hx => ?_⟩, fun p h => ?_, rem1 m1 (by show @Ne Nat _ _; omega), n1, n2, m2⟩
  · obtain ⟨ps, h, i⟩ := T'.tab x hx
    refine ⟨ps, hin _ h (fun e => b2 (e ▸ TT_TQ x hx)), i.monoF fun p hp ⟨vs, hv⟩ => hcd p hp fun e => ?_⟩
    have h1 := (mem_codes.mp hp).1
    have : p.2 = o2 := key_uniq r'.nd (a := c + 1 + 1) (o := p.2) (by rw [← e]; exact h1) m2
    rw [this, d2] at hv; cases hv
  · exact hcd p (K.t p (K0.t p h)) (lt_ne (l1 p (mem_codes.mp h).1)).2
end
theorem pack {prog : Program} {w : World} {I : Ids} {l M : List (Addr × Obj)} {σ σ' : CSt} {g h : Heap} {L : Addr} {p q : Addr × Obj} (N : News g L h M) (r : Rep prog w I M σ') (T : Tabs I σ' M) (K : KeepT I l σ M σ') (m1 : p ∈ M) (m2 : q ∈ M) :
    ∃ M, News g L h M ∧ Rep prog w I M σ' ∧ Tabs I σ' M ∧ KeepT I l σ M σ' ∧ p ∈ M ∧ q ∈ M := ⟨M, N, r, T, K, m1, m2⟩
/-- what stands behind the buffer's refusal -/
def RB (prog : Program) (w : World) (fs : List Addr) (A₀ : Around) (base : Heap) (outer : List Env) (g : Heap) (L : Addr) (mm : Str → Option Value) (I : Ids) (l : List (Addr × Obj)) (σ σ' : CSt) (p q : Addr × Obj) (s s' : Shared) : Prop :=
  ∃ h' tk' M' g', s' = { s with heap := h', toks := tk' } ∧ KtsTurn fs g g' ∧ Fr g' L h' mm ∧ News g' L h' M' ∧ Below A₀ base outer g' ∧ Rep prog w I M' σ' ∧ Tabs I σ' M' ∧ KeepT I l σ M' σ' ∧ p ∈ M' ∧ q ∈ M'
theorem cutD {prog : Program} {w : World} {fs : List Addr} {A A₀ : Around} {base : Heap} {outer : List Env} {g : Heap} {L : Addr} {mm : Str → Option Value} {I : Ids} {l M : List (Addr × Obj)} {σ σ' : CSt} {p q : Addr × Obj} {s : Shared} {t : Sem Flow} {Q : Flow → Shared → Prop} {E : Value → Shared → Prop}
    (B : Below A₀ base outer g) (F : Fr g L s.heap mm) (D : KtsDicts fs g) (r : Rep prog w I M σ') (K : KeepT I l σ M σ') (mp : p ∈ M) (mq : q ∈ M)
    (h1 : wpD (model prog w) A t (fun fl s' => fl = .next ∧ RB prog w fs A₀ base outer g L mm I l σ σ' p q s s') E s) (h2 : ∀ s', RB prog w fs A₀ base outer g L mm I l σ σ' p q s s' → Q .next s') : wpD (model prog w) A t Q E s :=
  wpD_mono h1 (fun fl s' h => by obtain ⟨rfl, h⟩ := h; exact h2 s' h) fun _ _ e => e
section
variable {prog : Program} {w : World} {p : Program} {loose : List Str} {mean : ExcName → Option Value} {mg mb : Str → Option Value} {dp un : Nat} {gd : Option (List Code)} {cn : Str} {cs : Scope} {a : Addr} {ccd : Value} {cl : List (Str × Addr)} {outer : List Env} {A₀ : Around} {base h₀ : Heap} {L : Addr} {m : Str → Option Value} {s : Shared} {Q E : Value → Shared → Prop} {l : List (Addr × Obj)} {I : Ids} {σ : CSt}
  (B : Below A₀ base outer h₀) (F : Fr h₀ L s.heap m) (X : (Mine.hd.heap_1 w.params).In h₀) (T : Top p loose mean mg mb h₀) (hk : cs.kind = .function) (ZB : base.get? 0 = some (zO w)) (XB : (Mine.hd.heap_1 w.params).In base) (TB : Top p loose mean mg mb base) (D : KtsDicts (outer.filterMap (·.frame)) h₀)
include B F X T hk ZB XB TB D
theorem ref7 {rest : Int} {wt rt : Tok} (N : News h₀ L s.heap l) (r : Rep prog w I l σ) (TQs : Tabs I σ l) (hus : σ.us.size < 10000) (hr : 0 ≤ rest) (hdp : dp + 40 < 500) (hun : un + 400 < 4000)
  (hret : ∀ h' tk' l' h₀', KtsTurn (outer.filterMap (·.frame)) h₀ h₀' → Fr h₀' L h' m → News h₀' L h' l' → Below A₀ base outer h₀' → Rep prog w I l' σ → Tabs I σ l' → KeepT I l σ l' σ → Q (.bool true) { s with heap := h', toks := tk' }) :
   wpAny (model prog w) (ktrTop dp un gd cn cs L a ccd cl outer) (call (.ref 448) [.ref I.cI, .int 7 wt, .int rest rt]) Q E s := by
  refine wpAny_call ?_
  k_dflt (walk_at "tc_enter")
  k_steps
  k_dflt (refine' stateR ?kB ?kF ?kX ?kT ?kk ?kN r ?kh hus ?hdp ?hun ?_; ((case kB => k_asm); (case kF => k_asm); (case kX => assumption); (case kT => assumption); (case kk => walk_at "r"); (try (case kN => k_asm)); (try (case kh => walk_at "mem_sub")); (case hdp => walk_at "h"); (case hun => walk_at "h")))
  intro h1 tk1 sr es F1 N1 S1
  obtain ⟨ls, N1, he, hn⟩ := News.opq N1
  have oc : ∃ o, (_, o) ∈ ls ∧ o.data = .cell (some (.ref I.cI)) := ⟨_, hn _ (.tail _ (.tail _ (.head _))), by assumption⟩
  obtain ⟨o1, mo1, do1⟩ := oc
  have hl : ∀ q ∈ l, q ∈ ls := fun q h => hn q (.tail _ (.tail _ (.tail _ h)))
  obtain ⟨ps, hp, hti⟩ := TQs.tab _ (.head _)
  have hp' := hl _ hp
  have ne1 := cell_ne N1 mo1 do1 hp'
  have he2 : ∀ q ∈ es, q ∈ rem ls [429] := fun q h => rem1 (he q h) (S1.off N1 he hp' q h)
  have mo2 := rem1 mo1 ne1
  have hl2 : ∀ q ∈ rem l [429], q ∈ rem ls [429] := rem_sub hl
  have ht : TabInv "_law_of_cache.<locals>.<lambda>" ps (rem ls [429]) := hti.mono fun q h => hl2 q (codes_rem (by decide) h)
  have ha : ∀ x ∈ rem ls [429], x.1 ≠ 429 := fun x h => by simpa using (mem_rem.mp h).2
  have off := TQs.off 429 (by decide)
  clear hn
  k_steps
  k_dflt (refine' loc7 (news := rem ls [429]) ?kB ?kF ?kX ?kT ?kk ZB XB TB ?kD ?kN ?m1 ?m2 ?m3 ?m4 ht ha hr ?hdp ?hun ?_; (case kN => exact newsPut1 (by k_asm) hp'); (case m1 => exact hl2 _ (in_rem off r.mcI (by simp [mutOf, Ids.all]))); (case m2 => exact hl2 _ (in_rem off r.mcD.choose_spec (by simp [mutOf, Ids.all]))); (case m3 => exact hl2 _ (in_rem off r.mkI (by simp [mutOf, Ids.all]))); (case m4 => exact hl2 _ (in_rem off r.mkD.choose_spec (by simp [mutOf, Ids.all]))); (case kD => assumption); ((case kB => k_asm); (case kF => k_asm); (case kX => assumption); (case kT => assumption); (case kk => walk_at "r"); (try (case kN => k_asm)); (try (case kh => walk_at "mem_sub")); (case hdp => walk_at "h"); (case hun => walk_at "h")))
  intro h2 tk2 t1 t2 tp ps' ex h₀' T2 F2 N2 G B2
  have X2 := XB.keeps B2.stays
  have T2' := TB.keeps B2.stays
  have D2 := KtsDicts.turn (by assumption) T2
  obtain ⟨r2, TQ2, K2⟩ := tab_grow r TQs (es := []) (.head _) hp (G.mono hl2)
  obtain ⟨ls2, N2, hn2⟩ := News.opq1 N2
  have mt := hn2 _ (.head _)
  have hl3 : ∀ q ∈ (429, tabObj ps') :: (ex ++ rem l [429]), q ∈ ls2 := fun q h => hn2 q (.tail _ ((List.mem_cons.mp h).elim (fun e => e ▸ .head _) (fun h => .tail _ ((List.mem_append.mp h).elim (List.mem_append_left _) (fun h => List.mem_append_right _ (hl2 q h))))))
  have he3 : ∀ q ∈ es, q ∈ ls2 := fun q h => hn2 q (.tail _ (.tail _ (List.mem_append_right _ (he2 q h))))
  have mo3 := hn2 _ (.tail _ (.tail _ (List.mem_append_right _ mo2)))
  clear hn2 mo1 mo2
  k_steps
  k_dflt (refine' stateR ?kB ?kF ?kX ?kT ?kk ?kN r2 hl3 hus ?hdp ?hun ?_; ((case kB => k_asm); (case kF => k_asm); (case kX => assumption); (case kT => assumption); (case kk => walk_at "r"); (try (case kN => k_asm)); (try (case kh => walk_at "mem_sub")); (case hdp => walk_at "h"); (case hun => walk_at "h")))
  intro h3 tk3 sr2 es2 F3 N3 S2
  obtain ⟨ls3, N3, he4, hn3⟩ := News.opq N3
  k_steps
  k_dflt (refine state_eq (by k_asm) he4 (fun q h => hn3 q (he3 q h)) S2 S1 (by have : (4200 : Nat) ≤ cLine := (by decide); (dsimp only [ktrTop, Around.deeper, Around.in1]); omega) ?_)
  k_steps
  (try dsimp only)
  exact leaveT_ T2 (by k_asm) (by k_asm) fun h₀' t f n b => hret _ _ _ h₀' t f (News.sub n fun q h => hn3 q (hl3 q h)) b r2 TQ2 K2
end
section
variable {prog : Program} {w : World} {p : Program} {loose : List Str} {mean : ExcName → Option Value} {mg mb : Str → Option Value} {dp un : Nat} {gd : Option (List Code)} {cn : Str} {cs : Scope} {a : Addr} {ccd : Value} {cl : List (Str × Addr)} {outer : List Env} {A₀ : Around} {base h₀ : Heap} {L : Addr} {m : Str → Option Value} {s : Shared} {Q E : Value → Shared → Prop} {l : List (Addr × Obj)} {I : Ids} {σ : CSt}
  (B : Below A₀ base outer h₀) (F : Fr h₀ L s.heap m) (X : (Mine.hd.heap_1 w.params).In h₀) (T : Top p loose mean mg mb h₀) (hk : cs.kind = .function) (ZB : base.get? 0 = some (zO w)) (XB : (Mine.hd.heap_1 w.params).In base) (TB : Top p loose mean mg mb base) (D : KtsDicts (outer.filterMap (·.frame)) h₀)
include B F X T hk ZB XB TB D
theorem ref1 {rest : Int} {wt rt : Tok} (N : News h₀ L s.heap l) (r : Rep prog w I l σ) (TQs : Tabs I σ l) (hus : σ.us.size < 10000) (hr : 0 ≤ rest) (hdp : dp + 40 < 500) (hun : un + 400 < 4000)
  (hret : ∀ h' tk' l' h₀', KtsTurn (outer.filterMap (·.frame)) h₀ h₀' → Fr h₀' L h' m → News h₀' L h' l' → Below A₀ base outer h₀' → Rep prog w I l' σ → Tabs I σ l' → KeepT I l σ l' σ → Q (.bool true) { s with heap := h', toks := tk' }) :
   wpAny (model prog w) (ktrTop dp un gd cn cs L a ccd cl outer) (call (.ref 448) [.ref I.cI, .int 1 wt, .int rest rt]) Q E s := by
  refine wpAny_call ?_
  k_dflt (walk_at "tc_enter")
  k_steps
  k_dflt (refine' stateR ?kB ?kF ?kX ?kT ?kk ?kN r ?kh hus ?hdp ?hun ?_; ((case kB => k_asm); (case kF => k_asm); (case kX => assumption); (case kT => assumption); (case kk => walk_at "r"); (try (case kN => k_asm)); (try (case kh => walk_at "mem_sub")); (case hdp => walk_at "h"); (case hun => walk_at "h")))
  intro h1 tk1 sr es F1 N1 S1
  obtain ⟨ls, N1, he, hn⟩ := News.opq N1
  have oc : ∃ o, (_, o) ∈ ls ∧ o.data = .cell (some (.ref I.cI)) := ⟨_, hn _ (.tail _ (.tail _ (.head _))), by assumption⟩
  obtain ⟨o1, mo1, do1⟩ := oc
  have hl : ∀ q ∈ l, q ∈ ls := fun q h => hn q (.tail _ (.tail _ (.tail _ h)))
  obtain ⟨ps, hp, hti⟩ := TQs.tab _ (.head _)
  have hp' := hl _ hp
  have ne1 := cell_ne N1 mo1 do1 hp'
  have he2 : ∀ q ∈ es, q ∈ rem ls [429] := fun q h => rem1 (he q h) (S1.off N1 he hp' q h)
  have mo2 := rem1 mo1 ne1
  have hl2 : ∀ q ∈ rem l [429], q ∈ rem ls [429] := rem_sub hl
  have ht : TabInv "_law_of_cache.<locals>.<lambda>" ps (rem ls [429]) := hti.mono fun q h => hl2 q (codes_rem (by decide) h)
  have ha : ∀ x ∈ rem ls [429], x.1 ≠ 429 := fun x h => by simpa using (mem_rem.mp h).2
  have off := TQs.off 429 (by decide)
  clear hn
  k_steps
  k_dflt (refine' loc1 (news := rem ls [429]) ?kB ?kF ?kX ?kT ?kk ZB XB TB ?kD ?kN ?m1 ?m2 ?m3 ?m4 ht ha hr ?hdp ?hun ?_; (case kN => exact newsPut1 (by k_asm) hp'); (case m1 => exact hl2 _ (in_rem off r.mcI (by simp [mutOf, Ids.all]))); (case m2 => exact hl2 _ (in_rem off r.mcD.choose_spec (by simp [mutOf, Ids.all]))); (case m3 => exact hl2 _ (in_rem off r.mkI (by simp [mutOf, Ids.all]))); (case m4 => exact hl2 _ (in_rem off r.mkD.choose_spec (by simp [mutOf, Ids.all]))); (case kD => assumption); ((case kB => k_asm); (case kF => k_asm); (case kX => assumption); (case kT => assumption); (case kk => walk_at "r"); (try (case kN => k_asm)); (try (case kh => walk_at "mem_sub")); (case hdp => walk_at "h"); (case hun => walk_at "h")))
  intro h2 tk2 t1 t2 tp ps' ex h₀' T2 F2 N2 G B2
  have X2 := XB.keeps B2.stays
  have T2' := TB.keeps B2.stays
  have D2 := KtsDicts.turn (by assumption) T2
  obtain ⟨r2, TQ2, K2⟩ := tab_grow r TQs (es := []) (.head _) hp (G.mono hl2)
  obtain ⟨ls2, N2, hn2⟩ := News.opq1 N2
  have mt := hn2 _ (.head _)
  have hl3 : ∀ q ∈ (429, tabObj ps') :: (ex ++ rem l [429]), q ∈ ls2 := fun q h => hn2 q (.tail _ ((List.mem_cons.mp h).elim (fun e => e ▸ .head _) (fun h => .tail _ ((List.mem_append.mp h).elim (List.mem_append_left _) (fun h => List.mem_append_right _ (hl2 q h))))))
  have he3 : ∀ q ∈ es, q ∈ ls2 := fun q h => hn2 q (.tail _ (.tail _ (List.mem_append_right _ (he2 q h))))
  have mo3 := hn2 _ (.tail _ (.tail _ (List.mem_append_right _ mo2)))
  clear hn2 mo1 mo2
  k_steps
  k_dflt (refine' stateR ?kB ?kF ?kX ?kT ?kk ?kN r2 hl3 hus ?hdp ?hun ?_; ((case kB => k_asm); (case kF => k_asm); (case kX => assumption); (case kT => assumption); (case kk => walk_at "r"); (try (case kN => k_asm)); (try (case kh => walk_at "mem_sub")); (case hdp => walk_at "h"); (case hun => walk_at "h")))
  intro h3 tk3 sr2 es2 F3 N3 S2
  obtain ⟨ls3, N3, he4, hn3⟩ := News.opq N3
  k_steps
  k_dflt (refine state_eq (by k_asm) he4 (fun q h => hn3 q (he3 q h)) S2 S1 (by have : (4200 : Nat) ≤ cLine := (by decide); (dsimp only [ktrTop, Around.deeper, Around.in1]); omega) ?_)
  k_steps
  (try dsimp only)
  exact leaveT_ T2 (by k_asm) (by k_asm) fun h₀' t f n b => hret _ _ _ h₀' t f (News.sub n fun q h => hn3 q (hl3 q h)) b r2 TQ2 K2
end
section
variable {prog : Program} {w : World} {p : Program} {loose : List Str} {mean : ExcName → Option Value} {mg mb : Str → Option Value} {dp un : Nat} {gd : Option (List Code)} {cn : Str} {cs : Scope} {a : Addr} {ccd : Value} {cl : List (Str × Addr)} {outer : List Env} {A₀ : Around} {base h₀ : Heap} {L : Addr} {m : Str → Option Value} {s : Shared} {Q E : Value → Shared → Prop} {l : List (Addr × Obj)} {I : Ids} {σ : CSt}
  (B : Below A₀ base outer h₀) (F : Fr h₀ L s.heap m) (X : (Mine.hd.heap_1 w.params).In h₀) (T : Top p loose mean mg mb h₀) (hk : cs.kind = .function) (ZB : base.get? 0 = some (zO w)) (XB : (Mine.hd.heap_1 w.params).In base) (TB : Top p loose mean mg mb base) (D : KtsDicts (outer.filterMap (·.frame)) h₀)
include B F X T hk ZB XB TB D
theorem ref0 {rest : Int} {wt rt : Tok} (N : News h₀ L s.heap l) (r : Rep prog w I l σ) (TQs : Tabs I σ l) (hus : σ.us.size < 10000) (hr : 0 ≤ rest) (hdp : dp + 40 < 500) (hun : un + 400 < 4000)
  (hret : ∀ h' tk' l' h₀', KtsTurn (outer.filterMap (·.frame)) h₀ h₀' → Fr h₀' L h' m → News h₀' L h' l' → Below A₀ base outer h₀' → Rep prog w I l' σ → Tabs I σ l' → KeepT I l σ l' σ → Q (.bool true) { s with heap := h', toks := tk' }) :
   wpAny (model prog w) (ktrTop dp un gd cn cs L a ccd cl outer) (call (.ref 448) [.ref I.cI, .int 0 wt, .int rest rt]) Q E s := by
  refine wpAny_call ?_
  k_dflt (walk_at "tc_enter")
  k_steps
  k_dflt (refine' stateR ?kB ?kF ?kX ?kT ?kk ?kN r ?kh hus ?hdp ?hun ?_; ((case kB => k_asm); (case kF => k_asm); (case kX => assumption); (case kT => assumption); (case kk => walk_at "r"); (try (case kN => k_asm)); (try (case kh => walk_at "mem_sub")); (case hdp => walk_at "h"); (case hun => walk_at "h")))
  intro h1 tk1 sr es F1 N1 S1
  obtain ⟨ls, N1, he, hn⟩ := News.opq N1
  have oc : ∃ o, (_, o) ∈ ls ∧ o.data = .cell (some (.ref I.cI)) := ⟨_, hn _ (.tail _ (.tail _ (.head _))), by assumption⟩
  obtain ⟨o1, mo1, do1⟩ := oc
  have hl : ∀ q ∈ l, q ∈ ls := fun q h => hn q (.tail _ (.tail _ (.tail _ h)))
  obtain ⟨ps, hp, hti⟩ := TQs.tab _ (.head _)
  have hp' := hl _ hp
  have ne1 := cell_ne N1 mo1 do1 hp'
  have he2 : ∀ q ∈ es, q ∈ rem ls [429] := fun q h => rem1 (he q h) (S1.off N1 he hp' q h)
  have mo2 := rem1 mo1 ne1
  have hl2 : ∀ q ∈ rem l [429], q ∈ rem ls [429] := rem_sub hl
  have ht : TabInv "_law_of_cache.<locals>.<lambda>" ps (rem ls [429]) := hti.mono fun q h => hl2 q (codes_rem (by decide) h)
  have ha : ∀ x ∈ rem ls [429], x.1 ≠ 429 := fun x h => by simpa using (mem_rem.mp h).2
  have off := TQs.off 429 (by decide)
  clear hn
  k_steps
  k_dflt (refine' loc0 (news := rem ls [429]) ?kB ?kF ?kX ?kT ?kk ZB XB TB ?kD ?kN ?m1 ?m2 ?m3 ?m4 ht ha hr ?hdp ?hun ?_; (case kN => exact newsPut1 (by k_asm) hp'); (case m1 => exact hl2 _ (in_rem off r.mcI (by simp [mutOf, Ids.all]))); (case m2 => exact hl2 _ (in_rem off r.mcD.choose_spec (by simp [mutOf, Ids.all]))); (case m3 => exact hl2 _ (in_rem off r.mkI (by simp [mutOf, Ids.all]))); (case m4 => exact hl2 _ (in_rem off r.mkD.choose_spec (by simp [mutOf, Ids.all]))); (case kD => assumption); ((case kB => k_asm); (case kF => k_asm); (case kX => assumption); (case kT => assumption); (case kk => walk_at "r"); (try (case kN => k_asm)); (try (case kh => walk_at "mem_sub")); (case hdp => walk_at "h"); (case hun => walk_at "h")))
  intro h2 tk2 t1 t2 tp ps' ex h₀' T2 F2 N2 G B2
  have X2 := XB.keeps B2.stays
  have T2' := TB.keeps B2.stays
  have D2 := KtsDicts.turn (by assumption) T2
  obtain ⟨r2, TQ2, K2⟩ := tab_grow r TQs (es := []) (.head _) hp (G.mono hl2)
  obtain ⟨ls2, N2, hn2⟩ := News.opq1 N2
  have mt := hn2 _ (.head _)
  have hl3 : ∀ q ∈ (429, tabObj ps') :: (ex ++ rem l [429]), q ∈ ls2 := fun q h => hn2 q (.tail _ ((List.mem_cons.mp h).elim (fun e => e ▸ .head _) (fun h => .tail _ ((List.mem_append.mp h).elim (List.mem_append_left _) (fun h => List.mem_append_right _ (hl2 q h))))))
  have he3 : ∀ q ∈ es, q ∈ ls2 := fun q h => hn2 q (.tail _ (.tail _ (List.mem_append_right _ (he2 q h))))
  have mo3 := hn2 _ (.tail _ (.tail _ (List.mem_append_right _ mo2)))
  clear hn2 mo1 mo2
  k_steps
  k_dflt (refine' stateR ?kB ?kF ?kX ?kT ?kk ?kN r2 hl3 hus ?hdp ?hun ?_; ((case kB => k_asm); (case kF => k_asm); (case kX => assumption); (case kT => assumption); (case kk => walk_at "r"); (try (case kN => k_asm)); (try (case kh => walk_at "mem_sub")); (case hdp => walk_at "h"); (case hun => walk_at "h")))
  intro h3 tk3 sr2 es2 F3 N3 S2
  obtain ⟨ls3, N3, he4, hn3⟩ := News.opq N3
  k_steps
  k_dflt (refine state_eq (by k_asm) he4 (fun q h => hn3 q (he3 q h)) S2 S1 (by have : (4200 : Nat) ≤ cLine := (by decide); (dsimp only [ktrTop, Around.deeper, Around.in1]); omega) ?_)
  k_steps
  (try dsimp only)
  exact leaveT_ T2 (by k_asm) (by k_asm) fun h₀' t f n b => hret _ _ _ h₀' t f (News.sub n fun q h => hn3 q (hl3 q h)) b r2 TQ2 K2
end
section
variable {prog : Program} {w : World} {p : Program} {loose : List Str} {mean : ExcName → Option Value} {mg mb : Str → Option Value} {dp un : Nat} {gd : Option (List Code)} {cn : Str} {cs : Scope} {a : Addr} {ccd : Value} {cl : List (Str × Addr)} {outer : List Env} {A₀ : Around} {base h₀ : Heap} {L : Addr} {m : Str → Option Value} {s : Shared} {Q E : Value → Shared → Prop} {l : List (Addr × Obj)} {I : Ids} {σ : CSt}
  (B : Below A₀ base outer h₀) (F : Fr h₀ L s.heap m) (X : (Mine.hd.heap_1 w.params).In h₀) (T : Top p loose mean mg mb h₀) (hk : cs.kind = .function) (ZB : base.get? 0 = some (zO w)) (XB : (Mine.hd.heap_1 w.params).In base) (TB : Top p loose mean mg mb base) (D : KtsDicts (outer.filterMap (·.frame)) h₀)
include B F X T hk ZB XB TB D
theorem ref6 {rest : Int} {wt rt : Tok} (N : News h₀ L s.heap l) (r : Rep prog w I l σ) (TQs : Tabs I σ l) (hus : σ.us.size < 10000) (hr : 0 ≤ rest) (hdp : dp + 40 < 500) (hun : un + 400 < 4000)
  (hret : ∀ h' tk' l' h₀', KtsTurn (outer.filterMap (·.frame)) h₀ h₀' → Fr h₀' L h' m → News h₀' L h' l' → Below A₀ base outer h₀' → Rep prog w I l' σ → Tabs I σ l' → KeepT I l σ l' σ → Q (.bool true) { s with heap := h', toks := tk' }) :
   wpAny (model prog w) (ktrTop dp un gd cn cs L a ccd cl outer) (call (.ref 448) [.ref I.cI, .int 6 wt, .int rest rt]) Q E s := by
  refine wpAny_call ?_
  k_dflt (walk_at "tc_enter")
  k_steps
  k_dflt (refine' stateR ?kB ?kF ?kX ?kT ?kk ?kN r ?kh hus ?hdp ?hun ?_; ((case kB => k_asm); (case kF => k_asm); (case kX => assumption); (case kT => assumption); (case kk => walk_at "r"); (try (case kN => k_asm)); (try (case kh => walk_at "mem_sub")); (case hdp => walk_at "h"); (case hun => walk_at "h")))
  intro h1 tk1 sr es F1 N1 S1
  obtain ⟨ls, N1, he, hn⟩ := News.opq N1
  have oc : ∃ o, (_, o) ∈ ls ∧ o.data = .cell (some (.ref I.cI)) := ⟨_, hn _ (.tail _ (.tail _ (.head _))), by assumption⟩
  obtain ⟨o1, mo1, do1⟩ := oc
  have hl : ∀ q ∈ l, q ∈ ls := fun q h => hn q (.tail _ (.tail _ (.tail _ h)))
  obtain ⟨ps, hp, hti⟩ := TQs.tab _ (.head _)
  have hp' := hl _ hp
  have ne1 := cell_ne N1 mo1 do1 hp'
  have he2 : ∀ q ∈ es, q ∈ rem ls [429] := fun q h => rem1 (he q h) (S1.off N1 he hp' q h)
  have mo2 := rem1 mo1 ne1
  have hl2 : ∀ q ∈ rem l [429], q ∈ rem ls [429] := rem_sub hl
  have ht : TabInv "_law_of_cache.<locals>.<lambda>" ps (rem ls [429]) := hti.mono fun q h => hl2 q (codes_rem (by decide) h)
  have ha : ∀ x ∈ rem ls [429], x.1 ≠ 429 := fun x h => by simpa using (mem_rem.mp h).2
  have off := TQs.off 429 (by decide)
  clear hn
  k_steps
  obtain ⟨ob, kvs, mbn, dbn, lbn, vbn⟩ := r.mbn
  have c3 : valueAt kvs (rest.fmod 6) = none ∨ ∃ b d y tb hd, valueAt kvs (rest.fmod 6) = some (.ref b) ∧ (b, instObj 189 d) ∈ rem ls [429] ∧ (d, bufD w tb (rest.fmod 6) y hd) ∈ rem ls [429] := by
    rw [vbn]
    cases hf : σ.row.find? (fun B => decide (B.k = rest.fmod 6)) with
    | none => exact .inl rfl
    | some U =>
      have hU := List.mem_of_find?_eq_some hf
      have hk : U.k = rest.fmod 6 := by simpa using List.find?_some hf
      obtain ⟨h1, ⟨t, h2⟩, _⟩ := r.bufs U hU
      rw [hk] at h2
      exact .inr ⟨U.b, U.d, U.y, t, U.hd, rfl, hl2 _ (in_rem off h1 (List.mem_append_right _ (List.mem_flatMap.mpr ⟨U, hU, U.memb⟩))), hl2 _ (in_rem off h2 (List.mem_append_right _ (List.mem_flatMap.mpr ⟨U, hU, U.memd⟩)))⟩
  k_dflt (refine' loc6 (news := rem ls [429]) ?kB ?kF ?kX ?kT ?kk ZB XB TB ?kD ?kN ?m1 ?m2 ?m3 ht ha dbn r.low1 c3 ?hdp ?hun ?_; (case kN => exact newsPut1 (by k_asm) hp'); (case m1 => exact hl2 _ (in_rem off r.mcI (by simp [mutOf, Ids.all]))); (case m2 => exact hl2 _ (in_rem off r.mcD.choose_spec (by simp [mutOf, Ids.all]))); (case m3 => exact hl2 _ (in_rem off mbn (by simp [mutOf, Ids.all]))); (case kD => assumption); ((case kB => k_asm); (case kF => k_asm); (case kX => assumption); (case kT => assumption); (case kk => walk_at "r"); (try (case kN => k_asm)); (try (case kh => walk_at "mem_sub")); (case hdp => walk_at "h"); (case hun => walk_at "h")))
  intro h2 tk2 t1 t2 tp ps' ex h₀' T2 F2 N2 G B2
  have X2 := XB.keeps B2.stays
  have T2' := TB.keeps B2.stays
  have D2 := KtsDicts.turn (by assumption) T2
  obtain ⟨r2, TQ2, K2⟩ := tab_grow r TQs (es := []) (.head _) hp (G.mono hl2)
  obtain ⟨ls2, N2, hn2⟩ := News.opq1 N2
  have mt := hn2 _ (.head _)
  have hl3 : ∀ q ∈ (429, tabObj ps') :: (ex ++ rem l [429]), q ∈ ls2 := fun q h => hn2 q (.tail _ ((List.mem_cons.mp h).elim (fun e => e ▸ .head _) (fun h => .tail _ ((List.mem_append.mp h).elim (List.mem_append_left _) (fun h => List.mem_append_right _ (hl2 q h))))))
  have he3 : ∀ q ∈ es, q ∈ ls2 := fun q h => hn2 q (.tail _ (.tail _ (List.mem_append_right _ (he2 q h))))
  have mo3 := hn2 _ (.tail _ (.tail _ (List.mem_append_right _ mo2)))
  clear hn2 mo1 mo2
  k_steps
  k_dflt (refine' stateR ?kB ?kF ?kX ?kT ?kk ?kN r2 hl3 hus ?hdp ?hun ?_; ((case kB => k_asm); (case kF => k_asm); (case kX => assumption); (case kT => assumption); (case kk => walk_at "r"); (try (case kN => k_asm)); (try (case kh => walk_at "mem_sub")); (case hdp => walk_at "h"); (case hun => walk_at "h")))
  intro h3 tk3 sr2 es2 F3 N3 S2
  obtain ⟨ls3, N3, he4, hn3⟩ := News.opq N3
  k_steps
  k_dflt (refine state_eq (by k_asm) he4 (fun q h => hn3 q (he3 q h)) S2 S1 (by have : (4200 : Nat) ≤ cLine := (by decide); (dsimp only [ktrTop, Around.deeper, Around.in1]); omega) ?_)
  k_steps
  (try dsimp only)
  exact leaveT_ T2 (by k_asm) (by k_asm) fun h₀' t f n b => hret _ _ _ h₀' t f (News.sub n fun q h => hn3 q (hl3 q h)) b r2 TQ2 K2
end
section
variable {prog : Program} {w : World} {p : Program} {loose : List Str} {mean : ExcName → Option Value} {mg mb : Str → Option Value} {dp un : Nat} {gd : Option (List Code)} {cn : Str} {cs : Scope} {a : Addr} {ccd : Value} {cl : List (Str × Addr)} {outer : List Env} {A₀ : Around} {base h₀ : Heap} {L : Addr} {m : Str → Option Value} {s : Shared} {Q E : Value → Shared → Prop} {l : List (Addr × Obj)} {I : Ids} {σ : CSt}
  (B : Below A₀ base outer h₀) (F : Fr h₀ L s.heap m) (X : (Mine.hd.heap_1 w.params).In h₀) (T : Top p loose mean mg mb h₀) (hk : cs.kind = .function) (ZB : base.get? 0 = some (zO w)) (XB : (Mine.hd.heap_1 w.params).In base) (TB : Top p loose mean mg mb base) (D : KtsDicts (outer.filterMap (·.frame)) h₀)
include B F X T hk ZB XB TB D
theorem refB {v rest : Int} {wt rt : Tok} (hv : v = 2 ∨ v = 3 ∨ v = 4 ∨ v = 5) (N : News h₀ L s.heap l) (r : Rep prog w I l σ) (TQs : Tabs I σ l) (hc : CanGet σ (rest.fmod 6)) (h0 : ∀ U ∈ σ.row, U.k = rest.fmod 6 → U.hd = 0) (hnb : σ.nb < 10000) (hus : σ.us.size < 10000) (hr : 0 ≤ rest) (hdp : dp + 40 < 500) (hun : un + 400 < 4000)
  (hret : ∀ h' tk' l' h₀' σ' V, KtsTurn (outer.filterMap (·.frame)) h₀ h₀' → Fr h₀' L h' m → News h₀' L h' l' → Below A₀ base outer h₀' → GetTo σ (rest.fmod 6) σ' V → Rep prog w I l' (σ'.rel V) → Tabs I (σ'.rel V) l' → KeepT I l σ l' (σ'.rel V) → Q (.bool true) { s with heap := h', toks := tk' }) :
   wpD (model prog w) (ktrTop dp un gd cn cs L a ccd cl outer) (call (.ref 448) [.ref I.cI, .int v wt, .int rest rt]) Q E s := by
  have q6 := fm rest 6 (by decide)
  have mcI := r.mcI
  obtain ⟨tc9, mcD⟩ := r.mcD
  refine wpD_call ?_
  k_dflt ((refine' code_defCTD (by k_asm) (by k_asm) (by k_asm) (by k_asm) (by k_asm) (by assumption) (by exact rfl) (by exact rfl) (by assumption) (by k_is) (by k_is) (by ktr_room) (by exact BindsTo.of_eq rfl) (by exact rfl) (by decide +kernel) ?_ (by exact rfl) (by exact rfl) (by exact rfl); k_whole; intro g' L' h' tk' cells' FG' F' N' Y' B' X' T' D' l1; k_cells Y'; (try simp only [List.cons_append, List.nil_append] at N'); (try dsimp only)))
  refine execs_nextD ?_
  k_steps
  · exfalso
    rename_i qa
    rcases hv with rfl | rfl | rfl | rfl <;> exact absurd qa (by decide)
  dsimp only
  refine wpD_execs_cons (wpD_Assign_Name (wpD_methodCall ?_ rfl) rfl)
  k_steps
  k_dflt (refine' callWith_KD ?k1 ?k2 ?_; (case k1 => k_asm); (case k2 => k_is); k_whole)
  k_steps
  k_dflt (refine' getR ?kB ?kF ?kX ?kT ?kk ?kN ?kr hc ?k0 ?k6 hnb ?hdp ?hun ?_; (case kN => exact newsTail (by k_asm)); (case kr => exact (two_cells (by assumption) r TQs).1); (case k0 => omega); (case k6 => omega); ((case kB => k_asm); (case kF => k_asm); (case kX => assumption); (case kT => assumption); (case kk => walk_at "r"); (try (case kN => k_asm)); (try (case kh => walk_at "mem_sub")); (case hdp => walk_at "h"); (case hun => walk_at "h")))
  intro h1 tk1 l' σ' V F1 N1 g1 r1 K1
  k_dflt (refine' storeX_C ?F ?N ?c ?U ?d ?_ ?a ?b; (case a => rfl); (case b => rfl); (case F => k_asm); (case c => rfl); (case N => exact newsPut1 (by k_asm) (after_get (o2' := default) (by assumption) r TQs K1 r1 (by assumption)).2.2.2.2.2.2); (case U => exact .head (fun p h => by simpa using (mem_rem.mp h).2)); (case d => assumption))
  intro h2 o2' F2 N2 d2
  have hV := g1.mem r.rok.keys
  have hd1 := g1.one h0
  have hus' : σ'.us.size < 10000 := by rw [g1.us]; exact hus
  obtain ⟨r2, T2, KT2, mc1, n1, n2, -⟩ := after_get (o2' := o2') (by assumption) r TQs K1 r1 (by assumption)
  have e1 : ∃ o, (_, o) ∈ rem l' _ ∧ o.data = .cell (some (.ref I.cI)) := ⟨_, mc1, by assumption⟩
  clear mc1
  obtain ⟨o1, mc1, e1⟩ := e1
  obtain ⟨M, N2, r2, T2, KT2, mb2, mc2⟩ := pack N2 r2 T2 KT2 (.head _) (.tail _ mc1)
  clear mc1 mcI mcD
  refine execs_nextD ?_
  k_steps
  k_dflt (refine' stateR ?kB ?kF ?kX ?kT ?kk ?kN r2 (fun _ h => h) hus' ?hdp ?hun ?_; ((case kB => k_asm); (case kF => k_asm); (case kX => assumption); (case kT => assumption); (case kk => walk_at "r"); (try (case kN => k_asm)); (try (case kh => walk_at "mem_sub")); (case hdp => walk_at "h"); (case hun => walk_at "h")))
  intro h3 tk3 sr es F3 N3 S3
  obtain ⟨ls, N3, he, hn⟩ := News.opq N3
  obtain ⟨ps, hp, hti⟩ := T2.tab _ (.tail _ (.head _))
  have hp' := hn _ hp
  have eo := S3.off N3 he hp'
  have nc := cell_ne N3 (hn _ mc2) e1 hp'
  have nb := cell_ne N3 (hn _ mb2) d2 hp'
  obtain ⟨mVb, ⟨tV, mVd⟩, mVy, zV⟩ := r2.bufs V hV
  have mVb3 := hn _ mVb
  have mVd3 := hn _ mVd
  have mVy3 := hn _ mVy
  have mc3 := hn _ mc2
  have mb3 := hn _ mb2
  k_steps
  dsimp only
  refine wpD_execs_cons ?_
  k_dflt (refine' cutD (M := M) (σ' := σ') ?kB ?kF ?kD r2 KT2 mc2 mb2 ?g1 ?g2; (case kB => k_asm); (case kF => k_asm); (case kD => assumption))
  case g1 =>
    refine wpD_any ?_
    have off := T2.off 436 (by decide)
    have he2 : ∀ q ∈ es, q ∈ rem ls [436] := fun q h => rem1 (he q h) (eo q h)
    have hl2 : ∀ q ∈ rem M [436], q ∈ rem ls [436] := rem_sub hn
    have mc4 := rem1 mc3 nc
    have mb4 := rem1 mb3 nb
    have ht : TabInv "_law_of_buffer.<locals>.<lambda>" ps (rem ls [436]) := hti.mono fun q h => hl2 q (codes_rem (by decide) h)
    have ha : ∀ x ∈ rem ls [436], x.1 ≠ 436 := fun x h => by simpa using (mem_rem.mp h).2
    have q1 := in_rem off mVb (List.mem_append_right _ (List.mem_flatMap.mpr ⟨V, hV, V.memb⟩))
    have q2 := in_rem off mVd (List.mem_append_right _ (List.mem_flatMap.mpr ⟨V, hV, V.memd⟩))
    have q3 := in_rem off mVy (List.mem_append_right _ (List.mem_flatMap.mpr ⟨V, hV, V.memy⟩))
    k_steps
    · k_dflt (refine' lobs (v := v) (news := rem ls [436]) ?kB ?kF ?kX ?kT ?kk ZB XB TB ?kD (by omega) ?kN (hl2 _ q1) (hl2 _ q2) (hl2 _ q3) ht ha hr zV ?hdp ?hun ?_; (case kN => exact newsPut1 (by first | k_asm | exact newsTail (by k_asm)) hp'); (case kD => assumption); ((case kB => k_asm); (case kF => k_asm); (case kX => assumption); (case kT => assumption); (case kk => walk_at "r"); (try (case kN => k_asm)); (try (case kh => walk_at "mem_sub")); (case hdp => walk_at "h"); (case hun => walk_at "h")))
      intro h5 tk5 t5 ps' ex h₀' T5 F5 N5 G B5
      have X5 := XB.keeps B5.stays
      have T5' := TB.keeps B5.stays
      have D5 := KtsDicts.turn (by assumption) T5
      obtain ⟨r5, TQ5, K5⟩ := tab_grow r2 T2 (es := []) (.tail _ (.head _)) hp (G.mono hl2)
      obtain ⟨ls5, N5, hn5⟩ := News.opq1 N5
      have hl5 : ∀ q ∈ (436, tabObj ps') :: (ex ++ rem M [436]), q ∈ ls5 := fun q h => hn5 q ((List.mem_cons.mp h).elim (fun e => e ▸ .head _) (fun h => .tail _ ((List.mem_append.mp h).elim (List.mem_append_left _) (fun h => List.mem_append_right _ (hl2 q h)))))
      have hr5 : ∀ q ∈ rem ls [436], q ∈ ls5 := fun q h => hn5 q (.tail _ (List.mem_append_right _ h))
      have he5 : ∀ q ∈ es, q ∈ ls5 := fun q h => hr5 q (he2 q h)
      have mc5 := hr5 _ mc4
      have mb5 := hr5 _ mb4
      have mVb5 := hr5 _ (hl2 _ q1)
      have mVd5 := hr5 _ (hl2 _ q2)
      have mVy5 := hr5 _ (hl2 _ q3)
      clear hn5 mc3 mb3 mVb3 mVd3 mVy3
      k_steps
      any_goals (exfalso; rename_i qb; rw [bne_self_eq_false] at qb; cases qb; done)
      k_dflt (refine' stateR ?kB ?kF ?kX ?kT ?kk ?kN r5 hl5 hus' ?hdp ?hun ?_; ((case kB => k_asm); (case kF => k_asm); (case kX => assumption); (case kT => assumption); (case kk => walk_at "r"); (try (case kN => k_asm)); (try (case kh => walk_at "mem_sub")); (case hdp => walk_at "h"); (case hun => walk_at "h")))
      intro h6 tk6 sr6 es6 F6 N6 S6
      obtain ⟨ls6, N6, he6, hn6⟩ := News.opq N6
      k_steps
      k_dflt (refine state_ne (by k_asm) he6 (fun q h => hn6 q (he5 q h)) S6 S3 (by have : (4200 : Nat) ≤ cLine := (by decide); (dsimp only [ktrTop, Around.deeper, Around.in1]); omega) ?_)
      k_steps
      (try dsimp only)
      unfold RB
      exact ⟨_, _, (436, tabObj ps') :: (ex ++ rem M [436]), h₀', rfl, T5, by k_asm, News.sub (by k_asm) (fun q h => hn6 q (hl5 q h)), B5, r5, TQ5, KT2.trans K5, .tail _ (List.mem_append_right _ (rem1 mc2 nc)), .tail _ (List.mem_append_right _ (rem1 mb2 nb))⟩
    · (try dsimp only)
      unfold RB
      exact ⟨_, _, M, _, rfl, KtsTurn.refl, by k_asm, News.sub (by first | k_asm | exact newsTail (by k_asm)) hn, by assumption, r2, T2, KT2, mc2, mb2⟩
  case g2 =>
    intro s7 hRB
    unfold RB at hRB
    obtain ⟨h7, tk7, M7, g7, rfl, T7, F7, N7, B7, r7, TQ7, K7, mc7, mb7⟩ := hRB
    have X7 := XB.keeps B7.stays
    have T7' := TB.keeps B7.stays
    have D7 := KtsDicts.turn (by assumption) T7
    have mcI7 := r7.mcI
    obtain ⟨tc7, mcD7⟩ := r7.mcD
    replace hd1 := And.intro hd1 trivial
    clear hn mVb3 mVd3 mVy3 mc3 mb3 mVb mVd mVy hp hti hp' eo nc nb he
    (try dsimp only)
    refine wpD_any ?_
    k_steps
    k_dflt (refine' releaseR ?kB ?kF ?kX ?kT ?kk ?kN r7 hV hd1.1 ?hdp ?hun ?_; ((case kB => k_asm); (case kF => k_asm); (case kX => assumption); (case kT => assumption); (case kk => walk_at "r"); (try (case kN => k_asm)); (try (case kh => walk_at "mem_sub")); (case hdp => walk_at "h"); (case hun => walk_at "h")))
    intro h8 tk8 l8 F8 N8 r8 K8
    have TQ8 := TQ7.keep K8
    have mc8 := (K8 _ mc7 n1).1
    have mb8 := (K8 _ mb7 n2).1
    have hus8 : (σ'.rel V).us.size < 10000 := hus'
    have hV8 : ({ V with hd := 0 } : Buf) ∈ (σ'.rel V).row := List.mem_append_right _ (.head _)
    clear mcI7 mcD7
    k_steps
    k_dflt (refine' stateR ?kB ?kF ?kX ?kT ?kk ?kN r8 (fun _ h => h) hus8 ?hdp ?hun ?_; ((case kB => k_asm); (case kF => k_asm); (case kX => assumption); (case kT => assumption); (case kk => walk_at "r"); (try (case kN => k_asm)); (try (case kh => walk_at "mem_sub")); (case hdp => walk_at "h"); (case hun => walk_at "h")))
    intro h9 tk9 sr9 es9 F9 N9 S9
    obtain ⟨ls9, N9, he9, hn9⟩ := News.opq N9
    obtain ⟨ps9, hp9, hti9⟩ := TQ8.tab _ (.tail _ (.tail _ (.head _)))
    have hp9' := hn9 _ hp9
    have off9 := TQ8.off 443 (by decide)
    have he9' : ∀ q ∈ es9, q ∈ rem ls9 [443] := fun q h => rem1 (he9 q h) (S9.off N9 he9 hp9' q h)
    have hl9 : ∀ q ∈ rem l8 [443], q ∈ rem ls9 [443] := rem_sub hn9
    have mc9 := rem1 (hn9 _ mc8) (cell_ne N9 (hn9 _ mc8) e1 hp9')
    have mb9 := rem1 (hn9 _ mb8) (cell_ne N9 (hn9 _ mb8) d2 hp9')
    have ht9 : TabInv "_law_refused_right.<locals>.<lambda>" ps9 (rem ls9 [443]) := hti9.mono fun q h => hl9 q (codes_rem (by decide) h)
    have ha9 : ∀ x ∈ rem ls9 [443], x.1 ≠ 443 := fun x h => by simpa using (mem_rem.mp h).2
    have mc9' := hn9 _ mc8
    have mb9' := hn9 _ mb8
    k_steps
    k_dflt (refine' lam_one (own := []) (P := 443) (c := 447) (q := "_law_refused_right.<locals>.<lambda>") (ps := ps9) (rest := rem ls9 [443]) ?F ?N ?T ?C ?cd ?a1 ?a2 ?t ?q ?cl ?d ?_; (case N => exact newsPut1 (by k_asm) hp9'); (case a1 => exact fun _ h => nomatch h); (case F => k_asm); (case T => k_asm); (case cd => exact rfl); (case cl => exact rfl); (case d => exact rfl); (case t => exact ht9); (case a2 => exact ha9); (case q => kernel_rfl); (case C => exact codeHd_of_K (by assumption) (by kernel_rfl)))
    intro f c' oc vs t ctv ha tka ps' ex lsa Fa Na mf mc hd hv ho hrr hx G
    have hD : Deed prog w p loose mean mg mb base f 52 lsa := by
      have k1 := hrr _ (hl9 _ (in_rem off9 r8.mcI (by simp [mutOf, Ids.all])))
      obtain ⟨tc8, k2⟩ := r8.mcD
      have k2 := hrr _ (hl9 _ (in_rem off9 k2 (by simp [mutOf, Ids.all])))
      obtain ⟨ob8, kvs8, k3, dbn8, _, vbn8⟩ := r8.mbn
      have k3 := hrr _ (hl9 _ (in_rem off9 k3 (by simp [mutOf, Ids.all])))
      obtain ⟨k4, ⟨tb8, k5⟩, _, _⟩ := r8.bufs _ hV8
      have k4 := hrr _ (hl9 _ (in_rem off9 k4 (List.mem_append_right _ (List.mem_flatMap.mpr ⟨_, hV8, Buf.memb _⟩))))
      have k5 := hrr _ (hl9 _ (in_rem off9 k5 (List.mem_append_right _ (List.mem_flatMap.mpr ⟨_, hV8, Buf.memd _⟩))))
      have v8 : valueAt kvs8 V.k = some (.ref V.b) := by rw [vbn8, find_key r8.rok.keys hV8]; rfl
      have w8 := r8.low1
      have mc10 := hrr _ mc9
      have mb10 := hrr _ mb9
      intro dp un gd cn cs a ccd cl outer A₀ h₀ L m s Q E B F X T hk N hdp hun hE
      refine wpAny_call ?_
      k_dflt ((refine' kla_code (by k_asm) (by k_asm) (by k_asm) (by k_asm) (by k_asm) (by exact rfl) (by exact rfl) (by assumption) (by assumption) (by exact codeRec_news (by k_asm) (by assumption) (by assumption) (by assumption)) (by ktr_room) (by exact rfl) (by exact locs rfl) ?_ (by exact rfl) (by exact rfl) (by exact rfl) (by decide); k_whole; intro g'z L'z h'z FG'z F'z N'z B'z X'z T'z; (try dsimp only); (try k_fold)))
      k_steps
      any_goals ((with_reducible show wpAny _ _ (call (Value.ref 242) _ _) _ _ _); k_dflt (refine' release_bad (by k_asm) (by k_asm) (by k_asm) (by k_asm) (by walk_at "r") (by assumption) (by k_asm) (by k_mem) (by k_mem) (by k_mem) (by k_mem) (by k_mem) (by walk_at "o") (by walk_at "o") (by walk_at "o") (by walk_at "h") (by walk_at "h") ?_; k_whole); walk_at "bad")
      k_steps
      all_goals exact hE _ _ _ _ (by k_asm) (by assumption) (by assumption)
    k_steps
    k_dflt ((k_dflt (first | refine' met64 ?kB ?kF ?kX ?kT ?kk ?kZ ?kXB ?kTB ?kD ?kN (by assumption) (by assumption) ?hdp ?hun ?_ | refine' met52 ?kB ?kF ?kX ?kT ?kk ?kZ ?kXB ?kTB ?kD ?kN (by assumption) (by assumption) ?hdp ?hun ?_ | refine' met76 ?kB ?kF ?kX ?kT ?kk ?kZ ?kXB ?kTB ?kD ?kN (by assumption) (by assumption) ?hdp ?hun ?_); (case kB => k_asm); (case kF => k_asm); (case kX => assumption); (case kT => assumption); (case kk => walk_at "r"); (case kZ => assumption); (case kXB => assumption); (case kTB => assumption); (case kD => assumption); (case kN => k_asm); (case hdp => (dsimp only [ktrTop, Around.deeper, Around.in1]; omega)); (case hun => (dsimp only [ktrTop, Around.deeper, Around.in1]; omega))))
    intro hb tkb tq h₀b Tb Fb Nb Bb
    have Xb := XB.keeps Bb.stays
    have Tb' := TB.keeps Bb.stays
    have Db := KtsDicts.turn (by assumption) Tb
    obtain ⟨rb, TQb, Kb⟩ := tab_grow r8 TQ8 (es := []) (.tail _ (.tail _ (.head _))) hp9 (G.mono hl9)
    have hlb : ∀ q ∈ (443, tabObj ps') :: (ex ++ rem l8 [443]), q ∈ lsa := fun q h => hx q ((List.mem_cons.mp h).elim (fun e => e ▸ .head _) (fun h => .tail _ ((List.mem_append.mp h).elim (List.mem_append_left _) (fun h => List.mem_append_right _ (hl9 q h)))))
    have mc10 := hrr _ mc9
    have mb10 := hrr _ mb9
    clear hx mc9' mb9' mf mc
    k_steps
    k_dflt (refine' stateR ?kB ?kF ?kX ?kT ?kk ?kN rb hlb hus8 ?hdp ?hun ?_; ((case kB => k_asm); (case kF => k_asm); (case kX => assumption); (case kT => assumption); (case kk => walk_at "r"); (try (case kN => k_asm)); (try (case kh => walk_at "mem_sub")); (case hdp => walk_at "h"); (case hun => walk_at "h")))
    intro hc' tkc src esc Fc Nc Sc
    obtain ⟨lsc, Nc, hec, hnc⟩ := News.opq Nc
    k_steps
    k_dflt (refine state_eq (by k_asm) hec (fun q h => hnc q (hrr q (he9' q h))) Sc S9 (by have : (4200 : Nat) ≤ cLine := (by decide); (dsimp only [ktrTop, Around.deeper, Around.in1]); omega) ?_)
    k_steps
    (try dsimp only)
    exact leaveT_ (T7.trans Tb) (by k_asm) (by k_asm) fun h₀' t f n b => hret _ _ _ h₀' σ' V t f (News.sub n fun q h => hnc q (hlb q h)) b g1 rb TQb ((K7.trans K8.t).trans Kb)
end
/-- between the law's turns: no buffer is held, each says what the disk would say -/
structure Calm (σ : CSt) : Prop where
  hd : ∀ U ∈ σ.row, U.hd = 0
  dat : ∀ U ∈ σ.row, U.data = (σ.lat U.k).getD zeros4
theorem can_of {σ : CSt} (hl : σ.row.length ≤ 3) (h : ∀ U ∈ σ.row, U.hd = 0) (k : Int) : CanGet σ k := by
  rcases hr : σ.row with _ | ⟨B1, _ | ⟨B2, _ | ⟨B3, _ | ⟨B4, tl⟩⟩⟩⟩
  all_goals rw [hr] at hl h
  · exact .inr ⟨[], .inl ⟨by rw [hr]; simp, hr.symm⟩⟩
  · exact .inr ⟨[B1], .inl ⟨by rw [hr]; simp, hr.symm⟩⟩
  · exact .inr ⟨[B1, B2], .inl ⟨by rw [hr]; simp, hr.symm⟩⟩
  · exact .inr ⟨[B2, B3], .inr (.inl ⟨B1, B2, B3, hr, h _ (.head _), rfl⟩)⟩
  · simp at hl
theorem Calm.can {σ : CSt} (c : Calm σ) (hl : σ.row.length ≤ 3) (k : Int) : CanGet σ k := can_of hl c.hd k
theorem Calm.get {σ σ' : CSt} {k : Int} {V : Buf} (c : Calm σ) (hn : (σ.row.map (·.k)).Nodup) (g : GetTo σ k σ' V) :
    Calm (σ'.rel V) ∧ V.data = (σ.lat k).getD zeros4 ∧ (σ'.rel V).lat = σ.lat ∧ (σ'.rel V).us = σ.us ∧ (σ'.rel V).nb ≤ σ.nb + 1 := by
  rcases g with ⟨U, hU, rfl, rfl, rfl⟩ | ⟨hno, row', hr, rfl, h1, hd, rfl⟩
  · refine ⟨⟨fun W hW => ?_, fun W hW => ?_⟩, c.dat U hU, rfl, rfl, Nat.le_succ _⟩
    · rcases List.mem_append.mp hW with hW | hW
      · obtain ⟨h1, h2⟩ := List.mem_filter.mp hW
        rcases (mem_upd hn hU).mp h1 with rfl | ⟨h3, _⟩
        · simp at h2
        · exact c.hd W h3
      · rw [List.mem_singleton.mp hW]
    · rcases List.mem_append.mp hW with hW | hW
      · obtain ⟨h1, h2⟩ := List.mem_filter.mp hW
        rcases (mem_upd hn hU).mp h1 with rfl | ⟨h3, _⟩
        · simp at h2
        · exact c.dat W h3
      · rw [List.mem_singleton.mp hW]; exact c.dat U hU
  · have hs := hr.sub.subset
    refine ⟨⟨fun W hW => ?_, fun W hW => ?_⟩, hd, rfl, rfl, Nat.le_refl _⟩
    · rcases List.mem_append.mp hW with hW | hW
      · obtain ⟨h1, h2⟩ := List.mem_filter.mp hW
        rcases List.mem_append.mp h1 with h3 | h3
        · exact c.hd W (hs h3)
        · rw [List.mem_singleton.mp h3] at h2; simp at h2
      · rw [List.mem_singleton.mp hW]
    · rcases List.mem_append.mp hW with hW | hW
      · obtain ⟨h1, h2⟩ := List.mem_filter.mp hW
        rcases List.mem_append.mp h1 with h3 | h3
        · exact c.dat W (hs h3)
        · rw [List.mem_singleton.mp h3] at h2; simp at h2
      · rw [List.mem_singleton.mp hW]; exact hd
theorem Calm.poke {σ σ' : CSt} {k : Int} {data : Array UInt8} (c : Calm σ) (hn : (σ.row.map (·.k)).Nodup) (g : PokeTo σ k data σ') :
    Calm σ' ∧ (∀ j, σ'.lat j = if j = k then some data else σ.lat j) ∧ σ'.us.size = σ.us.size + 1 ∧ σ'.nb ≤ σ.nb + 1 := by
  obtain ⟨σ₁, V, tp, g, rfl⟩ := g
  have hk := g.k
  have key : (∀ W ∈ σ₁.row, W.k ≠ k → W ∈ σ.row) ∧ σ₁.lat = σ.lat ∧ σ₁.us = σ.us ∧ σ₁.nb ≤ σ.nb + 1 ∧ V ∈ σ₁.row ∧ (σ₁.row.map (·.k)).Nodup := by
    have hm := g.mem hn
    rcases g with ⟨U, hU, rfl, rfl, rfl⟩ | ⟨hno, row', hr, rfl, h1, hd, rfl⟩
    · refine ⟨fun W hW e => ?_, rfl, rfl, Nat.le_succ _, hm, ?_⟩
      · rcases (mem_upd hn hU).mp hW with rfl | ⟨h3, _⟩
        · exact absurd rfl e
        · exact h3
      · show ((upd σ.row U.k _).map (·.k)).Nodup
        unfold upd
        rw [map_k ((sameId_hd (· + 1)).ite U.k)]; exact hn
    · refine ⟨fun W hW e => ?_, rfl, rfl, Nat.le_refl _, hm, ?_⟩
      · rcases List.mem_append.mp hW with h3 | h3
        · exact hr.sub.subset h3
        · rw [List.mem_singleton.mp h3] at e; exact absurd rfl e
      · show ((row' ++ [V]).map (·.k)).Nodup
        rw [List.map_append, List.nodup_append]
        refine ⟨(hr.sub.map _).nodup hn, by simp, fun a ha b hb e => ?_⟩
        obtain ⟨B', hB', rfl⟩ := List.mem_map.mp ha
        simp only [List.map_cons, List.map_nil, List.mem_singleton] at hb
        exact hno B' (hr.sub.subset hB') (e.trans hb)
  obtain ⟨k1, k2, k3, k4, k5, k6⟩ := key
  have mem : ∀ W ∈ (((σ₁.fil V data).wr { V with data := data } tp).rel { V with data := data }).row, (W = { { V with data := data } with hd := 0 }) ∨ (W ∈ σ.row ∧ W.k ≠ k) := fun W hW => by
    rcases List.mem_append.mp hW with hW | hW
    · obtain ⟨h1, h2⟩ := List.mem_filter.mp hW
      have h2 : W.k ≠ V.k := by simpa using h2
      rcases (mem_upd k6 k5).mp h1 with rfl | ⟨h3, h4⟩
      · exact absurd rfl h2
      · rw [hk] at h4; exact .inr ⟨k1 W h3 h4, h4⟩
    · exact .inl (List.mem_singleton.mp hW)
  refine ⟨⟨fun W hW => ?_, fun W hW => ?_⟩, fun j => ?_, ?_, k4⟩
  · rcases mem W hW with rfl | ⟨h, _⟩
    · rfl
    · exact c.hd W h
  · rcases mem W hW with rfl | ⟨h, e⟩
    · show data = ((if V.k = V.k then some data else σ₁.lat V.k)).getD zeros4
      rw [if_pos rfl]; rfl
    · show W.data = ((if W.k = V.k then some data else σ₁.lat W.k)).getD zeros4
      rw [if_neg (by rw [hk]; exact e), k2]; exact c.dat W h
  · show (if j = V.k then some data else σ₁.lat j) = _
    rw [hk, k2]
  · show (σ₁.us.push _).size = _
    rw [Array.size_push, k3]
theorem enter_callD {M : Model} {A : Around} {s : Shared} {f : Value} {pos : List Value} {kw : List (Str × Value)} {c : ClaimW} {cl : Str → Option Addr} {mean : ExcName → Option Value} {args : List WData} {s₁ : Shared}
    (h : codeD M A (.call f ⟨pos, kw⟩) (GoodWG c cl mean args s₁) s) : wpD M A (PySem.call f pos kw) (fun v s' => GoodWG c cl mean args s₁ (.ok (.ret v)) s') (fun e s' => GoodWG c cl mean args s₁ (.error e) s') s :=
  wpD_call (codeD_mono h fun res s' g => by rcases g.1 with ⟨v, _, _, rfl, _⟩ | ⟨e, _, _, rfl, _⟩ <;> exact g)
theorem call_cellsND {prog : Program} {w : World} {A : Around} {R : Result → Shared → Prop} {s : Shared} {name : Str} {params : Arguments} {body : List Stmt} {scope : Scope}
    {pm cd doc : Value} {a : Addr} {o : Obj} {args : List Value} {binds : List (Str × Value)}
    (hroom : A.depth < recursionLimit) (ho : s.heap.get? a = some o) (hdata : o.data = .func (Calls.docDef name params body scope pm cd doc)) (hlim : s.heap.NoLimit) (hcd : s.heap.CodeRec cd name)
    (hbind : bindArgs (Calls.docDef name params body scope pm cd doc) ⟨args, []⟩ = pure binds)
    (hkind : (binds.all fun y => scope.names.lookup y.1 == some .local || scope.names.lookup y.1 == some .cell) = true)
    (hnd : ((cellsFrom 0 scope.names []).map (·.1)).Nodup)
    (h : ∀ L h₁ tk cells, Fr s.heap L h₁ (bindL (envOfC name scope L a cd).kindOf binds fun _ => none) → News s.heap L h₁ cells →
      CellsAre (bindC (envOfC name scope L a cd).kindOf binds fun _ => none) (cellsFrom (L + 1) scope.names []) cells →
      wpD (model prog w) (A.deeper (envOfC name scope L a cd)) (execs body (envOfC name scope L a cd))
        (fun f s' => R (.ok (.ret (match f with | .ret v => v | _ => .none))) s') (fun _ _ => False) { s with heap := h₁, toks := tk })
    (hco : scope.isCoroutine = false := by rfl) (hgen : scope.isGenerator = false := by rfl) (hk : scope.kind = .function := by rfl) :
    codeD (model prog w) A (.call (.ref a) ⟨args, []⟩) R s := by
  refine codeD_call_function hroom ho hdata hco hgen rfl hcd ?_
  rw [hbind]
  refine wpAny_pure (wpAny_newFunctionEnv_cells hk (kindsX hkind _) fun env' he s' x => ?_)
  subst he
  refine ⟨hlim.keeps x.toInCall.keep, codeD_func ?_⟩
  obtain ⟨h₁, tk, rfl, _⟩ := x.done
  obtain ⟨cells, NC, Y⟩ := Cl.news (h₀ := s.heap) (Nat.le_refl _) fun n c hm => ⟨x.cell n c (lookup_of_mem_nodup (cellsFrom_names scope.names 0 (s.heap.objs.size + 1) [] [] rfl ▸ hnd) hm), x.above n c hm⟩
  exact wpD_mono (h s.heap.objs.size h₁ tk cells ⟨x.toInCall.ns, x.toInCall.keep, Nat.le_refl _⟩ NC Y) (fun _ _ y => y) fun _ _ f => f.elim
/-- the tables alone have grown -/
theorem oldK_tabs {tabs : List (Addr × Addr)} {h₁ h' : Heap} (hT : TabsAt tabs h₁) (hk : ∀ b o, (ghostOf h₁ tabs).get? b = some o → h'.get? b = some o) (hg : ∀ q ∈ tabs, ∃ ps, h'.get? q.2 = some (tabObj ps)) : OldK h₁ h' := by
  refine ⟨fun b o e => ?_, fun b o e => ?_⟩ <;> by_cases hb : b ∈ tabs.map (·.2)
  · obtain ⟨q, hq, rfl⟩ := List.mem_map.mp hb
    obtain ⟨hc, ht⟩ := hT q hq
    obtain ⟨ps, hp⟩ := hg q hq
    rw [ht] at e
    cases e
    exact .inr (.inl ⟨(hc.tab ht).isCodeTable, rfl, #[], ps, rfl, by rw [Array.empty_append]; exact hp⟩)
  · exact .inl (hk b o (ghost_ne e hb))
  · obtain ⟨q, hq, rfl⟩ := List.mem_map.mp hb
    obtain ⟨ps, hp⟩ := hg q hq
    exact ⟨_, hp⟩
  · exact ⟨o, hk b o (ghost_ne e hb)⟩
/-! D rules for tests, for loops and list comprehensions -/
section
variable {M : Model} {A : Around} {E : Value → Shared → Prop} {s : Shared} {env : Env}
theorem wpD_isTrue_Not {x : Expr} {pos : Pos} {whole : Sem Value} {Q : Bool → Shared → Prop} (h : wpD M A (isTrue x env (eval x env)) (fun b s' => Q (!b) s') E s) : wpD M A (isTrue (.UnaryOp .Not x pos) env whole) Q E s := by
  show wpD M A (do return !(← isTrue x env (eval x env))) Q E s
  exact wpD_bind (wpD_mono h (fun _ _ q => wpD_pure q) fun _ _ e => e)
theorem wpD_isTrue_Call {f : Expr} {args : List Expr} {kws : List Keyword} {pos : Pos} {whole : Sem Value} {Q : Bool → Shared → Prop}
    (h : wpD M A whole (fun v s' => wpAny M A (truthy v) Q E s') E s) : wpD M A (isTrue (.Call f args kws pos) env whole) Q E s := by
  show wpD M A (do let v ← whole; standAt (Expr.Call f args kws pos).pos; holding [v] (truthy v)) Q E s
  exact wpD_bind (wpD_mono h (fun v s' q => wpD_bind (wpD_standAt (wpD_holding (wpD_any q)))) fun _ _ e => e)
theorem wpD_isTrue_Or2 {x y : Expr} {pos : Pos} {whole : Sem Value} {Q : Bool → Shared → Prop}
    (h : wpD M A (isTrue x env (eval x env)) (fun b s' => if b then Q true s' else wpD M A (isTrue y env (eval y env)) Q E s') E s) : wpD M A (isTrue (.BoolOp .Or [x, y] pos) env whole) Q E s := by
  show wpD M A (isTrue x env (eval x env) >>= fun b => match BoolOp.Or, b with
    | .And, false => pure false
    | .Or, true => pure true
    | _, _ => allTrue .Or [y] env) Q E s
  refine wpD_bind (wpD_mono h (fun b s' q => ?_) fun _ _ e => e)
  cases b with
  | true => exact wpD_pure q
  | false =>
    show wpD M A (isTrue y env (eval y env) >>= fun b => match BoolOp.Or, b with
      | .And, false => pure false
      | .Or, true => pure true
      | _, _ => allTrue .Or [] env) Q E s'
    refine wpD_bind (wpD_mono q (fun b s' q => ?_) fun _ _ e => e)
    cases b <;> exact wpD_pure q
theorem wpD_isTrue_Compare1 {l r : Expr} {op : CmpOp} {pos : Pos} {whole : Sem Value} {Q : Bool → Shared → Prop}
    (h : wpD M A (eval l env) (fun a s₁ => wpAny M A (eval r env) (fun b s₂ => wpAny M A (compareOp op a b) (fun c s₃ => wpAny M A (truthy c) Q E s₃) E s₂) E s₁) E s)
    (hm : behindInMarks op r = false := by with_unfolding_all rfl) : wpD M A (isTrue (.Compare l [op] [r] pos) env whole) Q E s := by
  rw [isTrue_Compare1, markedBehindIn_of_false hm]
  refine wpD_bind (wpD_mono h (fun a s₁ h₁ => wpD_any ?_) fun _ _ e => e)
  intro Γ p hΓ
  simp only [Sem.wp_bind', Sem.wp_holding, Sem.wp_cmd_standAt, Sem.wp_operate]
  exact Sem.wp_mono M Γ _ (fun b _ s₂ h₂ => Sem.wp_mono M Γ _ (fun c p₃ s₃ h₃ => h₃ Γ p₃ hΓ) (fun _ _ _ h' => h') _ _ (h₂ Γ _ hΓ)) (fun _ _ _ h' => h') _ _ (h₁ Γ _ hΓ)
theorem wpD_attempt {α : Type} {m : Sem α} {Q : Except Value α → Shared → Prop} (h : wpD M A m (fun a => Q (.ok a)) (fun e => Q (.error e)) s) : wpD M A m.attempt Q E s := fun Γ p hΓ hc => by
  rw [Sem.wp_attempt]; exact h Γ p hΓ hc
theorem wpD_of_eq {α : Type} {t t' : Sem α} {Q : α → Shared → Prop} (e : t = t') (h : wpD M A t' Q E s) : wpD M A t Q E s := e ▸ h
/-- a statement's own activation that does not raise -/
theorem wpD_runOwn {c : Code} {Q : Flow → Shared → Prop} (hc : codeD M A c (fun r s' => match r with | .ok f => Q f s' | .error _ => False) s) : wpD M A (runOwn c env) Q E s := by
  unfold runOwn
  exact wpD_onRaise (wpD_run (h := none) (codeD_mono hc fun r s' q => by cases r <;> first | exact q | exact q.elim))
theorem wpD_For {target iter : Expr} {body orelse : List Stmt} {pos : Pos} {Q : Flow → Shared → Prop}
    (h : wpAny M A (eval iter env) (fun x s₁ => wpAny M A (pyIter x) (fun it s₂ => codeD M A (.forLoop target it body orelse env) (fun r s' => match r with | .ok f => Q f s' | .error _ => False) s₂) E s₁) E s)
    (hs : ∀ x, foldedSetIterable iter env x = pure x := by intro _; rfl) : wpD M A (exec (.For target iter body orelse pos) env) Q E s := by
  rw [exec_For]
  exact wpD_bind (wpD_standAt (wpD_bind (wpD_any (wpAny_mono h (fun x s₁ h₁ => wpD_bind (wpD_of_eq (hs x) (wpD_pure (wpD_bind (wpD_standAt (wpD_bind (wpD_holding (wpD_any
    (wpAny_mono h₁ (fun it s₂ h₂ => wpD_runOwn h₂) fun _ _ e => e))))))))) fun _ _ e => e))))
end
section
variable {prog : Program} {w : World} {A : Around} {s : Shared} {R : Result → Shared → Prop} {env : Env}
theorem codeD_block {stmts : List Stmt} (h : wpD (model prog w) A (execs stmts env) (fun f s' => R (.ok f) s') (fun _ _ => False) s) : codeD (model prog w) A (.block stmts env) R s := by
  refine codeD_of_tree rfl ?_
  show wpD _ A (do return Fin.done (← (execs stmts env).onRaise (fun x => do noteFrame x env; theTreesLotGoes x))) _ _ s
  exact wpD_bind (wpD_onRaise (wpD_mono h (fun f s' h' => wpD_pure h') fun _ _ h' => h'.elim))
theorem codeD_loop {c : Code} (hq : c.quiet = true) (hd : dirtyCode c = false) (I : Nat → Shared → Prop)
    (turn : ∀ n s, I n s → wpD (model prog w) (A.under c) ((model prog w).den c) (fun fin s' => match fin with
      | .done f => R (.ok f) s'
      | .again c' => (c' = c ∧ ∃ m, m < n ∧ I m s') ∨ (c'.quiet = true ∧ codeD (model prog w) A c' R s')) (fun e s' => R (.error e) s') s)
    (n : Nat) (h : I n s) : codeD (model prog w) A c R s := by
  induction n using Nat.strongRecOn generalizing s with
  | ind n ih =>
    refine codeD_of_tree hd (wpD_mono (turn n s h) (fun fin s' hf => ?_) fun _ _ h' => h')
    cases fin with
    | done f => exact hf
    | again c' =>
      rcases hf with ⟨rfl, m, hm, hI⟩ | hf
      · exact ⟨hq, ih m hm hI⟩
      · exact hf
theorem codeD_forLoop {x : Str} {px : Pos} {it : Value} {body orelse : List Stmt} (I : Nat → Shared → Prop)
    (turn : ∀ n s, I n s → wpAny (model prog w) A (pyNext it) (fun r s₁ => match r with
      | none => wpD (model prog w) A (execs orelse env) (fun f s₃ => R (.ok f) s₃) (fun _ _ => False) s₁
      | some v => wpAny (model prog w) A (storeName env x v) (fun _ s₂ => wpD (model prog w) A (execs body env) (fun f s₃ => match f with
          | .next | .cont => ∃ m, m < n ∧ I m s₃
          | .brk => R (.ok .next) s₃
          | .ret v => R (.ok (.ret v)) s₃) (fun _ _ => False) s₂) (fun _ _ => False) s₁) (fun _ _ => False) s)
    (n : Nat) (h : I n s) : codeD (model prog w) A (.forLoop (.Name x px) it body orelse env) R s := by
  refine codeD_loop rfl rfl I (fun n s hI => ?_) n h
  show wpD _ A ((forTurn (.Name x px) it body orelse env).onRaise (fun x => do noteFrame x env; theTreesLotGoes x)) _ _ s
  refine wpD_onRaise ?_
  simp only [forTurn]
  refine wpD_bind (wpD_standAt (wpD_bind (wpD_any (wpAny_onRaise (wpAny_mono (turn n s hI) (fun r s₁ h₁ => ?_) fun _ _ h' => h'.elim)))))
  cases r with
  | none => exact wpD_pure (.inr ⟨rfl, codeD_block h₁⟩)
  | some v =>
    refine wpD_bind (wpD_pure (wpD_bind (wpD_any (wpAny_assign_Name (wpAny_mono h₁ (fun _ s₂ h₂ => wpD_bind (wpD_mono h₂ (fun f s₃ h₃ => ?_) fun _ _ h' => h'.elim)) fun _ _ h' => h'.elim)))))
    cases f with
    | next => exact wpD_pure (.inl ⟨rfl, h₃⟩)
    | cont => exact wpD_pure (.inl ⟨rfl, h₃⟩)
    | brk => exact wpD_pure h₃
    | ret v => exact wpD_pure h₃
end
/-! a list comprehension over range(n) whose element is shown in the D logic -/
section
variable {M : Model} {A : Around} {E : Value → Shared → Prop} {s : Shared} {env : Env}
theorem wpD_standIf {α : Type} {c : Prop} [Decidable c] {pos : Pos} {k : PUnit → Sem α} {Q : α → Shared → Prop} (h : wpD M A (k ()) Q E s) : wpD M A (if c then (standAt pos >>= k) else k ()) Q E s := by
  split
  · exact wpD_bind (wpD_standAt h)
  · exact h
theorem wpD_comprehension {e : Expr} {scope : Scope} {pos : Pos} {newAcc first : Sem Value} {g : Comprehension} {gs : List Comprehension} {cl : List (Str × Addr)} {u : Value → Sem Unit} {Q : Value → Shared → Prop}
    (hcl : clausesOf e = g :: gs) (hs : ∀ x, foldedSetIterable g.iter env x = pure x) (hclos : closureFor scope env = pure cl)
    (hkind : scope.kind = .function) (hnames : ∀ x ∈ scope.names, x.2 = .local → scope.names.lookup x.1 = some .local)
    (h : wpAny M A first (fun x s₁ => wpAny M A (pyIter x) (fun it s₂ => wpAny M A newAcc (fun acc s₃ =>
      wpAny M A (newFunctionEnv scope env.globals cl [] env.qual none .none (some env)) (fun cenv s₄ =>
        codeD M A (.compStart e 0 it acc { cenv with scope := relabel scope env }) (fun r s' => match r with
          | .ok _ => wpAny M A (u acc) (fun _ s'' => ∃ m, s''.heap.Ns cenv.locals m ∧ ∀ h', Heap.SameBut cenv.locals s''.heap h' → Q .none { s'' with heap := h' }) E s'
          | .error _ => False) s₄) E s₃) E s₂) E s₁) E s) :
    wpD M A (comprehension e scope env pos newAcc false first (some u)) Q E s := by
  unfold comprehension
  rw [hclos, hcl]
  refine wpD_bind (wpD_any (wpAny_mono h (fun x s₁ h₁ => wpD_bind (wpD_standAt (wpD_bind (wpD_of_eq (hs x) (wpD_pure (wpD_bind (wpD_any (wpAny_holding (wpAny_mono h₁ (fun it s₂ h₂ =>
    wpD_standIf (wpD_bind (wpD_any (wpAny_mono h₂ (fun acc s₃ h₃ => wpD_bind (wpD_pure (wpD_bind (wpD_any (wpAny_mono h₃ (fun cenv s₄ h₄ => ?_) fun _ _ h' => h'))))) fun _ _ h' => h'))))
      fun _ _ h' => h'))))))))) fun _ _ h' => h'))
  dsimp only
  have hv : ∀ x ∈ (scope.names.filter fun x => (x.2 == .local || x.2 == .cell) && x.1 != (".0" : Str)).reverse, x.2 = .local →
      Env.kindOf { cenv with scope := relabel scope env } x.1 = some .local := fun x hx hl => lookup_relabel_local (hnames x (List.mem_filter.mp (List.mem_reverse.mp hx)).1 hl)
  have hv' : ∀ x ∈ (scope.names.filter fun x => (x.2 == .local || x.2 == .cell) && x.1 != (".0" : Str)).reverse.drop 1 ++ (scope.names.filter fun x => (x.2 == .local || x.2 == .cell) && x.1 != (".0" : Str)).reverse.take 1,
      x.2 = .local → Env.kindOf { cenv with scope := relabel scope env } x.1 = some .local := fun x hx hl => by
    rcases List.mem_append.mp hx with h1 | h1
    · exact hv x (List.mem_of_mem_drop h1) hl
    · exact hv x (List.mem_of_mem_take h1) hl
  refine wpD_holding (wpD_bind (wpD_attempt (wpD_holding (wpD_run (h := none) (codeD_mono h₄ fun r s' hr => ?_)))))
  cases r with
  | ok f =>
    refine wpD_any (wpAny_bind (wpAny_rule (wpAny_bind (wpAny_holding (wpAny_mono hr (fun _ s'' hr' => ?_) fun _ _ h' => h')))))
    obtain ⟨m, hn, hr'⟩ := hr'
    exact wpAny_bind (wpAny_comp_letGo (cenv := { cenv with scope := relabel scope env }) hkind _ s'' m hv' hn fun h' m' _ hs' => wpAny_pure (hr' h' hs'))
  | error x => exact hr.elim
end
section
variable {prog : Program} {w : World} {A : Around} {E : Value → Shared → Prop} {s : Shared} {R : Result → Shared → Prop} {env : Env}
theorem codeD_compStart {elt iter : Expr} {x : Str} {px : Pos} {scope : Scope} {pos : Pos} {it acc : Value}
    (h0 : codeD (model prog w) A (.compLoop (.ListComp elt [⟨.Name x px, iter, [], 0⟩] scope pos) 0 it acc env) R s)
    (h : wpAny (model prog w) A (pyIter it) (fun it' s' => codeD (model prog w) A (.compLoop (.ListComp elt [⟨.Name x px, iter, [], 0⟩] scope pos) 0 it' acc env) R s') (fun _ _ => False) s) :
    codeD (model prog w) A (.compStart (.ListComp elt [⟨.Name x px, iter, [], 0⟩] scope pos) 0 it acc env) R s := by
  refine codeD_of_tree rfl ?_
  show wpD _ A ((compStart (.ListComp elt [⟨.Name x px, iter, [], 0⟩] scope pos) 0 it acc env).onRaise (fun x => do noteFrame x env; standAt theWindowsPlace)) _ _ s
  refine wpD_onRaise ?_
  unfold compStart
  show wpD _ _ (ask >>= _) _ _ s
  refine wpD_any (wpAny_bind (wpAny_askSetting (wpAny_ite ?_)))
  split
  · first
      | exact wpAny_bind (wpAny_pure (wpAny_pure (And.intro rfl h0)))
      | exact wpAny_pure (And.intro rfl h0)
  · first
      | exact wpAny_bind (wpAny_rule (wpAny_bind (wpAny_standAt (wpAny_bind (wpAny_mono h (fun it' s' h' => wpAny_pure (And.intro rfl h')) fun _ _ x => x.elim)))))
      | (refine wpAny_bind (wpAny_rule ?_); show wpAny _ _ (standAt iter.pos >>= _) _ _ s; exact wpAny_bind (wpAny_standAt (wpAny_bind (wpAny_mono h (fun it' s' h' => wpAny_pure (And.intro rfl h')) fun _ _ x => x.elim))))
theorem codeD_compLoop {elt iter : Expr} {x : Str} {px : Pos} {scope : Scope} {pos : Pos} {it acc : Value} (I : Nat → Shared → Prop)
    (turn : ∀ n s, I n s → wpAny (model prog w) A (pyNext it) (fun r s₁ => match r with
      | none => R (.ok .next) s₁
      | some v => wpAny (model prog w) A (storeName env x v) (fun _ s₂ => wpD (model prog w) A (eval elt env) (fun x s₃ =>
          wpAny (model prog w) A (call (.builtin "list.append") [acc, x]) (fun _ s₄ => ∃ m, m < n ∧ I m s₄) (fun _ _ => False) s₃) (fun _ _ => False) s₂) (fun _ _ => False) s₁) (fun _ _ => False) s)
    (n : Nat) (h : I n s) : codeD (model prog w) A (.compLoop (.ListComp elt [⟨.Name x px, iter, [], 0⟩] scope pos) 0 it acc env) R s := by
  refine codeD_loop rfl rfl I (fun n s hI => ?_) n h
  show wpD _ A ((compTurn (.ListComp elt [⟨.Name x px, iter, [], 0⟩] scope pos) 0 it acc env).onRaise (fun x => do noteFrame x env; theTreesLotGoes x)) _ _ s
  refine wpD_onRaise ?_
  rw [compTurn_list1]
  refine wpD_bind (wpD_standAt (wpD_bind (wpD_any (wpAny_mono (turn n s hI) (fun r s₁ h₁ => ?_) fun _ _ h' => h'.elim))))
  cases r with
  | none => exact wpD_pure h₁
  | some v =>
    refine wpD_bind (wpD_pure (wpD_bind (wpD_any (wpAny_assign_Name (wpAny_mono h₁ (fun _ s₂ h₂ => wpD_bind (wpD_bind (wpD_mono h₂ (fun x s₃ h₃ => wpD_any (wpAny_bind (wpAny_mono h₃
      (fun _ s₄ h₄ => wpAny_pure (wpD_pure (.inl ⟨rfl, h₄⟩))) fun _ _ h' => h'.elim))) fun _ _ h' => h'.elim))) fun _ _ h' => h'.elim)))))
end
section
variable {prog : Program} {w : World} {A : Around} {E : Value → Shared → Prop} {s : Shared} {env : Env} {h₀ : Heap} {L : Addr} {m : Str → Option Value}
/-- what one element of the comprehension leaves -/
def TurnD (h₀ : Heap) (L : Addr) (m : Str → Option Value) (J : List Value → List (Addr × Obj) → Prop) (pI pC pD : Addr × Obj) (ys : List Value) (s₁ : Shared) (y : Value) (s' : Shared) : Prop :=
  ∃ h' tk' news', s' = { s₁ with heap := h', toks := tk' } ∧ Fr h₀ L h' m ∧ News h₀ L h' (pI :: pC :: pD :: news') ∧ LCg.Off3 pI.1 pC.1 pD.1 news' ∧ J (ys ++ [y]) news'
/-- the source of the comprehension, its turn and its end -/
def SrcD (prog : Program) (w : World) (A : Around) (h₀ : Heap) (L : Addr) (m : Str → Option Value) (env : Env) (elt : Expr) (x y : Str) (scope : Scope) (cl : List (Str × Addr)) (J : Nat → List Value → List (Addr × Obj) → Prop) (n : Nat) (Q : Flow → Shared → Prop) (xv : Value) (s₁ : Shared) : Prop :=
  ∃ r t u v news, xv = .ref r ∧ A.handled = none ∧ Fr h₀ L s₁.heap m ∧ News h₀ L s₁.heap news ∧ IsRange s₁.heap r 0 (n : Int) 1 t u v ∧ J 0 [] news ∧
    (∀ i t I oI C oC D m₂ h tk ys news', i < n → J i ys news' → ys.length = i → LCg.NsObj oC m₂ → m₂ x = some (.int (i : Int) t) → Fr h₀ L h m → News h₀ L h ((I, oI) :: (C, oC) :: (D, LCg.lst ys) :: news') → LCg.Off3 I C D news' → (I ≠ C ∧ I ≠ D ∧ C ≠ D) →
      wpD (model prog w) A (eval elt (compEnvC scope cl C env)) (TurnD h₀ L m (J (i + 1)) (I, oI) (C, oC) (D, LCg.lst ys) ys { s₁ with heap := h, toks := tk }) (fun _ _ => False) { s₁ with heap := h, toks := tk }) ∧
    ∀ D h tk ys news', ys.length = n → J n ys news' → Fr h₀ L h (fun z => if z = y then some (.ref D) else m z) → News h₀ L h ((D, LCg.lst ys) :: news') → LCg.Off1 D news' → Q .next { s₁ with heap := h, toks := tk }
inductive CompI (h₀ : Heap) (L I C D : Addr) (m : Str → Option Value) (n : Nat) (J : Nat → List Value → List (Addr × Obj) → Prop) (s₁ : Shared) : Nat → Shared → Prop
  | mk {h' : Heap} {tk i : Nat} {ys : List Value} {m' : Str → Option Value} {news' : List (Addr × Obj)} (hi : i ≤ n) (hyl : ys.length = i) (hst : IsRangeIter h' I (0 + (i : Nat) * 1) ((n : Int) - (i : Nat)) 1) (F : Fr h₀ L h' m) (hn : h'.Ns C m') (N : News h₀ L h' ((D, LCg.lst ys) :: news'))
    (off : LCg.Off3 I C D news') (hJ : J i ys news') : CompI h₀ L I C D m n J s₁ (n + 1 - i) { s₁ with heap := h', toks := tk }
theorem Assign_compD {elt iter : Expr} {x y : Str} {px py : Pos} {scope : Scope} {cl : List (Str × Addr)} {pos spos : Pos} {Q : Flow → Shared → Prop} {n : Nat} (J : Nat → List Value → List (Addr × Obj) → Prop) (hLe : env.locals = L)
    (hsw : swapsWith (.ListComp elt [⟨.Name x px, iter, [], 0⟩] scope pos) (some (.Name y py)) spos.line env = pure true)
    (hclos : closureFor scope env = pure cl) (hcell : ∀ z ∈ scope.names, z.2 ≠ .cell) (hkind : scope.kind = .function)
    (hnames : ∀ z ∈ scope.names, z.2 = .local → scope.names.lookup z.1 = some .local) (hx : scope.names.lookup x = some .local)
    (hy : env.kindOf y = some .local) (hp : (env.scope.kind == .class || (env.scope.kind == .module && env.locals != env.globals)) = false)
    (hsm : Builtin.Range.small 0 (n : Int) 1 = true) (hn : Builtin.Range.rangeSize 0 (n : Int) 1 = ((n : Nat) : Int)) (hsz : n ≤ sizeLine)
    (h : wpAny (model prog w) A (eval iter env) (SrcD prog w A h₀ L m env elt x y scope cl J n Q) E s)
    (hs : ∀ x, foldedSetIterable iter env x = pure x := by intro _; rfl) :
    wpD (model prog w) A (exec (.Assign [.Name y py] (.ListComp elt [⟨.Name x px, iter, [], 0⟩] scope pos) spos) env) Q E s := by
  subst hLe
  rw [exec_Assign_Name_used _ _ _ _ hsw]
  refine wpD_bind (wpD_standAt (wpD_bind ?_))
  show wpD _ A (do let _ ← comprehension (.ListComp elt [⟨.Name x px, iter, [], 0⟩] scope pos) scope env _ (newList []) false (eval iter env) (some (assign (.Name y py) env))) _ _ s
  refine wpD_bind (wpD_mono (wpD_comprehension (u := assign (.Name y py) env) (Q := fun _ s' => Q .next s') rfl hs hclos hkind hnames
    (wpAny_mono h (fun xv s₂ h₁ => ?_) fun _ _ e => e)) (fun _ s' hq => wpD_pure (wpD_pure hq)) fun _ _ e => e)
  obtain ⟨r, t, u, v, news, rfl, hh, F₀, N₀, hr, hJ, turn, done⟩ := h₁
  refine wpAny_pyIter_range hr hsm ?_
  rw [hn]
  generalize hs₁ : ({ s₂ with heap := s₂.heap.push _ } : Shared) = s₁
  generalize hI : s₂.heap.objs.size = I at hs₁ ⊢
  have st₁ : IsRangeIter s₁.heap I (0 + ((0 : Nat) : Int) * 1) ((n : Int) - ((0 : Nat) : Int)) 1 := by
    subst hs₁; subst hI; show IsRangeIter _ _ _ _ _; simpa using Heap.get?_push_size _ rfl
  have F₁ : Fr h₀ env.locals s₁.heap m := by subst hs₁; exact F₀.push _
  have N₁ : News h₀ env.locals s₁.heap news := by subst hs₁; exact fun p hp => ⟨Heap.get?_push_of_some _ (N₀ p hp).1, (N₀ p hp).2⟩
  have hI₁ : I < s₁.heap.objs.size := by subst hs₁; subst hI; show _ < (s₂.heap.push _).objs.size; rw [Heap.size_push]; exact Nat.lt_succ_self _
  have hI₀ : h₀.get? I = none := by subst hI; exact next_is_new F₀
  have hIL : env.locals ≠ I := by subst hI; exact Nat.ne_of_lt F₀.ns.lt
  have offI : ∀ p ∈ news, p.1 ≠ I := by subst hI; exact fun p hp => Nat.ne_of_lt (Heap.lt_size (N₀ p hp).1)
  have eqs : ∀ h tk, ({ s₁ with heap := h, toks := tk } : Shared) = { s₂ with heap := h, toks := tk } := by subst hs₁; exact fun _ _ => rfl
  clear hs₁
  refine wpAny_newObj_type (wpAny_newFunctionEnv hcell (by intro y hy; simp at hy) (fun h₁ hns₁ hsb₁ => ?_) hkind)
  dsimp only at hns₁ hsb₁ ⊢
  generalize hH2 : s₁.heap.push { cls := .type "list", dict := none, data := .seq ([] : List Value).toArray } = H2 at hns₁ hsb₁ ⊢
  generalize hD : s₁.heap.objs.size = D at hns₁ hsb₁ ⊢
  have hC : H2.objs.size = D + 1 := by rw [← hH2, Heap.size_push, hD]
  generalize hC2 : H2.objs.size = C at hns₁ hsb₁ hC ⊢
  have lt1 : ∀ b, b < D → b ≠ C ∧ b ≠ D := fun b hb => ⟨by rw [hC]; exact Nat.ne_of_lt (Nat.lt_succ_of_lt hb), Nat.ne_of_lt hb⟩
  have hDC : D ≠ C := by rw [hC]; exact Nat.ne_of_lt (Nat.lt_succ_self _)
  have old : ∀ b o, s₁.heap.get? b = some o → h₁.get? b = some o := fun b o e => hsb₁.extBut b o (lt1 b (hD ▸ Heap.lt_size e)).1 (Heap.get?_push_of_some _ (hH2 ▸ Heap.get?_push_of_some _ e))
  have hacc : h₁.get? D = some (LCg.lst []) := hsb₁.extBut _ _ hDC (Heap.get?_push_of_some _ (hH2 ▸ hD ▸ Heap.get?_push_size _ rfl))
  have fresh₀ : ∀ a, D ≤ a → h₀.get? a = none := fun a ha => by
    cases e : h₀.get? a with
    | none => rfl
    | some o' => exact absurd (Heap.lt_size (F₁.keep a o' e)) (Nat.not_lt.mpr (hD ▸ ha))
  have hD₀ : h₀.get? D = none := fresh₀ _ (Nat.le_refl _)
  have hC₀ : h₀.get? C = none := fresh₀ _ (by rw [hC]; exact Nat.le_succ _)
  have hL := lt1 _ (hD ▸ F₁.ns.lt : env.locals < D)
  have hIx := lt1 I (hD ▸ hI₁)
  have off₀ : LCg.Off3 I C D news := LCg.Off3.of fun p hp => ⟨offI p hp, (lt1 _ (hD ▸ Heap.lt_size (N₁ p hp).1)).1, (lt1 _ (hD ▸ Heap.lt_size (N₁ p hp).1)).2⟩
  have W := LCg.range_walks (prog := prog) (w := w) (I := I) hh 0 n
  have loop : ∀ s₃ : Shared, s₃ = { s₁ with heap := h₁, toks := s₁.toks + ([] : List (Str × Value)).length } →
      codeD (model prog w) A (.compLoop (.ListComp elt [⟨.Name x px, iter, [], 0⟩] scope pos) 0 (.ref I) (.ref D) (compEnvC scope cl C env))
        (fun r s' => match r with
          | .ok _ => wpAny (model prog w) A (assign (.Name y py) env (.ref D)) (fun _ s'' => ∃ m, s''.heap.Ns C m ∧ ∀ h', Heap.SameBut C s''.heap h' → Q .next { s'' with heap := h' }) E s'
          | .error _ => False) s₃ := by
    rintro s₃ rfl
    refine codeD_compLoop (CompI h₀ env.locals I C D m n J s₁) ?_ (n + 1) (.mk (i := 0) (ys := []) (Nat.zero_le _) rfl (W.frame _ _ _ st₁ fun b _ o e => old b o e) (F₁.keeps old) hns₁ (fun p hp => ?_) off₀ hJ)
    · rintro k s' @⟨h', tk, i, ys, m', news', hi, hyl, hst', F', hn', N', off', hJ'⟩
      by_cases hlt : i < n
      · refine W.item i _ _ _ hlt hst' fun v h₂ tk₂ hPv hst₂ hk₂ => ?_
        refine wpAny_storeName_local (lookup_relabel_local hx) (hn'.at' fun o e => hk₂ _ o (by simpa using Ne.symm hIx.1) e) (fun h₃ hn₃ hs₃ => ?_) (by simp [compEnvC, relabel, hkind])
        have hst₃ : IsRangeIter h₃ I (0 + ((i + 1 : Nat) : Int) * 1) ((n : Int) - ((i + 1 : Nat) : Int)) 1 := W.frame _ _ _ hst₂ fun b hb o e => hs₃.extBut b o (fun q => hIx.1 (by rw [← List.mem_singleton.mp hb]; exact q)) e
        obtain ⟨oC, heC, hoC⟩ := LCg.ns_obj hn₃
        have F₃ : Fr h₀ env.locals h₃ m := (LCg.fr_but F' hk₂ hIL hI₀).change hs₃ (Ne.symm hL.1) hC₀
        have off3 := off'.mem
        have N₂ : News h₀ env.locals h₂ ((D, LCg.lst ys) :: news') := LCg.news_but N' hk₂ fun p hp => by
          rcases List.mem_cons.mp hp with rfl | hp
          · exact Ne.symm hIx.2
          · exact (off3 p hp).1
        have heI : h₃.get? I = some _ := hst₃
        have N₃ : News h₀ env.locals h₃ ((I, _) :: (C, oC) :: (D, LCg.lst ys) :: news') := fun p hp => by
          rcases List.mem_cons.mp hp with rfl | hp
          · exact ⟨heI, Ne.symm hIL, hI₀⟩
          · rcases List.mem_cons.mp hp with rfl | hp
            · exact ⟨heC, Ne.symm hL.1, hC₀⟩
            · have z := N₂ p hp
              refine ⟨hs₃.extBut _ _ ?_ z.1, z.2⟩
              rcases List.mem_cons.mp hp with rfl | hp
              · exact hDC
              · exact (off3 p hp).2.1
        obtain ⟨tv, rfl⟩ := hPv
        rw [eqs]
        refine wpD_mono (turn i tv I _ C oC D _ h₃ _ ys news' hlt hJ' hyl hoC (by show (if x = x then _ else _) = _; rw [if_pos rfl, Int.zero_add]) F₃ N₃ off' ⟨hIx.1, hIx.2, Ne.symm hDC⟩) (fun yv s₄ h₄ => ?_) fun _ _ e => e
        obtain ⟨h₄, tk₄, news₄, rfl, F₄, N₄, off₄, hJ₄⟩ := h₄
        have zI := (N₄ (I, _) List.mem_cons_self).1
        have zC := (N₄ (C, oC) (List.mem_cons_of_mem _ List.mem_cons_self)).1
        have zD := (N₄ (D, LCg.lst ys) (List.mem_cons_of_mem _ (List.mem_cons_of_mem _ List.mem_cons_self))).1
        have N₄' : News h₀ env.locals h₄ news₄ := fun p hp => N₄ p (List.mem_cons_of_mem _ (List.mem_cons_of_mem _ (List.mem_cons_of_mem _ hp)))
        refine append_at (hsz := by show ys.toArray.size ≤ sizeLine; rw [List.size_toArray, hyl]; exact Nat.le_trans hi hsz) zD fun h₅ hs₅ hD₅ => ?_
        have off4 := off₄.mem
        refine ⟨n + 1 - (i + 1), by omega, (eqs h₅ tk₄).symm ▸ CompI.mk (i := i + 1) (ys := ys ++ [yv]) hlt (by rw [List.length_append, List.length_singleton, hyl]) (hs₅.extBut _ _ hIx.2 zI) (F₄.change hs₅ (Ne.symm hL.2) hD₀) ((hoC.ns zC).sameBut hs₅ (Ne.symm hDC)) (fun p hp => ?_) off₄ hJ₄⟩
        rcases List.mem_cons.mp hp with rfl | hp
        · exact ⟨hD₅.trans (congrArg some (LCg.lst_snoc ys yv)), Ne.symm hL.2, hD₀⟩
        · exact ⟨hs₅.extBut _ _ (off4 p hp).2.2 (N₄' p hp).1, (N₄' p hp).2⟩
      · obtain rfl : i = n := Nat.le_antisymm hi (Nat.not_lt.mp hlt)
        refine W.done _ _ _ hst' fun h₂ tk₂ hk₂ => ?_
        have off3 := off'.mem
        have F₂ := LCg.fr_but F' hk₂ hIL hI₀
        have N₂ : News h₀ env.locals h₂ ((D, LCg.lst ys) :: news') := LCg.news_but N' hk₂ fun p hp => by
          rcases List.mem_cons.mp hp with rfl | hp
          · exact Ne.symm hIx.2
          · exact (off3 p hp).1
        have hn₂ : h₂.Ns C m' := hn'.at' fun o e => hk₂ _ o (by simpa using Ne.symm hIx.1) e
        dsimp only
        refine wpAny_assign_Name (wpAny_storeName_local hy F₂.ns (fun h₃ hn₃ hs₃ => ?_) hp)
        have hL₀ : h₀.get? env.locals = none := Heap.get?_none_of_le F₂.above
        have F₃ : Fr h₀ env.locals h₃ (fun z => if z = y then some (.ref D) else m z) := ⟨hn₃, fun b o e => hs₃.extBut b o (fun q => by rw [q, hL₀] at e; cases e) (F₂.keep b o e), F₂.above⟩
        refine ⟨m', hn₂.sameBut hs₃ (Ne.symm hL.1), fun h'' hs'' => ?_⟩
        have e := eqs h'' (tk₂ + 1)
        refine (congrArg (Q .next) e).mpr (done D h'' _ ys news' hyl hJ' (F₃.change hs'' (Ne.symm hL.1) hC₀) (fun p hp => ?_) off'.one)
        have z : h₃.get? p.1 = some p.2 := hs₃.extBut _ _ (N₂ p hp).2.1 (N₂ p hp).1
        refine ⟨hs''.extBut _ _ ?_ z, (N₂ p hp).2⟩
        rcases List.mem_cons.mp hp with rfl | hp
        · exact hDC
        · exact (off3 p hp).2.1
    · rcases List.mem_cons.mp hp with rfl | hp
      · exact ⟨hacc, Ne.symm hL.2, hD₀⟩
      · exact ⟨old _ _ (N₁ p hp).1, (N₁ p hp).2⟩
  exact codeD_compStart (loop _ rfl) (W.self 0 _ _ _ (W.frame _ _ _ st₁ fun b _ o e => old b o e) (loop _ rfl))
end
theorem turn_nil {h₀ h₀' h : Heap} {L : Addr} {m : Str → Option Value} (T : KtsTurn [] h₀ h₀') (F : Fr h₀' L h m) : Fr h₀ L h m :=
  ⟨F.ns, fun b o e => F.keep b o (T.other b o e (fun q => nomatch q)), by have := F.above; rw [T.size] at this; exact this⟩
theorem turn_news {h₀ h₀' h : Heap} {L : Addr} {l : List (Addr × Obj)} (T : KtsTurn [] h₀ h₀') (N : News h₀' L h l) : News h₀ L h l := fun p hp =>
  ⟨(N p hp).1, (N p hp).2.1, by
    cases e : h₀.get? p.1 with
    | none => rfl
    | some o => have := T.other _ o e (fun q => nomatch q); rw [(N p hp).2.2] at this; cases this⟩
section
variable {prog : Program} {w : World} {p : Program} {loose : List Str} {mean : ExcName → Option Value} {mg mb : Str → Option Value} {dp un : Nat} {gd : Option (List Code)} {cn : Str} {cs : Scope} {a : Addr} {ccd : Value} {cl : List (Str × Addr)} {A₀ : Around} {base h₀ : Heap} {L : Addr} {m : Str → Option Value} {s : Shared} {Q E : Value → Shared → Prop} {l : List (Addr × Obj)} {I : Ids} {σ : CSt}
  (B : Below A₀ base [] h₀) (F : Fr h₀ L s.heap m) (X : (Mine.hd.heap_1 w.params).In h₀) (T : Top p loose mean mg mb h₀) (hk : cs.kind = .function) (ZB : base.get? 0 = some (zO w)) (XB : (Mine.hd.heap_1 w.params).In base) (TB : Top p loose mean mg mb base)
include B F X T hk ZB XB TB
theorem refAll {v rest : Int} {wt rt : Tok} (hv0 : 0 ≤ v) (hv8 : v < 8) (N : News h₀ L s.heap l) (r : Rep prog w I l σ) (TQs : Tabs I σ l) (C : Calm σ) (hnb : σ.nb < 10000) (hus : σ.us.size < 10000) (hr : 0 ≤ rest) (hdp : dp + 40 < 500) (hun : un + 400 < 4000)
  (hret : ∀ h' tk' l' σ', Fr h₀ L h' m → News h₀ L h' l' → Rep prog w I l' σ' → Tabs I σ' l' → KeepT I l σ l' σ' → Calm σ' → σ'.lat = σ.lat → σ'.us = σ.us → σ'.nb ≤ σ.nb + 1 → Q (.bool true) { s with heap := h', toks := tk' }) :
   wpD (model prog w) (ktrTop dp un gd cn cs L a ccd cl []) (call (.ref 448) [.ref I.cI, .int v wt, .int rest rt]) Q E s := by
  have hv : v = 0 ∨ v = 1 ∨ v = 6 ∨ v = 7 ∨ (v = 2 ∨ v = 3 ∨ v = 4 ∨ v = 5) := by omega
  have D : KtsDicts (([] : List Env).filterMap (·.frame)) h₀ := ktsDicts_nil
  rcases hv with rfl | rfl | rfl | rfl | hv
  · exact wpD_any (ref0 B F X T hk ZB XB TB D N r TQs hus hr hdp hun fun h' tk' l' h₀' T' F' N' B' r' TQ' K' => hret h' tk' l' σ (turn_nil T' F') (turn_news T' N') r' TQ' K' C rfl rfl (Nat.le_succ _))
  · exact wpD_any (ref1 B F X T hk ZB XB TB D N r TQs hus hr hdp hun fun h' tk' l' h₀' T' F' N' B' r' TQ' K' => hret h' tk' l' σ (turn_nil T' F') (turn_news T' N') r' TQ' K' C rfl rfl (Nat.le_succ _))
  · exact wpD_any (ref6 B F X T hk ZB XB TB D N r TQs hus hr hdp hun fun h' tk' l' h₀' T' F' N' B' r' TQ' K' => hret h' tk' l' σ (turn_nil T' F') (turn_news T' N') r' TQ' K' C rfl rfl (Nat.le_succ _))
  · exact wpD_any (ref7 B F X T hk ZB XB TB D N r TQs hus hr hdp hun fun h' tk' l' h₀' T' F' N' B' r' TQ' K' => hret h' tk' l' σ (turn_nil T' F') (turn_news T' N') r' TQ' K' C rfl rfl (Nat.le_succ _))
  · exact refB B F X T hk ZB XB TB D hv N r TQs (C.can r.rok.len _) (fun U hU _ => C.hd U hU) hnb hus hr hdp hun fun h' tk' l' h₀' σ' V T' F' N' B' g r' TQ' K' => by
      obtain ⟨c1, c2, c3, c4, c5⟩ := C.get r.rok.keys g
      exact hret h' tk' l' _ (turn_nil T' F') (turn_news T' N') r' TQ' K' c1 c3 c4 c5
end
def NotCode (o : Obj) : Prop := ∀ vs q t, o.data = .fields vs → vs[1]? ≠ some (.str q t)
theorem TabInv.monoN {q : Str} {ps : Array Value} {led led' : List (Addr × Obj)} (h : TabInv q ps led) (hs : ∀ p ∈ led, ¬ NotCode p.2 → p ∈ led') : TabInv q ps led' :=
  ⟨h.1, fun pos v e => by obtain ⟨c', oc, vs, t, h1, h2, h3, h4⟩ := h.2 pos v e; exact ⟨c', oc, vs, t, h1, hs _ h2 (fun k => k vs q t h3 h4), h3, h4⟩⟩
theorem notCode_list {xs : Array Value} {n : Nat} : NotCode (listOf xs n) := fun vs q t e => by cases e
theorem notCode_lst {ys : List Value} : NotCode (LCg.lst ys) := fun vs q t e => by cases e
theorem notCode_cell {o : Obj} {v : Option Value} (h : o.data = .cell v) : NotCode o := fun vs q t e => by rw [h] at e; cases e
section
variable {prog : Program} {w : World} {I : Ids} {l l' : List (Addr × Obj)} {σ σ' : CSt} {c : Addr} {o o' : Obj}
/-- an object that is neither the cache's nor a table nor a code turns -/
theorem swap_one (r : Rep prog w I l σ) (T : Tabs I σ l) (hm : (c, o) ∈ codesOf I σ l) (hc : NotCode o) :
    Rep prog w I ((c, o') :: rem l [c]) σ ∧ Tabs I σ ((c, o') :: rem l [c]) ∧ (c, o') ∈ codesOf I σ ((c, o') :: rem l [c]) ∧ ∀ p ∈ codesOf I σ l, p.1 ≠ c → p ∈ codesOf I σ ((c, o') :: rem l [c]) := by
  obtain ⟨h1, h2, h3⟩ := mem_codes.mp hm
  have hin : ∀ p ∈ l, p.1 ≠ c → p ∈ (c, o') :: rem l [c] := fun p h z => .tail _ (rem1 h z)
  have hcd : ∀ p ∈ codesOf I σ l, p.1 ≠ c → p ∈ codesOf I σ ((c, o') :: rem l [c]) := fun p h z => by
    obtain ⟨k1, k2, k3⟩ := mem_codes.mp h
    exact mem_codes.mpr ⟨hin p k1 z, k2, k3⟩
  refine ⟨r.move (put_nodup (es := [_]) r.nd rfl (by simp)) fun p h z => hin p h (fun e => h2 (by rw [← e]; exact z)), ⟨T.off, fun x hx => ?_⟩, mem_codes.mpr ⟨.head _, h2, h3⟩, hcd⟩
  obtain ⟨ps, h, i⟩ := T.tab x hx
  refine ⟨ps, hin _ h (fun e => h3 (by show c ∈ TT; rw [← e]; exact TT_TQ x hx)), i.monoN fun p hp hn => hcd p hp fun e => hn ?_⟩
  have k1 := (mem_codes.mp hp).1
  have : p.2 = o := key_uniq r.nd (a := c) (o := p.2) (by rw [← e]; exact k1) h1
  rw [this]; exact hc
/-- a new object comes to the ledger's head -/
theorem push_one (r : Rep prog w I l σ) (T : Tabs I σ l) (hf : ∀ p ∈ l, p.1 ≠ c) : Rep prog w I ((c, o) :: l) σ ∧ Tabs I σ ((c, o) :: l) ∧ (c, o) ∈ codesOf I σ ((c, o) :: l) ∧ ∀ p ∈ codesOf I σ l, p ∈ codesOf I σ ((c, o) :: l) := by
  have hcd : ∀ p ∈ codesOf I σ l, p ∈ codesOf I σ ((c, o) :: l) := fun p h => by
    obtain ⟨k1, k2, k3⟩ := mem_codes.mp h
    exact mem_codes.mpr ⟨.tail _ k1, k2, k3⟩
  refine ⟨r.move ?_ fun p h _ => .tail _ h, ⟨T.off, fun x hx => ?_⟩, mem_codes.mpr ⟨.head _, fun h => ?_, fun h => ?_⟩, hcd⟩
  · rw [List.map_cons, List.nodup_cons]
    refine ⟨fun h => ?_, r.nd⟩
    obtain ⟨p, hp, e⟩ := List.mem_map.mp h
    exact hf p hp e
  · obtain ⟨ps, h, i⟩ := T.tab x hx
    exact ⟨ps, .tail _ h, i.mono hcd⟩
  · obtain ⟨o1, h1⟩ := r.mutKey h
    exact hf _ h1 rfl
  · obtain ⟨q, hq⟩ := TQ_TT _ h
    obtain ⟨_, h1, _⟩ := T.tab _ hq
    exact hf _ h1 rfl
/-- what is kept of a ledger -/
theorem sub_led (r : Rep prog w I l σ) (T : Tabs I σ l) (nd : (l'.map (·.1)).Nodup) (h1 : ∀ p ∈ l, p.1 ∈ mutOf I σ → p ∈ l') (h2 : ∀ p ∈ l, p.1 ∈ TT → p ∈ l') (h3 : ∀ p ∈ codesOf I σ l, ¬ NotCode p.2 → p ∈ l') : Rep prog w I l' σ ∧ Tabs I σ l' := by
  refine ⟨r.move nd h1, ⟨T.off, fun x hx => ?_⟩⟩
  obtain ⟨ps, h, i⟩ := T.tab x hx
  exact ⟨ps, h2 _ h (TT_TQ x hx), i.monoN fun p hp hn => mem_codes.mpr ⟨h3 p hp hn, (mem_codes.mp hp).2⟩⟩
end
/-- the law's state between two turns -/
structure LawSt (prog : Program) (w : World) (I : Ids) (c vw : Addr) (l : List (Addr × Obj)) (σ : CSt) (ws : List Value) (k : Nat) : Prop where
  rep : Rep prog w I l σ
  tabs : Tabs I σ l
  calm : Calm σ
  cell : ∃ o, (c, o) ∈ codesOf I σ l ∧ o.data = .cell (some (.ref I.cI))
  view : ∃ n, (vw, listOf ws.toArray n) ∈ codesOf I σ l
  len : ws.length = 6
  vals : ∀ i : Nat, i < 6 → ∃ t, ws[i]? = some (.bytes ((σ.lat (i : Int)).getD zeros4) t)
  nb : σ.nb ≤ 3 * k
  us : σ.us.size ≤ k
section
variable {prog : Program} {w : World} {p : Program} {loose : List Str} {mean : ExcName → Option Value} {mg mb : Str → Option Value} {dp un : Nat} {gd : Option (List Code)} {cn : Str} {cs : Scope} {a : Addr} {ccd : Value} {cl : List (Str × Addr)} {outer : List Env} {A₀ : Around} {base h₀ : Heap} {L : Addr} {m : Str → Option Value} {s : Shared} {Q E : Value → Shared → Prop} {l nw : List (Addr × Obj)} {I : Ids} {σ : CSt}
  (B : Below A₀ base outer h₀) (F : Fr h₀ L s.heap m) (X : (Mine.hd.heap_1 w.params).In h₀) (T : Top p loose mean mg mb h₀) (hk : cs.kind = .function)
include B F X T hk
theorem readR {k : Int} {kt : Tok} (N : News h₀ L s.heap nw) (r : Rep prog w I l σ) (hs : ∀ q ∈ l, q ∈ nw) (hk0 : 0 ≤ k) (hk6 : k < 6) (hdp : dp + 2 < 500) (hun : un + 16 < 5000)
  (hret : ∀ h' tk' t, Fr h₀ L h' m → News h₀ L h' nw → Q (.bytes ((σ.lat k).getD zeros4) t) { s with heap := h', toks := tk' }) :
   wpAny (model prog w) (ktrTop dp un gd cn cs L a ccd cl outer) (call (.ref 343) [.ref I.kI, .int k kt]) Q E s := by
  obtain ⟨tk, mkD⟩ := r.mkD
  obtain ⟨ol, lvs, ml, dl, ll, vl⟩ := r.mlt
  have hv := vl k
  cases e : σ.lat k with
  | none =>
    rw [e] at hv hret
    refine disk_read_ok B F X T hk N (hs _ r.mkI) (hs _ mkD) (hs _ ml) dl r.low2 hk0 hk6 hv hdp hun fun h' tk' t F' N' => ?_
    exact hret h' tk' t F' N'
  | some d =>
    rw [e] at hv hret
    obtain ⟨t, hv⟩ := hv
    refine disk_read_ok B F X T hk N (hs _ r.mkI) (hs _ mkD) (hs _ ml) dl r.low2 hk0 hk6 hv hdp hun fun h' tk' _ F' N' => ?_
    exact hret h' tk' t F' N'
end
def nthS (n : Nat) (b : List Stmt) : Stmt := match n, b with
  | 0, x :: _ => x
  | n + 1, _ :: r => nthS n r
  | _, _ => .Pass ⟨0, 0, 0, 0⟩
def forB : Stmt → List Stmt
  | .For _ _ lb _ _ => lb
  | _ => []
def tupE : Stmt → Expr
  | .Assign _ (.Tuple [_, e] _ _) _ => e
  | _ => .Constant (.int 0) 0 ⟨0, 0, 0, 0⟩
/-- the law's text, told by its address -/
theorem law_eq {K : Frag} {α : Type} {oc dV kV doc pm cdv ct oc' dV' kV' doc' pm' cdv' ct' : Value} {an od an' od' : Option Addr} {osl osl' : Array (Option Value)} {nm qual nm' qual' : Str} {params params' : Arguments} {body body' : List Stmt} {cs cs' : Scope} (f : List Stmt → α) {x : α}
    (ho : K.lookup 453 = some ⟨oc, od, .func (fnOf nm qual params body cs dV kV doc pm an cdv ct), osl⟩) (h' : K.lookup 453 = some ⟨oc', od', .func (fnOf nm' qual' params' body' cs' dV' kV' doc' pm' an' cdv' ct'), osl'⟩) (hx : f body = x) : x = f body' ∧ cs = cs' := by
  have e := Option.some.inj (ho.symm.trans h')
  cases e
  exact ⟨hx.symm, rfl⟩
theorem law_at {P R : Prop} (h : P) (k : P → R) : R := k h
local macro_rules | `(tactic| walk_at "eval Name") => `(tactic| (k_dflt (refine' nameX_L (by k_asm) (by assumption) ?_ (by walk_at "r") (by exact rfl) (by decide))))
local macro_rules | `(tactic| walk_at "eval Name") => `(tactic| (k_dflt (refine' nameX_C (by k_asm) (by assumption) (by first | assumption | k_mem) (by assumption) ?_ (by walk_at "r") (by exact rfl) (by decide))))
section
variable {prog : Program} {w : World} {A : Around} {E : Value → Shared → Prop} {s : Shared} {h₀ : Heap} {L D : Addr} {m : Str → Option Value} {news news' : List (Addr × Obj)} {ws : List Value} {n : Nat} {k : Int} {t u : Tok} {x : Value}
theorem set_any {Q : Unit → Shared → Prop} (F : Fr h₀ L s.heap m) (N : News h₀ L s.heap news) (U : Upd D (listOf ws.toArray n) (listOf (ws.set k.toNat x).toArray n) news news') (h0 : 0 ≤ k) (h1 : k < ws.length) (hfit : k < 2 ^ 63)
    (h : ∀ h', Fr h₀ L h' m → News h₀ L h' news' → Q () { s with heap := h' }) : wpAny (model prog w) A (setItem (.ref D) (.int k t) x) Q E s := by
  obtain ⟨pre, post, rfl, rfl, a, b⟩ := U.split
  have z := N (D, listOf ws.toArray n) (List.mem_append.mpr (.inr (.head _)))
  have hs : ws.toArray.size = ws.length := List.size_toArray
  have hj : k.toNat < ws.length := by omega
  refine ki_setAt z.1 h0 hfit (by omega) (h _ (F.change (Heap.SameBut.update ..) z.2.1 z.2.2) (ki_turn _ N a b ?_ ?_))
  · show ws.toArray.setIfInBounds k.toNat x = (ws.set k.toNat x).toArray
    apply Array.toList_inj.mp
    simp
  · simp
theorem sub_view {value slice : PySem.Expr} {Q : Value → Shared → Prop} (N : News h₀ L s.heap news) (hm : (D, listOf ws.toArray n) ∈ news) (h0 : 0 ≤ k) (hfit : k < 2 ^ 63) (hx : ws[k.toNat]? = some x) (h : Q x s)
    (hs : subscripted slice false (.ref D) (.int k u) = operate [.ref D, .int k u] (getItem (.ref D) (.int k u)) := by with_unfolding_all rfl) : wpAny (model prog w) A (subscriptTail value slice (.ref D) (.int k u)) Q E s :=
  have hl := PySem.IsL.isList (n := n) (N _ hm).1
  tail_any hl.typeIs slot_list_getitem.lookup (wpAny_getItem_list hl h0 hfit (by simpa using hx) h) hs
end
theorem swap_view {prog : Program} {w : World} {I : Ids} {l : List (Addr × Obj)} {σ : CSt} {h₀ h : Heap} {L D : Addr} {ws : List Value} {n j : Nat} {x : Value} (N : News h₀ L h ((D, listOf (ws.set j x).toArray n) :: rem l [D])) (r : Rep prog w I l σ) (T : Tabs I σ l) (hm : (D, listOf ws.toArray n) ∈ codesOf I σ l) (hj : j < ws.length) :
    ∃ (l2 : List (Addr × Obj)) (ws2 : List Value), News h₀ L h l2 ∧ Rep prog w I l2 σ ∧ Tabs I σ l2 ∧ (D, listOf ws2.toArray n) ∈ codesOf I σ l2 ∧ (∀ p ∈ codesOf I σ l, p.1 ≠ D → p ∈ codesOf I σ l2) ∧ ws2.length = ws.length ∧ ws2[j]? = some x ∧ ∀ i, i ≠ j → ws2[i]? = ws[i]? :=
  have z := swap_one (o' := listOf (ws.set j x).toArray n) r T hm notCode_list
  ⟨_, ws.set j x, N, z.1, z.2.1, z.2.2.1, z.2.2.2, by simp, by simp [hj], fun i hi => by simp [Ne.symm hi]⟩
local macro_rules | `(tactic| walk_at "subscriptTail") => `(tactic| ((with_reducible show wpAny _ _ (subscriptTail _ _ (Value.ref _) (Value.int _ _)) _ _ _); k_dflt (refine' sub_view (by k_asm) (by k_mem) (by walk_at "o") (by first | exact Int.lt_trans (by assumption) (by decide) | omega) (by assumption) ?_ (by with_unfolding_all rfl); k_whole)))
section
variable {prog : Program} {w : World} {p : Program} {loose : List Str} {mean : ExcName → Option Value} {mg mb : Str → Option Value} {dp un : Nat} {gd : Option (List Code)} {cn : Str} {cs : Scope} {a : Addr} {ccd : Value} {cl : List (Str × Addr)} {A₀ : Around} {base h₀ : Heap} {L : Addr} {m : Str → Option Value} {s : Shared} {l : List (Addr × Obj)} {I : Ids} {σ : CSt} {c vw : Addr} {ws : List Value} {k : Nat}
  {oc dV kV doc pm cdv ct : Value} {an od : Option Addr} {osl : Array (Option Value)} {nm qual : Str} {params : Arguments} {body lb oe rest : List Stmt} {st0 st1 : Stmt} {tgt iter : Expr} {fpos : Pos}
  (B : Below A₀ base [] h₀) (F : Fr h₀ L s.heap m) (X : (Mine.hd.heap_1 w.params).In h₀) (T : Top p loose mean mg mb h₀) (ZB : base.get? 0 = some (zO w)) (XB : (Mine.hd.heap_1 w.params).In base) (TB : Top p loose mean mg mb base)
  (ho : (Mine.hd.heap_1 w.params).lookup 453 = some ⟨oc, od, .func (fnOf nm qual params body cs dV kV doc pm an cdv ct), osl⟩) (hb : body = st0 :: st1 :: .For tgt iter lb oe fpos :: rest)
include B F X T ZB XB TB ho hb
theorem turnL {n : Int} {nt : Tok} (N : News h₀ L s.heap l) (S : LawSt prog w I c vw l σ ws k) (hk : k < 16) (hn : 0 ≤ n) (hcl : cl.lookup (Str.ofString "cache") = some c) (hvn : m "n" = some (.int n nt)) (hvv : m "view" = some (.ref vw)) (hdp : dp + 50 < 500) (hun : un + 500 < 4000) :
   wpD (model prog w) (ktrTop dp un gd cn cs L a ccd cl []) (execs lb (envX cn cs L a ccd cl))
     (fun f s' => f = .next ∧ ∃ h' tk' l' σ' ws', s' = { s with heap := h', toks := tk' } ∧ Fr h₀ L h' m ∧ News h₀ L h' l' ∧ LawSt prog w I c vw l' σ' ws' (k + 1) ∧ ∀ q ∈ codesOf I σ l, q.1 ≠ vw → q ∈ codesOf I σ' l') (fun _ _ => False) s := by
  refine' law_at ?h1 fun hL => ?_
  case h1 => exact (show (Mine.hd.heap_1 w.params).lookup 453 = some ⟨_, _, .func (fnOf _ _ _ _ _ _ _ _ _ _ _ _), _⟩ from by k_is)
  have E := law_eq (x := lb) (fun b => forB (nthS 2 b)) ho hL (congrArg (fun b => forB (nthS 2 b)) hb)
  clear ho hb
  have E1 := E.1
  have E2 := E.2
  clear E
  subst E1 E2
  dsimp only [nthS, forB, tupE, List.tail_cons]
  obtain ⟨r, TQs, C, ⟨ocl, mcl, dcl⟩, ⟨vn, mvw⟩, hlen, hvals, hnb, hus⟩ := S
  have mc1 := (mem_codes.mp mcl).1
  have q8 := fm n 8 (by decide)
  have q6 := fm n 6 (by decide)
  have q251 := fm n 251 (by decide)
  have ⟨k0, k6⟩ := q6
  have kl : n.fmod 6 < ws.length := by rw [hlen]; exact k6
  refine wpD_execs_cons (wpD_If (wpD_isTrue_Not (wpD_isTrue_Call (wpD_nameCall ?_))))
  k_steps
  k_dflt (refine' callWith_KD ?k1 ?k2 ?_; (case k1 => k_asm); (case k2 => k_is); k_whole)
  k_steps
  k_dflt (refine' refAll ?kB ?kF ?kX ?kT ?kk ZB XB TB ?v0 ?v8 ?kN r TQs C ?nb ?us ?hr ?hdp ?hun ?_; (case kN => k_asm); (case v0 => exact Int.fmod_nonneg_of_pos n (by decide)); (case v8 => exact Int.fmod_lt_of_pos n (by decide)); (case nb => omega); (case us => omega); (case hr => exact Int.fdiv_nonneg hn (by decide)); ((case kB => k_asm); (case kF => k_asm); (case kX => assumption); (case kT => assumption); (case kk => walk_at "r"); (try (case kN => k_asm)); (try (case kh => walk_at "mem_sub")); (case hdp => walk_at "h"); (case hun => walk_at "h")))
  intro h1 tk1 l1 σ1 F1 N1 r1 TQ1 K1 C1 e1 e2 e3
  have mcl1 := K1 _ mcl
  have mvw1 := K1 _ mvw
  have mc2 := (mem_codes.mp mcl1).1
  have mv2 := (mem_codes.mp mvw1).1
  k_steps
  refine wpD_execs_nil ?_
  dsimp only
  refine execs_nextD ?_
  k_steps
  k_dflt (refine' set_any ?F ?N ?U ?h0 ?h1 ?hf ?_; (case F => k_asm); (case N => exact newsPut1 (newsTail (by k_asm)) mv2); (case U => exact .head (fun p h => by simpa using (mem_rem.mp h).2)); (case h0 => exact k0); (case h1 => exact kl); (case hf => exact Int.lt_trans k6 (by decide)))
  intro h2 F2 N2
  generalize hbt : (n.fmod 251).toNat.toUInt8 = bt at N2
  generalize hdat : (#[bt, bt, bt, bt] : Array UInt8) = dat at N2
  have hdz : dat.size = 4 := by rw [← hdat]; rfl
  obtain ⟨l2, ws2, N2, r2, TQ2, mvw2, K2, hlen2, hx2, hxo⟩ := swap_view N2 r1 TQ1 mvw1 (by omega)
  have hx4 : ∃ t, ws2[(n.fmod 6).toNat]? = some (.bytes dat t) := ⟨_, hx2⟩
  have nvc : c ≠ vw := fun e => by
    have e1 := key_uniq r1.nd mc2 (show (c, listOf ws.toArray vn) ∈ l1 by rw [e]; exact mv2)
    rw [e1] at dcl; cases dcl
  have mcl2 := K2 _ mcl1 nvc
  have mc3 := (mem_codes.mp mcl2).1
  have mv3 := (mem_codes.mp mvw2).1
  have mcI := r2.mcI
  obtain ⟨tc2, mcD⟩ := r2.mcD
  clear mc2 mv2
  dsimp only
  refine wpD_execs_cons (wpD_Expr (wpD_methodCall ?_ rfl) rfl rfl)
  k_steps
  k_dflt (refine' callWith_KD ?k1 ?k2 ?_; (case k1 => k_asm); (case k2 => k_is); k_whole)
  k_steps
  k_dflt (refine' pokeR ?kB ?kF ?kX ?kT ?kk ?kN r2 (C1.can r2.rok.len _) ?k0 ?k6 ?nb (fun U hU _ => C1.hd U hU) ?us hdz ?hdp ?hun ?_; (case kN => k_asm); (case k0 => exact k0); (case k6 => exact k6); (case nb => omega); (case us => rw [e2]; omega); ((case kB => k_asm); (case kF => k_asm); (case kX => assumption); (case kT => assumption); (case kk => walk_at "r"); (try (case kN => k_asm)); (try (case kh => walk_at "mem_sub")); (case hdp => walk_at "h"); (case hun => walk_at "h")))
  intro h3 tk3 l3 σ3 F3 N3 g3 r3 K3
  obtain ⟨C3, lat3, us3, nb3⟩ := C1.poke r2.rok.keys g3
  have TQ3 := TQ2.keep K3
  have mcl3 := K3.t _ mcl2
  have mvw3 := K3.t _ mvw2
  have mc4 := (mem_codes.mp mcl3).1
  have mv4 := (mem_codes.mp mvw3).1
  clear mc3 mv3 mcI mcD
  have mcI := r3.mcI
  obtain ⟨tc3, mcD⟩ := r3.mcD
  refine ⟨(fun a e => nomatch e), ?_⟩
  dsimp only
  refine wpD_execs_cons (wpD_If (wpD_isTrue_Or2 (wpD_isTrue_Compare1 (wpD_methodCall ?_ rfl))))
  k_steps
  k_dflt (refine' callWith_KD ?k1 ?k2 ?_; (case k1 => k_asm); (case k2 => k_is); k_whole)
  k_steps
  k_dflt (refine' peekR ?kB ?kF ?kX ?kT ?kk ?kN r3 (C3.can r3.rok.len _) ?k0 ?k6 ?nb (fun U hU _ => C3.hd U hU) ?hdp ?hun ?_; (case kN => k_asm); (case k0 => exact k0); (case k6 => exact k6); (case nb => omega); ((case kB => k_asm); (case kF => k_asm); (case kX => assumption); (case kT => assumption); (case kk => walk_at "r"); (try (case kN => k_asm)); (try (case kh => walk_at "mem_sub")); (case hdp => walk_at "h"); (case hun => walk_at "h")))
  intro h4 tk4 l4 σ4 V4 t4 F4 N4 g4 r4 K4
  obtain ⟨C4, d4, lat4, us4, nb4⟩ := C3.get r3.rok.keys g4
  have TQ4 := TQ3.keep K4
  have mcl4 := K4.t _ mcl3
  have mvw4 := K4.t _ mvw3
  have mc5 := (mem_codes.mp mcl4).1
  have mv5 := (mem_codes.mp mvw4).1
  clear mc4 mv4 mcI mcD
  have mcI := r4.mcI
  obtain ⟨tc4, mcD⟩ := r4.mcD
  have mkI := r4.mkI
  have hlat3 : σ3.lat (n.fmod 6) = some dat := by rw [lat3, if_pos rfl]
  rw [hlat3] at d4
  rw [d4]
  dsimp only [Option.getD]
  k_steps
  any_goals (exfalso; rename_i qb; rw [bne_self_eq_false] at qb; cases qb; done)
  refine wpD_any ?_
  obtain ⟨tkk, mkD⟩ := r4.mkD
  k_steps
  k_dflt (refine' readR ?kB ?kF ?kX ?kT ?kk ?kN r4 (fun _ h => h) ?k0 ?k6 ?hdp ?hun ?_; (case kN => k_asm); (case k0 => exact k0); (case k6 => exact k6); ((case kB => k_asm); (case kF => k_asm); (case kX => assumption); (case kT => assumption); (case kk => walk_at "r"); (try (case kN => k_asm)); (try (case kh => walk_at "mem_sub")); (case hdp => walk_at "h"); (case hun => walk_at "h")))
  intro h5 tk5 t5 F5 N5
  rw [lat4, hlat3]
  dsimp only [Option.getD]
  k_steps
  refine wpD_execs_nil ?_
  dsimp only
  refine wpD_execs_nil ?_
  refine ⟨rfl, _, _, l4, σ4.rel V4, ws2, rfl, by k_asm, by k_asm, ⟨r4, TQ4, C4, ⟨ocl, mcl4, dcl⟩, ⟨vn, mvw4⟩, by omega, fun i hi => ?_, ?_, ?_⟩, fun q hq hne => K4.t _ (K3.t _ (K2 _ (K1 _ hq) hne))⟩
  · rw [lat4, lat3, e1]
    by_cases e : (i : Int) = n.fmod 6
    · rw [if_pos e]
      obtain ⟨t, ht⟩ := hx4
      exact ⟨t, by rw [show i = (n.fmod 6).toNat by omega]; exact ht⟩
    · rw [if_neg e]
      obtain ⟨t, ht⟩ := hvals i hi
      exact ⟨t, by rw [hxo i (by omega)]; exact ht⟩
  · omega
  · rw [us4, us3, e2]; omega
end
section
variable {prog : Program} {w : World} {I : Ids} {l : List (Addr × Obj)} {σ : CSt} {c vw d : Addr} {o o' : Obj} {ws : List Value} {k : Nat}
theorem codes_ne (r : Rep prog w I l σ) {a b : Addr} (h1 : (a, o) ∈ codesOf I σ l) (h2 : (b, o') ∈ codesOf I σ l) (hne : o.data ≠ o'.data) : a ≠ b := fun e => by
  subst e
  exact hne (congrArg Obj.data (key_uniq r.nd (mem_codes.mp h1).1 (mem_codes.mp h2).1))
theorem LawSt.swap (S : LawSt prog w I c vw l σ ws k) (hm : (d, o) ∈ codesOf I σ l) (hc : NotCode o) (h1 : c ≠ d) (h2 : vw ≠ d) : LawSt prog w I c vw ((d, o') :: rem l [d]) σ ws k ∧ (d, o') ∈ codesOf I σ ((d, o') :: rem l [d]) ∧ ∀ p ∈ codesOf I σ l, p.1 ≠ d → p ∈ codesOf I σ ((d, o') :: rem l [d]) := by
  obtain ⟨r, T, m, K⟩ := swap_one (o' := o') S.rep S.tabs hm hc
  obtain ⟨oc, mc, dc⟩ := S.cell
  obtain ⟨n, mv⟩ := S.view
  exact ⟨⟨r, T, S.calm, ⟨oc, K _ mc h1, dc⟩, ⟨n, K _ mv h2⟩, S.len, S.vals, S.nb, S.us⟩, m, K⟩
theorem LawSt.push (S : LawSt prog w I c vw l σ ws k) (hf : ∀ p ∈ l, p.1 ≠ d) : LawSt prog w I c vw ((d, o) :: l) σ ws k ∧ (d, o) ∈ codesOf I σ ((d, o) :: l) ∧ ∀ p ∈ codesOf I σ l, p ∈ codesOf I σ ((d, o) :: l) := by
  obtain ⟨r, T, m, K⟩ := push_one (o := o) S.rep S.tabs hf
  obtain ⟨oc, mc, dc⟩ := S.cell
  obtain ⟨n, mv⟩ := S.view
  exact ⟨⟨r, T, S.calm, ⟨oc, K _ mc, dc⟩, ⟨n, K _ mv⟩, S.len, S.vals, S.nb, S.us⟩, m, K⟩
theorem LawSt.drop (S : LawSt prog w I c vw l σ ws k) (hm : (d, o) ∈ codesOf I σ l) (hc : NotCode o) (h1 : c ≠ d) (h2 : vw ≠ d) : LawSt prog w I c vw (rem l [d]) σ ws k := by
  obtain ⟨k1, k2, k3⟩ := mem_codes.mp hm
  have hin : ∀ p ∈ l, p.1 ≠ d → p ∈ rem l [d] := fun p h z => rem1 h z
  have hcd : ∀ p ∈ codesOf I σ l, p.1 ≠ d → p ∈ codesOf I σ (rem l [d]) := fun p h z => by
    obtain ⟨q1, q2, q3⟩ := mem_codes.mp h
    exact mem_codes.mpr ⟨hin p q1 z, q2, q3⟩
  obtain ⟨r, T⟩ := sub_led (l' := rem l [d]) S.rep S.tabs (rem_nodup S.rep.nd) (fun p hp h => hin p hp fun e => k2 (by rw [← e]; exact h)) (fun p hp h => hin p hp fun e => k3 (by show d ∈ TT; rw [← e]; exact h))
    (fun p hp h => hin p (mem_codes.mp hp).1 fun e => h (by
      have : p.2 = o := key_uniq S.rep.nd (a := d) (o := p.2) (by rw [← e]; exact (mem_codes.mp hp).1) k1
      rw [this]; exact hc))
  obtain ⟨oc, mc, dc⟩ := S.cell
  obtain ⟨n, mv⟩ := S.view
  exact ⟨r, T, S.calm, ⟨oc, hcd _ mc h1, dc⟩, ⟨n, hcd _ mv h2⟩, S.len, S.vals, S.nb, S.us⟩
end
theorem notCode_iter {o : Obj} {mk : Addr} {i : Nat} (h : o.data = .fields #[.ref mk, .int i 0]) : NotCode o := fun vs q t e e2 => by
  rw [h] at e; cases e
  have e2 : some (Value.int i 0) = some (Value.str q t) := e2
  cases e2
theorem fr_same {h₀ h h' : Heap} {L d : Addr} {m : Str → Option Value} {l : List (Addr × Obj)} {o : Obj} (F : Fr h₀ L h m) (N : News h₀ L h l) (hm : (d, o) ∈ l) (hs : ∀ b o, b ≠ d → h.get? b = some o → h'.get? b = some o) : Fr h₀ L h' m :=
  ⟨F.ns.at' fun o' e => hs _ _ (Ne.symm (N _ hm).2.1) e, fun b o' e => hs b o' (fun q => by rw [q, (N _ hm).2.2] at e; cases e) (F.keep b o' e), F.above⟩
theorem news_same {h₀ h h' : Heap} {L d : Addr} {l : List (Addr × Obj)} {o : Obj} (N : News h₀ L h l) (hm : (d, o) ∈ l) (hs : ∀ b o, b ≠ d → h.get? b = some o → h'.get? b = some o) {o' : Obj} (ho : h'.get? d = some o') : News h₀ L h' ((d, o') :: rem l [d]) := fun p hp => by
  rcases List.mem_cons.mp hp with rfl | hp
  · exact ⟨ho, (N _ hm).2⟩
  · have := mem_rem.mp hp
    exact ⟨hs _ _ (by simpa using this.2) (N p this.1).1, (N p this.1).2⟩
theorem news_rem {h₀ h h' : Heap} {L d : Addr} {l : List (Addr × Obj)} (N : News h₀ L h l) (hs : ∀ b o, b ≠ d → h.get? b = some o → h'.get? b = some o) : News h₀ L h' (rem l [d]) := fun p hp => by
  have := mem_rem.mp hp
  exact ⟨hs _ _ (by simpa using this.2) (N p this.1).1, (N p this.1).2⟩
inductive ForI (prog : Program) (w : World) (I : Ids) (c vw mk It : Addr) (h₀ : Heap) (L : Addr) (ks : List Value) (kn : Nat) (marks : List Int) (s : Shared) : Nat → Shared → Prop
  | mk {h : Heap} {tk i : Nat} {l : List (Addr × Obj)} {σ : CSt} {ws : List Value} {m' : Str → Option Value} {oi : Obj} (hil : i ≤ marks.length) (F : Fr h₀ L h m') (N : News h₀ L h l) (S : LawSt prog w I c vw l σ ws i) (mk2 : (mk, listOf ks.toArray kn) ∈ codesOf I σ l) (mi2 : (It, oi) ∈ codesOf I σ l)
    (ci : oi.cls = .type "list_iterator") (di : oi.data = .fields #[.ref mk, .int i 0]) (hv : m' "view" = some (.ref vw)) : ForI prog w I c vw mk It h₀ L ks kn marks s (marks.length + 1 - i) { s with heap := h, toks := tk }
section
variable {prog : Program} {w : World} {p : Program} {loose : List Str} {mean : ExcName → Option Value} {mg mb : Str → Option Value} {dp un : Nat} {gd : Option (List Code)} {cn : Str} {cs : Scope} {a : Addr} {ccd : Value} {cl : List (Str × Addr)} {A₀ : Around} {base h₀ : Heap} {L : Addr} {m : Str → Option Value} {s : Shared} {l : List (Addr × Obj)} {I : Ids} {σ : CSt} {c vw mk : Addr} {ws : List Value}
  {oc dV kV doc pm cdv ct : Value} {an od : Option Addr} {osl : Array (Option Value)} {nm qual : Str} {params : Arguments} {body lb oe rest : List Stmt} {st0 st1 : Stmt} {tgt iter : Expr} {fpos : Pos} {Q : Flow → Shared → Prop}
  (B : Below A₀ base [] h₀) (F : Fr h₀ L s.heap m) (X : (Mine.hd.heap_1 w.params).In h₀) (T : Top p loose mean mg mb h₀) (ZB : base.get? 0 = some (zO w)) (XB : (Mine.hd.heap_1 w.params).In base) (TB : Top p loose mean mg mb base)
  (ho : (Mine.hd.heap_1 w.params).lookup 453 = some ⟨oc, od, .func (fnOf nm qual params body cs dV kV doc pm an cdv ct), osl⟩) (hb : body = st0 :: st1 :: .For tgt iter lb oe fpos :: rest)
include B F X T ZB XB TB ho hb
theorem loopL {ks : List Value} {marks : List Int} {kn : Nat} (N : News h₀ L s.heap l) (S : LawSt prog w I c vw l σ ws 0) (mmk : (mk, listOf ks.toArray kn) ∈ codesOf I σ l) (hmv : mk ≠ vw) (hi : IntsAre ks marks) (hpos : ∀ n ∈ marks, 0 ≤ n) (hlen : marks.length ≤ 16)
    (hcl : cl.lookup (Str.ofString "cache") = some c) (hvm : m "marks" = some (.ref mk)) (hvv : m "view" = some (.ref vw)) (hdp : dp + 50 < 500) (hun : un + 500 < 4000)
    (hret : ∀ h' tk' l' σ' ws' m', Fr h₀ L h' m' → News h₀ L h' l' → LawSt prog w I c vw l' σ' ws' 16 → m' "view" = some (.ref vw) → Q .next { s with heap := h', toks := tk' }) :
   wpD (model prog w) (ktrTop dp un gd cn cs L a ccd cl []) (exec (.For tgt iter lb oe fpos) (envX cn cs L a ccd cl)) Q (fun _ _ => False) s := by
  generalize Stmt.For tgt iter lb oe fpos = st2 at hb ⊢
  refine' law_at ?h1 fun hL => ?_
  case h1 => exact (show (Mine.hd.heap_1 w.params).lookup 453 = some ⟨_, _, .func (fnOf _ _ _ _ _ _ _ _ _ _ _ _), _⟩ from by k_is)
  have E := law_eq (x := st2) (fun b => nthS 2 b) ho hL (congrArg (fun b => nthS 2 b) hb)
  clear ho hb
  have E1 := E.1
  have E2 := E.2
  clear E
  subst E1 E2
  dsimp only [nthS, forB, tupE, List.tail_cons]
  refine wpD_For ?_
  k_steps
  have hl := N.isList (mem_codes.mp mmk).1
  refine wpAny_pyIter_list hl ?_
  have F1 := F.push { cls := .type "list_iterator", data := .fields #[.ref mk, .int 0 0] }
  have N1 := News.push F N { cls := .type "list_iterator", data := .fields #[.ref mk, .int 0 0] }
  obtain ⟨S1, mi1, K1⟩ := S.push (d := s.heap.objs.size) (o := { cls := .type "list_iterator", data := .fields #[.ref mk, .int 0 0] }) fun q hq => Nat.ne_of_lt (Heap.lt_size (N q hq).1)
  generalize hIt : s.heap.objs.size = It at N1 S1 mi1 K1 ⊢
  refine codeD_forLoop (ForI prog w I c vw mk It h₀ L ks kn marks s) ?_ (marks.length + 1) (.mk (i := 0) (Nat.zero_le _) F1 N1 S1 (K1 _ mmk) mi1 rfl rfl hvv)
  rintro j s' @⟨h, tk, i, l, σ, ws, m', oi, hil, F2, N2, S2, mk2, mi2, ci, di, hv2⟩
  have hiv : It ≠ vw := by
    obtain ⟨n, mv⟩ := S2.view
    exact codes_ne S2.rep mi2 mv (by rw [di]; intro e; cases e)
  have hic : c ≠ It := by
    obtain ⟨o, mc, dc⟩ := S2.cell
    exact codes_ne S2.rep mc mi2 (by rw [di, dc]; intro e; cases e)
  have him : mk ≠ It := codes_ne S2.rep mk2 mi2 (by rw [di]; intro e; cases e)
  have hit : h.IsListIter It mk i := ⟨oi, (N2 _ (mem_codes.mp mi2).1).1, ci, di⟩
  have hl2 : h.IsList mk ks.toArray := N2.isList (mem_codes.mp mk2).1
  by_cases hlt : i < marks.length
  · obtain ⟨t, hx⟩ := hi.get i marks[i] (by simp [hlt])
    refine wpAny_pyNext_list_item hit hl2 (x := .int marks[i] t) (by simpa using hx) fun h' hit' hs' => ?_
    obtain ⟨o', ho', co', do'⟩ := hit'
    have up : ∀ b o, b ≠ It → h.get? b = some o → h'.get? b = some o := fun b o hb e => (hs'.2 b hb).trans e
    have F3 := fr_same F2 N2 (mem_codes.mp mi2).1 up
    have N3 := news_same N2 (mem_codes.mp mi2).1 up ho'
    obtain ⟨S3, mi3, K3⟩ := S2.swap (o' := o') mi2 (notCode_iter di) hic (Ne.symm hiv)
    dsimp only
    refine storeX_L F3 N3 fun h4 F4 N4 => ?_
    refine wpD_mono (turnL B F4 X T ZB XB TB hL rfl (n := marks[i]) (nt := t) N4 S3 (by omega) (hpos _ (List.getElem_mem _)) hcl (by show (if _ then _ else _) = _; rw [if_pos rfl]) (by show (if _ then _ else _) = _; rw [if_neg (by decide)]; exact hv2) hdp hun) (fun f s5 h5 => ?_) fun _ _ e => e
    obtain ⟨rfl, h5, tk5, l5, σ5, ws5, rfl, F5, N5, S5, K5⟩ := h5
    exact ⟨marks.length + 1 - (i + 1), by omega, .mk (i := i + 1) hlt F5 N5 S5 (K5 _ (K3 _ mk2 him) hmv) (K5 _ mi3 hiv) co' do' (by show (if _ then _ else _) = _; rw [if_neg (by decide)]; exact hv2)⟩
  · have e : i = marks.length := by omega
    have hks : ks.length = marks.length := hi.length
    refine wpAny_pyNext_list_end rfl hit hl2 (by simp; omega) fun h' hs' => ?_
    have up : ∀ b o, b ≠ It → h.get? b = some o → h'.get? b = some o := fun b o hb e => hs' b o hb e
    have S3 := S2.drop mi2 (notCode_iter di) hic (Ne.symm hiv)
    refine wpD_execs_nil (hret _ _ _ _ _ _ (fr_same F2 N2 (mem_codes.mp mi2).1 up) (news_rem N2 up) ⟨S3.rep, S3.tabs, S3.calm, S3.cell, S3.view, S3.len, S3.vals, ?_, ?_⟩ hv2)
    · have := S3.nb; omega
    · have := S3.us; omega
end
/-- some buffers are held, the others free; each says what the disk would say -/
structure Held (σ : CSt) (hs : List Buf) : Prop where
  mem : ∀ U ∈ hs, U ∈ σ.row ∧ U.hd = 1
  oth : ∀ U ∈ σ.row, U ∈ hs ∨ U.hd = 0
  dat : ∀ U ∈ σ.row, U.data = (σ.lat U.k).getD zeros4
theorem Calm.held {σ : CSt} (c : Calm σ) : Held σ [] := ⟨(fun _ h => nomatch h), fun U hU => .inr (c.hd U hU), c.dat⟩
theorem Held.one {σ : CSt} {hs : List Buf} (H : Held σ hs) {U : Buf} (h : U ∈ σ.row) : U.hd = 1 ∨ U.hd = 0 := (H.oth U h).elim (fun q => .inl (H.mem U q).2) .inr
theorem Held.free {σ : CSt} {hs : List Buf} (H : Held σ hs) {U : Buf} (h : U ∈ σ.row) (e : U.hd = 1) : U ∈ hs := (H.oth U h).elim id fun q => by rw [e] at q; exact absurd q (by decide)
theorem Held.can {σ : CSt} {hs : List Buf} (H : Held σ hs) (hl : σ.row.length ≤ 3) (hn : (σ.row.map (·.k)).Nodup) (hh : hs.length < 3) (k : Int) : CanGet σ k := by
  rcases hr : σ.row with _ | ⟨B1, _ | ⟨B2, _ | ⟨B3, _ | ⟨B4, tl⟩⟩⟩⟩
  · exact .inr ⟨[], .inl ⟨by rw [hr]; simp, hr.symm⟩⟩
  · exact .inr ⟨[B1], .inl ⟨by rw [hr]; simp, hr.symm⟩⟩
  · exact .inr ⟨[B1, B2], .inl ⟨by rw [hr]; simp, hr.symm⟩⟩
  · have m1 : B1 ∈ σ.row := by rw [hr]; exact .head _
    have m2 : B2 ∈ σ.row := by rw [hr]; exact .tail _ (.head _)
    have m3 : B3 ∈ σ.row := by rw [hr]; exact .tail _ (.tail _ (.head _))
    rcases H.one m1 with a1 | a1
    · rcases H.one m2 with a2 | a2
      · rcases H.one m3 with a3 | a3
        · exfalso
          have h1 := H.free m1 a1; have h2 := H.free m2 a2; have h3 := H.free m3 a3
          have := hn; rw [hr] at this
          simp only [List.map_cons, List.map_nil, List.nodup_cons, List.mem_cons, List.not_mem_nil, or_false, not_or] at this
          obtain ⟨⟨n1, n2⟩, n3, _⟩ := this
          rcases hs with _ | ⟨a, _ | ⟨b, _ | ⟨c, tl⟩⟩⟩
          · exact nomatch h1
          · simp only [List.mem_cons, List.not_mem_nil, or_false] at h1 h2; exact n1 (by rw [h1, h2])
          · simp only [List.mem_cons, List.not_mem_nil, or_false] at h1 h2 h3
            rcases h1 with h1 | h1 <;> rcases h2 with h2 | h2 <;> rcases h3 with h3 | h3 <;> (rw [h1, h2] at n1; rw [h1, h3] at n2; rw [h2, h3] at n3; first | exact n1 rfl | exact n2 rfl | exact n3 rfl)
          · simp at hh; omega
        · exact .inr ⟨[B1, B2], .inr (.inr (.inr ⟨B1, B2, B3, hr, a1, a2, a3, rfl⟩))⟩
      · exact .inr ⟨[B1, B3], .inr (.inr (.inl ⟨B1, B2, B3, hr, a1, a2, rfl⟩))⟩
    · exact .inr ⟨[B2, B3], .inr (.inl ⟨B1, B2, B3, hr, a1, rfl⟩)⟩
  · rw [hr] at hl; simp at hl
theorem RoomFor.stay {row row' : List Buf} (h : RoomFor row row') {U : Buf} (hU : U ∈ row) (e : U.hd = 1) : U ∈ row' := by
  rcases h with ⟨_, rfl⟩ | ⟨V, W2, W3, rfl, v, rfl⟩ | ⟨W1, V, W3, rfl, _, v, rfl⟩ | ⟨W1, W2, V, rfl, _, _, v, rfl⟩
  · exact hU
  all_goals
    simp only [List.mem_cons, List.not_mem_nil, or_false] at hU ⊢
    rcases hU with rfl | rfl | rfl <;> first | (rw [v] at e; exact absurd e (by decide)) | simp
theorem Held.get {σ σ' : CSt} {hs : List Buf} {k : Int} {V : Buf} (H : Held σ hs) (hn : (σ.row.map (·.k)).Nodup) (hk : ∀ U ∈ hs, U.k ≠ k) (g : GetTo σ k σ' V) :
    Held σ' (V :: hs) ∧ V.data = (σ.lat k).getD zeros4 ∧ σ'.lat = σ.lat ∧ σ'.us = σ.us ∧ σ'.nb ≤ σ.nb + 1 := by
  rcases g with ⟨U, hU, rfl, rfl, rfl⟩ | ⟨hno, row', hr, rfl, h1, hd, rfl⟩
  · have h0 : U.hd = 0 := (H.oth U hU).elim (fun q => absurd rfl (hk U q)) id
    refine ⟨⟨fun W hW => ?_, fun W hW => ?_, fun W hW => ?_⟩, H.dat U hU, rfl, rfl, Nat.le_succ _⟩
    · rcases List.mem_cons.mp hW with rfl | hW
      · exact ⟨(mem_upd hn hU).mpr (.inl rfl), by show U.hd + 1 = 1; rw [h0]; rfl⟩
      · exact ⟨(mem_upd hn hU).mpr (.inr ⟨(H.mem W hW).1, hk W hW⟩), (H.mem W hW).2⟩
    · rcases (mem_upd hn hU).mp hW with rfl | ⟨h3, _⟩
      · exact .inl (.head _)
      · exact (H.oth W h3).imp (.tail _) id
    · rcases (mem_upd hn hU).mp hW with rfl | ⟨h3, _⟩
      · exact H.dat U hU
      · exact H.dat W h3
  · have hs' := hr.sub.subset
    refine ⟨⟨fun W hW => ?_, fun W hW => ?_, fun W hW => ?_⟩, hd, rfl, rfl, Nat.le_refl _⟩
    · rcases List.mem_cons.mp hW with rfl | hW
      · exact ⟨List.mem_append_right _ (.head _), h1⟩
      · exact ⟨List.mem_append_left _ (hr.stay (H.mem W hW).1 (H.mem W hW).2), (H.mem W hW).2⟩
    · rcases List.mem_append.mp hW with h3 | h3
      · exact (H.oth W (hs' h3)).imp (.tail _) id
      · rw [List.mem_singleton.mp h3]; exact .inl (.head _)
    · rcases List.mem_append.mp hW with h3 | h3
      · exact H.dat W (hs' h3)
      · rw [List.mem_singleton.mp h3]; exact hd
/-- three held: the row is full, none is free -/
theorem Held.full {σ : CSt} {V0 V1 V2 : Buf} (H : Held σ [V2, V1, V0]) (hl : σ.row.length ≤ 3) (k0 : V0.k = 0) (k1 : V1.k = 1) (k2 : V2.k = 2) :
    (∃ B1 B2 B3, σ.row = [B1, B2, B3] ∧ B1.hd = 1 ∧ B2.hd = 1 ∧ B3.hd = 1 ∧ B1.k < 3 ∧ B2.k < 3 ∧ B3.k < 3) := by
  obtain ⟨m0, a0⟩ := H.mem V0 (by simp)
  obtain ⟨m1, a1⟩ := H.mem V1 (by simp)
  obtain ⟨m2, a2⟩ := H.mem V2 (by simp)
  rcases hr : σ.row with _ | ⟨B1, _ | ⟨B2, _ | ⟨B3, _ | ⟨B4, tl⟩⟩⟩⟩
  all_goals (rw [hr] at m0 m1 m2 hl)
  all_goals (simp only [List.mem_cons, List.not_mem_nil, or_false] at m0 m1 m2)
  · rw [m0] at k0; rw [m1] at k1; omega
  · rcases m0 with e0 | e0 <;> rcases m1 with e1 | e1 <;> rcases m2 with e2 | e2 <;> (rw [e0] at k0; rw [e1] at k1; rw [e2] at k2; omega)
  · rcases m0 with e0 | e0 | e0 <;> rcases m1 with e1 | e1 | e1 <;> rcases m2 with e2 | e2 | e2 <;> (rw [e0] at k0 a0; rw [e1] at k1 a1; rw [e2] at k2 a2; first | (exfalso; omega) | exact ⟨B1, B2, B3, rfl, by omega, by omega, by omega, by omega, by omega, by omega⟩)
  · simp at hl
def down : Nat → List Int
  | 0 => []
  | i + 1 => (i : Int) :: down i
theorem down_lt : ∀ {i : Nat} {x : Int}, x ∈ down i → x < i
  | 0, _, h => nomatch h
  | i + 1, x, h => by
    rcases List.mem_cons.mp h with rfl | h
    · omega
    · have := down_lt h; omega
theorem down_len : ∀ {i : Nat}, (down i).length = i
  | 0 => rfl
  | i + 1 => by show (down i).length + 1 = _; rw [down_len]
/-- the law's state while the blocks from 0 on are held -/
structure HeldSt (prog : Program) (w : World) (I : Ids) (c vw : Addr) (ws : List Value) (lat : Int → Option (Array UInt8)) (vn i : Nat) (σ : CSt) (hs : List Buf) (ocl : Obj) (ys : List Value) (l : List (Addr × Obj)) : Prop where
  rep : Rep prog w I l σ
  tabs : Tabs I σ l
  held : Held σ hs
  cell : (c, ocl) ∈ codesOf I σ l
  view : (vw, listOf ws.toArray vn) ∈ codesOf I σ l
  keys : hs.map (·.k) = down i
  vals : ys = hs.reverse.map (fun U => Value.ref U.b)
  lat : σ.lat = lat
  nb : σ.nb ≤ 48 + i
  us : σ.us.size ≤ 16
section
variable {prog : Program} {w : World} {I : Ids} {l l' : List (Addr × Obj)} {σ σ' : CSt}
theorem keep_rem {ks : List Addr} {l0 : List (Addr × Obj)} (hs : ∀ p ∈ l0, p ∈ l) (off : ∀ p ∈ l0, p.1 ∉ ks) (K : Keep I l σ l' σ') : Keep I l0 σ (rem l' ks) σ' := fun p hp hm => by
  obtain ⟨h1, h2⟩ := K p (hs p hp) hm
  exact ⟨mem_rem.mpr ⟨h1, off p hp⟩, h2⟩
end
local macro_rules | `(tactic| walk_at "eval Name") => `(tactic| ((with_reducible show wpAny _ _ (eval (Expr.Name _ _) (compEnvC _ _ _ _)) _ _ _); k_dflt (first
  | (refine' lcf_cell ?N ?c ?m ?d ?_ ?a ?b; (case a => rfl); (case b => rfl); (case N => k_asm); (case c => rfl); (case m => assumption); (case d => assumption); k_whole)
  | (refine' LCgL.ld_own ?N ?m ?C ?x ?_; (case N => k_asm); (case m => assumption); (case C => assumption); (case x => assumption); k_whole))))
section
variable {prog : Program} {w : World} {p : Program} {loose : List Str} {mean : ExcName → Option Value} {mg mb : Str → Option Value} {dp un : Nat} {gd : Option (List Code)} {cn : Str} {cs : Scope} {a : Addr} {ccd : Value} {A₀ : Around} {base h₀ : Heap} {L : Addr} {m : Str → Option Value} {s : Shared} {l : List (Addr × Obj)} {I : Ids} {σ : CSt} {c vw : Addr} {ws : List Value} {vn : Nat} {ocl : Obj}
  {oc dV kV doc pm cdv ct : Value} {an od : Option Addr} {osl : Array (Option Value)} {nm qual : Str} {params : Arguments} {body rest : List Stmt} {st0 st1 st2 st3 : Stmt} {Q : Flow → Shared → Prop}
  (B : Below A₀ base [] h₀) (F : Fr h₀ L s.heap m) (X : (Mine.hd.heap_1 w.params).In h₀) (T : Top p loose mean mg mb h₀)
  (ho : (Mine.hd.heap_1 w.params).lookup 453 = some ⟨oc, od, .func (fnOf nm qual params body cs dV kV doc pm an cdv ct), osl⟩) (hb : body = st0 :: st1 :: st2 :: st3 :: rest)
include B F X T ho hb
theorem heldL (N : News h₀ L s.heap l) (S : HeldSt prog w I c vw ws σ.lat vn 0 σ [] ocl [] l) (dcl : ocl.data = .cell (some (.ref I.cI))) (hdp : dp + 50 < 500) (hun : un + 500 < 4000)
    (hret : ∀ h' tk' D ys news σ' hs, Fr h₀ L h' (fun z => if z = Str.ofString "held" then some (.ref D) else m z) → News h₀ L h' ((D, LCg.lst ys) :: news) → LCg.Off1 D news → HeldSt prog w I c vw ws σ.lat vn 3 σ' hs ocl ys news → Q .next { s with heap := h', toks := tk' }) :
   wpD (model prog w) (ktrTop dp un gd cn cs L a ccd [(Str.ofString "cache", c)] []) (exec st3 (envX cn cs L a ccd [(Str.ofString "cache", c)])) Q (fun _ _ => False) s := by
  refine' law_at ?h1 fun hL => ?_
  case h1 => exact (show (Mine.hd.heap_1 w.params).lookup 453 = some ⟨_, _, .func (fnOf _ _ _ _ _ _ _ _ _ _ _ _), _⟩ from by k_is)
  have E := law_eq (x := st3) (fun b => nthS 3 b) ho hL (congrArg (fun b => nthS 3 b) hb)
  clear ho hb
  have E1 := E.1
  have E2 := E.2
  clear E
  subst E1 E2
  dsimp only [nthS, forB, tupE, List.tail_cons]
  refine Assign_compD (n := 3) (m := m) (L := L) (h₀ := h₀) (J := fun i ys news => ∃ σ' hs, HeldSt prog w I c vw ws σ.lat vn i σ' hs ocl ys news) rfl (by with_unfolding_all rfl) (by with_unfolding_all rfl) (by decide) (by rfl) (by decide) (by rfl) (by rfl) (by rfl) (by first | decide | rfl) (by first | rfl | decide) (by size_fits) ?_
  k_steps
  refine ⟨_, _, _, _, l, rfl, rfl, by k_asm, by k_asm, (show IsRange _ _ 0 3 1 _ _ _ by assumption), ⟨σ, [], S⟩, ?turn, ?done⟩
  case done =>
    rintro D h tk ys news' hyl ⟨σ', hs, S'⟩ F' N' off
    exact hret h tk D ys news' σ' hs F' N' off S'
  case turn =>
    rintro i t I0 oI C oC D m₂ h tk ys news' hi ⟨σ1, hs1, S1⟩ hyl hoC hx2 F1 N1 off ⟨n1, n2, n3⟩
    have offm := off.mem
    obtain ⟨ra, Ta, ma, Ka⟩ := push_one (c := D) (o := LCg.lst ys) S1.rep S1.tabs (fun p hp => (offm p hp).2.2)
    obtain ⟨rb, Tb, mb', Kb⟩ := push_one (c := C) (o := oC) ra Ta (fun p hp => by
      rcases List.mem_cons.mp hp with rfl | hp
      · exact Ne.symm n3
      · exact (offm p hp).2.1)
    obtain ⟨rc, Tc, mc, Kc⟩ := push_one (c := I0) (o := oI) rb Tb (fun p hp => by
      rcases List.mem_cons.mp hp with rfl | hp
      · exact Ne.symm n1
      · rcases List.mem_cons.mp hp with rfl | hp
        · exact Ne.symm n2
        · exact (offm p hp).1)
    have mb2 := Kc _ mb'
    have ma2 := Kc _ (Kb _ ma)
    have mcl := Kc _ (Kb _ (Ka _ S1.cell))
    have mvw := Kc _ (Kb _ (Ka _ S1.view))
    have hsub : ∀ p ∈ news', p ∈ (I0, oI) :: (C, oC) :: (D, LCg.lst ys) :: news' := fun p hp => .tail _ (.tail _ (.tail _ hp))
    clear Ka Kb Kc ra rb Ta Tb ma mb' Tc
    generalize (I0, oI) :: (C, oC) :: (D, LCg.lst ys) :: news' = lf at N1 rc mc mb2 ma2 mcl mvw hsub
    have mcl1 := (mem_codes.mp mcl).1
    have mC1 := (mem_codes.mp mb2).1
    have mcI := rc.mcI
    obtain ⟨tc, mcD⟩ := rc.mcD
    have hln : hs1.length = i := by have := congrArg List.length S1.keys; rw [List.length_map, down_len] at this; exact this
    have hkn : ∀ U ∈ hs1, U.k ≠ (i : Int) := fun U hU e => by
      have : U.k ∈ down i := by rw [← S1.keys]; exact List.mem_map_of_mem hU
      have := down_lt this
      omega
    have hnb1 := S1.nb
    have hlat1 := S1.lat
    refine wpD_methodCall ?_ rfl
    k_steps
    k_dflt (refine' callWith_KD ?k1 ?k2 ?_; (case k1 => k_asm); (case k2 => k_is); k_whole)
    k_steps
    k_dflt (refine' getR ?kB ?kF ?kX ?kT ?kk ?kN rc (S1.held.can rc.rok.len rc.rok.keys (by omega) _) ?k0 ?k6 ?nb ?hdp ?hun ?_; (case kN => k_asm); (case k0 => omega); (case k6 => omega); (case nb => omega); ((case kB => k_asm); (case kF => k_asm); (case kX => assumption); (case kT => assumption); (case kk => walk_at "r"); (try (case kN => k_asm)); (try (case kh => walk_at "mem_sub")); (case hdp => walk_at "h"); (case hun => walk_at "h")))
    intro h' tk' l' σ' V F' N' g' r' K'
    obtain ⟨H', d', lat', us', nb'⟩ := S1.held.get rc.rok.keys hkn g'
    have Kn : Keep I news' σ1 (rem l' [I0, C, D]) σ' := keep_rem hsub (fun q hq => by have := offm q hq; simp [this.1, this.2.1, this.2.2]) K'
    have c1 := mem_codes.mp (K'.t _ mc)
    have c2 := mem_codes.mp (K'.t _ mb2)
    have c3 := mem_codes.mp (K'.t _ ma2)
    have offs : ∀ q ∈ rem l' [I0, C, D], q.1 ≠ I0 ∧ q.1 ≠ C ∧ q.1 ≠ D := fun q hq => by
      have := (mem_rem.mp hq).2
      simpa [not_or] using this
    refine ⟨h', tk', rem l' [I0, C, D], rfl, F', newsPut (es := [(I0, oI), (C, oC), (D, LCg.lst ys)]) N' (fun q hq => ?_), LCg.Off3.of offs, σ', V :: hs1, ⟨?_, S1.tabs.keep Kn, H', Kn.t _ S1.cell, Kn.t _ S1.view, ?_, ?_, ?_, ?_, ?_⟩⟩
    · simp only [List.mem_cons, List.not_mem_nil, or_false] at hq
      rcases hq with rfl | rfl | rfl
      · exact c1.1
      · exact c2.1
      · exact c3.1
    · refine r'.move (rem_nodup r'.nd) fun q hq hm => mem_rem.mpr ⟨hq, fun z => ?_⟩
      simp only [List.mem_cons, List.not_mem_nil, or_false] at z
      rcases z with z | z | z
      · exact c1.2.1 (by rw [← z]; exact hm)
      · exact c2.2.1 (by rw [← z]; exact hm)
      · exact c3.2.1 (by rw [← z]; exact hm)
    · show V.k :: hs1.map (·.k) = (i : Int) :: down i
      rw [g'.k, S1.keys]
    · rw [List.reverse_cons, List.map_append, ← S1.vals]; rfl
    · rw [lat', hlat1]
    · omega
    · rw [us']; exact S1.us
end
section
variable {prog : Program} {w : World} {p : Program} {loose : List Str} {mean : ExcName → Option Value} {mg mb : Str → Option Value} {dp un : Nat} {gd : Option (List Code)} {cs : Scope} {a : Addr} {A₀ : Around} {base h₀ : Heap} {L : Addr} {m : Str → Option Value} {s : Shared} {l : List (Addr × Obj)} {I : Ids} {σ : CSt} {c : Addr} {ocl : Obj}
  {oc dV kV doc pm cdv ct : Value} {an od : Option Addr} {osl : Array (Option Value)} {nm qual : Str} {params : Arguments} {body rest : List Stmt} {st0 st1 st2 st3 st4 : Stmt} {Q : Flow → Shared → Prop}
  (B : Below A₀ base [] h₀) (F : Fr h₀ L s.heap m) (X : (Mine.hd.heap_1 w.params).In h₀) (T : Top p loose mean mg mb h₀) (ZB : base.get? 0 = some (zO w)) (XB : (Mine.hd.heap_1 w.params).In base) (TB : Top p loose mean mg mb base)
  (ho : (Mine.hd.heap_1 w.params).lookup 453 = some ⟨oc, od, .func (fnOf nm qual params body cs dV kV doc pm an cdv ct), osl⟩) (hb : body = st0 :: st1 :: st2 :: st3 :: st4 :: rest)
include B F X T ZB XB TB ho hb
theorem fullL {V0 V1 V2 : Buf} (N : News h₀ L s.heap l) (r : Rep prog w I l σ) (TQs : Tabs I σ l) (H : Held σ [V2, V1, V0]) (k0 : V0.k = 0) (k1 : V1.k = 1) (k2 : V2.k = 2) (mcl : (c, ocl) ∈ codesOf I σ l) (dcl : ocl.data = .cell (some (.ref I.cI))) (hdp : dp + 60 < 500) (hun : un + 600 < 4000)
    (hret : ∀ h' tk' l', Fr h₀ L h' m → News h₀ L h' l' → Rep prog w I l' σ → Tabs I σ l' → KeepT I l σ l' σ → Q .next { s with heap := h', toks := tk' }) :
   wpAny (model prog w) (ktrTop dp un gd (Str.ofString "law") cs L a (.ref 452) [(Str.ofString "cache", c)] []) (exec st4 (envX (Str.ofString "law") cs L a (.ref 452) [(Str.ofString "cache", c)])) Q (fun _ _ => False) s := by
  refine' law_at ?h1 fun hL => ?_
  case h1 => exact (show (Mine.hd.heap_1 w.params).lookup 453 = some ⟨_, _, .func (fnOf _ _ _ _ _ _ _ _ _ _ _ _), _⟩ from by k_is)
  have E := law_eq (x := st4) (fun b => nthS 4 b) ho hL (congrArg (fun b => nthS 4 b) hb)
  clear ho hb
  have E1 := E.1
  have E2 := E.2
  clear E
  subst E1 E2
  dsimp only [nthS, forB, tupE, List.tail_cons]
  obtain ⟨B1, B2, B3, hrow, g1, g2, g3, q1, q2, q3⟩ := H.full r.rok.len k0 k1 k2
  have D : KtsDicts (([] : List Env).filterMap (·.frame)) h₀ := ktsDicts_nil
  obtain ⟨ps, hp, hti⟩ := TQs.tab _ (.tail _ (.tail _ (.tail _ (.head _))))
  have off := TQs.off 450 (by decide)
  have mc1 := (mem_codes.mp mcl).1
  have mc2 := codes_rem (P := 450) (by decide) mcl
  have ht : TabInv "law.<locals>.<lambda>" ps (rem l [450]) := hti.mono fun q h => codes_rem (by decide) h
  have ha : ∀ x ∈ rem l [450], x.1 ≠ 450 := fun x h => by simpa using (mem_rem.mp h).2
  k_steps
  k_dflt (refine' lam_one (own := []) (P := 450) (c := 452) (q := "law.<locals>.<lambda>") (ps := ps) (rest := rem l [450]) ?F ?N ?T ?C ?cd ?a1 ?a2 ?t ?q ?cl ?d ?_; (case N => exact newsPut1 (by k_asm) hp); (case a1 => exact fun _ h => nomatch h); (case F => k_asm); (case T => k_asm); (case cd => exact rfl); (case cl => with_unfolding_all exact rfl); (case d => exact rfl); (case t => exact ht); (case a2 => exact ha); (case q => kernel_rfl); (case C => exact codeHd_of_K (by assumption) (by kernel_rfl)))
  intro f c' oc vs t ctv h1 tk1 ps' ex lsa F1 N1 mf mc hd hv hoo hrr hx G
  have mc3 := hrr _ mc2
  have hD : Deed prog w p loose mean mg mb base f 76 lsa := by
    have hm : ∀ q ∈ l, q.1 ∈ mutOf I σ → q ∈ lsa := fun q hq h => hrr _ (in_rem off hq h)
    have hI : ∀ x ∈ I.all, x ∈ mutOf I σ := fun x hx => List.mem_append_left _ hx
    have hB : ∀ B ∈ σ.row, ∀ x ∈ B.all, x ∈ mutOf I σ := fun B hB x hx => List.mem_append_right _ (List.mem_flatMap.mpr ⟨B, hB, hx⟩)
    have b1 : B1 ∈ σ.row := by rw [hrow]; exact .head _
    have b2 : B2 ∈ σ.row := by rw [hrow]; exact .tail _ (.head _)
    have b3 : B3 ∈ σ.row := by rw [hrow]; exact .tail _ (.tail _ (.head _))
    have n1 := hm _ r.mcI (hI _ (by simp [Ids.all]))
    obtain ⟨tc, n2⟩ := r.mcD
    have n2 := hm _ n2 (hI _ (by simp [Ids.all]))
    obtain ⟨rn, n3⟩ := r.mrw
    rw [hrow] at n3
    have n3 := hm _ n3 (hI _ (by simp [Ids.all]))
    obtain ⟨n4, ⟨t1, n5⟩, _⟩ := r.bufs B1 b1
    obtain ⟨n6, ⟨t2, n7⟩, _⟩ := r.bufs B2 b2
    obtain ⟨n8, ⟨t3, n9⟩, _⟩ := r.bufs B3 b3
    rw [g1] at n5
    rw [g2] at n7
    rw [g3] at n9
    have n4 := hm _ n4 (hB B1 b1 _ B1.memb)
    have n5 := hm _ n5 (hB B1 b1 _ B1.memd)
    have n6 := hm _ n6 (hB B2 b2 _ B2.memb)
    have n7 := hm _ n7 (hB B2 b2 _ B2.memd)
    have n8 := hm _ n8 (hB B3 b3 _ B3.memb)
    have n9 := hm _ n9 (hB B3 b3 _ B3.memd)
    have nA := hm _ r.mkI (hI _ (by simp [Ids.all]))
    obtain ⟨tk, nB⟩ := r.mkD
    have nB := hm _ nB (hI _ (by simp [Ids.all]))
    obtain ⟨ob, kvs, nC, dbn, _, vbn⟩ := r.mbn
    have nC := hm _ nC (hI _ (by simp [Ids.all]))
    have v3 : valueAt kvs 3 = none := by
      rw [vbn, find_none (fun U hU => ?_)]; rfl
      rw [hrow] at hU
      simp only [List.mem_cons, List.not_mem_nil, or_false] at hU
      rcases hU with rfl | rfl | rfl <;> omega
    have lo := r.low1
    clear hm hI hB vbn H k0 k1 k2 r TQs hti ht ha hx G N1 F1 hret N F X T B D hrow
    intro dp un gd cn cs a ccd cl outer A₀ h₀ L m s Q E B F X T hk N hdp hun hE
    refine wpAny_call ?_
    k_dflt ((refine' kla_code (by k_asm) (by k_asm) (by k_asm) (by k_asm) (by k_asm) (by exact rfl) (by exact rfl) (by assumption) (by assumption) (by exact codeRec_news (by k_asm) (by assumption) (by assumption) (by assumption)) (by ktr_room) (by exact rfl) (by exact locs rfl) ?_ (by exact rfl) (by exact rfl) (by exact rfl) (by decide); k_whole; intro g'z L'z h'z FG'z F'z N'z B'z X'z T'z; (try dsimp only); (try k_fold)))
    k_steps
    k_dflt (refine' get_full ?kB ?kF ?kX ?kT rfl ZB ?kN n1 n2 n3 n4 n5 n6 n7 n8 n9 nA nB nC dbn lo v3 (by decide) (by decide) ?hdp ?hun ?_; (case kB => k_asm); (case kF => k_asm); (case kX => k_asm); (case kT => k_asm); (case kN => k_asm); (case hdp => (dsimp only [ktrTop, Around.deeper, Around.in1]; omega)); (case hun => (dsimp only [ktrTop, Around.deeper, Around.in1]; omega)))
    intro h' tk' e' g' F' U' R'
    (try k_unfold)
    (try dsimp only)
    k_dflt (refine' leave_onV rfl ?kB F' R' U' ?_; (case kB => k_asm))
    intro h' R' U'
    (try dsimp only)
    all_goals exact hE _ _ _ _ (by k_asm) (by assumption) (by assumption)
  k_steps
  k_dflt (refine' met76 ?kB ?kF ?kX ?kT ?kk ZB XB TB D ?kN (by assumption) hD ?hdp ?hun ?_; (case kN => k_asm); ((case kB => k_asm); (case kF => k_asm); (case kX => assumption); (case kT => assumption); (case kk => walk_at "r"); (try (case kN => k_asm)); (try (case kh => walk_at "mem_sub")); (case hdp => walk_at "h"); (case hun => walk_at "h")))
  intro hb tkb tq h₀b Tb Fb Nb Bb
  replace Fb := turn_nil Tb Fb
  replace Nb := turn_news Tb Nb
  clear Bb Tb
  obtain ⟨rb, TQb, Kb⟩ := tab_grow r TQs (es := []) (.tail _ (.tail _ (.tail _ (.head _)))) hp G
  have Nc := News.sub Nb hx
  generalize hlc : ((450, tabObj ps') :: (ex ++ rem l [450])) = lc at rb TQb Kb Nc
  have mc4 := (mem_codes.mp (Kb _ mcl)).1
  have mcI := rb.mcI
  obtain ⟨tcb, mcD⟩ := rb.mcD
  have hfc : 3 - fcOf (σ.row.map (·.hd)) = 0 := by rw [hrow]; simp [fcOf, g1, g2, g3]
  clear Nb hx hrr hoo mc3 mf mc G hp XB TB
  k_steps
  all_goals dsimp only
  all_goals first | (exfalso; omega) | exact hret _ _ lc (by k_asm) (by k_asm) rb TQb Kb
end
theorem bytes_at {A : Around} {s : Shared} {d : Array UInt8} {t u : Tok} : SeqAt.EqAt A s (.bytes d t) (.bytes d u) true := fun prog w E Q hq => eqBool_bytes (by rw [decide_eq_true rfl]; exact hq)
theorem eq3 {prog : Program} {w : World} {A : Around} {E : Value → Shared → Prop} {s : Shared} {h₀ : Heap} {L a b : Addr} {nw : List (Addr × Obj)} {d0 d1 d2 : Array UInt8} {t0 t1 t2 u0 u1 u2 : Tok} {n k : Nat} {Q : Value → Shared → Prop} (N : News h₀ L s.heap nw)
    (ma : (a, listOf #[.bytes d0 t0, .bytes d1 t1, .bytes d2 t2] n) ∈ nw) (mb : (b, listOf #[.bytes d0 u0, .bytes d1 u1, .bytes d2 u2] k) ∈ nw) (hu : A.units + 10 < cLine) (h : Q (.bool true) s) : wpAny (model prog w) A (compareOp .Eq (.ref a) (.ref b)) Q E s := by
  refine SeqAt.eq_listAt (e := fun _ => true) (N.isList ma) (N.isList mb) rfl (by omega) (fun j h1 h2 => ?_) h
  have hj : j < 3 := h1
  rcases j with _ | _ | _ | j
  · exact bytes_at
  · exact bytes_at
  · exact bytes_at
  · omega
local macro_rules | `(tactic| walk_at "compareOp Eq ref ref") => `(tactic| (k_dflt (refine' eq3 (by k_asm) (by exact .tail _ (.head _)) (by exact .head _) (by (have : (4200 : Nat) ≤ cLine := (by decide); (dsimp only [ktrTop, Around.deeper, Around.in1]); omega)) ?_)))
section
variable {prog : Program} {w : World} {p : Program} {loose : List Str} {mean : ExcName → Option Value} {mg mb : Str → Option Value} {dp un : Nat} {gd : Option (List Code)} {cn : Str} {cs : Scope} {a : Addr} {ccd : Value} {cl : List (Str × Addr)} {A₀ : Around} {base h₀ : Heap} {L : Addr} {m : Str → Option Value} {s : Shared} {l : List (Addr × Obj)} {I : Ids} {σ : CSt}
  {oc dV kV doc pm cdv ct : Value} {an od : Option Addr} {osl : Array (Option Value)} {nm qual : Str} {params : Arguments} {body rest : List Stmt} {st0 st1 st2 st3 st4 st5 : Stmt} {Q : Flow → Shared → Prop}
  (B : Below A₀ base [] h₀) (F : Fr h₀ L s.heap m) (X : (Mine.hd.heap_1 w.params).In h₀) (T : Top p loose mean mg mb h₀)
  (ho : (Mine.hd.heap_1 w.params).lookup 453 = some ⟨oc, od, .func (fnOf nm qual params body cs dV kV doc pm an cdv ct), osl⟩) (hb : body = st0 :: st1 :: st2 :: st3 :: st4 :: st5 :: rest)
include B F X T ho hb
theorem retL {V0 V1 V2 : Buf} {vn : Nat} {D vw : Addr} {d3 d4 d5 : Array UInt8} {t0 t1 t2 t3 t4 t5 : Tok} (N : News h₀ L s.heap l) (r : Rep prog w I l σ) (h0 : V0 ∈ σ.row) (h1 : V1 ∈ σ.row) (h2 : V2 ∈ σ.row) (mD : (D, LCg.lst [.ref V0.b, .ref V1.b, .ref V2.b]) ∈ l)
    (mV : (vw, listOf [.bytes V0.data t0, .bytes V1.data t1, .bytes V2.data t2, .bytes d3 t3, .bytes d4 t4, .bytes d5 t5].toArray vn) ∈ l) (hvh : m "held" = some (.ref D)) (hvv : m "view" = some (.ref vw)) (hdp : dp + 60 < 500) (hun : un + 600 < 4000)
    (hret : ∀ h' tk', Fr h₀ L h' m → News h₀ L h' l → Q (.ret (.bool true)) { s with heap := h', toks := tk' }) :
   wpAny (model prog w) (ktrTop dp un gd cn cs L a ccd cl []) (exec st5 (envX cn cs L a ccd cl)) Q (fun _ _ => False) s := by
  refine' law_at ?h1 fun hL => ?_
  case h1 => exact (show (Mine.hd.heap_1 w.params).lookup 453 = some ⟨_, _, .func (fnOf _ _ _ _ _ _ _ _ _ _ _ _), _⟩ from by k_is)
  have E := law_eq (x := st5) (fun b => nthS 5 b) ho hL (congrArg (fun b => nthS 5 b) hb)
  clear ho hb
  have E1 := E.1
  have E2 := E.2
  clear E
  subst E1 E2
  dsimp only [nthS, forB, tupE, List.tail_cons]
  obtain ⟨b0, ⟨u0, e0⟩, y0, z0⟩ := r.bufs V0 h0
  obtain ⟨b1, ⟨u1, e1⟩, y1, z1⟩ := r.bufs V1 h1
  obtain ⟨b2, ⟨u2, e2⟩, y2, z2⟩ := r.bufs V2 h2
  k_steps
  dsimp only
  exact hret _ _ (by k_asm) (News.sub (by k_asm) fun q h => .tail _ (.tail _ h))
end
section
variable {prog : Program} {w : World} {p : Program} {loose : List Str} {mean : ExcName → Option Value} {mg mb : Str → Option Value} {gd : Option (List Code)} {cn : Str} {cs : Scope} {a : Addr} {ccd : Value} {c : Addr} {A₀ : Around} {base h₀ : Heap} {L : Addr} {m : Str → Option Value} {s : Shared} {l : List (Addr × Obj)} {E Q : Value → Shared → Prop}
theorem diskL (B : Below A₀ base [] h₀) (F : Fr h₀ L s.heap m) (X : (Mine.hd.heap_1 w.params).In h₀) (T : Top p loose mean mg mb h₀) (hk : cs.kind = .function) (N : News h₀ L s.heap l) {t4 t6 : Tok}
    (hret : ∀ h' tk' uf lt kp kI kD olt okp oKD, Fr h₀ L h' m → News h₀ L h' ((uf, listOf #[] 0) :: (lt, olt) :: (kp, okp) :: (kI, instObj 402 kD) :: (kD, oKD) :: l) → IsDiskD w oKD kp lt uf 0 → olt.IsDictOf (intKind prog w) [] → (lt == sysModules) = false →
      (∀ p ∈ l, p.1 < kD) → kD < kI → (kI < kp ∧ kD < kp ∧ AllLt kp l) → (kp < lt ∧ kI < lt ∧ kD < lt ∧ AllLt lt l) → (lt < uf ∧ kp < uf ∧ kI < uf ∧ kD < uf ∧ AllLt uf l) → Q (.ref kI) { s with heap := h', toks := tk' }) :
   wpAny (model prog w) (ktrTop 302 7 gd cn cs L a ccd [(Str.ofString "cache", c)] []) (call (.ref 402) [.int 6 t6, .int 4 t4]) Q E s := by
  k_dflt (refine' call_cls (by k_asm) (by k_asm) (by k_asm) (by k_is) (by k_is) (by k_is) ?_; k_whole; intro x' d' h' F' N' l1 l2; (try k_lt l1); (try k_lt2 l2); (try k_sweep); ktr_enter)
  k_steps
  all_goals exact hret _ _ _ _ _ _ _ _ _ _ (by k_asm) (by k_asm) isDiskD_mk (by assumption) (by assumption) (by assumption) (by assumption) (by assumption) (by assumption) (by assumption)
theorem cacheL (B : Below A₀ base [] h₀) (F : Fr h₀ L s.heap m) (X : (Mine.hd.heap_1 w.params).In h₀) (T : Top p loose mean mg mb h₀) (hk : cs.kind = .function) (N : News h₀ L s.heap l) {kI kD kp lt uf : Addr} {tkk : Nat → Tok} {t3 : Tok} (m1 : (kI, instObj 402 kD) ∈ l) (m2 : (kD, diskD w tkk kp lt uf 0) ∈ l)
    (hret : ∀ h' tk' bn rw cI cD ob oCD, Fr h₀ L h' m → News h₀ L h' ((bn, ob) :: (rw, listOf #[] 0) :: (cI, instObj 304 cD) :: (cD, oCD) :: l) → IsCacheD w oCD kI rw bn 0 0 0 → ob.IsDictOf (intKind prog w) [] → (bn == sysModules) = false →
      (∀ p ∈ l, p.1 < cD) → cD < cI → (cI < rw ∧ cD < rw ∧ AllLt rw l) → (rw < bn ∧ cI < bn ∧ cD < bn ∧ AllLt bn l) → Q (.ref cI) { s with heap := h', toks := tk' }) :
   wpAny (model prog w) (ktrTop 302 7 gd cn cs L a ccd [(Str.ofString "cache", c)] []) (call (.ref 304) [.ref kI, .int 3 t3]) Q E s := by
  k_dflt (refine' call_cls (by k_asm) (by k_asm) (by k_asm) (by k_is) (by k_is) (by k_is) ?_; k_whole; intro x' d' h' F' N' l1 l2; (try k_lt l1); (try k_lt2 l2); (try k_sweep); ktr_enter)
  k_steps
  all_goals exact hret _ _ _ _ _ _ _ _ (by k_asm) (by k_asm) isCacheD_mk (by assumption) (by assumption) (by assumption) (by assumption) (by assumption) (by assumption)
end
local macro_rules | `(tactic| walk_at "call ref") => `(tactic| ((with_reducible show wpAny _ _ (call (Value.ref 402) _ _) _ _ _); k_dflt (refine' diskL (by k_asm) (by k_asm) (by k_asm) (by k_asm) (by walk_at "r") (by k_asm) ?_; intro h' tk' uf lt kp kI kD olt okp oKD F' N' z' z2 z3 z4 z5 z6 z7 z8; (rcases z' with ⟨t', hz'⟩; subst hz'))))
local macro_rules | `(tactic| walk_at "call ref") => `(tactic| ((with_reducible show wpAny _ _ (call (Value.ref 304) _ _) _ _ _); k_dflt (refine' cacheL (by k_asm) (by k_asm) (by k_asm) (by k_asm) (by walk_at "r") (by k_asm) (by exact .tail _ (.tail _ (.tail _ (.head _)))) (by exact .tail _ (.tail _ (.tail _ (.tail _ (.head _))))) ?_; intro h' tk' bn rw cI cD ob oCD F' N' z' z2 z3 z4 z5 z6 z7)))
local macro_rules | `(tactic| walk_at "call type:bytes") => `(tactic| (k_dflt (refine' bytes_4 (by k_asm) (by k_asm) rfl (by walk_at "h") (by walk_at "h") ?_; intro t' h' tk' F' N'; (try k_sweep))))
local macro_rules | `(tactic| walk_at "CompSrc") => `(tactic| (k_dflt (refine LCg.CompSrc.range (by rfl) (by k_asm) (by k_asm) (by assumption) (by first | decide | rfl) (by first | rfl | decide) (by first | size_fits | exact Nat.le_of_ble_eq_true rfl) ?_; intro g'; lcg_lit)))
theorem law_is {K : Frag} {o o' : Obj} {P : Prop} (ho : K.lookup 453 = some o) (h' : K.lookup 453 = some o') (k : o = o' → P) : P := k (Option.some.inj (ho.symm.trans h'))
section
variable {prog : Program} {w : World} {p : Program} {loose : List Str} {mean : ExcName → Option Value} {mg mb : Str → Option Value} {dp un : Nat} {gd : Option (List Code)} {cn : Str} {cs : Scope} {a : Addr} {ccd : Value} {A₀ : Around} {base h₀ : Heap} {L : Addr} {m : Str → Option Value} {s : Shared} {l : List (Addr × Obj)} {c : Addr} {E Q : Value → Shared → Prop}
  {oc dV kV doc pm cdv ct : Value} {an od : Option Addr} {osl : Array (Option Value)} {nm qual : Str} {params : Arguments} {body rest : List Stmt} {st0 : Stmt} {tg : List Expr} {e0 e1 : Expr} {nt : Nat} {ps pq : Pos}
theorem viewL (B : Below A₀ base [] h₀) (F : Fr h₀ L s.heap m) (X : (Mine.hd.heap_1 w.params).In h₀) (T : Top p loose mean mg mb h₀)
  (ho : (Mine.hd.heap_1 w.params).lookup 453 = some ⟨oc, od, .func (fnOf nm qual params body cs dV kV doc pm an cdv ct), osl⟩) (hb : body = st0 :: .Assign tg (.Tuple [e0, e1] nt ps) pq :: rest)
  (N : News h₀ L s.heap l)
  (hret : ∀ h' tk' vw t0 t1 t2 t3 t4 t5, Fr h₀ L h' m → News h₀ L h' ((vw, LCg.lst [.bytes #[0, 0, 0, 0] t0, .bytes #[0, 0, 0, 0] t1, .bytes #[0, 0, 0, 0] t2, .bytes #[0, 0, 0, 0] t3, .bytes #[0, 0, 0, 0] t4, .bytes #[0, 0, 0, 0] t5]) :: l) → LCg.Off1 vw l → Q (.ref vw) { s with heap := h', toks := tk' }) :
   wpAny (model prog w) (ktrTop 302 7 gd cn cs L a ccd [(Str.ofString "cache", c)] []) (eval e1 (envX cn cs L a ccd [(Str.ofString "cache", c)])) Q E s := by
  refine' law_is ho ?h1 ?_
  case h1 => k_is
  intro e
  cases e
  cases hb
  k_steps
  all_goals exact hret _ _ _ _ _ _ _ _ _ (by k_asm) (by k_asm) (by assumption)
end
def NotTab (o : Obj) : Prop := o ≠ tabObj #[]
theorem nodup_up {l : List (Addr × Obj)} {d : Addr} {o : Obj} (nd : (l.map (·.1)).Nodup) (h : ∀ p ∈ l, p.1 ≠ d) : (((d, o) :: l).map (·.1)).Nodup := by
  rw [List.map_cons, List.nodup_cons]
  refine ⟨fun q => ?_, nd⟩
  obtain ⟨p, hp, e⟩ := List.mem_map.mp q
  exact h p hp e
theorem nat_lt {a b : Addr} (h : a < b) : @LT.lt Nat _ a b := h
theorem off1_mem {d : Addr} : ∀ {l : List (Addr × Obj)}, LCg.Off1 d l → ∀ p ∈ l, p.1 ≠ d
  | [], _, _, h => nomatch h
  | _ :: _, x, p, h => by
    rcases List.mem_cons.mp h with rfl | h
    · exact x.1
    · exact off1_mem x.2 p h
theorem allLt_mem {d : Addr} : ∀ {l : List (Addr × Obj)}, AllLt d l → ∀ p ∈ l, @LT.lt Nat _ p.1 d
  | [], _, _, h => nomatch h
  | _ :: _, x, p, h => by
    rcases List.mem_cons.mp h with rfl | h
    · exact x.1
    · exact allLt_mem x.2 p h
theorem allLt_up {d d' : Addr} {l : List (Addr × Obj)} (h : AllLt d l) (e : @LT.lt Nat _ d d') : AllLt d' l := allLt_of fun p hp => Nat.lt_trans (allLt_mem h p hp) e
theorem nodup_lt {l : List (Addr × Obj)} {d : Addr} {o : Obj} (nd : (l.map (·.1)).Nodup) (h : AllLt d l) : (((d, o) :: l).map (·.1)).Nodup := nodup_up nd fun p hp => Nat.ne_of_lt (allLt_mem h p hp)
theorem nodup_ids {a b c d e f g i : Addr} {l : List Addr} (h : (a :: b :: c :: d :: e :: f :: g :: i :: l).Nodup) : [c, d, g, i, b, a, f, e].Nodup := by
  have h8 : [a, b, c, d, e, f, g, i].Nodup := List.Nodup.sublist (List.sublist_append_left [a, b, c, d, e, f, g, i] l) h
  have p : ([2, 3, 6, 7, 1, 0, 5, 4] : List Nat).Perm [0, 1, 2, 3, 4, 5, 6, 7] := by decide
  exact (p.map fun n => [a, b, c, d, e, f, g, i].getD n a).nodup_iff.mpr h8
theorem all8 {P : Addr → Prop} {a b c d e f g i : Addr} (h1 : P a) (h2 : P b) (h3 : P c) (h4 : P d) (h5 : P e) (h6 : P f) (h7 : P g) (h8 : P i) : ∀ x ∈ [a, b, c, d, e, f, g, i], P x := fun x hx => by
  simp only [List.mem_cons, List.not_mem_nil, or_false] at hx
  rcases hx with rfl | rfl | rfl | rfl | rfl | rfl | rfl | rfl <;> assumption
/-- the law's first state -/
theorem make_end {prog : Program} {w : World} {h₀ h : Heap} {L : Addr} {l : List (Addr × Obj)} {c mk : Addr} {ocl : Obj} {ks : List Value} {kn : Nat} {tp vw bn rw cI cD uf lt kp kI kD : Addr} {otp ob oCD olt okp oKD : Obj} {t0 t1 t2 t3 t4 t5 : Tok}
    (N : News h₀ L h ((tp, otp) :: (vw, LCg.lst [.bytes #[0, 0, 0, 0] t0, .bytes #[0, 0, 0, 0] t1, .bytes #[0, 0, 0, 0] t2, .bytes #[0, 0, 0, 0] t3, .bytes #[0, 0, 0, 0] t4, .bytes #[0, 0, 0, 0] t5]) :: (bn, ob) :: (rw, listOf #[] 0) :: (cI, instObj 304 cD) :: (cD, oCD) :: (uf, listOf #[] 0) :: (lt, olt) :: (kp, okp) :: (kI, instObj 402 kD) :: (kD, oKD) :: l))
    (nd : (l.map (·.1)).Nodup) (mc : (c, ocl) ∈ l) {v : Option Value} (dcl : ocl.data = .cell v) (mmk : (mk, listOf ks.toArray kn) ∈ l) (tabs : ∀ P ∈ TT, (P, tabObj #[]) ∈ l)
    (hC : IsCacheD w oCD kI rw bn 0 0 0) (hK : IsDiskD w oKD kp lt uf 0) (hob : ob.IsDictOf (intKind prog w) []) (holt : olt.IsDictOf (intKind prog w) []) (lo1 : (bn == sysModules) = false) (lo2 : (lt == sysModules) = false)
    (a1 : ∀ p ∈ l, p.1 < kD) (a2 : kD < kI) (a3 : kI < kp ∧ kD < kp ∧ AllLt kp l) (a4 : kp < lt ∧ kI < lt ∧ kD < lt ∧ AllLt lt l) (a5 : lt < uf ∧ kp < uf ∧ kI < uf ∧ kD < uf ∧ AllLt uf l) (a6 : uf < cD ∧ lt < cD ∧ kp < cD ∧ kI < cD ∧ kD < cD ∧ AllLt cD l) (a7 : cD < cI)
    (a8 : cI < rw ∧ cD < rw ∧ uf < rw ∧ lt < rw ∧ kp < rw ∧ kI < rw ∧ kD < rw ∧ AllLt rw l) (a9 : rw < bn ∧ cI < bn ∧ cD < bn ∧ uf < bn ∧ lt < bn ∧ kp < bn ∧ kI < bn ∧ kD < bn ∧ AllLt bn l)
    (a10 : bn ≠ vw ∧ rw ≠ vw ∧ cI ≠ vw ∧ cD ≠ vw ∧ uf ≠ vw ∧ lt ≠ vw ∧ kp ≠ vw ∧ kI ≠ vw ∧ kD ≠ vw ∧ LCg.Off1 vw l) :
    ∃ l', News h₀ L h ((c, ocl) :: rem l' [c]) ∧ ∀ o', o'.data = .cell (some (.ref cI)) → ∃ I σ ws, LawSt prog w I c vw ((c, o') :: rem l' [c]) σ ws 0 ∧ (mk, listOf ks.toArray kn) ∈ codesOf I σ ((c, o') :: rem l' [c]) ∧ mk ≠ vw := by
  have b2 := nat_lt a2
  have b1 : ∀ p ∈ l, @LT.lt Nat _ p.1 kD := fun p hp => a1 p hp
  have hoff := a10.2.2.2.2.2.2.2.2.2
  have voff := off1_mem hoff
  obtain ⟨n1, n2, n3, n4, n5, n6, n7, n8, n9, _⟩ := a10
  let I : Ids := ⟨cI, cD, kI, kD, rw, bn, kp, lt, uf⟩
  let σ : CSt := ⟨[], 0, 0, 0, 0, #[], fun _ => none, 0⟩
  let l' : List (Addr × Obj) := (vw, LCg.lst [.bytes #[0, 0, 0, 0] t0, .bytes #[0, 0, 0, 0] t1, .bytes #[0, 0, 0, 0] t2, .bytes #[0, 0, 0, 0] t3, .bytes #[0, 0, 0, 0] t4, .bytes #[0, 0, 0, 0] t5]) :: (bn, ob) :: (rw, listOf #[] 0) :: (cI, instObj 304 cD) :: (cD, oCD) :: (uf, listOf #[] 0) :: (lt, olt) :: (kI, instObj 402 kD) :: (kD, oKD) :: l
  have hsub : ∀ p ∈ l, p ∈ l' := fun p hp => .tail _ (.tail _ (.tail _ (.tail _ (.tail _ (.tail _ (.tail _ (.tail _ (.tail _ hp))))))))
  have L1 : AllLt kD l := allLt_of a1
  have L5 : AllLt cD ((uf, listOf #[] 0) :: (lt, olt) :: (kI, instObj 402 kD) :: (kD, oKD) :: l) := ⟨a6.1, a6.2.1, a6.2.2.2⟩
  have nd8 : (((bn, ob) :: (rw, listOf #[] 0) :: (cI, instObj 304 cD) :: (cD, oCD) :: (uf, listOf #[] 0) :: (lt, olt) :: (kI, instObj 402 kD) :: (kD, oKD) :: l).map (·.1)).Nodup := nodup_lt (o := ob) (nodup_lt (d := rw) (o := listOf #[] 0) (nodup_lt (d := cI) (o := instObj 304 cD) (nodup_lt (d := cD) (o := oCD) (nodup_lt (d := uf) (o := listOf #[] 0) (nodup_lt (d := lt) (o := olt) (nodup_lt (d := kI) (o := instObj 402 kD) (nodup_lt (o := oKD) nd L1) ⟨b2, allLt_up L1 b2⟩) a4.2) ⟨a5.1, a5.2.2⟩) L5) ⟨a7, allLt_up L5 a7⟩) ⟨a8.1, a8.2.1, a8.2.2.1, a8.2.2.2.1, a8.2.2.2.2.2⟩) ⟨a9.1, a9.2.1, a9.2.2.1, a9.2.2.2.1, a9.2.2.2.2.1, a9.2.2.2.2.2.2⟩
  have ndl : (l'.map (·.1)).Nodup := nodup_up nd8 (off1_mem ⟨n1, n2, n3, n4, n5, n6, n8, n9, hoff⟩)
  have hge : ∀ x ∈ [cI, cD, kI, kD, rw, bn, lt, uf], @LE.le Nat _ kD x := all8 (Nat.le_of_lt (Nat.lt_trans a6.2.2.2.2.1 a7)) (Nat.le_of_lt a6.2.2.2.2.1) (Nat.le_of_lt b2) (Nat.le_refl _) (Nat.le_of_lt a8.2.2.2.2.2.2.1) (Nat.le_of_lt a9.2.2.2.2.2.2.2.1) (Nat.le_of_lt a4.2.2.1) (Nat.le_of_lt a5.2.2.2.1)
  have hvm : ∀ x ∈ [cI, cD, kI, kD, rw, bn, lt, uf], x ≠ vw := all8 n3 n4 n8 n9 n2 n1 n6 n5
  have hmut : mutOf I σ = [cI, cD, kI, kD, rw, bn, lt, uf] := rfl
  have lmut : ∀ p ∈ l, p.1 ∉ mutOf I σ := fun p hp h => Nat.lt_irrefl _ (Nat.lt_of_le_of_lt (hge _ h) (b1 p hp))
  have ltt : ∀ P ∈ TT, @LT.lt Nat _ P kD := fun P hP => b1 _ (tabs P hP)
  have r : Rep prog w I l' σ := by
    refine ⟨ndl, ?_, ?_, .tail _ (.tail _ (.tail _ (.head _))), ?_, .tail _ (.tail _ (.tail _ (.tail _ (.tail _ (.tail _ (.tail _ (.head _))))))), ?_, ⟨0, .tail _ (.tail _ (.head _))⟩, ⟨ob, [], .tail _ (.head _), hob, Nat.le_refl _, fun _ => rfl⟩, ⟨olt, [], .tail _ (.tail _ (.tail _ (.tail _ (.tail _ (.tail _ (.head _)))))), holt, Nat.le_refl _, fun _ => rfl⟩, ⟨0, .tail _ (.tail _ (.tail _ (.tail _ (.tail _ (.head _)))))⟩, ?_, lo1, lo2, ?_, ?_⟩
    · exact nodup_ids nd8
    · exact ⟨(fun _ h => nomatch h), (fun _ h => nomatch h), (fun _ h => nomatch h), List.nodup_nil, Nat.zero_le _, (fun _ h => nomatch h)⟩
    · obtain ⟨t, rfl⟩ := hC
      exact ⟨t, .tail _ (.tail _ (.tail _ (.tail _ (.head _))))⟩
    · obtain ⟨t, rfl⟩ := hK
      exact ⟨t, .tail _ (.tail _ (.tail _ (.tail _ (.tail _ (.tail _ (.tail _ (.tail _ (.head _))))))))⟩
    · exact fun _ h => nomatch h
    · exact fun _ _ h => nomatch h
    · intro v hv
      have hv : v ∈ (#[] : Array Value).toList := hv
      simp at hv
  have T : Tabs I σ l' := by
    refine ⟨fun P hP h => ?_, fun x hx => ⟨#[], hsub _ (tabs _ (TT_TQ x hx)), TabInv.nil⟩⟩
    exact lmut _ (tabs P hP) h
  have hv6 : ∀ i : Nat, i < 6 → ∃ t, [Value.bytes #[0, 0, 0, 0] t0, .bytes #[0, 0, 0, 0] t1, .bytes #[0, 0, 0, 0] t2, .bytes #[0, 0, 0, 0] t3, .bytes #[0, 0, 0, 0] t4, .bytes #[0, 0, 0, 0] t5][i]? = some (.bytes zeros4 t) := fun i hi => by
    rcases i with _ | _ | _ | _ | _ | _ | i
    · exact ⟨_, rfl⟩
    · exact ⟨_, rfl⟩
    · exact ⟨_, rfl⟩
    · exact ⟨_, rfl⟩
    · exact ⟨_, rfl⟩
    · exact ⟨_, rfl⟩
    · omega
  have hne : ∀ {o1 : Obj} {q : Addr}, (q, o1) ∈ l → NotTab o1 → q ∉ TT := fun {o1 q} hq hn hT => hn (key_uniq nd hq (tabs q hT))
  have mcc : (c, ocl) ∈ codesOf I σ l' := mem_codes.mpr ⟨hsub _ mc, lmut _ mc, hne mc (by intro e; rw [e] at dcl; cases dcl)⟩
  have mkc : (mk, listOf ks.toArray kn) ∈ codesOf I σ l' := mem_codes.mpr ⟨hsub _ mmk, lmut _ mmk, hne mmk (by intro e; cases congrArg Obj.data e)⟩
  have mvc : (vw, LCg.lst [.bytes #[0, 0, 0, 0] t0, .bytes #[0, 0, 0, 0] t1, .bytes #[0, 0, 0, 0] t2, .bytes #[0, 0, 0, 0] t3, .bytes #[0, 0, 0, 0] t4, .bytes #[0, 0, 0, 0] t5]) ∈ codesOf I σ l' := mem_codes.mpr ⟨.head _, fun h => hvm _ h rfl, fun hT => voff _ (tabs _ hT) rfl⟩
  refine ⟨l', newsPut1 (p := (c, ocl)) (News.sub N fun _ hp => List.Sublist.subset (.cons _ (.cons_cons _ (.cons_cons _ (.cons_cons _ (.cons_cons _ (.cons_cons _ (.cons_cons _ (.cons_cons _ (.cons _ (.cons_cons _ (.cons_cons _ (List.Sublist.refl _)))))))))))) hp) (hsub _ mc), fun o' ho' => ?_⟩
  obtain ⟨r2, T2, m2, K2⟩ := swap_one (o' := o') r T mcc (notCode_cell dcl)
  have vc : vw ≠ c := fun e => voff _ mc e.symm
  have mc' : mk ≠ c := fun e => by
    have := key_uniq nd mc (show (c, listOf ks.toArray kn) ∈ l by rw [← e]; exact mmk)
    rw [this] at dcl; cases dcl
  exact ⟨I, σ, _, ⟨r2, T2, ⟨(fun _ h => nomatch h), (fun _ h => nomatch h)⟩, ⟨o', m2, ho'⟩, ⟨_, K2 _ mvc vc⟩, rfl, hv6, Nat.zero_le _, Nat.zero_le _⟩, K2 _ mkc mc', voff _ mmk⟩
local macro_rules | `(tactic| walk_at "eval ListComp") => `(tactic| (k_dflt (refine' viewL (by k_asm) (by k_asm) (by k_asm) (by k_asm) (by assumption) rfl (by k_asm) ?_; intro h' tk' vw t0 t1 t2 t3 t4 t5 F' N' o1')))
section
variable {prog : Program} {w : World} {p : Program} {loose : List Str} {mean : ExcName → Option Value} {mg mb : Str → Option Value} {dp un : Nat} {gd : Option (List Code)} {cn : Str} {cs : Scope} {a : Addr} {ccd : Value} {A₀ : Around} {base h₀ : Heap} {L : Addr} {m : Str → Option Value} {s : Shared} {l : List (Addr × Obj)} {c mk : Addr} {ocl : Obj}
  {oc dV kV doc pm cdv ct : Value} {an od : Option Addr} {osl : Array (Option Value)} {nm qual : Str} {params : Arguments} {body rest : List Stmt} {st0 st1 : Stmt} {Q : Flow → Shared → Prop}
  (B : Below A₀ base [] h₀) (F : Fr h₀ L s.heap m) (X : (Mine.hd.heap_1 w.params).In h₀) (T : Top p loose mean mg mb h₀)
  (ho : (Mine.hd.heap_1 w.params).lookup 453 = some ⟨oc, od, .func (fnOf nm qual params body cs dV kV doc pm an cdv ct), osl⟩) (hb : body = st0 :: st1 :: rest)
include B F X T ho hb
theorem makeL {ks : List Value} {kn : Nat} (N : News h₀ L s.heap l) (nd : (l.map (·.1)).Nodup) (mc : (c, ocl) ∈ l) (dcl : ocl.data = .cell none) (mmk : (mk, listOf ks.toArray kn) ∈ l) (tabs : ∀ P ∈ TT, (P, tabObj #[]) ∈ l)
    (hret : ∀ h' tk' l' I σ vw ws, Fr h₀ L h' (fun z => if z = Str.ofString "view" then some (.ref vw) else m z) → News h₀ L h' l' → LawSt prog w I c vw l' σ ws 0 → (mk, listOf ks.toArray kn) ∈ codesOf I σ l' → mk ≠ vw → Q .next { s with heap := h', toks := tk' }) :
   wpAny (model prog w) (ktrTop 302 7 gd cn cs L a ccd [(Str.ofString "cache", c)] []) (exec st1 (envX cn cs L a ccd [(Str.ofString "cache", c)])) Q (fun _ _ => False) s := by
  refine' law_at ?h1 fun hL => ?_
  case h1 => exact (show (Mine.hd.heap_1 w.params).lookup 453 = some ⟨_, _, .func (fnOf _ _ _ _ _ _ _ _ _ _ _ _), _⟩ from by k_is)
  have E := law_eq (x := st1) (fun b => nthS 1 b) ho hL (congrArg (fun b => nthS 1 b) hb)
  clear ho hb
  have E1 := E.1
  have E2 := E.2
  clear E
  subst E1 E2
  dsimp only [nthS, forB, tupE, List.tail_cons]
  k_steps
  rename News _ _ _ _ => N9
  obtain ⟨l2, N2, hfin⟩ := make_end N9 nd mc dcl mmk tabs (by assumption) ⟨_, rfl⟩ (by assumption) (by assumption) (by assumption) (by assumption) (by assumption) (by assumption) (by assumption) (by assumption) (by assumption) (show AllLt _ ((_, _) :: (_, _) :: (_, _) :: (_, _) :: (_, _) :: l) from allLt_of (by assumption)) (by assumption) (by assumption) (by assumption) (by assumption)
  clear N9
  k_dflt (refine' storeX_C ?F N2 ?c ?U dcl ?_ ?a ?b; (case a => rfl); (case b => rfl); (case F => k_asm); (case c => rfl); (case U => exact .head (fun p h => by simpa using (mem_rem.mp h).2)))
  intro h2 o2' F2 N3 d2
  obtain ⟨I, σ, ws, S, mk2, nmv⟩ := hfin o2' d2
  clear N2
  k_steps
  exact hret _ _ _ I σ _ ws (by k_asm) (by k_asm) S mk2 nmv
end
theorem list6 {α : Type} : ∀ {l : List α}, l.length = 6 → ∃ a b c d e f, l = [a, b, c, d, e, f]
  | [a, b, c, d, e, f], _ => ⟨a, b, c, d, e, f, rfl⟩
theorem hs3 : ∀ {hs : List Buf}, hs.map (·.k) = down 3 → ∃ V0 V1 V2, hs = [V2, V1, V0] ∧ V0.k = 0 ∧ V1.k = 1 ∧ V2.k = 2
  | [], h => nomatch h
  | [_], h => by simp [down] at h
  | [_, _], h => by simp [down] at h
  | [V2, V1, V0], h => by
    simp [down] at h
    exact ⟨V0, V1, V2, rfl, h.2.2, h.2.1, h.1⟩
  | _ :: _ :: _ :: _ :: _, h => by simp [down] at h
theorem nd6 {h₀ h : Heap} {L c mk : Addr} {oc : Obj} {ks : List Value} {kn : Nat} (N : News h₀ L h [(mk, listOf ks.toArray kn), (c, oc), (436, tabObj #[]), (429, tabObj #[]), (443, tabObj #[]), (450, tabObj #[])]) {v : Option Value} (dc : oc.data = .cell v) :
    ([(mk, listOf ks.toArray kn), (c, oc), (436, tabObj #[]), (429, tabObj #[]), (443, tabObj #[]), (450, tabObj #[])].map (·.1)).Nodup := by
  have e1 : listOf ks.toArray kn ≠ tabObj #[] := fun e => by cases congrArg Obj.data e
  have e2 : oc ≠ tabObj #[] := fun e => by rw [e] at dc; cases dc
  have e3 : listOf ks.toArray kn ≠ oc := fun e => by rw [← e] at dc; cases dc
  have a := news_ne N (p := (mk, listOf ks.toArray kn)) (q := (c, oc)) (by simp) (by simp) e3
  have b1 := news_ne N (p := (mk, listOf ks.toArray kn)) (q := (436, tabObj #[])) (by simp) (by simp) e1
  have b2 := news_ne N (p := (mk, listOf ks.toArray kn)) (q := (429, tabObj #[])) (by simp) (by simp) e1
  have b3 := news_ne N (p := (mk, listOf ks.toArray kn)) (q := (443, tabObj #[])) (by simp) (by simp) e1
  have b4 := news_ne N (p := (mk, listOf ks.toArray kn)) (q := (450, tabObj #[])) (by simp) (by simp) e1
  have c1 := news_ne N (p := (c, oc)) (q := (436, tabObj #[])) (by simp) (by simp) e2
  have c2 := news_ne N (p := (c, oc)) (q := (429, tabObj #[])) (by simp) (by simp) e2
  have c3 := news_ne N (p := (c, oc)) (q := (443, tabObj #[])) (by simp) (by simp) e2
  have c4 := news_ne N (p := (c, oc)) (q := (450, tabObj #[])) (by simp) (by simp) e2
  simp only [List.map_cons, List.map_nil, List.nodup_cons, List.mem_cons, List.not_mem_nil, or_false, not_or, not_false_eq_true, List.nodup_nil, and_true]
  exact ⟨⟨a, b1, b2, b3, b4⟩, ⟨c1, c2, c3, c4⟩, by decide⟩
theorem post_true (args : List WData) : PySem.Challenge.rw_pq0902_01.row.claim.post args (.bool true) args = true := by kernel_rfl
theorem tabs_of {nw : List (Addr × Obj)} (h1 : (436, tabObj #[]) ∈ nw) (h2 : (429, tabObj #[]) ∈ nw) (h3 : (443, tabObj #[]) ∈ nw) (h4 : (450, tabObj #[]) ∈ nw) : ∀ P ∈ TT, (P, tabObj #[]) ∈ nw := fun P hP => by
  unfold TT at hP
  simp only [List.mem_cons, List.not_mem_nil, or_false] at hP
  rcases hP with rfl | rfl | rfl | rfl
  · exact h2
  · exact h1
  · exact h3
  · exact h4
section
variable {prog : Program} {w : World} {p : Program} {loose : List Str} {mean : ExcName → Option Value} {mg mb : Str → Option Value} {gd : Option (List Code)} {cs : Scope} {a : Addr} {A₀ : Around} {base h₀ : Heap} {L : Addr} {m : Str → Option Value} {s : Shared} {l : List (Addr × Obj)} {c mk : Addr} {ocl : Obj}
  {oc dV kV doc pm cdv ct : Value} {an od : Option Addr} {osl : Array (Option Value)} {nm qual : Str} {params : Arguments} {body rest : List Stmt} {st0 : Stmt} {Q : Flow → Shared → Prop}
  (B : Below A₀ base [] h₀) (F : Fr h₀ L s.heap m) (X : (Mine.hd.heap_1 w.params).In h₀) (T : Top p loose mean mg mb h₀) (ZB : base.get? 0 = some (zO w)) (XB : (Mine.hd.heap_1 w.params).In base) (TB : Top p loose mean mg mb base)
  (ho : (Mine.hd.heap_1 w.params).lookup 453 = some ⟨oc, od, .func (fnOf nm qual params body cs dV kV doc pm an cdv ct), osl⟩) (hb : body = st0 :: rest)
include B F X T ZB XB TB ho hb
theorem restL {ks : List Value} {marks : List Int} {kn : Nat} (N : News h₀ L s.heap l) (nd : (l.map (·.1)).Nodup) (mc : (c, ocl) ∈ l) (dcl : ocl.data = .cell none) (mmk : (mk, listOf ks.toArray kn) ∈ l) (tabs : ∀ P ∈ TT, (P, tabObj #[]) ∈ l)
    (hi : IntsAre ks marks) (hpos : ∀ n ∈ marks, 0 ≤ n) (hlen : marks.length ≤ 16) (hvm : m "marks" = some (.ref mk))
    (hret : ∀ h' tk' l' m', Fr h₀ L h' m' → News h₀ L h' l' → (∀ P ∈ TT, ∃ ps, (P, tabObj ps) ∈ l') → Q (.ret (.bool true)) { s with heap := h', toks := tk' }) :
   wpD (model prog w) (ktrTop 302 7 gd (Str.ofString "law") cs L a (.ref 452) [(Str.ofString "cache", c)] []) (execs rest (envX (Str.ofString "law") cs L a (.ref 452) [(Str.ofString "cache", c)])) Q (fun _ _ => False) s := by
  refine' law_at ?h1 fun hL => ?_
  case h1 => exact (show (Mine.hd.heap_1 w.params).lookup 453 = some ⟨_, _, .func (fnOf _ _ _ _ _ _ _ _ _ _ _ _), _⟩ from by k_is)
  have E := law_eq (x := rest) List.tail ho hL (congrArg List.tail hb)
  clear ho hb
  have E1 := E.1
  have E2 := E.2
  clear E
  subst E1 E2
  dsimp only [nthS, forB, tupE, List.tail_cons]
  refine execs_nextD (makeL B F X T hL rfl N nd mc dcl mmk tabs ?_)
  intro h1 tk1 l1 I σ1 vw ws1 F1 N1 S1 mk1 nmv
  dsimp only
  refine wpD_execs_cons (loopL (s := { s with heap := h1, toks := tk1 }) B F1 X T ZB XB TB hL rfl N1 S1 mk1 nmv hi hpos hlen rfl (by show (if _ then _ else _) = _; rw [if_neg (by decide)]; exact hvm) (by show (if _ then _ else _) = _; rw [if_pos rfl]) (by decide) (by decide) ?_)
  intro h2 tk2 l2 σ2 ws2 m2 F2 N2 S2 hvv2
  dsimp only
  obtain ⟨ocl2, mcl2, dcl2⟩ := S2.cell
  obtain ⟨vn, mvw2⟩ := S2.view
  have H0 : HeldSt prog w I c vw ws2 σ2.lat vn 0 σ2 [] ocl2 [] l2 := ⟨S2.rep, S2.tabs, S2.calm.held, mcl2, mvw2, rfl, rfl, rfl, by have := S2.nb; omega, S2.us⟩
  refine wpD_execs_cons (heldL (s := { s with heap := h2, toks := tk2 }) B F2 X T hL rfl N2 H0 dcl2 (by decide) (by decide) ?_)
  intro h3 tk3 D ys news σ3 hs F3 N3 off3 H3
  dsimp only
  obtain ⟨V0, V1, V2, rfl, k0, k1, k2⟩ := hs3 H3.keys
  obtain ⟨r4, T4, mD, K4⟩ := push_one (c := D) (o := LCg.lst ys) H3.rep H3.tabs (off1_mem off3)
  have mV := K4 _ H3.view
  refine execs_nextD (fullL (s := { s with heap := h3, toks := tk3 }) B F3 X T ZB XB TB hL rfl N3 r4 T4 H3.held k0 k1 k2 (K4 _ H3.cell) dcl2 (by decide) (by decide) ?_)
  intro h5 tk5 l5 F5 N5 r5 T5 K5
  dsimp only
  have mD5 := (mem_codes.mp (K5 _ mD)).1
  have mV5 := (mem_codes.mp (K5 _ mV)).1
  rw [H3.vals] at mD5
  have d0 : V0.data = (σ2.lat ((0 : Nat) : Int)).getD zeros4 := by have := H3.held.dat V0 (H3.held.mem V0 (by simp)).1; rw [k0, H3.lat] at this; exact this
  have d1 : V1.data = (σ2.lat ((1 : Nat) : Int)).getD zeros4 := by have := H3.held.dat V1 (H3.held.mem V1 (by simp)).1; rw [k1, H3.lat] at this; exact this
  have d2 : V2.data = (σ2.lat ((2 : Nat) : Int)).getD zeros4 := by have := H3.held.dat V2 (H3.held.mem V2 (by simp)).1; rw [k2, H3.lat] at this; exact this
  obtain ⟨w0, w1, w2, w3, w4, w5, rfl⟩ := list6 S2.len
  obtain ⟨t0, e0⟩ := S2.vals 0 (by decide)
  obtain ⟨t1, e1⟩ := S2.vals 1 (by decide)
  obtain ⟨t2, e2⟩ := S2.vals 2 (by decide)
  obtain ⟨t3, e3⟩ := S2.vals 3 (by decide)
  obtain ⟨t4, e4⟩ := S2.vals 4 (by decide)
  obtain ⟨t5, e5⟩ := S2.vals 5 (by decide)
  rw [← d0] at e0
  rw [← d1] at e1
  rw [← d2] at e2
  obtain rfl : w0 = _ := Option.some.inj e0
  obtain rfl : w1 = _ := Option.some.inj e1
  obtain rfl : w2 = _ := Option.some.inj e2
  obtain rfl : w3 = _ := Option.some.inj e3
  obtain rfl : w4 = _ := Option.some.inj e4
  obtain rfl : w5 = _ := Option.some.inj e5
  refine execs_nextD (retL (s := { s with heap := h5, toks := tk5 }) B F5 X T hL rfl N5 r5 (H3.held.mem V0 (by simp)).1 (H3.held.mem V1 (by simp)).1 (H3.held.mem V2 (by simp)).1 mD5 mV5 (by show (if _ then _ else _) = _; rw [if_pos rfl]) (by show (if _ then _ else _) = _; rw [if_neg (by decide)]; exact hvv2) (by decide) (by decide) ?_)
  intro h6 tk6 F6 N6
  dsimp only
  refine hret h6 tk6 l5 _ F6 N6 fun P hP => ?_
  obtain ⟨q, hq⟩ := TQ_TT P hP
  obtain ⟨ps, hp, _⟩ := T5.tab _ hq
  exact ⟨ps, hp⟩
theorem restG {ks : List Value} {marks : List Int} {kn : Nat} (N : News h₀ L s.heap l) (mmk : (mk, listOf ks.toArray kn) ∈ l) (mc : (c, ocl) ∈ l) (dcl : ocl.data = .cell none) (tabs : ∀ P ∈ TT, (P, tabObj #[]) ∈ l)
    (hi : IntsAre ks marks) (hpos : ∀ n ∈ marks, 0 ≤ n) (hlen : marks.length ≤ 16) (hvm : m "marks" = some (.ref mk))
    (hret : ∀ h' tk' l' m', Fr h₀ L h' m' → News h₀ L h' l' → (∀ P ∈ TT, ∃ ps, (P, tabObj ps) ∈ l') → Q (.ret (.bool true)) { s with heap := h', toks := tk' }) :
   wpD (model prog w) (ktrTop 302 7 gd (Str.ofString "law") cs L a (.ref 452) [(Str.ofString "cache", c)] []) (execs rest (envX (Str.ofString "law") cs L a (.ref 452) [(Str.ofString "cache", c)])) Q (fun _ _ => False) s := by
  have N6 : News h₀ L s.heap [(mk, listOf ks.toArray kn), (c, ocl), (436, tabObj #[]), (429, tabObj #[]), (443, tabObj #[]), (450, tabObj #[])] := News.sub N fun q hq => by
    simp only [List.mem_cons, List.not_mem_nil, or_false] at hq
    rcases hq with rfl | rfl | rfl | rfl | rfl | rfl
    · exact mmk
    · exact mc
    · exact tabs 436 (by decide)
    · exact tabs 429 (by decide)
    · exact tabs 443 (by decide)
    · exact tabs 450 (by decide)
  exact restL B F X T ZB XB TB ho hb N6 (nd6 N6 dcl) (.tail _ (.head _)) dcl (.head _) (tabs_of (.tail _ (.tail _ (.head _))) (.tail _ (.tail _ (.tail _ (.head _)))) (.tail _ (.tail _ (.tail _ (.tail _ (.head _))))) (.tail _ (.tail _ (.tail _ (.tail _ (.tail _ (.head _))))))) hi hpos hlen hvm hret
end
theorem stt : PySem.Challenge.rw_pq0902_01.Holds := by
  refine hd ?_
  k_fill
  intro w s₀ s₁ mg mb G Y fa o pm cd doc dV kV ho hd hcd hD hmg hg args vals as hpre hlay hrd hwl hlo
  have KX := km_in_of Y.1
  have hT8 := km_tabs_of Y.1
  have X := (Ground.X G).1
  have V := (Ground.X G).2
  refine Ground.open G ?_
  intro T B D TE TW
  try (refine guard_noD D (by decide +kernel) ?_; clear D)
  km_lay T hmg ho hd cd
  clear hmg
  wrow_args hpre hlay hrd hwl hlo
  refine enter_callD ?_
  have he := Dflts.none hD rfl
  subst he
  have he := Dflts.noKw hD
  subst he
  refine call_cellsND (by decide) ho (fd_plain hd) (Top.nolimit T) hcd rfl (by exact rfl) (by decide +kernel) fun L h₁ tk cells F N0 Y0 => ?_
  k_cells Y0
  have X' := ghost_K hT9 KX (by kernel_rfl)
  have T' := ghost_top hT9 T
  have B' := ghost_below hT9
  have N' := ghost_news hT9 F N0
  have F' := ghost_fr hT9 F
  kn_lists hT9
  simp only [tabNews, List.map_cons, List.map_nil, List.nil_append, List.cons_append] at N'
  have hbare : AllBare s₁.gens := AllBare.of_eq hg
  clear X V B TE TW hD hg N0 F
  (try dsimp only)
  generalize hgz : ghostOf s₁.heap _ = g0 at *
  show wpD _ (ktrTop 302 7 _ _ _ _ _ _ _ _) _ _ _ _
  refine execs_nextD ?_
  k_steps
  all_goals subst hgz
  all_goals dsimp only
  all_goals show wpD _ (ktrTop 302 7 _ (Str.ofString "law") _ L fa (.ref 452) [(Str.ofString "cache", L + 1)] []) (execs _ (envX (Str.ofString "law") _ L fa (.ref 452) [(Str.ofString "cache", L + 1)])) _ _ _
  · rename News _ _ _ _ => N9
    rename Fr _ _ _ _ => F9
    refine' restG B' F9 X' T' (ghost_ne Y.2 (by decide)) X' T' ?ho ?hb N9 ?mm ?mc ?dc ?tb ?hi ?hp ?hl ?hm ?hr
    case ho => k_is
    case hb => exact rfl
    case mm => exact .head _
    case mc => exact .tail _ (.tail _ (.head _))
    case dc => refine Eq.trans (by assumption) ?_; rfl
    case tb => refine tabs_of ?_ ?_ ?_ ?_ <;> repeat (first | exact .head _ | refine .tail _ ?_)
    case hi => exact .cons _ _ (.cons _ _ (.cons _ _ (.cons _ _ .nil)))
    case hp => decide
    case hl => decide
    case hm => show (if _ then _ else _) = _; rw [if_pos rfl]
    case hr =>
      intro h' tk' l' m' F1 N1 ht
      refine ⟨.inl ⟨_, _, [], rfl, (fun _ => rfl), ReadsW.bool true, ?post, fun _ => ⟨List.nodup_nil, fun _ hm => nomatch hm⟩⟩, oldK_tabs hT9 F1.keep (fun q hq => ?_), rfl, hbare⟩
      case post => exact post_true _
      have hq2 : q.2 ∈ TT := by
        simp only [List.mem_cons, List.not_mem_nil, or_false] at hq
        rcases hq with rfl | rfl | rfl | rfl <;> decide
      obtain ⟨ps, hp⟩ := ht _ hq2
      exact ⟨ps, (N1 _ hp).1⟩
  · rename News _ _ _ _ => N9
    rename Fr _ _ _ _ => F9
    refine' restG B' F9 X' T' (ghost_ne Y.2 (by decide)) X' T' ?ho ?hb N9 ?mm ?mc ?dc ?tb (by assumption) ?hp ?hl ?hm ?hr
    case ho => k_is
    case hb => exact rfl
    case mm => exact .head _
    case mc => exact .tail _ (.tail _ (.tail _ (.head _)))
    case dc => refine Eq.trans (by assumption) ?_; rfl
    case tb => refine tabs_of ?_ ?_ ?_ ?_ <;> repeat (first | exact .head _ | refine .tail _ ?_)
    case hp =>
      intro n hn
      obtain ⟨k', _, rfl⟩ := List.mem_map.mp hn
      rw [Int.fmod_eq_emod_of_nonneg _ (by decide)]
      exact Int.emod_nonneg _ (by decide)
    case hl => rw [List.length_map, List.length_take]; exact Nat.min_le_left _ _
    case hm => show (if _ then _ else _) = _; rw [if_pos rfl]
    case hr =>
      intro h' tk' l' m' F1 N1 ht
      refine ⟨.inl ⟨_, _, [], rfl, (fun _ => rfl), ReadsW.bool true, ?post, fun _ => ⟨List.nodup_nil, fun _ hm => nomatch hm⟩⟩, oldK_tabs hT9 F1.keep (fun q hq => ?_), rfl, hbare⟩
      case post => exact post_true _
      have hq2 : q.2 ∈ TT := by
        simp only [List.mem_cons, List.not_mem_nil, or_false] at hq
        rcases hq with rfl | rfl | rfl | rfl <;> decide
      obtain ⟨ps, hp⟩ := ht _ hq2
      exact ⟨ps, (N1 _ hp).1⟩
end Mine
theorem PySem.Challenge.cw_pq0902_01_holds : PySem.Challenge.rw_pq0902_01.Holds := by
  exact Mine.stt
