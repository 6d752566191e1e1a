import PyProof.Rows.All
import Wide.All
import OpenK.AllK
import Wide.FinOn
import PySem.Challenge.RW_nt0545_01
open PySem PySem.W PyProof.Rows
set_option Elab.async false
set_option maxRecDepth 100000
set_option compiler.extract_closed false

section
namespace Mine
open PySem.Calls

/-- a frame that may hold a bytearray's memory -/
def holder : Code → Bool
  | .builtin id _ => Builtin.Bytes.decodersThatHold.contains id
  | _ => false

/-- the stack below (and here) has no such frame -/
def Quiet (Γ : Ctx) : Prop := holder Γ.code = false ∧ ∀ x ∈ Γ.below, holder x.1 = false

/-- wpAny over the quiet contexts alone -/
def wpIn {α : Type} (M : Model) (A : Around) (t : Sem α) (Q : α → Shared → Prop) (E : Value → Shared → Prop) (s : Shared) : Prop :=
  ∀ Γ p, Γ.In A → Quiet Γ → Sem.wp M Γ t (fun a _ s' => Q a s') (fun e _ s' => E e s') p s

def codeIn (M : Model) (A : Around) (c : Code) (R : Result → Shared → Prop) (s : Shared) : Prop :=
  ∀ Γ p, Γ.code = c → Γ.Below A → (∀ x ∈ Γ.below, holder x.1 = false) → wpCode M Γ R p s

def quietStack (st : List (Code × Pos)) : Bool := st.all fun x => !holder x.1

theorem quietStack_of {Γ : Ctx} {p : Pos} (h : quietStack ((Γ.code, p) :: Γ.below) = true) : Quiet Γ := by
  unfold quietStack at h
  rw [List.all_cons, Bool.and_eq_true] at h
  refine ⟨by simpa using h.1, fun x hx => ?_⟩
  have := List.all_eq_true.mp h.2 x hx
  simpa using this

def guarded {α : Type} (d : α) (t : Sem α) : Sem α := .stack fun st => if quietStack st then t else .pure d

theorem wp_guarded {α : Type} {M : Model} {A : Around} {t : Sem α} {d : α} {Q : α → Shared → Prop} {E : Value → Shared → Prop} {s : Shared}
    (h : wpIn M A t Q E s) (hd : Q d s) : wpAny M A (guarded d t) Q E s := fun Γ p hΓ => by
  unfold guarded
  rw [Sem.wp_stack]
  by_cases q : quietStack ((Γ.code, p) :: Γ.below) = true
  · rw [if_pos q]
    exact h Γ p hΓ (quietStack_of q)
  · rw [if_neg q]
    exact hd

theorem callFrom_unguard {c : ClaimW} {tree : List Value → Sem Fin} {d : Fin} {w : World} {free : Addr → Prop} {gens : Prop} {kept : Heap → Prop} {s : Shared} (hz : s.asleep)
    (H : c.CallFrom (fun vs => ⟨guarded d (tree vs), .builtin "claim.caller" {}, default, []⟩) w free gens kept s) :
    c.CallFrom (fun vs => ⟨tree vs, .builtin "claim.caller" {}, default, []⟩) w free gens kept s := by
  intro args h1 h2 ord h3
  obtain ⟨vs, s₁, hl, n, o, s', hr, rest⟩ := H args h1 h2 ord h3
  refine ⟨vs, s₁, hl, ?_⟩
  have hz₁ : s₁.asleep := Shared.asleep_of_life (layAllW_rest _ _ _ hl).2.2.2 hz
  cases n with
  | zero => cases hr
  | succ m =>
    refine ⟨m, o, s', ?_, rest⟩
    have e := (sstep_single (denote table) c.prog w s₁ ⟨guarded d (tree vs), .builtin "claim.caller" {}, default, []⟩ rfl hz₁).resolve_right (fun q => by cases q)
    have e' : sstep (denote table) c.prog w (.single s₁ ⟨guarded d (tree vs), .builtin "claim.caller" {}, default, []⟩) = .go (.single s₁ ⟨tree vs, .builtin "claim.caller" {}, default, []⟩) := e
    simp only [schedN, e'] at hr
    exact hr

theorem holdsOpenBy_unguard {c : ClaimW} {tree : List Value → Sem Fin} {d : Fin} {defs keeps : List Str} {writes : Bool}
    (H : c.HoldsOpenBy (fun vs => ⟨guarded d (tree vs), .builtin "claim.caller" {}, default, []⟩) defs keeps writes) :
    c.HoldsOpenBy (fun vs => ⟨tree vs, .builtin "claim.caller" {}, default, []⟩) defs keeps writes := by
  obtain ⟨a, b, k⟩ := H
  refine ⟨a, b, fun w => ⟨(k w).1, fun s hs => ?_⟩⟩
  obtain ⟨s₀, f, g, s₁, T, r1, r2, r3, C⟩ := (k w).2 s hs
  refine ⟨s₀, f, g, s₁, T, r1, r2, r3, callFrom_unguard ?_ C⟩
  have hs' : AfterImport (opening c.prog) w s := hs
  have z : s₀.asleep := Shared.asleep_of_life (fence_lifeW f) hs'.life
  exact Shared.asleep_of_life T.2.1 z

abbrev WalkIn (q : Program) (loose : List Str) (XP : (Str → Option Value) → Heap → Prop) (YP : World → Heap → Prop) (r : RowW) (d : DefRec) (kwd : List (Str × Expr)) : Prop :=
  ∀ (w : World) (s₀ s₁ : Shared) (mg mb : Str → Option Value), Ground q loose r.records XP w s₀ mg mb s₁.heap → YP w s₁.heap → ∀ (a : Addr) (o : Obj) (pm cd doc dV kV : Value), s₁.heap.get? a = some o →
    o.data = .func { docDef d.name d.params d.body d.scope pm cd doc with defaults := dV, kwdefaults := kV } → s₁.heap.CodeRec cd d.name → Dflts mg s₁.heap d.params kwd dV kV → mg d.name = some (.ref a) → s₁.gens = #[] →
    ∀ (args : List WData) (vals : List Value) (as : List Addr), r.claim.pre args = true → WData.layableAll args = true → ReadsAllW r.records (classAt s₀.heap) s₁.heap vals args as → WellAll w.params s₁.heap vals args → (∀ a ∈ as, (a == sysModules) = false) →
      wpIn (model r.prog w) callerA (PySem.call (.ref a) vals) (fun v s' => GoodW r.claim (classAt s₀.heap) (ExcName.means s₀.heap) args s₁ (.ok (.ret v)) s')
        (fun e s' => GoodW r.claim (classAt s₀.heap) (ExcName.means s₀.heap) args s₁ (.error e) s') s₁

theorem law_true {l : OpenLaw} {cl : Str → Option Addr} {mean : ExcName → Option Value} {args : List WData} {s₁ : Shared} (hg : s₁.gens = #[]) :
    GoodW l.row.toRowW.claim cl mean args s₁ (.ok (.ret (.bool true))) s₁ :=
  ⟨.inl ⟨_, _, _, rfl, (fun _ => rfl), .bool true, by with_unfolding_all rfl, unshared_nil⟩, (fun _ _ e => e), rfl, hg⟩

theorem PySem.W.holds_open {l : OpenLaw} {q : Program} {loose : List Str} {Xt : Shared → Bool} {XP : (Str → Option Value) → Heap → Prop} {α : Type} {Yf : Shared → α} {Ya : World → α} {YP : World → Heap → Prop} {d : DefRec} {kwd : List (Str × Expr)} {N : Nat}
    (left : LeftO l.row.prog q loose Xt Yf Ya N) (hY : ∀ w s, Yf s = Ya w → YP w s.heap) (hYk : ∀ w h h', YP w h → (∀ b o, h.get? b = some o → h'.get? b = some o) → YP w h')
    (hX : ∀ s, Xt s = true → XP (s.heap.nsMap mainGlobals) s.heap) (hXk : ∀ mg h h', XP mg h → (∀ b o, h.get? b = some o → h'.get? b = some o) → XP mg h')
    (hdef : defOf q l.row.name = some (d, kwd)) (hp : l.row.prog.theDef l.row.name = some (d.params, d.body, d.scope)) (hk : kwWritten? d.params.kwonlyargs d.params.kw_defaults = some kwd) (hRf : ∀ s, Xt s = true → RecFacts l.row.records s.heap) (hwr : (!l.row.writes || l.row.records.isEmpty) = true)
    (k1 : l.row.wellSaid = true) (ok : (chainsOk q && opensWell l.row.prog && (frees l.row.toRowW && l.row.within.isEmpty)) = true) (hb : l.row.prog.bare) (hw : l.row.toRowW.promised)
    (call : WalkIn q loose XP YP l.row.toRowW d kwd) : l.row.Holds := by
  refine ⟨k1, hw, ?_⟩
  let tree : List Value → Sem Fin := fun vs => do match ← nsGet mainNs l.row.name with
      | some f => do ret (← PySem.call f vs)
      | none => unsupported "claim.caller:no-such-global"
  refine holdsOpenBy_unguard (tree := tree) (d := .done (.ret (.bool true))) ?_
  refine open_anyG (r := l.row.toRowW) (run := fun f vs => guarded (.bool true) (PySem.call f vs)) left hY hYk hX hXk hRf hwr ok hb hw
    (fun vs w s mg f Q E hg hf h => ?_) (fun w s hg G n hn => ?_) fun w s₀ s₁ mg mb G Y args vs as hpre hlay L low => ?_
  · intro Γ p hΓ
    have h' := h Γ p hΓ
    unfold guarded at h' ⊢
    rw [Sem.wp_stack] at h' ⊢
    by_cases e : quietStack ((Γ.code, p) :: Γ.below) = true
    · rw [if_pos e] at h' ⊢
      show Sem.wp _ Γ (nsGet mainNs l.row.name >>= _) _ _ p s
      rw [Sem.wp_bind']
      have hn : wpAny (model l.row.prog w) callerA (nsGet mainNs l.row.name) (fun v s' => v = some f ∧ s' = s) (fun _ _ => False) s := wpAny_nsGet hg ⟨hf, rfl⟩
      refine Sem.wp_mono _ Γ _ (fun v p' s' q => ?_) (fun _ _ _ x => x.elim) p s (hn Γ p hΓ)
      obtain ⟨rfl, rfl⟩ := q
      show Sem.wp _ Γ (PySem.call f vs >>= _) _ _ p' _
      rw [Sem.wp_bind']
      have h'' := h Γ p' hΓ
      unfold guarded at h''
      rw [Sem.wp_stack] at h''
      have e'' : quietStack ((Γ.code, p') :: Γ.below) = true := e
      rw [if_pos e''] at h''
      exact Sem.wp_mono _ Γ _ (fun v p' s' q => q) (fun _ _ _ x => x) p' _ h''
    · rw [if_neg e] at h' ⊢
      exact h'
  · obtain rfl : n = l.row.name := by split at hn <;> simp_all
    exact pinned_of_view hg G hdef hp hk
  · obtain ⟨a, o, pm, cd, doc, dV, kV, h1, h2, h3, h4, h5⟩ := G.fn hdef
    refine ⟨.ref a, h1, wpAny_mono (wp_guarded (call w s₀ s₁ mg mb G Y a o pm cd doc dV kV h2 h3 h4 h5 (defOf_name hdef ▸ h1) L.gens args vs as hpre hlay L.reads L.well (L.low low)) (law_true L.gens)) (fun _ _ g => g.toG) fun _ _ g => g.toG⟩

theorem of_one {p q : Program} {loose : List Str} {Xt : Shared → Bool} {α : Type} {Yf : Shared → α} {Ya : World → α} {N M : Nat} {H₀ : Params → Heap} {gs₀ : Array GenState} {d₀ : Drawn} {k₀ m₀ : Nat} {ann : Option Value}
    (open_ : ∀ w : World, (fencedOpening treeTable p w N).map (fun s => (s.heap, s.gens, s.drawn, s.toks)) = some (H₀ w.params, gs₀, d₀, k₀))
    (size : ∀ w : World, ((H₀ w.params).isNs mainGlobals && gs₀.size == 0, (H₀ w.params).objs.size, (H₀ w.params).nsMap mainGlobals "__annotations__") = (true, m₀, ann)) (le : Nat.ble M N = true)
    (run : ∀ w : World, (fun os => (topRun treeTable p w m₀ ann M ⟨H₀ w.params, gs₀, d₀, k₀, os⟩ (topStub p)).map (fun s => (staticsOk (importedModules p.main.body) (H₀ w.params) s.heap && namesBound p s.heap && gensDone s && laidKept (H₀ w.params) s.heap,
      openSeen q loose (importedModules p.main.body) Xt true s, Yf s))) = fun _ => some (true, openGood q loose, Ya w)) : LeftO p q loose Xt Yf Ya N := fun w => by
  obtain ⟨⟨h, gs, d, k, os⟩, e, e'⟩ := Option.map_eq_some_iff.mp (open_ w)
  obtain ⟨rfl, rfl, rfl, rfl⟩ : h = H₀ w.params ∧ gs = gs₀ ∧ d = d₀ ∧ k = k₀ := by simpa using e'
  obtain ⟨z1, z2, z3⟩ : _ ∧ _ ∧ _ := by simpa only [Prod.mk.injEq] using size w
  obtain ⟨s₁, r0, r1⟩ := Option.map_eq_some_iff.mp (congrFun (run w) os)
  obtain ⟨l1, l2, l3⟩ : _ ∧ _ ∧ _ := by simpa only [Prod.mk.injEq] using r1
  have r := topRun_mono (N - M) _ _ _ _ r0
  rw [show M + (N - M) = N by have := Nat.le_of_ble_eq_true le; omega] at r
  have t : topFrom treeTable p w N ⟨H₀ w.params, gs, d, k, os⟩ = some s₁ := by
    unfold topFrom
    dsimp only
    rw [z1, z2, z3, r]
    show (match staticsOk (importedModules p.main.body) (H₀ w.params) s₁.heap && namesBound p s₁.heap && gensDone s₁ && laidKept (H₀ w.params) s₁.heap with | true => _ | false => _) = _
    rw [l1]
  unfold openEnds
  rw [e]
  show (topFrom treeTable p w N _).map _ = _
  rw [t]
  exact congrArg some (Prod.ext l2 l3)
/-- the text without the rows whose names are looked up in the written heap alone -/
def vw : Program := view PySem.Challenge.pw_nt0545_01 [1, 2, 3, 4, 6, 7, 8, 10, 11, 12, 13, 14, 15, 16, 17]

theorem opens (w : World) : (fencedOpening treeTable PySem.Challenge.pw_nt0545_01 w 3460).map (fun s => (s.heap, s.gens, s.drawn, s.toks)) = some (boot_heap w.params, Array.mk [], boot_drawn, boot_toks) :=
  boot_open (by kernel_rfl) (by kernel_rfl) (fun _ => by kernel_rfl) w

theorem head_of {H : Hook} {d : DefRec} {kwd : List (Str × Expr)} (hdef : defOf vw PySem.Challenge.rw_nt0545_01.row.name = some (d, kwd))
    (hp : PySem.Challenge.rw_nt0545_01.row.prog.theDef PySem.Challenge.rw_nt0545_01.row.name = some (d.params, d.body, d.scope)) (hk : kwWritten? d.params.kwonlyargs d.params.kw_defaults = some kwd)
    (left : LeftO PySem.Challenge.pw_nt0545_01 vw [] (fun s => xlAt vw [] s && recOk (RowW.records (OpenRow.toRowW PySem.Challenge.rw_nt0545_01.row)) s) (Hook.obs H) (Hook.val H) 3460)
    (k1 : PySem.Challenge.rw_nt0545_01.row.wellSaid = true) (hw : PySem.Challenge.rw_nt0545_01.row.toRowW.promised) (call : WalkIn vw [] (XL vw []) (Hook.says H) PySem.Challenge.rw_nt0545_01.row.toRowW d kwd) :
    PySem.Challenge.rw_nt0545_01.row.Holds :=
  PySem.W.holds_open left (Hook.of H) (Hook.keeps H) (fun s e => xl_of s (Bool.and_eq_true_iff.mp e).1) XL.keeps hdef hp hk (fun s e => recFacts_of (Bool.and_eq_true_iff.mp e).2) (by rfl) k1 (by decide +kernel) ⟨rfl, rfl, rfl, rfl, rfl, by decide +kernel⟩ hw call

set_option hygiene false in
local macro_rules | `(tactic| o_head $H) => `(tactic| (
  refine head_of (H := $H) (by rfl) (by rfl) (by rfl) (of_one (m₀ := 11) (ann := some (.ref 6)) (M := 3460) opens (fun w => by kernel_rfl) (by kernel_rfl) fun w => ?hl) (by assumption) ?hw ?hc
  case hl =>
    unfold Mine.vw
    rw [PySem.W.Fast.te14886003929157453280, PySem.W.Fast.te14082659384304107361, PySem.W.Fast.te14364793385576792824, PySem.W.Fast.te4187177175401517315, PySem.W.Fast.te5923862056798008813]
    kernel_rfl))

set_option maxRecDepth 100000 in
set_option maxHeartbeats 8000000 in
open_top hd for PySem.Challenge.rw_nt0545_01
end Mine
end

section
namespace Mine
open PySem.Calls

abbrev NoE : Value → Shared → Prop := fun _ _ => False

section
variable {α β : Type} {M : Model} {A : Around} {E : Value → Shared → Prop} {s : Shared}

theorem wpIn_any {t : Sem α} {Q : α → Shared → Prop} (h : wpAny M A t Q E s) : wpIn M A t Q E s := fun Γ p hΓ _ => h Γ p hΓ
theorem codeIn_any {c : Code} {R : Result → Shared → Prop} (h : codeAny M A c R s) : codeIn M A c R s := fun Γ p hc hΓ _ => h Γ p hc hΓ
theorem wpIn_pure {a : α} {Q : α → Shared → Prop} (h : Q a s) : wpIn M A (pure a) Q E s := fun _ _ _ _ => h
theorem wpIn_mono {t : Sem α} {Q Q' : α → Shared → Prop} {E' : Value → Shared → Prop} (h : wpIn M A t Q E s)
    (hQ : ∀ a s, Q a s → Q' a s) (hE : ∀ e s, E e s → E' e s) : wpIn M A t Q' E' s :=
  fun Γ p hΓ q => Sem.wp_mono M Γ t (fun a _ s => hQ a s) (fun e _ s => hE e s) p s (h Γ p hΓ q)
theorem wpIn_bind {m : Sem α} {f : α → Sem β} {Q : β → Shared → Prop} (h : wpIn M A m (fun a s' => wpIn M A (f a) Q E s') E s) :
    wpIn M A (m >>= f) Q E s := fun Γ p hΓ q => by
  rw [Sem.wp_bind']
  exact Sem.wp_mono M Γ m (fun a p' s' h' => h' Γ p' hΓ q) (fun _ _ _ h' => h') p s (h Γ p hΓ q)
theorem wpIn_bindA {m : Sem α} {f : α → Sem β} {Q : β → Shared → Prop} (h : wpAny M A m (fun a s' => wpIn M A (f a) Q E s') E s) :
    wpIn M A (m >>= f) Q E s := wpIn_bind (wpIn_any h)
theorem wpIn_holding {vs : List Value} {m : Sem α} {Q : α → Shared → Prop} (h : wpIn M A m Q E s) : wpIn M A (holding vs m) Q E s :=
  fun Γ p hΓ q => by rw [Sem.wp_holding]; exact h Γ p hΓ q
theorem wpIn_keep {vs : List Value} {m : Sem α} {Q : α → Shared → Prop} (h : wpIn M A m Q E s) : wpIn M A (m.keep vs) Q E s :=
  fun Γ p hΓ q => by rw [Sem.wp_keep]; exact h Γ p hΓ q
theorem wpIn_standAt {pos : Pos} {Q : Unit → Shared → Prop} (h : Q () s) : wpIn M A (standAt pos) Q E s := fun _ _ _ _ => h
theorem wpIn_onRaise {m : Sem α} {k : Value → Sem Unit} {Q : α → Shared → Prop} (h : wpIn M A m Q NoE s) : wpIn M A (m.onRaise k) Q E s := fun Γ p hΓ q => by
  rw [Sem.wp_onRaise]
  exact Sem.wp_mono M Γ m (fun _ _ _ h' => h') (fun _ _ _ h' => h'.elim) p s (h Γ p hΓ q)
theorem wpIn_noE {t : Sem α} {Q : α → Shared → Prop} (h : wpIn M A t Q NoE s) : wpIn M A t Q E s := wpIn_mono h (fun _ _ x => x) fun _ _ x => x.elim
theorem wpAny_noE {t : Sem α} {Q : α → Shared → Prop} (h : wpAny M A t Q NoE s) : wpAny M A t Q E s := wpAny_mono h (fun _ _ x => x) fun _ _ x => x.elim

theorem quiet_below {Γ : Ctx} (h : Quiet Γ) (p : Pos) : ∀ x ∈ (Γ.code, p) :: Γ.below, holder x.1 = false := fun x hx => by
  rcases List.mem_cons.mp hx with rfl | hx
  · exact h.1
  · exact h.2 x hx

theorem wpIn_run {c : Code} {Q : Flow → Shared → Prop}
    (hc : codeIn M A c (fun r s' => match r with | .ok f => Q f s' | .error e => E e s') s) : wpIn M A (run c) Q E s :=
  fun Γ p hΓ q => by rw [Sem.wp_run]; exact hc _ p rfl (hΓ.enter c none p (by intro x; cases x)) (quiet_below q p)
theorem wpIn_call {f : Value} {pos : List Value} {kw : List (Str × Value)} {Q : Value → Shared → Prop}
    (hc : codeIn M A (.call f ⟨pos, kw⟩) (fun r s' => match r with | .ok (.ret v) => Q v s' | .ok _ => False | .error e => E e s') s) :
    wpIn M A (call f pos kw) Q E s := fun Γ p hΓ q => by
  show Sem.wp M Γ (runValue _) _ _ p s
  rw [Sem.wp_runValue]; exact hc _ p rfl (hΓ.enter _ none p (by intro x; cases x)) (quiet_below q p)

theorem codeIn_of_tree {c : Code} {R : Result → Shared → Prop} (hq : holder c = false)
    (h : wpIn M (A.under c) (M.den c) (fun fin s' => match fin with | .done f => R (.ok f) s' | .again c' => c'.quiet = true ∧ codeIn M A c' R s')
      (fun e s' => R (.error e) s') s) : codeIn M A c R s := fun Γ p hc hΓ hb => by
  rw [wpCode_iff_wp, hc]
  refine Sem.wp_mono M Γ _ (fun fin p' s' h' => ?_) (fun _ _ _ h' => h') p s (h Γ p (hc ▸ hΓ.in) ⟨by rw [hc]; exact hq, hb⟩)
  cases fin with
  | done f => exact h'
  | again c' => exact ⟨h'.1, h'.2 (Γ.goto c') p' rfl (hΓ.goto c') hb⟩

theorem codeIn_mono {c : Code} {R R' : Result → Shared → Prop} (h : codeIn M A c R s) (hR : ∀ r s, R r s → R' r s) : codeIn M A c R' s :=
  fun Γ p hc hΓ hb => wpCode_mono hR (h Γ p hc hΓ hb)

theorem codeIn_loop {c : Code} {R : Result → Shared → Prop} (hh : holder c = false) (hq : c.quiet = true) (I : Nat → Shared → Prop)
    (turn : ∀ n s, I n s → wpIn M (A.under c) (M.den c)
      (fun fin s' => match fin with | .done f => R (.ok f) s' | .again c' => c' = c ∧ ∃ m, m < n ∧ I m s') (fun e s' => R (.error e) s') s)
    (n : Nat) (h : I n s) : codeIn M A c R s := by
  induction n using Nat.strongRecOn generalizing s with
  | ind n ih =>
    refine codeIn_of_tree hh (wpIn_mono (turn n s h) (fun fin s' hf => ?_) fun _ _ h' => h')
    cases fin with
    | done f => exact hf
    | again c' => obtain ⟨rfl, m, hm, hI⟩ := hf; exact ⟨hq, ih m hm hI⟩
end

section
variable {M : Model} {A : Around} {E : Value → Shared → Prop} {s : Shared} {env : Env} {Q : Flow → Shared → Prop}

theorem execs_nil_In (h : Q .next s) : wpIn M A (execs [] env) Q E s := fun _ _ _ _ => h
theorem execs_cons_In {st : Stmt} {rest : List Stmt}
    (h : wpIn M A (exec st env) (fun f s' => match f with | .next => wpIn M A (execs rest env) Q E s' | f => Q f s') E s) :
    wpIn M A (execs (st :: rest) env) Q E s := by
  rw [execs_cons]
  refine wpIn_bind (wpIn_mono h (fun f s' h' => ?_) fun _ _ x => x)
  cases f with
  | next => exact h'
  | brk => exact wpIn_pure h'
  | cont => exact wpIn_pure h'
  | ret v => exact wpIn_pure h'
/-- a statement that is walked, then the quiet rest -/
theorem execs_step {st : Stmt} {rest : List Stmt}
    (h : wpAny M A (exec st env) (fun f s' => match f with | .next => wpIn M A (execs rest env) Q E s' | f => Q f s') E s) :
    wpIn M A (execs (st :: rest) env) Q E s := execs_cons_In (wpIn_any h)

theorem exec_If_In {test : Expr} {body orelse : List Stmt} {pos : Pos}
    (h : wpAny M A (isTrue test env (eval test env)) (fun b s₁ => if b = true then wpIn M A (execs body env) Q E s₁ else wpIn M A (execs orelse env) Q E s₁) E s) :
    wpIn M A (exec (.If test body orelse pos) env) Q E s := by
  rw [exec_If]
  refine wpIn_bind (wpIn_standAt (wpIn_bindA (wpAny_mono h (fun b s₁ h₁ => ?_) fun _ _ x => x)))
  cases b with
  | true => exact h₁
  | false => exact h₁

theorem expr_In {e : Expr} {pos : Pos} (h : wpIn M A (eval e env) (fun v s' => v = .none ∧ Q .next s') E s)
    (hi : interactive env = false) (hs : swapsWith e none pos.line env = pure false) :
    wpIn M A (exec (.Expr e pos) env) Q E s := by
  rw [exec_Expr env e pos hi hs]
  refine wpIn_bind (wpIn_standAt (wpIn_bind (wpIn_mono h (fun v s' h' => ?_) fun _ _ x => x)))
  obtain ⟨rfl, h'⟩ := h'
  rw [dropValue_plain (fun a e => by cases e)]
  exact wpIn_pure h'

theorem assign_name_In {x : Str} {pos' pos : Pos} {value : Expr}
    (h : wpIn M A (eval value env) (fun v s' => wpAny M A (storeName env x v) (fun _ s'' => Q .next s'') E s') E s)
    (hs : swapsWith value (some (.Name x pos')) pos.line env = pure false) :
    wpIn M A (exec (.Assign [.Name x pos'] value pos) env) Q E s := by
  rw [exec_Assign_Name env x pos' value pos hs]
  refine wpIn_bind (wpIn_standAt (wpIn_bind (wpIn_mono h (fun v s' h' => ?_) fun _ _ x => x)))
  refine wpIn_bind (wpIn_standAt (wpIn_bindA (wpAny_bindName (wpAny_mono h' (fun _ _ z => wpIn_pure z) fun _ _ x => x))))

theorem method_In {o : Expr} {name : Str} {apos pos : Pos} {args : List Expr} {pl : Sem Bool} {Q : Value → Shared → Prop}
    (h : wpAny M A (eval o env) (fun ov s₁ => wpAny M A (getMethod ov name pl) (fun fx s₂ => wpIn M A (callWith pos fx.1 fx.2 (backTo pos (starEach args env)) []) Q E s₂) E s₁) E s)
    (he : eval (.Call (.Attribute o name apos) args [] pos) env = (do
      let ov ← eval o env
      standAt apos.atName
      let (f, first) ← holding [ov] (getMethod ov name pl)
      callWith pos f first (backTo pos (starEach args env)) [])) :
    wpIn M A (eval (.Call (.Attribute o name apos) args [] pos) env) Q E s := by
  rw [he]
  refine wpIn_bindA (wpAny_mono h (fun ov s₁ h₁ => ?_) fun _ _ x => x)
  refine wpIn_bind (wpIn_standAt (wpIn_bindA (wpAny_holding (wpAny_mono h₁ (fun fx s₂ h₂ => ?_) fun _ _ x => x))))
  exact h₂

theorem callWith_In_of {pos : Pos} {f : Value} {first : List Value} {Q : Value → Shared → Prop} {P : Heap → Prop} {args : List (Bool × Sem Value)} (hplain : args.any (·.1) = false)
    (hk : ∀ h, P h → ∃ k, (k = Keeper.frame ∨ k = Keeper.machine ∨ k = Keeper.boundFrame) ∧ Looks M h (keeperOf f) k)
    (h : wpAny M A (evalArgs f true args []) (fun a s₁ => P s₁.heap ∧ wpIn M A (call f (first ++ a.pos) a.kw) Q E s₁) E s) : wpIn M A (callWith pos f first args []) Q E s := by
  unfold callWith
  refine wpIn_bindA (wpAny_holding (wpAny_mono h (fun a s₁ h₁ => wpIn_bind (wpIn_standAt ?_)) fun _ _ x => x))
  obtain ⟨k, hk', L⟩ := hk _ h₁.1
  simp only [hplain, List.any_nil, Bool.or_false]
  refine wpIn_bindA (L.here ?_)
  have tail : ∀ {t : Sem Value}, wpIn M A t Q E s₁ → wpIn M A (t >>= fun r => holding [r] point >>= fun _ => pure r) Q E s₁ :=
    fun ht => wpIn_bind (wpIn_mono ht (fun r s₂ hr => wpIn_bindA (wpAny_holding (wpAny_point (wpIn_pure hr)))) fun _ _ x => x)
  have marked (mk : Value) : wpIn M A (callMarked mk f (first ++ a.pos) a.kw) Q E s₁ := by unfold callMarked; exact wpIn_keep h₁.2
  rcases hk' with rfl | rfl | rfl <;> dsimp only <;> first | exact tail h₁.2 | (split <;> first | exact tail h₁.2 | exact tail (marked _))

theorem callWith_In0 {K : Frag} {pos : Pos} {f : Value} {first : List Value} {Q : Value → Shared → Prop} (X : K.In s.heap) (hk : keepIn K f = true) (h : wpIn M A (call f (first ++ [])) Q E s) :
    wpIn M A (callWith pos f first (backTo pos (starEach [] env)) []) Q E s := callWith_In_of rfl (keeps_K hk) (evalArgs_nil3 ⟨X, h⟩)
theorem callWith_InS {K : Frag} {pos : Pos} {f : Value} {first : List Value} {Q : Value → Shared → Prop} {e : Expr} {rest : List Expr} (hk : keepIn K f = true)
    (h : wpAny M A (spliced (backTo pos (starEach (e :: rest) env))) (fun vs s₁ => K.In s₁.heap ∧ wpIn M A (call f (first ++ vs)) Q E s₁) E s)
    (he : starEach (e :: rest) env = (false, eval e env) :: starEach rest env := by rfl) (hplain : (backTo pos (starEach rest env)).any (·.1) = false := by rfl) :
    wpIn M A (callWith pos f first (backTo pos (starEach (e :: rest) env)) []) Q E s := by
  rw [he] at h ⊢
  exact callWith_In_of (by show (false || (backTo pos (starEach rest env)).any (·.1)) = false; rw [hplain]; rfl) (keeps_K hk) (evalArgs_plain h)
theorem callWith_InB {pos : Pos} {id : String} {first : List Value} {Q : Value → Shared → Prop} {e : Expr} {rest : List Expr}
    (h : wpAny M A (spliced (backTo pos (starEach (e :: rest) env))) (fun vs s₁ => wpIn M A (call (.builtin id) (first ++ vs)) Q E s₁) E s)
    (he : starEach (e :: rest) env = (false, eval e env) :: starEach rest env := by rfl) (hplain : (backTo pos (starEach rest env)).any (·.1) = false := by rfl) :
    wpIn M A (callWith pos (.builtin id) first (backTo pos (starEach (e :: rest) env)) []) Q E s := by
  rw [he] at h ⊢
  refine callWith_In_of (P := fun _ => True) (by show (false || (backTo pos (starEach rest env)).any (·.1)) = false; rw [hplain]; rfl) (fun h _ => ⟨.machine, .inr (.inl rfl), .now⟩) (evalArgs_plain (wpAny_mono h (fun _ _ z => ⟨trivial, z⟩) fun _ _ z => z))
theorem callWith_InB0 {pos : Pos} {id : String} {first : List Value} {Q : Value → Shared → Prop}
    (h : wpIn M A (call (.builtin id) (first ++ [])) Q E s) :
    wpIn M A (callWith pos (.builtin id) first (backTo pos (starEach [] env)) []) Q E s :=
  callWith_In_of (P := fun _ => True) rfl (fun h _ => ⟨.machine, .inr (.inl rfl), .now⟩) (evalArgs_nil3 ⟨trivial, h⟩)
end

section
variable {prog : Program} {w : World} {A : Around} {E : Value → Shared → Prop} {R : Result → Shared → Prop} {s : Shared}

theorem codeIn_whileLoop {test : Expr} {body : List Stmt} {env : Env} (I : Nat → Shared → Prop)
    (turn : ∀ n s, I n s →
      wpAny (model prog w) A (isTrue test env (eval test env)) (fun b s₂ =>
        if b = true then wpIn (model prog w) A (execs body env) (fun f s₃ => f = .next ∧ ∃ m, m < n ∧ I m s₃) NoE s₂
        else R (.ok .next) s₂) NoE s)
    (n : Nat) (h : I n s) : codeIn (model prog w) A (.whileLoop test body [] env) R s := by
  refine codeIn_loop rfl rfl I (fun n s hI => ?_) n h
  show wpIn _ A ((whileTurn test body [] env).onRaise (fun x => do noteFrame x env; theTreesLotGoes x)) _ _ s
  refine wpIn_onRaise ?_
  simp only [whileTurn]
  refine wpIn_bindA (wpAny_mono (turn n s hI) (fun b s₂ h₂ => ?_) fun _ _ h' => h')
  cases b with
  | false =>
    simp only [Bool.false_eq_true, if_false] at h₂ ⊢
    exact wpIn_bind (execs_nil_In (wpIn_pure h₂))
  | true =>
    simp only [if_true] at h₂ ⊢
    refine wpIn_bind (wpIn_mono h₂ (fun f s₃ h₃ => ?_) fun _ _ h' => h')
    obtain ⟨rfl, h₃⟩ := h₃
    exact wpIn_pure ⟨rfl, h₃⟩

theorem while_In {test : Expr} {body : List Stmt} {env : Env} {pos : Pos} {Q : Flow → Shared → Prop} (I : Nat → Shared → Prop)
    (turn : ∀ n s, I n s →
      wpAny (model prog w) A (isTrue test env (eval test env)) (fun b s₂ =>
        if b = true then wpIn (model prog w) A (execs body env) (fun f s₃ => f = .next ∧ ∃ m, m < n ∧ I m s₃) NoE s₂
        else Q .next s₂) NoE s)
    (n : Nat) (h : I n s) : wpIn (model prog w) A (exec (.While test body [] pos) env) Q E s := by
  rw [exec_While]
  refine wpIn_bind (wpIn_standAt ?_)
  show wpIn _ A ((run _ _).onRaise _) _ _ _
  refine wpIn_onRaise (wpIn_run ?_)
  exact codeIn_whileLoop I (R := fun r s' => match r with | .ok f => Q f s' | .error e => NoE e s') turn n h

theorem codeIn_func {body : List Stmt} {env : Env}
    (h : wpIn (model prog w) (A.deeper env) (execs body env) (fun f s' => R (.ok (.ret (match f with | .ret v => v | _ => .none))) s') NoE s) :
    codeIn (model prog w) A (.func body env) R s := by
  refine codeIn_of_tree rfl ?_
  show wpIn _ (A.deeper env) (do point; match ← (execs body env).onRaise (leaving env) with | .ret v => ret v | _ => ret .none) _ _ s
  refine wpIn_bindA (wpAny_point (wpIn_bind (wpIn_onRaise (wpIn_mono h (fun f s' h' => ?_) fun _ _ h' => h'))))
  cases f <;> exact wpIn_pure h'

theorem codeIn_call_def {a : Addr} {o : Obj} {fd : FuncData} {body : List Stmt} {args : Args} {binds : List (Str × Value)}
    (hroom : A.depth < recursionLimit) (ho : s.heap.get? a = some o) (hdata : o.data = .func fd) (hlim : s.heap.NoLimit) (hcd : s.heap.CodeRec fd.code fd.qualname)
    (hbody : fd.body = .stmts body) (hbind : BindsTo s fd args binds)
    (hcell : ∀ x ∈ fd.scope.names, x.2 ≠ .cell) (hloc : ∀ x ∈ binds, fd.scope.names.lookup x.1 = some .local)
    (h : ∀ h₀, h₀.Ns s.heap.objs.size (fun x => binds.reverse.lookup x) → (∀ b o, s.heap.get? b = some o → h₀.get? b = some o) →
      wpIn (model prog w) (A.deeper (callEnv fd s.heap.objs.size a)) (execs body (callEnv fd s.heap.objs.size a)) (fun f s' => R (.ok (.ret (match f with | .ret v => v | _ => .none))) s') NoE
        { s with heap := h₀, toks := s.toks + binds.length })
    (hco : fd.scope.isCoroutine = false := by rfl) (hgen : fd.scope.isGenerator = false := by rfl) (hk : fd.scope.kind = .function := by rfl) :
    codeIn (model prog w) A (.call (.ref a) args) R s := by
  refine codeIn_of_tree rfl ?_
  show wpIn _ A.in1 (callAny (.ref a) args) _ _ s
  simp only [callAny]
  refine wpIn_bindA (wpAny_load ho ?_)
  obtain ⟨c, oc, vs, tq, hc, hoc, hdc, hq⟩ := hcd
  simp only [hdata, callFunction, hco, hgen, hbody, hc]
  refine wpIn_bindA (m := field (.ref c) 1) (wpAny_field hoc hdc hq (wpIn_bindA (wpAny_pure ?_)))
  refine wpIn_bindA (hbind _ _ _ _ (wpIn_bindA (hc ▸ ?_)))
  refine wpAny_newFunctionEnv hcell hloc (fun h₀ hns₀ hsb₀ => wpIn_bindA (wpAny_enterFrame (hlim.fresh _ hsb₀) hroom (wpIn_pure ⟨rfl, codeIn_func (h h₀ hns₀ fun b o e => ?_)⟩))) hk
  exact hsb₀.extBut b o (Nat.ne_of_lt (Heap.lt_size e)) (Heap.get?_push_of_some _ e)

theorem codeIn_call_builtin {id : String} {args : Args} {b : Builtin} (hh : Builtin.Bytes.decodersThatHold.contains id = false) (hp : plainId id = true) (hb : entryFor table id = some b)
    (h : wpAny (model prog w) A.in1 (checkBuiltinCall id args) (fun _ s₁ => wpIn (model prog w) A.in1 (b args)
      (fun fin s' => ∃ v, fin = .done (.ret v) ∧ R (.ok (.ret v)) s') NoE s₁) NoE s) : codeIn (model prog w) A (.call (.builtin id) args) R s := by
  refine codeIn_of_tree rfl ?_
  show wpIn _ A.in1 (do checkBuiltinCall id args; again (.builtin id args)) _ _ s
  refine wpIn_bindA (wpAny_mono h (fun _ s₁ h₁ => wpIn_pure (And.intro (plainId_quiet hp args) (codeIn_of_tree hh ?_))) fun _ _ h' => h'.elim)
  rw [Around.under_plainId hp]
  show wpIn _ _ (match entryFor table id with | some b => b args | none => unsupported ((withoutEnding? id "#data").getD id)) _ _ s₁
  rw [hb]
  refine wpIn_mono h₁ (fun fin s' h' => ?_) fun _ _ h' => h'.elim
  obtain ⟨v, rfl, hv⟩ := h'
  exact hv
end
end Mine
end

section
namespace Mine
open PySem.Calls PySem.Builtin

abbrev baOf (bs : Array UInt8) : Obj := { cls := .type "bytearray", data := .bytearray bs 0 }

theorem slot_ba_getitem : Slot "bytearray" "__getitem__" "bytearray.__getitem__" :=
  .of (owner := "bytearray") (n := "__getitem__") (by rw [typeLookup_type, builtinLookup_eq_fast]; kernel_rfl) (by decide +kernel) (by decide +kernel) (by decide +kernel)
    (by first | exact .inl (by decide +kernel) | exact .inr (by decide +kernel)) (by rw [isSubtype_type]; kernel_rfl)
theorem slot_ba_setitem : Slot "bytearray" "__setitem__" "bytearray.__setitem__" :=
  .of (owner := "bytearray") (n := "__setitem__") (by rw [typeLookup_type, builtinLookup_eq_fast]; kernel_rfl) (by decide +kernel) (by decide +kernel) (by decide +kernel)
    (by first | exact .inl (by decide +kernel) | exact .inr (by decide +kernel)) (by rw [isSubtype_type]; kernel_rfl)
theorem slot_ba_len : Slot "bytearray" "__len__" "bytearray.__len__" :=
  .of (owner := "bytearray") (n := "__len__") (by rw [typeLookup_type, builtinLookup_eq_fast]; kernel_rfl) (by decide +kernel) (by decide +kernel) (by decide +kernel)
    (by first | exact .inl (by decide +kernel) | exact .inr (by decide +kernel)) (by rw [isSubtype_type]; kernel_rfl)
theorem slot_ba_ne : Slot "bytearray" "__ne__" "bytearray.__ne__" :=
  .of (owner := "bytearray") (n := "__ne__") (by rw [typeLookup_type, builtinLookup_eq_fast]; kernel_rfl) (by decide +kernel) (by decide +kernel) (by decide +kernel)
    (by first | exact .inl (by decide +kernel) | exact .inr (by decide +kernel)) (by rw [isSubtype_type]; kernel_rfl)
theorem slot_ba_append : Slot "bytearray" "append" "bytearray.append" :=
  .of (owner := "bytearray") (n := "append") (by rw [typeLookup_type, builtinLookup_eq_fast]; kernel_rfl) (by decide +kernel) (by decide +kernel) (by decide +kernel)
    (by first | exact .inl (by decide +kernel) | exact .inr (by decide +kernel)) (by rw [isSubtype_type]; kernel_rfl)
theorem slot_ba_pop : Slot "bytearray" "pop" "bytearray.pop" :=
  .of (owner := "bytearray") (n := "pop") (by rw [typeLookup_type, builtinLookup_eq_fast]; kernel_rfl) (by decide +kernel) (by decide +kernel) (by decide +kernel)
    (by first | exact .inl (by decide +kernel) | exact .inr (by decide +kernel)) (by rw [isSubtype_type]; kernel_rfl)
theorem entry_ba_getitem : entryFor table "bytearray.__getitem__" = some Builtin.«bytearray.__getitem__» := entryFor_of_fast (by kernel_rfl)
theorem entry_ba_setitem : entryFor table "bytearray.__setitem__" = some Builtin.«bytearray.__setitem__» := entryFor_of_fast (by kernel_rfl)
theorem entry_ba_len : entryFor table "bytearray.__len__" = some Builtin.«bytearray.__len__» := entryFor_of_fast (by kernel_rfl)
theorem entry_ba_ne : entryFor table "bytearray.__ne__" = some Builtin.«bytearray.__ne__» := entryFor_of_fast (by kernel_rfl)
theorem entry_ba_append : entryFor table "bytearray.append" = some Builtin.«bytearray.append» := entryFor_of_fast (by kernel_rfl)
theorem entry_ba_pop : entryFor table "bytearray.pop" = some Builtin.«bytearray.pop» := entryFor_of_fast (by kernel_rfl)
theorem args_ba_getitem (a b : Value) : argsOk "bytearray.__getitem__" ⟨[a, b], []⟩ := by unfold argsOk; kernel_rfl
theorem args_ba_setitem (a b c : Value) : argsOk "bytearray.__setitem__" ⟨[a, b, c], []⟩ := by unfold argsOk; kernel_rfl
theorem args_ba_len (a : Value) : argsOk "bytearray.__len__" ⟨[a], []⟩ := by unfold argsOk; kernel_rfl
theorem args_ba_ne (a b : Value) : argsOk "bytearray.__ne__" ⟨[a, b], []⟩ := by unfold argsOk; kernel_rfl
theorem args_ba_append (a b : Value) : argsOk "bytearray.append" ⟨[a, b], []⟩ := by unfold argsOk; kernel_rfl
theorem args_ba_pop (a : Value) : argsOk "bytearray.pop" ⟨[a], []⟩ := by unfold argsOk; kernel_rfl
theorem type_ba_append : typeOf (.builtin "bytearray.append") = pure (.type "method_descriptor") := by show builtinType _ = _; rw [builtinType_eq_fast]; kernel_rfl
theorem type_ba_pop : typeOf (.builtin "bytearray.pop") = pure (.type "method_descriptor") := by show builtinType _ = _; rw [builtinType_eq_fast]; kernel_rfl
theorem plain_ba : PlainAttrs "bytearray" := ⟨⟨"bytearray.__getattribute__", by rw [typeLookup_type, builtinLookup_eq_fast]; kernel_rfl, by decide +kernel⟩, by rw [typeLookup_type, builtinLookup_eq_fast]; kernel_rfl⟩

section
variable {prog : Program} {w : World} {A : Around} {E : Value → Shared → Prop} {s : Shared} {a : Addr} {bs : Array UInt8}

theorem ba_type (ho : s.heap.get? a = some (baOf bs)) : s.TypeIs (.ref a) "bytearray" := ⟨_, ho, rfl⟩

theorem ba_payload {Q : Array UInt8 → Shared → Prop} {M : Model} (ho : s.heap.get? a = some (baOf bs)) (h : Q bs s) : wpAny M A (Bytes.payload (.ref a)) Q E s := by
  unfold Bytes.payload Bytes.payload?
  exact wpAny_bind (wpAny_bind (wpAny_load ho (wpAny_pure (wpAny_pure h))))

theorem ba_subscript {Q : Option Int → Shared → Prop} {M : Model} {k : Int} {t : Tok} (hfit : Bytes.fitsIndex k = true) (h : Q (some k) s) : wpAny M A (Bytes.subscript? (.int k t)) Q E s := by
  unfold Bytes.subscript?
  refine wpAny_bind (wpAny_specialOf (T := "int") (typeIs_int s k t) int_index ?_)
  show wpAny M A (asIndex (.int k t) >>= _) Q E s
  refine wpAny_bind (wpAny_of_eq (a := k) rfl ?_)
  show wpAny M A (if (!Bytes.fitsIndex k) = true then _ else _) Q E s
  rw [if_neg (by rw [hfit]; decide)]
  exact wpAny_pure h

theorem ba_byteValue {Q : UInt8 → Shared → Prop} {M : Model} {k : Int} {t : Tok} (h0 : 0 ≤ k) (h1 : k < 256) (h : Q k.toNat.toUInt8 s) : wpAny M A (Bytes.byteValue (.int k t)) Q E s := by
  unfold Bytes.byteValue
  refine wpAny_bind (wpAny_of_eq (a := k) rfl ?_)
  have e : (decide (k < 0) || decide (k ≥ 256)) = false := by simp; omega
  show wpAny M A (if (decide (k < 0) || decide (k ≥ 256)) = true then _ else _) Q E s
  rw [if_neg (by rw [e]; decide)]
  exact wpAny_pure h

theorem ba_write {Q : Unit → Shared → Prop} {M : Model} {f : Array UInt8 → Array UInt8} (ho : s.heap.get? a = some (baOf bs)) (hsz : (f bs).size ≤ sizeLine)
    (h : Q () { s with heap := s.heap.update a (Obj.mapBytearray f) }) : wpAny M A (Bytes.write (.ref a) f) Q E s := by
  show wpAny M A (updateBytearray a f) Q E s
  unfold updateBytearray
  refine wpAny_bind (wpAny_load ho ?_)
  dsimp only
  refine wpAny_bind (wpAny_update ho ?_)
  unfold lookBehind
  have ho' : (s.heap.update a (Obj.mapBytearray f)).get? a = some (baOf (f bs)) := Heap.get?_update_self _ ho rfl
  refine wpAny_bind (wpAny_loadPart ho' ?_)
  have e : (baOf (f bs)).data.pastItsLine = none := by
    show (if (f bs).size > sizeLine then _ else _) = none
    rw [if_neg (by omega)]
  rw [e]
  exact wpAny_pure h

/-- ba[k] -/
theorem ba_getItem {Q : Value → Shared → Prop} {k : Int} {t : Tok} {j : Nat} {x : UInt8} (ho : s.heap.get? a = some (baOf bs)) (hlo : -(2 ^ 63) ≤ k) (hhi : k < 2 ^ 63)
    (hj : seqIndex? k bs.size = some j) (hx : bs[j]? = some x) (h : Q (.int x.toNat s.toks) { s with toks := s.toks + 1 }) : wpAny (model prog w) A (getItem (.ref a) (.int k t)) Q E s := by
  unfold getItem
  try with_reducible refine wpAny_holding ?_
  have hT := ba_type ho
  refine wpAny_bind (wpAny_sequenceKey hT (by decide) ?_)
  refine wpAny_bind (wpAny_callSpecial?_slot (name := Str.ofString "__getitem__") hT slot_ba_getitem
    (wpAny_call_entry slot_ba_getitem hT entry_ba_getitem ?_ (args_ba_getitem _ _)))
  unfold «bytearray.__getitem__»
  refine wpAny_bind (m := slotArgs _ _ _) (wpAny_pure ?_)
  dsimp only
  refine wpAny_bind (ba_subscript (by simp [Bytes.fitsIndex]; omega) ?_)
  dsimp only
  refine wpAny_bind (ba_payload ho ?_)
  rw [hj]
  show wpAny _ _ (match bs[j]? with | some x => _ | none => _) _ _ _
  rw [hx]
  exact wpAny_bind (wpAny_mkInt (wpAny_pure ⟨_, rfl, wpAny_pure h⟩))

/-- ba[k] = v -/
theorem ba_setItem {Q : Unit → Shared → Prop} {k v : Int} {t u : Tok} (ho : s.heap.get? a = some (baOf bs)) (h0 : 0 ≤ k) (hhi : k < 2 ^ 63)
    (hn : k < bs.size) (hv0 : 0 ≤ v) (hv1 : v < 256) (hsz : bs.size ≤ sizeLine)
    (h : Q () { s with heap := s.heap.update a (Obj.mapBytearray (·.setIfInBounds k.toNat v.toNat.toUInt8)) }) : wpAny (model prog w) A (setItem (.ref a) (.int k t) (.int v u)) Q E s := by
  unfold setItem
  try with_reducible refine wpAny_holding ?_
  have hT := ba_type ho
  refine wpAny_bind (wpAny_sequenceKey hT (by decide) ?_)
  refine wpAny_bind (wpAny_callSpecial?_slot (name := Str.ofString "__setitem__") hT slot_ba_setitem
    (wpAny_call_entry slot_ba_setitem hT entry_ba_setitem ?_ (args_ba_setitem _ _ _)))
  unfold «bytearray.__setitem__»
  dsimp only
  simp only [List.isEmpty_nil, Bool.not_true, Bool.false_eq_true, if_false]
  refine wpAny_bind (ba_subscript (by simp [Bytes.fitsIndex]; omega) ?_)
  dsimp only
  refine wpAny_bind (ba_byteValue hv0 hv1 ?_)
  refine wpAny_bind (ba_payload ho ?_)
  have hj : seqIndex? k bs.size = some k.toNat := by
    unfold seqIndex?
    simp only
    split <;> simp_all <;> omega
  rw [hj]
  dsimp only
  refine wpAny_bind (ba_write ho (by simpa using hsz) ?_)
  exact wpAny_pure ⟨.none, rfl, wpAny_pure h⟩

/-- len(ba) -/
theorem ba_len {Q : Value → Shared → Prop} (ho : s.heap.get? a = some (baOf bs)) (hfit : (bs.size : Int) < 2 ^ 63)
    (h : Q (.int bs.size (s.toks + 1)) { s with toks := s.toks + 1 + 1 }) : wpAny (model prog w) A (call (.builtin "len") [.ref a]) Q E s := by
  have hT := ba_type ho
  refine call_function_entry kind_len plain_len entry_len (args_len1 _) ?_
  unfold Builtin.«len»
  refine wpAny_bind (m := oneArg "len" _) (wpAny_pure ?_)
  refine wpAny_bind (m := callSpecial? (.ref a) (Str.ofString "__len__")) (wpAny_callSpecial?_slot (name := Str.ofString "__len__") hT slot_ba_len
    (wpAny_call_entry slot_ba_len hT entry_ba_len ?_ (args_ba_len _)))
  unfold «bytearray.__len__»
  refine wpAny_bind (m := slotArgs _ _ _) (wpAny_pure ?_)
  dsimp only
  refine wpAny_bind (ba_payload ho ?_)
  refine wpAny_bind (wpAny_mkInt (wpAny_pure ⟨_, rfl, ?_⟩))
  refine wpAny_bind (wpAny_holding (wpAny_pure ?_))
  refine wpAny_bind (wpAny_letGo ?_)
  show wpAny _ _ (if ((bs.size : Nat) : Int) < 0 then _ else _) _ _ _
  rw [if_neg (by omega)]
  show wpAny _ _ (if ((bs.size : Nat) : Int) ≥ 2 ^ 63 then _ else _) _ _ _
  rw [if_neg (by omega)]
  exact wpAny_bind (wpAny_mkInt (wpAny_pure ⟨_, rfl, h⟩))

theorem ba_getMethod_append {M : Model} {pl : Sem Bool} {Q : Value × List Value → Shared → Prop} (ho : s.heap.get? a = some (baOf bs))
    (h : Q (.builtin "bytearray.append", [.ref a]) s) : wpAny M A (getMethod (.ref a) "append" pl) Q E s :=
  getMethod_builtin (ba_type ho) plain_ba slot_ba_append type_ba_append (fun b e => by cases e; exact ⟨_, ho, rfl⟩) h
theorem ba_getMethod_pop {M : Model} {pl : Sem Bool} {Q : Value × List Value → Shared → Prop} (ho : s.heap.get? a = some (baOf bs))
    (h : Q (.builtin "bytearray.pop", [.ref a]) s) : wpAny M A (getMethod (.ref a) "pop" pl) Q E s :=
  getMethod_builtin (ba_type ho) plain_ba slot_ba_pop type_ba_pop (fun b e => by cases e; exact ⟨_, ho, rfl⟩) h

/-- no quiet stack holds a bytearray's memory -/
theorem exported_In {M : Model} {v : Value} {Q : Bool → Shared → Prop} (hg : A.guards = some []) (h : Q false s) : wpIn M A (Bytes.exported v) Q E s := fun Γ p hΓ q => by
  unfold Bytes.exported
  show Sem.wp M Γ (.stack _) _ _ p s
  rw [Sem.wp_stack]
  have hno : ∀ x ∈ (Γ.code, p) :: Γ.below, x.1.isGuard = false ∧ holder x.1 = false := fun x hx => by
    refine ⟨?_, quiet_below q p x hx⟩
    have e := hΓ.2.2.2.1 [] hg
    rw [← guardsOf_cons Γ.code p] at e
    cases hgd : x.1.isGuard with
    | false => rfl
    | true =>
      have : x.1 ∈ guardsOf ((Γ.code, p) :: Γ.below) := List.mem_filter.mpr ⟨List.mem_map.mpr ⟨x, hx, rfl⟩, hgd⟩
      rw [e] at this
      cases this
  show Q (List.any ((Γ.code, p) :: Γ.below) _) s
  rw [List.any_eq_false.mpr ?_]
  · exact h
  · intro x hx
    obtain ⟨h1, h2⟩ := hno x hx
    obtain ⟨c, p'⟩ := x
    dsimp only at h1 h2 ⊢
    cases c with
    | builtin id args =>
      obtain ⟨args, kw⟩ := args
      replace h1 : guardIds.contains id = false := h1
      have nd : ∀ t, guardIds.contains t = true → id ≠ t := fun t ht e => by rw [e, ht] at h1; cases h1
      delta PySem.Builtin.Bytes.exported.match_1
      show ¬ (dite (id = "bytearray.__contains__") _ _) = true
      rw [dif_neg (nd _ (by decide +kernel))]
      show ¬ (dite (id = "bytearray.__mod__") _ _) = true
      rw [dif_neg (nd _ (by decide +kernel))]
      show ¬ (dite (id = "bytearray.__rmod__") _ _) = true
      rw [dif_neg (nd _ (by decide +kernel))]
      show ¬ (dite (id = "_struct.pack_into.held") _ _) = true
      rw [dif_neg (nd _ (by decide +kernel))]
      show ¬ (dite (id = "bytearray.find.held") _ _) = true
      rw [dif_neg (nd _ (by decide +kernel))]
      cases args with
      | nil => exact Bool.false_ne_true
      | cons a l =>
        show ¬ (_ && Bytes.decodersThatHold.contains id) = true
        rw [show Bytes.decodersThatHold.contains _ = false from h2, Bool.and_false]
        exact Bool.false_ne_true
    | _ => exact Bool.false_ne_true
end
end Mine
end

section
namespace Mine
open PySem.Calls PySem.Builtin

section
variable {prog : Program} {w : World} {A : Around} {E : Value → Shared → Prop} {s : Shared} {a : Addr} {bs : Array UInt8}

theorem resize_In {M : Model} {Q : Unit → Shared → Prop} (hg : A.guards = some []) (ho : s.heap.get? a = some (baOf bs)) (h : Q () s) : wpIn M A (Bytes.checkResize (.ref a)) Q E s := by
  unfold Bytes.checkResize
  refine wpIn_bind ?_
  show wpIn M A (Bytes.exported (.ref a) >>= _) _ E s
  refine wpIn_bind (exported_In hg ?_)
  show wpIn M A (Bytes.exportsOf (.ref a) >>= _) _ E s
  unfold Bytes.exportsOf
  refine wpIn_bindA (wpAny_bind (wpAny_load ho (wpAny_pure (wpIn_pure ?_))))
  show wpIn M A (if decide (0 > 0) = true then _ else _) _ E s
  rw [if_neg (by decide)]
  exact wpIn_pure h

/-- ba.append(k) -/
theorem ba_append_In {Q : Value → Shared → Prop} {k : Int} {t : Tok} (hg : A.guards = some []) (ho : s.heap.get? a = some (baOf bs)) (h0 : 0 ≤ k) (h1 : k < 256) (hsz : bs.size < sizeLine)
    (h : Q .none { s with heap := s.heap.update a (Obj.mapBytearray (·.push k.toNat.toUInt8)) }) : wpIn (model prog w) A (call (.builtin "bytearray.append") [.ref a, .int k t]) Q E s := by
  have hT := ba_type ho
  refine wpIn_call (codeIn_call_builtin (by decide +kernel) slot_ba_append.plain entry_ba_append (slot_ba_append.check _ _ _ _ _ _ _ _ hT (args_ba_append _ _) ?_))
  unfold «bytearray.append»
  refine wpIn_bindA (m := selfAndOne _ _) (wpAny_pure ?_)
  dsimp only
  refine wpIn_bindA (ba_byteValue h0 h1 ?_)
  refine wpIn_bind (resize_In hg ho ?_)
  refine wpIn_bindA (ba_write ho (by simp only [Array.size_push]; omega) ?_)
  exact wpIn_pure ⟨.none, rfl, h⟩

/-- ba.pop() -/
theorem ba_pop_In {Q : Value → Shared → Prop} (hg : A.guards = some []) (ho : s.heap.get? a = some (baOf bs)) (hne : 0 < bs.size) (hsz : bs.size ≤ sizeLine)
    (h : ∀ v : Int, Q (.int v s.toks) { s with heap := s.heap.update a (Obj.mapBytearray (·.eraseIdxIfInBounds (bs.size - 1))), toks := s.toks + 1 }) : wpIn (model prog w) A (call (.builtin "bytearray.pop") [.ref a]) Q E s := by
  have hT := ba_type ho
  refine wpIn_call (codeIn_call_builtin (by decide +kernel) slot_ba_pop.plain entry_ba_pop (slot_ba_pop.check _ _ _ _ _ _ _ _ hT (args_ba_pop _) ?_))
  unfold «bytearray.pop»
  refine wpIn_bindA (m := selfAndSome _ _ _ _ _) (wpAny_pure ?_)
  dsimp only
  refine wpIn_bindA (wpAny_pure ?_)
  refine wpIn_bindA (ba_payload ho ?_)
  have hemp : bs.isEmpty = false := by rw [Array.isEmpty_eq_false_iff]; intro e; rw [e] at hne; exact absurd hne (by decide)
  rw [if_neg (by rw [hemp]; decide)]
  have hj : seqIndex? (-1) bs.size = some (bs.size - 1) := by
    unfold seqIndex?
    simp only
    split <;> simp_all <;> omega
  have hx : bs[bs.size - 1]? = some (bs[bs.size - 1]'(by omega)) := Array.getElem?_eq_getElem (by omega)
  rw [hj, Option.bind_some, hx, Option.map_some]
  dsimp only
  refine wpIn_bind (resize_In hg ho ?_)
  refine wpIn_bindA (ba_write ho ?_ ?_)
  · rw [Array.eraseIdxIfInBounds]
    split
    · simp only [Array.size_eraseIdx]; omega
    · exact hsz
  · exact wpIn_bindA (wpAny_mkInt (wpIn_pure ⟨_, rfl, h _⟩))

theorem ba_look_buffer : typeLookup (.type "bytearray") "__buffer__" = pure (some (.builtin "bytearray.__buffer__")) := by rw [typeLookup_type, builtinLookup_eq_fast]; kernel_rfl
theorem ba_look_release : typeLookup (.type "bytearray") "__release_buffer__" = pure (some (.builtin "bytearray.__release_buffer__")) := by rw [typeLookup_type, builtinLookup_eq_fast]; kernel_rfl
theorem ba_sub_ba : isSubtype (.type "bytearray") (.type "bytearray") = pure true := by rw [isSubtype_type]; kernel_rfl

theorem ba_ownBuffer {M : Model} {Q : Bool → Shared → Prop} (ho : s.heap.get? a = some (baOf bs)) (h : Q true s) : wpAny M A (Bytes.slotIsOwn (.ref a) "__buffer__") Q E s := by
  unfold Bytes.slotIsOwn
  refine wpAny_bind (wpAny_specialOf (ba_type ho) ba_look_buffer ?_)
  dsimp only
  have e : (!("bytearray.__buffer__".endsWith ("." ++ "__buffer__"))) = false := by decide +kernel
  rw [e]
  simp only [Bool.false_eq_true, if_false]
  have e2 : "bytearray.__buffer__".dropRight ("__buffer__".length + 1) = "bytearray" := by decide +kernel
  rw [e2]
  exact wpAny_isInstance (ba_type ho) ba_sub_ba h
theorem ba_ownRelease {M : Model} {Q : Bool → Shared → Prop} (ho : s.heap.get? a = some (baOf bs)) (h : Q false s) : wpAny M A (Bytes.ownRelease (.ref a)) Q E s := by
  unfold Bytes.ownRelease Bytes.slotIsOwn
  refine wpAny_bind (wpAny_bind (wpAny_specialOf (ba_type ho) ba_look_release ?_))
  dsimp only
  have e : (!("bytearray.__release_buffer__".endsWith ("." ++ "__release_buffer__"))) = false := by decide +kernel
  rw [e]
  simp only [Bool.false_eq_true, if_false]
  have e2 : "bytearray.__release_buffer__".dropRight ("__release_buffer__".length + 1) = "bytearray" := by decide +kernel
  rw [e2]
  exact wpAny_isInstance (ba_type ho) ba_sub_ba (wpAny_pure h)
theorem ba_buffer {M : Model} {id : String} {full : Bool} {Q : Option (Array UInt8) → Shared → Prop} (ho : s.heap.get? a = some (baOf bs)) (h : Q (some bs) s) : wpAny M A (Bytes.buffer? id (.ref a) full) Q E s := by
  unfold Bytes.buffer?
  refine wpAny_bind (wpAny_specialOf (ba_type ho) ba_look_buffer ?_)
  refine wpAny_bind (ba_ownBuffer ho ?_)
  simp only [Bool.not_true, Bool.false_eq_true, if_false]
  refine wpAny_bind (wpAny_specialOf (ba_type ho) ba_look_buffer ?_)
  refine wpAny_bind (ba_ownRelease ho ?_)
  simp only [Bool.false_eq_true, if_false]
  exact wpAny_bind (ba_payload ho (wpAny_pure h))

theorem order_nil (l : List UInt8) : Bytes.holds "__ne__" (Bytes.order l []) = !l.isEmpty := by cases l <;> rfl

/-- ba != b'' -/
theorem ba_ne_nil {Q : Value → Shared → Prop} {t : Tok} (ho : s.heap.get? a = some (baOf bs)) (hu : A.units < cLine) (h : Q (.bool (!bs.toList.isEmpty)) s) :
    wpAny (model prog w) A (compareOp .NotEq (.ref a) (.bytes #[] t)) Q E s := by
  refine cmp_ofNotEq ?_
  unfold richCompare
  have hT := ba_type ho
  try with_reducible refine wpAny_holding ?_
  refine wpAny_bind (wpAny_cRoomFor hu ?_)
  simp only [hT.oneThing_none]
  dsimp only [cmpInfo]
  refine wpAny_bind (wpAny_typeOf hT (wpAny_bind (wpAny_typeOf (PySem.W.typeIs_bytes _ _ _) ?_)))
  have e : (Value.type "bytearray" != Value.type "bytes") = true := by decide
  rw [if_pos e]
  have hs : isSubtype (.type "bytes") (.type "bytearray") = pure false := by rw [isSubtype_type]; kernel_rfl
  refine wpAny_bind (wpAny_of_eq hs ?_)
  simp only [Bool.false_eq_true, if_false]
  refine wpAny_bind (wpAny_tryCompare_slot hT slot_ba_ne (wpAny_call_entry slot_ba_ne hT entry_ba_ne ?_ (args_ba_ne _ _)))
  unfold «bytearray.__ne__»
  show wpAny _ _ (slotArgs "__ne__" 1 _ >>= _) _ _ _
  refine wpAny_bind (m := slotArgs _ _ _) (wpAny_pure ?_)
  dsimp only
  refine wpAny_bind (ba_buffer ho ?_)
  dsimp only
  refine wpAny_bind (wpAny_of_eq PySem.W.KBy.quiet_eq ?_)
  dsimp only
  refine wpAny_pure ⟨_, rfl, fun e => (by cases e), wpAny_pure ?_⟩
  show Q (.bool (Bytes.holds "__ne__" (Bytes.order bs.toList []))) s
  rw [order_nil]
  exact h

theorem ba_no_bytes : typeLookup (.type "bytearray") "__bytes__" = pure none := by rw [typeLookup_type, builtinLookup_eq_fast]; kernel_rfl
theorem ba_no_index : typeLookup (.type "bytearray") "__index__" = pure none := by rw [typeLookup_type, builtinLookup_eq_fast]; kernel_rfl

theorem ba_bytes_new {Q : Value → Shared → Prop} (ho : s.heap.get? a = some (baOf bs)) (hz : bs.size ≤ sizeLine)
    (hQ : Q (.bytes bs s.toks) { s with toks := s.toks + 1 }) :
    codeAny (model prog w) A (.call (.builtin "bytes.__new__") ⟨[.type "bytes", .ref a], []⟩) (wants Q E) s := by
  refine codeAny_of_tree ?_
  show wpAny _ A.in1 (do checkBuiltinCall "bytes.__new__" ⟨[.type "bytes", .ref a], []⟩; again (.builtin "bytes.__new__" ⟨[.type "bytes", .ref a], []⟩)) _ _ s
  refine wpAny_bind (wpAny_of_eq (F.bm_newCall _) (wpAny_pure ⟨plainId_quiet F.bm_plain _, codeAny_builtin F.bm_entry ?_⟩))
  rw [Around.under_plainId F.bm_plain _]
  have hT := ba_type ho
  unfold Builtin.«bytes.__new__»
  refine wpAny_bind (wpAny_of_eq (a := true) rfl ?_)
  refine bm_if_false rfl ?_
  refine wpAny_bind (wpAny_of_eq F.bm_sub ?_)
  refine bm_if_false rfl ?_
  refine wpAny_bind (wpAny_of_eq (F.bm_bind _) ?_)
  refine wpAny_bind (wpAny_of_eq (a := ()) rfl ?_)
  refine wpAny_bind (wpAny_of_eq (a := ()) rfl ?_)
  refine bm_if_false rfl ?_
  refine wpAny_bind (wpAny_specialOf hT ba_no_bytes ?_)
  refine wpAny_bind (wpAny_bind ?_)
  show wpAny _ _ (load a >>= _) _ _ _
  refine wpAny_bind (wpAny_load ho ?_)
  refine wpAny_pure (wpAny_pure ?_)
  refine bm_if_false rfl ?_
  refine wpAny_bind (wpAny_specialOf hT ba_no_index ?_)
  refine bm_if_true rfl ?_
  show wpAny _ _ (Builtin.Bytes.buffer? "bytes.__new__" (.ref a) true >>= _) _ _ _
  refine wpAny_bind (ba_buffer ho ?_)
  dsimp only
  refine wpAny_bind (wpAny_rule ?_)
  refine wpAny_bind (wpAny_mkBytes ?_ hz)
  show wpAny _ _ (if (Value.type "bytes" == Value.type "bytes") = true then _ else _) _ _ _
  refine bm_if_true (by decide) ?_
  first
    | exact wpAny_pure hQ
    | exact wpAny_bind (wpAny_pure (wpAny_pure hQ))

/-- bytes(ba) -/
theorem ba_bytes {Q : Value → Shared → Prop} (ho : s.heap.get? a = some (baOf bs)) (hz : bs.size ≤ sizeLine)
    (hQ : Q (.bytes bs s.toks) { s with toks := s.toks + 1 }) : wpAny (model prog w) A (call (.type "bytes") [.ref a]) Q E s := by
  refine callType_codes (Q₁ := fun obj s₁ => s₁.TypeIs obj "bytes" ∧ Q obj s₁) F.bm_called (F.bm_typeCall _) F.entry_object_init
    (ba_bytes_new ho hz ⟨PySem.W.typeIs_bytes _ _ _, hQ⟩) fun obj s₁ h₁ => ?_
  exact ⟨h₁.1, F.args_object_init_2 obj _, object_init_meets F.bm_called.init.lookup F.bm_called.made (by decide) prog w A.in1 _ s₁ ⟨h₁.1, rfl, h₁.2⟩⟩
end
end Mine
end

section
namespace Mine
open PySem.Calls PySem.Builtin

theorem den_builtin {prog : Program} {w : World} {i : String} {args : Args} {b : Builtin} (hb : entryFor table i = some b) : (model prog w).den (.builtin i args) = b args := by
  show (match entryFor table i with | some b => b args | none => unsupported ((withoutEnding? i "#data").getD i)) = _
  rw [hb]

section
variable {prog : Program} {w : World} {A : Around} {K : Frag} {C x : Addr} {s : Shared} {h₀ : Heap} {L : Addr} {m : Str → Option Value} {news : List (Addr × Obj)} {R : Result → Shared → Prop}
set_option maxHeartbeats 4000000 in
theorem make_coreIn {fI : Addr} {hh : Heap} {g : Array GenState} {d : Drawn} {t : Nat} {os : OsState} (Y : Makes (model prog w) hh C) (hinit : Looks (model prog w) hh (typeLookup (.ref C) "__init__") (some (.ref fI)))
    (hb : ∀ self, Looks (model prog w) hh (bindSpecial (.ref fI) self) (.ref fI, [self]))
    (hq : Mine.codeIn (model prog w) (A.under (.builtin "type.__call__" ⟨[.ref C], []⟩)) (.call (.ref fI) ⟨[.ref (hh.objs.size + 1)], []⟩) (InitBack (hh.objs.size + 1) R) ⟨(hh.push emptyDict).push (instObj C hh.objs.size), g, d, t, os⟩) :
    Mine.codeIn (model prog w) A (.call (.ref C) ⟨[], []⟩) R ⟨hh, g, d, t, os⟩ := by
  have Y' := Y
  obtain ⟨⟨oc, od, cd, sl, hC, e1, e2, e4⟩, made, base, self, top, call, typ⟩ := Y
  refine codeIn_of_tree rfl ?_
  show wpIn _ _ (callAny (.ref C) _) _ _ _
  simp only [callAny]
  refine wpIn_bindA (wpAny_load hC ?_)
  show wpIn _ _ (callAny.viaDunder (.ref C) _) _ _ _
  unfold callAny.viaDunder
  refine wpIn_bindA (call.at ?_)
  dsimp only
  rw [tc_bind]
  refine wpIn_bindA (wpAny_pure (wpIn_bindA (wpAny_pure ?_)))
  refine wpIn_pure (a := Fin.again (.call (.builtin "type.__call__") ⟨[.ref C], []⟩)) (And.intro rfl ?_)
  refine codeIn_of_tree rfl ?_
  show wpIn _ _ (do checkBuiltinCall "type.__call__" ⟨[.ref C], []⟩; again (.builtin "type.__call__" ⟨[.ref C], []⟩)) _ _ _
  refine wpIn_bindA (check_slot tc_kind tc_split typ (tc_args _ _ _) (wpIn_pure ⟨Code.quiet_builtin _ (by decide +kernel), codeIn_of_tree rfl ?_⟩))
  rw [den_builtin entry_typeCall]
  unfold Builtin.«type.__call__»
  have hm' : Looks (model prog w) hh (mroOf (.ref C)) cd.mro := ((Looks.ld (part := none) hC).andThen .now).andThen .now
  have e0 : (Value.ref C == Value.type "type") = false := rfl
  dsimp only
  rw [if_neg (by rw [e0]; exact Bool.false_ne_true)]
  refine wpIn_bindA (hm'.at ?_)
  rw [if_neg (by rw [e4]; exact Bool.false_ne_true)]
  refine wpIn_bindA (made.at ?_)
  dsimp only
  refine wpIn_bindA (wpAny_pure ?_)
  refine wpIn_bindA (wpAny_holding (wpAny_call (new_K Y' hinit (.inl rfl) ?_)))
  have k : ∀ b o, hh.get? b = some o → ((hh.push emptyDict).push (instObj C hh.objs.size)).get? b = some o := fun b o e => Heap.get?_push_of_some _ (Heap.get?_push_of_some _ e)
  have hx : ((hh.push emptyDict).push (instObj C hh.objs.size)).get? (hh.objs.size + 1) = some (instObj C hh.objs.size) := by
    have := Heap.get?_push_size (hh.push emptyDict) (o := instObj C hh.objs.size) rfl
    rwa [Heap.size_push] at this
  have t1 : Looks (model prog w) ((hh.push emptyDict).push (instObj C hh.objs.size)) (typeOf (.ref (hh.objs.size + 1))) (.ref C) := (Looks.ld hx).andThen .now
  have s1 := self.keeps k
  have i1 := hinit.keeps k
  have b1 := (hb (.ref (hh.objs.size + 1))).keeps k
  dsimp only
  refine wpIn_bindA (m := isInstance _ _) ?_
  unfold isInstance
  refine wpAny_bind (t1.at (s1.at ?_))
  rw [if_neg (by decide)]
  refine wpIn_bind (wpIn_holding ?_)
  unfold callSpecial? specialOf
  refine wpIn_bindA (wpAny_bind (t1.at (i1.at ?_)))
  dsimp only
  refine wpIn_holding (wpIn_bindA (b1.at ?_))
  dsimp only
  refine wpIn_bind (wpIn_call (codeIn_mono hq fun r s' z => ?_))
  rcases r with e | (v | _ | _ | _) <;> first | exact z | exact z.elim | skip
  obtain ⟨rfl, z⟩ := z
  exact wpIn_pure (wpIn_pure z)
end
end Mine
end

section
namespace Mine
open PySem.Calls PySem.Builtin

theorem ba_mro : mroOf (.type "bytearray") = pure [.type "bytearray", .type "object"] := by rw [mroOf_type]; kernel_rfl
theorem ba_lookup_new : typeLookup (.type "bytearray") "__new__" = pure (some (.builtin "bytearray.__new__")) := by rw [typeLookup_type, builtinLookup_eq_fast]; kernel_rfl
theorem ba_made : Bind.madeBy (.type "bytearray") = pure (some "bytearray.__new__") := madeBy_type ba_mro ba_lookup_new (by decide +kernel)
theorem ba_typeCall : checkTypeCall "bytearray" ⟨[], []⟩ = pure () := by kernel_rfl
theorem ba_newCall : checkBuiltinCall "bytearray.__new__" ⟨[.type "bytearray"], []⟩ = pure () := by kernel_rfl
theorem ba_new_plain : plainId "bytearray.__new__" = true := by decide +kernel
theorem ba_entry_new : entryFor table "bytearray.__new__" = some Builtin.«list.__new__» := entryFor_alias (id' := "list.__new__") (by kernel_rfl) (by decide +kernel) (by decide +kernel) (by kernel_rfl)
set_option maxRecDepth 1000000 in
set_option maxHeartbeats 4000000 in
theorem ba_owner : ("bytearray.__new__".splitOn ".__new__").headD "" = "bytearray" := by simp +decide [String.splitOn, String.splitOnAux]
theorem slot_ba_init : Slot "bytearray" "__init__" "bytearray.__init__" :=
  .of (owner := "bytearray") (n := "__init__") (by rw [typeLookup_type, builtinLookup_eq_fast]; kernel_rfl) (by decide +kernel) (by decide +kernel) (by decide +kernel)
    (by first | exact .inl (by decide +kernel) | exact .inr (by decide +kernel)) (by rw [isSubtype_type]; kernel_rfl)
theorem entry_ba_init : entryFor table "bytearray.__init__" = some Builtin.«bytearray.__init__» := entryFor_of_tree (by kernel_rfl)
theorem args_ba_init (a : Value) : argsOk "bytearray.__init__" ⟨[a], []⟩ := by unfold argsOk; kernel_rfl
theorem ba_bind : Bytes.bindOptional "bytearray.__init__" "bytearray" ["source", "encoding", "errors"] [] [] = pure [none, none, none] := by kernel_rfl
theorem ba_canCreate : ((Manifest.find? "bytearray").bind (·.mro.findSome? fun t => (Manifest.find? t).bind fun b => if b.noNew then some true else if b.attrs.any (·.1 == "__new__") then some false else none)).getD false = false := by decide +kernel

section
variable {prog : Program} {w : World} {A : Around} {E : Value → Shared → Prop} {s : Shared}

theorem code_ba_new {Q₁ : Value → Shared → Prop} (h : Q₁ (.ref s.heap.objs.size) { s with heap := s.heap.push (baOf #[]) }) :
    codeAny (model prog w) A (.call (.builtin "bytearray.__new__") ⟨[.type "bytearray"], []⟩) (wants Q₁ E) s := by
  refine codeAny_of_tree ?_
  show wpAny _ A.in1 (do checkBuiltinCall "bytearray.__new__" ⟨[.type "bytearray"], []⟩; again (.builtin "bytearray.__new__" ⟨[.type "bytearray"], []⟩)) _ _ s
  refine wpAny_bind (wpAny_of_eq ba_newCall (wpAny_pure ⟨plainId_quiet ba_new_plain _, codeAny_builtin_stack ba_entry_new rfl fun p st => ?_⟩))
  rw [Around.under_plainId ba_new_plain _]
  have hsub := ba_sub_ba
  have hown := ba_owner
  obtain ⟨hp, g, d, tk, os⟩ := s
  simp only [hown]
  wp_walk
  exact h

theorem wpIn_ifF {α : Type} {M : Model} {A : Around} {x y : Sem α} {Q : α → Shared → Prop} {E : Value → Shared → Prop} {s : Shared} (h : wpIn M A y Q E s) : wpIn M A (if false = true then x else y) Q E s := h
theorem ba_init_In {Q : Value → Shared → Prop} {a : Addr} {bs : Array UInt8} (hg : A.guards = some []) (ho : s.heap.get? a = some (baOf bs)) (h : Q .none { s with heap := s.heap.update a (Obj.mapBytearray fun _ => #[]) }) :
    wpIn (model prog w) A (call (.builtin "bytearray.__init__") [.ref a]) Q E s := by
  have hT := ba_type ho
  refine wpIn_call (codeIn_call_builtin (by decide +kernel) slot_ba_init.plain entry_ba_init (slot_ba_init.check _ _ _ _ _ _ _ _ hT (args_ba_init _) ?_))
  unfold «bytearray.__init__»
  refine wpIn_bindA (ba_ownRelease ho ?_)
  refine wpIn_ifF ?_
  refine wpIn_bindA (wpAny_of_eq ba_bind ?_)
  refine wpIn_bindA (wpAny_of_eq (a := ()) rfl ?_)
  refine wpIn_bindA (wpAny_of_eq (a := ()) rfl ?_)
  refine wpIn_bind ?_
  show wpIn _ _ (Bytes.exported (.ref a) >>= _) _ _ s
  refine wpIn_bind (exported_In hg ?_)
  show wpIn _ _ (Bytes.exportsOf (.ref a) >>= _) _ _ s
  unfold Bytes.exportsOf
  refine wpIn_bindA (wpAny_bind (wpAny_load ho (wpAny_pure (wpIn_pure ?_))))
  show wpIn _ _ (if decide (0 > 0) = true then _ else _) _ _ s
  rw [if_neg (by decide)]
  refine wpIn_bindA (ba_write ho (Nat.zero_le _) ?_)
  simp only [Option.isSome_none, Bool.false_eq_true, if_false]
  exact wpIn_bindA (wpAny_pure (wpIn_pure ⟨.none, rfl, h⟩))

/-- bytearray() -/
theorem call_ba_In {Q : Value → Shared → Prop} (hg : A.guards = some []) (h : ∀ h', h' = (s.heap.push (baOf #[])).update s.heap.objs.size (Obj.mapBytearray fun _ => #[]) → Q (.ref s.heap.objs.size) { s with heap := h' }) :
    wpIn (model prog w) A (call (.type "bytearray") []) Q E s := by
  refine wpIn_call (codeIn_of_tree rfl ?_)
  show wpIn _ _ (callAny (.type "bytearray") _) _ _ _
  refine wpIn_pure ⟨Code.quiet_builtin _ (by decide +kernel), codeIn_of_tree rfl ?_⟩
  rw [den_builtin F.entry_type_call, Around.under_plain (weight_type_call_type "bytearray" [] []) (units_type_call_type "bytearray" [] [])]
  unfold Builtin.«type.__call__»
  dsimp only
  rw [if_neg (by decide)]
  rw [ba_canCreate]
  simp only [Bool.false_eq_true, if_false]
  refine wpIn_bindA (wpAny_of_eq ba_typeCall ?_)
  refine wpIn_bindA (wpAny_of_eq ba_mro ?_)
  simp only [List.isEmpty_cons, Bool.false_eq_true, if_false]
  refine wpIn_bindA (wpAny_of_eq ba_made ?_)
  dsimp only
  refine wpIn_bindA (wpAny_pure ?_)
  have hnew := code_ba_new (prog := prog) (w := w) (A := A.in1) (E := NoE) (s := s) (Q₁ := fun v s' => v = .ref s.heap.objs.size ∧ s' = { s with heap := s.heap.push (baOf #[]) }) ⟨rfl, rfl⟩
  refine wpIn_bindA (wpAny_noE (wpAny_holding (wpAny_mono (wpAny_call hnew) (fun v s' q => ?_) fun _ _ q => q)))
  obtain ⟨rfl, rfl⟩ := q
  have ho : ({ s with heap := s.heap.push (baOf #[]) } : Shared).heap.get? s.heap.objs.size = some (baOf #[]) := Heap.get?_push_size _ rfl
  have hT := ba_type ho
  refine wpIn_bindA (wpAny_isInstance hT ba_sub_ba ?_)
  simp only [Bool.not_true, Bool.false_eq_true, if_false]
  refine wpIn_bind (wpIn_holding ?_)
  unfold callSpecial?
  refine wpIn_bindA (wpAny_specialOf hT slot_ba_init.lookup ?_)
  simp only [slot_ba_init.bind]
  refine wpIn_holding (wpIn_bindA (wpAny_pure ?_))
  dsimp only
  refine wpIn_bind (ba_init_In hg ho ?_)
  exact wpIn_pure (wpIn_pure (h _ rfl))

theorem call_name_In {M : Model} {env : Env} {x : Str} {p pos : Pos} {args : List Expr} {Q : Value → Shared → Prop}
    (h : wpAny M A (eval (.Name x p) env) (fun f s₁ => wpIn M A (callWith pos f [] (backTo pos (starEach args env)) []) Q E s₁) E s) :
    wpIn M A (eval (.Call (.Name x p) args [] pos) env) Q E s := wpIn_bindA h

theorem callWith_InT0 {M : Model} {env : Env} {pos : Pos} {T : String} {Q : Value → Shared → Prop} (h : wpIn M A (call (.type T) []) Q E s) :
    wpIn M A (callWith pos (.type T) [] (backTo pos (starEach [] env)) []) Q E s :=
  callWith_In_of (P := fun _ => True) rfl (fun h _ => ⟨.machine, .inr (.inl rfl), .now⟩) (evalArgs_nil3 ⟨trivial, h⟩)

theorem call_ba_news {h₀ : Heap} {L : Addr} {m : Str → Option Value} {news : List (Addr × Obj)} {Q : Value → Shared → Prop} (hg : A.guards = some []) (F : Fr h₀ L s.heap m) (N : News h₀ L s.heap news)
    (h : ∀ (x : Nat) h', Fr h₀ L h' m → News h₀ L h' ((x, baOf #[]) :: news) → (∀ p ∈ news, p.1 < x) → Q (.ref x) { s with heap := h' }) :
    wpIn (model prog w) A (call (.type "bytearray") []) Q E s := by
  refine call_ba_In hg fun h' e => ?_
  have lt : ∀ p ∈ news, p.1 < s.heap.objs.size := fun p hp => Heap.lt_size (N p hp).1
  obtain ⟨F', N'⟩ := news_upd (pre := []) (f := Obj.mapBytearray fun _ => #[]) (o' := baOf #[]) (F.push (baOf #[])) (N.push F (baOf #[])) (fun p hp => nomatch hp) (fun p hp => Nat.ne_of_lt (lt p hp)) rfl rfl
  subst e
  exact h _ _ F' N' lt

theorem ba_news_upd {h₀ h : Heap} {L a : Addr} {m : Str → Option Value} {pre post : List (Addr × Obj)} {bs : Array UInt8} {f : Array UInt8 → Array UInt8} (F : Fr h₀ L h m) (N : News h₀ L h (pre ++ (a, baOf bs) :: post))
    (h1 : ∀ p ∈ pre, p.1 ≠ a) (h2 : ∀ p ∈ post, p.1 ≠ a) : Fr h₀ L (h.update a (Obj.mapBytearray f)) m ∧ News h₀ L (h.update a (Obj.mapBytearray f)) (pre ++ (a, baOf (f bs)) :: post) :=
  news_upd F N h1 h2 rfl rfl
end
end Mine
end

section
set_option genInjectivity false
set_option genSizeOf false
set_option genSizeOfSpec false
namespace Mine
open PySem.Calls

/-- what stands of the text -/
structure Grd (w : World) (mean : ExcName → Option Value) (mg mb : Str → Option Value) (g : Heap) : Prop where
  X : (Mine.hd.heap_39 w.params).In g
  T : Top Mine.vw (looseW Mine.vw []) mean mg mb g

theorem Grd.keeps {w : World} {mean : ExcName → Option Value} {mg mb : Str → Option Value} {g h : Heap} (G : Grd w mean mg mb g) (k : ∀ b o, g.get? b = some o → h.get? b = some o) : Grd w mean mg mb h :=
  ⟨G.X.keeps k, G.T.keeps k⟩

abbrev prg : Program := PySem.Challenge.rw_nt0545_01.row.prog

def Apart (g h : Heap) (l : List (Addr × Obj)) : Prop := ∀ p ∈ l, h.get? p.1 = some p.2 ∧ g.get? p.1 = none

/-- a call's contract: the objects it touches, what it hands back -/
def SpecA (w : World) (dn un : Nat) (f : Addr) (args : List Value) (pre : List (Addr × Obj)) (post : Nat → Value → List (Addr × Obj) → Prop) : Prop :=
  ∀ (mean : ExcName → Option Value) (mg mb : Str → Option Value) (A : Around) (g : Heap) (s : Shared) (R : Result → Shared → Prop), A.handled = none → A.guards = some [] → A.depth + dn < recursionLimit → A.units + un < cLine →
    Grd w mean mg mb g → g.StaysIn s.heap → g.objs.size ≤ s.heap.objs.size → Apart g s.heap pre →
    (∀ v new h' tk', post s.heap.objs.size v new → g.StaysIn h' → Apart g h' new → R (.ok (.ret v)) { s with heap := h', toks := tk' }) →
    codeAny (model PySem.Challenge.rw_nt0545_01.row.prog w) A (.call (.ref f) ⟨args, []⟩) R s
def SpecI (w : World) (dn un : Nat) (f : Addr) (args : List Value) (pre : List (Addr × Obj)) (post : Nat → Value → List (Addr × Obj) → Prop) : Prop :=
  ∀ (mean : ExcName → Option Value) (mg mb : Str → Option Value) (A : Around) (g : Heap) (s : Shared) (R : Result → Shared → Prop), A.handled = none → A.guards = some [] → A.depth + dn < recursionLimit → A.units + un < cLine →
    Grd w mean mg mb g → g.StaysIn s.heap → g.objs.size ≤ s.heap.objs.size → Apart g s.heap pre →
    (∀ v new h' tk', post s.heap.objs.size v new → g.StaysIn h' → Apart g h' new → R (.ok (.ret v)) { s with heap := h', toks := tk' }) →
    Mine.codeIn (model PySem.Challenge.rw_nt0545_01.row.prog w) A (.call (.ref f) ⟨args, []⟩) R s

section
variable {w : World} {mean : ExcName → Option Value} {mg mb : Str → Option Value} {A : Around} {g : Heap} {s : Shared} {R : Result → Shared → Prop} {pre : List (Addr × Obj)}
variable {name qual : Str} {params : Arguments} {body : List Stmt} {scope : Scope} {dV kV doc pm cdv ct oc : Value} {an od : Option Addr} {osl : Array (Option Value)} {f : Addr} {args : Args} {binds : List (Str × Value)}

theorem enter_fr {m : Str → Option Value} {h₁ : Heap} (hst : g.StaysIn s.heap) (hsz : g.objs.size ≤ s.heap.objs.size) (hap : Apart g s.heap pre)
    (hns : h₁.Ns s.heap.objs.size m) (hk₁ : ∀ b o, s.heap.get? b = some o → h₁.get? b = some o) :
    Fr g s.heap.objs.size h₁ m ∧ News g s.heap.objs.size h₁ pre ∧ ∀ p ∈ pre, p.1 < s.heap.objs.size :=
  ⟨⟨hns, fun b o e => hk₁ b o (hst b o e), hsz⟩, fun p hp => ⟨hk₁ _ _ (hap p hp).1, Nat.ne_of_lt (Heap.lt_size (hap p hp).1), (hap p hp).2⟩, fun p hp => Heap.lt_size (hap p hp).1⟩

theorem enter_A (G : Grd w mean mg mb g) (hst : g.StaysIn s.heap) (hsz : g.objs.size ≤ s.heap.objs.size) (hap : Apart g s.heap pre)
    (ho : (Mine.hd.heap_39 w.params).lookup f = some ⟨oc, od, .func (fnOf name qual params body scope dV kV doc pm an cdv ct), osl⟩) (hcd : PySem.W.codeIn (Mine.hd.heap_39 w.params) cdv qual = true) (hroom : A.depth < recursionLimit)
    (hbind : BindsTo s (fnOf name qual params body scope dV kV doc pm an cdv ct) args binds) (hloc : ∀ y ∈ binds, scope.names.lookup y.1 = some .local)
    (h : ∀ L h₁, Fr g L h₁ (fun y => binds.reverse.lookup y) → News g L h₁ pre → (∀ p ∈ pre, p.1 < L) → L = s.heap.objs.size →
      wpAny (model PySem.Challenge.rw_nt0545_01.row.prog w) (A.deeper (envOf qual scope L f cdv)) (execs body (envOf qual scope L f cdv))
        (fun fl s' => R (.ok (.ret (match fl with | .ret v => v | _ => .none))) s') NoE { s with heap := h₁, toks := s.toks + binds.length })
    (hco : scope.isCoroutine = false) (hgen : scope.isGenerator = false) (hk : scope.kind = .function)
    (hcell : ∀ x ∈ scope.names, x.2 ≠ .cell) : codeAny (model PySem.Challenge.rw_nt0545_01.row.prog w) A (.call (.ref f) args) R s := by
  refine codeAny_call_def (fd := fnOf name qual params body scope dV kV doc pm an cdv ct) (body := body) (binds := binds) hroom (hst _ _ (G.X _ _ ho)) rfl (G.T.nolimit.keeps hst) (codeRec_of (G.X.keeps hst) hcd) rfl hbind hcell hloc (fun h₁ hns hk₁ => ?_) hco hgen hk
  obtain ⟨F, N, l⟩ := enter_fr hst hsz hap hns hk₁
  exact wpAny_noE (h _ h₁ F N l rfl)

theorem enter_I (G : Grd w mean mg mb g) (hst : g.StaysIn s.heap) (hsz : g.objs.size ≤ s.heap.objs.size) (hap : Apart g s.heap pre)
    (ho : (Mine.hd.heap_39 w.params).lookup f = some ⟨oc, od, .func (fnOf name qual params body scope dV kV doc pm an cdv ct), osl⟩) (hcd : PySem.W.codeIn (Mine.hd.heap_39 w.params) cdv qual = true) (hroom : A.depth < recursionLimit)
    (hbind : BindsTo s (fnOf name qual params body scope dV kV doc pm an cdv ct) args binds) (hloc : ∀ y ∈ binds, scope.names.lookup y.1 = some .local)
    (h : ∀ L h₁, Fr g L h₁ (fun y => binds.reverse.lookup y) → News g L h₁ pre → (∀ p ∈ pre, p.1 < L) → L = s.heap.objs.size →
      wpIn (model PySem.Challenge.rw_nt0545_01.row.prog w) (A.deeper (envOf qual scope L f cdv)) (execs body (envOf qual scope L f cdv))
        (fun fl s' => R (.ok (.ret (match fl with | .ret v => v | _ => .none))) s') NoE { s with heap := h₁, toks := s.toks + binds.length })
    (hco : scope.isCoroutine = false) (hgen : scope.isGenerator = false) (hk : scope.kind = .function)
    (hcell : ∀ x ∈ scope.names, x.2 ≠ .cell) : Mine.codeIn (model PySem.Challenge.rw_nt0545_01.row.prog w) A (.call (.ref f) args) R s := by
  refine codeIn_call_def (fd := fnOf name qual params body scope dV kV doc pm an cdv ct) (body := body) (binds := binds) hroom (hst _ _ (G.X _ _ ho)) rfl (G.T.nolimit.keeps hst) (codeRec_of (G.X.keeps hst) hcd) rfl hbind hcell hloc (fun h₁ hns hk₁ => ?_) hco hgen hk
  obtain ⟨F, N, l⟩ := enter_fr hst hsz hap hns hk₁
  exact h _ h₁ F N l rfl
end

/-- a ledger is what is touched and what is not -/
inductive Split : List (Addr × Obj) → List (Addr × Obj) → List (Addr × Obj) → Prop where
  | done {l : List (Addr × Obj)} : Split l [] l
  | left {x : Addr × Obj} {l p r : List (Addr × Obj)} : Split l p r → Split (x :: l) (x :: p) r
  | right {x : Addr × Obj} {l p r : List (Addr × Obj)} : Split l p r → Split (x :: l) p (x :: r)
theorem Split.mem {l p r : List (Addr × Obj)} (h : Split l p r) : (∀ x ∈ p, x ∈ l) ∧ ∀ x ∈ r, x ∈ l := by
  induction h with
  | done => exact ⟨fun x hx => (nomatch hx), fun x hx => hx⟩
  | left _ ih => exact ⟨fun x hx => by
      rcases List.mem_cons.mp hx with rfl | hx
      · exact .head _
      · exact .tail _ (ih.1 x hx), fun x hx => .tail _ (ih.2 x hx)⟩
  | right _ ih => exact ⟨fun x hx => .tail _ (ih.1 x hx), fun x hx => by
      rcases List.mem_cons.mp hx with rfl | hx
      · exact .head _
      · exact .tail _ (ih.2 x hx)⟩

section
variable {w : World} {mean : ExcName → Option Value} {mg mb : Str → Option Value} {A : Around} {s : Shared} {h₀ : Heap} {L : Addr} {m : Str → Option Value} {news pre rest : List (Addr × Obj)}

theorem frame_rule (F : Fr h₀ L s.heap m) (N : News h₀ L s.heap news) (hsp : Split news pre rest) (hne : ∀ p ∈ rest, ∀ q ∈ pre, p.1 ≠ q.1) :
    h₀.StaysIn (hideAll s.heap (pre.map (·.1))) ∧ (hideAll s.heap (pre.map (·.1))).StaysIn s.heap ∧ Apart (hideAll s.heap (pre.map (·.1))) s.heap pre ∧
    ∀ new h', (hideAll s.heap (pre.map (·.1))).StaysIn h' → Apart (hideAll s.heap (pre.map (·.1))) h' new → Fr h₀ L h' m ∧ News h₀ L h' (new ++ rest) ∧ ∀ p ∈ new, ∀ q ∈ rest, p.1 ≠ q.1 := by
  have np : ∀ p ∈ pre, p ∈ news := hsp.mem.1
  have nr : ∀ p ∈ rest, p ∈ news := hsp.mem.2
  have nm : ∀ b o, h₀.get? b = some o → b ∉ pre.map (·.1) := fun b o e q => by
    obtain ⟨p, hp, rfl⟩ := List.mem_map.mp q
    rw [(N p (np p hp)).2.2] at e; cases e
  have st : h₀.StaysIn (hideAll s.heap (pre.map (·.1))) := fun b o e => hideAll_get _ (F.keep b o e) (nm b o e)
  obtain ⟨oL, es, ep, hL, hLd, hLk, hLf⟩ := F.ns
  have nL : L ∉ pre.map (·.1) := fun q => by
    obtain ⟨p, hp, e⟩ := List.mem_map.mp q
    exact (N p (np p hp)).2.1 e
  have hLg := hideAll_get (pre.map (·.1)) hL nL
  have hrest : ∀ p ∈ rest, (hideAll s.heap (pre.map (·.1))).get? p.1 = some p.2 := fun p hp => hideAll_get _ (N p (nr p hp)).1 fun q => by
    obtain ⟨q', hq, e⟩ := List.mem_map.mp q
    exact hne p hp q' hq e.symm
  refine ⟨st, fun b o e => of_hideAll _ e, fun p hp => ⟨(N p (np p hp)).1, hideAll_none _ (List.mem_map_of_mem hp)⟩, fun new h' k ap => ⟨⟨⟨oL, es, ep, k _ _ hLg, hLd, hLk, hLf⟩, fun b o e => k b o (st b o e), F.above⟩, fun p hp => ?_, fun p hp q hq e => ?_⟩⟩
  · rcases List.mem_append.mp hp with hp | hp
    · obtain ⟨a1, a2⟩ := ap p hp
      refine ⟨a1, fun q => ?_, ?_⟩
      · rw [q, hLg] at a2; cases a2
      · cases q : h₀.get? p.1 with
        | none => rfl
        | some o => rw [st _ _ q] at a2; cases a2
    · exact ⟨k _ _ (hrest p hp), (N p (nr p hp)).2⟩
  · have a2 := (ap p hp).2
    rw [e, hrest q hq] at a2
    cases a2

theorem use_A {E : Value → Shared → Prop} {dn un : Nat} {f : Addr} {args : List Value} {post : Nat → Value → List (Addr × Obj) → Prop} {Q : Value → Shared → Prop} (S : SpecA w dn un f args pre post)
    (hh : A.handled = none) (hg : A.guards = some []) (hd : A.depth + dn < recursionLimit) (hu : A.units + un < cLine)
    (F : Fr h₀ L s.heap m) (N : News h₀ L s.heap news) (G : Grd w mean mg mb h₀) (hsp : Split news pre rest) (hne : ∀ p ∈ rest, ∀ q ∈ pre, p.1 ≠ q.1)
    (h : ∀ v new h' tk', (∀ p ∈ news, p.1 < s.heap.objs.size) → post s.heap.objs.size v new → Fr h₀ L h' m → News h₀ L h' (new ++ rest) → Q v { s with heap := h', toks := tk' }) :
    wpAny (model PySem.Challenge.rw_nt0545_01.row.prog w) A (call (.ref f) args) Q E s := by
  obtain ⟨a1, a2, a3, a4⟩ := frame_rule F N hsp hne
  refine wpAny_call (S mean mg mb A _ s _ hh hg hd hu (G.keeps a1) a2 (Nat.le_of_eq (hideAll_size _ _)) a3 fun v new h' tk' hp k ap => ?_)
  obtain ⟨F', N', ne⟩ := a4 new h' k ap
  exact h v new h' tk' (fun p q => Heap.lt_size (N p q).1) hp F' N'
theorem use_I {E : Value → Shared → Prop} {dn un : Nat} {f : Addr} {args : List Value} {post : Nat → Value → List (Addr × Obj) → Prop} {Q : Value → Shared → Prop} (S : SpecI w dn un f args pre post)
    (hh : A.handled = none) (hg : A.guards = some []) (hd : A.depth + dn < recursionLimit) (hu : A.units + un < cLine)
    (F : Fr h₀ L s.heap m) (N : News h₀ L s.heap news) (G : Grd w mean mg mb h₀) (hsp : Split news pre rest) (hne : ∀ p ∈ rest, ∀ q ∈ pre, p.1 ≠ q.1)
    (h : ∀ v new h' tk', (∀ p ∈ news, p.1 < s.heap.objs.size) → post s.heap.objs.size v new → Fr h₀ L h' m → News h₀ L h' (new ++ rest) → Q v { s with heap := h', toks := tk' }) :
    wpIn (model PySem.Challenge.rw_nt0545_01.row.prog w) A (call (.ref f) args) Q E s := by
  obtain ⟨a1, a2, a3, a4⟩ := frame_rule F N hsp hne
  refine wpIn_call (S mean mg mb A _ s _ hh hg hd hu (G.keeps a1) a2 (Nat.le_of_eq (hideAll_size _ _)) a3 fun v new h' tk' hp k ap => ?_)
  obtain ⟨F', N', ne⟩ := a4 new h' k ap
  exact h v new h' tk' (fun p q => Heap.lt_size (N p q).1) hp F' N'

/-- the end of a contract's walk -/
theorem spec_end {R : Result → Shared → Prop} {post : Value → List (Addr × Obj) → Prop} {g h' : Heap} {tk : Nat} {v : Value} {new news' : List (Addr × Obj)} {m' : Str → Option Value}
    (hR : ∀ v new h' tk', post v new → g.StaysIn h' → Apart g h' new → R (.ok (.ret v)) { s with heap := h', toks := tk' })
    (F : Fr g L h' m') (N : News g L h' news') (hp : post v new) (hn : ∀ p ∈ new, p ∈ news') : R (.ok (.ret v)) { s with heap := h', toks := tk } :=
  hR v new h' tk hp F.keep (fun p q => ⟨(N p (hn p q)).1, (N p (hn p q)).2.2⟩)
/-- the end where the ledger holds what was touched and no more -/
theorem spec_same {R : Result → Shared → Prop} {post : Value → List (Addr × Obj) → Prop} {g h' : Heap} {tk : Nat} {v : Value} {new : List (Addr × Obj)} {m' : Str → Option Value}
    (hR : ∀ v new h' tk', post v new → g.StaysIn h' → Apart g h' new → R (.ok (.ret v)) { s with heap := h', toks := tk' })
    (F : Fr g L h' m') (N : News g L h' new) (hp : post v new) : R (.ok (.ret v)) { s with heap := h', toks := tk } :=
  spec_end hR F N hp (fun _ h => h)
end

section
variable {w : World} {C fI : Addr} {rest : List Value} {dn un : Nat} {P : Addr → Addr → List (Addr × Obj) → Prop}

theorem two_new {g hp : Heap} (hst : g.StaysIn hp) (hsz : g.objs.size ≤ hp.objs.size) (C : Addr) :
    g.StaysIn ((hp.push emptyDict).push (instObj C hp.objs.size)) ∧ g.objs.size ≤ ((hp.push emptyDict).push (instObj C hp.objs.size)).objs.size ∧
    Apart g ((hp.push emptyDict).push (instObj C hp.objs.size)) [(hp.objs.size + 1, instObj C hp.objs.size), (hp.objs.size, emptyDict)] := by
  have s1 : (hp.push emptyDict).objs.size = hp.objs.size + 1 := Heap.size_push _ _
  have s2 : ((hp.push emptyDict).push (instObj C hp.objs.size)).objs.size = hp.objs.size + 1 + 1 := by rw [Heap.size_push, s1]
  have out : ∀ b, hp.objs.size ≤ b → g.get? b = none := fun b hb => by
    cases q : g.get? b with
    | none => rfl
    | some o => exact absurd (Heap.lt_size q) (Nat.not_lt.mpr (Nat.le_trans hsz hb))
  refine ⟨fun b o e => Heap.get?_push_of_some _ (Heap.get?_push_of_some _ (hst b o e)), by rw [s2]; omega, fun p hp' => ?_⟩
  rcases List.mem_cons.mp hp' with rfl | hp'
  · exact ⟨by rw [← s1]; exact Heap.get?_push_size _ rfl, out _ (Nat.le_succ _)⟩
  · obtain rfl := List.mem_singleton.mp hp'
    exact ⟨Heap.get?_push_of_some _ (Heap.get?_push_size _ rfl), out _ (Nat.le_refl _)⟩

theorem under_make {A : Around} {a : Args} {C : Addr} {rest : List Value} (e : a.pos = .ref C :: rest) : (A.under (.builtin "type.__call__" a)).handled = A.handled ∧ (A.under (.builtin "type.__call__" a)).guards = A.guards ∧
    (A.under (.builtin "type.__call__" a)).depth = A.depth + 1 ∧ (A.under (.builtin "type.__call__" a)).units = A.units + 1 := by
  obtain ⟨p, k⟩ := a
  dsimp only at e
  subst e
  refine ⟨rfl, ?_, rfl, rfl⟩
  show pushGuards [] A.guards = A.guards
  rw [pushGuards_eq]
  cases A.guards <;> rfl

theorem class_A (hm : makesIn (Mine.hd.heap_39 w.params) C = true) (hi : findIn (Mine.hd.heap_39 w.params) (.ref C) "__init__" = some (some (.ref fI))) (hf : typeIn (Mine.hd.heap_39 w.params) (.ref fI) = some (.type "function"))
    (S : ∀ x dx, dx < x → SpecA w dn un fI (.ref x :: rest) [(x, instObj C dx), (dx, emptyDict)] (fun _ v new => v = .none ∧ P x dx new)) :
    SpecA w (dn + 1) (un + 1) C rest [] (fun b v new => ∃ x dx : Nat, b ≤ dx ∧ dx < x ∧ v = .ref x ∧ P x dx new) := by
  intro mean mg mb A g s R hh hg hd hu G hst hsz hap hR
  have X' := G.X.keeps hst
  obtain ⟨hp, gens, d, tk, os⟩ := s
  refine make_core (C := C) (init := .ref fI) (makes_of X' hm) (looks_findIn X' hi) (fun self => bind_fn X' self hf) (.inl rfl) ?_
  have hst' : g.StaysIn hp := hst
  have hsz' : g.objs.size ≤ hp.objs.size := hsz
  obtain ⟨a1, a2, a3⟩ := two_new hst' hsz' C
  obtain ⟨u1, u2, u3, u4⟩ := under_make (A := A) (a := ⟨.ref C :: rest, []⟩) rfl
  refine S (hp.objs.size + 1) hp.objs.size (Nat.lt_succ_self _) mean mg mb _ g ⟨(hp.push emptyDict).push (instObj C hp.objs.size), gens, d, tk, os⟩ _ (u1.trans hh) (u2.trans hg) (by rw [u3]; omega) (by rw [u4]; omega) G a1 a2 a3 ?_
  rintro v new h' tk' ⟨rfl, hp'⟩ k ap
  exact ⟨rfl, hR _ new h' tk' ⟨_, _, Nat.le_refl _, Nat.lt_succ_self _, rfl, hp'⟩ k ap⟩

theorem class_I (hm : makesIn (Mine.hd.heap_39 w.params) C = true) (hi : findIn (Mine.hd.heap_39 w.params) (.ref C) "__init__" = some (some (.ref fI))) (hf : typeIn (Mine.hd.heap_39 w.params) (.ref fI) = some (.type "function"))
    (S : ∀ x dx, dx < x → SpecI w dn un fI [.ref x] [(x, instObj C dx), (dx, emptyDict)] (fun _ v new => v = .none ∧ P x dx new)) :
    SpecI w (dn + 1) (un + 1) C [] [] (fun b v new => ∃ x dx : Nat, b ≤ dx ∧ dx < x ∧ v = .ref x ∧ P x dx new) := by
  intro mean mg mb A g s R hh hg hd hu G hst hsz hap hR
  have X' := G.X.keeps hst
  obtain ⟨hp, gens, d, tk, os⟩ := s
  refine make_coreIn (C := C) (fI := fI) (makes_of X' hm) (looks_findIn X' hi) (fun self => bind_fn X' self hf) ?_
  have hst' : g.StaysIn hp := hst
  have hsz' : g.objs.size ≤ hp.objs.size := hsz
  obtain ⟨a1, a2, a3⟩ := two_new hst' hsz' C
  obtain ⟨u1, u2, u3, u4⟩ := under_make (A := A) (a := ⟨[.ref C], []⟩) rfl
  refine S (hp.objs.size + 1) hp.objs.size (Nat.lt_succ_self _) mean mg mb _ g ⟨(hp.push emptyDict).push (instObj C hp.objs.size), gens, d, tk, os⟩ _ (u1.trans hh) (u2.trans hg) (by rw [u3]; omega) (by rw [u4]; omega) G a1 a2 a3 ?_
  rintro v new h' tk' ⟨rfl, hp'⟩ k ap
  exact ⟨rfl, hR _ new h' tk' ⟨_, _, Nat.le_refl _, Nat.lt_succ_self _, rfl, hp'⟩ k ap⟩
end
end Mine
end

section
namespace Mine
open PySem.Calls


theorem fmod_bnd (x : Int) {y : Int} (hy : 0 < y) : 0 ≤ x.fmod y ∧ x.fmod y < y := ⟨Int.fmod_nonneg_of_pos x hy, Int.fmod_lt_of_pos x hy⟩
theorem ok_mod (x b : Int) : IntMulOk (x.fmod 2147483647) b := by
  obtain ⟨h1, h2⟩ := fmod_bnd x (y := 2147483647) (by decide)
  exact IntMulOk.of_left (PySem.intBits_le_64 (by omega) (by omega))
local macro_rules | `(tactic| walk_at "binaryOp Mult int int") => `(tactic| (with_unfolding_all refine PyProof.Rows.mul_int (hm := ok_mod _ _) ?_))
set_option maxHeartbeats 8000000 in
theorem take_spec {w : World} {src : Addr} {d m top : Int} {td tm tt : Tok} {n : Nat} (h0 : 0 ≤ d) (hm : 0 ≤ m) (hm1 : m < 2147483647) (ht : 0 < top) (ht1 : top < 1000) :
    SpecA w 1 8 235 [.ref src, .int top tt] [(src, listOf #[.int d td, .int m tm] n)]
      (fun _ v new => ∃ r d' m' t td' tm' n', v = .int r t ∧ 0 ≤ r ∧ r < top ∧ 0 ≤ d' ∧ 0 ≤ m' ∧ m' < 2147483647 ∧ new = [(src, listOf #[.int d' td', .int m' tm'] n')]) := by
  intro mean mg mb A g s R hh hg hd hu G hst hsz hap hR
  refine' enter_A ?kG ?kst ?ksz ?kap ?ho ?hcd ?hroom ?hb ?hl ?_ ?c1 ?c2 ?c3 ?c4
  (case kG => assumption); (case kst => assumption); (case ksz => assumption); (case kap => assumption)
  (case ho => k_is); (case hcd => k_is); (case hroom => omega); (case hb => exact BindsTo.of_eq rfl); (case hl => exact locs rfl)
  (case c1 => exact rfl); (case c2 => exact rfl); (case c3 => exact rfl); (case c4 => decide)
  intro L h₁ F' N' l1 hL
  (have KX := Grd.X (by assumption)); (have T := Grd.T (by assumption)); (try dsimp only); (try k_lt l1); (show wpAny _ _ _ _ _ _); k_fold
  k_steps
  all_goals (try dsimp only)
  all_goals k_unfold
  all_goals (try dsimp only)
  · exact spec_same hR (by assumption) (by assumption) ⟨_, _, _, _, _, _, _, rfl, (fmod_bnd _ ht).1, (fmod_bnd _ ht).2, Int.fdiv_nonneg h0 (Int.le_of_lt ht), hm, hm1, rfl⟩
  · exact spec_same hR (by assumption) (by assumption) ⟨_, _, _, _, _, _, _, rfl, (fmod_bnd _ ht).1, (fmod_bnd _ ht).2, h0, (fmod_bnd _ (by decide)).1, (fmod_bnd _ (by decide)).2, rfl⟩
end Mine
end

section
namespace Mine
open PySem.Calls

abbrev BinsD (P : Params) (t1 t2 : Tok) (st se : Addr) : Obj :=
  dictOf [⟨PyData.keyHash P (Str.ofString "states"), .str (Str.ofString "states") t1, .ref st⟩, ⟨PyData.keyHash P (Str.ofString "senses"), .str (Str.ofString "senses") t2, .ref se⟩] 2
abbrev EncD (P : Params) (t1 t2 t3 t4 : Tok) (size code left : Value) (fnd : Addr) : Obj :=
  dictOf [⟨PyData.keyHash P (Str.ofString "size"), .str (Str.ofString "size") t1, size⟩, ⟨PyData.keyHash P (Str.ofString "code"), .str (Str.ofString "code") t2, code⟩,
    ⟨PyData.keyHash P (Str.ofString "left"), .str (Str.ofString "left") t3, left⟩, ⟨PyData.keyHash P (Str.ofString "found"), .str (Str.ofString "found") t4, .ref fnd⟩] 4

set_option maxHeartbeats 8000000 in
theorem bins_init {w : World} {t2 : Tok} (x dx : Nat) (hx : dx < x) :
    SpecA w 1 10 144 [.ref x, .int 2 t2] [(x, instObj 147 dx), (dx, emptyDict)] (fun _ v new => v = .none ∧ ∃ (st se : Nat) (a b u1 v1 u2 v2 : Tok), x < st ∧ st < se ∧
      new = [(x, instObj 147 dx), (dx, BinsD w.params a b st se), (st, listOf #[.int 0 u1, .int 0 v1] 0), (se, listOf #[.int 0 u2, .int 0 v2] 0)]) := by
  intro mean mg mb A g s R hh hg hd hu G hst hsz hap hR
  refine' enter_A ?kG ?kst ?ksz ?kap ?ho ?hcd ?hroom ?hb ?hl ?_ ?c1 ?c2 ?c3 ?c4
  (case kG => assumption); (case kst => assumption); (case ksz => assumption); (case kap => assumption)
  (case ho => k_is); (case hcd => k_is); (case hroom => omega); (case hb => first | exact BindsTo.of_eq rfl | exact binds_K (G.X.keeps hst) rfl (by k_is) rfl rfl rfl); (case hl => exact locs rfl)
  (case c1 => exact rfl); (case c2 => exact rfl); (case c3 => exact rfl); (case c4 => decide)
  intro L h₁ F' N' l1 hL
  (have KX := Grd.X (by assumption)); (have T := Grd.T (by assumption)); (try dsimp only); (try k_lt l1); (show wpAny _ _ _ _ _ _); k_fold
  k_steps
  (try dsimp only)
  (try k_unfold)
  (try dsimp only)
  rename_i l1' _ _ N1
  refine' spec_end hR (by assumption) N1 ⟨rfl, _, _, _, _, _, _, _, _, ?o1, ?o2, rfl⟩ ?mem
  case mem => k_allIn
  case o1 => omega
  case o2 => exact l1'.2.1

theorem assign_attr_In {M : Model} {A : Around} {E : Value → Shared → Prop} {s : Shared} {env : Env} {o : Expr} {attr : Str} {pos' pos : Pos} {value : Expr} {Q : Flow → Shared → Prop}
    (h : wpIn M A (eval value env) (fun v s₁ => wpAny M A (eval o env) (fun ov s₂ => wpAny M A (setAttr ov attr v) (fun _ => Q .next) E s₂) E s₁) E s)
    (hs : swapsWith value (some (.Attribute o attr pos')) pos.line env = pure false) :
    wpIn M A (exec (.Assign [.Attribute o attr pos'] value pos) env) Q E s := fun Γ p hΓ q => by
  simp only [plainObj_exec_Assign_Attribute o attr pos' value pos hs, assign_Attribute, Sem.wp_bind', Sem.wp_holding, Sem.wp_cmd_standAt, Sem.wp_release, Sem.wp_pure']
  exact Sem.wp_mono M Γ _ (fun v p₁ s₁ h₁ => Sem.wp_mono M Γ _ (fun ov _ s₂ h₂ => h₂ Γ _ hΓ) (fun _ _ _ h' => h') _ _ (h₁ Γ p₁ hΓ)) (fun _ _ _ h' => h') _ _ (h Γ _ hΓ q)

set_option maxHeartbeats 8000000 in
theorem enc_init {w : World} (x dx : Nat) (hx : dx < x) :
    SpecI w 1 12 179 [.ref x] [(x, instObj 217 dx), (dx, emptyDict)] (fun _ v new => v = .none ∧ ∃ (fnd : Nat) (a b c d u1 u2 u3 : Tok), x < fnd ∧
      new = [(x, instObj 217 dx), (dx, EncD w.params a b c d (.int 65536 u1) (.int 0 u2) (.int 11 u3) fnd), (fnd, baOf #[])]) := by
  intro mean mg mb A g s R hh hg hd hu G hst hsz hap hR
  refine' enter_I ?kG ?kst ?ksz ?kap ?ho ?hcd ?hroom ?hb ?hl ?_ ?c1 ?c2 ?c3 ?c4
  (case kG => assumption); (case kst => assumption); (case ksz => assumption); (case kap => assumption)
  (case ho => k_is); (case hcd => k_is); (case hroom => omega); (case hb => first | exact BindsTo.of_eq rfl | exact binds_K (G.X.keeps hst) rfl (by k_is) rfl rfl rfl); (case hl => exact locs rfl)
  (case c1 => exact rfl); (case c2 => exact rfl); (case c3 => exact rfl); (case c4 => decide)
  intro L h₁ F' N' l1 hL
  (have KX := Grd.X (by assumption)); (have T := Grd.T (by assumption)); (try dsimp only); (try k_lt l1)
  iterate 3 (refine execs_step ?_; (show wpAny _ _ _ _ _ _); k_fold; k_steps; (try dsimp only))
  refine execs_cons_In (assign_attr_In ?_ rfl)
  refine call_name_In ?_
  k_fold
  k_steps
  (try k_unfold)
  (try dsimp only)
  refine callWith_InT0 (call_ba_news hg (by assumption) (by assumption) fun fnd h5 F5 N5 l5 => ?_)
  k_lt l5
  (show wpAny _ _ _ _ _ _)
  k_fold
  k_steps
  (try k_unfold)
  (try dsimp only)
  refine execs_nil_In ?_
  dsimp only
  rename_i N6
  refine' spec_end hR (by assumption) N6 ⟨rfl, _, _, _, _, _, _, _, _, ?o1, rfl⟩ ?mem
  case mem => k_allIn
  case o1 => exact l5.1

/-- Bins(2) -/
theorem bins_spec {w : World} {t2 : Tok} : SpecA w 2 11 147 [.int 2 t2] [] (fun b v new => ∃ x dx : Nat, b ≤ dx ∧ dx < x ∧ v = .ref x ∧ ∃ (st se : Nat) (a b u1 v1 u2 v2 : Tok), x < st ∧ st < se ∧
      new = [(x, instObj 147 dx), (dx, BinsD w.params a b st se), (st, listOf #[.int 0 u1, .int 0 v1] 0), (se, listOf #[.int 0 u2, .int 0 v2] 0)]) :=
  class_A (fI := 144) (by k_is) (by k_is) (by k_is) fun x dx hx => bins_init x dx hx
/-- QmEncoder() -/
theorem enc_spec {w : World} : SpecI w 2 13 217 [] [] (fun b v new => ∃ x dx : Nat, b ≤ dx ∧ dx < x ∧ v = .ref x ∧ ∃ (fnd : Nat) (a b c d u1 u2 u3 : Tok), x < fnd ∧
      new = [(x, instObj 217 dx), (dx, EncD w.params a b c d (.int 65536 u1) (.int 0 u2) (.int 11 u3) fnd), (fnd, baOf #[])]) :=
  class_I (fI := 179) (by k_is) (by k_is) (by k_is) fun x dx hx => enc_init x dx hx
end Mine
end

section
namespace Mine
open PySem.Calls

/-- the four numbers of a row of the table that stands at the top -/
noncomputable def rowOf (P : Params) (j : Nat) : List (Int × Tok) := match (Mine.hd.heap_39 P).lookup (15 + j) with
  | some ⟨.type n, none, .seq its 0, sl⟩ => if n == "tuple" && sl.size == 0 then its.toList.filterMap (fun v => match v with | .int i t => some (i, t) | _ => none) else []
  | _ => []
noncomputable def rowOk (P : Params) (j : Nat) : Bool := match (Mine.hd.heap_39 P).lookup (15 + j) with
  | some ⟨.type n, none, .seq its 0, sl⟩ => n == "tuple" && sl.size == 0 && (match its.toList with
    | [.int a _, .int b _, .int c _, .int d _] => decide (0 < a) && decide (a < 32768) && decide (0 ≤ b) && decide (b < 114) && decide (0 ≤ c) && decide (c < 114) && (decide (d = 0) || decide (d = 1))
    | _ => false)
  | _ => false
theorem rows_ok (P : Params) : (List.range 114).all (rowOk P) = true := by kernel_rfl
noncomputable def rowI (P : Params) (j c : Nat) : Int := ((rowOf P j)[c]?.map (·.1)).getD 0

theorem row_at (P : Params) {j : Nat} (hj : j < 114) : (∃ t0 t1 t2 t3, (Mine.hd.heap_39 P).lookup (15 + j) = some ⟨.type "tuple", none, .seq [.int (rowI P j 0) t0, .int (rowI P j 1) t1, .int (rowI P j 2) t2, .int (rowI P j 3) t3].toArray 0, #[]⟩) ∧
    0 < rowI P j 0 ∧ rowI P j 0 < 32768 ∧ 0 ≤ rowI P j 1 ∧ rowI P j 1 < 114 ∧ 0 ≤ rowI P j 2 ∧ rowI P j 2 < 114 ∧ (rowI P j 3 = 0 ∨ rowI P j 3 = 1) := by
  have h := List.all_eq_true.mp (rows_ok P) j (List.mem_range.mpr hj)
  unfold rowOk at h
  unfold rowI rowOf
  split at h
  · rename_i n its sl e
    rw [e]
    simp only [Bool.and_eq_true] at h
    obtain ⟨⟨h1, h2⟩, h3⟩ := h
    split at h3
    · rename_i a ta b tb c tc d td e'
      simp only [Bool.and_eq_true, Bool.or_eq_true, decide_eq_true_eq] at h3
      obtain ⟨⟨⟨⟨⟨⟨q1, q2⟩, q3⟩, q4⟩, q5⟩, q6⟩, q7⟩ := h3
      have e1 : n = "tuple" := beq_iff_eq.mp h1
      have e2 : sl = #[] := Array.eq_empty_of_size_eq_zero (beq_iff_eq.mp h2)
      have e3 : its = [Value.int a ta, .int b tb, .int c tc, .int d td].toArray := by rw [← e']
      subst e1 e2 e3
      exact ⟨⟨ta, tb, tc, td, rfl⟩, q1, q2, q3, q4, q5, q6, q7⟩
    · cases h3
  · cases h

theorem seqIndex_of {k : Int} {n : Nat} (h0 : 0 ≤ k) (h1 : k < n) : seqIndex? k n = some k.toNat := by
  have e1 : ¬ k < 0 := by omega
  have e2 : (decide (0 ≤ k) && decide (k < (n : Int))) = true := by simp; omega
  unfold seqIndex?
  simp only [if_neg e1, e2, if_true]
def statesL : List Value := (List.range 114).map fun i => .ref (15 + i)
theorem states_at (P : Params) : (Mine.hd.heap_39 P).lookup 129 = some ⟨.type "tuple", none, .seq statesL.toArray 0, #[]⟩ := by kernel_rfl

section
variable {prog : Program} {w : World} {A : Around} {E : Value → Shared → Prop} {s : Shared} {h₀ : Heap} {L : Addr} {m : Str → Option Value}

abbrev IsRow (w : World) (h : Heap) (r : Addr) (j : Nat) : Prop := ∃ t0 t1 t2 t3, IsTup h r #[.int (rowI w.params j 0) t0, .int (rowI w.params j 1) t1, .int (rowI w.params j 2) t2, .int (rowI w.params j 3) t3]

/-- STATES[k] -/
theorem states_item {value slice : Expr} {k : Int} {u : Tok} {Q : Value → Shared → Prop} (F : Fr h₀ L s.heap m) (X₀ : (Mine.hd.heap_39 w.params).In h₀) (h0 : 0 ≤ k) (h1 : k < 114)
    (h : ∀ r, IsRow w h₀ r k.toNat → Q (.ref r) s)
    (hs : subscripted slice false (.ref 129) (.int k u) = operate [.ref 129, .int k u] (getItem (.ref 129) (.int k u)) := by with_unfolding_all rfl) :
    wpAny (model prog w) A (subscriptTail value slice (.ref 129) (.int k u)) Q E s := by
  obtain ⟨⟨t0, t1, t2, t3, e⟩, _⟩ := row_at w.params (j := k.toNat) (by omega)
  refine topTup_K (l := statesL) (j := k.toNat) F X₀ (states_at _) (by omega) (by omega) ?_ ?_ (h _ ⟨t0, t1, t2, t3, tupK X₀ e⟩) hs
  · exact seqIndex_of h0 (by have : statesL.length = 114 := rfl
                             omega)
  · unfold statesL
    rw [List.getElem?_map, List.getElem?_range (by omega)]
    rfl
/-- row[c] -/
theorem row_item {value slice : Expr} {r : Addr} {c : Int} {u : Tok} {l : List Value} {v : Value} {j : Nat} {Q : Value → Shared → Prop} (F : Fr h₀ L s.heap m) (hT : IsTup h₀ r l.toArray) (hlo : -(2 ^ 63) ≤ c) (hhi : c < 2 ^ 63) (hj : seqIndex? c l.length = some j) (hx : l[j]? = some v)
    (h : Q v s) (hs : subscripted slice false (.ref r) (.int c u) = operate [.ref r, .int c u] (getItem (.ref r) (.int c u)) := by with_unfolding_all rfl) :
    wpAny (model prog w) A (subscriptTail value slice (.ref r) (.int c u)) Q E s := item_tupleT (IsTup.keeps hT F.keep) hlo hhi hj hx h hs
end
end Mine
end

local macro_rules | `(tactic| walk_at "subscriptTail") => `(tactic| ((with_reducible show wpAny _ _ (subscriptTail _ _ (Value.ref _) (Value.int _ _)) _ _ _); refine Mine.row_item (by k_asm) (by assumption) (by decide) (by decide) (by rfl) (by rfl) ?_))

local macro_rules | `(tactic| walk_at "subscriptTail") => `(tactic| ((with_reducible show wpAny _ _ (subscriptTail _ _ (Value.ref 129) (Value.int _ _)) _ _ _); refine Mine.states_item (by k_asm) (by k_asm) (by first | assumption | omega) (by first | assumption | omega) ?_; rintro r ⟨t0, t1, t2, t3, hrow⟩))

section
namespace Mine
open PySem.Calls

set_option maxHeartbeats 8000000 in
theorem more_spec {w : World} {bins db st : Nat} {a b u0 u1 ta : Tok} {se : Addr} {at_ s0 s1 : Int} {n : Nat} (h1 : db < bins) (h2 : bins < st) (hat : at_ = 0 ∨ at_ = 1) (hs0 : 0 ≤ s0) (hs0' : s0 < 114) (hs1 : 0 ≤ s1) (hs1' : s1 < 114) :
    SpecA w 1 10 158 [.ref bins, .int at_ ta] [(bins, instObj 147 db), (db, BinsD w.params a b st se), (st, listOf #[.int s0 u0, .int s1 u1] n)]
      (fun _ v new => v = .none ∧ ∃ (v0 v1 : Tok) (n' : Nat), new = [(bins, instObj 147 db), (db, BinsD w.params a b st se),
        (st, listOf #[.int (if at_ = 0 then rowI w.params s0.toNat 2 else s0) v0, .int (if at_ = 0 then s1 else rowI w.params s1.toNat 2) v1] n')]) := by
  intro mean mg mb A g s R hh hg hd hu G hst hsz hap hR
  refine' enter_A ?kG ?kst ?ksz ?kap ?ho ?hcd ?hroom ?hb ?hl ?_ ?c1 ?c2 ?c3 ?c4
  (case kG => assumption); (case kst => assumption); (case ksz => assumption); (case kap => assumption)
  (case ho => k_is); (case hcd => k_is); (case hroom => omega); (case hb => exact BindsTo.of_eq rfl); (case hl => exact locs rfl)
  (case c1 => exact rfl); (case c2 => exact rfl); (case c3 => exact rfl); (case c4 => decide)
  intro L h₁ F' N' l1 hL
  (have KX := Grd.X (by assumption)); (have T := Grd.T (by assumption)); (try dsimp only); (try k_lt l1); (show wpAny _ _ _ _ _ _); k_fold
  rcases hat with rfl | rfl
  all_goals k_steps
  all_goals (try dsimp only)
  all_goals (try k_unfold)
  all_goals (try dsimp only)
  all_goals exact spec_same hR (by assumption) (by assumption) ⟨rfl, _, _, _, rfl⟩

set_option maxHeartbeats 8000000 in
theorem less_spec {w : World} {bins db st se : Nat} {a b u0 u1 x0 x1 ta : Tok} {at_ s0 s1 e0 e1 : Int} {n k : Nat} (h1 : db < bins) (h2 : bins < st) (h3 : st < se) (hat : at_ = 0 ∨ at_ = 1) (hs0 : 0 ≤ s0) (hs0' : s0 < 114) (hs1 : 0 ≤ s1) (hs1' : s1 < 114) :
    SpecA w 1 10 165 [.ref bins, .int at_ ta] [(bins, instObj 147 db), (db, BinsD w.params a b st se), (st, listOf #[.int s0 u0, .int s1 u1] n), (se, listOf #[.int e0 x0, .int e1 x1] k)]
      (fun _ v new => v = .none ∧ ∃ (v0 v1 y0 y1 : Tok) (n' k' : Nat), new = [(bins, instObj 147 db), (db, BinsD w.params a b st se),
        (st, listOf #[.int (if at_ = 0 then rowI w.params s0.toNat 1 else s0) v0, .int (if at_ = 0 then s1 else rowI w.params s1.toNat 1) v1] n'),
        (se, listOf #[.int (if at_ = 0 then (if rowI w.params s0.toNat 3 = 1 then 1 - e0 else e0) else e0) y0, .int (if at_ = 0 then e1 else (if rowI w.params s1.toNat 3 = 1 then 1 - e1 else e1)) y1] k')]) := by
  intro mean mg mb A g s R hh hg hd hu G hst hsz hap hR
  refine' enter_A ?kG ?kst ?ksz ?kap ?ho ?hcd ?hroom ?hb ?hl ?_ ?c1 ?c2 ?c3 ?c4
  (case kG => assumption); (case kst => assumption); (case ksz => assumption); (case kap => assumption)
  (case ho => k_is); (case hcd => k_is); (case hroom => omega); (case hb => exact BindsTo.of_eq rfl); (case hl => exact locs rfl)
  (case c1 => exact rfl); (case c2 => exact rfl); (case c3 => exact rfl); (case c4 => decide)
  intro L h₁ F' N' l1 hL
  (have KX := Grd.X (by assumption)); (have T := Grd.T (by assumption)); (try dsimp only); (try k_lt l1); (show wpAny _ _ _ _ _ _); k_fold
  rcases hat with rfl | rfl
  all_goals k_steps
  all_goals (try dsimp only)
  all_goals (try k_unfold)
  all_goals (try dsimp only)
  all_goals first
    | (rename (rowI _ _ _ = 1) => hq; simp only [if_pos hq] at hR; exact spec_same hR (by assumption) (by assumption) ⟨rfl, _, _, _, _, _, _, rfl⟩)
    | (rename (rowI _ _ _ ≠ 1) => hq; simp only [if_neg hq] at hR; exact spec_same hR (by assumption) (by assumption) ⟨rfl, _, _, _, _, _, _, rfl⟩)
end Mine
end

section
namespace Mine
open PySem.Calls

section
variable {prog : Program} {w : World} {A : Around} {E : Value → Shared → Prop} {s : Shared} {h₀ : Heap} {L a : Addr} {m : Str → Option Value} {news news' : List (Addr × Obj)} {bs : Array UInt8}

theorem arr_get {bs : Array UInt8} {i : Nat} (h : i < bs.size) : bs[i]? = some (bs.getD i 0) := by
  rw [Array.getElem?_eq_getElem h]
  simp [Array.getD, h]

theorem ba_getK {Q : Value → Shared → Prop} {k : Int} {t : Tok} (N : News h₀ L s.heap news) (hm : (a, baOf bs) ∈ news) (h0 : 0 ≤ k) (h1 : k < bs.size) (hz : bs.size ≤ 1000)
    (h : Q (.int ((bs.getD k.toNat 0).toNat : Int) s.toks) { s with toks := s.toks + 1 }) : wpAny (model prog w) A (getItem (.ref a) (.int k t)) Q E s :=
  ba_getItem (N _ hm).1 (by omega) (by omega) (seqIndex_of h0 h1) (arr_get (by omega)) h
theorem ba_tailK {value slice : Expr} {Q : Value → Shared → Prop} {k : Int} {t : Tok} (N : News h₀ L s.heap news) (hm : (a, baOf bs) ∈ news) (h0 : 0 ≤ k) (h1 : k < bs.size) (hz : bs.size ≤ 1000)
    (h : Q (.int ((bs.getD k.toNat 0).toNat : Int) s.toks) { s with toks := s.toks + 1 })
    (hs : subscripted slice false (.ref a) (.int k t) = operate [.ref a, .int k t] (getItem (.ref a) (.int k t)) := by with_unfolding_all rfl) :
    wpAny (model prog w) A (subscriptTail value slice (.ref a) (.int k t)) Q E s :=
  tail_any (ba_type (N _ hm).1) slot_ba_getitem.lookup (ba_getK N hm h0 h1 hz h) hs
theorem ba_tailLast {value slice : Expr} {Q : Value → Shared → Prop} {t : Tok} (N : News h₀ L s.heap news) (hm : (a, baOf bs) ∈ news) (h1 : 0 < bs.size) (hz : bs.size ≤ 1000)
    (h : Q (.int ((bs.getD (bs.size - 1) 0).toNat : Int) s.toks) { s with toks := s.toks + 1 })
    (hs : subscripted slice false (.ref a) (.int (-1) t) = operate [.ref a, .int (-1) t] (getItem (.ref a) (.int (-1) t)) := by with_unfolding_all rfl) :
    wpAny (model prog w) A (subscriptTail value slice (.ref a) (.int (-1) t)) Q E s := by
  refine tail_any (ba_type (N _ hm).1) slot_ba_getitem.lookup (ba_getItem (j := bs.size - 1) (N _ hm).1 (by omega) (by omega) ?_ (arr_get (by omega)) h) hs
  unfold seqIndex?
  simp only
  split <;> simp_all <;> omega
theorem ba_setK {Q : Unit → Shared → Prop} {k v : Int} {t u : Tok} (F : Fr h₀ L s.heap m) (N : News h₀ L s.heap news) (U : Upd a (baOf bs) (baOf (bs.setIfInBounds k.toNat v.toNat.toUInt8)) news news')
    (h0 : 0 ≤ k) (h1 : k < bs.size) (hz : bs.size ≤ 1000) (hv0 : 0 ≤ v) (hv1 : v < 256)
    (h : ∀ h', Fr h₀ L h' m → News h₀ L h' news' → Q () { s with heap := h' }) : wpAny (model prog w) A (setItem (.ref a) (.int k t) (.int v u)) Q E s := by
  obtain ⟨pre, post, rfl, rfl, x, y⟩ := U.split
  have z := N (a, baOf bs) (List.mem_append.mpr (.inr (.head _)))
  obtain ⟨F', N'⟩ := ba_news_upd (f := (·.setIfInBounds k.toNat v.toNat.toUInt8)) F N x y
  exact ba_setItem z.1 h0 (by omega) h1 hv0 hv1 (Nat.le_trans hz (by decide)) (h _ F' N')
theorem ba_lenK {Q : Value → Shared → Prop} (N : News h₀ L s.heap news) (hm : (a, baOf bs) ∈ news) (hz : bs.size ≤ 1000)
    (h : Q (.int bs.size (s.toks + 1)) { s with toks := s.toks + 1 + 1 }) : wpAny (model prog w) A (call (.builtin "len") [.ref a]) Q E s :=
  ba_len (N _ hm).1 (by omega) h
theorem ba_appendK {Q : Value → Shared → Prop} {k : Int} {t : Tok} (hg : A.guards = some []) (F : Fr h₀ L s.heap m) (N : News h₀ L s.heap news) (U : Upd a (baOf bs) (baOf (bs.push k.toNat.toUInt8)) news news')
    (h0 : 0 ≤ k) (h1 : k < 256) (hz : bs.size ≤ 1000)
    (h : ∀ h', Fr h₀ L h' m → News h₀ L h' news' → Q .none { s with heap := h' }) : wpIn (model prog w) A (call (.builtin "bytearray.append") [.ref a, .int k t]) Q E s := by
  obtain ⟨pre, post, rfl, rfl, x, y⟩ := U.split
  have z := N (a, baOf bs) (List.mem_append.mpr (.inr (.head _)))
  obtain ⟨F', N'⟩ := ba_news_upd (f := (·.push k.toNat.toUInt8)) F N x y
  exact ba_append_In hg z.1 h0 h1 (Nat.lt_of_le_of_lt hz (by decide)) (h _ F' N')
theorem ba_popK {Q : Value → Shared → Prop} (hg : A.guards = some []) (F : Fr h₀ L s.heap m) (N : News h₀ L s.heap news) (U : Upd a (baOf bs) (baOf (bs.eraseIdxIfInBounds (bs.size - 1))) news news')
    (h1 : 0 < bs.size) (hz : bs.size ≤ 1000)
    (h : ∀ (v : Int) h', Fr h₀ L h' m → News h₀ L h' news' → Q (.int v s.toks) { s with heap := h', toks := s.toks + 1 }) : wpIn (model prog w) A (call (.builtin "bytearray.pop") [.ref a]) Q E s := by
  obtain ⟨pre, post, rfl, rfl, x, y⟩ := U.split
  have z := N (a, baOf bs) (List.mem_append.mpr (.inr (.head _)))
  obtain ⟨F', N'⟩ := ba_news_upd (f := (·.eraseIdxIfInBounds (bs.size - 1))) F N x y
  exact ba_pop_In hg z.1 h1 (Nat.le_trans hz (by decide)) fun v => h v _ F' N'
theorem ba_neK {Q : Value → Shared → Prop} {t : Tok} (N : News h₀ L s.heap news) (hm : (a, baOf bs) ∈ news) (hu : A.units < cLine) (h : Q (.bool (!bs.toList.isEmpty)) s) :
    wpAny (model prog w) A (compareOp .NotEq (.ref a) (.bytes #[] t)) Q E s := ba_ne_nil (N _ hm).1 hu h
theorem ba_bytesK {Q : Value → Shared → Prop} (N : News h₀ L s.heap news) (hm : (a, baOf bs) ∈ news) (hz : bs.size ≤ 1000)
    (hQ : Q (.bytes bs s.toks) { s with toks := s.toks + 1 }) : wpAny (model prog w) A (call (.type "bytes") [.ref a]) Q E s := ba_bytes (N _ hm).1 (Nat.le_trans hz (by decide)) hQ

theorem Fr.congr {h : Heap} {m' : Str → Option Value} (F : Fr h₀ L h m) (e : ∀ y, m y = m' y) : Fr h₀ L h m' := by
  have : m = m' := funext e
  exact this ▸ F
end

/-- the number that the octets spell -/
def V (l : List UInt8) : Nat := l.foldl (fun a b => a * 256 + b.toNat) 0
theorem foldl_V (l : List UInt8) (c : Nat) : l.foldl (fun a b => a * 256 + b.toNat) c = c * 256 ^ l.length + V l := by
  unfold V
  induction l generalizing c with
  | nil => simp
  | cons x l ih =>
    rw [List.foldl_cons, ih, List.foldl_cons, ih (0 * 256 + x.toNat), List.length_cons, Nat.pow_succ]
    simp only [Nat.zero_mul, Nat.zero_add, Nat.add_mul]
    rw [Nat.mul_assoc, Nat.mul_comm 256, Nat.add_assoc]
theorem V_cons (x : UInt8) (l : List UInt8) : V (x :: l) = x.toNat * 256 ^ l.length + V l := by
  show List.foldl _ _ _ = _
  rw [List.foldl_cons, foldl_V]
  simp
theorem V_append (l k : List UInt8) : V (l ++ k) = V l * 256 ^ k.length + V k := by
  unfold V
  rw [List.foldl_append, foldl_V]
  rfl
theorem V_snoc (l : List UInt8) (x : UInt8) : V (l ++ [x]) = V l * 256 + x.toNat := by
  rw [V_append, V_cons]
  simp [V]
theorem V_lt (l : List UInt8) : V l < 256 ^ l.length := by
  induction l with
  | nil => simp [V]
  | cons x l ih =>
    rw [V_cons, List.length_cons, Nat.pow_succ]
    have h := x.toNat_lt
    have : x.toNat * 256 ^ l.length ≤ 255 * 256 ^ l.length := Nat.mul_le_mul_right _ (by omega)
    omega
theorem V_set (l : List UInt8) (i : Nat) (x : UInt8) (h : i < l.length) : V (l.set i x) + (l.getD i 0).toNat * 256 ^ (l.length - 1 - i) = V l + x.toNat * 256 ^ (l.length - 1 - i) := by
  induction l generalizing i with
  | nil => cases h
  | cons y l ih =>
    cases i with
    | zero =>
      rw [List.set_cons_zero, V_cons, V_cons]
      simp only [List.length_cons, Nat.add_sub_cancel, Nat.sub_zero, List.getD_cons_zero]
      omega
    | succ i =>
      rw [List.set_cons_succ, V_cons, V_cons, List.length_set]
      have := ih i (by simpa using h)
      have e : (y :: l).length - 1 - (i + 1) = l.length - 1 - i := by simp only [List.length_cons]; omega
      rw [e, List.getD_cons_succ]
      omega
theorem V_setA (bs : Array UInt8) (i : Nat) (x : UInt8) (h : i < bs.size) : V (bs.setIfInBounds i x).toList + (bs.getD i 0).toNat * 256 ^ (bs.size - 1 - i) = V bs.toList + x.toNat * 256 ^ (bs.size - 1 - i) := by
  obtain ⟨l⟩ := bs
  have h' : i < l.length := by simpa using h
  have e := V_set l i x h'
  have e1 : ((⟨l⟩ : Array UInt8).setIfInBounds i x).toList = l.set i x := by simp
  have e2 : (⟨l⟩ : Array UInt8).getD i 0 = l.getD i 0 := by simp [Array.getD, List.getD, h']
  rw [e1, e2]
  exact e
theorem V_pushA (bs : Array UInt8) (x : UInt8) : V (bs.push x).toList = V bs.toList * 256 + x.toNat := by
  rw [Array.toList_push, V_snoc]
theorem Fr.over {h₀ h : Heap} {L : Addr} {x : Str} {u v : Option Value} {m : Str → Option Value} (F : Fr h₀ L h (fun y => if y = x then v else if y = x then u else m y)) : Fr h₀ L h (fun y => if y = x then v else m y) :=
  Fr.congr F fun y => by by_cases e : y = x <;> simp [e]
theorem byte_nat {k : Int} (h0 : 0 ≤ k) (h1 : k < 256) : (k.toNat.toUInt8).toNat = k.toNat := by
  simp only [Nat.toUInt8, UInt8.toNat_ofNat']
  omega
end Mine
end

section
namespace Mine
open PySem.Calls
local macro_rules | `(tactic| walk_at "subscriptTail") => `(tactic| ((with_reducible show wpAny _ _ (subscriptTail _ _ (Value.ref _) (Value.int _ _)) _ _ _); refine ba_tailK (by k_asm) (by k_mem) (by first | assumption | omega) (by first | assumption | omega) (by first | assumption | omega) ?_))
local macro_rules | `(tactic| walk_at "getItem ref int") => `(tactic| (refine ba_getK (by k_asm) (by k_mem) (by first | assumption | omega) (by first | assumption | omega) (by first | assumption | omega) ?_))
local macro_rules | `(tactic| walk_at "setItem ref int") => `(tactic| (refine ba_setK (by k_asm) (by k_asm) (by k_upd) ?_ ?_ ?_ ?_ ?_ ?_; (iterate 5 (first | assumption | omega)); intro h' F' N'; (try k_sweep)))
local macro_rules | `(tactic| walk_at "call builtin:len") => `(tactic| (refine ba_lenK (by k_asm) (by k_mem) (by first | assumption | omega) ?_))

def Halt (P : Prop) : Prop := P
theorem Halt.out {P : Prop} (h : Halt P) : P := h
theorem split_at {h₀ h : Heap} {L : Addr} {x : Str} {v : Option Value} {m₀ : Str → Option Value} {P : Prop} (F : Fr h₀ L h (fun y => if y = x then v else m₀ y))
    (k : ∀ m₁ : Str → Option Value, m₁ = m₀ → Fr h₀ L h (fun y => if y = x then v else m₁ y) → P) : P := k m₀ rfl F
local macro_rules | `(tactic| walk_at "getMethod ref") => `(tactic| ((with_reducible show wpAny _ _ (getMethod (Value.ref _) (Str.ofString "append") _) _ _ _); refine ba_getMethod_append (News.get (by k_asm) (by k_mem)) ?_))
theorem news_mid {h₀ h : Heap} {L : Addr} {x y z : Addr} {o1 o2 o3 : Obj} {P : Prop} (N : News h₀ L h [(x, o1), (y, o2), (z, o3)]) (k : ∀ o, o = o2 → News h₀ L h [(x, o1), (y, o), (z, o3)] → P) : P := k o2 rfl N
local macro_rules | `(tactic| walk_at "exec While Compare cons nil") => `(tactic| (refine Halt.out ?_))
set_option maxHeartbeats 8000000 in
theorem octet_spec {w : World} {enc de fnd : Nat} {a b c d tc : Tok} {size left : Value} {code : Int} {bs : Array UInt8} (h1 : de < enc) (h2 : enc < fnd) (hc0 : 0 ≤ code) (hc1 : code < 268435456)
    (hcar : 134217728 ≤ code → V bs.toList + 1 < 256 ^ bs.size) (hz : bs.size < 900) :
    SpecI w 1 12 200 [.ref enc] [(enc, instObj 217 de), (de, EncD w.params a b c d size (.int code tc) left fnd), (fnd, baOf bs)]
      (fun _ v new => v = .none ∧ ∃ (tc' : Tok) (bs' : Array UInt8), bs'.size = bs.size + 1 ∧ (V bs'.toList : Int) = 256 * V bs.toList + code / 524288 ∧
        new = [(enc, instObj 217 de), (de, EncD w.params a b c d size (.int (code % 524288) tc') left fnd), (fnd, baOf bs')]) := by
  intro mean mg mb A g s R hh hg hd hu G hst hsz hap hR
  refine' enter_I ?kG ?kst ?ksz ?kap ?ho ?hcd ?hroom ?hb ?hl ?_ ?c1 ?c2 ?c3 ?c4
  (case kG => assumption); (case kst => assumption); (case ksz => assumption); (case kap => assumption)
  (case ho => k_is); (case hcd => k_is); (case hroom => omega); (case hb => exact BindsTo.of_eq rfl); (case hl => exact locs rfl)
  (case c1 => exact rfl); (case c2 => exact rfl); (case c3 => exact rfl); (case c4 => decide)
  intro L h₁ F' N' l1 hL
  (have KX := Grd.X (by assumption)); (have T := Grd.T (by assumption)); (try dsimp only); (try k_lt l1)
  iterate 2 (refine execs_step ?_; (show wpAny _ _ _ _ _ _); k_fold; k_steps; (try dsimp only))
  have e1 : code.fdiv (2 ^ Int.toNat 19) = code / 524288 := by
    rw [Int.fdiv_eq_ediv_of_nonneg _ (by decide)]; rfl
  have e2 : code.fmod (1 * 2 ^ Int.toNat 19) = code % 524288 := by
    rw [Int.fmod_eq_emod_of_nonneg _ (by decide)]; rfl
  rename_i F2 N2
  rw [e1] at F2
  rw [e2] at N2
  obtain ⟨o, ho⟩ : ∃ o, o = code / 524288 := ⟨_, rfl⟩
  have ho0 : 0 ≤ o := by omega
  have ho1 : o < 512 := by omega
  rw [← ho] at F2
  refine execs_step ?_; (show wpAny _ _ _ _ _ _); k_fold; k_steps; (try dsimp only)
  · unfold Halt
    rename_i F3 N3
    refine split_at F3 fun m₁ hm₁ F4 => ?_
    have hlt : V bs.toList + 1 < 256 ^ bs.size := hcar (by omega)
    refine news_mid N3 fun od hod N4 => ?_
    refine While_inv (fun n m₂ news₂ => ∃ (bs' : Array UInt8) (k : Int) (ta : Tok), bs'.size = bs.size ∧ n ≤ bs.size ∧ k = (n : Int) - 1 ∧ V bs'.toList + 256 ^ (bs.size - n) = V bs.toList + 1 ∧
      news₂ = [(enc, instObj 217 de), (de, od), (fnd, baOf bs')] ∧
      m₂ = fun y => if y = Str.ofString "at" then some (.int k ta) else m₁ y) F4 N4 (n₀ := bs.size) ?hJ ?turn PassesOwn.never
    case hJ => exact ⟨bs, _, _, rfl, Nat.le_refl _, rfl, by rw [Nat.sub_self, Nat.pow_zero], rfl, rfl⟩
    case turn =>
      clear F3 N3 N4 F4
      rintro n _ _ h5 tk5 F5 N5 ⟨bs', k, ta, hsz', hn, hk, hV, rfl, rfl⟩
      have hn0 : 0 < n := by
        rcases Nat.eq_zero_or_pos n with rfl | h
        · rw [Nat.sub_zero] at hV; omega
        · exact h
      have b0 : 0 ≤ k := by omega
      have b1 : k < bs'.size := by omega
      have b2 : bs'.size ≤ 1000 := by omega
      have b3 : (bs'.getD k.toNat 0).toNat < 256 := UInt8.toNat_lt _
      have e5 : bs'.size - 1 - k.toNat = bs.size - n := by omega
      have VS := fun x => V_setA bs' k.toNat x (by omega)
      rw [e5] at VS
      subst hm₁ hod
      (show wpAny _ _ _ _ _ _)
      k_fold
      k_steps
      · rename_i hq _ _ _ F7 N7
        have F8 := Fr.over F7
        refine WhileStep.intro F8 N7 (n' := n - 1) (by omega) ⟨_, _, _, ?_, ?_, ?_, ?_, rfl, rfl⟩
        · rw [Array.size_setIfInBounds, hsz']
        · omega
        · omega
        · have hq' : (bs'.getD k.toNat 0).toNat = 255 := by omega
          have v1 := VS (Int.toNat 0).toUInt8
          rw [hq'] at v1
          have e6 : bs.size - (n - 1) = (bs.size - n) + 1 := by omega
          have e7 : ((Int.toNat 0).toUInt8).toNat = 0 := rfl
          rw [e7] at v1
          rw [e6, Nat.pow_succ]
          omega
      · refine' execs_cons_In (expr_In (method_In ?_ (by rfl)) (by rfl) (by rfl))
        (show wpAny _ _ _ _ _ _)
        k_fold
        k_steps
        (try k_unfold)
        (try dsimp only)
        refine callWith_InB ?_
        k_fold
        k_steps
        (try k_unfold)
        (try dsimp only)
        refine' ba_appendK hg ?F ?N ?U (by omega) (by omega) ?z ?_
        (case F => assumption)
        (case N => assumption)
        (case U => k_upd)
        (case z => rw [Array.size_setIfInBounds]; omega)
        intro h9 F9 N9
        refine ⟨rfl, execs_nil_In ?_⟩
        dsimp only
        refine spec_end hR F9 N9 ⟨rfl, _, _, ?_, ?_, rfl⟩ (fun _ h => h)
        · rw [Array.size_push, Array.size_setIfInBounds, hsz']
        · rw [V_pushA, byte_nat (by omega) (by omega), ← ho]
          have v1 := VS (((bs'.getD k.toNat 0).toNat : Int) + 1).toNat.toUInt8
          have hq' : (bs'.getD k.toNat 0).toNat ≠ 255 := by omega
          rw [byte_nat (by omega) (by omega)] at v1
          have e7 : (((bs'.getD k.toNat 0).toNat : Int) + 1).toNat = (bs'.getD k.toNat 0).toNat + 1 := by omega
          rw [e7, Nat.add_mul, Nat.one_mul] at v1
          have e8 : V (bs'.setIfInBounds k.toNat (((bs'.getD k.toNat 0).toNat : Int) + 1).toNat.toUInt8).toList = V bs.toList + 1 := by rw [e7]; omega
          rw [e8]
          omega
  · refine' execs_cons_In (expr_In (method_In ?_ (by rfl)) (by rfl) (by rfl))
    (show wpAny _ _ _ _ _ _)
    k_fold
    k_steps
    (try k_unfold)
    (try dsimp only)
    refine callWith_InB ?_
    k_fold
    k_steps
    (try k_unfold)
    (try dsimp only)
    refine' ba_appendK hg ?F ?N ?U (by omega) (by omega) ?z ?_
    (case F => assumption)
    (case N => assumption)
    (case U => k_upd)
    (case z => omega)
    intro h9 F9 N9
    refine ⟨rfl, execs_nil_In ?_⟩
    dsimp only
    refine spec_end hR F9 N9 ⟨rfl, _, _, ?_, ?_, rfl⟩ (fun _ h => h)
    · rw [Array.size_push]
    · rw [V_pushA, byte_nat (by omega) (by omega), ← ho]
      omega
end Mine
end

section
namespace Mine
open PySem.Calls

set_option maxHeartbeats 8000000 in
theorem clear_spec {w : World} {enc de : Nat} {a b c d tc ts : Tok} {left : Value} {fnd : Addr} {code size : Int} (h1 : de < enc) (hc0 : 0 ≤ code) (hs0 : 32768 ≤ size) :
    SpecA w 1 10 207 [.ref enc] [(enc, instObj 217 de), (de, EncD w.params a b c d (.int size ts) (.int code tc) left fnd)]
      (fun _ v new => v = .none ∧ ∃ (tc' : Tok) (t : Int), t % 32768 = 0 ∧ code ≤ t ∧ t < code + size ∧
        new = [(enc, instObj 217 de), (de, EncD w.params a b c d (.int size ts) (.int t tc') left fnd)]) := by
  intro mean mg mb A g s R hh hg hd hu G hst hsz hap hR
  refine' enter_A ?kG ?kst ?ksz ?kap ?ho ?hcd ?hroom ?hb ?hl ?_ ?c1 ?c2 ?c3 ?c4
  (case kG => assumption); (case kst => assumption); (case ksz => assumption); (case kap => assumption)
  (case ho => k_is); (case hcd => k_is); (case hroom => omega); (case hb => exact BindsTo.of_eq rfl); (case hl => exact locs rfl)
  (case c1 => exact rfl); (case c2 => exact rfl); (case c3 => exact rfl); (case c4 => decide)
  intro L h₁ F' N' l1 hL
  (have KX := Grd.X (by assumption)); (have T := Grd.T (by assumption)); (try dsimp only); (try k_lt l1); (show wpAny _ _ _ _ _ _); k_fold
  k_steps
  all_goals (try dsimp only)
  all_goals (try k_unfold)
  all_goals (try dsimp only)
  all_goals (have ef : (code + size - 1).fdiv (2 * 32768) = (code + size - 1) / 65536 := by rw [Int.fdiv_eq_ediv_of_nonneg _ (by decide)]; rfl)
  all_goals exact spec_same hR (by assumption) (by assumption) ⟨rfl, _, _, by omega, by omega, by omega, rfl⟩
end Mine
end

section
set_option genInjectivity false
set_option genSizeOf false
set_option genSizeOfSpec false
namespace Mine
open PySem.Calls

/-- the encoder's numbers beside the exact interval -/
structure EI (base size : Int) (power : Nat) (code : Int) (l : Nat) (bs : Array UInt8) : Prop where
  c0 : 0 ≤ code
  l0 : 1 ≤ l
  l1 : l ≤ 11
  pw : power + l = 8 * bs.size + 11
  bas : base = (V bs.toList : Int) * 2 ^ (27 - l) + code
  cs : code + size ≤ 2 ^ (28 - l)
  bnd : base + size ≤ 2 ^ (16 + power)
  s0 : 0 < size
  s1 : size ≤ 65536

theorem pow_up {a b : Nat} (h : a = b + 1) : (2 : Int) ^ a = 2 * 2 ^ b := by subst h; rw [Int.pow_succ]; omega

theorem EI.twice {base size : Int} {power : Nat} {code : Int} {l : Nat} {bs : Array UInt8} (e : EI base size power code l bs) (hs : size < 32768) (hl : 2 ≤ l) :
    EI (base * 2) (size * 2) (power + 1) (code * 2) (l - 1) bs := by
  obtain ⟨c0, l0, l1, pw, bas, cs, bnd, s0, s1⟩ := e
  refine ⟨by omega, by omega, by omega, by omega, ?_, ?_, ?_, by omega, by omega⟩
  · rw [pow_up (show 27 - (l - 1) = (27 - l) + 1 by omega), bas, Int.add_mul, Int.mul_assoc, Int.mul_comm _ 2]
  · rw [pow_up (show 28 - (l - 1) = (28 - l) + 1 by omega)]; omega
  · rw [pow_up (show 16 + (power + 1) = (16 + power) + 1 by omega)]; omega

theorem pow_256 (n : Nat) : (2 : Int) ^ (8 * n + 26) = (256 ^ n : Nat) * 67108864 := by
  rw [Int.pow_add, Int.pow_mul]
  simp

theorem EI.carry {base size : Int} {power : Nat} {code : Int} {bs : Array UInt8} (e : EI base size power code 1 bs) (h : 134217728 ≤ code * 2) : V bs.toList + 1 < 256 ^ bs.size := by
  obtain ⟨c0, l0, l1, pw, bas, cs, bnd, s0, s1⟩ := e
  rw [show 16 + power = 8 * bs.size + 26 by omega, pow_256] at bnd
  have e1 : (2 : Int) ^ (27 - 1) = 67108864 := by decide
  rw [e1] at bas
  omega
theorem EI.small {base size : Int} {power : Nat} {code : Int} {bs : Array UInt8} (e : EI base size power code 1 bs) : code * 2 < 268435456 := by
  have e1 : (2 : Int) ^ (28 - 1) = 134217728 := by decide
  have := e.cs
  have := e.s0
  omega

theorem EI.out {base size : Int} {power : Nat} {code : Int} {bs bs' : Array UInt8} (e : EI base size power code 1 bs) (hs : size < 32768) (hz : bs'.size = bs.size + 1) (hv : (V bs'.toList : Int) = 256 * V bs.toList + code * 2 / 524288) :
    EI (base * 2) (size * 2) (power + 1) (code * 2 % 524288) 8 bs' := by
  obtain ⟨c0, l0, l1, pw, bas, cs, bnd, s0, s1⟩ := e
  have e1 : (2 : Int) ^ (27 - 1) = 67108864 := by decide
  have e2 : (2 : Int) ^ (27 - 8) = 524288 := by decide
  have e3 : (2 : Int) ^ (28 - 8) = 1048576 := by decide
  rw [e1] at bas
  refine ⟨by omega, by omega, by omega, by omega, ?_, ?_, ?_, by omega, by omega⟩
  · rw [e2]; omega
  · rw [e3]; omega
  · rw [pow_up (show 16 + (power + 1) = (16 + power) + 1 by omega)]; omega

/-- widened till the size is at least a half -/
def Norm (b s : Int) (p : Nat) (b' s' : Int) (p' : Nat) : Prop := ∃ k : Nat, b' = b * 2 ^ k ∧ s' = s * 2 ^ k ∧ p' = p + k ∧ 32768 ≤ s' ∧ (k = 0 ∨ s' < 65536)
theorem Norm.unique {b s : Int} {p : Nat} {b₁ s₁ b₂ s₂ : Int} {p₁ p₂ : Nat} (hs : 0 < s) (x : Norm b s p b₁ s₁ p₁) (y : Norm b s p b₂ s₂ p₂) : b₁ = b₂ ∧ s₁ = s₂ ∧ p₁ = p₂ := by
  obtain ⟨k, rfl, rfl, rfl, h1, h2⟩ := x
  obtain ⟨j, rfl, rfl, rfl, h3, h4⟩ := y
  have key : ∀ a c : Nat, a < c → 32768 ≤ s * 2 ^ a → 65536 ≤ s * 2 ^ c := fun a c hac h => by
    have e : c = a + 1 + (c - a - 1) := by omega
    rw [e, Int.pow_add, Int.pow_add, ← Int.mul_assoc, ← Int.mul_assoc, Int.pow_one]
    have hp : (1 : Int) ≤ 2 ^ (c - a - 1) := Int.pow_pos (by decide)
    have h5 : 65536 ≤ s * 2 ^ a * 2 := by omega
    calc (65536 : Int) = 65536 * 1 := rfl
      _ ≤ s * 2 ^ a * 2 * 2 ^ (c - a - 1) := Int.mul_le_mul h5 hp (by decide) (by omega)
  rcases Nat.lt_trichotomy k j with h | h | h
  · have := key k j h h1; omega
  · subst h; exact ⟨rfl, rfl, rfl⟩
  · have := key j k h h3; omega

section
variable {prog : Program} {w : World} {A : Around} {E : Value → Shared → Prop} {Q : Flow → Shared → Prop} {s : Shared} {env : Env} {h₀ : Heap} {L : Addr}
theorem While_invI {test : Expr} {body : List Stmt} {pos : Pos} {m : Str → Option Value} {news : List (Addr × Obj)} (J : Nat → (Str → Option Value) → List (Addr × Obj) → Prop) {n₀ : Nat}
    (F : Fr h₀ L s.heap m) (N : News h₀ L s.heap news) (hJ : J n₀ m news)
    (turn : ∀ n m₁ news₁ h₁ tk₁, Fr h₀ L h₁ m₁ → News h₀ L h₁ news₁ → J n m₁ news₁ →
      wpAny (model prog w) A (isTrue test env (eval test env)) (fun b s₂ =>
        if b = true then wpIn (model prog w) A (execs body env) (WhileStep h₀ L s J n) NoE s₂ else Q .next s₂) NoE { s with heap := h₁, toks := tk₁ }) :
    wpIn (model prog w) A (exec (.While test body [] pos) env) Q E s := by
  refine while_In (fun n s' => ∃ h₁ tk₁ m₁ news₁, s' = { s with heap := h₁, toks := tk₁ } ∧ Fr h₀ L h₁ m₁ ∧ News h₀ L h₁ news₁ ∧ J n m₁ news₁) ?_ n₀ ⟨s.heap, s.toks, m, news, rfl, F, N, hJ⟩
  rintro n s' ⟨h₁, tk₁, m₁, news₁, rfl, F₁, N₁, J₁⟩
  refine wpAny_mono (turn n m₁ news₁ h₁ tk₁ F₁ N₁ J₁) (fun b s₂ h₂ => ?_) fun _ _ x => x
  cases b with
  | false => exact h₂
  | true =>
    simp only [if_true] at h₂ ⊢
    refine wpIn_mono h₂ (fun f s₃ h₃ => ?_) fun _ _ x => x
    obtain ⟨rfl, h', tk, m₂, news₂, n', rfl, F₂, N₂, hn, J₂⟩ := h₃
    exact ⟨rfl, n', hn, h', tk, m₂, news₂, rfl, F₂, N₂, J₂⟩
end

theorem fr_gen {h₀ h : Heap} {L : Addr} {m : Str → Option Value} {P : Prop} (F : Fr h₀ L h m) (k : ∀ m₁, m₁ = m → Fr h₀ L h m₁ → P) : P := k m rfl F
theorem k_small {s : Int} {k : Nat} (hs : 0 < s) (h : s * 2 ^ k ≤ 65536) : k ≤ 16 := by
  rcases Nat.lt_or_ge k 17 with h1 | h1
  · omega
  · exfalso
    obtain ⟨j, rfl⟩ := Nat.exists_eq_add_of_le h1
    have hp : (1 : Int) ≤ 2 ^ j := Int.pow_pos (by decide)
    rw [Int.pow_add, ← Int.mul_assoc] at h
    have e : (2 : Int) ^ 17 = 131072 := by decide
    rw [e] at h
    have h5 : 131072 ≤ s * 131072 := by omega
    have : (131072 : Int) * 1 ≤ s * 131072 * 2 ^ j := Int.mul_le_mul h5 hp (by decide) (by omega)
    omega

set_option maxHeartbeats 8000000 in
theorem widen_spec {w : World} {enc de fnd : Nat} {a b c d ts tc tl : Tok} {base size code : Int} {power l : Nat} {bs : Array UInt8} (h1 : de < enc) (h2 : enc < fnd) (e : EI base size power code l bs) (hp : power ≤ 1000) :
    SpecI w 2 24 193 [.ref enc] [(enc, instObj 217 de), (de, EncD w.params a b c d (.int size ts) (.int code tc) (.int (l : Int) tl) fnd), (fnd, baOf bs)]
      (fun _ v new => v = .none ∧ ∃ (base' size' code' : Int) (power' l' : Nat) (bs' : Array UInt8) (t1 t2 t3 : Tok), Norm base size power base' size' power' ∧ EI base' size' power' code' l' bs' ∧
        new = [(enc, instObj 217 de), (de, EncD w.params a b c d (.int size' t1) (.int code' t2) (.int (l' : Int) t3) fnd), (fnd, baOf bs')]) := by
  intro mean mg mb A g s R hh hg hd hu G hst hsz hap hR
  refine' enter_I ?kG ?kst ?ksz ?kap ?ho ?hcd ?hroom ?hb ?hl ?_ ?c1 ?c2 ?c3 ?c4
  (case kG => assumption); (case kst => assumption); (case ksz => assumption); (case kap => assumption)
  (case ho => k_is); (case hcd => k_is); (case hroom => omega); (case hb => exact BindsTo.of_eq rfl); (case hl => exact locs rfl)
  (case c1 => exact rfl); (case c2 => exact rfl); (case c3 => exact rfl); (case c4 => decide)
  intro L h₁ F' N' l1 hL
  (have KX := Grd.X (by assumption)); (have T := Grd.T (by assumption)); (try dsimp only); (try k_lt l1)
  refine fr_gen F' fun m₁ hm₁ F1 => ?_
  refine execs_cons_In ?_
  refine While_invI (fun n m₂ news₂ => ∃ (k : Nat) (size' code' : Int) (l' : Nat) (bs' : Array UInt8) (t1 t2 t3 : Tok), size' = size * 2 ^ k ∧ EI (base * 2 ^ k) size' (power + k) code' l' bs' ∧ (k = 0 ∨ size' < 65536) ∧ n = (65536 - size').toNat ∧
      news₂ = [(enc, instObj 217 de), (de, EncD w.params a b c d (.int size' t1) (.int code' t2) (.int (l' : Int) t3) fnd), (fnd, baOf bs')] ∧ m₂ = m₁) F1 N' (n₀ := (65536 - size).toNat)
    ⟨0, size, code, l, bs, ts, tc, tl, by simp, by simpa using e, .inl rfl, rfl, rfl, rfl⟩ ?_
  rintro n _ _ h5 tk5 F5 N5 ⟨k, size', code', l', bs', t1, t2, t3, hs, e', hk, hn, rfl, rfl⟩
  clear F1 F' N'
  subst hm₁
  (show wpAny _ _ _ _ _ _)
  k_fold
  k_steps
  all_goals (try dsimp only)
  · iterate 3 (refine execs_step ?_; (show wpAny _ _ _ _ _ _); k_fold; k_steps; (try dsimp only))
    rename_i N6
    have hs' : 0 < size' := e'.s0
    have hk16 : k ≤ 16 := k_small e.s0 (by rw [← hs]; exact e'.s1)
    have hz : bs'.size < 900 := by have := e'.pw; have := e'.l1; omega
    refine execs_cons_In (exec_If_In ?_)
    k_fold
    k_steps
    all_goals (try dsimp only)
    · have hl1 : l' = 1 := by omega
      subst hl1
      refine' execs_cons_In (expr_In (method_In ?_ (by rfl)) (by rfl) (by rfl))
      (show wpAny _ _ _ _ _ _)
      k_fold
      k_steps
      (try k_unfold)
      (try dsimp only)
      refine callWith_In0 (Frag.In.keeps (by assumption) (Fr.keep (by assumption))) (by k_is) ?_
      have cs2 : 0 ≤ code' * 2 := by have := e'.c0; omega
      refine use_I (octet_spec h1 h2 cs2 e'.small e'.carry hz) hh hg (by show A.depth + 1 + 1 < _; omega) (by show A.units + 3 + 12 < _; omega) (by assumption) N6 G
        (.left (.left (.left .done))) (fun p hp => nomatch hp) ?_
      rintro v new h7 tk7 - ⟨rfl, tc', bs2, hz2, hv2, rfl⟩ F7 N7
      refine ⟨rfl, ?_⟩
      simp only [List.append_nil] at N7
      dsimp only
      refine execs_step ?_
      (show wpAny _ _ _ _ _ _)
      k_fold
      k_steps
      (try dsimp only)
      refine execs_nil_In (execs_nil_In ?_)
      (show WhileStep _ _ _ _ _ _ _)
      refine' WhileStep.intro (n' := (65536 - size' * 2).toNat) (by assumption) (by assumption) (by have := e'.s1; omega) ?_
      refine ⟨k + 1, size' * 2, code' * 2 % 524288, 8, bs2, _, _, _, ?_, ?_, .inr (by omega), rfl, rfl, rfl⟩
      · rw [hs, Int.pow_succ, Int.mul_assoc]
      · have := e'.out (by omega) hz2 hv2
        rw [Int.pow_succ, ← Int.mul_assoc]
        exact this
    · have el : (l' : Int) - 1 = ((l' - 1 : Nat) : Int) := by have := e'.l0; omega
      rw [el] at N6
      refine execs_nil_In (execs_nil_In ?_)
      (show WhileStep _ _ _ _ _ _ _)
      refine' WhileStep.intro (n' := (65536 - size' * 2).toNat) (by assumption) N6 (by have := e'.s1; omega) ?_
      refine ⟨k + 1, size' * 2, code' * 2, l' - 1, bs', _, _, _, ?_, ?_, .inr (by omega), rfl, rfl, rfl⟩
      · rw [hs, Int.pow_succ, Int.mul_assoc]
      · have := e'.twice (by omega) (by omega)
        rw [Int.pow_succ, ← Int.mul_assoc]
        exact this
  · refine execs_nil_In ?_
    dsimp only
    exact spec_same hR F5 N5 ⟨rfl, base * 2 ^ k, size', code', power + k, l', bs', t1, t2, t3, ⟨k, rfl, hs, rfl, by omega, hk⟩, e', rfl⟩
end Mine
end

section
namespace Mine
open PySem.Calls

/-- which part of the interval is taken: the law's cut before it is widened -/
def lowPart (size less : Int) (mo : Prop) [Decidable mo] : Bool := if less ≤ size - less then decide mo else !(decide mo)
def cutB (base size less : Int) (lo : Bool) : Int := if lo = true then base else base + (size - less)
def cutS (size less : Int) (lo : Bool) : Int := if lo = true then size - less else less
noncomputable def nxS (P : Params) (j e bit size : Int) : Int := if bit = e then (if 32768 ≤ size - rowI P j.toNat 0 then j else rowI P j.toNat 2) else rowI P j.toNat 1
noncomputable def nxE (P : Params) (j e bit : Int) : Int := if bit = e then e else (if rowI P j.toNat 3 = 1 then 1 - e else e)

theorem EI.low {base size code less : Int} {power l : Nat} {bs : Array UInt8} (e : EI base size power code l bs) (h0 : 0 ≤ less) (h1 : less < size) : EI base (size - less) power code l bs := by
  obtain ⟨c0, l0, l1, pw, bas, cs, bnd, s0, s1⟩ := e
  exact ⟨c0, l0, l1, pw, bas, by omega, by omega, by omega, by omega⟩
theorem EI.high {base size code less : Int} {power l : Nat} {bs : Array UInt8} (e : EI base size power code l bs) (h0 : 0 < less) (h1 : less ≤ size) : EI (base + (size - less)) less power (code + (size - less)) l bs := by
  obtain ⟨c0, l0, l1, pw, bas, cs, bnd, s0, s1⟩ := e
  exact ⟨by omega, l0, l1, pw, by rw [bas]; omega, by omega, by omega, by omega, by omega⟩
theorem Norm.here {b s : Int} {p : Nat} (h : 32768 ≤ s) : Norm b s p b s p := ⟨0, by simp, by simp, rfl, h, .inl rfl⟩

theorem ne_lt {a b : Nat} (h : a < b ∨ b < a) : ¬ ((a : Addr) = b) := h.elim (fun h => Nat.ne_of_lt h) fun h => Nat.ne_of_gt h
theorem one0 : ((1 : Int) = 0) = False := by simp
theorem ff : (false = true) = False := by simp
local macro_rules | `(tactic| walk_at "call ref") => `(tactic| (refine Halt.out ?_))

set_option maxHeartbeats 8000000 in
theorem put_spec {w : World} {bins db st se enc de fnd : Nat} {pa pb u0 u1 x0 x1 ta tb a b c d ts tc tl : Tok} {at_ bit s0 s1 e0 e1 : Int} {n k : Nat} {base size code : Int} {power l : Nat} {bs : Array UInt8}
    (h1 : db < bins) (h2 : bins < st) (h3 : st < se) (h4 : se < de) (h5 : de < enc) (h6 : enc < fnd) (hat : at_ = 0 ∨ at_ = 1) (hs0 : 0 ≤ s0) (hs0' : s0 < 114) (hs1 : 0 ≤ s1) (hs1' : s1 < 114)
    (ei : EI base size power code l bs) (hsz : 32768 ≤ size) (hp : power ≤ 1000) :
    SpecI w 3 36 186 [.ref enc, .ref bins, .int at_ ta, .int bit tb] [(bins, instObj 147 db), (db, BinsD w.params pa pb st se), (st, listOf #[.int s0 u0, .int s1 u1] n), (se, listOf #[.int e0 x0, .int e1 x1] k),
        (enc, instObj 217 de), (de, EncD w.params a b c d (.int size ts) (.int code tc) (.int (l : Int) tl) fnd), (fnd, baOf bs)]
      (fun _ v new => v = .none ∧ ∃ (base' size' code' : Int) (power' l' : Nat) (bs' : Array UInt8) (t1 t2 t3 v0 v1 y0 y1 : Tok) (n' k' : Nat),
        Norm (cutB base size (rowI w.params (if at_ = 0 then s0 else s1).toNat 0) (lowPart size (rowI w.params (if at_ = 0 then s0 else s1).toNat 0) (bit = if at_ = 0 then e0 else e1)))
          (cutS size (rowI w.params (if at_ = 0 then s0 else s1).toNat 0) (lowPart size (rowI w.params (if at_ = 0 then s0 else s1).toNat 0) (bit = if at_ = 0 then e0 else e1))) power base' size' power' ∧
        EI base' size' power' code' l' bs' ∧
        new = [(bins, instObj 147 db), (db, BinsD w.params pa pb st se),
          (st, listOf #[.int (if at_ = 0 then nxS w.params s0 e0 bit size else s0) v0, .int (if at_ = 0 then s1 else nxS w.params s1 e1 bit size) v1] n'),
          (se, listOf #[.int (if at_ = 0 then nxE w.params s0 e0 bit else e0) y0, .int (if at_ = 0 then e1 else nxE w.params s1 e1 bit) y1] k'),
          (enc, instObj 217 de), (de, EncD w.params a b c d (.int size' t1) (.int code' t2) (.int (l' : Int) t3) fnd), (fnd, baOf bs')]) := by
  intro mean mg mb A g s R hh hg hd hu G hst hsz' hap hR
  refine' enter_I ?kG ?kst ?ksz ?kap ?ho ?hcd ?hroom ?hb ?hl ?_ ?c1 ?c2 ?c3 ?c4
  (case kG => assumption); (case kst => assumption); (case ksz => assumption); (case kap => assumption)
  (case ho => k_is); (case hcd => k_is); (case hroom => omega); (case hb => exact BindsTo.of_eq rfl); (case hl => exact locs rfl)
  (case c1 => exact rfl); (case c2 => exact rfl); (case c3 => exact rfl); (case c4 => decide)
  intro L h₁ F' N' l1 hL
  (have KX := Grd.X (by assumption)); (have T := Grd.T (by assumption)); (try dsimp only); (try k_lt l1)
  rcases hat with rfl | rfl
  · simp only [if_true] at hR
    iterate 2 (refine execs_step ?_; (show wpAny _ _ _ _ _ _); k_fold; k_steps; (try dsimp only))
    obtain ⟨-, r0, r1, -⟩ := row_at w.params (j := s0.toNat) (by omega)
    refine execs_cons_In (exec_If_In ?_)
    k_fold
    k_steps
    all_goals (try dsimp only)
    · rename (bit = e0) => hq
      refine execs_cons_In (exec_If_In ?_)
      k_fold
      k_steps
      all_goals (try dsimp only)
      · refine execs_step ?_; (show wpAny _ _ _ _ _ _); k_fold; k_steps; (try dsimp only)
        rename (32768 ≤ _) => hr
        have q1 : nxS w.params s0 e0 bit size = s0 := by unfold nxS; rw [if_pos hq, if_pos hr]
        have q2 : nxE w.params s0 e0 bit = e0 := by unfold nxE; rw [if_pos hq]
        have q3 : lowPart size (rowI w.params s0.toNat 0) (bit = e0) = true := by unfold lowPart; rw [if_pos (by omega)]; exact decide_eq_true hq
        simp only [q1, q2, q3, cutB, cutS, if_true] at hR
        refine spec_same hR (by assumption) (by assumption) ⟨rfl, base, _, code, power, l, bs, _, _, _, _, _, _, _, _, _, Norm.here hr, ei.low (by omega) (by omega), rfl⟩
      · refine execs_nil_In ?_
        refine execs_cons_In (exec_If_In ?_)
        k_fold
        k_steps
        all_goals (try dsimp only)
        · iterate 2 (refine execs_step ?_; (show wpAny _ _ _ _ _ _); k_fold; k_steps; (try dsimp only))
          refine execs_nil_In ?_
          refine execs_step ?_; (show wpAny _ _ _ _ _ _); k_fold; k_steps
          unfold Halt
          refine use_A (more_spec h1 h2 (.inl rfl) hs0 hs0' hs1 hs1') hh hg (by show A.depth + 1 + 1 < _; omega) (by show A.units + 3 + 10 < _; omega) (by assumption) (by assumption) G (.left (.left (.left .done))) ?_ ?_
          · simp only [List.mem_cons, List.not_mem_nil, or_false]
            rintro p (rfl | rfl | rfl | rfl) q (rfl | rfl | rfl) <;> exact ne_lt (by dsimp only; omega)
          rintro v new h7 tk7 - ⟨rfl, v0, v1, n', rfl⟩ F7 N7
          simp only [if_true, List.cons_append, List.nil_append] at N7
          have q1 : nxS w.params s0 e0 bit size = rowI w.params s0.toNat 2 := by unfold nxS; rw [if_pos hq, if_neg (by omega)]
          have q2 : nxE w.params s0 e0 bit = e0 := by unfold nxE; rw [if_pos hq]
          have q3 : lowPart size (rowI w.params s0.toNat 0) (bit = e0) = false := by unfold lowPart; rw [if_neg (by omega), decide_eq_true hq]; rfl
          simp only [q1, q2, q3, cutB, cutS, if_true, ff, if_false] at hR
          (try k_unfold)
          (try dsimp only)
          refine execs_nil_In ?_
          refine' execs_cons_In (expr_In (method_In ?_ (by rfl)) (by rfl) (by rfl))
          (show wpAny _ _ _ _ _ _); k_fold; k_steps
          (try k_unfold)
          (try dsimp only)
          refine callWith_In0 (Frag.In.keeps (by assumption) (Fr.keep (by assumption))) (by k_is) ?_
          refine use_I (widen_spec h5 h6 (ei.high (less := (rowI w.params s0.toNat 0)) (by omega) (by omega)) hp) hh hg (by show A.depth + 1 + 2 < _; omega) (by show A.units + 3 + 24 < _; omega) (by assumption) (by assumption) G (.right (.right (.right (.right (.left (.left (.left .done))))))) ?_ ?_
          · simp only [List.mem_cons, List.not_mem_nil, or_false]
            rintro p (rfl | rfl | rfl | rfl) q (rfl | rfl | rfl) <;> exact ne_lt (by dsimp only; omega)
          rintro v new h9 tk9 - ⟨rfl, base', size', code', power', l', bs', t1, t2, t3, nm, ei', rfl⟩ F9 N9
          simp only [List.cons_append, List.nil_append] at N9
          refine ⟨rfl, execs_nil_In ?_⟩
          dsimp only
          refine' spec_end hR F9 N9 ⟨rfl, base', size', code', power', l', bs', _, _, _, _, _, _, _, _, _, nm, ei', rfl⟩ ?mem
          case mem => k_allIn
        · refine execs_nil_In ?_
          refine execs_step ?_; (show wpAny _ _ _ _ _ _); k_fold; k_steps
          unfold Halt
          refine use_A (more_spec h1 h2 (.inl rfl) hs0 hs0' hs1 hs1') hh hg (by show A.depth + 1 + 1 < _; omega) (by show A.units + 3 + 10 < _; omega) (by assumption) (by assumption) G (.left (.left (.left .done))) ?_ ?_
          · simp only [List.mem_cons, List.not_mem_nil, or_false]
            rintro p (rfl | rfl | rfl | rfl) q (rfl | rfl | rfl) <;> exact ne_lt (by dsimp only; omega)
          rintro v new h7 tk7 - ⟨rfl, v0, v1, n', rfl⟩ F7 N7
          simp only [if_true, List.cons_append, List.nil_append] at N7
          have q1 : nxS w.params s0 e0 bit size = rowI w.params s0.toNat 2 := by unfold nxS; rw [if_pos hq, if_neg (by omega)]
          have q2 : nxE w.params s0 e0 bit = e0 := by unfold nxE; rw [if_pos hq]
          have q3 : lowPart size (rowI w.params s0.toNat 0) (bit = e0) = true := by unfold lowPart; rw [if_pos (by omega)]; exact decide_eq_true hq
          simp only [q1, q2, q3, cutB, cutS, if_true, ff, if_false] at hR
          (try k_unfold)
          (try dsimp only)
          refine execs_nil_In ?_
          refine' execs_cons_In (expr_In (method_In ?_ (by rfl)) (by rfl) (by rfl))
          (show wpAny _ _ _ _ _ _); k_fold; k_steps
          (try k_unfold)
          (try dsimp only)
          refine callWith_In0 (Frag.In.keeps (by assumption) (Fr.keep (by assumption))) (by k_is) ?_
          refine use_I (widen_spec h5 h6 (ei.low (less := (rowI w.params s0.toNat 0)) (by omega) (by omega)) hp) hh hg (by show A.depth + 1 + 2 < _; omega) (by show A.units + 3 + 24 < _; omega) (by assumption) (by assumption) G (.right (.right (.right (.right (.left (.left (.left .done))))))) ?_ ?_
          · simp only [List.mem_cons, List.not_mem_nil, or_false]
            rintro p (rfl | rfl | rfl | rfl) q (rfl | rfl | rfl) <;> exact ne_lt (by dsimp only; omega)
          rintro v new h9 tk9 - ⟨rfl, base', size', code', power', l', bs', t1, t2, t3, nm, ei', rfl⟩ F9 N9
          simp only [List.cons_append, List.nil_append] at N9
          refine ⟨rfl, execs_nil_In ?_⟩
          dsimp only
          refine' spec_end hR F9 N9 ⟨rfl, base', size', code', power', l', bs', _, _, _, _, _, _, _, _, _, nm, ei', rfl⟩ ?mem
          case mem => k_allIn
    · rename (bit ≠ e0) => hq
      refine execs_cons_In (exec_If_In ?_)
      k_fold
      k_steps
      all_goals (try dsimp only)
      · iterate 2 (refine execs_step ?_; (show wpAny _ _ _ _ _ _); k_fold; k_steps; (try dsimp only))
        refine execs_nil_In ?_
        refine execs_step ?_; (show wpAny _ _ _ _ _ _); k_fold; k_steps
        unfold Halt
        refine use_A (less_spec h1 h2 h3 (.inl rfl) hs0 hs0' hs1 hs1') hh hg (by show A.depth + 1 + 1 < _; omega) (by show A.units + 3 + 10 < _; omega) (by assumption) (by assumption) G (.left (.left (.left (.left .done)))) ?_ ?_
        · simp only [List.mem_cons, List.not_mem_nil, or_false]
          rintro p (rfl | rfl | rfl) q (rfl | rfl | rfl | rfl) <;> exact ne_lt (by dsimp only; omega)
        rintro v new h7 tk7 - ⟨rfl, v0, v1, y0, y1, n', k', rfl⟩ F7 N7
        simp only [if_true, List.cons_append, List.nil_append] at N7
        have q1 : nxS w.params s0 e0 bit size = rowI w.params s0.toNat 1 := by unfold nxS; rw [if_neg hq]
        have q2 : nxE w.params s0 e0 bit = (if rowI w.params s0.toNat 3 = 1 then 1 - e0 else e0) := by unfold nxE; rw [if_neg hq]
        have q3 : lowPart size (rowI w.params s0.toNat 0) (bit = e0) = false := by unfold lowPart; rw [if_pos (by omega)]; exact decide_eq_false hq
        simp only [q1, q2, q3, cutB, cutS, if_true, ff, if_false] at hR
        (try k_unfold)
        (try dsimp only)
        refine execs_nil_In ?_
        refine' execs_cons_In (expr_In (method_In ?_ (by rfl)) (by rfl) (by rfl))
        (show wpAny _ _ _ _ _ _); k_fold; k_steps
        (try k_unfold)
        (try dsimp only)
        refine callWith_In0 (Frag.In.keeps (by assumption) (Fr.keep (by assumption))) (by k_is) ?_
        refine use_I (widen_spec h5 h6 (ei.high (less := (rowI w.params s0.toNat 0)) (by omega) (by omega)) hp) hh hg (by show A.depth + 1 + 2 < _; omega) (by show A.units + 3 + 24 < _; omega) (by assumption) (by assumption) G (.right (.right (.right (.right (.left (.left (.left .done))))))) ?_ ?_
        · simp only [List.mem_cons, List.not_mem_nil, or_false]
          rintro p (rfl | rfl | rfl | rfl) q (rfl | rfl | rfl) <;> exact ne_lt (by dsimp only; omega)
        rintro v new h9 tk9 - ⟨rfl, base', size', code', power', l', bs', t1, t2, t3, nm, ei', rfl⟩ F9 N9
        simp only [List.cons_append, List.nil_append] at N9
        refine ⟨rfl, execs_nil_In ?_⟩
        dsimp only
        refine' spec_end hR F9 N9 ⟨rfl, base', size', code', power', l', bs', _, _, _, _, _, _, _, _, _, nm, ei', rfl⟩ ?mem
        case mem => k_allIn
      · refine execs_nil_In ?_
        refine execs_step ?_; (show wpAny _ _ _ _ _ _); k_fold; k_steps
        unfold Halt
        refine use_A (less_spec h1 h2 h3 (.inl rfl) hs0 hs0' hs1 hs1') hh hg (by show A.depth + 1 + 1 < _; omega) (by show A.units + 3 + 10 < _; omega) (by assumption) (by assumption) G (.left (.left (.left (.left .done)))) ?_ ?_
        · simp only [List.mem_cons, List.not_mem_nil, or_false]
          rintro p (rfl | rfl | rfl) q (rfl | rfl | rfl | rfl) <;> exact ne_lt (by dsimp only; omega)
        rintro v new h7 tk7 - ⟨rfl, v0, v1, y0, y1, n', k', rfl⟩ F7 N7
        simp only [if_true, List.cons_append, List.nil_append] at N7
        have q1 : nxS w.params s0 e0 bit size = rowI w.params s0.toNat 1 := by unfold nxS; rw [if_neg hq]
        have q2 : nxE w.params s0 e0 bit = (if rowI w.params s0.toNat 3 = 1 then 1 - e0 else e0) := by unfold nxE; rw [if_neg hq]
        have q3 : lowPart size (rowI w.params s0.toNat 0) (bit = e0) = true := by unfold lowPart; rw [if_neg (by omega), decide_eq_false hq]; rfl
        simp only [q1, q2, q3, cutB, cutS, if_true, ff, if_false] at hR
        (try k_unfold)
        (try dsimp only)
        refine execs_nil_In ?_
        refine' execs_cons_In (expr_In (method_In ?_ (by rfl)) (by rfl) (by rfl))
        (show wpAny _ _ _ _ _ _); k_fold; k_steps
        (try k_unfold)
        (try dsimp only)
        refine callWith_In0 (Frag.In.keeps (by assumption) (Fr.keep (by assumption))) (by k_is) ?_
        refine use_I (widen_spec h5 h6 (ei.low (less := (rowI w.params s0.toNat 0)) (by omega) (by omega)) hp) hh hg (by show A.depth + 1 + 2 < _; omega) (by show A.units + 3 + 24 < _; omega) (by assumption) (by assumption) G (.right (.right (.right (.right (.left (.left (.left .done))))))) ?_ ?_
        · simp only [List.mem_cons, List.not_mem_nil, or_false]
          rintro p (rfl | rfl | rfl | rfl) q (rfl | rfl | rfl) <;> exact ne_lt (by dsimp only; omega)
        rintro v new h9 tk9 - ⟨rfl, base', size', code', power', l', bs', t1, t2, t3, nm, ei', rfl⟩ F9 N9
        simp only [List.cons_append, List.nil_append] at N9
        refine ⟨rfl, execs_nil_In ?_⟩
        dsimp only
        refine' spec_end hR F9 N9 ⟨rfl, base', size', code', power', l', bs', _, _, _, _, _, _, _, _, _, nm, ei', rfl⟩ ?mem
        case mem => k_allIn
  · simp only [one0, if_false] at hR
    iterate 2 (refine execs_step ?_; (show wpAny _ _ _ _ _ _); k_fold; k_steps; (try dsimp only))
    obtain ⟨-, r0, r1, -⟩ := row_at w.params (j := s1.toNat) (by omega)
    refine execs_cons_In (exec_If_In ?_)
    k_fold
    k_steps
    all_goals (try dsimp only)
    · rename (bit = e1) => hq
      refine execs_cons_In (exec_If_In ?_)
      k_fold
      k_steps
      all_goals (try dsimp only)
      · refine execs_step ?_; (show wpAny _ _ _ _ _ _); k_fold; k_steps; (try dsimp only)
        rename (32768 ≤ _) => hr
        have q1 : nxS w.params s1 e1 bit size = s1 := by unfold nxS; rw [if_pos hq, if_pos hr]
        have q2 : nxE w.params s1 e1 bit = e1 := by unfold nxE; rw [if_pos hq]
        have q3 : lowPart size (rowI w.params s1.toNat 0) (bit = e1) = true := by unfold lowPart; rw [if_pos (by omega)]; exact decide_eq_true hq
        simp only [q1, q2, q3, cutB, cutS, if_true] at hR
        refine spec_same hR (by assumption) (by assumption) ⟨rfl, base, _, code, power, l, bs, _, _, _, _, _, _, _, _, _, Norm.here hr, ei.low (by omega) (by omega), rfl⟩
      · refine execs_nil_In ?_
        refine execs_cons_In (exec_If_In ?_)
        k_fold
        k_steps
        all_goals (try dsimp only)
        · iterate 2 (refine execs_step ?_; (show wpAny _ _ _ _ _ _); k_fold; k_steps; (try dsimp only))
          refine execs_nil_In ?_
          refine execs_step ?_; (show wpAny _ _ _ _ _ _); k_fold; k_steps
          unfold Halt
          refine use_A (more_spec h1 h2 (.inr rfl) hs0 hs0' hs1 hs1') hh hg (by show A.depth + 1 + 1 < _; omega) (by show A.units + 3 + 10 < _; omega) (by assumption) (by assumption) G (.left (.left (.left .done))) ?_ ?_
          · simp only [List.mem_cons, List.not_mem_nil, or_false]
            rintro p (rfl | rfl | rfl | rfl) q (rfl | rfl | rfl) <;> exact ne_lt (by dsimp only; omega)
          rintro v new h7 tk7 - ⟨rfl, v0, v1, n', rfl⟩ F7 N7
          simp only [one0, if_false, List.cons_append, List.nil_append] at N7
          have q1 : nxS w.params s1 e1 bit size = rowI w.params s1.toNat 2 := by unfold nxS; rw [if_pos hq, if_neg (by omega)]
          have q2 : nxE w.params s1 e1 bit = e1 := by unfold nxE; rw [if_pos hq]
          have q3 : lowPart size (rowI w.params s1.toNat 0) (bit = e1) = false := by unfold lowPart; rw [if_neg (by omega), decide_eq_true hq]; rfl
          simp only [q1, q2, q3, cutB, cutS, if_true, ff, if_false] at hR
          (try k_unfold)
          (try dsimp only)
          refine execs_nil_In ?_
          refine' execs_cons_In (expr_In (method_In ?_ (by rfl)) (by rfl) (by rfl))
          (show wpAny _ _ _ _ _ _); k_fold; k_steps
          (try k_unfold)
          (try dsimp only)
          refine callWith_In0 (Frag.In.keeps (by assumption) (Fr.keep (by assumption))) (by k_is) ?_
          refine use_I (widen_spec h5 h6 (ei.high (less := (rowI w.params s1.toNat 0)) (by omega) (by omega)) hp) hh hg (by show A.depth + 1 + 2 < _; omega) (by show A.units + 3 + 24 < _; omega) (by assumption) (by assumption) G (.right (.right (.right (.right (.left (.left (.left .done))))))) ?_ ?_
          · simp only [List.mem_cons, List.not_mem_nil, or_false]
            rintro p (rfl | rfl | rfl | rfl) q (rfl | rfl | rfl) <;> exact ne_lt (by dsimp only; omega)
          rintro v new h9 tk9 - ⟨rfl, base', size', code', power', l', bs', t1, t2, t3, nm, ei', rfl⟩ F9 N9
          simp only [List.cons_append, List.nil_append] at N9
          refine ⟨rfl, execs_nil_In ?_⟩
          dsimp only
          refine' spec_end hR F9 N9 ⟨rfl, base', size', code', power', l', bs', _, _, _, _, _, _, _, _, _, nm, ei', rfl⟩ ?mem
          case mem => k_allIn
        · refine execs_nil_In ?_
          refine execs_step ?_; (show wpAny _ _ _ _ _ _); k_fold; k_steps
          unfold Halt
          refine use_A (more_spec h1 h2 (.inr rfl) hs0 hs0' hs1 hs1') hh hg (by show A.depth + 1 + 1 < _; omega) (by show A.units + 3 + 10 < _; omega) (by assumption) (by assumption) G (.left (.left (.left .done))) ?_ ?_
          · simp only [List.mem_cons, List.not_mem_nil, or_false]
            rintro p (rfl | rfl | rfl | rfl) q (rfl | rfl | rfl) <;> exact ne_lt (by dsimp only; omega)
          rintro v new h7 tk7 - ⟨rfl, v0, v1, n', rfl⟩ F7 N7
          simp only [one0, if_false, List.cons_append, List.nil_append] at N7
          have q1 : nxS w.params s1 e1 bit size = rowI w.params s1.toNat 2 := by unfold nxS; rw [if_pos hq, if_neg (by omega)]
          have q2 : nxE w.params s1 e1 bit = e1 := by unfold nxE; rw [if_pos hq]
          have q3 : lowPart size (rowI w.params s1.toNat 0) (bit = e1) = true := by unfold lowPart; rw [if_pos (by omega)]; exact decide_eq_true hq
          simp only [q1, q2, q3, cutB, cutS, if_true, ff, if_false] at hR
          (try k_unfold)
          (try dsimp only)
          refine execs_nil_In ?_
          refine' execs_cons_In (expr_In (method_In ?_ (by rfl)) (by rfl) (by rfl))
          (show wpAny _ _ _ _ _ _); k_fold; k_steps
          (try k_unfold)
          (try dsimp only)
          refine callWith_In0 (Frag.In.keeps (by assumption) (Fr.keep (by assumption))) (by k_is) ?_
          refine use_I (widen_spec h5 h6 (ei.low (less := (rowI w.params s1.toNat 0)) (by omega) (by omega)) hp) hh hg (by show A.depth + 1 + 2 < _; omega) (by show A.units + 3 + 24 < _; omega) (by assumption) (by assumption) G (.right (.right (.right (.right (.left (.left (.left .done))))))) ?_ ?_
          · simp only [List.mem_cons, List.not_mem_nil, or_false]
            rintro p (rfl | rfl | rfl | rfl) q (rfl | rfl | rfl) <;> exact ne_lt (by dsimp only; omega)
          rintro v new h9 tk9 - ⟨rfl, base', size', code', power', l', bs', t1, t2, t3, nm, ei', rfl⟩ F9 N9
          simp only [List.cons_append, List.nil_append] at N9
          refine ⟨rfl, execs_nil_In ?_⟩
          dsimp only
          refine' spec_end hR F9 N9 ⟨rfl, base', size', code', power', l', bs', _, _, _, _, _, _, _, _, _, nm, ei', rfl⟩ ?mem
          case mem => k_allIn
    · rename (bit ≠ e1) => hq
      refine execs_cons_In (exec_If_In ?_)
      k_fold
      k_steps
      all_goals (try dsimp only)
      · iterate 2 (refine execs_step ?_; (show wpAny _ _ _ _ _ _); k_fold; k_steps; (try dsimp only))
        refine execs_nil_In ?_
        refine execs_step ?_; (show wpAny _ _ _ _ _ _); k_fold; k_steps
        unfold Halt
        refine use_A (less_spec h1 h2 h3 (.inr rfl) hs0 hs0' hs1 hs1') hh hg (by show A.depth + 1 + 1 < _; omega) (by show A.units + 3 + 10 < _; omega) (by assumption) (by assumption) G (.left (.left (.left (.left .done)))) ?_ ?_
        · simp only [List.mem_cons, List.not_mem_nil, or_false]
          rintro p (rfl | rfl | rfl) q (rfl | rfl | rfl | rfl) <;> exact ne_lt (by dsimp only; omega)
        rintro v new h7 tk7 - ⟨rfl, v0, v1, y0, y1, n', k', rfl⟩ F7 N7
        simp only [one0, if_false, List.cons_append, List.nil_append] at N7
        have q1 : nxS w.params s1 e1 bit size = rowI w.params s1.toNat 1 := by unfold nxS; rw [if_neg hq]
        have q2 : nxE w.params s1 e1 bit = (if rowI w.params s1.toNat 3 = 1 then 1 - e1 else e1) := by unfold nxE; rw [if_neg hq]
        have q3 : lowPart size (rowI w.params s1.toNat 0) (bit = e1) = false := by unfold lowPart; rw [if_pos (by omega)]; exact decide_eq_false hq
        simp only [q1, q2, q3, cutB, cutS, if_true, ff, if_false] at hR
        (try k_unfold)
        (try dsimp only)
        refine execs_nil_In ?_
        refine' execs_cons_In (expr_In (method_In ?_ (by rfl)) (by rfl) (by rfl))
        (show wpAny _ _ _ _ _ _); k_fold; k_steps
        (try k_unfold)
        (try dsimp only)
        refine callWith_In0 (Frag.In.keeps (by assumption) (Fr.keep (by assumption))) (by k_is) ?_
        refine use_I (widen_spec h5 h6 (ei.high (less := (rowI w.params s1.toNat 0)) (by omega) (by omega)) hp) hh hg (by show A.depth + 1 + 2 < _; omega) (by show A.units + 3 + 24 < _; omega) (by assumption) (by assumption) G (.right (.right (.right (.right (.left (.left (.left .done))))))) ?_ ?_
        · simp only [List.mem_cons, List.not_mem_nil, or_false]
          rintro p (rfl | rfl | rfl | rfl) q (rfl | rfl | rfl) <;> exact ne_lt (by dsimp only; omega)
        rintro v new h9 tk9 - ⟨rfl, base', size', code', power', l', bs', t1, t2, t3, nm, ei', rfl⟩ F9 N9
        simp only [List.cons_append, List.nil_append] at N9
        refine ⟨rfl, execs_nil_In ?_⟩
        dsimp only
        refine' spec_end hR F9 N9 ⟨rfl, base', size', code', power', l', bs', _, _, _, _, _, _, _, _, _, nm, ei', rfl⟩ ?mem
        case mem => k_allIn
      · refine execs_nil_In ?_
        refine execs_step ?_; (show wpAny _ _ _ _ _ _); k_fold; k_steps
        unfold Halt
        refine use_A (less_spec h1 h2 h3 (.inr rfl) hs0 hs0' hs1 hs1') hh hg (by show A.depth + 1 + 1 < _; omega) (by show A.units + 3 + 10 < _; omega) (by assumption) (by assumption) G (.left (.left (.left (.left .done)))) ?_ ?_
        · simp only [List.mem_cons, List.not_mem_nil, or_false]
          rintro p (rfl | rfl | rfl) q (rfl | rfl | rfl | rfl) <;> exact ne_lt (by dsimp only; omega)
        rintro v new h7 tk7 - ⟨rfl, v0, v1, y0, y1, n', k', rfl⟩ F7 N7
        simp only [one0, if_false, List.cons_append, List.nil_append] at N7
        have q1 : nxS w.params s1 e1 bit size = rowI w.params s1.toNat 1 := by unfold nxS; rw [if_neg hq]
        have q2 : nxE w.params s1 e1 bit = (if rowI w.params s1.toNat 3 = 1 then 1 - e1 else e1) := by unfold nxE; rw [if_neg hq]
        have q3 : lowPart size (rowI w.params s1.toNat 0) (bit = e1) = true := by unfold lowPart; rw [if_neg (by omega), decide_eq_false hq]; rfl
        simp only [q1, q2, q3, cutB, cutS, if_true, ff, if_false] at hR
        (try k_unfold)
        (try dsimp only)
        refine execs_nil_In ?_
        refine' execs_cons_In (expr_In (method_In ?_ (by rfl)) (by rfl) (by rfl))
        (show wpAny _ _ _ _ _ _); k_fold; k_steps
        (try k_unfold)
        (try dsimp only)
        refine callWith_In0 (Frag.In.keeps (by assumption) (Fr.keep (by assumption))) (by k_is) ?_
        refine use_I (widen_spec h5 h6 (ei.low (less := (rowI w.params s1.toNat 0)) (by omega) (by omega)) hp) hh hg (by show A.depth + 1 + 2 < _; omega) (by show A.units + 3 + 24 < _; omega) (by assumption) (by assumption) G (.right (.right (.right (.right (.left (.left (.left .done))))))) ?_ ?_
        · simp only [List.mem_cons, List.not_mem_nil, or_false]
          rintro p (rfl | rfl | rfl | rfl) q (rfl | rfl | rfl) <;> exact ne_lt (by dsimp only; omega)
        rintro v new h9 tk9 - ⟨rfl, base', size', code', power', l', bs', t1, t2, t3, nm, ei', rfl⟩ F9 N9
        simp only [List.cons_append, List.nil_append] at N9
        refine ⟨rfl, execs_nil_In ?_⟩
        dsimp only
        refine' spec_end hR F9 N9 ⟨rfl, base', size', code', power', l', bs', _, _, _, _, _, _, _, _, _, nm, ei', rfl⟩ ?mem
        case mem => k_allIn
end Mine
end

section
namespace Mine
open PySem.Calls

theorem shift_ {base size code t V W K P : Int} (c0 : 0 ≤ code) (hK : 0 < K) (hP : 0 < P) (hKP : K * P = 134217728) (bas : base = V * K + code) (cs : code + size ≤ 2 * K) (bnd : base + size ≤ W * K) (h1 : code ≤ t) (h2 : t < code + size) :
    0 ≤ t * P ∧ t * P < 268435456 ∧ (134217728 ≤ t * P → V + 1 < W) := by
  refine ⟨Int.mul_nonneg (Int.le_trans c0 h1) (Int.le_of_lt hP), ?_, fun h => ?_⟩
  · have := Int.mul_lt_mul_of_pos_right (Int.lt_of_lt_of_le h2 cs) hP
    rw [Int.mul_assoc, hKP] at this
    exact this
  · have h3 : K ≤ t := Int.le_of_mul_le_mul_right (hKP ▸ h) hP
    refine Int.lt_of_mul_lt_mul_right (a := K) ?_ (Int.le_of_lt hK)
    rw [Int.add_mul, Int.one_mul]
    omega
theorem EI.shift {base size code t : Int} {power l : Nat} {bs : Array UInt8} (e : EI base size power code l bs) (h1 : code ≤ t) (h2 : t < code + size) :
    0 ≤ t * 2 ^ l ∧ t * 2 ^ l < 268435456 ∧ (134217728 ≤ t * 2 ^ l → V bs.toList + 1 < 256 ^ bs.size) := by
  obtain ⟨c0, l0, l1, pw, bas, cs, bnd, s0, s1⟩ := e
  obtain ⟨r, hr⟩ : ∃ r, 27 = l + r := ⟨27 - l, (Nat.add_sub_of_le (Nat.le_trans l1 (by decide))).symm⟩
  have e1 : 27 - l = r := by rw [hr, Nat.add_sub_cancel_left]
  have e2 : 28 - l = r + 1 := by rw [show 28 = l + (r + 1) by rw [← Nat.add_assoc, ← hr], Nat.add_sub_cancel_left]
  have e3 : 16 + power = 8 * bs.size + r := by clear bas cs bnd h1 h2; omega
  rw [e3, Int.pow_add, Int.pow_mul] at bnd
  rw [e1] at bas
  rw [e2, pow_up rfl] at cs
  have k := shift_ (W := (256 : Int) ^ bs.size) c0 (P := 2 ^ l) (Int.pow_pos (by decide)) (Int.pow_pos (by decide)) (by rw [← Int.pow_add, Nat.add_comm, ← hr]; rfl) bas cs bnd h1 h2
  exact ⟨k.1, k.2.1, fun h => Int.ofNat_lt.mp (by rw [Int.natCast_pow]; exact k.2.2 h)⟩

theorem exact_end {t : Int} {l v v1 v2 : Nat} (l0 : 1 ≤ l) (l1 : l ≤ 11) (t0 : 0 ≤ t) (ht : t % 32768 = 0) (h1 : (v1 : Int) = 256 * v + t * 2 ^ l / 524288) (h2 : (v2 : Int) = 256 * v1 + t * 2 ^ l % 524288 * 256 / 524288) :
    (v2 : Int) * 2 ^ (11 - l) = v * 2 ^ (27 - l) + t := by
  have ha : 27 - l = 16 + (11 - l) := by clear h1 h2; omega
  have hb : (2 : Int) ^ l * 2 ^ (11 - l) = 2048 := by rw [← Int.pow_add, Nat.add_sub_of_le l1]; rfl
  rw [ha, Int.pow_add]
  generalize (2 : Int) ^ (11 - l) = R at *
  generalize (2 : Int) ^ l = P at *
  have hu : 32768 * (t / 32768) = t := Int.mul_ediv_cancel' (Int.dvd_of_emod_eq_zero ht)
  generalize t / 32768 = u at hu
  subst hu
  rw [Int.mul_assoc] at h1 h2
  have h3 : (v2 : Int) = v * 65536 + 16 * (u * P) := by clear hb ht t0; omega
  rw [h3, Int.add_mul, Int.mul_assoc, Int.mul_assoc, Int.mul_assoc, hb]
  show _ = (v : Int) * (65536 * R) + _
  rw [Int.mul_comm u, ← Int.mul_assoc 16]; rfl

theorem end_within {base size t code : Int} {power l v2 v3 m : Nat} {bs : Array UInt8} (e : EI base size power code l bs) (h1 : code ≤ t) (h2 : t < code + size)
    (h : (v2 : Int) * 2 ^ (11 - l) = V bs.toList * 2 ^ (27 - l) + t) (hm : m ≤ bs.size + 2) (hv : v2 = v3 * 256 ^ (bs.size + 2 - m)) :
    8 * m ≤ 16 + power ∧ base ≤ (v3 : Int) * 2 ^ (16 + power - 8 * m) ∧ (v3 : Int) * 2 ^ (16 + power - 8 * m) < base + size := by
  have bas := e.bas
  have e0 : 16 + power = 8 * m + (8 * (bs.size + 2 - m) + (11 - l)) := by
    have l1 := e.l1
    have pw := e.pw
    clear e h h1 h2 hv bas
    omega
  have e2 : (v3 : Int) * 2 ^ (16 + power - 8 * m) = v2 * 2 ^ (11 - l) := by
    rw [e0, Nat.add_sub_cancel_left, Int.pow_add, Int.pow_mul, ← Int.mul_assoc, hv]
    simp
  rw [e2, h]
  refine ⟨e0 ▸ Nat.le_add_right _ _, ?_, ?_⟩ <;> rw [bas]
  · exact Int.add_le_add_left h1 _
  · rw [Int.add_assoc]; exact Int.add_lt_add_left h2 _

theorem V_pop {bs : Array UInt8} (h : 0 < bs.size) (hz : (bs.getD (bs.size - 1) 0).toNat = 0) : V bs.toList = V (bs.eraseIdxIfInBounds (bs.size - 1)).toList * 256 ∧ (bs.eraseIdxIfInBounds (bs.size - 1)).size = bs.size - 1 := by
  have hl : bs.size - 1 < bs.size := by omega
  have e : bs.eraseIdxIfInBounds (bs.size - 1) = bs.pop := by
    simp only [Array.eraseIdxIfInBounds, hl, dif_pos]
    apply Array.ext'
    simp [Array.toList_eraseIdx]
    rw [List.eraseIdx_eq_take_drop_succ]
    have : bs.size - 1 + 1 = bs.toList.length := by simp; omega
    rw [this, List.drop_length, List.append_nil, List.dropLast_eq_take]
    simp
  rw [e]
  refine ⟨?_, Array.size_pop⟩
  have e2 : bs.pop.push (bs.getD (bs.size - 1) 0) = bs := by
    apply Array.ext
    · simp; omega
    · intro i h1 h2
      by_cases hi : i < bs.size - 1
      · rw [Array.getElem_push_lt (by simpa using hi)]; simp
      · have hi' : i = bs.size - 1 := by omega
        subst hi'
        simp [Array.getElem_push, Array.getD, hl]
  have e3 := V_pushA bs.pop (bs.getD (bs.size - 1) 0)
  rw [e2, hz] at e3
  exact e3

theorem size_pos_of {bs : Array UInt8} (h : bs.toList.isEmpty = false) : 0 < bs.size := by
  rcases Nat.eq_zero_or_pos bs.size with h1 | h1
  · rw [Array.eq_empty_of_size_eq_zero h1] at h; cases h
  · exact h1

theorem expr_InV {M : Model} {A : Around} {E : Value → Shared → Prop} {s : Shared} {env : Env} {Q : Flow → Shared → Prop} {e : Expr} {pos : Pos} (h : wpIn M A (eval e env) (fun v s' => (∀ a, v ≠ .ref a) ∧ Q .next s') E s)
    (hi : interactive env = false) (hs : swapsWith e none pos.line env = pure false) :
    wpIn M A (exec (.Expr e pos) env) Q E s := by
  rw [exec_Expr env e pos hi hs]
  refine wpIn_bind (wpIn_standAt (wpIn_bind (wpIn_mono h (fun v s' h' => ?_) fun _ _ x => x)))
  obtain ⟨hv, h'⟩ := h'
  rw [dropValue_plain hv]
  exact wpIn_pure h'

local macro_rules | `(tactic| walk_at "inplaceOp LShift int int") => `(tactic| (refine ilshift_int_small ?_ ?_ ?_ ?_; (iterate 3 (first | assumption | omega))))
local macro_rules | `(tactic| walk_at "subscriptTail") => `(tactic| ((with_reducible show wpAny _ _ (subscriptTail _ _ (Value.ref _) (Value.int (-1) _)) _ _ _); refine ba_tailLast (by k_asm) (by k_mem) (by first | assumption | omega | exact size_pos_of (by assumption)) (by first | assumption | omega) ?_))
local macro_rules | `(tactic| walk_at "compareOp NotEq ref bytes") => `(tactic| (refine ba_neK (by k_asm) (by k_mem) (by show _ + _ < _; omega) ?_))
local macro_rules | `(tactic| walk_at "getMethod ref") => `(tactic| ((with_reducible show wpAny _ _ (getMethod (Value.ref _) (Str.ofString "pop") _) _ _ _); refine ba_getMethod_pop (News.get (by k_asm) (by k_mem)) ?_))
local macro_rules | `(tactic| walk_at "call ref") => `(tactic| (refine Halt.out ?_))

set_option maxHeartbeats 8000000 in
theorem finish_spec {w : World} {enc de fnd : Nat} {a b c d ts tc tl : Tok} {base size code : Int} {power l : Nat} {bs : Array UInt8}
    (h5 : de < enc) (h6 : enc < fnd) (ei : EI base size power code l bs) (hsz : 32768 ≤ size) (hp : power ≤ 1000) :
    SpecI w 2 30 214 [.ref enc] [(enc, instObj 217 de), (de, EncD w.params a b c d (.int size ts) (.int code tc) (.int (l : Int) tl) fnd), (fnd, baOf bs)]
      (fun _ v new => ∃ (bs' : Array UInt8) (t : Tok), v = .bytes bs' t ∧ bs'.size ≤ 1000 ∧ 8 * bs'.size ≤ 16 + power ∧ base ≤ (V bs'.toList : Int) * 2 ^ (16 + power - 8 * bs'.size) ∧ (V bs'.toList : Int) * 2 ^ (16 + power - 8 * bs'.size) < base + size ∧ new = []) := by
  intro mean mg mb A g s R hh hg hd hu G hst hsz' hap hR
  refine' enter_I ?kG ?kst ?ksz ?kap ?ho ?hcd ?hroom ?hb ?hl ?_ ?c1 ?c2 ?c3 ?c4
  (case kG => assumption); (case kst => assumption); (case ksz => assumption); (case kap => assumption)
  (case ho => k_is); (case hcd => k_is); (case hroom => omega); (case hb => exact BindsTo.of_eq rfl); (case hl => exact locs rfl)
  (case c1 => exact rfl); (case c2 => exact rfl); (case c3 => exact rfl); (case c4 => decide)
  intro L h₁ F' N' l1 hL
  (have KX := Grd.X (by assumption)); (have T := Grd.T (by assumption)); (try dsimp only); (try k_lt l1)
  have hz : bs.size < 300 := by have := ei.pw; have := ei.l1; omega
  have c0 := ei.c0
  have l0 := ei.l0
  have l11 := ei.l1
  refine execs_step ?_
  (show wpAny _ _ _ _ _ _)
  k_fold
  k_steps
  (try k_unfold)
  (try dsimp only)
  unfold Halt
  refine use_A (clear_spec h5 c0 hsz) hh hg (by show A.depth + 1 + 1 < _; omega) (by show A.units + 3 + 10 < _; omega) (by assumption) (by assumption) G (.left (.left .done)) ?_ ?_
  · simp only [List.mem_cons, List.not_mem_nil, or_false]
    rintro p rfl q (rfl | rfl) <;> exact ne_lt (by dsimp only; omega)
  rintro v new h7 tk7 - ⟨rfl, tc', t, ht, t1, t2, rfl⟩ F7 N7
  obtain ⟨s1, s2, s3⟩ := ei.shift t1 t2
  simp only [List.cons_append, List.nil_append] at N7
  (try k_unfold)
  (try dsimp only)
  have st1 : t.natAbs < 2 ^ 64 := by
    have p1 : (1 : Int) ≤ 2 ^ l := Int.pow_pos (by decide)
    have p2 : t * 1 ≤ t * 2 ^ l := Int.mul_le_mul_of_nonneg_left p1 (by omega)
    omega
  have t0 : 0 ≤ t := by omega
  refine execs_step ?_
  (show wpAny _ _ _ _ _ _)
  k_fold
  k_steps
  (try dsimp only)
  rename_i N8
  rw [Int.toNat_natCast] at N8
  refine' execs_cons_In (expr_In (method_In ?_ (by rfl)) (by rfl) (by rfl))
  (show wpAny _ _ _ _ _ _); k_fold; k_steps
  (try k_unfold)
  (try dsimp only)
  refine callWith_In0 (Frag.In.keeps (by assumption) (Fr.keep (by assumption))) (by k_is) ?_
  refine use_I (octet_spec h5 h6 s1 s2 s3 (by omega)) hh hg (by show A.depth + 1 + 1 < _; omega) (by show A.units + 3 + 12 < _; omega) (by assumption) N8 G
    (.left (.left (.left .done))) (fun p hp => nomatch hp) ?_
  rintro v new h7 tk7 - ⟨rfl, tc1, bs1, hz1, hv1, rfl⟩ F9 N9
  simp only [List.append_nil] at N9
  refine ⟨rfl, ?_⟩
  dsimp only
  obtain ⟨c1, hc1⟩ : ∃ c1, c1 = t * 2 ^ l % 524288 := ⟨_, rfl⟩
  rw [← hc1] at N9
  have c10 : 0 ≤ c1 := by omega
  have c11 : c1 < 524288 := by omega
  refine execs_step ?_
  (show wpAny _ _ _ _ _ _)
  k_fold
  k_steps
  (try dsimp only)
  rename_i N10
  have e8 : c1 * 2 ^ Int.toNat 8 = c1 * 256 := rfl
  rw [e8] at N10
  refine' execs_cons_In (expr_In (method_In ?_ (by rfl)) (by rfl) (by rfl))
  (show wpAny _ _ _ _ _ _); k_fold; k_steps
  (try k_unfold)
  (try dsimp only)
  refine callWith_In0 (Frag.In.keeps (by assumption) (Fr.keep (by assumption))) (by k_is) ?_
  refine use_I (octet_spec h5 h6 (code := c1 * 256) (by omega) (by omega) (by omega) (by omega)) hh hg (by show A.depth + 1 + 1 < _; omega) (by show A.units + 3 + 12 < _; omega) (by assumption) N10 G
    (.left (.left (.left .done))) (fun p hp => nomatch hp) ?_
  rintro v new h8 tk8 - ⟨rfl, tc2, bs2, hz2, hv2, rfl⟩ F11 N11
  simp only [List.append_nil] at N11
  refine ⟨rfl, ?_⟩
  dsimp only
  have hex : (V bs2.toList : Int) * 2 ^ (11 - l) = V bs.toList * 2 ^ (27 - l) + t := exact_end l0 l11 t0 ht hv1 (hc1 ▸ hv2)
  have hz2' : bs2.size = bs.size + 2 := by omega
  clear hv2 hv1 hc1
  refine fr_gen F11 fun m₁ hm₁ F1 => ?_
  refine execs_cons_In ?_
  refine While_invI (fun n m₂ news₂ => ∃ (bs3 : Array UInt8), n = bs3.size ∧ bs3.size ≤ bs.size + 2 ∧ V bs2.toList = V bs3.toList * 256 ^ (bs.size + 2 - bs3.size) ∧
      news₂ = [(enc, instObj 217 de), (de, EncD w.params a b c d (.int size ts) (.int (c1 * 256 % 524288) tc2) (.int (l : Int) tl) fnd), (fnd, baOf bs3)] ∧ m₂ = m₁) F1 N11 (n₀ := bs2.size)
    ⟨bs2, rfl, by omega, by rw [hz2', Nat.sub_self, Nat.pow_zero, Nat.mul_one], rfl, rfl⟩ ?_
  rintro n _ _ h12 tk12 F12 N12 ⟨bs3, rfl, hb3, hV, rfl, rfl⟩
  (try clear F1); (try clear F11); (try clear N11); (try clear F9); (try clear N9); (try clear N10)
  subst hm₁
  (show wpAny _ _ _ _ _ _)
  k_fold
  k_steps
  all_goals (try dsimp only)
  · refine execs_step ?_
    (show wpAny _ _ _ _ _ _)
    k_fold
    k_steps
    refine ba_bytesK N12 (.tail _ (.tail _ (.head _))) (by omega) ?_
    (try k_unfold)
    (try dsimp only)
    obtain ⟨w1, w2, w3⟩ := end_within ei t1 t2 hex (by omega) hV
    exact spec_end hR (by assumption) N12 ⟨bs3, _, rfl, by omega, w1, w2, w3, rfl⟩ (fun _ h => nomatch h)
  · refine' execs_cons_In (expr_InV (method_In ?_ (by rfl)) (by rfl) (by rfl))
    (show wpAny _ _ _ _ _ _); k_fold; k_steps
    (try k_unfold)
    (try dsimp only)
    refine callWith_InB0 ?_
    have hb0 : 0 < bs3.size := size_pos_of (by assumption)
    have hb00 : (bs3.getD (bs3.size - 1) 0).toNat = 0 := by
      rename (((bs3.getD (bs3.size - 1) 0).toNat : Int) = 0) => hq
      exact Int.ofNat.inj hq
    obtain ⟨w1, w2⟩ := V_pop hb0 hb00
    refine' ba_popK hg ?F ?N ?U hb0 (by omega) ?_
    (case F => exact F12)
    (case N => exact N12)
    (case U => k_upd)
    intro v h13 F13 N13
    refine ⟨fun a e => (by cases e), ?_⟩
    refine execs_nil_In ?_
    (show WhileStep _ _ _ _ _ _ _)
    refine' WhileStep.intro (n' := bs3.size - 1) F13 N13 (by omega) ⟨_, w2.symm, by omega, ?_, rfl, rfl⟩
    rw [w2, hV, w1, show bs.size + 2 - (bs3.size - 1) = (bs.size + 2 - bs3.size) + 1 by omega, Nat.pow_succ, Nat.mul_assoc, Nat.mul_comm 256]
  · refine execs_step ?_
    (show wpAny _ _ _ _ _ _)
    k_fold
    k_steps
    refine ba_bytesK N12 (.tail _ (.tail _ (.head _))) (by omega) ?_
    (try k_unfold)
    (try dsimp only)
    obtain ⟨w1, w2, w3⟩ := end_within ei t1 t2 hex (by omega) hV
    exact spec_end hR (by assumption) N12 ⟨bs3, _, rfl, by omega, w1, w2, w3, rfl⟩ (fun _ h => nomatch h)
end Mine
end

section
namespace Mine
open PySem.Calls
abbrev tupO (l : List Value) : Obj := { cls := .type "tuple", data := .seq l.toArray }
theorem newTupleL {M : Model} {A : Around} {E : Value → Shared → Prop} {s : Shared} {h₀ : Heap} {L : Addr} {m : Str → Option Value} {news : List (Addr × Obj)} {vs : List Value} {Q : Value → Shared → Prop} (F : Fr h₀ L s.heap m) (N : News h₀ L s.heap news)
    (h : ∀ (D : Nat) h', Fr h₀ L h' m → News h₀ L h' ((D, tupO vs) :: news) → (∀ p ∈ news, p.1 < D) → L < D → Q (.ref D) { s with heap := h' }) (hz : vs.length ≤ sizeLine) : wpAny M A (newTuple vs) Q E s :=
  newTuple_N F N (fun h' F' N' => h _ h' F' N' (fun p hp => Heap.lt_size (N p hp).1) (by obtain ⟨oL, es, ep, hL, _⟩ := F.ns; exact Heap.lt_size hL)) hz

section
variable {w : World} {mean : ExcName → Option Value} {mg mb : Str → Option Value} {A : Around} {g : Heap} {s : Shared} {R : Result → Shared → Prop} {pre : List (Addr × Obj)}
variable {name qual : Str} {params : Arguments} {body : List Stmt} {scope : Scope} {dV kV doc pm cdv ct oc : Value} {an od : Option Addr} {osl : Array (Option Value)} {f : Addr} {args : Args} {binds : List (Str × Value)}

theorem cells_fr {h₁ : Heap} {tk : Nat} {m cm : Str → Option Value} (hst : g.StaysIn s.heap) (hsz : g.objs.size ≤ s.heap.objs.size) (hap : Apart g s.heap pre)
    (x : InCallC s s.heap.objs.size m (cellsFrom (s.heap.objs.size + 1) scope.names []) cm { s with heap := h₁, toks := tk }) (hnd : ((cellsFrom 0 scope.names []).map (·.1)).Nodup) :
    ∃ cells, Fr g s.heap.objs.size h₁ m ∧ News g s.heap.objs.size h₁ (cells ++ pre) ∧ CellsAre cm (cellsFrom (s.heap.objs.size + 1) scope.names []) cells ∧ ∀ p ∈ pre, p.1 < s.heap.objs.size := by
  have hk₁ := x.toInCall.keep
  obtain ⟨cells, NC, Y⟩ := Cl.news (h₀ := s.heap) (Nat.le_refl _) fun n c hm => ⟨x.cell n c (lookup_of_mem_nodup (cellsFrom_names scope.names 0 (s.heap.objs.size + 1) [] [] rfl ▸ hnd) hm), x.above n c hm⟩
  refine ⟨cells, ⟨x.toInCall.ns, fun b o e => hk₁ b o (hst b o e), hsz⟩, fun p hp => ?_, Y, fun p hp => Heap.lt_size (hap p hp).1⟩
  rcases List.mem_append.mp hp with hp | hp
  · refine ⟨(NC p hp).1, (NC p hp).2.1, ?_⟩
    cases q : g.get? p.1 with
    | none => rfl
    | some o => have := hst _ _ q; rw [(NC p hp).2.2] at this; cases this
  · exact ⟨hk₁ _ _ (hap p hp).1, Nat.ne_of_lt (Heap.lt_size (hap p hp).1), (hap p hp).2⟩

theorem enter_AC (G : Grd w mean mg mb g) (hst : g.StaysIn s.heap) (hsz : g.objs.size ≤ s.heap.objs.size) (hap : Apart g s.heap pre)
    (ho : (Mine.hd.heap_39 w.params).lookup f = some ⟨oc, od, .func (fnOf name qual params body scope dV kV doc pm an cdv ct), osl⟩) (hcd : PySem.W.codeIn (Mine.hd.heap_39 w.params) cdv qual = true) (hroom : A.depth < recursionLimit)
    (hbind : BindsTo s (fnOf name qual params body scope dV kV doc pm an cdv ct) args binds) (hkind : (binds.all fun y => scope.names.lookup y.1 == some .local || scope.names.lookup y.1 == some .cell) = true)
    (hnd : ((cellsFrom 0 scope.names []).map (·.1)).Nodup)
    (h : ∀ L h₁ tk cells, Fr g L h₁ (bindL (envOfC qual scope L f cdv).kindOf binds fun _ => none) → News g L h₁ (cells ++ pre) →
      CellsAre (bindC (envOfC qual scope L f cdv).kindOf binds fun _ => none) (cellsFrom (L + 1) scope.names []) cells → (∀ p ∈ pre, p.1 < L) → L = s.heap.objs.size →
      wpAny (model PySem.Challenge.rw_nt0545_01.row.prog w) (A.deeper (envOfC qual scope L f cdv)) (execs body (envOfC qual scope L f cdv))
        (fun fl s' => R (.ok (.ret (match fl with | .ret v => v | _ => .none))) s') NoE { s with heap := h₁, toks := tk })
    (hco : scope.isCoroutine = false) (hgen : scope.isGenerator = false) (hk : scope.kind = .function) : codeAny (model PySem.Challenge.rw_nt0545_01.row.prog w) A (.call (.ref f) args) R s := by
  refine codeAny_call_function (fd := fnOf name qual params body scope dV kV doc pm an cdv ct) hroom (hst _ _ (G.X _ _ ho)) rfl hco hgen rfl (codeRec_of (G.X.keeps hst) hcd) (hbind _ _ _ _ ?_)
  refine wpAny_newFunctionEnv_cells hk (kindsX hkind _) fun env' he s' x => ?_
  subst he
  refine ⟨(G.T.nolimit.keeps hst).keeps x.toInCall.keep, codeAny_func ?_⟩
  obtain ⟨h₁, tk, rfl, _⟩ := x.done
  obtain ⟨cells, F, N, Y, l⟩ := cells_fr hst hsz hap x hnd
  exact wpAny_noE (h _ h₁ tk cells F N Y l rfl)

theorem enter_IC (G : Grd w mean mg mb g) (hst : g.StaysIn s.heap) (hsz : g.objs.size ≤ s.heap.objs.size) (hap : Apart g s.heap pre)
    (ho : (Mine.hd.heap_39 w.params).lookup f = some ⟨oc, od, .func (fnOf name qual params body scope dV kV doc pm an cdv ct), osl⟩) (hcd : PySem.W.codeIn (Mine.hd.heap_39 w.params) cdv qual = true) (hroom : A.depth < recursionLimit)
    (hbind : BindsTo s (fnOf name qual params body scope dV kV doc pm an cdv ct) args binds) (hkind : (binds.all fun y => scope.names.lookup y.1 == some .local || scope.names.lookup y.1 == some .cell) = true)
    (hnd : ((cellsFrom 0 scope.names []).map (·.1)).Nodup)
    (h : ∀ L h₁ tk cells, Fr g L h₁ (bindL (envOfC qual scope L f cdv).kindOf binds fun _ => none) → News g L h₁ (cells ++ pre) →
      CellsAre (bindC (envOfC qual scope L f cdv).kindOf binds fun _ => none) (cellsFrom (L + 1) scope.names []) cells → (∀ p ∈ pre, p.1 < L) → L = s.heap.objs.size →
      wpIn (model PySem.Challenge.rw_nt0545_01.row.prog w) (A.deeper (envOfC qual scope L f cdv)) (execs body (envOfC qual scope L f cdv))
        (fun fl s' => R (.ok (.ret (match fl with | .ret v => v | _ => .none))) s') NoE { s with heap := h₁, toks := tk })
    (hco : scope.isCoroutine = false) (hgen : scope.isGenerator = false) (hk : scope.kind = .function) : Mine.codeIn (model PySem.Challenge.rw_nt0545_01.row.prog w) A (.call (.ref f) args) R s := by
  refine codeIn_of_tree rfl ?_
  show wpIn _ A.in1 (callAny (.ref f) args) _ _ s
  simp only [callAny]
  refine wpIn_bindA (wpAny_load (hst _ _ (G.X _ _ ho)) ?_)
  have hcd' := codeRec_of (G.X.keeps hst) hcd
  obtain ⟨c, occ, vs, tq, hc, hoc, hdc, hq⟩ := hcd'
  simp only [callFunction, hco, hgen, hc]
  refine wpIn_bindA (m := field (.ref c) 1) (wpAny_field hoc hdc hq (wpIn_bindA (wpAny_pure ?_)))
  refine wpIn_bindA (hc ▸ hbind _ _ _ _ (wpIn_bindA ?_))
  refine wpAny_newFunctionEnv_cells hk (kindsX hkind _) fun env' he s' x => ?_
  subst he
  refine wpIn_bindA (wpAny_enterFrame ((G.T.nolimit.keeps hst).keeps x.toInCall.keep) hroom (wpIn_pure ⟨rfl, codeIn_func ?_⟩))
  obtain ⟨h₁, tk, rfl, _⟩ := x.done
  obtain ⟨cells, F, N, Y, l⟩ := cells_fr hst hsz hap x hnd
  exact hc ▸ h _ h₁ tk cells F N Y l rfl
end
end Mine
end

local macro_rules | `(tactic| walk_at "assign Tuple") => `(tactic| ((with_reducible show wpAny _ _ (assign (Expr.Tuple _ _ _) _ (Value.ref _)) _ _ _); refine unpackN_ (by k_asm) (by k_asm) (by first | exact IsTup.keeps (by assumption) (Fr.keep (by k_asm)) | exact News.isTup (by k_asm) (by first | k_mem | k_ownIn)) (by assumption) (by exact rfl) (by exact rfl) ?_; intro h' F' N'; (try k_sweep)))

local macro_rules | `(tactic| walk_at "unpackItems ref") => `(tactic| (refine unpackItemsN_ (by k_asm) (by k_asm) (by first | exact IsTup.keeps (by assumption) (Fr.keep (by k_asm)) | exact News.isTup (by k_asm) (by first | k_mem | k_ownIn)) (by assumption) (by exact rfl) ?_; intro h' F' N'; (try k_sweep)))

local macro_rules | `(tactic| walk_at "newTuple") => `(tactic| (refine Mine.newTupleL (by k_asm) (by k_asm) ?_ (by kmk_size); intro D' h' F' N' l1 lD; (try k_lt l1); (try k_sweep)))

section
namespace Mine
open PySem.Calls


set_option maxHeartbeats 8000000 in
theorem right_spec {w : World} {n : Int} {tt : Tok} (h0 : 0 ≤ n) (h1 : n < 114) :
    SpecA w 1 8 247 [.int n tt] [] (fun _ v new => v = .bool true ∧ new = []) := by
  intro mean mg mb A g s R hh hg hd hu G hst hsz hap hR
  refine' enter_A ?kG ?kst ?ksz ?kap ?ho ?hcd ?hroom ?hb ?hl ?_ ?c1 ?c2 ?c3 ?c4
  (case kG => assumption); (case kst => assumption); (case ksz => assumption); (case kap => assumption)
  (case ho => k_is); (case hcd => k_is); (case hroom => omega); (case hb => exact BindsTo.of_eq rfl); (case hl => exact locs rfl)
  (case c1 => exact rfl); (case c2 => exact rfl); (case c3 => exact rfl); (case c4 => decide)
  intro L h₁ F' N' l1 hL
  (have KX := Grd.X (by assumption)); (have T := Grd.T (by assumption)); (try dsimp only); (try k_lt l1); (show wpAny _ _ _ _ _ _); k_fold
  obtain ⟨-, r0, r1, r2, r3, r4, r5, r6⟩ := row_at w.params (j := n.toNat) (by omega)
  k_steps
  all_goals first
    | (exfalso; omega)
    | ((try k_unfold); (try dsimp only); refine spec_end hR (by assumption) (by assumption) ⟨?_, rfl⟩ (fun _ h => nomatch h); rcases r6 with r6 | r6 <;> rw [r6] <;> rfl)

/-- the law's own step of a bin -/
noncomputable def laS (P : Params) (n e bit : Int) : Int := if bit = e then rowI P n.toNat 2 else rowI P n.toNat 1
set_option maxHeartbeats 8000000 in
theorem later_spec {w : World} {n e bit : Int} {tt te tb : Tok} (h0 : 0 ≤ n) (h1 : n < 114) :
    SpecA w 1 8 261 [.int n tt, .int e te, .int bit tb] [] (fun b v new => ∃ (r : Nat) (t1 t2 : Tok), b < r ∧ v = .ref r ∧ new = [(r, tupO [.int (laS w.params n e bit) t1, .int (nxE w.params n e bit) t2])]) := by
  intro mean mg mb A g s R hh hg hd hu G hst hsz hap hR
  refine' enter_A ?kG ?kst ?ksz ?kap ?ho ?hcd ?hroom ?hb ?hl ?_ ?c1 ?c2 ?c3 ?c4
  (case kG => assumption); (case kst => assumption); (case ksz => assumption); (case kap => assumption)
  (case ho => k_is); (case hcd => k_is); (case hroom => omega); (case hb => exact BindsTo.of_eq rfl); (case hl => exact locs rfl)
  (case c1 => exact rfl); (case c2 => exact rfl); (case c3 => exact rfl); (case c4 => decide)
  intro L h₁ F' N' l1 hL
  (have KX := Grd.X (by assumption)); (have T := Grd.T (by assumption)); (try dsimp only); (try k_lt l1); (show wpAny _ _ _ _ _ _); k_fold
  k_steps
  all_goals (try k_unfold)
  all_goals (try dsimp only)
  all_goals (rename (@LT.lt Nat _ L _) => lD)
  all_goals (rw [hL] at lD)
  · rename (bit = e) => hq
    have q1 : laS w.params n e bit = rowI w.params n.toNat 2 := by unfold laS; rw [if_pos hq]
    have q2 : nxE w.params n e bit = e := by unfold nxE; rw [if_pos hq]
    simp only [q1, q2] at hR
    exact spec_same hR (by assumption) (by assumption) ⟨_, _, _, lD, rfl, rfl⟩
  · rename (bit ≠ e) => hq
    rename (rowI _ _ _ = 1) => hr
    have q1 : laS w.params n e bit = rowI w.params n.toNat 1 := by unfold laS; rw [if_neg hq]
    have q2 : nxE w.params n e bit = 1 - e := by unfold nxE; rw [if_neg hq, if_pos hr]
    simp only [q1, q2] at hR
    exact spec_same hR (by assumption) (by assumption) ⟨_, _, _, lD, rfl, rfl⟩
  · rename (bit ≠ e) => hq
    rename (rowI _ _ _ ≠ 1) => hr
    have q1 : laS w.params n e bit = rowI w.params n.toNat 1 := by unfold laS; rw [if_neg hq]
    have q2 : nxE w.params n e bit = e := by unfold nxE; rw [if_neg hq, if_neg hr]
    simp only [q1, q2] at hR
    exact spec_same hR (by assumption) (by assumption) ⟨_, _, _, lD, rfl, rfl⟩
end Mine
end

section
namespace Mine
open PySem.Calls
theorem two_pow (B : Int) (k : Nat) : 2 * (B * 2 ^ k) = B * 2 ^ (k + 1) := by rw [Int.pow_succ, ← Int.mul_assoc B]; exact Int.mul_comm _ _
theorem ok_two (b : Int) : IntMulOk 2 b := IntMulOk.of_left (PySem.intBits_le_64 (by decide) (by decide))


local macro_rules | `(tactic| walk_at "eval Name") => `(tactic| (refine ld (by k_asm) (by assumption) ?_; k_whole))
local macro_rules | `(tactic| walk_at "binaryOp Mult int int") => `(tactic| (with_unfolding_all refine PyProof.Rows.mul_int (hm := ok_two _) ?_))
local macro_rules | `(tactic| walk_at "exec While Compare cons nil") => `(tactic| (refine Halt.out ?_))


set_option maxHeartbeats 8000000 in
theorem cut_spec {w : World} {base size less : Int} {power : Nat} {p : Prop} [hp : Decidable p] {tb ts tp tl : Tok} (h0 : 0 < less) (h1 : less < size) :
    SpecA w 1 10 254 [.int base tb, .int size ts, .int (power : Int) tp, .int less tl, .bool (decide p)] [] (fun b v new => ∃ (r : Nat) (base' size' : Int) (power' : Nat) (t1 t2 t3 : Tok), b < r ∧ v = .ref r ∧
      Norm (cutB base size less (lowPart size less p)) (cutS size less (lowPart size less p)) power base' size' power' ∧ new = [(r, tupO [.int base' t1, .int size' t2, .int (power' : Int) t3])]) := by
  intro mean mg mb A g s R hh hg hd hu G hst hsz hap hR
  refine' enter_A ?kG ?kst ?ksz ?kap ?ho ?hcd ?hroom ?hb ?hl ?_ ?c1 ?c2 ?c3 ?c4
  (case kG => assumption); (case kst => assumption); (case ksz => assumption); (case kap => assumption)
  (case ho => k_is); (case hcd => k_is); (case hroom => omega); (case hb => exact BindsTo.of_eq rfl); (case hl => exact locs rfl)
  (case c1 => exact rfl); (case c2 => exact rfl); (case c3 => exact rfl); (case c4 => decide)
  intro L h₁ F' N' l1 hL
  (have KX := Grd.X (by assumption)); (have T := Grd.T (by assumption)); (try dsimp only); (try k_lt l1); (show wpAny _ _ _ _ _ _); k_fold
  k_steps
  · unfold Halt
    have q3 : lowPart size less p = true := by unfold lowPart; rw [if_pos (by omega)]; exact decide_eq_true (by assumption)
    simp only [q3, cutB, cutS, if_true, ff, if_false] at hR
    rename Fr _ _ _ _ => F0
    refine fr_gen F0 fun m₁ hm₁ F1 => ?_
    refine While_inv (fun n m₂ news₂ => ∃ (k : Nat) (b' s' p' : Int) (t1 t2 t3 : Tok), b' = (base) * 2 ^ k ∧ s' = (size - less) * 2 ^ k ∧ p' = ((power + k : Nat) : Int) ∧ 0 < s' ∧ (k = 0 ∨ s' < 65536) ∧ n = (65536 - s').toNat ∧ news₂ = [] ∧
      m₂ (Str.ofString "base") = some (.int b' t1) ∧ m₂ (Str.ofString "size") = some (.int s' t2) ∧ m₂ (Str.ofString "power") = some (.int p' t3)) F1 News.nil (n₀ := (65536 - (size - less)).toNat) ?hJ ?turn PassesOwn.never
    case hJ => exact ⟨0, base, size - less, _, _, _, _, by simp, by simp, rfl, by omega, .inl rfl, rfl, rfl, by rw [hm₁]; rfl, by rw [hm₁]; rfl, by rw [hm₁]; rfl⟩
    case turn =>
      clear F1 F0
      rintro n m₂ _ h5 tk5 F5 N5 ⟨k, b', s', p', t1, t2, t3, eb, es, ep, hs0, hk, hn, rfl, mb1, ms1, mp1⟩
      clear hm₁
      (show wpAny _ _ _ _ _ _)
      k_fold
      k_steps
      all_goals (try k_unfold)
      all_goals (try dsimp only)
      · rename (Fr _ _ _ _) => F6
        (show WhileStep _ _ _ _ _ _ _)
        refine' WhileStep.intro (n' := (65536 - 2 * s').toNat) F6 News.nil (by omega) ?_
        refine ⟨k + 1, _, _, _, _, _, _, ?_, ?_, ?_, ?_, .inr ?_, rfl, rfl, rfl, rfl, rfl⟩
        · rw [eb]; exact two_pow _ _
        · rw [es]; exact two_pow _ _
        · rw [ep]; omega
        · omega
        · omega
      · subst ep
        rename (@LT.lt Nat _ L _) => lD
        rw [hL] at lD
        exact spec_same hR (by assumption) (by assumption) ⟨_, _, _, _, _, _, _, lD, rfl, ⟨k, eb, es, rfl, by omega, hk⟩, rfl⟩
  · unfold Halt
    have q3 : lowPart size less p = false := by unfold lowPart; rw [if_pos (by omega)]; exact decide_eq_false (by assumption)
    simp only [q3, cutB, cutS, if_true, ff, if_false] at hR
    rename Fr _ _ _ _ => F0
    refine fr_gen F0 fun m₁ hm₁ F1 => ?_
    refine While_inv (fun n m₂ news₂ => ∃ (k : Nat) (b' s' p' : Int) (t1 t2 t3 : Tok), b' = (base + (size - less)) * 2 ^ k ∧ s' = (less) * 2 ^ k ∧ p' = ((power + k : Nat) : Int) ∧ 0 < s' ∧ (k = 0 ∨ s' < 65536) ∧ n = (65536 - s').toNat ∧ news₂ = [] ∧
      m₂ (Str.ofString "base") = some (.int b' t1) ∧ m₂ (Str.ofString "size") = some (.int s' t2) ∧ m₂ (Str.ofString "power") = some (.int p' t3)) F1 News.nil (n₀ := (65536 - (less)).toNat) ?hJ ?turn PassesOwn.never
    case hJ => exact ⟨0, base + (size - less), less, _, _, _, _, by simp, by simp, rfl, by omega, .inl rfl, rfl, rfl, by rw [hm₁]; rfl, by rw [hm₁]; rfl, by rw [hm₁]; rfl⟩
    case turn =>
      clear F1 F0
      rintro n m₂ _ h5 tk5 F5 N5 ⟨k, b', s', p', t1, t2, t3, eb, es, ep, hs0, hk, hn, rfl, mb1, ms1, mp1⟩
      clear hm₁
      (show wpAny _ _ _ _ _ _)
      k_fold
      k_steps
      all_goals (try k_unfold)
      all_goals (try dsimp only)
      · rename (Fr _ _ _ _) => F6
        (show WhileStep _ _ _ _ _ _ _)
        refine' WhileStep.intro (n' := (65536 - 2 * s').toNat) F6 News.nil (by omega) ?_
        refine ⟨k + 1, _, _, _, _, _, _, ?_, ?_, ?_, ?_, .inr ?_, rfl, rfl, rfl, rfl, rfl⟩
        · rw [eb]; exact two_pow _ _
        · rw [es]; exact two_pow _ _
        · rw [ep]; omega
        · omega
        · omega
      · subst ep
        rename (@LT.lt Nat _ L _) => lD
        rw [hL] at lD
        exact spec_same hR (by assumption) (by assumption) ⟨_, _, _, _, _, _, _, lD, rfl, ⟨k, eb, es, rfl, by omega, hk⟩, rfl⟩
  · unfold Halt
    have q3 : lowPart size less p = false := by unfold lowPart; rw [if_neg (by omega), decide_eq_true (by assumption)]; rfl
    simp only [q3, cutB, cutS, if_true, ff, if_false] at hR
    rename Fr _ _ _ _ => F0
    refine fr_gen F0 fun m₁ hm₁ F1 => ?_
    refine While_inv (fun n m₂ news₂ => ∃ (k : Nat) (b' s' p' : Int) (t1 t2 t3 : Tok), b' = (base + (size - less)) * 2 ^ k ∧ s' = (less) * 2 ^ k ∧ p' = ((power + k : Nat) : Int) ∧ 0 < s' ∧ (k = 0 ∨ s' < 65536) ∧ n = (65536 - s').toNat ∧ news₂ = [] ∧
      m₂ (Str.ofString "base") = some (.int b' t1) ∧ m₂ (Str.ofString "size") = some (.int s' t2) ∧ m₂ (Str.ofString "power") = some (.int p' t3)) F1 News.nil (n₀ := (65536 - (less)).toNat) ?hJ ?turn PassesOwn.never
    case hJ => exact ⟨0, base + (size - less), less, _, _, _, _, by simp, by simp, rfl, by omega, .inl rfl, rfl, rfl, by rw [hm₁]; rfl, by rw [hm₁]; rfl, by rw [hm₁]; rfl⟩
    case turn =>
      clear F1 F0
      rintro n m₂ _ h5 tk5 F5 N5 ⟨k, b', s', p', t1, t2, t3, eb, es, ep, hs0, hk, hn, rfl, mb1, ms1, mp1⟩
      clear hm₁
      (show wpAny _ _ _ _ _ _)
      k_fold
      k_steps
      all_goals (try k_unfold)
      all_goals (try dsimp only)
      · rename (Fr _ _ _ _) => F6
        (show WhileStep _ _ _ _ _ _ _)
        refine' WhileStep.intro (n' := (65536 - 2 * s').toNat) F6 News.nil (by omega) ?_
        refine ⟨k + 1, _, _, _, _, _, _, ?_, ?_, ?_, ?_, .inr ?_, rfl, rfl, rfl, rfl, rfl⟩
        · rw [eb]; exact two_pow _ _
        · rw [es]; exact two_pow _ _
        · rw [ep]; omega
        · omega
        · omega
      · subst ep
        rename (@LT.lt Nat _ L _) => lD
        rw [hL] at lD
        exact spec_same hR (by assumption) (by assumption) ⟨_, _, _, _, _, _, _, lD, rfl, ⟨k, eb, es, rfl, by omega, hk⟩, rfl⟩
  · unfold Halt
    have q3 : lowPart size less p = true := by unfold lowPart; rw [if_neg (by omega), decide_eq_false (by assumption)]; rfl
    simp only [q3, cutB, cutS, if_true, ff, if_false] at hR
    rename Fr _ _ _ _ => F0
    refine fr_gen F0 fun m₁ hm₁ F1 => ?_
    refine While_inv (fun n m₂ news₂ => ∃ (k : Nat) (b' s' p' : Int) (t1 t2 t3 : Tok), b' = (base) * 2 ^ k ∧ s' = (size - less) * 2 ^ k ∧ p' = ((power + k : Nat) : Int) ∧ 0 < s' ∧ (k = 0 ∨ s' < 65536) ∧ n = (65536 - s').toNat ∧ news₂ = [] ∧
      m₂ (Str.ofString "base") = some (.int b' t1) ∧ m₂ (Str.ofString "size") = some (.int s' t2) ∧ m₂ (Str.ofString "power") = some (.int p' t3)) F1 News.nil (n₀ := (65536 - (size - less)).toNat) ?hJ ?turn PassesOwn.never
    case hJ => exact ⟨0, base, size - less, _, _, _, _, by simp, by simp, rfl, by omega, .inl rfl, rfl, rfl, by rw [hm₁]; rfl, by rw [hm₁]; rfl, by rw [hm₁]; rfl⟩
    case turn =>
      clear F1 F0
      rintro n m₂ _ h5 tk5 F5 N5 ⟨k, b', s', p', t1, t2, t3, eb, es, ep, hs0, hk, hn, rfl, mb1, ms1, mp1⟩
      clear hm₁
      (show wpAny _ _ _ _ _ _)
      k_fold
      k_steps
      all_goals (try k_unfold)
      all_goals (try dsimp only)
      · rename (Fr _ _ _ _) => F6
        (show WhileStep _ _ _ _ _ _ _)
        refine' WhileStep.intro (n' := (65536 - 2 * s').toNat) F6 News.nil (by omega) ?_
        refine ⟨k + 1, _, _, _, _, _, _, ?_, ?_, ?_, ?_, .inr ?_, rfl, rfl, rfl, rfl, rfl⟩
        · rw [eb]; exact two_pow _ _
        · rw [es]; exact two_pow _ _
        · rw [ep]; omega
        · omega
        · omega
      · subst ep
        rename (@LT.lt Nat _ L _) => lD
        rw [hL] at lD
        exact spec_same hR (by assumption) (by assumption) ⟨_, _, _, _, _, _, _, lD, rfl, ⟨k, eb, es, rfl, by omega, hk⟩, rfl⟩
end Mine
end

section
namespace Mine
open PySem.Calls

section
variable {prog : Program} {w : World} {A : Around} {E : Value → Shared → Prop} {s : Shared} {h₀ : Heap} {L : Addr} {m : Str → Option Value} {env : Env} {news : List (Addr × Obj)}

/-- what a comprehension needs of its source when no item passes its test -/
def NoneSrc (prog : Program) (w : World) (A : Around) (env : Env) (scope : Scope) (cl : List (Str × Addr)) (x : Str) (ct : Expr) (h₀ : Heap) (L : Addr) (m : Str → Option Value) (Q : Value → Shared → Prop) (E : Value → Shared → Prop) (xv : Value) (s₁ : Shared) : Prop :=
  ∃ (P : Value → Prop) (news : List (Addr × Obj)), Fr h₀ L s₁.heap m ∧ News h₀ L s₁.heap news ∧
    (∀ Q' : Value → Shared → Prop, (∀ it h₂, s₁.heap.StaysIn h₂ → (∃ (I : Addr) (fp : List Addr) (n : Nat) (Pi : Nat → Value → Prop) (St : Nat → Heap → Prop), it = .ref I ∧ s₁.heap.get? I = none ∧ Walks prog w A I fp [I] n Pi St ∧ n ≤ sizeLine ∧ St 0 h₂ ∧ (∀ b ∈ fp, b < h₂.objs.size) ∧ ∀ i v, Pi i v → P v) → Q' it { s₁ with heap := h₂ }) →
      wpAny (model prog w) A (pyIter xv) Q' E s₁) ∧
    (∀ C v oC m₃ (s₃ : Shared) E', P v → LCg.NsObj oC m₃ → m₃ x = some v → Fr h₀ L s₃.heap m → News h₀ L s₃.heap ((C, oC) :: news) → s₁.heap.StaysIn s₃.heap →
      wpAny (model prog w) A (isTrue ct (compEnvC scope cl C env) (eval ct (compEnvC scope cl C env))) (fun ok s₄ => ok = false ∧ Keeps s₃ s₄) E' s₃) ∧
    (∀ D c h' tk, Fr h₀ L h' m → News h₀ L h' ((D, listOf #[] c) :: news) → (∀ p ∈ news, p.1 ≠ D) → Q (.ref D) { s₁ with heap := h', toks := tk })

theorem comp_none {ct elt iter : Expr} {x : Str} {px : Pos} {scope : Scope} {cl : List (Str × Addr)} {pos : Pos} {Q : Value → Shared → Prop} (F₀ : Fr h₀ L s.heap m)
    (hclos : closureFor scope env = pure cl) (hcell : ∀ y ∈ scope.names, y.2 ≠ .cell) (hkind : scope.kind = .function)
    (hnames : ∀ y ∈ scope.names, y.2 = .local → scope.names.lookup y.1 = some .local) (hx : scope.names.lookup x = some .local)
    (h : wpAny (model prog w) A (eval iter env) (NoneSrc prog w A env scope cl x ct h₀ L m Q E) E s)
    (hs : ∀ x, foldedSetIterable iter env x = pure x := by intro _; rfl) :
    wpAny (model prog w) A (eval (.ListComp elt [⟨.Name x px, iter, [ct], 0⟩] scope pos) env) Q E s := by
  refine wpAny_ListComp_free (fun _ => false) (fun _ _ => False) hclos hcell hkind hnames hx (wpAny_mono h (fun xv s₁ h₁ => ?_) fun _ _ e => e) hs
  obtain ⟨P, news, F, N, hit, ht, hQ⟩ := h₁
  refine hit _ fun it h₂ k ⟨I, fp, n, Pi, St, e, hI, W, hn, hst, hfp, hPi⟩ => ⟨I, fp, [I], n, Pi, St, e, W, hn, hst, hfp, ⟨?_, ?_⟩, ?_⟩
  · intro C i v s₃ m₃ E' hC hv hns hm hk _
    have k₃ : s₁.heap.StaysIn s₃.heap := fun b o e => hk b o (fun q => by rw [List.mem_singleton.mp q, hI] at e; cases e) (k b o e)
    have F₃ := F.keeps k₃
    have fresh : ∀ b, s₁.heap.get? b ≠ none → b ≠ C := fun b hb q => by
      subst q
      cases e : s₁.heap.get? b with
      | none => exact hb e
      | some o => exact absurd (Heap.lt_size (k b o e)) (Nat.not_lt.mpr hC)
    obtain ⟨oC, hoC, nC⟩ := LCg.ns_obj hns
    have nL : C ≠ L := fun q => fresh L (by obtain ⟨oL, _, _, hL, _⟩ := F.ns; rw [hL]; simp) q.symm
    have n0 : h₀.get? C = none := by
      cases e : h₀.get? C with
      | none => rfl
      | some o => exact absurd rfl (fresh C (by rw [F.keep _ _ e]; simp))
    have N₃ : News h₀ L s₃.heap ((C, oC) :: news) := fun p hp => by
      rcases List.mem_cons.mp hp with rfl | hp
      · exact ⟨hoC, nL, n0⟩
      · exact N.grown k₃ p hp
    show wpAny _ _ (forIn (m := Sem) [ct] true _) _ _ _
    rw [List.forIn_cons]
    simp only [if_true]
    refine wpAny_bind (wpAny_bind (wpAny_mono (ht C v oC m₃ s₃ E' (hPi i v hv) nC hm F₃ N₃ k₃) (fun ok s₄ hok => ?_) fun _ _ e => e))
    refine wpAny_pure ?_
    dsimp only
    rw [List.forIn_nil]
    exact wpAny_pure hok
  · intro C i v s₃ m₃ E' hC hv hp
    cases hp
  · intro D h' tk ys vs hD hl hpl hlen hP hF hk
    have e : ys = #[] := by
      have : vs.filter (fun _ => false) = [] := by simp
      rw [this] at hF
      generalize hy : ys.toList = l at hF
      cases hF
      exact Array.toList_inj.mp hy
    subst e
    obtain ⟨c, hc⟩ := hpl
    have k₃ : s₁.heap.StaysIn h' := fun b o e => hk b o (fun q => by rw [List.mem_singleton.mp q, hI] at e; cases e) (k b o e)
    have F₃ := F.keeps k₃
    have fresh : ∀ b, s₁.heap.get? b ≠ none → b ≠ D := fun b hb q => by
      subst q
      cases e : s₁.heap.get? b with
      | none => exact hb e
      | some o =>
        have := k b o e
        rw [hD] at this
        cases this
    have nL : D ≠ L := fun q => fresh L (by obtain ⟨oL, _, _, hL, _⟩ := F.ns; rw [hL]; simp) q.symm
    have n0 : h₀.get? D = none := by
      cases e : h₀.get? D with
      | none => rfl
      | some o => exact absurd rfl (fresh D (by rw [F.keep _ _ e]; simp))
    refine hQ D c h' tk F₃ (fun p hp => ?_) fun p hp => fresh _ (by rw [(N p hp).1]; simp)
    rcases List.mem_cons.mp hp with rfl | hp
    · exact ⟨hc, nL, n0⟩
    · exact N.grown k₃ p hp

theorem iter_dictK {K : Type} [DecidableEq K] {knd : KeyKind prog w K} {d : Addr} {o : Obj} {kvs : List (K × Value)} {s₁ : Shared} (hh : A.handled = none) (N : News h₀ L s₁.heap news) (hp : (d, o) ∈ news) (hd : o.IsDictOf knd kvs) (lo : (d == sysModules) = false) (hz : kvs.length ≤ sizeLine) :
    ∀ Q' : Value → Shared → Prop, (∀ it h₂, s₁.heap.StaysIn h₂ → (∃ (I : Addr) (fp : List Addr) (n : Nat) (Pi : Nat → Value → Prop) (St : Nat → Heap → Prop), it = .ref I ∧ s₁.heap.get? I = none ∧ Walks prog w A I fp [I] n Pi St ∧ n ≤ sizeLine ∧ St 0 h₂ ∧ (∀ b ∈ fp, b < h₂.objs.size) ∧ ∀ i v, Pi i v → ∃ k y, (k, y) ∈ kvs ∧ knd.is k v = true) → Q' it { s₁ with heap := h₂ }) →
      wpAny (model prog w) A (pyIter (.ref d)) Q' E s₁ := fun Q' h => by
  obtain ⟨ep, ha⟩ := KdkAt.of hd
  have hm := ha.dictAt (N _ hp).1
  have hlt : d < s₁.heap.objs.size := Heap.lt_size (N _ hp).1
  refine wpAny_pyIter_dict lo hm (h _ _ (fun b o e => Heap.get?_push_of_some _ e) ⟨_, _, _, _, _, rfl, ?_, Walks.dictKeys hh _ d (Nat.ne_of_lt hlt) kvs ep, hz, ⟨⟨_, Heap.get?_push_size _ rfl, rfl, rfl⟩, hm.push _⟩, ?_, ?_⟩)
  · cases e : s₁.heap.get? s₁.heap.objs.size with
    | none => rfl
    | some o => exact absurd (Heap.lt_size e) (Nat.lt_irrefl _)
  · intro b hb
    rw [Heap.size_push]
    simp only [List.mem_cons, List.not_mem_nil, or_false] at hb
    rcases hb with rfl | rfl
    · exact Nat.lt_succ_self _
    · exact Nat.lt_succ_of_lt hlt
  · rintro i v ⟨k, y, hk, hv⟩
    exact ⟨k, y, List.mem_of_getElem? hk, hv⟩
theorem iter_listK {ax : Addr} {its : Array Value} {s₁ : Shared} (hh : A.handled = none) (hl : s₁.heap.IsList ax its) (hz : its.size ≤ sizeLine) :
    ∀ Q' : Value → Shared → Prop, (∀ it h₂, s₁.heap.StaysIn h₂ → (∃ (I : Addr) (fp : List Addr) (n : Nat) (Pi : Nat → Value → Prop) (St : Nat → Heap → Prop), it = .ref I ∧ s₁.heap.get? I = none ∧ Walks prog w A I fp [I] n Pi St ∧ n ≤ sizeLine ∧ St 0 h₂ ∧ (∀ b ∈ fp, b < h₂.objs.size) ∧ ∀ i v, Pi i v → v ∈ its.toList) → Q' it { s₁ with heap := h₂ }) →
      wpAny (model prog w) A (pyIter (.ref ax)) Q' E s₁ := fun Q' h => by
  have hlt : ax < s₁.heap.objs.size := by obtain ⟨_, e, _⟩ := hl; exact Heap.lt_size e
  refine wpAny_pyIter_list hl (h _ _ (fun b o e => Heap.get?_push_of_some _ e) ⟨_, _, _, _, _, rfl, ?_, Walks.list hh _ ax (Nat.ne_of_lt hlt) its, hz, ⟨⟨_, Heap.get?_push_size _ rfl, rfl, rfl⟩, hl.push _⟩, ?_, ?_⟩)
  · cases e : s₁.heap.get? s₁.heap.objs.size with
    | none => rfl
    | some o => exact absurd (Heap.lt_size e) (Nat.lt_irrefl _)
  · intro b hb
    rw [Heap.size_push]
    simp only [List.mem_cons, List.not_mem_nil, or_false] at hb
    rcases hb with rfl | rfl
    · exact Nat.lt_succ_self _
    · exact Nat.lt_succ_of_lt hlt
  · intro i v hk
    exact Array.mem_toList_iff.mpr (Array.mem_of_getElem? hk)

/-- d.update(o) whatever the values are -/
theorem update_any {K : Type} [DecidableEq K] {knd : KeyKind prog w K} {d o₂ : Addr} {o o' : Obj} {g : Obj → List (Addr × Obj)} {kvs more : List (K × Value)} {Q : Value → Shared → Prop} (F : Fr h₀ L s.heap m) (N : News h₀ L s.heap news) (U : UpdF d o news g) (hd : o.IsDictOf knd kvs)
    (hm2 : (o₂, o') ∈ news) (hd2 : o'.IsDictOf knd more) (lo : (o₂ == sysModules) = false) (hne : d ≠ o₂) (hsz : kvs.length + more.length ≤ sizeLine)
    (h : ∀ h' o', Fr h₀ L h' m → News h₀ L h' (g o') → o'.IsDictOf knd (merged kvs more) → Q .none { s with heap := h' }) :
    wpAny (model prog w) A (call (.builtin "dict.update") [.ref d, .ref o₂]) Q E s := by
  have hD2 : s.heap.DictOf knd o₂ more := Heap.dictOf_iff.mpr ⟨o', (N _ hm2).1, hd2⟩
  obtain ⟨pre, post, rfl, hg, a, b⟩ := U.split
  have hm := N (d, o) (List.mem_append_right _ (.head _))
  have hD : s.heap.DictOf knd d kvs := Heap.dictOf_iff.mpr ⟨o, hm.1, hd⟩
  refine call_meetsIn PySem.F.slot_dict_update hD.typeIs PySem.F.entry_dict_update (PySem.F.args_dict_update_2 _ _) (meets_dict_update knd d o₂ hne lo)
    ⟨kvs, more, hD, hD2, hsz, fun h' hmm _ hs => ?_⟩
  obtain ⟨o1, ho1, hd1⟩ := Heap.dictOf_iff.mp hmm
  exact h h' o1 (F.change hs hm.2.1 hm.2.2) (hg o1 ▸ N.setIn a b hs ho1) hd1
end
end Mine
end

section
namespace Mine
open PySem.Calls
section
variable {prog : Program} {w : World} {A : Around} {E : Value → Shared → Prop} {s : Shared} {Q : Value → Shared → Prop}
theorem reads4 {h : Heap} {r : Addr} {a b c d : Int} {t0 t1 t2 t3 : Tok} (hr : IsTup h r #[.int a t0, .int b t1, .int c t2, .int d t3]) : Reads h (.ref r) (.tuple [.int a, .int b, .int c, .int d]) [] := by
  obtain ⟨o, ho, hc, n, hd⟩ := hr
  exact reads_tuple_at ho hc hd (ReadsAll.cons (Reads.int _ _) (ReadsAll.cons (Reads.int _ _) (ReadsAll.cons (Reads.int _ _) (ReadsAll.cons (Reads.int _ _) ReadsAll.nil))))
theorem reads2 {h : Heap} {r : Addr} {a b : Int} {t0 t1 : Tok} (hr : IsTup h r #[.int a t0, .int b t1]) : Reads h (.ref r) (.tuple [.int a, .int b]) [] := by
  obtain ⟨o, ho, hc, n, hd⟩ := hr
  exact reads_tuple_at ho hc hd (ReadsAll.cons (Reads.int _ _) (ReadsAll.cons (Reads.int _ _) ReadsAll.nil))
theorem ne4_false {r D : Addr} {a b c d : Int} {t0 t1 t2 t3 u0 u1 u2 u3 : Tok} (hr : IsTup s.heap r #[.int a t0, .int b t1, .int c t2, .int d t3]) (hD : IsTup s.heap D #[.int a u0, .int b u1, .int c u2, .int d u3])
    (hu : A.units + 64 < cLine) (h : Q (.bool false) s) : wpAny (model prog w) A (compareOp .NotEq (.ref r) (.ref D)) Q E s := by
  refine ne_dataH (reads4 hr) (reads4 hD) ?_ ?_ hu ?_
  · simp [SeqAt.shaped, PyData.canLay0, PyData.canLayAll0, PyData.depth, PyData.depthAll]
  · simp [SeqAt.shaped, PyData.canLay0, PyData.canLayAll0, PyData.depth, PyData.depthAll]
  · simpa [PyData.eqv, PyData.eqvAll] using h
theorem ne2_false {r D : Addr} {a b : Int} {t0 t1 u0 u1 : Tok} (hr : IsTup s.heap r #[.int a t0, .int b t1]) (hD : IsTup s.heap D #[.int a u0, .int b u1])
    (hu : A.units + 64 < cLine) (h : Q (.bool false) s) : wpAny (model prog w) A (compareOp .NotEq (.ref r) (.ref D)) Q E s := by
  refine ne_dataH (reads2 hr) (reads2 hD) ?_ ?_ hu ?_
  · simp [SeqAt.shaped, PyData.canLay0, PyData.canLayAll0, PyData.depth, PyData.depthAll]
  · simp [SeqAt.shaped, PyData.canLay0, PyData.canLayAll0, PyData.depth, PyData.depthAll]
  · simpa [PyData.eqv, PyData.eqvAll] using h
end
theorem known_rows (P : Params) : ([rowI P 0 0, rowI P 0 1, rowI P 0 2, rowI P 0 3] = [23069, 1, 1, 1] ∧ [rowI P 13 0, rowI P 13 1, rowI P 13 2, rowI P 13 3] = [1, 12, 13, 0] ∧
    [rowI P 44 0, rowI P 44 1, rowI P 44 2, rowI P 44 3] = [4471, 73, 45, 0] ∧ [rowI P 64 0, rowI P 64 1, rowI P 64 2, rowI P 64 3] = [23314, 65, 65, 1]) ∧
    ([rowI P 79 0, rowI P 79 1, rowI P 79 2, rowI P 79 3] = [2624, 77, 48, 0] ∧ [rowI P 104 0, rowI P 104 1, rowI P 104 2, rowI P 104 3] = [16734, 103, 99, 0] ∧
    [rowI P 112 0, rowI P 112 1, rowI P 112 2, rowI P 112 3] = [23019, 112, 111, 1] ∧ [rowI P 113 0, rowI P 113 1, rowI P 113 2, rowI P 113 3] = [23069, 113, 113, 0]) := by
  refine ⟨⟨?_, ?_, ?_, ?_⟩, ?_, ?_, ?_, ?_⟩ <;> kernel_rfl
end Mine
end

section
namespace Mine
open PySem.Calls


local macro_rules | `(tactic| walk_at "eval Dict") => `(tactic| (k_dflt (refine' kdn_int ?q ?F ?N ?b ?a ?l ?e ?n ?_; (case q => rfl); (case F => k_asm); (case N => first | k_asm | exact News.nil); (case b => exact Top.nolimit (by k_asm)); (case a => rfl); (case l => rfl); (case e => exact List.cons_ne_nil _ _); (case n => exact Nat.le_of_ble_eq_true rfl)); intro d' h' o' F' N' l1 lo' hd'; (try k_lt l1)))

local macro_rules | `(tactic| walk_at "getMethod ref") => `(tactic| (refine Halt.out ?_))
local macro_rules | `(tactic| walk_at "getMethod refX") => `(tactic| ((with_reducible show wpAny _ _ (getMethod (Value.ref _) (Str.ofString "update") _) _ _ _); k_dflt (refine kdl_method (knd := PySem.intKind _ _) PySem.F.slot_dict_update PySem.F.type_dict_update (by k_asm) (by k_mem) (by k_asm) ?_)))
local macro_rules | `(tactic| walk_at "call builtin:dict.update") => `(tactic| (refine Halt.out ?_))
local macro_rules | `(tactic| walk_at "KdnMade") => `(tactic| (k_dflt (refine' kdn_made_int ?F ?N ?U ?d ?k ?n ?_; (case F => k_asm); (case N => k_asm); (case U => k_updF); (case d => k_asm); (case k => rfl); (case n => exact of_decide_eq_true (by rfl)); intro h' o' F' N' hd'); (try dsimp only at N')))
local macro_rules | `(tactic| walk_at "eval ListComp") => `(tactic| (refine Halt.out ?_))

theorem none_dict {prog : Program} {w : World} {A : Around} {E : Value → Shared → Prop} {s₁ : Shared} {h₀ : Heap} {L d : Addr} {m : Str → Option Value} {env : Env} {news : List (Addr × Obj)} {o : Obj} {kvs : List (Int × Value)} {scope : Scope} {cl : List (Str × Addr)} {x : Str} {ct : Expr} {Q : Value → Shared → Prop}
    (hh : A.handled = none) (F : Fr h₀ L s₁.heap m) (N : News h₀ L s₁.heap news) (hp : (d, o) ∈ news) (hd : o.IsDictOf (intKind prog w) kvs) (lo : (d == sysModules) = false) (hz : kvs.length ≤ sizeLine)
    (test : ∀ C k y t oC m₃ (s₃ : Shared) E', (k, y) ∈ kvs → LCg.NsObj oC m₃ → m₃ x = some (.int k t) → Fr h₀ L s₃.heap m → News h₀ L s₃.heap ((C, oC) :: news) → s₁.heap.StaysIn s₃.heap →
      wpAny (model prog w) A (isTrue ct (compEnvC scope cl C env) (eval ct (compEnvC scope cl C env))) (fun ok s₄ => ok = false ∧ Keeps s₃ s₄) E' s₃)
    (fin : ∀ D c h' tk, Fr h₀ L h' m → News h₀ L h' ((D, listOf #[] c) :: news) → (∀ p ∈ news, p.1 ≠ D) → Q (.ref D) { s₁ with heap := h', toks := tk }) :
    NoneSrc prog w A env scope cl x ct h₀ L m Q E (.ref d) s₁ :=
  ⟨fun v => ∃ k y, (k, y) ∈ kvs ∧ (intKind prog w).is k v = true, news, F, N, iter_dictK hh N hp hd lo hz, fun C v oC m₃ s₃ E' hv hns hm F3 N3 hst => by
    obtain ⟨k, y, hmem, hkv⟩ := hv
    obtain ⟨t, rfl⟩ := Value.isInt_shape hkv
    exact test C k y t oC m₃ s₃ E' hmem hns hm F3 N3 hst, fin⟩

abbrev valueOf {prog : Program} {w : World} {o : Obj} {kvs : List (Int × Value)} (_ : o.IsDictOf (intKind prog w) kvs) (k : Int) : Option Value := valueAt kvs k
local macro_rules | `(tactic| walk_at "subscriptTail") => `(tactic| (refine kda_item (knd := PySem.intKind _ _) (by k_asm) (by k_mem) (by k_asm) (intKind_is _ _ _ _) (by assumption) ?_))
set_option maxHeartbeats 4000000 in
theorem known_spec {w : World} :
    SpecA w 2 100 240 [] [] (fun b v new => v = .bool true ∧ new = []) := by
  intro mean mg mb A g s R hh hg hd hu G hst hsz hap hR
  refine' enter_AC ?kG ?kst ?ksz ?kap ?ho ?hcd ?hroom ?hb ?hl ?hnd ?_ ?c1 ?c2 ?c3
  (case kG => assumption); (case kst => assumption); (case ksz => assumption); (case kap => assumption)
  (case ho => k_is); (case hcd => k_is); (case hroom => omega); (case hb => exact BindsTo.of_eq rfl); (case hl => exact rfl); (case hnd => decide +kernel)
  (case c1 => exact rfl); (case c2 => exact rfl); (case c3 => exact rfl)
  intro L h₁ tk₁ cells F' N' Y' l1 hL
  (have KX := Grd.X (by assumption)); (have T := Grd.T (by assumption)); (try dsimp only); (try k_lt l1); k_cells Y'; (try simp only [List.cons_append, List.nil_append] at N'); (show wpAny _ _ _ _ _ _); k_fold
  k_steps
  unfold Halt
  rename Obj.IsDictOf _ _ _ => hd1
  rename News _ _ _ _ => N1
  rename Fr _ _ _ _ => F1
  refine kdl_method (knd := PySem.intKind _ _) PySem.F.slot_dict_update PySem.F.type_dict_update N1 (.tail _ (.tail _ (.tail _ (.tail _ (.head _))))) hd1 ?_
  dsimp only
  refine callWith_method1 ?_
  k_fold
  k_steps
  unfold Halt
  rename Obj.IsDictOf _ _ _ => hd2
  rename News _ _ _ _ => N2
  rename Fr _ _ _ _ => F2
  refine' update_any F2 N2 ?U hd1 ?m2 hd2 ?lo ?ne ?sz ?_
  (case U => k_updF)
  (case m2 => k_mem)
  (case lo => assumption)
  (case ne => k_ne)
  (case sz => exact Nat.le_of_ble_eq_true rfl)
  intro h8 o8 F8 N8 hd8
  (try dsimp only at N8)
  clear hd2 hd1
  (try k_sweep)
  (try dsimp only)
  k_steps
  unfold Halt
  have hd9 : Obj.IsDictOf (intKind Challenge.rw_nt0545_01.row.prog w) o8 [(0, _), (13, _), (44, _), (64, _), (79, _), (104, _), (112, _), (113, _)] := hd8
  clear hd8
  refine comp_none F8 (by with_unfolding_all rfl) (by decide) (by rfl) (by decide) (by rfl) ?_
  k_steps
  (try k_unfold)
  refine' none_dict ?hh F8 N8 ?m hd9 ?lo ?sz ?test ?fin
  (case hh => exact hh)
  (case m => k_mem)
  (case lo => assumption)
  (case sz => exact Nat.le_of_ble_eq_true rfl)
  case test =>
    intro C kk yy tt oC m₃ s₃ E' hmem hns hm F3 N3 hst3
    have key : Mine.valueOf hd9 kk = some yy ∧ 0 ≤ kk ∧ kk < 114 ∧ ∃ (D : Nat) (ta tb tc td : Tok), yy = .ref D ∧
        IsTup s₃.heap D #[.int (rowI w.params kk.toNat 0) ta, .int (rowI w.params kk.toNat 1) tb, .int (rowI w.params kk.toNat 2) tc, .int (rowI w.params kk.toNat 3) td] := by
      obtain ⟨⟨k0, k1, k2, k3⟩, k4, k5, k6, k7⟩ := known_rows w.params
      simp only [List.cons.injEq, and_true] at k0 k1 k2 k3 k4 k5 k6 k7
      obtain ⟨r00, r01, r02, r03⟩ := k0
      obtain ⟨r10, r11, r12, r13⟩ := k1
      obtain ⟨r20, r21, r22, r23⟩ := k2
      obtain ⟨r30, r31, r32, r33⟩ := k3
      obtain ⟨r40, r41, r42, r43⟩ := k4
      obtain ⟨r50, r51, r52, r53⟩ := k5
      obtain ⟨r60, r61, r62, r63⟩ := k6
      obtain ⟨r70, r71, r72, r73⟩ := k7
      simp only [List.mem_cons, List.not_mem_nil, or_false, Prod.mk.injEq] at hmem
      rcases hmem with ⟨rfl, rfl⟩ | ⟨rfl, rfl⟩ | ⟨rfl, rfl⟩ | ⟨rfl, rfl⟩ | ⟨rfl, rfl⟩ | ⟨rfl, rfl⟩ | ⟨rfl, rfl⟩ | ⟨rfl, rfl⟩
      · exact ⟨by rfl, by decide, by decide, _, _, _, _, _, rfl, by show IsTup _ _ #[.int (rowI w.params 0 0) _, .int (rowI w.params 0 1) _, .int (rowI w.params 0 2) _, .int (rowI w.params 0 3) _]; rw [r00, r01, r02, r03]; exact News.isTup N3 (by k_mem)⟩
      · exact ⟨by rfl, by decide, by decide, _, _, _, _, _, rfl, by show IsTup _ _ #[.int (rowI w.params 13 0) _, .int (rowI w.params 13 1) _, .int (rowI w.params 13 2) _, .int (rowI w.params 13 3) _]; rw [r10, r11, r12, r13]; exact News.isTup N3 (by k_mem)⟩
      · exact ⟨by rfl, by decide, by decide, _, _, _, _, _, rfl, by show IsTup _ _ #[.int (rowI w.params 44 0) _, .int (rowI w.params 44 1) _, .int (rowI w.params 44 2) _, .int (rowI w.params 44 3) _]; rw [r20, r21, r22, r23]; exact News.isTup N3 (by k_mem)⟩
      · exact ⟨by rfl, by decide, by decide, _, _, _, _, _, rfl, by show IsTup _ _ #[.int (rowI w.params 64 0) _, .int (rowI w.params 64 1) _, .int (rowI w.params 64 2) _, .int (rowI w.params 64 3) _]; rw [r30, r31, r32, r33]; exact News.isTup N3 (by k_mem)⟩
      · exact ⟨by rfl, by decide, by decide, _, _, _, _, _, rfl, by show IsTup _ _ #[.int (rowI w.params 79 0) _, .int (rowI w.params 79 1) _, .int (rowI w.params 79 2) _, .int (rowI w.params 79 3) _]; rw [r40, r41, r42, r43]; exact News.isTup N3 (by k_mem)⟩
      · exact ⟨by rfl, by decide, by decide, _, _, _, _, _, rfl, by show IsTup _ _ #[.int (rowI w.params 104 0) _, .int (rowI w.params 104 1) _, .int (rowI w.params 104 2) _, .int (rowI w.params 104 3) _]; rw [r50, r51, r52, r53]; exact News.isTup N3 (by k_mem)⟩
      · exact ⟨by rfl, by decide, by decide, _, _, _, _, _, rfl, by show IsTup _ _ #[.int (rowI w.params 112 0) _, .int (rowI w.params 112 1) _, .int (rowI w.params 112 2) _, .int (rowI w.params 112 3) _]; rw [r60, r61, r62, r63]; exact News.isTup N3 (by k_mem)⟩
      · exact ⟨by rfl, by decide, by decide, _, _, _, _, _, rfl, by show IsTup _ _ #[.int (rowI w.params 113 0) _, .int (rowI w.params 113 1) _, .int (rowI w.params 113 2) _, .int (rowI w.params 113 3) _]; rw [r70, r71, r72, r73]; exact News.isTup N3 (by k_mem)⟩
    obtain ⟨hv, hk0, hk1, D, ta, tb, tc, td, rfl, hD⟩ := key
    clear F8 N8 hmem
    (show wpAny _ _ _ _ _ _); k_fold
    k_steps
    (try dsimp only)
    rename IsTup _ _ _ => hrow
    refine ne4_false (IsTup.keeps hrow F3.keep) hD (by show A.units + 3 + 64 < _; omega) ?_
    k_steps
    (try k_unfold)
    first | exact ⟨rfl, _, _, rfl, fun _ _ e => e⟩ | exact ⟨_, _, rfl, fun _ _ e => e⟩
  case fin =>
    intro D c h10 tk10 F10 N10 ne10
    clear F8 N8
    (try dsimp only)
    k_fold
    k_steps
    exact spec_end hR (by assumption) (by assumption) ⟨rfl, rfl⟩ (fun _ h => nomatch h)
end Mine
end

section
namespace Mine
open PySem.Calls

section
variable {prog : Program} {w : World} {M : Model} {A : Around} {E : Value → Shared → Prop} {s : Shared} {h₀ : Heap} {L : Addr} {m : Str → Option Value} {news : List (Addr × Obj)}
theorem grownN {n : Nat} {Q : Value → Shared → Prop} (hn : n < 2 ^ 10000) (h : Q (.int (n : Int) s.toks) { s with toks := s.toks + 1 }) : wpAny M A (mkIntGrown (n : Int)) Q E s := by
  unfold mkIntGrown
  rw [if_neg ?_]
  · exact wpAny_mkInt h
  · rw [Int.natAbs_natCast]
    have hb : bitsLine = 134217728 := by first | rfl | decide
    rw [hb]
    rcases Nat.eq_zero_or_pos n with hz | hz
    · subst hz; decide
    · have h1 := (Nat.log2_lt (by omega)).mpr hn
      omega
theorem V_big {bs : Array UInt8} (hl : bs.size ≤ 1000) : V bs.toList < 2 ^ 10000 := by
  have h1 := V_lt bs.toList
  rw [Array.length_toList] at h1
  have e : (256 : Nat) ^ bs.size = 2 ^ (8 * bs.size) := by rw [Nat.pow_mul]
  rw [e] at h1
  exact Nat.lt_of_lt_of_le h1 (Nat.pow_le_pow_right (by decide) (by omega))
theorem tree_bigN {b : Array UInt8} {t u : Tok} {P : Fin → Shared → Prop} (hl : b.size ≤ 1000) (h : P (.done (.ret (.int (V b.toList : Nat) s.toks))) { s with toks := s.toks + 1 }) :
    wpAny M A (Builtin.«int.from_bytes» ⟨[.type "int", .bytes b t, .str (PySem.Str.ofString "big") u], []⟩) P E s := by
  unfold Builtin.«int.from_bytes»
  refine wpAny_bind (wpAny_of_eq (a := true) KFB.type_int ?_)
  refine KFB.if_not rfl (wpAny_bind (wpAny_of_eq (a := true) F.conv_sub_int (KFB.if_not rfl ?_)))
  refine wpAny_bind (wpAny_of_eq (a := [some (.bytes b t), some (.str (PySem.Str.ofString "big") u), none]) (by kernel_rfl) ?_)
  refine wpAny_bind (wpAny_of_eq (a := PySem.Str.ofString "big") (by kernel_rfl) (wpAny_bind (wpAny_of_eq (a := false) rfl ?_)))
  refine wpAny_bind (wpAny_of_eq (a := false) (by kernel_rfl) (wpAny_bind (wpAny_of_eq (a := b) rfl ?_)))
  show wpAny _ _ (mkIntGrown (b.toList.foldl (fun (acc : Int) (b : UInt8) => acc * 256 + (b.toNat : Int)) ((0 : Nat) : Int)) >>= fun v => _) _ _ _
  rw [KFB.foldI_eq]
  exact wpAny_bind (grownN (V_big hl) (KFB.if_so (by decide +kernel) (wpAny_bind (wpAny_pure (wpAny_pure h)))))
theorem call_bigN {x : Addr} {b : Array UInt8} {t u : Tok} {Q : Value → Shared → Prop} (N : News h₀ L s.heap news) (hm : (x, KFB.bound) ∈ news) (hl : b.size ≤ 1000)
    (h : ∀ t' k, Q (.int (V b.toList : Nat) t') { s with toks := k }) : wpAny (model prog w) A (call (.ref x) [.bytes b t, .str (PySem.Str.ofString "big") u]) Q E s :=
  KFB.call_of (KFB.at_of N hm) (fun z => tree_bigN hl z) (h _ _)
end

theorem natBits {n k : Nat} (h : n < 2 ^ k) : Builtin.Int.intBits (n : Int) ≤ k := intBits_le_iff.mpr (by rw [Int.natAbs_natCast]; exact h)
theorem intBits_lt {x : Int} {k : Nat} (h0 : 0 ≤ x) (h : x < 2 ^ k) : Builtin.Int.intBits x ≤ k := by
  obtain ⟨n, rfl⟩ := Int.eq_ofNat_of_zero_le h0
  exact natBits (by exact_mod_cast h)
theorem powBits {k : Nat} (n : Nat) (h : k < n) : Builtin.Int.intBits ((2 : Int) ^ k) ≤ n := by
  refine intBits_lt (Int.le_of_lt (Int.pow_pos (by decide))) ?_
  exact_mod_cast Nat.pow_lt_pow_right (by decide) h

theorem base_bits {base size : Int} {power : Nat} (hp : power ≤ 1000) (h0 : 0 ≤ base) (h1 : 0 ≤ size) (hb : base + size ≤ 2 ^ (16 + power)) : Builtin.Int.intBits base ≤ 20000 ∧ Builtin.Int.intBits (base + size) ≤ 20000 := by
  have e : (2 : Int) ^ (17 + power) = 2 * 2 ^ (16 + power) := pow_up (by omega)
  have hP : (0 : Int) < 2 ^ (16 + power) := Int.pow_pos (by decide)
  generalize (2 : Int) ^ (16 + power) = P at *
  exact ⟨Nat.le_trans (intBits_lt (k := 17 + power) h0 (by omega)) (by omega), Nat.le_trans (intBits_lt (k := 17 + power) (by omega) (by omega)) (by omega)⟩

/-- what the octets' number must be beside an interval -/
def Inside (bs : Array UInt8) (base size : Int) (power : Nat) : Prop :=
  if 8 * bs.size < 16 + power then base ≤ (V bs.toList : Int) * 2 ^ (16 + power - 8 * bs.size) ∧ (V bs.toList : Int) * 2 ^ (16 + power - 8 * bs.size) < base + size
  else base * 2 ^ (8 * bs.size - (16 + power)) ≤ V bs.toList ∧ (V bs.toList : Int) < (base + size) * 2 ^ (8 * bs.size - (16 + power))

theorem in_lo {bs : Array UInt8} {base size : Int} {power : Nat} (h : Inside bs base size power) (hq : (8 : Int) * (bs.size : Int) < 16 + (power : Int)) :
    base * 2 ^ ((16 + (power : Int)) - (16 + (power : Int))).toNat ≤ (V bs.toList : Int) * 2 ^ ((16 + (power : Int)) - 8 * (bs.size : Int)).toNat ∧
    (V bs.toList : Int) * 2 ^ ((16 + (power : Int)) - 8 * (bs.size : Int)).toNat < (base + size) * 2 ^ ((16 + (power : Int)) - (16 + (power : Int))).toNat := by
  unfold Inside at h
  rw [if_pos (by omega)] at h
  have e1 : ((16 + (power : Int)) - (16 + (power : Int))).toNat = 0 := by omega
  have e2 : ((16 + (power : Int)) - 8 * (bs.size : Int)).toNat = 16 + power - 8 * bs.size := by omega
  rw [e1, e2]
  simpa using h
theorem in_hi {bs : Array UInt8} {base size : Int} {power : Nat} (h : Inside bs base size power) (hq : ¬ (8 : Int) * (bs.size : Int) < 16 + (power : Int)) :
    base * 2 ^ (8 * (bs.size : Int) - (16 + (power : Int))).toNat ≤ (V bs.toList : Int) ∧ (V bs.toList : Int) < (base + size) * 2 ^ (8 * (bs.size : Int) - (16 + (power : Int))).toNat := by
  unfold Inside at h
  rw [if_neg (by omega)] at h
  have e2 : (8 * (bs.size : Int) - (16 + (power : Int))).toNat = 8 * bs.size - (16 + power) := by omega
  rw [e2]
  exact h
theorem bits_le {x : Int} {k : Nat} (h : Builtin.Int.intBits x ≤ k) (hk : k ≤ 20000) : Builtin.Int.intBits x ≤ 20000 := Nat.le_trans h hk
local macro_rules | `(tactic| walk_at "binaryOp Mult int int") => `(tactic| first
  | (with_unfolding_all refine PyProof.Rows.mul_int (hm := IntMulOk.of_left (PySem.intBits_le_64 (by omega) (by omega))) ?_)
  | (with_unfolding_all refine PyProof.Rows.mul_int (hm := IntMulOk.of_le (m := 20000) (n := 20000) (by assumption) (powBits 20000 (by omega)) (by decide)) ?_))
local macro_rules | `(tactic| walk_at "binaryOp Pow int int") => `(tactic| (refine pow_int_small (by omega) (by omega) (by decide) ?_))
local macro_rules | `(tactic| walk_at "call ref") => `(tactic| (k_here; (with_reducible show wpAny _ _ (call (Value.ref _) [Value.bytes _ _, Value.str _ _]) _ _ _); k_dflt (refine call_bigN (by k_asm) (by k_mem) (by assumption) ?_); intro _ _))

set_option maxHeartbeats 8000000 in
theorem within_spec {w : World} {bs : Array UInt8} {base size : Int} {power : Nat} {t0 t1 t2 t3 : Tok} (hz : bs.size ≤ 1000) (hp : power ≤ 1000) (h0 : 0 ≤ base) (h1 : 0 ≤ size) (hb : base + size ≤ 2 ^ (16 + power)) (hin : Inside bs base size power) :
    SpecA w 1 20 268 [.bytes bs t0, .int base t1, .int size t2, .int (power : Int) t3] [] (fun _ v new => v = .bool true ∧ new = []) := by
  intro mean mg mb A g s R hh hg hd hu G hst hsz hap hR
  refine' enter_A ?kG ?kst ?ksz ?kap ?ho ?hcd ?hroom ?hb ?hl ?_ ?c1 ?c2 ?c3 ?c4
  (case kG => assumption); (case kst => assumption); (case ksz => assumption); (case kap => assumption)
  (case ho => k_is); (case hcd => k_is); (case hroom => omega); (case hb => exact BindsTo.of_eq rfl); (case hl => exact locs rfl)
  (case c1 => exact rfl); (case c2 => exact rfl); (case c3 => exact rfl); (case c4 => decide)
  intro L h₁ F' N' l1 hL
  (have KX := Grd.X (by assumption)); (have T := Grd.T (by assumption)); (try dsimp only); (try k_lt l1); (show wpAny _ _ _ _ _ _); k_fold
  have hVb : Builtin.Int.intBits (V bs.toList : Int) ≤ 20000 := bits_le (natBits (V_big hz)) (by decide)
  obtain ⟨hBb, hBs⟩ := base_bits hp h0 h1 hb
  k_steps
  all_goals (try k_unfold)
  all_goals (try dsimp only)
  · rename ((8 : Int) * _ < _) => hq
    exact spec_end hR (by assumption) (by assumption) ⟨congrArg Value.bool (decide_eq_true (in_lo hin hq).2), rfl⟩ (fun _ h => nomatch h)
  · rename ((8 : Int) * _ < _) => hq
    exact spec_end hR (by assumption) (by assumption) ⟨congrArg Value.bool (decide_eq_true (in_lo hin hq).1), rfl⟩ (fun _ h => nomatch h)
  · have hq : ¬ (8 : Int) * (bs.size : Int) < 16 + (power : Int) := by omega
    exact spec_end hR (by assumption) (by assumption) ⟨congrArg Value.bool (decide_eq_true (in_hi hin hq).2), rfl⟩ (fun _ h => nomatch h)
  · have hq : ¬ (8 : Int) * (bs.size : Int) < 16 + (power : Int) := by omega
    exact spec_end hR (by assumption) (by assumption) ⟨congrArg Value.bool (decide_eq_true (in_hi hin hq).1), rfl⟩ (fun _ h => nomatch h)
end Mine
end

section
namespace Mine
open PySem.Calls
local macro_rules | `(tactic| walk_at "InvEnd") => `(tactic| (refine Halt.out ?_))

theorem ok_fold (x b : Int) (h0 : 0 ≤ x) (h1 : x < 2147483647) : IntMulOk x b := IntMulOk.of_left (PySem.intBits_le_64 (by omega) (by omega))
theorem ok_dig {i : Nat} {d sz : Int} (hi : i < 63) (hd : Builtin.Int.intBits d ≤ i * 1048580) (hs : Builtin.Int.intBits sz ≤ 1048577) : IntMulOk d sz := IntMulOk.of_le hd hs (by omega)
theorem dig_next {i : Nat} {d sz : Int} (hd : Builtin.Int.intBits d ≤ i * 1048580) (hs : Builtin.Int.intBits sz ≤ 1048577) : Builtin.Int.intBits (d * sz + sz) ≤ (i + 1) * 1048580 :=
  Nat.le_trans (intBits_add_le (intBits_mul_le hd hs) hs) (by rw [Nat.max_eq_left (by omega)]; omega)
theorem dig_pos {d sz : Int} (h0 : 0 ≤ d) (h1 : 0 ≤ sz) : 0 ≤ d * sz + sz := Int.add_nonneg (Int.mul_nonneg h0 h1) h1
theorem neg_bits {n : Int} (h : Builtin.Int.intBits n ≤ 1048576) : Builtin.Int.intBits (-1 - n) ≤ 1048577 := Nat.le_trans (intBits_sub_le (m := 1) (by decide) h) (by decide)

local macro_rules | `(tactic| walk_at "pyIter ref") => `(tactic| (refine Halt.out ?_))
local macro_rules | `(tactic| walk_at "eval Name") => `(tactic| (refine ld (by k_asm) (by assumption) ?_; k_whole))
local macro_rules | `(tactic| walk_at "binaryOp Mult int int") => `(tactic| first
  | (with_unfolding_all refine PyProof.Rows.mul_int (hm := ok_fold _ _ (by assumption) (by assumption)) ?_)
  | (with_unfolding_all refine PyProof.Rows.mul_int (hm := ok_dig (by assumption) (by assumption) (by assumption)) ?_))

set_option maxHeartbeats 8000000 in
theorem pool_spec {w : World} {mean : ExcName → Option Value} {mg mb : Str → Option Value} {A : Around} {g : Heap} {s : Shared} {R : Result → Shared → Prop} {sc : Addr} {vs : List Value} {ns : List Int}
    (hh : A.handled = none) (hg : A.guards = some []) (hd : A.depth + 1 < recursionLimit) (hu : A.units + 20 < cLine) (G : Grd w mean mg mb g) (hst : g.StaysIn s.heap) (hsz : g.objs.size ≤ s.heap.objs.size)
    (hl : g.IsList sc vs.toArray) (hi : IntsAre vs ns) (hlay : PyData.layable0 (.list (ns.map .int)) = true) (hlen : ns.length ≤ 63)
    (hR : ∀ (r : Nat) (d m : Int) (td tm : Tok) (n : Nat) h' tk', s.heap.objs.size < r → 0 ≤ d → 0 ≤ m → m < 2147483647 → g.StaysIn h' → Apart g h' [(r, listOf #[.int d td, .int m tm] n)] → R (.ok (.ret (.ref r))) { s with heap := h', toks := tk' }) :
    codeAny (model PySem.Challenge.rw_nt0545_01.row.prog w) A (.call (.ref 228) ⟨[.ref sc], []⟩) R s := by
  have hap : Apart g s.heap [] := fun _ h => nomatch h
  refine' enter_A ?kG ?kst ?ksz ?kap ?ho ?hcd ?hroom ?hb ?hl ?_ ?c1 ?c2 ?c3 ?c4
  (case kG => assumption); (case kst => assumption); (case ksz => assumption); (case kap => assumption)
  (case ho => k_is); (case hcd => k_is); (case hroom => omega); (case hb => exact BindsTo.of_eq rfl); (case hl => exact locs rfl)
  (case c1 => exact rfl); (case c2 => exact rfl); (case c3 => exact rfl); (case c4 => decide)
  intro L h₁ F' N' l1 hL
  (have KX := Grd.X (by assumption)); (have T := Grd.T (by assumption)); (try dsimp only); (try k_lt l1); (show wpAny _ _ _ _ _ _); k_fold
  k_steps
  unfold Halt
  rename IntsAre _ _ => hi
  rename Fr _ _ _ _ => F0
  rename News _ _ _ _ => N0
  refine fr_gen F0 fun m₁ hm₁ F1 => ?_
  refine iter_inv (fun i m => ∃ (d mx : Int) (td tm : Tok), m (Str.ofString "digits") = some (.int d td) ∧ m (Str.ofString "mixed") = some (.int mx tm) ∧ 0 ≤ d ∧ Builtin.Int.intBits d ≤ i * 1048580 ∧ 0 ≤ mx ∧ mx < 2147483647) hh hl hi F1 N0
    ⟨0, 47, _, _, by rw [hm₁]; rfl, by rw [hm₁]; rfl, by decide, by decide, by decide, by decide⟩ ?turn ?done
  case turn =>
    clear F0 F1 N0
    rintro i n t m₂ h5 tk5 own hn ⟨d, mx, td, tm, md, mm, d0, db, m0, m1⟩ F5 N5
    clear hm₁
    have hi63 : i < 63 := by have := (List.getElem?_eq_some_iff.mp hn).1; omega
    have hnb := intBits_le_of_item (List.mem_of_getElem? hn) hlay
    have hnb1 : Builtin.Int.intBits n ≤ 1048577 := Nat.le_succ_of_le hnb
    have hnb2 := neg_bits hnb
    (try (show wpAny _ _ _ _ _ _)); (try k_fold)
    k_steps
    all_goals unfold Halt
    all_goals (refine InvEnd.intro (by assumption) (by assumption) (fun _ h => h) ⟨_, _, _, _, by first | rfl | exact md, by first | rfl | exact mm, ?_, ?_, (fmod_bnd _ (by decide)).1, (fmod_bnd _ (by decide)).2⟩)
    all_goals first
      | exact d0
      | exact dig_pos d0 (by omega)
      | exact dig_next db hnb1
      | exact dig_next db hnb2
      | exact Nat.le_trans db (by omega)
  case done =>
    rintro m₂ h5 tk5 ⟨d, mx, td, tm, md, mm, d0, db, m0, m1⟩ F5 N5
    clear hm₁ F0 F1 N0
    (try dsimp only)
    (try (show wpAny _ _ _ _ _ _)); (try k_fold)
    k_steps
    rename (@LT.lt Nat _ L _) => lD
    rw [hL] at lD
    rename News _ _ _ _ => N6
    refine hR _ d mx td tm 0 _ _ (Nat.lt_trans lD (by assumption)) d0 m0 m1 (Fr.keep (by assumption)) (fun p hp => ?_)
    obtain rfl := List.mem_singleton.mp hp
    have q := N6 _ (List.Mem.head _)
    exact ⟨q.1, q.2.2⟩
end Mine
end

section
namespace Mine
open PySem.Calls

section
variable {M : Model} {A : Around} {s : Shared}
theorem codeIn_loop' {c : Code} {R : Result → Shared → Prop} (hh : holder c = false) (hq : c.quiet = true) (I : Nat → Shared → Prop)
    (turn : ∀ n s, I n s → wpIn M (A.under c) (M.den c)
      (fun fin s' => match fin with | .done f => R (.ok f) s' | .again c' => (c' = c ∧ ∃ m, m < n ∧ I m s') ∨ (c'.quiet = true ∧ Mine.codeIn M A c' R s')) (fun e s' => R (.error e) s') s)
    (n : Nat) (h : I n s) : Mine.codeIn M A c R s := by
  induction n using Nat.strongRecOn generalizing s with
  | ind n ih =>
    refine codeIn_of_tree hh (wpIn_mono (turn n s h) (fun fin s' hf => ?_) fun _ _ h' => h')
    cases fin with
    | done f => exact hf
    | again c' =>
      rcases hf with ⟨rfl, m, hm, hI⟩ | hf
      · exact ⟨hq, ih m hm hI⟩
      · exact hf
end

section
variable {prog : Program} {w : World} {A : Around} {s : Shared} {env : Env} {h₀ : Heap}

theorem codeIn_block0 {R : Result → Shared → Prop} (h : R (.ok .next) s) : Mine.codeIn (model prog w) A (.block [] env) R s := by
  refine codeIn_of_tree rfl ?_
  show wpIn _ _ (do return Fin.done (← (execs [] env).onRaise (fun x => do noteFrame x env; theTreesLotGoes x))) _ _ s
  exact wpIn_bind (wpIn_onRaise (execs_nil_In (wpIn_pure h)))

theorem codeIn_forLoop {R : Result → Shared → Prop} {target : Expr} {it : Value} {body : List Stmt} (I : Nat → Shared → Prop)
    (turn : ∀ n s, I n s → wpAny (model prog w) A (pyNext it) (fun r s₁ => match r with
      | none => R (.ok .next) s₁
      | some v => wpAny (model prog w) A (assign target env v) (fun _ s₂ => wpIn (model prog w) A (execs body env) (fun f s₃ => f = .next ∧ ∃ m, m < n ∧ I m s₃) NoE s₂) NoE s₁) NoE s)
    (n : Nat) (h : I n s) (ht : ∀ v, letOwnedTupleGo target it v = pure () := by intro _; rfl) : Mine.codeIn (model prog w) A (.forLoop target it body [] env) R s := by
  refine codeIn_loop' rfl rfl I (fun n s hI => ?_) n h
  show wpIn _ _ ((forTurn target it body [] env).onRaise (fun x => do noteFrame x env; theTreesLotGoes x)) _ _ s
  refine wpIn_onRaise ?_
  simp only [forTurn]
  refine wpIn_bind (wpIn_standAt (wpIn_bindA (wpAny_onRaise (wpAny_mono (turn n s hI) (fun r s₁ h₁ => ?_) fun _ _ h' => h'.elim))))
  cases r with
  | none => exact wpIn_pure (.inr ⟨rfl, codeIn_block0 h₁⟩)
  | some v =>
    refine wpIn_bindA (wpAny_of_eq (ht v) ?_)
    refine wpIn_bindA (wpAny_mono h₁ (fun _ s₂ h₂ => wpIn_bind (wpIn_mono h₂ (fun f s₃ h₃ => ?_) fun _ _ h' => h')) fun _ _ h' => h')
    obtain ⟨rfl, h₃⟩ := h₃
    exact wpIn_pure (.inl ⟨rfl, h₃⟩)

theorem codeIn_forLoop_frU {R : Result → Shared → Prop} {x : Str} {px : Pos} {body : List Stmt} {I : Addr} {fp wr : List Addr} {n : Nat} {P : Nat → Value → Prop} {St : Nat → Heap → Prop} {m : Str → Option Value}
    {news : List (Addr × Obj)} (W : Walks prog w A I fp wr n P St) (hx : env.kindOf x = some .local)
    (hp : (env.scope.kind == .class || (env.scope.kind == .module && env.locals != env.globals)) = false)
    (hLf : env.locals ∉ fp) (hwr : ∀ b ∈ wr, h₀.get? b = none) (hnw : ∀ p ∈ news, p.1 ∉ wr)
    (hst : St 0 s.heap) (F : Fr h₀ env.locals s.heap m) (N : News h₀ env.locals s.heap news)
    (J : Nat → (Str → Option Value) → List (Addr × Obj) → Prop) (h0 : J 0 m news)
    (step : ∀ i v m₁ news₁ s₁ own, i < n → P i v → J i m₁ news₁ → (∀ p ∈ news₁, p.1 ∉ wr) → (∀ p ∈ own, p.1 ∈ fp) → (∀ p ∈ own, s₁.heap.get? p.1 = some p.2) → (∀ b ∈ fp, h₀.get? b = none → ∀ o, s₁.heap.get? b = some o → (b, o) ∈ own) → St (i + 1) s₁.heap →
      Fr h₀ env.locals s₁.heap (fun y => if y = x then some v else m₁ y) → News h₀ env.locals s₁.heap (own ++ news₁) → (∃ hh tt, s₁ = { s with heap := hh, toks := tt }) →
      wpIn (model prog w) A (execs body env) (LoopStepU h₀ env.locals wr own (J (i + 1)) s₁) NoE s₁)
    (hR : ∀ h' tk m' news', Fr h₀ env.locals h' m' → News h₀ env.locals h' news' → (∀ p ∈ news', p.1 ∉ wr) → J n m' news' → R (.ok .next) { s with heap := h', toks := tk }) :
    Mine.codeIn (model prog w) A (.forLoop (.Name x px) (.ref I) body [] env) R s := by
  have hLw : env.locals ∉ wr := fun h => hLf (W.sub _ h)
  have old : ∀ b o, h₀.get? b = some o → b ∉ wr := fun b o e hb => by rw [hwr b hb] at e; cases e
  refine codeIn_forLoop
    (fun k s' => ∃ h' tk m' news' i, s' = { s with heap := h', toks := tk } ∧ St i h' ∧ Fr h₀ env.locals h' m' ∧ News h₀ env.locals h' news' ∧ (∀ p ∈ news', p.1 ∉ wr) ∧ J i m' news' ∧ i ≤ n ∧ k = n + 1 - i) ?_ (n + 1)
    ⟨s.heap, s.toks, m, news, 0, rfl, hst, F, N, hnw, h0, Nat.zero_le _, rfl⟩
  rintro k s' ⟨h', tk, m', news', i, rfl, hst', F', N', hnw', hJ, hi, rfl⟩
  have next : ∀ h₁ : Heap, (∀ b o, b ∉ wr → h'.get? b = some o → h₁.get? b = some o) → Fr h₀ env.locals h₁ m' ∧ News h₀ env.locals h₁ news' := fun h₁ hk₁ =>
    ⟨⟨F'.ns.at' fun o e => hk₁ _ o hLw e, fun b o e => hk₁ b o (old b o e) (F'.keep b o e), F'.above⟩, fun p hp => ⟨hk₁ _ _ (hnw' p hp) (N' p hp).1, (N' p hp).2⟩⟩
  by_cases hlt : i < n
  · refine W.item i _ _ _ hlt hst' fun v h₁ tk₁ hP hst₁ hk₁ => ?_
    obtain ⟨F₁, N₁⟩ := next h₁ hk₁
    refine wpAny_assign_Name (wpAny_storeName_local hx F₁.ns (fun h₂ hn₂ hs₂ => ?_) hp)
    have F₂ := F₁.set hn₂ hs₂
    have Nown : News h₀ env.locals h₂ (ownOf h₀ fp h₂) := news_ownOf hLf
    have hst₂ : St (i + 1) h₂ := W.frame _ _ _ hst₁ fun b hb o e => (hs₂.2 b fun q => hLf (q ▸ hb)).trans e
    refine wpIn_mono (step i v m' news' _ (ownOf h₀ fp h₂) hlt hP hJ hnw' ownOf_sub (fun p hp => (Nown p hp).1) (fun b hb hn o e => mem_ownOf hb hn e) hst₂ F₂ (Nown.append (N₁.set hs₂)) ⟨_, _, rfl⟩) (fun f s₃ h₃ => ?_) fun _ _ e => e
    obtain ⟨rfl, h₃', tk₃, m₂, news₂, rfl, F₃, N₃, ha₃, hJ₃⟩ := h₃
    refine ⟨rfl, n + 1 - (i + 1), by omega, h₃', tk₃, m₂, news₂, i + 1, rfl, ?_, F₃, N₃.right, ha₃, hJ₃, hlt, rfl⟩
    refine W.frame _ _ _ hst₁ fun b hb o e => ?_
    have e₂ : h₂.get? b = some o := (hs₂.2 b fun q => hLf (q ▸ hb)).trans e
    cases hn : h₀.get? b with
    | some o₀ =>
      have : o₀ = o := by have := F₂.keep b o₀ hn; rw [e₂] at this; exact (Option.some.inj this).symm
      exact this ▸ F₃.keep b o₀ hn
    | none => exact (N₃ _ (List.mem_append_left _ (mem_ownOf hb hn e₂))).1
  · have hin : i = n := by omega
    subst hin
    refine W.done _ _ _ hst' fun h₁ tk₁ hk₁ => ?_
    obtain ⟨F₁, N₁⟩ := next h₁ hk₁
    exact hR h₁ tk₁ m' news' F₁ N₁ hnw' hJ

abbrev rangeIt (x left : Int) : Obj := { cls := .type "range_iterator", dict := none, data := .fields #[rawInt x, rawInt left, rawInt 1], slots := #[] }

/-- no loop's iterator -/
def OkIt (o : Obj) : Prop := o.cls ≠ .type "range_iterator" ∨ ∃ v, o.data = .cell v
def AllOk (l : List (Addr × Obj)) : Prop := ∀ p ∈ l, OkIt p.2
theorem allOk_nil : AllOk [] := fun _ h => nomatch h
theorem allOk_cons {p : Addr × Obj} {l : List (Addr × Obj)} (h : OkIt p.2) (t : AllOk l) : AllOk (p :: l) := fun q hq => by
  rcases List.mem_cons.mp hq with rfl | hq
  · exact h
  · exact t q hq
theorem okT {o : Obj} {n : String} (e : o.cls = .type n) (h : n ≠ "range_iterator") : OkIt o := .inl fun q => h (by rw [e] at q; injection q)
theorem okR {o : Obj} {C : Addr} (e : o.cls = .ref C) : OkIt o := .inl fun q => by rw [e] at q; cases q
theorem okC {o : Obj} {v : Option Value} (e : o.data = .cell v) : OkIt o := .inr ⟨v, e⟩
theorem OkIt.ne {o : Obj} (h : OkIt o) {a b : Int} : o ≠ rangeIt a b := fun e => by
  rcases h with h | ⟨v, h⟩
  · exact h (e ▸ rfl)
  · rw [e] at h; cases h

/-- a turn's end: what stands, the loop's own iterator among it -/
def TurnEnd (h₀ : Heap) (L : Addr) (J : (Str → Option Value) → List (Addr × Obj) → Prop) (I : Addr) (o : Obj) (s₁ : Shared) (f : Flow) (s₂ : Shared) : Prop :=
  f = .next ∧ ∃ h' tk m' news' nx, s₂ = { s₁ with heap := h', toks := tk } ∧ Fr h₀ L h' m' ∧ News h₀ L h' news' ∧ (∀ p ∈ nx, p ∈ news') ∧ (I, o) ∈ news' ∧ AllOk nx ∧ J m' nx

/-- where a loop stands: over a range -/
def LoopAtR (prog : Program) (w : World) (A : Around) (h₀ : Heap) (env : Env) (x : Str) (body : List Stmt) (Q : Flow → Shared → Prop) (xv : Value) (s₁ : Shared) : Prop :=
  ∃ (r : Addr) (n : Nat) (t₀ u₀ v₀ : Tok) (m : Str → Option Value) (news : List (Addr × Obj)) (J : Nat → (Str → Option Value) → List (Addr × Obj) → Prop),
    xv = .ref r ∧ A.handled = none ∧ IsRange s₁.heap r 0 (n : Int) 1 t₀ u₀ v₀ ∧ n < 1000 ∧ Fr h₀ env.locals s₁.heap m ∧ News h₀ env.locals s₁.heap news ∧ J 0 m news ∧
    (∀ i t m₁ nx h tk I left, i < n → J i m₁ nx → (∀ p ∈ nx, p.1 ≠ I) → Fr h₀ env.locals h (fun y => if y = x then some (.int (i : Int) t) else m₁ y) → News h₀ env.locals h (nx ++ [(I, rangeIt ((i : Int) + 1) left)]) →
      wpIn (model prog w) A (execs body env) (TurnEnd h₀ env.locals (J (i + 1)) I (rangeIt ((i : Int) + 1) left) { s₁ with heap := h, toks := tk }) NoE { s₁ with heap := h, toks := tk }) ∧
    (∀ m₁ nx h tk, J n m₁ nx → Fr h₀ env.locals h m₁ → News h₀ env.locals h nx → Q .next { s₁ with heap := h, toks := tk })

theorem LoopAtR.intro {x : Str} {body : List Stmt} {Q : Flow → Shared → Prop} {s₁ : Shared} {r : Addr} {n : Nat} {t₀ u₀ v₀ : Tok} {m : Str → Option Value} {news : List (Addr × Obj)} (J : Nat → (Str → Option Value) → List (Addr × Obj) → Prop)
    (hh : A.handled = none) (hr : IsRange s₁.heap r 0 (n : Int) 1 t₀ u₀ v₀) (hn : n < 1000) (F : Fr h₀ env.locals s₁.heap m) (N : News h₀ env.locals s₁.heap news) (hj : J 0 m news)
    (turn : ∀ i t m₁ nx h tk I left, i < n → J i m₁ nx → (∀ p ∈ nx, p.1 ≠ I) → Fr h₀ env.locals h (fun y => if y = x then some (.int (i : Int) t) else m₁ y) → News h₀ env.locals h (nx ++ [(I, rangeIt ((i : Int) + 1) left)]) →
      wpIn (model prog w) A (execs body env) (TurnEnd h₀ env.locals (J (i + 1)) I (rangeIt ((i : Int) + 1) left) { s₁ with heap := h, toks := tk }) NoE { s₁ with heap := h, toks := tk })
    (done : ∀ m₁ nx h tk, J n m₁ nx → Fr h₀ env.locals h m₁ → News h₀ env.locals h nx → Q .next { s₁ with heap := h, toks := tk }) : LoopAtR prog w A h₀ env x body Q (.ref r) s₁ :=
  ⟨r, n, t₀, u₀, v₀, m, news, J, rfl, hh, hr, hn, F, N, hj, turn, done⟩
theorem TurnEnd.intro {L : Addr} {J : (Str → Option Value) → List (Addr × Obj) → Prop} {I : Addr} {o : Obj} {s₁ : Shared} {h' : Heap} {tk : Nat} {m' : Str → Option Value} {news' : List (Addr × Obj)} (nx : List (Addr × Obj))
    (F : Fr h₀ L h' m') (N : News h₀ L h' news') (hn : ∀ p ∈ nx, p ∈ news') (ho : (I, o) ∈ news') (hc : AllOk nx) (hJ : J m' nx) : TurnEnd h₀ L J I o s₁ .next { s₁ with heap := h', toks := tk } :=
  ⟨rfl, h', tk, m', news', nx, rfl, F, N, hn, ho, hc, hJ⟩

theorem For_In {E : Value → Shared → Prop} {Q : Flow → Shared → Prop} {x : Str} {px pos : Pos} {iter : Expr} {body : List Stmt} (h₀ : Heap) (hx : env.kindOf x = some .local)
    (hp : (env.scope.kind == .class || (env.scope.kind == .module && env.locals != env.globals)) = false)
    (h : wpAny (model prog w) A (eval iter env) (fun xv s₁ => LoopAtR prog w A h₀ env x body Q xv s₁) E s)
    (hs : ∀ x, foldedSetIterable iter env x = pure x := by intro _; rfl) :
    wpIn (model prog w) A (exec (.For (.Name x px) iter body [] pos) env) Q E s := by
  rw [exec_For]
  refine wpIn_bind (wpIn_standAt (wpIn_bindA (wpAny_mono h (fun xv s₁ h₁ => ?_) fun _ _ e => e)))
  refine wpIn_bindA (wpAny_of_eq (hs xv) (wpIn_bind (wpIn_standAt ?_)))
  obtain ⟨r, n, t₀, u₀, v₀, m, news, J, rfl, hh, hr, hn, F, N, hj, turn, done⟩ := h₁
  have hsz : Builtin.Range.rangeSize 0 (n : Int) 1 = (n : Int) := rangeSize_nat 0 n |> fun e => by simpa using e
  refine wpIn_bindA (wpAny_holding (wpAny_pyIter_range hr (small_one (by omega) (by omega) (by omega) (by omega)) ?_))
  show wpIn _ A ((run _ _).onRaise _) _ _ _
  refine wpIn_onRaise (wpIn_run ?_)
  have W : Walks prog w A s₁.heap.objs.size [s₁.heap.objs.size] [s₁.heap.objs.size] n (fun i v => i < n ∧ ∃ t, v = .int (0 + i * 1) t)
      (fun i h => IsRangeIter h s₁.heap.objs.size (0 + (i : Nat) * 1) ((n : Int) - (i : Nat)) 1) := (Walks.range hh _ 0 1 n).bound
  refine codeIn_forLoop_frU (R := fun r s' => match r with | .ok f => Q f s' | .error e => NoE e s') W hx hp ?_ ?_ ?_ (by show IsRangeIter _ _ _ _ _; rw [hsz]; simpa using Heap.get?_push_size _ rfl) (F.push _) (fun p hp => ⟨Heap.get?_push_of_some _ (N p hp).1, (N p hp).2⟩) J hj ?_ ?_
  · intro hm
    exact absurd F.ns.lt ((List.mem_singleton.mp hm) ▸ Nat.lt_irrefl _)
  · intro b hb
    rw [List.mem_singleton.mp hb]
    exact next_is_new F
  · intro p hp hI
    exact absurd (Heap.lt_size (N p hp).1) ((List.mem_singleton.mp hI) ▸ Nat.lt_irrefl _)
  · rintro i v m₁ nx s₂ own hi ⟨_, t, rfl⟩ hJ hoff hown hget hall hst F₁ N₁ ⟨hh', tt, rfl⟩
    have e1 : (0 : Int) + (i : Int) * 1 = i := by omega
    rw [e1] at F₁
    have hst' : IsRangeIter hh' s₁.heap.objs.size ((i : Int) + 1) ((n : Int) - (i + 1 : Nat)) 1 := by
      have e2 : (0 : Int) + ((i + 1 : Nat) : Int) * 1 = (i : Int) + 1 := by omega
      rw [← e2]; exact hst
    have nI : h₀.get? s₁.heap.objs.size = none := next_is_new F
    have hmem := hall s₁.heap.objs.size (List.mem_singleton_self _) nI _ hst'
    have N₂ : News h₀ env.locals hh' (nx ++ [(s₁.heap.objs.size, rangeIt ((i : Int) + 1) ((n : Int) - (i + 1 : Nat)))]) := fun p hp => by
      rcases List.mem_append.mp hp with hp | hp
      · exact N₁ p (List.mem_append_right _ hp)
      · rw [List.mem_singleton.mp hp]
        exact N₁ _ (List.mem_append_left _ hmem)
    refine wpIn_mono (turn i t m₁ nx hh' tt s₁.heap.objs.size _ hi hJ (fun p hp e => hoff p hp (List.mem_singleton.mpr e)) F₁ N₂) (fun f s₃ h₃ => ?_) fun _ _ e => e
    obtain ⟨rfl, h', tk, m', news', nx', rfl, F', N', hn', ho', hc, hJ'⟩ := h₃
    refine ⟨rfl, h', tk, m', nx', rfl, F', fun p hp => ?_, fun p hp hI => ?_, hJ'⟩
    · rcases List.mem_append.mp hp with hp | hp
      · have h1 := hget p hp
        have h2 := hown p hp
        have h3 := List.mem_singleton.mp h2
        obtain ⟨a, o⟩ := p
        dsimp only at h1 h3
        subst h3
        have : o = rangeIt ((i : Int) + 1) ((n : Int) - (i + 1 : Nat)) := Option.some.inj (h1.symm.trans hst')
        subst this
        exact N' _ ho'
      · exact N' p (hn' p hp)
    · have h1 := List.mem_singleton.mp hI
      have h2 := (N' p (hn' p hp)).1
      have h3 := (N' _ ho').1
      dsimp only at h3
      rw [h1, h3] at h2
      have := Option.some.inj h2
      exact (hc p hp).ne this.symm
  · intro h' tk m' nx F' N' _ hJ
    exact done m' nx h' tk hJ F' N'
end
end Mine
end

section
namespace Mine
open PySem.Calls
section
variable {M : Model} {A : Around} {E : Value → Shared → Prop} {s : Shared} {env : Env}

theorem ldE {h₀ : Heap} {m : Str → Option Value} {x : Str} {pos : Pos} {v : Value} {Q : Value → Shared → Prop} (F : Fr h₀ env.locals s.heap m) (hv : m x = some v) (h : Q v s)
    (hk : env.scope.kind = .function) (hl : env.kindOf x = some .local) (hd : (x == ("__debug__" : Str)) = false) :
    wpAny M A (eval (.Name x pos) env) Q E s := wpAny_Name (wpAny_loadName_local hk hl F.ns hv h) hd

theorem spliced2_In {a b : Expr} {pos : Pos} {Q : List Value → Shared → Prop}
    (h : wpAny M A (eval a env) (fun v₁ s₁ => wpIn M A (eval b env) (fun v₂ s₂ => Q [v₁, v₂] s₂) E s₁) E s)
    (he : starEach [a, b] env = [(false, eval a env), (false, eval b env)] := by rfl) : wpIn M A (spliced (backTo pos (starEach [a, b] env))) Q E s := by
  rw [he]
  show wpIn M A (do
    let v ← eval a env
    let here ← (pure [v] : Sem (List Value))
    return here ++ (← holding here (do
      let v ← eval b env
      let here ← (pure [v] : Sem (List Value))
      return here ++ (← holding here (spliced []))))) Q E s
  refine wpIn_bindA (wpAny_mono h (fun v₁ s₁ h₁ => ?_) fun _ _ x => x)
  refine wpIn_bindA (wpAny_pure (wpIn_bind (wpIn_holding (wpIn_bind (wpIn_mono h₁ (fun v₂ s₂ h₂ => ?_) fun _ _ x => x)))))
  exact wpIn_bindA (wpAny_pure (wpIn_bindA (wpAny_holding (wpAny_pure (wpIn_pure (wpIn_pure h₂))))))

theorem tuple2_In {a b : Expr} {k : Nat} {pos : Pos} {Q : Value → Shared → Prop}
    (h : wpAny M A (eval a env) (fun v₁ s₁ => wpIn M A (eval b env) (fun v₂ s₂ => wpAny M A (newTuple [v₁, v₂]) Q E s₂) E s₁) E s)
    (he : starEach [a, b] env = [(false, eval a env), (false, eval b env)] := by rfl) : wpIn M A (eval (.Tuple [a, b] k pos) env) Q E s := by
  show wpIn M A (do standAt pos; newTuple (← spliced (backTo pos (starEach [a, b] env)))) Q E s
  refine wpIn_bind (wpIn_standAt (wpIn_bind (spliced2_In (wpAny_mono h (fun v₁ s₁ h₁ => wpIn_mono h₁ (fun v₂ s₂ h₂ => wpIn_any h₂) fun _ _ x => x) fun _ _ x => x) he)))

theorem assign_tuple_In {elts : List Expr} {k : Nat} {tpos pos : Pos} {value : Expr} {Q : Flow → Shared → Prop}
    (h : wpIn M A (eval value env) (fun v s₁ => wpAny M A (assign (.Tuple elts k tpos) env v) (fun _ => Q .next) E s₁) E s)
    (hs : swapsWithSole [.Tuple elts k tpos] value pos.line env = pure false)
    (hw : swappedStores [.Tuple elts k tpos] value env = pure none) :
    wpIn M A (exec (.Assign [.Tuple elts k tpos] value pos) env) Q E s := by
  rw [exec_Assign]
  refine wpIn_bind (wpIn_standAt ?_)
  rw [hs]
  refine wpIn_bindA (wpAny_pure ?_)
  rw [if_neg (by decide)]
  refine wpIn_bind (wpIn_mono h (fun v s₁ h₁ => ?_) fun _ _ x => x)
  rw [hw]
  refine wpIn_bindA (wpAny_pure ?_)
  show wpIn M A (do assignAll v [assign (.Tuple elts k tpos) env]; pure .next) Q E s₁
  exact wpIn_bindA (wpAny_mono h₁ (fun _ _ x => wpIn_pure x) fun _ _ x => x)

theorem assign_swapped_In {elts : List Expr} {k : Nat} {tpos pos : Pos} {value : Expr} {names : List Str} {Q : Flow → Shared → Prop}
    (h : wpIn M A (eval value env) (fun v s₁ => wpAny M A (unpackItems v names.length none) (fun items s₂ =>
      wpAny M A (assignInOrder (names.reverse.map fun n => bindName env n) items.reverse) (fun _ => Q .next) E s₂) E s₁) E s)
    (hs : swapsWithSole [.Tuple elts k tpos] value pos.line env = pure false)
    (hw : swappedStores [.Tuple elts k tpos] value env = pure (some names)) :
    wpIn M A (exec (.Assign [.Tuple elts k tpos] value pos) env) Q E s := by
  rw [exec_Assign]
  refine wpIn_bind (wpIn_standAt ?_)
  rw [hs]
  refine wpIn_bindA (wpAny_pure ?_)
  rw [if_neg (by decide)]
  refine wpIn_bind (wpIn_mono h (fun v s₁ h₁ => ?_) fun _ _ x => x)
  rw [hw]
  refine wpIn_bindA (wpAny_pure ?_)
  show wpIn M A (do let items ← unpackItems v names.length none; assignInOrder (names.reverse.map fun n => bindName env n) items.reverse; pure .next) Q E s₁
  exact wpIn_bindA (wpAny_mono h₁ (fun items s₂ h₂ => wpIn_bindA (wpAny_mono h₂ (fun _ _ x => wpIn_pure x) fun _ _ x => x)) fun _ _ x => x)
end
end Mine
end

section
namespace Mine
open PySem.Calls

def LawSpec (w : World) : Prop := ∀ (mean : ExcName → Option Value) (mg mb : Str → Option Value) (A : Around) (g : Heap) (s : Shared) (R : Result → Shared → Prop) (sc : Addr) (vs : List Value) (ns : List Int),
  A.handled = none → A.guards = some [] → A.depth + 20 < recursionLimit → A.units + 300 < cLine →
    Grd w mean mg mb g → g.StaysIn s.heap → g.objs.size ≤ s.heap.objs.size → g.IsList sc vs.toArray → IntsAre vs ns → PyData.layable0 (.list (ns.map .int)) = true → ns.length ≤ 63 →
    (∀ h' tk', g.StaysIn h' → R (.ok (.ret (.bool true))) { s with heap := h', toks := tk' }) →
    Mine.codeIn (model PySem.Challenge.rw_nt0545_01.row.prog w) A (.call (.ref 273) ⟨[.ref sc], []⟩) R s

theorem law_true' {l : OpenLaw} {cl : Str → Option Addr} {mean : ExcName → Option Value} {args : List WData} {s₁ : Shared} {h' : Heap} {tk' : Nat} (hk : s₁.heap.StaysIn h') (hg : s₁.gens = #[]) :
    GoodW l.row.toRowW.claim cl mean args s₁ (.ok (.ret (.bool true))) { s₁ with heap := h', toks := tk' } :=
  ⟨.inl ⟨_, _, _, rfl, (fun _ => rfl), .bool true, by with_unfolding_all rfl, unshared_nil⟩, hk, rfl, hg⟩

set_option maxHeartbeats 8000000 in
theorem join (LS : ∀ w, LawSpec w) : PySem.Challenge.rw_nt0545_01.Holds := Mine.hd (by
  k_fill
  intro w s₀ s₁ mg mb G Y fa o pm cd doc dV kV ho hd hcd hD hmg hg args vals as hpre hlay hrd hwl hlo
  have KX := kIn_of Y
  refine Ground.open G ?_
  intro T B D TE TW
  wrow_args hpre hlay hrd hwl hlo
  rename IntsAre _ _ => hI
  rename Heap.IsList _ _ _ => hL
  rename PyData.layable0 _ = true => hlay1
  rename (¬ ((63 : Nat) : Int) < _) => h63
  have e := mg_of (n := Str.ofString "law") (v := .ref 273) KX T.g (by k_is)
  have hfa : fa = 273 := by
    have e2 := hmg.symm.trans e
    injection e2 with e2
    injection e2
  subst hfa
  refine wpIn_call (LS w _ mg mb callerA s₁.heap s₁ _ _ _ _ rfl rfl (by decide) (by decide) ⟨KX, T⟩ (fun _ _ e => e) (Nat.le_refl _) hL hI hlay1 (by omega) fun h' tk' hk => ?_)
  exact law_true' hk hg)
end Mine
end

section
namespace Mine
open PySem.Calls
theorem use_pool {w : World} {mean : ExcName → Option Value} {mg mb : Str → Option Value} {A : Around} {s : Shared} {h₀ : Heap} {L : Addr} {m : Str → Option Value} {news : List (Addr × Obj)} {E : Value → Shared → Prop} {Q : Value → Shared → Prop} {sc : Addr} {vs : List Value} {ns : List Int}
    (hh : A.handled = none) (hg : A.guards = some []) (hd : A.depth + 1 < recursionLimit) (hu : A.units + 20 < cLine)
    (F : Fr h₀ L s.heap m) (N : News h₀ L s.heap news) (G : Grd w mean mg mb h₀)
    (hl : h₀.IsList sc vs.toArray) (hi : IntsAre vs ns) (hlay : PyData.layable0 (.list (ns.map .int)) = true) (hlen : ns.length ≤ 63)
    (h : ∀ (r : Nat) (d mm : Int) (td tm : Tok) (n : Nat) h' tk', (∀ p ∈ news, p.1 < r) → 0 ≤ d → 0 ≤ mm → mm < 2147483647 → Fr h₀ L h' m → News h₀ L h' ((r, listOf #[.int d td, .int mm tm] n) :: news) → Q (.ref r) { s with heap := h', toks := tk' }) :
    wpAny (model PySem.Challenge.rw_nt0545_01.row.prog w) A (call (.ref 228) [.ref sc]) Q E s := by
  obtain ⟨a1, a2, a3, a4⟩ := frame_rule (pre := []) (rest := news) F N .done (fun _ _ _ h => nomatch h)
  refine wpAny_call (pool_spec hh hg hd hu (G.keeps a1) a2 (Nat.le_of_eq (hideAll_size _ _)) (hl.at fun o e => a1 _ o e) hi hlay hlen fun r d mm td tm n h' tk' hr d0 m0 m1 k ap => ?_)
  obtain ⟨F', N', ne⟩ := a4 _ h' k ap
  exact h r d mm td tm n h' tk' (fun p q => Nat.lt_trans (Heap.lt_size (N p q).1) hr) d0 m0 m1 F' N'
end Mine
end

section
namespace Mine
def Asc : Nat → List Nat → Prop
  | _, [] => True
  | a, b :: l => a < b ∧ Asc b l
theorem Asc.all : ∀ {l : List Nat} {a : Nat}, Asc a l → ∀ b ∈ l, a < b
  | [], _, _, _, h => nomatch h
  | c :: l, _, ⟨h1, h2⟩, b, hb => by
    rcases List.mem_cons.mp hb with rfl | hb
    · exact h1
    · exact Nat.lt_trans h1 (h2.all b hb)
theorem Asc.pw : ∀ {l : List Nat} {a : Nat}, Asc a l → (a :: l).Pairwise (· < ·)
  | [], _, _ => List.pairwise_singleton _ _
  | _ :: _, _, h => List.pairwise_cons.mpr ⟨h.all, h.2.pw⟩
theorem nodup_pick {S : List Nat} (h : S.Pairwise (· < ·)) (js : List Nat) (hj : js.all (fun j => Nat.blt j S.length) = true) (hn : js.Nodup) : (js.map fun j => S[j]?.getD 0).Nodup := by
  refine List.pairwise_map.mpr (List.Pairwise.imp_of_mem (fun {a b} ha hb ne => ?_) hn)
  have la := Nat.blt_eq.mp (List.all_eq_true.mp hj a ha)
  have lb := Nat.blt_eq.mp (List.all_eq_true.mp hj b hb)
  rw [List.getElem?_eq_getElem la, List.getElem?_eq_getElem lb, Option.getD_some, Option.getD_some]
  rcases Nat.lt_or_gt_of_ne ne with q | q
  · exact Nat.ne_of_lt (List.pairwise_iff_getElem.mp h a b la lb q)
  · exact Nat.ne_of_gt (List.pairwise_iff_getElem.mp h b a lb la q)
theorem notin_of {ol : Nat} : ∀ {l : List Nat}, (∀ b ∈ l, b ≠ ol) → ol ∉ l := fun h hm => h _ hm rfl
/-- the main loop's addresses are apart -/
theorem nodup_main {src bn db st se enc de fnd ol cl c1 c0 q0 q1 : Nat} (h0 : c0 < c1) (h1 : c1 < src) (o : src < db ∧ db < bn ∧ bn < st ∧ st < se ∧ se < de ∧ de < enc ∧ enc < fnd) (h2 : fnd < q0) (h3 : q0 < q1) (h4 : q1 < cl) (h5 : ol < cl)
    (hn : q1 ≠ ol ∧ q0 ≠ ol ∧ src ≠ ol ∧ bn ≠ ol ∧ db ≠ ol ∧ st ≠ ol ∧ se ≠ ol ∧ enc ≠ ol ∧ de ≠ ol ∧ fnd ≠ ol ∧ c1 ≠ ol ∧ c0 ≠ ol) :
    [src, bn, db, st, se, enc, de, fnd, ol, cl, c1, c0, q0, q1].Nodup := by
  obtain ⟨o1, o2, o3, o4, o5, o6, o7⟩ := o
  have hA : Asc c0 [c1, src, db, bn, st, se, de, enc, fnd, q0, q1, cl] := ⟨h0, h1, o1, o2, o3, o4, o5, o6, o7, h2, h3, h4, trivial⟩
  have base : [src, bn, db, st, se, enc, de, fnd, cl, c1, c0, q0, q1].Nodup := nodup_pick hA.pw [2, 4, 3, 5, 6, 8, 7, 9, 12, 1, 0, 10, 11] rfl (by decide)
  obtain ⟨n1, n2, n3, n4, n5, n6, n7, n8, n9, n10, n11, n12⟩ := hn
  refine (List.perm_middle (l₁ := [src, bn, db, st, se, enc, de, fnd])).nodup_iff.mpr (List.nodup_cons.mpr ⟨fun hm => ?_, base⟩)
  simp only [List.cons_append, List.nil_append, List.mem_cons, List.not_mem_nil, or_false] at hm
  rcases hm with h | h | h | h | h | h | h | h | h | h | h | h | h
  · exact n3 h.symm
  · exact n4 h.symm
  · exact n5 h.symm
  · exact n6 h.symm
  · exact n7 h.symm
  · exact n8 h.symm
  · exact n9 h.symm
  · exact n10 h.symm
  · exact Nat.ne_of_lt h5 h
  · exact n11 h.symm
  · exact n12 h.symm
  · exact n2 h.symm
  · exact n1 h.symm
end Mine
end

section
set_option genInjectivity false
set_option genSizeOf false
set_option genSizeOfSpec false
namespace Mine

/-- a cut's interval, and the last one within it -/
structure CutOk (b z : Int) (p : Nat) (B S : Int) (W : Nat) : Prop where
  b0 : 0 ≤ b
  z0 : 0 ≤ z
  bz : b + z ≤ 2 ^ (16 + p)
  le : p ≤ W
  lo : b * 2 ^ (W - p) ≤ B
  hi : B + S ≤ (b + z) * 2 ^ (W - p)

theorem CutOk.self {B S : Int} {W : Nat} (h0 : 0 ≤ B) (h1 : 0 ≤ S) (h : B + S ≤ 2 ^ (16 + W)) : CutOk B S W B S W :=
  ⟨h0, h1, h, Nat.le_refl _, by simp, by simp⟩

theorem pos2 (k : Nat) : (0 : Int) < 2 ^ k := Int.pow_pos (by decide)

theorem CutOk.step {b z B S B' S' less : Int} {p W W' : Nat} {lo : Bool} (c : CutOk b z p B S W) (h : Norm (cutB B S less lo) (cutS S less lo) W B' S' W') (h0 : 0 ≤ less) (h1 : less ≤ S) : CutOk b z p B' S' W' := by
  obtain ⟨k, rfl, rfl, rfl, -, -⟩ := h
  obtain ⟨c0, c1, c2, c3, c4, c5⟩ := c
  have e : W + k - p = (W - p) + k := by omega
  have hl : B ≤ cutB B S less lo ∧ cutB B S less lo + cutS S less lo ≤ B + S := by
    unfold cutB cutS
    cases lo <;> simp <;> omega
  have hk := pos2 k
  refine ⟨c0, c1, c2, by omega, ?_, ?_⟩
  · rw [e, Int.pow_add, ← Int.mul_assoc]
    exact Int.mul_le_mul_of_nonneg_right (Int.le_trans c4 hl.1) (Int.le_of_lt hk)
  · rw [e, Int.pow_add, ← Int.mul_assoc, ← Int.add_mul]
    exact Int.mul_le_mul_of_nonneg_right (Int.le_trans hl.2 c5) (Int.le_of_lt hk)

theorem CutOk.inside {b z B S : Int} {p W : Nat} {bs : Array UInt8} (c : CutOk b z p B S W) (h8 : 8 * bs.size ≤ 16 + W) (lo : B ≤ (V bs.toList : Int) * 2 ^ (16 + W - 8 * bs.size)) (hi : (V bs.toList : Int) * 2 ^ (16 + W - 8 * bs.size) < B + S) :
    Inside bs b z p := by
  obtain ⟨c0, c1, c2, c3, c4, c5⟩ := c
  unfold Inside
  split
  · rename_i hq
    have e : 16 + W - 8 * bs.size = (16 + p - 8 * bs.size) + (W - p) := by omega
    rw [e, Int.pow_add, ← Int.mul_assoc] at lo hi
    have hk := pos2 (W - p)
    exact ⟨Int.le_of_mul_le_mul_right (Int.le_trans c4 lo) hk, Int.lt_of_mul_lt_mul_right (Int.lt_of_lt_of_le hi c5) (Int.le_of_lt hk)⟩
  · rename_i hq
    have e : W - p = (8 * bs.size - (16 + p)) + (16 + W - 8 * bs.size) := by omega
    rw [e, Int.pow_add, ← Int.mul_assoc] at c4 c5
    have hk := pos2 (16 + W - 8 * bs.size)
    exact ⟨Int.le_of_mul_le_mul_right (Int.le_trans c4 lo) hk, Int.lt_of_mul_lt_mul_right (Int.lt_of_lt_of_le hi c5) (Int.le_of_lt hk)⟩

theorem EI.start : EI 0 65536 0 0 11 #[] := ⟨by decide, by decide, by decide, by decide, by decide, by decide, by decide, by decide, by decide⟩

theorem norm_power {b s b' s' : Int} {p p' : Nat} (h : Norm b s p b' s' p') (hs : 0 < s) (hm : s' ≤ 65536) : p' ≤ p + 16 := by
  obtain ⟨k, rfl, rfl, rfl, -, -⟩ := h
  have := k_small hs hm
  omega

/-- the states behind a decision, the law's way -/
theorem nx_ne {P : Params} {j e bit size : Int} (h : bit ≠ e) : nxS P j e bit size = laS P j e bit := by unfold nxS laS; rw [if_neg h, if_neg h]
theorem nx_eq {P : Params} {j e bit size : Int} (h : bit = e) (hr : size - rowI P j.toNat 0 < 32768) : nxS P j e bit size = laS P j e bit := by unfold nxS laS; rw [if_pos h, if_pos h, if_neg (by omega)]
theorem nx_stay {P : Params} {j e bit size : Int} (h : bit = e) (hr : ¬ size - rowI P j.toNat 0 < 32768) : nxS P j e bit size = j ∧ nxE P j e bit = e := by
  unfold nxS nxE; rw [if_pos h, if_pos h, if_pos (by omega)]; exact ⟨rfl, rfl⟩
theorem nxS_bnd {P : Params} {j e bit size : Int} (h0 : 0 ≤ j) (h1 : j < 114) : 0 ≤ nxS P j e bit size ∧ nxS P j e bit size < 114 := by
  obtain ⟨-, -, -, r2, r3, r4, r5, -⟩ := row_at P (j := j.toNat) (by omega)
  unfold nxS
  split
  · split
    · exact ⟨h0, h1⟩
    · exact ⟨r4, r5⟩
  · exact ⟨r2, r3⟩
theorem nxE_bnd {P : Params} {j e bit : Int} (h0 : 0 ≤ e) (h1 : e < 2) : 0 ≤ nxE P j e bit ∧ nxE P j e bit < 2 := by
  unfold nxE
  split
  · exact ⟨h0, h1⟩
  · split <;> omega
end Mine
end

section
set_option genInjectivity false
set_option genSizeOf false
set_option genSizeOfSpec false
namespace Mine

/-- where the law's things lie -/
structure MA where
  src : Nat
  bn : Nat
  db : Nat
  st : Nat
  se : Nat
  enc : Nat
  de : Nat
  fnd : Nat
  ol : Nat
  cl : Nat
  co : Nat
  cb : Nat
  pa : Tok
  pb : Tok
  ea : Tok
  eb : Tok
  ec : Tok
  ed : Tok
  oc : Obj
  ob : Obj

/-- what they hold -/
structure MS where
  d : Int
  mm : Int
  s0 : Int
  s1 : Int
  e0 : Int
  e1 : Int
  base : Int
  size : Int
  code : Int
  power : Nat
  l : Nat
  bs : Array UInt8
  q0 : Nat
  q1 : Nat
  refs : List Nat
  rest : List (Addr × Obj)
  td : Tok
  tm : Tok
  u0 : Tok
  u1 : Tok
  x0 : Tok
  x1 : Tok
  y0 : Tok
  y1 : Tok
  z0 : Tok
  z1 : Tok
  ts : Tok
  tc : Tok
  tl : Tok
  tb : Tok
  tz : Tok
  tp : Tok
  nn : Nat
  n : Nat
  k : Nat
  no : Nat
  nc : Nat

def addrs (a : MA) (rest : List (Addr × Obj)) : List Addr := a.src :: a.bn :: a.db :: a.st :: a.se :: a.enc :: a.de :: a.fnd :: a.ol :: a.cl :: a.co :: a.cb :: rest.map (·.1)
def ledger (P : Params) (a : MA) (σ : MS) (rest : List (Addr × Obj)) : List (Addr × Obj) :=
  (a.src, listOf #[.int σ.d σ.td, .int σ.mm σ.tm] σ.nn) :: (a.bn, instObj 147 a.db) :: (a.db, BinsD P a.pa a.pb a.st a.se) :: (a.st, listOf #[.int σ.s0 σ.u0, .int σ.s1 σ.u1] σ.n) :: (a.se, listOf #[.int σ.e0 σ.x0, .int σ.e1 σ.x1] σ.k) ::
    (a.enc, instObj 217 a.de) :: (a.de, EncD P a.ea a.eb a.ec a.ed (.int σ.size σ.ts) (.int σ.code σ.tc) (.int (σ.l : Int) σ.tl) a.fnd) :: (a.fnd, baOf σ.bs) :: (a.ol, listOf #[.ref σ.q0, .ref σ.q1] σ.no) ::
    (a.cl, listOf (σ.refs.map Value.ref).toArray σ.nc) :: (a.co, a.oc) :: (a.cb, a.ob) :: rest

structure MainOk (P : Params) (a : MA) (i : Nat) (σ : MS) (m : Str → Option Value) : Prop where
  d0 : 0 ≤ σ.d
  m0 : 0 ≤ σ.mm
  m1 : σ.mm < 2147483647
  s00 : 0 ≤ σ.s0
  s01 : σ.s0 < 114
  s10 : 0 ≤ σ.s1
  s11 : σ.s1 < 114
  ms : m (Str.ofString "source") = some (.ref a.src)
  me : m (Str.ofString "encoder") = some (.ref a.enc)
  mo : m (Str.ofString "own") = some (.ref a.ol)
  mc : m (Str.ofString "cuts") = some (.ref a.cl)
  mb : m (Str.ofString "base") = some (.int σ.base σ.tb)
  mz : m (Str.ofString "size") = some (.int σ.size σ.tz)
  mp : m (Str.ofString "power") = some (.int (σ.power : Int) σ.tp)
  ei : EI σ.base σ.size σ.power σ.code σ.l σ.bs
  sz : 32768 ≤ σ.size
  pw : σ.power ≤ 16 * i
  rl : σ.refs.length = i
  r0 : (σ.q0, tupO [.int σ.s0 σ.y0, .int σ.e0 σ.z0]) ∈ σ.rest
  r1 : (σ.q1, tupO [.int σ.s1 σ.y1, .int σ.e1 σ.z1]) ∈ σ.rest
  cuts : ∀ r ∈ σ.refs, ∃ (b z : Int) (p : Nat) (t1 t2 t3 : Tok), (r, tupO [.int b t1, .int z t2, .int (p : Int) t3]) ∈ σ.rest ∧ CutOk b z p σ.base σ.size σ.power
  ok : AllOk σ.rest
  nd : (addrs a σ.rest).Nodup

/-- the loop's own word -/
def MainJ (P : Params) (a : MA) (i : Nat) (m : Str → Option Value) (nx : List (Addr × Obj)) : Prop := ∃ σ : MS, MainOk P a i σ m ∧ nx = ledger P a σ σ.rest

/-- what is fixed of the addresses -/
structure MAOk (a : MA) : Prop where
  h1 : a.db < a.bn
  h2 : a.bn < a.st
  h3 : a.st < a.se
  h4 : a.se < a.de
  h5 : a.de < a.enc
  h6 : a.enc < a.fnd
  oc : a.oc.data = Data.cell none
  ob : a.ob.data = Data.cell (some (Value.ref a.bn))

theorem split_sep {l p r : List (Addr × Obj)} (h : Split l p r) (nd : (l.map (·.1)).Nodup) : ∀ x ∈ r, ∀ y ∈ p, x.1 ≠ y.1 := by
  induction h with
  | done => exact fun _ _ _ hy => nomatch hy
  | left hs ih =>
    rename_i x l p r
    rw [List.map_cons, List.nodup_cons] at nd
    intro a ha y hy
    rcases List.mem_cons.mp hy with rfl | hy
    · intro e
      exact nd.1 (List.mem_map.mpr ⟨a, hs.mem.2 a ha, e⟩)
    · exact ih nd.2 a ha y hy
  | right hs ih =>
    rename_i x l p r
    rw [List.map_cons, List.nodup_cons] at nd
    intro a ha y hy
    rcases List.mem_cons.mp ha with rfl | ha
    · intro e
      exact nd.1 (List.mem_map.mpr ⟨y, hs.mem.1 y hy, e.symm⟩)
    · exact ih nd.2 a ha y hy

theorem upd_nd {a : Addr} {o o' : Obj} {post : List (Addr × Obj)} : ∀ (pre : List (Addr × Obj)), ((pre ++ (a, o) :: post).map (·.1)).Nodup → Upd a o o' (pre ++ (a, o) :: post) (pre ++ (a, o') :: post)
  | [], nd => by
    rw [List.nil_append, List.map_cons, List.nodup_cons] at nd
    exact Upd.head fun p hp e => nd.1 (List.mem_map.mpr ⟨p, hp, e⟩)
  | x :: pre, nd => by
    rw [List.cons_append, List.map_cons, List.nodup_cons] at nd
    exact Upd.tail (fun e => nd.1 (List.mem_map.mpr ⟨(a, o), List.mem_append_right _ (.head _), e.symm⟩)) (upd_nd pre nd.2)

theorem nodup_more {a : MA} {rest : List (Addr × Obj)} {x : Addr} {o : Obj} (nd : (addrs a rest).Nodup) (h : ∀ b ∈ addrs a rest, b ≠ x) : (addrs a ((x, o) :: rest)).Nodup := by
  have e : addrs a ((x, o) :: rest) = [a.src, a.bn, a.db, a.st, a.se, a.enc, a.de, a.fnd, a.ol, a.cl, a.co, a.cb] ++ x :: rest.map (·.1) := rfl
  have e2 : addrs a rest = [a.src, a.bn, a.db, a.st, a.se, a.enc, a.de, a.fnd, a.ol, a.cl, a.co, a.cb] ++ rest.map (·.1) := rfl
  rw [e2] at nd h
  rw [e]
  rw [List.nodup_append] at nd ⊢
  obtain ⟨n1, n2, n3⟩ := nd
  refine ⟨n1, List.nodup_cons.mpr ⟨fun hx => h x (List.mem_append_right _ hx) rfl, n2⟩, fun b hb c hc => ?_⟩
  rcases List.mem_cons.mp hc with rfl | hc
  · exact h b (List.mem_append_left _ hb)
  · exact n3 b hb c hc

section
variable {w : World} {mean : ExcName → Option Value} {mg mb : Str → Option Value} {A : Around} {s : Shared} {h₀ : Heap} {L : Addr} {m : Str → Option Value} {news pre rest : List (Addr × Obj)}
theorem use_An {E : Value → Shared → Prop} {dn un : Nat} {f : Addr} {args : List Value} {post : Nat → Value → List (Addr × Obj) → Prop} {Q : Value → Shared → Prop} (S : SpecA w dn un f args pre post)
    (hh : A.handled = none) (hg : A.guards = some []) (hd : A.depth + dn < recursionLimit) (hu : A.units + un < cLine)
    (F : Fr h₀ L s.heap m) (N : News h₀ L s.heap news) (G : Grd w mean mg mb h₀) (hsp : Split news pre rest) (nd : (news.map (·.1)).Nodup)
    (h : ∀ v new h' tk', (∀ p ∈ news, p.1 < s.heap.objs.size) → post s.heap.objs.size v new → Fr h₀ L h' m → News h₀ L h' (new ++ rest) → Q v { s with heap := h', toks := tk' }) :
    wpAny (model PySem.Challenge.rw_nt0545_01.row.prog w) A (call (.ref f) args) Q E s := use_A S hh hg hd hu F N G hsp (split_sep hsp nd) h
theorem use_In {E : Value → Shared → Prop} {dn un : Nat} {f : Addr} {args : List Value} {post : Nat → Value → List (Addr × Obj) → Prop} {Q : Value → Shared → Prop} (S : SpecI w dn un f args pre post)
    (hh : A.handled = none) (hg : A.guards = some []) (hd : A.depth + dn < recursionLimit) (hu : A.units + un < cLine)
    (F : Fr h₀ L s.heap m) (N : News h₀ L s.heap news) (G : Grd w mean mg mb h₀) (hsp : Split news pre rest) (nd : (news.map (·.1)).Nodup)
    (h : ∀ v new h' tk', (∀ p ∈ news, p.1 < s.heap.objs.size) → post s.heap.objs.size v new → Fr h₀ L h' m → News h₀ L h' (new ++ rest) → Q v { s with heap := h', toks := tk' }) :
    wpIn (model PySem.Challenge.rw_nt0545_01.row.prog w) A (call (.ref f) args) Q E s := use_I S hh hg hd hu F N G hsp (split_sep hsp nd) h
end

theorem News.pick {h₀ h : Heap} {L : Addr} {l news : List (Addr × Obj)} (N : News h₀ L h news) (hs : ∀ p ∈ l, p ∈ news) : News h₀ L h l := fun p hp => N p (hs p hp)

/-- the ledger with the loop's iterator put to the rest -/
theorem ledger_it {P : Params} {a : MA} {σ : MS} {rest : List (Addr × Obj)} {x : Addr × Obj} : ledger P a σ rest ++ [x] = ledger P a σ (rest ++ [x]) := rfl
theorem addrs_it {P : Params} {a : MA} {σ : MS} {rest : List (Addr × Obj)} : addrs a rest = (ledger P a σ rest).map (·.1) := rfl
theorem nodup_it {P : Params} {a : MA} {σ : MS} {rest : List (Addr × Obj)} {I : Addr} {o : Obj} (nd : (addrs a rest).Nodup) (h : ∀ p ∈ ledger P a σ rest, p.1 ≠ I) : (addrs a (rest ++ [(I, o)])).Nodup := by
  have e : addrs a (rest ++ [(I, o)]) = addrs a rest ++ [I] := by
    unfold addrs
    simp
  rw [e, List.nodup_append]
  refine ⟨nd, by simp, fun b hb c hc => ?_⟩
  rw [List.mem_singleton.mp hc]
  rw [addrs_it (P := P) (σ := σ)] at hb
  obtain ⟨p, hp, rfl⟩ := List.mem_map.mp hb
  exact h p hp

def coreL (P : Params) (a : MA) (σ : MS) : List (Addr × Obj) := ledger P a σ []
theorem ledger_core {P : Params} {a : MA} {σ : MS} {rest : List (Addr × Obj)} : ledger P a σ rest = coreL P a σ ++ rest := rfl
theorem ledger_more {P : Params} {a : MA} {σ : MS} {rest : List (Addr × Obj)} {x : Addr × Obj} : ∀ p ∈ ledger P a σ (x :: rest), p ∈ x :: ledger P a σ rest := fun p hp => by
  rw [ledger_core] at hp ⊢
  exact List.perm_middle.mem_iff.mp hp
theorem fresh_addrs {P : Params} {a : MA} {σ : MS} {rest : List (Addr × Obj)} {S r : Nat} (l : ∀ p ∈ ledger P a σ rest, @LT.lt Nat _ p.1 S) (h : S ≤ r) : ∀ b ∈ addrs a rest, b ≠ r := fun b hb e => by
  rw [addrs_it (P := P) (σ := σ)] at hb
  obtain ⟨p, hp, rfl⟩ := List.mem_map.mp hb
  have := l p hp
  rw [e] at this
  exact absurd (Nat.lt_of_lt_of_le this h) (Nat.lt_irrefl _)
/-- behind own[at] = _law_later(..), or without it -/
def Own5 (s : Shared) (g : Heap) (L : Addr) (m : Str → Option Value) (P : Params) (a : MA) (mk : Nat → Nat → MS) (rest1 : List (Addr × Obj)) (S E : Int) (f : Flow) (s' : Shared) : Prop :=
  f = .next ∧ ∃ h' tk' q rest2 y z no', s' = { s with heap := h', toks := tk' } ∧ Fr g L h' m ∧ News g L h' (ledger P a (mk q no') rest2) ∧ (q, tupO [.int S y, .int E z]) ∈ rest2 ∧
    (∀ p ∈ rest1, p ∈ rest2) ∧ (addrs a rest2).Nodup ∧ (∀ p ∈ rest2, p ∈ rest1 ∨ OkIt p.2)
theorem Own5.intro {s : Shared} {g : Heap} {L : Addr} {m : Str → Option Value} {P : Params} {a : MA} {mk : Nat → Nat → MS} {rest1 : List (Addr × Obj)} {S E : Int} {h' : Heap} {tk' : Nat} (q : Nat) (rest2 : List (Addr × Obj)) (no' : Nat) {y z : Tok}
    (F : Fr g L h' m) (N : News g L h' (ledger P a (mk q no') rest2)) (hq : (q, tupO [.int S y, .int E z]) ∈ rest2) (h1 : ∀ p ∈ rest1, p ∈ rest2) (nd : (addrs a rest2).Nodup) (h2 : ∀ p ∈ rest2, p ∈ rest1 ∨ OkIt p.2) :
    Own5 s g L m P a mk rest1 S E .next { s with heap := h', toks := tk' } := ⟨rfl, h', tk', q, rest2, y, z, no', rfl, F, N, hq, h1, nd, h2⟩
theorem cutS_pos {size less : Int} {lo : Bool} (h0 : 0 < less) (h1 : less < size) : 0 < cutS size less lo := by
  unfold cutS
  split <;> omega
theorem allLt_to {d : Addr} : ∀ {l : List (Addr × Obj)}, AllLt d l → ∀ p ∈ l, @LT.lt Nat _ p.1 d
  | [], _, _, hp => nomatch hp
  | p :: l, h, q, hq => by
    rcases List.mem_cons.mp hq with rfl | hq
    · exact h.1
    · exact allLt_to h.2 q hq
theorem fresh_allLt {P : Params} {a : MA} {σ : MS} {rest : List (Addr × Obj)} {D : Nat} (l : AllLt D (ledger P a σ rest)) : ∀ b ∈ addrs a rest, b ≠ D := fun b hb e => by
  rw [addrs_it (P := P) (σ := σ)] at hb
  obtain ⟨p, hp, rfl⟩ := List.mem_map.mp hb
  have := allLt_to l p hp
  rw [e] at this
  exact absurd this (Nat.lt_irrefl _)
theorem ledger_ok {P : Params} {a : MA} {σ : MS} {rest : List (Addr × Obj)} (h1 : OkIt a.oc) (h2 : OkIt a.ob) (h : AllOk rest) : AllOk (ledger P a σ rest) :=
  allOk_cons (okT rfl (by decide)) (allOk_cons (okR rfl) (allOk_cons (okT rfl (by decide)) (allOk_cons (okT rfl (by decide)) (allOk_cons (okT rfl (by decide)) (allOk_cons (okR rfl) (allOk_cons (okT rfl (by decide))
    (allOk_cons (okT rfl (by decide)) (allOk_cons (okT rfl (by decide)) (allOk_cons (okT rfl (by decide)) (allOk_cons h1 (allOk_cons h2 h)))))))))))
theorem nodup_sub {a : MA} {r r' : List (Addr × Obj)} (nd : (addrs a r).Nodup) (h : List.Sublist r' r) : (addrs a r').Nodup := by
  refine List.Nodup.sublist ?_ nd
  unfold addrs
  repeat refine List.Sublist.cons_cons _ ?_
  exact h.map _
theorem ledger_sub {P : Params} {a : MA} {σ : MS} {r r' : List (Addr × Obj)} (h : ∀ p ∈ r', p ∈ r) : ∀ p ∈ ledger P a σ r', p ∈ ledger P a σ r := fun p hp => by
  rw [ledger_core] at hp ⊢
  exact (List.mem_append.mp hp).elim (List.mem_append_left _) fun q => List.mem_append_right _ (h p q)

theorem turn_end {P : Params} {a : MA} {g h' : Heap} {L I : Addr} {it : Obj} {i tk : Nat} {σ : MS} {m' : Str → Option Value} {s₁ : Shared} {restN : List (Addr × Obj)}
    (F : Fr g L h' m') (N : News g L h' (ledger P a σ restN)) (hI : (I, it) ∈ restN) (hni : ¬ OkIt it) (hr : ∀ p ∈ restN, OkIt p.2 ∨ p.1 = I) (nd : (addrs a restN).Nodup) (hoc : OkIt a.oc) (hob : OkIt a.ob)
    (main : ∀ rf, (∀ p ∈ restN, OkIt p.2 → p ∈ rf) → AllOk rf → (addrs a rf).Nodup → MainOk P a i { σ with rest := rf } m') : TurnEnd g L (MainJ P a i) I it s₁ .next { s₁ with heap := h', toks := tk } := by
  have hsub : ∀ p ∈ restN.filter (fun p => decide (p.1 ≠ I)), p ∈ restN := fun p hp => (List.mem_filter.mp hp).1
  have hok : AllOk (restN.filter (fun p => decide (p.1 ≠ I))) := fun p hp => by
    obtain ⟨h1, h2⟩ := List.mem_filter.mp hp
    exact (hr p h1).resolve_right (of_decide_eq_true h2)
  have hin : ∀ p ∈ restN, OkIt p.2 → p ∈ restN.filter (fun p => decide (p.1 ≠ I)) := fun p hp ok => by
    refine List.mem_filter.mpr ⟨hp, decide_eq_true fun e => hni ?_⟩
    have m1 : p ∈ ledger P a σ restN := by rw [ledger_core]; exact List.mem_append_right _ hp
    have m2 : (I, it) ∈ ledger P a σ restN := by rw [ledger_core]; exact List.mem_append_right _ hI
    have g1 := (N p m1).1
    have g2 := (N _ m2).1
    dsimp only at g2
    rw [e, g2] at g1
    exact (Option.some.inj g1) ▸ ok
  refine TurnEnd.intro (ledger P a { σ with rest := restN.filter (fun p => decide (p.1 ≠ I)) } (restN.filter (fun p => decide (p.1 ≠ I)))) F N (ledger_sub hsub) ?_ (ledger_ok hoc hob hok)
    ⟨_, main _ hin hok (nodup_sub nd List.filter_sublist), rfl⟩
  rw [ledger_core]
  exact List.mem_append_right _ hI

theorem EI.base0 {base size code : Int} {power l : Nat} {bs : Array UInt8} (e : EI base size power code l bs) : 0 ≤ base := by
  rw [e.bas]
  exact Int.add_nonneg (Int.mul_nonneg (Int.natCast_nonneg _) (Int.le_of_lt (pos2 _))) e.c0
theorem push_refs (l : List Nat) (D : Nat) : ((l.map Value.ref).toArray).push (.ref D) = ((l ++ [D]).map Value.ref).toArray := by simp
theorem updF_nd {a : Addr} {o : Obj} {post : List (Addr × Obj)} : ∀ (pre : List (Addr × Obj)), ((pre ++ (a, o) :: post).map (·.1)).Nodup → UpdF a o (pre ++ (a, o) :: post) (fun o' => pre ++ (a, o') :: post)
  | [], nd => by
    rw [List.nil_append, List.map_cons, List.nodup_cons] at nd
    exact UpdF.head fun p hp e => nd.1 (List.mem_map.mpr ⟨p, hp, e⟩)
  | x :: pre, nd => by
    rw [List.cons_append, List.map_cons, List.nodup_cons] at nd
    exact UpdF.tail (fun e => nd.1 (List.mem_map.mpr ⟨(a, o), List.mem_append_right _ (.head _), e.symm⟩)) (updF_nd pre nd.2)

theorem none_list {prog : Program} {w : World} {A : Around} {E : Value → Shared → Prop} {s₁ : Shared} {h₀ : Heap} {L d : Addr} {m : Str → Option Value} {env : Env} {news : List (Addr × Obj)} {its : Array Value} {n : Nat} {scope : Scope} {cl : List (Str × Addr)} {x : Str} {ct : Expr} {Q : Value → Shared → Prop}
    (hh : A.handled = none) (F : Fr h₀ L s₁.heap m) (N : News h₀ L s₁.heap news) (hp : (d, listOf its n) ∈ news) (hz : its.size ≤ sizeLine)
    (test : ∀ C v oC m₃ (s₃ : Shared) E', v ∈ its.toList → LCg.NsObj oC m₃ → m₃ x = some v → Fr h₀ L s₃.heap m → News h₀ L s₃.heap ((C, oC) :: news) → s₁.heap.StaysIn s₃.heap →
      wpAny (model prog w) A (isTrue ct (compEnvC scope cl C env) (eval ct (compEnvC scope cl C env))) (fun ok s₄ => ok = false ∧ Keeps s₃ s₄) E' s₃)
    (fin : ∀ D c h' tk, Fr h₀ L h' m → News h₀ L h' ((D, listOf #[] c) :: news) → (∀ p ∈ news, p.1 ≠ D) → Q (.ref D) { s₁ with heap := h', toks := tk }) :
    NoneSrc prog w A env scope cl x ct h₀ L m Q E (.ref d) s₁ :=
  ⟨fun v => v ∈ its.toList, news, F, N, iter_listK hh (News.isList N hp) hz, fun C v oC m₃ s₃ E' hv hns hm F3 N3 hst => test C v oC m₃ s₃ E' hv hns hm F3 N3 hst, fin⟩
theorem start_main {P : Params} {g h : Heap} {L D src bn db st se enc de fnd ol cl q0 q1 : Nat} {d mm s0 s1 e0 e1 : Int} {m : Str → Option Value} {oc ob o₁ : Obj} {td tm u0 u1 x0 x1 y0 y1 z0 z1 pa pb ea eb ec ed ts tc tl tb tz tp : Tok} {nn n k no nc : Nat}
    (F : Fr g L h m) (N : News g L h [(D, o₁), (cl, listOf #[] nc), (ol, listOf #[.ref q0, .ref q1] no), (q1, tupO [.int s1 y1, .int e1 z1]), (q0, tupO [.int s0 y0, .int e0 z0]), (src, listOf #[.int d td, .int mm tm] nn), (bn, instObj 147 db), (db, BinsD P pa pb st se),
      (st, listOf #[.int s0 u0, .int s1 u1] n), (se, listOf #[.int e0 x0, .int e1 x1] k), (enc, instObj 217 de), (de, EncD P ea eb ec ed (.int 65536 ts) (.int 0 tc) (.int 11 tl) fnd), (fnd, baOf #[]), (L + 1 + 1, oc), (L + 1, ob)])
    (d0 : 0 ≤ d) (m0 : 0 ≤ mm) (m1 : mm < 2147483647) (hs0 : 0 ≤ s0 ∧ s0 < 114) (hs1 : 0 ≤ s1 ∧ s1 < 114)
    (ms : m (Str.ofString "source") = some (.ref src)) (me : m (Str.ofString "encoder") = some (.ref enc)) (mo : m (Str.ofString "own") = some (.ref ol)) (mc : m (Str.ofString "cuts") = some (.ref cl))
    (mb : m (Str.ofString "base") = some (.int 0 tb)) (mz : m (Str.ofString "size") = some (.int 65536 tz)) (mp : m (Str.ofString "power") = some (.int 0 tp))
    (hoc : oc.data = Data.cell none) (hob : ob.data = Data.cell (some (Value.ref bn))) (h1 : db < bn) (h2 : bn < st) (h3 : st < se) (h4 : se < de) (h5 : de < enc) (h6 : enc < fnd)
    (nd : [src, bn, db, st, se, enc, de, fnd, ol, cl, L + 1 + 1, L + 1, q0, q1].Nodup) :
    ∃ (a : MA) (σ : MS) (m₃ : Str → Option Value), MAOk a ∧ a.co = L + 1 + 1 ∧ a.cb = L + 1 ∧ MainOk P a 0 σ m₃ ∧ Fr g L h m₃ ∧ News g L h (ledger P a σ σ.rest) := by
  refine ⟨⟨src, bn, db, st, se, enc, de, fnd, ol, cl, L + 1 + 1, L + 1, pa, pb, ea, eb, ec, ed, oc, ob⟩,
    ⟨d, mm, s0, s1, e0, e1, 0, 65536, 0, 0, 11, #[], q0, q1, [], [(q0, tupO [.int s0 y0, .int e0 z0]), (q1, tupO [.int s1 y1, .int e1 z1])], td, tm, u0, u1, x0, x1, y0, y1, z0, z1, ts, tc, tl, tb, tz, tp, nn, n, k, no, nc⟩, m,
    ⟨h1, h2, h3, h4, h5, h6, hoc, hob⟩, rfl, rfl, ?_, F, News.pick N ?_⟩
  · exact MainOk.mk d0 m0 m1 hs0.1 hs0.2 hs1.1 hs1.2 ms me mo mc mb mz mp EI.start (show (32768 : Int) ≤ 65536 by decide) (Nat.le_refl _) rfl (.head _) (.tail _ (.head _)) (fun _ h => nomatch h) (allOk_cons (okT rfl (by decide)) (allOk_cons (okT rfl (by decide)) allOk_nil)) nd
  · dsimp only [ledger, List.map_nil]
    k_allIn
end Mine
end

section
namespace Mine
open PySem.Calls
local macro_rules | `(tactic| k_ne) => `(tactic| (refine neN ?_; (try dsimp only); (rename ((_ ≠ _ ∧ _ ≠ _ ∧ _ ≠ _) ∧ _) => hoff9); simp only [hoff9, ne_eq, not_false_eq_true]; done))
local macro_rules | `(tactic| walk_at "CompSrc") => `(tactic| (k_here; k_dflt (refine LCg.CompSrc.range (by assumption) (by k_asm) (by k_asm) (by assumption) (by first | decide | rfl) (by first | rfl | decide) (by first | size_fits | exact Nat.le_of_ble_eq_true rfl) ?_; intro g'; lcg_lit)))

local macro_rules | `(tactic| walk_at "eval Name") => `(tactic| (refine ldE (by k_asm) (by assumption) ?_ rfl rfl (by decide); k_whole))
local macro_rules | `(tactic| walk_at "CompSrc") => `(tactic| (k_here; k_dflt (refine LCg.CompSrc.range (by assumption) (by k_asm) (by k_asm) (by assumption) (by first | decide | rfl) (by first | rfl | decide) (by first | size_fits | exact Nat.le_of_ble_eq_true rfl) ?_; intro g'; lcg_lit)))
local macro_rules | `(tactic| walk_at "call ref") => `(tactic| (refine Halt.out ?_))


local macro_rules | `(tactic| walk_at "compareOp NotEq ref ref") => `(tactic| (refine ne2_false (News.isTup (by k_asm) (by k_mem)) (News.isTup (by k_asm) (by k_ownIn)) (by show _ + 3 + 64 < _; omega) ?_))
local macro_rules | `(tactic| walk_at "call builtin:list.append") => `(tactic| (refine Halt.out ?_))
local macro_rules | `(tactic| k_upd) => `(tactic| exact upd_nd [_, _, _, _, _, _, _, _] (by assumption))
local macro_rules | `(tactic| walk_at "subscriptTail") => `(tactic| ((with_reducible show wpAny _ _ (subscriptTail _ _ (Value.ref _) (Value.int _ _)) _ _ _); refine item_tupleT (News.isTup (by k_asm) (by k_ownIn)) (by decide) (by decide) (by rfl) (by rfl) ?_; k_whole))
local macro_rules | `(tactic| walk_at "eval ListComp") => `(tactic| (refine Halt.out ?_))
set_option maxHeartbeats 16000000 in
theorem law_main (w : World) : LawSpec w := by
  intro mean mg mb A g s R sc vs ns hh hg hd hu G hst hsz hl hi hlay hlen hR
  have hap : Apart g s.heap [] := fun _ h => nomatch h
  refine' enter_IC ?kG ?kst ?ksz ?kap ?ho ?hcd ?hroom ?hb ?hl ?hnd ?_ ?c1 ?c2 ?c3
  (case kG => assumption); (case kst => assumption); (case ksz => assumption); (case kap => assumption)
  (case ho => k_is); (case hcd => k_is); (case hroom => omega); (case hb => exact BindsTo.of_eq rfl); (case hl => exact rfl); (case hnd => decide +kernel)
  (case c1 => exact rfl); (case c2 => exact rfl); (case c3 => exact rfl)
  intro L h₁ tk₁ cells F' N' Y' l1 hL
  (have KX := Grd.X (by assumption)); (have T := Grd.T (by assumption)); (try dsimp only); k_cells Y'; rename_i oc ob dc db; (try simp only [List.cons_append, List.nil_append] at N')
  refine execs_step ?_; (show wpAny _ _ _ _ _ _); k_fold; k_steps
  unfold Halt
  refine use_pool hh hg (by show A.depth + 1 + 1 < _; omega) (by show A.units + 3 + 20 < _; omega) (by assumption) (by assumption) G hl (by assumption) hlay hlen ?_
  intro src d mm td tm nn h2 tk2 l2 d0 m0 m1 F2 N2
  k_lt l2
  clear F' N'
  k_steps
  (try k_unfold)
  (try dsimp only)
  have dc0 : oc.data = Data.cell none := dc
  have db0 : ob.data = Data.cell none := db
  clear dc db
  refine execs_cons_In (For_In g (by rfl) (by rfl) ?_)
  (show wpAny _ _ _ _ _ _); k_fold; k_steps
  (try k_unfold)
  refine' LoopAtR.intro (n := 8) (fun i m nx => ∃ (d mm : Int) (td tm : Tok) (nn : Nat), 0 ≤ d ∧ 0 ≤ mm ∧ mm < 2147483647 ∧ m (Str.ofString "source") = some (.ref src) ∧ nx = [(src, listOf #[.int d td, .int mm tm] nn), (L + 1 + 1, oc), (L + 1, ob)]) hh ?r ?n ?F ?N ?j ?turn ?done
  (case r => assumption)
  (case n => decide)
  (case F => assumption)
  (case N => assumption)
  (case j => exact ⟨d, mm, td, tm, nn, d0, m0, m1, rfl, rfl⟩)
  case turn =>
    clear d0 m0 m1
    rintro i t m₂ _ h5 tk5 I left hi8 ⟨d, mm, td, tm, nn, d0, m0, m1, ms, rfl⟩ hI F5 N5
    simp only [List.cons_append, List.nil_append] at N5
    have hI1 : @Ne Nat src I := hI _ (.head _)
    refine execs_step ?_; (show wpAny _ _ _ _ _ _); k_fold; k_steps
    unfold Halt
    refine use_A (take_spec d0 m0 m1 (by decide) (by decide)) hh hg (by show A.depth + 1 + 1 < _; omega) (by show A.units + 3 + 8 < _; omega) F5 N5 G (.left .done) ?_ ?_
    · simp only [List.mem_cons, List.not_mem_nil, or_false]
      rintro p (rfl | rfl | rfl) q rfl <;> k_ne
    rintro v new h7 tk7 - ⟨r, d', m', t', td', tm', n', rfl, r0, r1, d0', m0', m1', rfl⟩ F7 N7
    simp only [List.cons_append, List.nil_append] at N7
    clear F5 N5
    k_steps
    unfold Halt
    refine use_A (right_spec r0 r1) hh hg (by show A.depth + 1 + 1 < _; omega) (by show A.units + 3 + 8 < _; omega) F7 N7 G .done (fun _ _ _ h => nomatch h) ?_
    rintro v new h8 tk8 - ⟨rfl, rfl⟩ F8 N8
    simp only [List.nil_append] at N8
    clear F7 N7
    k_steps
    (try k_unfold)
    (try dsimp only)
    refine execs_nil_In ?_
    refine TurnEnd.intro _ F8 N8 ?m1 ?m2 ?m3 ⟨d', m', td', tm', n', d0', m0', m1', ms, rfl⟩
    case m1 => k_allIn
    case m2 => k_mem
    case m3 => exact allOk_cons (okT rfl (by decide)) (allOk_cons (okC dc0) (allOk_cons (okC db0) allOk_nil))
  case done =>
    clear d0 m0 m1
    rintro m₂ _ h5 tk5 ⟨d, mm, td, tm, nn, d0, m0, m1, ms, rfl⟩ F5 N5
    (try k_unfold)
    (try dsimp only)
    refine execs_step ?_; (show wpAny _ _ _ _ _ _); (try k_fold); k_steps
    unfold Halt
    refine use_A known_spec hh hg (by show A.depth + 1 + 2 < _; omega) (by show A.units + 3 + 100 < _; omega) F5 N5 G .done (fun _ _ _ h => nomatch h) ?_
    rintro v new h8 tk8 - ⟨rfl, rfl⟩ F8 N8
    simp only [List.nil_append] at N8
    clear F5 N5
    k_steps
    (try k_unfold)
    (try dsimp only)
    refine execs_cons_In ?_
    refine assign_tuple_In ?_ (by rfl) (by rfl)
    refine tuple2_In ?_
    (show wpAny _ _ _ _ _ _); k_fold; k_steps
    unfold Halt
    refine use_A bins_spec hh hg (by show A.depth + 1 + 2 < _; omega) (by show A.units + 3 + 11 < _; omega) F8 N8 G .done (fun _ _ _ h => nomatch h) ?_
    rintro v new h9 tk9 l9 ⟨bn, db, b0, b1, rfl, st, se, pa, pb, u0, u1, x0, x1, b2, b3, rfl⟩ F9 N9
    k_lt l9
    dsimp only at l9 b0
    obtain ⟨B, hB⟩ : ∃ B, B = h8.objs.size := ⟨_, rfl⟩
    rw [← hB] at l9 b0
    clear hB F8 N8
    simp only [List.cons_append, List.nil_append] at N9
    (try k_unfold)
    (try dsimp only)
    refine call_name_In ?_
    (show wpAny _ _ _ _ _ _); k_fold; k_steps
    (try k_unfold)
    (try dsimp only)
    refine callWith_In0 (Frag.In.keeps (by assumption) (Fr.keep (by assumption))) (by k_is) ?_
    refine use_I enc_spec hh hg (by show A.depth + 1 + 2 < _; omega) (by show A.units + 3 + 13 < _; omega) F9 N9 G .done (fun _ _ _ h => nomatch h) ?_
    rintro v new h10 tk10 l10 ⟨enc, de, e0, e1, rfl, fnd, ea, eb, ec, ed, ts, tc, tl, e2, rfl⟩ F10 N10
    k_lt l10
    dsimp only at l10 e0
    obtain ⟨B', hB'⟩ : ∃ B, B = h9.objs.size := ⟨_, rfl⟩
    rw [← hB'] at l10 e0
    clear hB' F9 N9
    simp only [List.cons_append, List.nil_append] at N10
    (try k_unfold)
    (try dsimp only)
    (show wpAny _ _ _ _ _ _); k_fold; k_steps
    rename News _ _ _ _ => N11
    rename Fr _ _ _ _ => F11
    rename (_ = Data.cell (some (Value.ref bn))) => db1
    rename Obj => ob2
    have N12 := News.pick (l := [(src, _), (bn, _), (db, _), (st, _), (se, _), (enc, _), (de, _), (fnd, _), (L + 1 + 1, _), (L + 1, _)]) N11 (by k_allIn)
    clear N11 db0
    have o1 : src < db ∧ db < bn ∧ bn < st ∧ st < se ∧ se < de ∧ de < enc ∧ enc < fnd := by
      clear hd hu hsz hlen d0 m0 m1 l1
      omega
    have l11 : @LT.lt Nat _ (L + 1 + 1) src ∧ @LT.lt Nat _ (L + 1) src := l2
    clear e0 e1 e2 b0 b1 b2 b3 l9 l10 l2
    refine execs_cons_In (For_In g (by rfl) (by rfl) ?_)
    (show wpAny _ _ _ _ _ _); k_fold; k_steps
    (try k_unfold)
    refine' LoopAtR.intro (n := 2) (fun i m nx => ∃ (d mm s0 s1 e0 e1 : Int) (td tm u0 u1 x0 x1 : Tok) (nn n k : Nat), 0 ≤ d ∧ 0 ≤ mm ∧ mm < 2147483647 ∧ (0 ≤ s0 ∧ s0 < 114) ∧ (0 ≤ s1 ∧ s1 < 114) ∧ (0 ≤ e0 ∧ e0 < 2) ∧ (0 ≤ e1 ∧ e1 < 2) ∧
      m (Str.ofString "source") = some (.ref src) ∧ m (Str.ofString "encoder") = some (.ref enc) ∧
      nx = [(src, listOf #[.int d td, .int mm tm] nn), (bn, instObj 147 db), (db, BinsD w.params pa pb st se), (st, listOf #[.int s0 u0, .int s1 u1] n), (se, listOf #[.int e0 x0, .int e1 x1] k),
        (enc, instObj 217 de), (de, EncD w.params ea eb ec ed (.int 65536 ts) (.int 0 tc) (.int 11 tl) fnd), (fnd, baOf #[]), (L + 1 + 1, oc), (L + 1, ob2)]) hh ?r ?n ?F ?N ?j ?turn ?done
    (case r => assumption)
    (case n => decide)
    (case F => assumption)
    (case N => assumption)
    (case j => exact ⟨d, mm, 0, 0, 0, 0, td, tm, _, _, _, _, nn, _, _, d0, m0, m1, by decide, by decide, by decide, by decide, ms, rfl, rfl⟩)
    case turn =>
      clear d0 m0 m1 ms
      rintro i t m₃ _ h5 tk5 I left hi2 ⟨d, mm, s0, s1, e0, e1, td, tm, u0, u1, x0, x1, nn, n, k, d0, m0, m1, hs0, hs1, he0, he1, ms, me, rfl⟩ hI F5 N5
      simp only [List.cons_append, List.nil_append] at N5
      have hI1 : @Ne Nat st I := hI _ (.tail _ (.tail _ (.tail _ (.head _))))
      have hI2 : @Ne Nat se I := hI _ (.tail _ (.tail _ (.tail _ (.tail _ (.head _)))))
      have hI0 : @Ne Nat src I := hI _ (.head _)
      clear hI
      obtain ⟨ai, hai⟩ : ∃ ai, ai = (i : Int) := ⟨_, rfl⟩
      rw [← hai] at F5 N5 ⊢
      have hai2 : ai = 0 ∨ ai = 1 := by omega
      clear hai
      refine execs_step ?_; (show wpAny _ _ _ _ _ _); k_fold; k_steps
      unfold Halt
      refine use_A (take_spec d0 m0 m1 (by decide) (by decide)) hh hg (by show A.depth + 1 + 1 < _; omega) (by show A.units + 3 + 8 < _; omega) F5 N5 G (.left .done) ?_ ?_
      · simp only [List.mem_cons, List.not_mem_nil, or_false]
        rintro p (rfl | rfl | rfl | rfl | rfl | rfl | rfl | rfl | rfl | rfl) q rfl <;> k_ne
      rintro v new h7 tk7 - ⟨r, d', m', t', td', tm', n', rfl, r0, r1, d0', m0', m1', rfl⟩ F7 N7
      simp only [List.cons_append, List.nil_append] at N7
      clear F5 N5
      k_steps
      unfold Halt
      refine use_A (take_spec d0' m0' m1' (by decide) (by decide)) hh hg (by show A.depth + 1 + 1 < _; omega) (by show A.units + 3 + 8 < _; omega) F7 N7 G (.left .done) ?_ ?_
      · simp only [List.mem_cons, List.not_mem_nil, or_false]
        rintro p (rfl | rfl | rfl | rfl | rfl | rfl | rfl | rfl | rfl | rfl) q rfl <;> k_ne
      rintro v new h8 tk8 - ⟨r', d2, m2, t2, td2, tm2, n2, rfl, r0', r1', d02, m02, m12, rfl⟩ F8 N8
      simp only [List.cons_append, List.nil_append] at N8
      clear F7 N7
      rcases hai2 with rfl | rfl
      all_goals k_steps
      all_goals (try dsimp only)
      all_goals (refine execs_nil_In ?_)
      all_goals (rename Fr _ _ _ _ => F9; rename News _ _ _ _ => N9)
      · refine' TurnEnd.intro _ F9 N9 ?m1 ?m2 (allOk_cons (okT rfl (by decide)) (allOk_cons (okR rfl) (allOk_cons (okT rfl (by decide)) (allOk_cons (okT rfl (by decide)) (allOk_cons (okT rfl (by decide)) (allOk_cons (okR rfl) (allOk_cons (okT rfl (by decide)) (allOk_cons (okT rfl (by decide)) (allOk_cons (okC dc0) (allOk_cons (okC db1) allOk_nil)))))))))) ⟨d2, m2, r, s1, r', e1, td2, tm2, _, _, _, _, n2, _, _, d02, m02, m12, ⟨r0, r1⟩, hs1, ⟨r0', r1'⟩, he1, ms, me, rfl⟩
        case m1 => k_allIn
        case m2 => k_mem
      · refine' TurnEnd.intro _ F9 N9 ?m3 ?m4 (allOk_cons (okT rfl (by decide)) (allOk_cons (okR rfl) (allOk_cons (okT rfl (by decide)) (allOk_cons (okT rfl (by decide)) (allOk_cons (okT rfl (by decide)) (allOk_cons (okR rfl) (allOk_cons (okT rfl (by decide)) (allOk_cons (okT rfl (by decide)) (allOk_cons (okC dc0) (allOk_cons (okC db1) allOk_nil)))))))))) ⟨d2, m2, s0, r, e0, r', td2, tm2, _, _, _, _, n2, _, _, d02, m02, m12, hs0, ⟨r0, r1⟩, he0, ⟨r0', r1'⟩, ms, me, rfl⟩
        case m3 => k_allIn
        case m4 => k_mem
    case done =>
      clear d0 m0 m1 ms
      rintro m₃ _ h5 tk5 ⟨d, mm, s0, s1, e0, e1, td, tm, u0, u1, x0, x1, nn, n, k, d0, m0, m1, hs0, hs1, he0, he1, ms, me, rfl⟩ F5 N5
      have F6 : Fr g L h5 m₃ := F5
      have N6 : News g L h5 _ := N5
      clear F5 N5
      (try k_unfold)
      (try dsimp only)
      refine execs_step ?_; (show wpAny _ _ _ _ _ _); (try k_fold)
      refine LCg.Assign_ListComp_U (F₀ := F6) (by rfl) (by with_unfolding_all rfl) (by with_unfolding_all rfl) (by decide) (by rfl) (by decide) (by rfl) (by rfl) (by rfl) ?_
      k_steps
      refine execs_step ?_; (show wpAny _ _ _ _ _ _); (try k_fold); k_steps
      (try k_unfold)
      (try dsimp only)
      repeat (rename ((_ ≠ _ ∧ _ ≠ _ ∧ _ ≠ _) ∧ _) => zz; clear zz)
      repeat (rename (_ ≠ _ ∧ _ ≠ _ ∧ _ ≠ _) => zz; clear zz)
      rename News _ _ _ _ => N19
      rename Fr _ _ _ _ => F19
      obtain ⟨a, σ, m₃, hA, hco, hcb, h, F20, N20⟩ := start_main F19 N19 d0 m0 m1 hs0 hs1 ms me rfl rfl rfl rfl rfl dc0 db1 o1.2.1 o1.2.2.1 o1.2.2.2.1 o1.2.2.2.2.1 o1.2.2.2.2.2.1 o1.2.2.2.2.2.2 (nodup_main (Nat.lt_succ_self _) l11.1 o1
        (by clear hd hu hsz hlen d0 m0 m1 hs0 hs1 he0 he1 o1; omega)
        (by clear hd hu hsz hlen d0 m0 m1 hs0 hs1 he0 he1 o1; omega)
        (by clear hd hu hsz hlen d0 m0 m1 hs0 hs1 he0 he1 o1; omega)
        (by clear hd hu hsz hlen d0 m0 m1 hs0 hs1 he0 he1 o1; omega) (by assumption))
      clear F19 N19 d0 m0 m1 hs0 hs1 he0 he1 ms me dc0 db1 o1 l11
      repeat (rename (_ ∧ _) => zz; clear zz)
      have nd := h.nd
      obtain ⟨src, bn, db, st, se, enc, de, fnd, ol, cl, co, cb, pa, pb, ea, eb, ec, ed, oc, ob⟩ := a
      dsimp only at hco hcb
      subst hco hcb
      obtain ⟨a1, a2, a3, a4, a5, a6, hoc, hob⟩ := hA
      dsimp only at a1 a2 a3 a4 a5 a6 hoc hob
      dsimp only [ledger] at N20
      have ms := h.ms
      dsimp only at ms
      refine execs_cons_In (For_In g (by rfl) (by rfl) ?_)
      (show wpAny _ _ _ _ _ _); k_fold; k_steps
      unfold Halt
      refine use_An (take_spec h.d0 h.m0 h.m1 (by decide) (by decide)) hh hg (by show A.depth + 1 + 1 < _; omega) (by show A.units + 3 + 8 < _; omega) F20 N20 G (.left .done) nd ?_
      rintro v new h6 tk6 - ⟨r, d', m', t', td', tm', n', rfl, r0, r1, d0', m0', m1', rfl⟩ F6 N6
      simp only [List.cons_append, List.nil_append] at N6
      clear F20 N20
      k_steps
      (try k_unfold)
      obtain ⟨many, hmany⟩ := Int.eq_ofNat_of_zero_le r0
      subst hmany
      refine' LoopAtR.intro (n := many) (MainJ w.params ⟨src, bn, db, st, se, enc, de, fnd, ol, cl, L + 1 + 1, L + 1, pa, pb, ea, eb, ec, ed, oc, ob⟩) hh ?r ?n ?F ?N ?j ?turn ?done
      (case r => assumption)
      (case n => omega)
      (case F => assumption)
      (case N => assumption)
      (case j => exact ⟨{ σ with d := d', mm := m', td := td', tm := tm', nn := n' }, { h with d0 := d0', m0 := m0', m1 := m1' }, rfl⟩)
      case turn =>
        clear d0' m0' m1' h nd ms
        rintro i t m₄ _ h7 tk7 I left hi ⟨σ, h, rfl⟩ hI F7 N7
        have nd := nodup_it (P := w.params) (σ := σ) (o := rangeIt ((i : Int) + 1) left) h.nd hI
        clear hI
        rw [ledger_it] at N7
        obtain ⟨rest1, hrest⟩ : ∃ rest1, rest1 = σ.rest ++ [(I, rangeIt ((i : Int) + 1) left)] := ⟨_, rfl⟩
        rw [← hrest] at N7 nd
        have hIr : (I, rangeIt ((i : Int) + 1) left) ∈ rest1 := by rw [hrest]; exact List.mem_append_right _ (.head _)
        have hsub : ∀ p ∈ σ.rest, p ∈ rest1 := fun p hp => by rw [hrest]; exact List.mem_append_left _ hp
        have hr1 : ∀ p ∈ rest1, p ∈ σ.rest ∨ p.1 = I := fun p hp => by
          rw [hrest] at hp
          exact (List.mem_append.mp hp).imp id fun e => by rw [List.mem_singleton.mp e]
        clear hrest
        obtain ⟨it, hit⟩ : ∃ it, it = rangeIt ((i : Int) + 1) left := ⟨_, rfl⟩
        have hni : ¬ OkIt it := fun h => h.ne hit
        rw [← hit] at hIr ⊢
        clear hit
        dsimp only [ledger] at N7
        replace F7 : Fr g L h7 _ := F7
        replace N7 : News g L h7 _ := N7
        have ms := h.ms
        have me := h.me
        have mo := h.mo
        have mc := h.mc
        have mb1 := h.mb
        have mz := h.mz
        have mp := h.mp
        dsimp only at ms me mo mc mb1 mz mp
        have r0 := hsub _ h.r0
        have r1 := hsub _ h.r1
        have s00 := h.s00
        have s01 := h.s01
        have s10 := h.s10
        have s11 := h.s11
        refine execs_step ?_; (show wpAny _ _ _ _ _ _); k_fold; k_steps
        unfold Halt
        refine use_An (take_spec h.d0 h.m0 h.m1 (by decide) (by decide)) hh hg (by show A.depth + 1 + 1 < _; omega) (by show A.units + 3 + 8 < _; omega) F7 N7 G (.left .done) nd ?_
        rintro v new h8 tk8 - ⟨at_, d', m', ta, td', tm', n', rfl, at0, at1, d0', m0', m1', rfl⟩ F8 N8
        simp only [List.cons_append, List.nil_append] at N8
        clear F7 N7
        k_steps
        unfold Halt
        refine use_An (take_spec d0' m0' m1' (by decide) (by decide)) hh hg (by show A.depth + 1 + 1 < _; omega) (by show A.units + 3 + 8 < _; omega) F8 N8 G (.left .done) nd ?_
        rintro v new h9 tk9 - ⟨bit, d2, m2, tb, td2, tm2, n2, rfl, b0, b1, d02, m02, m12, rfl⟩ F9 N9
        simp only [List.cons_append, List.nil_append] at N9
        clear F8 N8 d0' m0' m1'
        k_steps
        (try k_unfold)
        (try dsimp only)
        have hat : at_ = 0 ∨ at_ = 1 := by omega
        clear at0 at1
        rcases hat with rfl | rfl
        · refine execs_step ?_; (show wpAny _ _ _ _ _ _); (try k_fold); k_steps
          (try k_unfold)
          (try dsimp only)
          rename Fr _ _ _ _ => F10
          rename News _ _ _ _ => N10
          have N11 : News g L _ _ := fun p hp => N10 p (List.Mem.tail _ hp)
          clear N10
          refine execs_step ?_; (show wpAny _ _ _ _ _ _); (try k_fold); k_steps
          (try k_unfold)
          (try dsimp only)
          refine execs_step ?_; (show wpAny _ _ _ _ _ _); (try k_fold); k_steps
          unfold Halt
          rename Fr _ _ _ _ => F12
          rename News _ _ _ _ => N12
          rename IsTup _ _ _ => hrow
          obtain ⟨-, w0, w1, -⟩ := row_at w.params (j := σ.s0.toNat) (by omega)
          have sz := h.sz
          refine use_A (cut_spec (p := bit = σ.e0) (power := σ.power) w0 (by omega)) hh hg (by show A.depth + 1 + 1 < _; omega) (by show A.units + 3 + 10 < _; omega) F12 N12 G .done (fun _ _ _ h => nomatch h) ?_
          rintro v new h13 tk13 l13 ⟨r, base', size', power', t1, t2, t3, hr, rfl, nm, rfl⟩ F13 N13
          simp only [List.cons_append, List.nil_append] at N13
          clear F12 N12 hr l13
          k_steps
          (try k_unfold)
          (try dsimp only)
          rename Fr _ _ _ _ => F14
          rename News _ _ _ _ => N14
          have N15 : News g L _ (ledger w.params ⟨src, bn, db, st, se, enc, de, fnd, ol, cl, L + 1 + 1, L + 1, pa, pb, ea, eb, ec, ed, oc, ob⟩ { σ with d := d2, mm := m2, td := td2, tm := tm2, nn := n2 } rest1) := fun p hp => N14 p (List.Mem.tail _ hp)
          (try clear N13); (try clear N14); (try clear F13)
          repeat (rename (_ < _ ∧ _) => zz; clear zz)
          replace F14 : Fr g L _ _ := F14
          refine fr_gen F14 fun m₅ hm₅ F15 => ?_
          have g1 : m₅ (Str.ofString "at") = some (.int 0 ta) := by rw [hm₅]; rfl
          have g2 : m₅ (Str.ofString "bit") = some (.int bit tb) := by rw [hm₅]; rfl
          have g3 : m₅ (Str.ofString "number") = some (.int σ.s0 σ.y0) := by rw [hm₅]; rfl
          have g4 : m₅ (Str.ofString "sense") = some (.int σ.e0 σ.z0) := by rw [hm₅]; rfl
          obtain ⟨tr, g5⟩ : ∃ tr, m₅ (Str.ofString "rest") = some (.int (σ.size - rowI w.params σ.s0.toNat 0) tr) := ⟨_, by rw [hm₅]; rfl⟩
          have g6 : m₅ (Str.ofString "base") = some (.int base' t1) := by rw [hm₅]; rfl
          have g7 : m₅ (Str.ofString "size") = some (.int size' t2) := by rw [hm₅]; rfl
          have g8 : m₅ (Str.ofString "power") = some (.int (power' : Int) t3) := by rw [hm₅]; rfl
          have g9 : m₅ (Str.ofString "source") = some (.ref src) := by rw [hm₅]; exact ms
          have g10 : m₅ (Str.ofString "encoder") = some (.ref enc) := by rw [hm₅]; exact me
          have g11 : m₅ (Str.ofString "own") = some (.ref ol) := by rw [hm₅]; exact mo
          have g12 : m₅ (Str.ofString "cuts") = some (.ref cl) := by rw [hm₅]; exact mc
          clear hm₅ F14 ms me mo mc mb1 mz mp
          repeat (rename IsTup _ _ _ => zz; clear zz)
          refine execs_step (wpAny_mono (Q := Own5 s g L m₅ w.params ⟨src, bn, db, st, se, enc, de, fnd, ol, cl, L + 1 + 1, L + 1, pa, pb, ea, eb, ec, ed, oc, ob⟩ (fun q no => { σ with d := d2, mm := m2, td := td2, tm := tm2, nn := n2, q0 := q, no := no }) rest1 (nxS w.params σ.s0 σ.e0 bit σ.size) (nxE w.params σ.s0 σ.e0 bit)) ?walk5 (fun f s' h5 => ?cont5) fun _ _ x => x)
          case walk5 =>
            dsimp only [ledger] at N15
            (show wpAny _ _ _ _ _ _); (try k_fold); k_steps
            · rename_i hb5
              unfold Halt
              refine use_A (later_spec s00 s01) hh hg (by show A.depth + 1 + 1 < _; omega) (by show A.units + 3 + 8 < _; omega) F15 N15 G .done (fun _ _ _ h => nomatch h) ?_
              rintro v new h16 tk16 l16 ⟨r5, t5, t6, hr5, rfl, rfl⟩ F16 N16
              simp only [List.cons_append, List.nil_append] at N16
              have N17 : News g L _ (ledger w.params ⟨src, bn, db, st, se, enc, de, fnd, ol, cl, L + 1 + 1, L + 1, pa, pb, ea, eb, ec, ed, oc, ob⟩ { σ with d := d2, mm := m2, td := td2, tm := tm2, nn := n2 } ((r5, _) :: rest1)) := News.pick N16 ledger_more
              have nd2 := nodup_more (o := tupO [.int (laS w.params σ.s0 σ.e0 bit) t5, .int (nxE w.params σ.s0 σ.e0 bit) t6]) nd (fresh_addrs (P := w.params) (σ := { σ with d := d2, mm := m2, td := td2, tm := tm2, nn := n2 }) l16 (Nat.le_of_lt hr5))
              clear l16 hr5 N16
              dsimp only [ledger] at N17
              k_steps
              exact Own5.intro r5 _ _ (by assumption) (by assumption) (by rw [nx_ne hb5]; exact .head _) (fun p hp => .tail _ hp) nd2 (fun p hp => (List.mem_cons.mp hp).elim (fun e => .inr (e ▸ okT rfl (by decide))) .inl)
            · rename_i hb5 hr5a
              unfold Halt
              refine use_A (later_spec s00 s01) hh hg (by show A.depth + 1 + 1 < _; omega) (by show A.units + 3 + 8 < _; omega) F15 N15 G .done (fun _ _ _ h => nomatch h) ?_
              rintro v new h16 tk16 l16 ⟨r5, t5, t6, hr5, rfl, rfl⟩ F16 N16
              simp only [List.cons_append, List.nil_append] at N16
              have N17 : News g L _ (ledger w.params ⟨src, bn, db, st, se, enc, de, fnd, ol, cl, L + 1 + 1, L + 1, pa, pb, ea, eb, ec, ed, oc, ob⟩ { σ with d := d2, mm := m2, td := td2, tm := tm2, nn := n2 } ((r5, _) :: rest1)) := News.pick N16 ledger_more
              have nd2 := nodup_more (o := tupO [.int (laS w.params σ.s0 σ.e0 bit) t5, .int (nxE w.params σ.s0 σ.e0 bit) t6]) nd (fresh_addrs (P := w.params) (σ := { σ with d := d2, mm := m2, td := td2, tm := tm2, nn := n2 }) l16 (Nat.le_of_lt hr5))
              clear l16 hr5 N16
              dsimp only [ledger] at N17
              k_steps
              exact Own5.intro r5 _ _ (by assumption) (by assumption) (by rw [nx_eq hb5 hr5a]; exact .head _) (fun p hp => .tail _ hp) nd2 (fun p hp => (List.mem_cons.mp hp).elim (fun e => .inr (e ▸ okT rfl (by decide))) .inl)
            · rename_i hb5 hr5a
              have hst := nx_stay (P := w.params) (j := σ.s0) (size := σ.size) hb5 (by omega)
              exact Own5.intro σ.q0 rest1 σ.no F15 N15 (by rw [hst.1, hst.2]; exact r0) (fun _ h => h) nd (fun _ h => .inl h)
          case cont5 =>
            clear F15 N15
            obtain ⟨rfl, h16, tk16, q, rest2, y, z, no', rfl, F16, N16, hq, hs2, nd2, ok2⟩ := h5
            dsimp only
            dsimp only [ledger] at N16
            have hIr2 := hs2 _ hIr
            refine' execs_cons_In (expr_In (method_In ?_ (by rfl)) (by rfl) (by rfl))
            (show wpAny _ _ _ _ _ _); (try k_fold); k_steps
            (try k_unfold)
            (try dsimp only)
            refine callWith_InS (K := Mine.hd.heap_39 w.params) (by k_is) ?_
            (show wpAny _ _ _ _ _ _); (try k_fold); k_steps
            all_goals (try k_unfold)
            all_goals (try dsimp only)
            have pw1 : σ.power ≤ 1000 := by have := h.pw; omega
            refine use_In (put_spec (s0 := σ.s0) (s1 := σ.s1) (e0 := σ.e0) (e1 := σ.e1) (base := σ.base) (power := σ.power) a1 a2 a3 a4 a5 a6 (.inl rfl) s00 s01 s10 s11 h.ei sz pw1) hh hg (by show A.depth + 1 + 3 < _; omega) (by show A.units + 3 + 36 < _; omega) F16 N16 G (.right (.left (.left (.left (.left (.left (.left (.left .done)))))))) nd2 ?_
            rintro v new h20 tk20 - ⟨rfl, base2, size2, code2, power2, l2, bs2, t7, t8, t9, v0, v1, y2, y3, n6, k6, nm2, ei2, rfl⟩ F20 N20
            simp only [if_true] at nm2 N20
            obtain ⟨q1, q2, q3⟩ := Norm.unique (cutS_pos w0 (by omega)) nm nm2
            subst q1 q2 q3
            have N21 : News g L _ (ledger w.params ⟨src, bn, db, st, se, enc, de, fnd, ol, cl, L + 1 + 1, L + 1, pa, pb, ea, eb, ec, ed, oc, ob⟩ { σ with d := d2, mm := m2, td := td2, tm := tm2, nn := n2, s0 := nxS w.params σ.s0 σ.e0 bit σ.size, e0 := nxE w.params σ.s0 σ.e0 bit, base := base', size := size', code := code2, power := power', l := l2, bs := bs2, u0 := v0, u1 := v1, x0 := y2, x1 := y3, n := n6, k := k6, ts := t7, tc := t8, tl := t9, q0 := q, no := no', y0 := y, z0 := z, tb := t1, tz := t2, tp := t3 } rest2) := News.pick N20 (fun p hp => List.perm_middle.mem_iff.mpr hp)
            clear N20 F16 N16 nm2
            refine ⟨rfl, ?_⟩
            dsimp only [ledger] at N21
            have zz0 : 32768 ≤ size' := by obtain ⟨_, _, _, _, h, _⟩ := nm; exact h
            have zz1 : size' ≤ 65536 := ei2.s1
            refine execs_step ?_; (show wpAny _ _ _ _ _ _); (try k_fold); k_steps
            · exfalso; omega
            (try k_unfold)
            (try dsimp only)
            refine execs_step ?_; (show wpAny _ _ _ _ _ _); (try k_fold); k_steps
            (try k_unfold)
            (try dsimp only)
            refine execs_step ?_; (show wpAny _ _ _ _ _ _); (try k_fold); k_steps
            unfold Halt
            rename Fr _ _ _ _ => F25
            rename News _ _ _ _ => N25
            rename (_ < _ ∧ _) => lD
            obtain ⟨-, lD⟩ := lD
            have hfr := fresh_allLt (P := w.params) (a := ⟨src, bn, db, st, se, enc, de, fnd, ol, cl, L + 1 + 1, L + 1, pa, pb, ea, eb, ec, ed, oc, ob⟩) (σ := { σ with d := d2, mm := m2, td := td2, tm := tm2, nn := n2, s0 := nxS w.params σ.s0 σ.e0 bit σ.size, e0 := nxE w.params σ.s0 σ.e0 bit, base := base', size := size', code := code2, power := power', l := l2, bs := bs2, u0 := v0, u1 := v1, x0 := y2, x1 := y3, n := n6, k := k6, ts := t7, tc := t8, tl := t9, q0 := q, no := no', y0 := y, z0 := z, tb := t1, tz := t2, tp := t3 }) (rest := rest2) lD
            have nd3 := nodup_more (o := tupO [.int base' t1, .int size' t2, .int (power' : Int) t3]) nd2 hfr
            have N26 := News.pick (l := ledger w.params ⟨src, bn, db, st, se, enc, de, fnd, ol, cl, L + 1 + 1, L + 1, pa, pb, ea, eb, ec, ed, oc, ob⟩ { σ with d := d2, mm := m2, td := td2, tm := tm2, nn := n2, s0 := nxS w.params σ.s0 σ.e0 bit σ.size, e0 := nxE w.params σ.s0 σ.e0 bit, base := base', size := size', code := code2, power := power', l := l2, bs := bs2, u0 := v0, u1 := v1, x0 := y2, x1 := y3, n := n6, k := k6, ts := t7, tc := t8, tl := t9, q0 := q, no := no', y0 := y, z0 := z, tb := t1, tz := t2, tp := t3 } ((_, tupO [.int base' t1, .int size' t2, .int (power' : Int) t3]) :: rest2)) N25 (fun p hp => (List.mem_cons.mp (ledger_more p hp)).elim (fun e => e ▸ .head _) fun e => .tail _ (.tail _ e))
            clear N25 lD hfr
            dsimp only [ledger] at N26
            refine append_K F25 N26 (upd_nd [_, _, _, _, _, _, _, _, _] nd3) ?_ ?size
            case size =>
              rw [List.size_toArray, List.length_map, h.rl, sizeLine_eq]
              omega
            intro h27 F27 N27
            (try k_unfold)
            (try dsimp only)
            refine execs_nil_In ?_
            rw [push_refs] at N27
            refine' turn_end (σ := { σ with d := d2, mm := m2, td := td2, tm := tm2, nn := n2, s0 := nxS w.params σ.s0 σ.e0 bit σ.size, e0 := nxE w.params σ.s0 σ.e0 bit, base := base', size := size', code := code2, power := power', l := l2, bs := bs2, u0 := v0, u1 := v1, x0 := y2, x1 := y3, n := n6, k := k6, ts := t7, tc := t8, tl := t9, q0 := q, no := no', y0 := y, z0 := z, tb := t1, tz := t2, tp := t3, refs := σ.refs ++ [_], nc := σ.nc + 1 }) (restN := (_, tupO [.int base' t1, .int size' t2, .int (power' : Int) t3]) :: rest2) F27 N27 (.tail _ hIr2) hni
              (fun p hp => (List.mem_cons.mp hp).elim (fun e => .inl (e ▸ okT rfl (by decide))) (fun hp => (ok2 p hp).elim (fun h1 => (hr1 p h1).elim (fun h2 => .inl (h.ok p h2)) .inr) .inl)) nd3 (okC hoc) (okC hob) ?main
            intro rf hin hok hnd
            have pw2 : power' ≤ 16 * (i + 1) := by
              have q1 := norm_power nm (cutS_pos w0 (by omega)) zz1
              have q2 := h.pw
              omega
            refine MainOk.mk d02 m02 m12 (nxS_bnd s00 s01).1 (nxS_bnd s00 s01).2 s10 s11 g9 g10 g11 g12 g6 g7 g8 ei2 zz0 pw2 ?rl (hin _ (.tail _ hq) (okT rfl (by decide))) (hin _ (.tail _ (hs2 _ r1)) (okT rfl (by decide))) (fun x hx => ?cuts) hok hnd
            case rl =>
              show (σ.refs ++ [_]).length = i + 1
              rw [List.length_append, h.rl]
              rfl
            case cuts =>
              rcases List.mem_append.mp hx with hx | hx
              · obtain ⟨b, z, p, t1', t2', t3', hm, hc⟩ := h.cuts x hx
                exact ⟨b, z, p, _, _, _, hin _ (.tail _ (hs2 _ (hsub _ hm))) (okT rfl (by decide)), hc.step nm (Int.le_of_lt w0) (by omega)⟩
              · obtain rfl := List.mem_singleton.mp hx
                exact ⟨base', size', power', t1, t2, t3, hin _ (.head _) (okT rfl (by decide)), CutOk.self ei2.base0 (by omega) ei2.bnd⟩
        · refine execs_step ?_; (show wpAny _ _ _ _ _ _); (try k_fold); k_steps
          (try k_unfold)
          (try dsimp only)
          rename Fr _ _ _ _ => F10
          rename News _ _ _ _ => N10
          have N11 : News g L _ _ := fun p hp => N10 p (List.Mem.tail _ hp)
          clear N10
          refine execs_step ?_; (show wpAny _ _ _ _ _ _); (try k_fold); k_steps
          (try k_unfold)
          (try dsimp only)
          refine execs_step ?_; (show wpAny _ _ _ _ _ _); (try k_fold); k_steps
          unfold Halt
          rename Fr _ _ _ _ => F12
          rename News _ _ _ _ => N12
          rename IsTup _ _ _ => hrow
          obtain ⟨-, w0, w1, -⟩ := row_at w.params (j := σ.s1.toNat) (by omega)
          have sz := h.sz
          refine use_A (cut_spec (p := bit = σ.e1) (power := σ.power) w0 (by omega)) hh hg (by show A.depth + 1 + 1 < _; omega) (by show A.units + 3 + 10 < _; omega) F12 N12 G .done (fun _ _ _ h => nomatch h) ?_
          rintro v new h13 tk13 l13 ⟨r, base', size', power', t1, t2, t3, hr, rfl, nm, rfl⟩ F13 N13
          simp only [List.cons_append, List.nil_append] at N13
          clear F12 N12 hr l13
          k_steps
          (try k_unfold)
          (try dsimp only)
          rename Fr _ _ _ _ => F14
          rename News _ _ _ _ => N14
          have N15 : News g L _ (ledger w.params ⟨src, bn, db, st, se, enc, de, fnd, ol, cl, L + 1 + 1, L + 1, pa, pb, ea, eb, ec, ed, oc, ob⟩ { σ with d := d2, mm := m2, td := td2, tm := tm2, nn := n2 } rest1) := fun p hp => N14 p (List.Mem.tail _ hp)
          (try clear N13); (try clear N14); (try clear F13)
          repeat (rename (_ < _ ∧ _) => zz; clear zz)
          replace F14 : Fr g L _ _ := F14
          refine fr_gen F14 fun m₅ hm₅ F15 => ?_
          have g1 : m₅ (Str.ofString "at") = some (.int 1 ta) := by rw [hm₅]; rfl
          have g2 : m₅ (Str.ofString "bit") = some (.int bit tb) := by rw [hm₅]; rfl
          have g3 : m₅ (Str.ofString "number") = some (.int σ.s1 σ.y1) := by rw [hm₅]; rfl
          have g4 : m₅ (Str.ofString "sense") = some (.int σ.e1 σ.z1) := by rw [hm₅]; rfl
          obtain ⟨tr, g5⟩ : ∃ tr, m₅ (Str.ofString "rest") = some (.int (σ.size - rowI w.params σ.s1.toNat 0) tr) := ⟨_, by rw [hm₅]; rfl⟩
          have g6 : m₅ (Str.ofString "base") = some (.int base' t1) := by rw [hm₅]; rfl
          have g7 : m₅ (Str.ofString "size") = some (.int size' t2) := by rw [hm₅]; rfl
          have g8 : m₅ (Str.ofString "power") = some (.int (power' : Int) t3) := by rw [hm₅]; rfl
          have g9 : m₅ (Str.ofString "source") = some (.ref src) := by rw [hm₅]; exact ms
          have g10 : m₅ (Str.ofString "encoder") = some (.ref enc) := by rw [hm₅]; exact me
          have g11 : m₅ (Str.ofString "own") = some (.ref ol) := by rw [hm₅]; exact mo
          have g12 : m₅ (Str.ofString "cuts") = some (.ref cl) := by rw [hm₅]; exact mc
          clear hm₅ F14 ms me mo mc mb1 mz mp
          repeat (rename IsTup _ _ _ => zz; clear zz)
          refine execs_step (wpAny_mono (Q := Own5 s g L m₅ w.params ⟨src, bn, db, st, se, enc, de, fnd, ol, cl, L + 1 + 1, L + 1, pa, pb, ea, eb, ec, ed, oc, ob⟩ (fun q no => { σ with d := d2, mm := m2, td := td2, tm := tm2, nn := n2, q1 := q, no := no }) rest1 (nxS w.params σ.s1 σ.e1 bit σ.size) (nxE w.params σ.s1 σ.e1 bit)) ?walk56 (fun f s' h5 => ?cont56) fun _ _ x => x)
          case walk56 =>
            dsimp only [ledger] at N15
            (show wpAny _ _ _ _ _ _); (try k_fold); k_steps
            · rename_i hb5
              unfold Halt
              refine use_A (later_spec s10 s11) hh hg (by show A.depth + 1 + 1 < _; omega) (by show A.units + 3 + 8 < _; omega) F15 N15 G .done (fun _ _ _ h => nomatch h) ?_
              rintro v new h16 tk16 l16 ⟨r5, t5, t6, hr5, rfl, rfl⟩ F16 N16
              simp only [List.cons_append, List.nil_append] at N16
              have N17 : News g L _ (ledger w.params ⟨src, bn, db, st, se, enc, de, fnd, ol, cl, L + 1 + 1, L + 1, pa, pb, ea, eb, ec, ed, oc, ob⟩ { σ with d := d2, mm := m2, td := td2, tm := tm2, nn := n2 } ((r5, _) :: rest1)) := News.pick N16 ledger_more
              have nd2 := nodup_more (o := tupO [.int (laS w.params σ.s1 σ.e1 bit) t5, .int (nxE w.params σ.s1 σ.e1 bit) t6]) nd (fresh_addrs (P := w.params) (σ := { σ with d := d2, mm := m2, td := td2, tm := tm2, nn := n2 }) l16 (Nat.le_of_lt hr5))
              clear l16 hr5 N16
              dsimp only [ledger] at N17
              k_steps
              exact Own5.intro r5 _ _ (by assumption) (by assumption) (by rw [nx_ne hb5]; exact .head _) (fun p hp => .tail _ hp) nd2 (fun p hp => (List.mem_cons.mp hp).elim (fun e => .inr (e ▸ okT rfl (by decide))) .inl)
            · rename_i hb5 hr5a
              unfold Halt
              refine use_A (later_spec s10 s11) hh hg (by show A.depth + 1 + 1 < _; omega) (by show A.units + 3 + 8 < _; omega) F15 N15 G .done (fun _ _ _ h => nomatch h) ?_
              rintro v new h16 tk16 l16 ⟨r5, t5, t6, hr5, rfl, rfl⟩ F16 N16
              simp only [List.cons_append, List.nil_append] at N16
              have N17 : News g L _ (ledger w.params ⟨src, bn, db, st, se, enc, de, fnd, ol, cl, L + 1 + 1, L + 1, pa, pb, ea, eb, ec, ed, oc, ob⟩ { σ with d := d2, mm := m2, td := td2, tm := tm2, nn := n2 } ((r5, _) :: rest1)) := News.pick N16 ledger_more
              have nd2 := nodup_more (o := tupO [.int (laS w.params σ.s1 σ.e1 bit) t5, .int (nxE w.params σ.s1 σ.e1 bit) t6]) nd (fresh_addrs (P := w.params) (σ := { σ with d := d2, mm := m2, td := td2, tm := tm2, nn := n2 }) l16 (Nat.le_of_lt hr5))
              clear l16 hr5 N16
              dsimp only [ledger] at N17
              k_steps
              exact Own5.intro r5 _ _ (by assumption) (by assumption) (by rw [nx_eq hb5 hr5a]; exact .head _) (fun p hp => .tail _ hp) nd2 (fun p hp => (List.mem_cons.mp hp).elim (fun e => .inr (e ▸ okT rfl (by decide))) .inl)
            · rename_i hb5 hr5a
              have hst := nx_stay (P := w.params) (j := σ.s1) (size := σ.size) hb5 (by omega)
              exact Own5.intro σ.q1 rest1 σ.no F15 N15 (by rw [hst.1, hst.2]; exact r1) (fun _ h => h) nd (fun _ h => .inl h)
          case cont56 =>
            clear F15 N15
            obtain ⟨rfl, h16, tk16, q, rest2, y, z, no', rfl, F16, N16, hq, hs2, nd2, ok2⟩ := h5
            dsimp only
            dsimp only [ledger] at N16
            have hIr2 := hs2 _ hIr
            refine' execs_cons_In (expr_In (method_In ?_ (by rfl)) (by rfl) (by rfl))
            (show wpAny _ _ _ _ _ _); (try k_fold); k_steps
            (try k_unfold)
            (try dsimp only)
            refine callWith_InS (K := Mine.hd.heap_39 w.params) (by k_is) ?_
            (show wpAny _ _ _ _ _ _); (try k_fold); k_steps
            all_goals (try k_unfold)
            all_goals (try dsimp only)
            have pw1 : σ.power ≤ 1000 := by have := h.pw; omega
            refine use_In (put_spec (s0 := σ.s0) (s1 := σ.s1) (e0 := σ.e0) (e1 := σ.e1) (base := σ.base) (power := σ.power) a1 a2 a3 a4 a5 a6 (.inr rfl) s00 s01 s10 s11 h.ei sz pw1) hh hg (by show A.depth + 1 + 3 < _; omega) (by show A.units + 3 + 36 < _; omega) F16 N16 G (.right (.left (.left (.left (.left (.left (.left (.left .done)))))))) nd2 ?_
            rintro v new h20 tk20 - ⟨rfl, base2, size2, code2, power2, l2, bs2, t7, t8, t9, v0, v1, y2, y3, n6, k6, nm2, ei2, rfl⟩ F20 N20
            simp only [one0, if_false] at nm2 N20
            obtain ⟨q1, q2, q3⟩ := Norm.unique (cutS_pos w0 (by omega)) nm nm2
            subst q1 q2 q3
            have N21 : News g L _ (ledger w.params ⟨src, bn, db, st, se, enc, de, fnd, ol, cl, L + 1 + 1, L + 1, pa, pb, ea, eb, ec, ed, oc, ob⟩ { σ with d := d2, mm := m2, td := td2, tm := tm2, nn := n2, s1 := nxS w.params σ.s1 σ.e1 bit σ.size, e1 := nxE w.params σ.s1 σ.e1 bit, base := base', size := size', code := code2, power := power', l := l2, bs := bs2, u0 := v0, u1 := v1, x0 := y2, x1 := y3, n := n6, k := k6, ts := t7, tc := t8, tl := t9, q1 := q, no := no', y1 := y, z1 := z, tb := t1, tz := t2, tp := t3 } rest2) := News.pick N20 (fun p hp => List.perm_middle.mem_iff.mpr hp)
            clear N20 F16 N16 nm2
            refine ⟨rfl, ?_⟩
            dsimp only [ledger] at N21
            have zz0 : 32768 ≤ size' := by obtain ⟨_, _, _, _, h, _⟩ := nm; exact h
            have zz1 : size' ≤ 65536 := ei2.s1
            refine execs_step ?_; (show wpAny _ _ _ _ _ _); (try k_fold); k_steps
            · exfalso; omega
            (try k_unfold)
            (try dsimp only)
            refine execs_step ?_; (show wpAny _ _ _ _ _ _); (try k_fold); k_steps
            (try k_unfold)
            (try dsimp only)
            refine execs_step ?_; (show wpAny _ _ _ _ _ _); (try k_fold); k_steps
            unfold Halt
            rename Fr _ _ _ _ => F25
            rename News _ _ _ _ => N25
            rename (_ < _ ∧ _) => lD
            obtain ⟨-, lD⟩ := lD
            have hfr := fresh_allLt (P := w.params) (a := ⟨src, bn, db, st, se, enc, de, fnd, ol, cl, L + 1 + 1, L + 1, pa, pb, ea, eb, ec, ed, oc, ob⟩) (σ := { σ with d := d2, mm := m2, td := td2, tm := tm2, nn := n2, s1 := nxS w.params σ.s1 σ.e1 bit σ.size, e1 := nxE w.params σ.s1 σ.e1 bit, base := base', size := size', code := code2, power := power', l := l2, bs := bs2, u0 := v0, u1 := v1, x0 := y2, x1 := y3, n := n6, k := k6, ts := t7, tc := t8, tl := t9, q1 := q, no := no', y1 := y, z1 := z, tb := t1, tz := t2, tp := t3 }) (rest := rest2) lD
            have nd3 := nodup_more (o := tupO [.int base' t1, .int size' t2, .int (power' : Int) t3]) nd2 hfr
            have N26 := News.pick (l := ledger w.params ⟨src, bn, db, st, se, enc, de, fnd, ol, cl, L + 1 + 1, L + 1, pa, pb, ea, eb, ec, ed, oc, ob⟩ { σ with d := d2, mm := m2, td := td2, tm := tm2, nn := n2, s1 := nxS w.params σ.s1 σ.e1 bit σ.size, e1 := nxE w.params σ.s1 σ.e1 bit, base := base', size := size', code := code2, power := power', l := l2, bs := bs2, u0 := v0, u1 := v1, x0 := y2, x1 := y3, n := n6, k := k6, ts := t7, tc := t8, tl := t9, q1 := q, no := no', y1 := y, z1 := z, tb := t1, tz := t2, tp := t3 } ((_, tupO [.int base' t1, .int size' t2, .int (power' : Int) t3]) :: rest2)) N25 (fun p hp => (List.mem_cons.mp (ledger_more p hp)).elim (fun e => e ▸ .head _) fun e => .tail _ (.tail _ e))
            clear N25 lD hfr
            dsimp only [ledger] at N26
            refine append_K F25 N26 (upd_nd [_, _, _, _, _, _, _, _, _] nd3) ?_ ?size6
            case size6 =>
              rw [List.size_toArray, List.length_map, h.rl, sizeLine_eq]
              omega
            intro h27 F27 N27
            (try k_unfold)
            (try dsimp only)
            refine execs_nil_In ?_
            rw [push_refs] at N27
            refine' turn_end (σ := { σ with d := d2, mm := m2, td := td2, tm := tm2, nn := n2, s1 := nxS w.params σ.s1 σ.e1 bit σ.size, e1 := nxE w.params σ.s1 σ.e1 bit, base := base', size := size', code := code2, power := power', l := l2, bs := bs2, u0 := v0, u1 := v1, x0 := y2, x1 := y3, n := n6, k := k6, ts := t7, tc := t8, tl := t9, q1 := q, no := no', y1 := y, z1 := z, tb := t1, tz := t2, tp := t3, refs := σ.refs ++ [_], nc := σ.nc + 1 }) (restN := (_, tupO [.int base' t1, .int size' t2, .int (power' : Int) t3]) :: rest2) F27 N27 (.tail _ hIr2) hni
              (fun p hp => (List.mem_cons.mp hp).elim (fun e => .inl (e ▸ okT rfl (by decide))) (fun hp => (ok2 p hp).elim (fun h1 => (hr1 p h1).elim (fun h2 => .inl (h.ok p h2)) .inr) .inl)) nd3 (okC hoc) (okC hob) ?main6
            intro rf hin hok hnd
            have pw2 : power' ≤ 16 * (i + 1) := by
              have q1 := norm_power nm (cutS_pos w0 (by omega)) zz1
              have q2 := h.pw
              omega
            refine MainOk.mk d02 m02 m12 s00 s01 (nxS_bnd s10 s11).1 (nxS_bnd s10 s11).2 g9 g10 g11 g12 g6 g7 g8 ei2 zz0 pw2 ?rl6 (hin _ (.tail _ (hs2 _ r0)) (okT rfl (by decide))) (hin _ (.tail _ hq) (okT rfl (by decide))) (fun x hx => ?cuts6) hok hnd
            case rl6 =>
              show (σ.refs ++ [_]).length = i + 1
              rw [List.length_append, h.rl]
              rfl
            case cuts6 =>
              rcases List.mem_append.mp hx with hx | hx
              · obtain ⟨b, z, p, t1', t2', t3', hm, hc⟩ := h.cuts x hx
                exact ⟨b, z, p, _, _, _, hin _ (.tail _ (hs2 _ (hsub _ hm))) (okT rfl (by decide)), hc.step nm (Int.le_of_lt w0) (by omega)⟩
              · obtain rfl := List.mem_singleton.mp hx
                exact ⟨base', size', power', t1, t2, t3, hin _ (.head _) (okT rfl (by decide)), CutOk.self ei2.base0 (by omega) ei2.bnd⟩
      case done =>
        clear d0' m0' m1' h nd ms
        rintro m₄ _ h7 tk7 ⟨σ, h, rfl⟩ F7 N7
        dsimp only [ledger] at N7
        replace F7 : Fr g L h7 _ := F7
        replace N7 : News g L h7 _ := N7
        have nd := h.nd
        have ms := h.ms
        have me := h.me
        have mo := h.mo
        have mc := h.mc
        dsimp only at ms me mo mc
        have pw1 : σ.power ≤ 1000 := by have := h.pw; omega
        dsimp only
        refine execs_cons_In (assign_name_In ?_ rfl)
        refine method_In ?_ (by rfl)
        (show wpAny _ _ _ _ _ _); (try k_fold); k_steps
        (try k_unfold)
        (try dsimp only)
        refine callWith_In0 (Frag.In.keeps (by assumption) (Fr.keep (by assumption))) (by k_is) ?_
        refine use_In (finish_spec a5 a6 h.ei h.sz pw1) hh hg (by show A.depth + 1 + 2 < _; omega) (by show A.units + 3 + 30 < _; omega) F7 N7 G (.right (.right (.right (.right (.right (.left (.left (.left .done)))))))) nd ?_
        rintro v new h9 tk9 - ⟨bs', tby, rfl, hz, h8, lo, hi2, rfl⟩ F9 N9
        simp only [List.nil_append] at N9
        clear F7 N7
        have nd9 : (src :: bn :: db :: st :: se :: ol :: cl :: (L + 1 + 1) :: (L + 1) :: σ.rest.map (·.1)).Nodup := List.Nodup.sublist (by
          dsimp only [addrs]
          repeat (first | exact List.Sublist.refl _ | refine List.Sublist.cons_cons _ ?_ | refine List.Sublist.cons _ ?_)) nd
        refine storeX_C F9 N9 (by rfl) (updF_nd [_, _, _, _, _, _, _] nd9) hoc ?_ (by rfl) (by rfl)
        intro h10 oc2 F10 N10 hoc2
        simp only [List.cons_append, List.nil_append] at N10
        clear F9 N9
        refine execs_step ?_; (show wpAny _ _ _ _ _ _); (try k_fold); k_steps
        unfold Halt
        refine comp_none F10 (by with_unfolding_all rfl) (by decide) (by rfl) (by decide) (by rfl) ?_
        k_steps
        (try k_unfold)
        refine' none_list ?hh F10 N10 ?m ?sz ?test ?fin
        (case hh => exact hh)
        (case m => k_mem)
        case sz =>
          rw [List.size_toArray, List.length_map, h.rl, sizeLine_eq]
          omega
        case test =>
          intro C v oC m₃ s₃ E' hv hns hm F3 N3 hst3
          simp only [List.mem_map] at hv
          obtain ⟨x, hx, rfl⟩ := hv
          obtain ⟨b, z, p, t1, t2, t3, hxm, hc⟩ := h.cuts x hx
          clear F10 N10
          (show wpAny _ _ _ _ _ _); k_fold
          k_steps
          unfold Halt
          refine wpAny_call (within_spec hz (Nat.le_trans hc.le pw1) hc.b0 hc.z0 hc.bz (hc.inside h8 lo hi2) mean mg mb _ s₃.heap _ _ hh hg (by show A.depth + 1 + 1 < _; omega) (by show A.units + 3 + 20 < _; omega) (G.keeps F3.keep) (fun _ _ e => e) (Nat.le_refl _) (fun _ h => nomatch h) ?_)
          rintro v new h' tk' ⟨rfl, rfl⟩ k ap
          clear F3 N3
          (try dsimp only)
          k_steps
          (try k_unfold)
          first | exact ⟨rfl, _, _, rfl, k⟩ | exact ⟨_, _, rfl, k⟩
        case fin =>
          intro D c h12 tk12 F12 N12 ne12
          clear F10 N10
          (try dsimp only)
          k_fold
          k_steps
          exact hR _ _ (Fr.keep (by assumption))

end Mine
end

theorem PySem.Challenge.cw_nt0545_01_holds : PySem.Challenge.rw_nt0545_01.Holds := by
  exact Mine.join Mine.law_main
