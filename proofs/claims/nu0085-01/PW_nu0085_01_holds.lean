import PyProof.Rows.All
import Wide.All
import OpenK.AllK
import Wide.FinOn
import PySem.Challenge.RW_nu0085_01
set_option Elab.async false
set_option maxRecDepth 100000
set_option maxHeartbeats 8000000
set_option linter.all false
local macro_rules | `(tactic| omega) => `(tactic| lia)
noncomputable section
open PySem PySem.W PyProof.Rows
set_option maxRecDepth 100000
namespace Mine
open PySem.Sem (wp)

/-- a frame of a decoder that holds its first argument -/
def isDec : Code → Bool
  | .builtin id _ => PySem.Builtin.Bytes.decodersThatHold.contains id
  | _ => false
def Clean (Γ : Ctx) : Prop := isDec Γ.code = false ∧ ∀ x ∈ Γ.below, isDec x.1 = false
def CleanB (Γ : Ctx) : Prop := ∀ x ∈ Γ.below, isDec x.1 = false

def wpS {α : Type} (M : Model) (A : Around) (t : Sem α) (Q : α → Shared → Prop) (E : Value → Shared → Prop) (s : Shared) : Prop :=
  ∀ Γ p, Γ.In A → Clean Γ → wp M Γ t (fun a _ s' => Q a s') (fun e _ s' => E e s') p s

def codeS (M : Model) (A : Around) (c : Code) (R : Result → Shared → Prop) (s : Shared) : Prop :=
  ∀ Γ p, Γ.code = c → Γ.Below A → CleanB Γ → wpCode M Γ R p s

section
variable {α β : Type} {M : Model} {A : Around} {E : Value → Shared → Prop} {s : Shared}

theorem wpS_of {t : Sem α} {Q : α → Shared → Prop} (h : wpAny M A t Q E s) : wpS M A t Q E s := fun Γ p hΓ _ => h Γ p hΓ
theorem codeS_of {c : Code} {R : Result → Shared → Prop} (h : codeAny M A c R s) : codeS M A c R s := fun Γ p hc hΓ _ => h Γ p hc hΓ

theorem wpS_pure {a : α} {Q : α → Shared → Prop} (h : Q a s) : wpS M A (pure a) Q E s := fun _ _ _ _ => h

theorem wpS_mono {t : Sem α} {Q Q' : α → Shared → Prop} {E' : Value → Shared → Prop} (h : wpS M A t Q E s)
    (hQ : ∀ a s, Q a s → Q' a s) (hE : ∀ e s, E e s → E' e s) : wpS M A t Q' E' s :=
  fun Γ p hΓ hC => Sem.wp_mono M Γ t (fun a _ s => hQ a s) (fun e _ s => hE e s) p s (h Γ p hΓ hC)

theorem wpS_bind {m : Sem α} {f : α → Sem β} {Q : β → Shared → Prop} (h : wpS M A m (fun a s' => wpS M A (f a) Q E s') E s) :
    wpS M A (m >>= f) Q E s := fun Γ p hΓ hC => by
  rw [Sem.wp_bind']
  exact Sem.wp_mono M Γ m (fun a p' s' h' => h' Γ p' hΓ hC) (fun _ _ _ h' => h') p s (h Γ p hΓ hC)

/-- a safe step ahead -/
theorem wpS_step {m : Sem α} {f : α → Sem β} {Q : β → Shared → Prop} (h : wpAny M A m (fun a s' => wpS M A (f a) Q E s') E s) :
    wpS M A (m >>= f) Q E s := wpS_bind (wpS_of h)


theorem wpS_onRaise {m : Sem α} {k : Value → Sem Unit} {Q : α → Shared → Prop}
    (h : wpS M A m Q (fun e s' => wpS M A (k e) (fun _ s'' => E e s'') E s') s) : wpS M A (m.onRaise k) Q E s := fun Γ p hΓ hC => by
  rw [Sem.wp_onRaise]
  exact Sem.wp_mono M Γ m (fun _ _ _ h' => h') (fun e p' s' h' => h' Γ p' hΓ hC) p s (h Γ p hΓ hC)

theorem wpS_attempt {m : Sem α} {Q : Except Value α → Shared → Prop} (h : wpS M A m (fun a => Q (.ok a)) (fun e => Q (.error e)) s) :
    wpS M A m.attempt Q E s := fun Γ p hΓ hC => by rw [Sem.wp_attempt]; exact h Γ p hΓ hC

theorem wpS_holding {vs : List Value} {m : Sem α} {Q : α → Shared → Prop} (h : wpS M A m Q E s) : wpS M A (holding vs m) Q E s :=
  fun Γ p hΓ hC => by rw [Sem.wp_holding]; exact h Γ p hΓ hC
theorem wpS_keep {vs : List Value} {m : Sem α} {Q : α → Shared → Prop} (h : wpS M A m Q E s) : wpS M A (m.keep vs) Q E s :=
  fun Γ p hΓ hC => by rw [Sem.wp_keep]; exact h Γ p hΓ hC

theorem codeS_mono {c : Code} {R R' : Result → Shared → Prop} (h : codeS M A c R s) (hR : ∀ r s, R r s → R' r s) : codeS M A c R' s :=
  fun Γ p hc hΓ hC => wpCode_mono hR (h Γ p hc hΓ hC)

theorem Clean.enter {Γ : Ctx} (h : Clean Γ) (c : Code) (hd : Option Value) (p : Pos) : CleanB (Γ.enter c hd p) := fun x hx => by
  rcases List.mem_cons.mp hx with rfl | hx
  · exact h.1
  · exact h.2 x hx

theorem wpS_run {c : Code} {h : Option Value} {Q : Flow → Shared → Prop}
    (hc : codeS M (A.mark h) c (fun r s' => match r with | .ok f => Q f s' | .error e => E e s') s) (hnb : h ≠ some byPass := by intro x; cases x) :
    wpS M A (run c h) Q E s :=
  fun Γ p hΓ hC => by rw [Sem.wp_run]; exact hc _ p rfl (hΓ.enter c h p hnb) (hC.enter c h p)

theorem wpS_runValue {c : Code} {Q : Value → Shared → Prop}
    (hc : codeS M A c (fun r s' => match r with | .ok (.ret v) => Q v s' | .ok _ => False | .error e => E e s') s) :
    wpS M A (runValue c) Q E s := fun Γ p hΓ hC => by rw [Sem.wp_runValue]; exact hc _ p rfl (hΓ.enter c none p (by intro x; cases x)) (hC.enter c none p)

theorem wpS_call {f : Value} {pos : List Value} {kw : List (Str × Value)} {Q : Value → Shared → Prop}
    (hc : codeS M A (.call f ⟨pos, kw⟩) (fun r s' => match r with | .ok (.ret v) => Q v s' | .ok _ => False | .error e => E e s') s) :
    wpS M A (call f pos kw) Q E s := wpS_runValue hc

theorem codeS_of_tree {c : Code} {R : Result → Shared → Prop} (hd : isDec c = false)
    (h : wpS M (A.under c) (M.den c) (fun fin s' => match fin with | .done f => R (.ok f) s' | .again c' => c'.quiet = true ∧ codeS M A c' R s')
      (fun e s' => R (.error e) s') s) : codeS M A c R s := fun Γ p hc hΓ hC => by
  rw [wpCode_iff_wp, hc]
  refine Sem.wp_mono M Γ _ (fun fin p' s' h' => ?_) (fun _ _ _ h' => h') p s (h Γ p (hc ▸ hΓ.in) ⟨hc ▸ hd, hC⟩)
  cases fin with
  | done f => exact h'
  | again c' => exact ⟨h'.1, h'.2 (Γ.goto c') p' rfl (hΓ.goto c') hC⟩


/-- the look down the stack that bytearray makes: no guard there, no decoder -/
theorem wpS_stackAny_false {f : Code × Pos → Bool} {Q : Bool → Shared → Prop} (hg : A.guards = some [])
    (hf : ∀ c p, c.isGuard = false → isDec c = false → f (c, p) = false) (h : Q false s) :
    wpS M A (do return (← stack).any f) Q E s := fun Γ p hΓ hC => by
  show Q (((Γ.code, p) :: Γ.below).any f) s
  have hgs : guardsOf ((Γ.code, p) :: Γ.below) = [] := by
    rw [guardsOf_cons]; exact hΓ.2.2.2.1 [] hg
  have key : ∀ l : List (Code × Pos), guardsOf l = [] → (∀ x ∈ l, isDec x.1 = false) → l.any f = false := by
    intro l
    induction l with
    | nil => intro _ _; rfl
    | cons x l ih =>
      intro h1 h2
      obtain ⟨c, q⟩ := x
      rw [guardsOf_cons] at h1
      have h3 := List.append_eq_nil_iff.mp h1
      have hng : c.isGuard = false := by
        cases hh : c.isGuard with
        | false => rfl
        | true => exfalso; have := h3.1; simp [Code.guards, hh] at this
      rw [List.any_cons, hf c q hng (h2 _ (.head _)), ih h3.2 (fun y hy => h2 y (.tail _ hy))]; rfl
  rw [key _ hgs (fun x hx => by
    rcases List.mem_cons.mp hx with rfl | hx
    · exact hC.1
    · exact hC.2 x hx)]
  exact h
end
end Mine

end
noncomputable section
open PySem PySem.W PySem.Calls PyProof.Rows
set_option maxRecDepth 100000
namespace MineHead
open Mine

section
local macro_rules | `(tactic| o_head $_) => `(tactic| assumption)
/-- lays the written part of the heap (hd.heap_1) -/
theorem hd (h : PySem.Challenge.rw_nu0085_01.row.Holds) : True := by
  have : PySem.Challenge.rw_nu0085_01.row.Holds := by k_head
  trivial
end

noncomputable abbrev PP : Program := PySem.Challenge.rw_nu0085_01.row.toRowW.prog
noncomputable def view_1 : Program := view PP [1, 2, 3, 5, 6, 8, 9, 10, 11, 12, 13, 14, 15, 16, 17, 18, 19]
def looseN : List Str := [Str.ofString "BoardError", Str.ofString "Uart", Str.ofString "LineInput"]
def Ks : List Addr := [2, 3, 15, 22, 23, 25, 26, 28, 29, 30, 31, 32, 33, 36, 43, 44, 45, 48, 55, 57, 58, 60, 61, 62, 63, 64, 74, 75, 77, 78, 80, 81, 82, 84, 85, 87, 88, 89, 91, 92, 94, 95, 96, 98, 99, 101, 102, 103, 105, 106, 108, 109, 110, 112, 113, 115, 116, 117, 119, 120, 122, 123, 124, 126, 127, 129, 130, 131, 133, 134, 136, 137, 138, 140, 141, 143, 144, 145, 147, 148, 150, 151, 152, 154, 155, 157, 158, 159, 161, 162, 164, 165, 166, 167, 168, 169, 170, 185, 186, 188, 189, 191, 192, 193, 195, 196, 198, 199, 200, 202, 203, 205, 206, 207, 209, 210, 212, 213, 214, 216, 217, 219, 220, 221, 223, 224, 226, 227, 228, 229, 230, 231, 232, 235, 237, 238, 240, 241, 242, 244, 245, 247, 248, 249, 251, 252, 254, 255, 256, 258, 259, 261, 262, 263, 265, 266, 268, 269, 270, 272, 273, 275, 276, 277, 279, 280, 282, 283, 284, 286, 287, 289, 290, 291, 293, 294, 296, 297, 298, 301, 302, 303, 305, 306, 308, 309, 310, 312, 313, 315, 316]
theorem Ks_eq : ∀ P, Ks = (hd.heap_1 P).map (·.1) := fun P => by kernel_rfl
noncomputable abbrev H : Hook := kmHook hd.heap_1 Ks Ks_eq [299, 311]
noncomputable abbrev RW1 := PySem.Challenge.rw_nu0085_01.row.toRowW
noncomputable def Xt : Shared → Bool := fun s => xlAt view_1 [] s && recOk RW1.records s
theorem op1 : opening PP = plainProg PP.main.scope.names := by kernel_rfl
theorem op2 : ∀ s, fenceModules? PP s = some s := fun s => by kernel_rfl

/-- the top's run from the booted heap, as it is asked for -/
def TopP (w : World) : Prop := ∀ os, (topFrom treeTable PP w 4782 ⟨boot_heap w.params, Array.mk [], boot_drawn, boot_toks, os⟩).map (fun s => (PySem.W.Fast.tw4187177175401517315 view_1 looseN (importedModules PP.main.body) Xt true s, H.obs s)) = some (openGood view_1 looseN, H.val w)
theorem top_f (w : World) : TopP (w.withFollow "special-get-raises" false) := fun os => by
  unfold topFrom
  rw [PySem.W.Fast.te14082659384304107361, PySem.W.Fast.te14364793385576792824]
  kernel_rfl
theorem top_t (w : World) : TopP (w.withFollow "special-get-raises" true) := fun os => by
  unfold topFrom
  rw [PySem.W.Fast.te14082659384304107361, PySem.W.Fast.te14364793385576792824]
  kernel_rfl
theorem top_w (w : World) : TopP w := by
  have e := World.withFollow_self w "special-get-raises"
  cases hb : w.params.followText "special-get-raises" <;> rw [hb] at e
  · have h := top_f w; rw [e] at h; exact h
  · have h := top_t w; rw [e] at h; exact h
/-- the run behind the opening, once the opening is known -/
theorem behind_boot (w : World) (os : OsState) (e : openEnds treeTable PP w 4782 = topFrom treeTable PP w 4782 ⟨boot_heap w.params, Array.mk [], boot_drawn, boot_toks, os⟩) :
    (openEnds treeTable PP w 4782).map (fun s => (openSeen view_1 looseN (importedModules PP.main.body) Xt true s, H.obs s)) = some (openGood view_1 looseN, H.val w) := by
  rw [e, PySem.W.Fast.te4187177175401517315]
  exact top_w w os
theorem left : LeftO PP view_1 looseN Xt H.obs H.val 4782 := fun w => by
  obtain ⟨⟨h, g, d, t, os⟩, a, b⟩ := Option.map_eq_some_iff.mp (boot_open (N := 4782) op1 (by rfl) op2 w)
  obtain ⟨rfl, b⟩ := Prod.mk.inj b
  obtain ⟨rfl, b⟩ := Prod.mk.inj b
  obtain ⟨rfl, rfl⟩ := Prod.mk.inj b
  refine behind_boot w os ?_
  unfold openEnds
  rw [a, Option.bind_some]
theorem saidQ : PySem.W.Fast.tw9446332074065402090 PySem.Challenge.rw_nu0085_01 = true := by kernel_rfl
theorem said : PySem.Challenge.rw_nu0085_01.wellSaid = true := by rw [PySem.W.Fast.te9446332074065402090]; exact saidQ
theorem defs : ∃ d kwd, defOf view_1 RW1.name = some (d, kwd) ∧ RW1.prog.theDef RW1.name = some (d.params, d.body, d.scope) ∧ kwWritten? d.params.kwonlyargs d.params.kw_defaults = some kwd := ⟨_, _, rfl, rfl, rfl⟩
theorem prom : PySem.Challenge.rw_nu0085_01.row.toRowW.promised := by w_witness2

/-- the head's own words on this row -/
theorem fits : (chainsOk view_1 && opensWell PP && (frees RW1 && RW1.within.isEmpty)) = true := by decide +kernel
theorem pure_claim : RW1.claim.within = [] ∧ RW1.claim.same = none ∧ (∀ a b, RW1.claim.ident a b = true) := by
  have f := (Bool.and_eq_true_iff.mp fits).2
  obtain ⟨f1, f2⟩ := Bool.and_eq_true_iff.mp f
  obtain ⟨a, b, c, d, _⟩ := frees_parts f1
  exact ⟨List.isEmpty_iff.mp f2, a, ident_freeW b c d⟩

/-- where the law's call stands, and the frames below it (none) -/
def ctx0 : Ctx := ⟨.builtin "claim.caller" {}, none, none, [], none⟩
theorem clean0 : Clean ctx0 := ⟨by decide +kernel, fun x hx => nomatch hx⟩

/-- a tree that ends in wpS, run by the machine from the caller -/
theorem run_S {w : World} {t : Sem Fin} {s : Shared} {R : Result → Shared → Prop} (hreg : s.asleep) (bare : ∀ x s', R x s' → s'.gens = #[])
    (h : wpS (model PP w) callerA t (fun x s' => ∃ f, x = .done f ∧ R (.ok f) s') (fun e s' => R (.error e) s') s) :
    ∃ n x a b, schedN (denote table) PP w n (.single s ⟨t, ctx0.code, default, []⟩) = .halted (outcomeOf x) a ∧ a.heap.life = s.heap.life ∧ a.forget = b.forget ∧ R x b := by
  have clean : ∀ g : Array GenState, g = #[] → leftWithCleanup g = false := by rintro _ rfl; simp [leftWithCleanup]
  obtain ⟨n, x, b, a, e1, e2, e3, e4⟩ := wp_halts_full (M := model PP w) (R := R) hreg (t := t) (Sem.wp_mono _ _ _ (fun y p s' ⟨f, e, q⟩ => by subst e; exact ⟨q, clean _ (bare _ _ q)⟩) (fun _ _ _ q => ⟨q, clean _ (bare _ _ q)⟩) _ _ (h ctx0 default caller_in clean0))
  exact ⟨n, x, a, b, e1, runN_life _ _ _ e2, e3, e4⟩

/-- what the walk has to show: the law, called with the laid script in the opened world -/
def Walked : Prop :=
  ∀ (w : World) (s₀ s : Shared) (mg mb : Str → Option Value) (f : Addr) (script : List WData) (vals : List Value) (as : List Addr),
    Ground view_1 looseN RW1.records (XL view_1 []) w s₀ mg mb s.heap → H.says w s.heap → s.gens = #[] → mg RW1.name = some (.ref f) →
    RW1.claim.pre script = true → WData.layableAll script = true → ReadsAllW RW1.records (classAt s₀.heap) s.heap vals script as → WellAll w.params s.heap vals script → (∀ a ∈ as, (a == sysModules) = false) →
    codeS (model PP w) callerA (.call (.ref f) ⟨vals, []⟩) (fun x s' => GoodWG RW1.claim (classAt s₀.heap) (ExcName.means s₀.heap) script s x s' ∧ s'.gens = #[]) s

theorem top (walk : Walked) : PySem.Challenge.rw_nu0085_01.Holds := by
  obtain ⟨hwi, hsame, hi⟩ := pure_claim
  obtain ⟨hch, hopen⟩ := Bool.and_eq_true_iff.mp (Bool.and_eq_true_iff.mp fits).1
  obtain ⟨d, kwd, hdef, hp, hk⟩ := defs
  refine holds_law said fun k1 => ⟨k1, prom, ⟨⟨rfl, rfl, rfl, rfl, rfl, by decide +kernel⟩, hopen, by rfl⟩, RowW.promised.witness prom, fun w => ?_⟩
  obtain ⟨there, all⟩ := left.behind (XP := fun mg h => XL view_1 [] mg h ∧ RecFacts RW1.records h)
    (fun s e => ⟨xl_of s (Bool.and_eq_true_iff.mp e).1, recFacts_of (Bool.and_eq_true_iff.mp e).2⟩) hch w
  refine ⟨there, fun s' after => ?_⟩
  obtain ⟨s₀, e1, e2, s, ran, sleeps, nogen, isg, G, obs⟩ := all s' after
  have bare : s.gens = #[] := Array.eq_empty_of_size_eq_zero (beq_iff_eq.mp nogen)
  have recs : RecFacts RW1.records s.heap := G.X.2
  have G0 : Ground view_1 looseN [] (XL view_1 []) w s (s.heap.nsMap mainGlobals) (s.heap.nsMap builtinsNs) s.heap := { G with X := G.X.1 }
  refine ⟨s₀, e1, e2, s, ran, fun n hn => ?_, recs.1, recs.2.1, fun script hpre hlay ord hord => ?_⟩
  · obtain rfl : n = RW1.name := by split at hn <;> simp_all
    exact pinned_of_view isg G0 hdef hp hk
  have G1 := recs.ground G0
  obtain ⟨⟨vals, sL⟩, laid⟩ := Option.isSome_iff_exists.mp (layAllW_isSome (P := w.params) (ord := ord) G1.has script RW1.args s (pre_splitW hpre).1)
  have kept := layAllW_keeps _ _ _ laid
  obtain ⟨r1, r2, r3, r4⟩ := layAllW_rest _ _ _ laid
  obtain ⟨as, reads, inside, known⟩ := reads_layAllW hord _ _ _ laid hlay sL.heap (fun _ _ e => e)
  have L : Laid RW1.records w s sL script vals as := { laid := ⟨ord, hord, laid⟩, reads := reads, within := inside, old := known, keeps := kept, gens := r1.trans bare, os := r3 }
  have GL := G1.keeps XL.keeps kept
  obtain ⟨f, _, _, _, _, _, _, hf, _⟩ := GL.fn hdef
  have c := walk w s sL _ _ f script vals as GL (H.keeps _ _ _ (H.of w s obs) kept) L.gens hf hpre hlay L.reads L.well (L.low G1.low)
  obtain ⟨n, x, a, b, h1, h2, h3, ⟨good, hb⟩⟩ := run_S (w := w) (s := sL) (t := do match ← nsGet mainNs RW1.name with
      | some f => do ret (← PySem.call f vals)
      | none => unsupported "claim.caller:no-such-global")
    (R := fun x s' => GoodWG RW1.claim (classAt s.heap) (ExcName.means s.heap) script sL x s' ∧ s'.gens = #[]) (Shared.asleep_of_life r4 sleeps) (fun _ _ q => q.2) (by
      refine wpS_step (wpAny_nsGet GL.T.g ?_)
      rw [hf]
      refine wpS_bind (wpS_call (codeS_mono c fun x s' g => ?_))
      cases x with
      | error e => exact g
      | ok fl =>
        rcases g.1.1 with ⟨v, d, as, e, _⟩ | ⟨e, _, _, e', _⟩
        · cases e; exact wpS_pure ⟨_, rfl, g⟩
        · cases e')
  obtain ⟨ends, os, _⟩ := good.laid (c := RW1.claim) hsame hwi hi L
  obtain ⟨eh, _, _, eo, _⟩ := Shared.forget_eq h3
  refine ⟨vals, sL, laid, n, _, a, h1, ?_, fun _ i y hy => ?_, ?_, ?_, ?_⟩
  · rcases ends.congr eh with ⟨v, e, d1, d2, d3, d4, d5⟩ | ⟨e, ob, cls, e', d1, d2, d3, d4, d5⟩
    · subst e; exact .inl ⟨v, rfl, d1, d2, d3, fun b o y _ => d4 b o y, d5⟩
    · subst e'; exact .inr ⟨e, ob, cls, rfl, d1, d2, d3, d4, fun b o y _ => d5 b o y⟩
  · rw [bare] at hy; simp at hy
  · rw [eh]
    exact fun q => ⟨namesKept_of ran isg _ kept good.2.1.old, noTable rfl q⟩
  · rw [h2, r4]
  · exact Shared.rest_eq (eo.trans os)
end MineHead

end
noncomputable section
open PySem PySem.W PyProof.Rows
set_option maxRecDepth 100000
namespace Mine
open PySem.Builtin

abbrev baObj (b : Array UInt8) : Obj := { cls := .type "bytearray", data := .bytearray b }

namespace BF
theorem plainAttrs : PlainAttrs "bytearray" :=
  ⟨⟨"bytearray.__getattribute__", by rw [typeLookup_type, builtinLookup_eq_fast]; kernel_rfl, by decide +kernel⟩, by rw [typeLookup_type, builtinLookup_eq_fast]; kernel_rfl⟩
theorem owner : Manifest.owners.lookup (String.ofList ['y', 'a', 'r', 'r', 'a', 'e', 't', 'y', 'b'].reverse) = some Manifest.sig_bytearray := by kernel_rfl
theorem slot_len : Slot "bytearray" "__len__" "bytearray.__len__" :=
  .of (owner := "bytearray") (n := "__len__") (by rw [typeLookup_type, builtinLookup_eq_fast]; kernel_rfl) (by decide +kernel) (by decide +kernel) (by decide +kernel)
    (by first | exact .inl (by decide +kernel) | exact .inr (by decide +kernel)) (by rw [isSubtype_type]; kernel_rfl)
theorem entry_len : entryFor table "bytearray.__len__" = some Builtin.«bytearray.__len__» := entryFor_of_tree (by kernel_rfl)
theorem args_len (a : Value) : argsOk "bytearray.__len__" ⟨[a], []⟩ := by
  unfold argsOk; rw [signature?_of (id := "bytearray.__len__") (n := ['_', '_', 'n', 'e', 'l', '_', '_']) (o := ['y', 'a', 'r', 'r', 'a', 'e', 't', 'y', 'b']) (by kernel_rfl) owner]; kernel_rfl
theorem slot_getitem : Slot "bytearray" "__getitem__" "bytearray.__getitem__" :=
  .of (owner := "bytearray") (n := "__getitem__") (by rw [typeLookup_type, builtinLookup_eq_fast]; kernel_rfl) (by decide +kernel) (by decide +kernel) (by decide +kernel)
    (by first | exact .inl (by decide +kernel) | exact .inr (by decide +kernel)) (by rw [isSubtype_type]; kernel_rfl)
theorem entry_getitem : entryFor table "bytearray.__getitem__" = some Builtin.«bytearray.__getitem__» := entryFor_of_tree (by kernel_rfl)
theorem args_getitem (a b : Value) : argsOk "bytearray.__getitem__" ⟨[a, b], []⟩ := by
  unfold argsOk; rw [signature?_of (id := "bytearray.__getitem__") (n := ['_', '_', 'm', 'e', 't', 'i', 't', 'e', 'g', '_', '_']) (o := ['y', 'a', 'r', 'r', 'a', 'e', 't', 'y', 'b']) (by kernel_rfl) owner]; kernel_rfl
theorem slot_append : Slot "bytearray" "append" "bytearray.append" :=
  .of (owner := "bytearray") (n := "append") (by rw [typeLookup_type, builtinLookup_eq_fast]; kernel_rfl) (by decide +kernel) (by decide +kernel) (by decide +kernel)
    (by first | exact .inl (by decide +kernel) | exact .inr (by decide +kernel)) (by rw [isSubtype_type]; kernel_rfl)
theorem type_append : typeOf (.builtin "bytearray.append") = pure (.type "method_descriptor") := by show builtinType _ = _; rw [builtinType_eq_fast]; kernel_rfl
theorem entry_append : entryFor table "bytearray.append" = some Builtin.«bytearray.append» := entryFor_of_tree (by kernel_rfl)
theorem args_append (a b : Value) : argsOk "bytearray.append" ⟨[a, b], []⟩ := by
  unfold argsOk; rw [signature?_of (id := "bytearray.append") (n := ['d', 'n', 'e', 'p', 'p', 'a']) (o := ['y', 'a', 'r', 'r', 'a', 'e', 't', 'y', 'b']) (by kernel_rfl) owner]; kernel_rfl
theorem slot_extend : Slot "bytearray" "extend" "bytearray.extend" :=
  .of (owner := "bytearray") (n := "extend") (by rw [typeLookup_type, builtinLookup_eq_fast]; kernel_rfl) (by decide +kernel) (by decide +kernel) (by decide +kernel)
    (by first | exact .inl (by decide +kernel) | exact .inr (by decide +kernel)) (by rw [isSubtype_type]; kernel_rfl)
theorem type_extend : typeOf (.builtin "bytearray.extend") = pure (.type "method_descriptor") := by show builtinType _ = _; rw [builtinType_eq_fast]; kernel_rfl
theorem entry_extend : entryFor table "bytearray.extend" = some Builtin.«bytearray.extend» := entryFor_of_tree (by kernel_rfl)
theorem args_extend (a b : Value) : argsOk "bytearray.extend" ⟨[a, b], []⟩ := by
  unfold argsOk; rw [signature?_of (id := "bytearray.extend") (n := ['d', 'n', 'e', 't', 'x', 'e']) (o := ['y', 'a', 'r', 'r', 'a', 'e', 't', 'y', 'b']) (by kernel_rfl) owner]; kernel_rfl
/- the buffers -/
theorem ba_buffer : typeLookup (.type "bytearray") "__buffer__" = pure (some (.builtin "bytearray.__buffer__")) := by rw [typeLookup_type, builtinLookup_eq_fast]; kernel_rfl
theorem ba_release : typeLookup (.type "bytearray") "__release_buffer__" = pure (some (.builtin "bytearray.__release_buffer__")) := by rw [typeLookup_type, builtinLookup_eq_fast]; kernel_rfl
theorem ba_no_bytes : typeLookup (.type "bytearray") "__bytes__" = pure none := by rw [typeLookup_type, builtinLookup_eq_fast]; kernel_rfl
theorem ba_no_index : typeLookup (.type "bytearray") "__index__" = pure none := by rw [typeLookup_type, builtinLookup_eq_fast]; kernel_rfl
end BF
end Mine

end
noncomputable section
open PySem PySem.W PyProof.Rows PySem.Calls
set_option maxRecDepth 100000
namespace Mine
open PySem.Builtin

section
variable {prog : Program} {w : World} {A : Around} {E : Value → Shared → Prop} {s : Shared} {a : Addr} {b : Array UInt8}

theorem ba_type (hb : s.heap.get? a = some (baObj b)) : s.TypeIs (.ref a) "bytearray" := ⟨_, hb, rfl⟩

theorem ba_payload {M : Model} {Q : Array UInt8 → Shared → Prop} (hb : s.heap.get? a = some (baObj b)) (h : Q b s) : wpAny M A (Bytes.payload (.ref a)) Q E s := by
  unfold Bytes.payload Bytes.payload?
  refine wpAny_bind (wpAny_bind (wpAny_load hb ?_))
  exact wpAny_pure (wpAny_pure h)

theorem ba_len {Q : Value → Shared → Prop} (hb : s.heap.get? a = some (baObj b)) (hz : b.size ≤ sizeLine) (h : Q (.int b.size (s.toks + 1)) { s with toks := s.toks + 1 + 1 }) :
    wpAny (model prog w) A (call (.builtin "len") [.ref a]) Q E s := by
  have hz' : b.size ≤ 16777216 := hz
  refine call_len_slot (ba_type hb) BF.slot_len (fun Q' hq => wpAny_call_entry BF.slot_len (ba_type hb) BF.entry_len ?_ (BF.args_len _)) (by omega) (by omega) h
  show wpAny _ A.in1.in1 (do retInt (← Bytes.payload (.ref a)).size) _ _ s
  refine wpAny_bind (ba_payload hb ?_)
  exact wpAny_bind (wpAny_mkInt (wpAny_pure ⟨_, rfl, hq⟩))

theorem ba_item_get {k : Int} {u : Tok} {c : UInt8} {Q : Value → Shared → Prop} (hb : s.heap.get? a = some (baObj b)) (h0 : 0 ≤ k) (hk : k < 2 ^ 63) (hc : b[k.toNat]? = some c)
    (h : Q (.int c.toNat s.toks) { s with toks := s.toks + 1 }) : wpAny (model prog w) A (getItem (.ref a) (.int k u)) Q E s := by
  refine wpAny_getItem_slot (ba_type hb) (by decide) BF.slot_getitem (wpAny_call_entry BF.slot_getitem (ba_type hb) BF.entry_getitem ?_ (BF.args_getitem _ _))
  show wpAny _ A.in1 (Bytes.subscript? (.int k u) >>= fun r => _) _ E s
  refine wpAny_bind ?_
  unfold Bytes.subscript?
  refine wpAny_bind (wpAny_specialOf (typeIs_int s k u) F.slot_int_index.lookup ?_)
  show wpAny _ A.in1 (if (!Bytes.fitsIndex k) = true then _ else pure (some k)) _ E s
  have hf : Bytes.fitsIndex k = true := by simp only [Bytes.fitsIndex, Bool.and_eq_true, decide_eq_true_eq]; omega
  rw [hf]
  refine wpAny_pure ?_
  show wpAny _ A.in1 (Bytes.payload (.ref a) >>= _) _ E s
  refine wpAny_bind (ba_payload hb ?_)
  have hlt : k.toNat < b.size := by
    rcases Nat.lt_or_ge k.toNat b.size with q | q
    · exact q
    · rw [Array.getElem?_eq_none (by omega)] at hc; cases hc
  have hs : seqIndex? k b.size = some k.toNat := by
    have hn : ¬ k < 0 := by omega
    have hn2 : k < (b.size : Int) := by omega
    simp [seqIndex?, hn, h0, hn2]
  show wpAny _ _ (match (seqIndex? k b.size).bind (b[·]?) with | some x => retInt x.toNat | none => _) _ _ _
  rw [hs, Option.bind_some, hc]
  exact wpAny_bind (wpAny_mkInt (wpAny_pure ⟨_, rfl, h⟩))

theorem tailG {value slice : Expr} {o i : Value} {T id : String} {ops : List Value} {Q : Value → Shared → Prop} (hT : s.TypeIs o T)
    (hl : typeLookup (.type T) "__getitem__" = pure (some (.builtin id))) (h : wpAny (model prog w) A (getItem o i) Q E s)
    (hs : subscripted slice false o i = operate ops (getItem o i)) : wpAny (model prog w) A (subscriptTail value slice o i) Q E s := by
  have fin : wpAny (model prog w) A (subscripted slice false o i) (fun r s₃ => wpAny (model prog w) A (letTemporaryGo value o r >>= fun _ => pure r) Q E s₃) E s := by
    rw [hs]
    exact wpAny_operating (wpAny_mono h (fun r s₃ h₃ => wpAny_bind (wpAny_letTemporaryGo (wpAny_pure h₃))) fun _ _ x => x)
  unfold subscriptTail
  refine wpAny_bind ?_
  rw [getitemInPython_of_ne hT.not_modules]
  refine wpAny_bind (wpAny_specialOf hT hl ?_)
  first
    | exact wpAny_pure (wpAny_bind fin)
    | exact wpAny_bind fin

theorem ba_item {value slice : Expr} {k : Int} {u : Tok} {c : UInt8} {Q : Value → Shared → Prop} (hb : s.heap.get? a = some (baObj b)) (h0 : 0 ≤ k) (hk : k < 2 ^ 63) (hc : b[k.toNat]? = some c)
    (hs : subscripted slice false (.ref a) (.int k u) = operate [.ref a, .int k u] (getItem (.ref a) (.int k u)))
    (h : Q (.int c.toNat s.toks) { s with toks := s.toks + 1 }) : wpAny (model prog w) A (subscriptTail value slice (.ref a) (.int k u)) Q E s :=
  tailG (ba_type hb) BF.slot_getitem.lookup (ba_item_get hb h0 hk hc h) hs

/-- the bounds of a cut by ones -/
inductive IsEnd : Value → Option Nat → Prop
  | none : IsEnd .none none
  | int {k : Int} (t : Tok) (n : Nat) (h : k = n) : IsEnd (.int k t) (some n)

theorem sliced_one (b : Array UInt8) (x y : Nat) : Bytes.sliced b x y 1 = b.extract x y := by
  unfold Bytes.sliced
  rw [sliceRange_one, pick_run]
  apply Array.toList_inj.mp
  simp

def endV : Option Nat → Value
  | some n => rawInt n
  | none => .none
theorem part_end {M : Model} {v : Value} {o : Option Nat} (e : IsEnd v o) {Q : Value → Shared → Prop} (h : Q (endV o) s) :
    wpAny M A (do if v == .none then return Value.none
                  if (← specialOf v "__index__").isNone then
                    rule "bytes.slice.part-no-index"; raiseError "TypeError" "slice indices must be integers or None or have an __index__ method"
                  return rawInt (← asIndex v)) Q E s := by
  cases e with
  | none => exact wpAny_pure h
  | int t n hk =>
    subst hk
    show wpAny M A (specialOf (.int n t) "__index__" >>= _) Q E s
    refine wpAny_bind (wpAny_specialOf (typeIs_int s n t) F.slot_int_index.lookup ?_)
    exact wpAny_pure h

theorem sliceIdx (x y : Option Nat) (n : Nat) : sliceIndices (endV x) (endV y) .none n = pure (((min (x.getD 0) n : Nat) : Int), ((min (y.getD n) n : Nat) : Int), 1) := by
  cases x with
  | none =>
    cases y with
    | none =>
      show (pure ((0 : Int), (n : Int), (1 : Int)) : Sem (Int × Int × Int)) = _
      simp
    | some m =>
      show (pure ((0 : Int), max 0 (min (if (m : Int) < 0 then (m : Int) + (n : Int) else (m : Int)) (n : Int)), (1 : Int)) : Sem (Int × Int × Int)) = _
      rw [if_neg (by omega)]
      have e : max 0 (min (m : Int) (n : Int)) = ((min m n : Nat) : Int) := by omega
      rw [e]; simp
  | some k =>
    cases y with
    | none =>
      show (pure (max 0 (min (if (k : Int) < 0 then (k : Int) + (n : Int) else (k : Int)) (n : Int)), (n : Int), (1 : Int)) : Sem (Int × Int × Int)) = _
      rw [if_neg (by omega)]
      have e : max 0 (min (k : Int) (n : Int)) = ((min k n : Nat) : Int) := by omega
      rw [e]; simp
    | some m =>
      show (pure (max 0 (min (if (k : Int) < 0 then (k : Int) + (n : Int) else (k : Int)) (n : Int)), max 0 (min (if (m : Int) < 0 then (m : Int) + (n : Int) else (m : Int)) (n : Int)), (1 : Int)) : Sem (Int × Int × Int)) = _
      rw [if_neg (by omega), if_neg (by omega)]
      have e : max 0 (min (k : Int) (n : Int)) = ((min k n : Nat) : Int) := by omega
      have e2 : max 0 (min (m : Int) (n : Int)) = ((min m n : Nat) : Int) := by omega
      rw [e, e2]; simp

theorem ba_slice_get {sl : Addr} {lo hi : Value} {x y : Option Nat} {Q : Value → Shared → Prop} (hb : s.heap.get? a = some (baObj b)) (hz : b.size ≤ sizeLine)
    (hsl : s.heap.get? sl = some { cls := .type "slice", data := .fields #[lo, hi, .none] }) (ex : IsEnd lo x) (ey : IsEnd hi y)
    (h : Q (.ref s.heap.objs.size) { s with heap := s.heap.push (baObj (b.extract (min (x.getD 0) b.size) (min (y.getD b.size) b.size))) }) :
    wpAny (model prog w) A (getItem (.ref a) (.ref sl)) Q E s := by
  have hTs : s.TypeIs (.ref sl) "slice" := ⟨_, hsl, rfl⟩
  have noidx : typeLookup (.type "slice") "__index__" = pure none := by rw [typeLookup_type, builtinLookup_eq_fast]; kernel_rfl
  refine wpAny_getItem_slot (ba_type hb) (by decide) BF.slot_getitem (wpAny_call_entry BF.slot_getitem (ba_type hb) BF.entry_getitem ?_ (BF.args_getitem _ _))
  show wpAny _ A.in1 (Bytes.subscript? (.ref sl) >>= fun r => _) _ E s
  refine wpAny_bind ?_
  unfold Bytes.subscript?
  refine wpAny_bind (wpAny_specialOf hTs noidx ?_)
  refine wpAny_pure ?_
  show wpAny _ A.in1 (typeOf (.ref sl) >>= _) _ E s
  refine wpAny_bind (wpAny_typeOf hTs ?_)
  show wpAny _ A.in1 (Bytes.sliceParts (.ref sl) >>= _) _ E s
  refine wpAny_bind ?_
  unfold Bytes.sliceParts
  refine wpAny_bind (wpAny_field hsl rfl rfl ?_)
  refine wpAny_bind (wpAny_pure ?_)
  refine wpAny_bind (wpAny_field hsl rfl rfl ?_)
  refine wpAny_bind (part_end ex ?_)
  refine wpAny_bind (wpAny_field hsl rfl rfl ?_)
  refine wpAny_bind (part_end ey ?_)
  refine wpAny_pure ?_
  dsimp only
  refine wpAny_bind (ba_payload hb ?_)
  rw [sliceIdx]
  refine wpAny_bind (wpAny_pure ?_)
  dsimp only
  rw [sliced_one]
  refine wpAny_bind ?_
  unfold Bytes.newBytearray
  refine wpAny_newObj_type (wpAny_pure ⟨_, rfl, h⟩) ?_
  show (b.extract _ _).size ≤ sizeLine
  rw [Array.size_extract]
  omega

theorem ba_slice {value : Expr} {pl pu : Option Expr} {pp : Pos} {lo hi : Value} {x y : Option Nat} {Q : Value → Shared → Prop} (hb : s.heap.get? a = some (baObj b)) (hz : b.size ≤ sizeLine)
    (ex : IsEnd lo x) (ey : IsEnd hi y)
    (h : Q (.ref (s.heap.objs.size + 1)) { s with heap := (s.heap.push { cls := .type "slice", data := .fields #[lo, hi, .none] }).push (baObj (b.extract (min (x.getD 0) b.size) (min (y.getD b.size) b.size))) }) :
    wpAny (model prog w) A (subscriptTail value (.Slice pl pu none pp) (.ref a) (.ref s.heap.objs.size)) Q E { s with heap := s.heap.push { cls := .type "slice", data := .fields #[lo, hi, .none] } } := by
  have hb' : (s.heap.push { cls := .type "slice", data := .fields #[lo, hi, .none] }).get? a = some (baObj b) := Heap.get?_push_of_some _ hb
  refine tailG (s := { s with heap := s.heap.push { cls := .type "slice", data := .fields #[lo, hi, .none] } }) (ba_type hb') BF.slot_getitem.lookup (ba_slice_get hb' hz (Heap.get?_push_size _ rfl) ex ey ?_) rfl
  show Q (.ref (s.heap.push _).objs.size) _
  rw [Heap.size_push]
  exact h
end
end Mine

end
noncomputable section
open PySem PySem.W PyProof.Rows PySem.Calls
set_option maxRecDepth 100000
namespace Mine
open PySem.Builtin
set_option linter.deprecated false

section
variable {prog : Program} {w : World} {A : Around} {E : Value → Shared → Prop} {s : Shared} {a : Addr} {b : Array UInt8}

theorem codeS_builtin {R : Result → Shared → Prop} {id : String} {args : Args} {bi : Builtin} (hd : Bytes.decodersThatHold.contains id = false) (hq : plainId id = true) (hb : entryFor table id = some bi)
    (h : wpS (model prog w) A.in1 (bi args)
      (fun fin s' => match fin with | .done f => R (.ok f) s' | .again c' => c'.quiet = true ∧ codeS (model prog w) A c' R s') (fun e s' => R (.error e) s') s) :
    codeS (model prog w) A (.builtin id args) R s := by
  refine codeS_of_tree hd ?_
  rw [Around.under_plainId hq args]
  show wpS _ _ (match entryFor table id with | some b => b args | none => unsupported ((withoutEnding? id "#data").getD id)) _ _ s
  rw [hb]; exact h

theorem codeS_builtin_at {R : Result → Shared → Prop} {id : String} {args : Args} {bi : Builtin} (hd : Bytes.decodersThatHold.contains id = false) (hb : entryFor table id = some bi)
    (h : wpS (model prog w) (A.under (.builtin id args)) (bi args)
      (fun fin s' => match fin with | .done f => R (.ok f) s' | .again c' => c'.quiet = true ∧ codeS (model prog w) A c' R s') (fun e s' => R (.error e) s') s) :
    codeS (model prog w) A (.builtin id args) R s := by
  refine codeS_of_tree hd ?_
  show wpS _ _ (match entryFor table id with | some b => b args | none => unsupported ((withoutEnding? id "#data").getD id)) _ _ s
  rw [hb]; exact h

theorem codeS_call_builtin {R : Result → Shared → Prop} {id : String} {args : Args} {bi : Builtin} (hd : Bytes.decodersThatHold.contains id = false) (hq : plainId id = true) (hb : entryFor table id = some bi)
    (h : wpAny (model prog w) A.in1 (checkBuiltinCall id args) (fun _ s₁ => wpS (model prog w) A.in1 (bi args)
      (fun fin s' => match fin with | .done f => R (.ok f) s' | .again c' => c'.quiet = true ∧ codeS (model prog w) A c' R s') (fun e s' => R (.error e) s') s₁)
      (fun e s' => R (.error e) s') s) : codeS (model prog w) A (.call (.builtin id) args) R s := by
  refine codeS_of_tree rfl ?_
  show wpS _ A.in1 (do checkBuiltinCall id args; again (.builtin id args)) _ _ s
  exact wpS_step (wpAny_mono h (fun _ s₁ h₁ => wpS_pure ⟨plainId_quiet hq _, codeS_builtin hd hq hb h₁⟩) fun _ _ h' => h')

/-- a method of a built-in type, called -/
theorem callS_entry {T : String} {name : Str} {id : String} {bi : Builtin} {self : Value} {rest : List Value} {Q : Value → Shared → Prop} (hd : Bytes.decodersThatHold.contains id = false) (h : Slot T name id) (hT : s.TypeIs self T)
    (hb : entryFor table id = some bi) (ha : argsOk id ⟨self :: rest, []⟩)
    (hc : wpS (model prog w) A.in1 (bi ⟨self :: rest, []⟩) (fun fin s' => ∃ v, fin = .done (.ret v) ∧ Q v s') E s) :
    wpS (model prog w) A (call (.builtin id) (self :: rest)) Q E s := by
  refine wpS_call (codeS_call_builtin hd h.plain hb (h.check _ _ _ _ _ _ _ _ hT ha (wpS_mono hc (fun fin s' h' => ?_) fun _ _ h' => h')))
  obtain ⟨v, rfl, hv⟩ := h'; exact hv

theorem no_export (self : Value) {Q : Bool → Shared → Prop} {M : Model} (hg : A.guards = some []) (h : Q false s) : wpS M A (Bytes.exported self) Q E s := by
  unfold Bytes.exported
  refine wpS_stackAny_false hg (fun c p h1 h2 => ?_) h
  split
  · rename_i e; cases e; exact absurd (show guardIds.contains "bytearray.__contains__" = false from h1) (by decide +kernel)
  · rename_i e; cases e; exact absurd (show guardIds.contains "bytearray.__mod__" = false from h1) (by decide +kernel)
  · rename_i e; cases e; exact absurd (show guardIds.contains "bytearray.__rmod__" = false from h1) (by decide +kernel)
  · rename_i e; cases e; exact absurd (show guardIds.contains "_struct.pack_into.held" = false from h1) (by decide +kernel)
  · rename_i e; cases e; exact absurd (show guardIds.contains "bytearray.find.held" = false from h1) (by decide +kernel)
  · rename_i e; cases e
    simp only [isDec] at h2
    rw [h2, Bool.and_false]
  · rfl

theorem can_resize {Q : Unit → Shared → Prop} {M : Model} (hg : A.guards = some []) (hb : s.heap.get? a = some (baObj b)) (h : Q () s) : wpS M A (Bytes.checkResize (.ref a)) Q E s := by
  unfold Bytes.checkResize
  refine wpS_bind ?_
  unfold orM
  refine wpS_bind (no_export _ hg ?_)
  show wpS M A (Bytes.exportsOf (.ref a) >>= fun n => pure (decide (n > 0))) _ _ _
  refine wpS_of (wpAny_bind ?_)
  unfold Bytes.exportsOf
  refine wpAny_bind (wpAny_load hb ?_)
  exact wpAny_pure (wpAny_pure (wpS_pure h))

theorem ba_write {f : Array UInt8 → Array UInt8} {Q : Unit → Shared → Prop} {M : Model} (hb : s.heap.get? a = some (baObj b)) (hz : (f b).size ≤ sizeLine)
    (h : Q () { s with heap := s.heap.update a (Obj.mapBytearray f) }) : wpAny M A (Bytes.write (.ref a) f) Q E s := by
  show wpAny M A (updateBytearray a f) Q E s
  unfold updateBytearray
  refine wpAny_bind (wpAny_load hb ?_)
  show wpAny _ _ (update a (Obj.mapBytearray f) >>= fun _ => lookBehind a) _ _ _
  refine wpAny_bind (wpAny_update hb ?_)
  have hb₂ : (s.heap.update a (Obj.mapBytearray f)).get? a = some (baObj (f b)) := Heap.get?_update_self (Obj.mapBytearray f) hb rfl
  refine wpAny_lookBehind hb₂ ?_ h
  show (if (f b).size > sizeLine then some "bytearray:memory" else none) = none
  rw [if_neg (Nat.not_lt.mpr hz)]

theorem ba_append {n : Int} {u : Tok} {Q : Value → Shared → Prop} (hg : A.guards = some []) (hb : s.heap.get? a = some (baObj b)) (h0 : 0 ≤ n) (h1 : n < 256) (hz : b.size + 1 ≤ sizeLine)
    (h : Q .none { s with heap := s.heap.update a (Obj.mapBytearray (·.push n.toNat.toUInt8)) }) :
    wpS (model prog w) A (call (.builtin "bytearray.append") [.ref a, .int n u]) Q E s := by
  refine callS_entry (by decide +kernel) BF.slot_append (ba_type hb) BF.entry_append (BF.args_append _ _) ?_
  show wpS _ A.in1 (Bytes.byteValue (.int n u) >>= fun c => Bytes.checkResize (.ref a) >>= fun _ => Bytes.write (.ref a) (·.push c) >>= fun _ => ret .none) _ _ _
  refine wpS_step ?_
  unfold Bytes.byteValue
  refine wpAny_bind (wpAny_of_eq (rfl : asIndex (.int n u) = pure n) ?_)
  refine bm_if_false (by simp only [Bool.or_eq_false_iff, decide_eq_false_iff_not]; omega) ?_
  refine wpAny_pure ?_
  refine wpS_bind (can_resize hg hb ?_)
  refine wpS_step (ba_write hb (by rw [Array.size_push]; exact hz) ?_)
  exact wpS_pure ⟨_, rfl, h⟩

/-- bytes are their own buffer -/
theorem bytes_buffer? {id : String} {x : Array UInt8} {t : Tok} {full : Bool} {Q : Option (Array UInt8) → Shared → Prop} {M : Model} (h : Q (some x) s) : wpAny M A (Bytes.buffer? id (.bytes x t) full) Q E s := by
  have hT : s.TypeIs (.bytes x t) "bytes" := typeIs_bytes s x t
  have own : ∀ {Q' : Bool → Shared → Prop}, Q' true s → wpAny M A (Bytes.slotIsOwn (.bytes x t) "__buffer__") Q' E s := by
    intro Q' hq
    unfold Bytes.slotIsOwn
    refine wpAny_bind (wpAny_specialOf hT PySem.W.KBy.look_buffer ?_)
    show wpAny M A (if !("bytes.__buffer__").endsWith ("." ++ "__buffer__") then _ else _) _ _ _
    rw [if_neg (by decide +kernel)]
    show wpAny M A (isInstance (.bytes x t) (.type ("bytes.__buffer__".dropRight ("__buffer__".length + 1)))) _ _ _
    rw [show "bytes.__buffer__".dropRight ("__buffer__".length + 1) = "bytes" from by decide +kernel]
    exact wpAny_isInstance hT F.sub_bytes_bytes hq
  unfold Bytes.buffer?
  refine wpAny_bind (wpAny_specialOf hT PySem.W.KBy.look_buffer ?_)
  refine wpAny_bind (own ?_)
  refine wpAny_bind (wpAny_specialOf hT PySem.W.KBy.look_buffer ?_)
  show wpAny M A (Bytes.ownRelease (.bytes x t) >>= _) _ _ _
  refine wpAny_bind ?_
  unfold Bytes.ownRelease Bytes.slotIsOwn
  refine wpAny_bind (wpAny_bind (wpAny_specialOf hT PySem.W.KBy.look_release ?_))
  refine wpAny_pure (wpAny_pure ?_)
  show wpAny M A (Bytes.payload (.bytes x t) >>= _) _ _ _
  exact wpAny_pure h

/-- a bytearray's buffer -/
theorem ba_buffer? {id : String} {full : Bool} {Q : Option (Array UInt8) → Shared → Prop} {M : Model} (hb : s.heap.get? a = some (baObj b)) (h : Q (some b) s) : wpAny M A (Bytes.buffer? id (.ref a) full) Q E s := by
  have hT := ba_type hb
  have own : ∀ {Q' : Bool → Shared → Prop}, Q' true s → wpAny M A (Bytes.slotIsOwn (.ref a) "__buffer__") Q' E s := by
    intro Q' hq
    unfold Bytes.slotIsOwn
    refine wpAny_bind (wpAny_specialOf hT BF.ba_buffer ?_)
    show wpAny M A (if !("bytearray.__buffer__").endsWith ("." ++ "__buffer__") then _ else _) _ _ _
    rw [if_neg (by decide +kernel)]
    show wpAny M A (isInstance (.ref a) (.type ("bytearray.__buffer__".dropRight ("__buffer__".length + 1)))) _ _ _
    rw [show "bytearray.__buffer__".dropRight ("__buffer__".length + 1) = "bytearray" from by decide +kernel]
    exact wpAny_isInstance hT PySem.F.isi_self_bytearray hq
  unfold Bytes.buffer?
  refine wpAny_bind (wpAny_specialOf hT BF.ba_buffer ?_)
  refine wpAny_bind (own ?_)
  refine wpAny_bind (wpAny_specialOf hT BF.ba_buffer ?_)
  show wpAny M A (Bytes.ownRelease (.ref a) >>= _) _ _ _
  refine wpAny_bind ?_
  unfold Bytes.ownRelease Bytes.slotIsOwn
  refine wpAny_bind (wpAny_bind (wpAny_specialOf hT BF.ba_release ?_))
  show wpAny M A (if !("bytearray.__release_buffer__").endsWith ("." ++ "__release_buffer__") then _ else _) _ _ _
  rw [if_neg (by decide +kernel)]
  show wpAny M A (isInstance (.ref a) (.type ("bytearray.__release_buffer__".dropRight ("__release_buffer__".length + 1)))) _ _ _
  rw [show "bytearray.__release_buffer__".dropRight ("__release_buffer__".length + 1) = "bytearray" from by decide +kernel]
  refine wpAny_isInstance hT PySem.F.isi_self_bytearray ?_
  refine wpAny_pure ?_
  show wpAny M A (Bytes.payload (.ref a) >>= _) _ _ _
  exact wpAny_bind (ba_payload hb (wpAny_pure h))
end
end Mine

end
noncomputable section
open PySem PySem.W PyProof.Rows PySem.Calls
set_option maxRecDepth 100000
namespace Mine
open PySem.Builtin
set_option linter.deprecated false

section
variable {prog : Program} {w : World} {A : Around} {E : Value → Shared → Prop} {s : Shared} {a : Addr} {b : Array UInt8}

theorem ba_extend_by {T id : String} {v : Value} {x : Array UInt8} {Q : Value → Shared → Prop} (hg : A.guards = some []) (hb : s.heap.get? a = some (baObj b)) (hz : b.size + x.size ≤ sizeLine)
    (hT : s.TypeIs v T) (hl : typeLookup (.type T) "__buffer__" = pure (some (.builtin id))) (hid : id = "bytes.__buffer__" ∨ id = "bytearray.__buffer__")
    (hown : ∀ (M : Model) (A : Around) (E : Value → Shared → Prop) (Q' : Bool → Shared → Prop), Q' true s → wpAny M A (Bytes.slotIsOwn v "__buffer__") Q' E s)
    (hbuf : ∀ (M : Model) (A : Around) (E : Value → Shared → Prop) (i : String) (f : Bool) (Q' : Option (Array UInt8) → Shared → Prop), Q' (some x) s → wpAny M A (Bytes.buffer? i v f) Q' E s)
    (h : Q .none { s with heap := s.heap.update a (Obj.mapBytearray (· ++ x)) }) :
    wpS (model prog w) A (call (.builtin "bytearray.extend") [.ref a, v]) Q E s := by
  refine callS_entry (by decide +kernel) BF.slot_extend (ba_type hb) BF.entry_extend (BF.args_extend _ _) ?_
  show wpS _ A.in1 (specialOf v "__buffer__" >>= _) _ _ _
  refine wpS_step (wpAny_specialOf hT hl ?_)
  show wpS _ A.in1 (rule _ >>= fun _ => Bytes.payload (.ref a) >>= _) _ _ _
  refine wpS_step (wpAny_rule ?_)
  refine wpS_step (ba_payload hb ?_)
  refine wpS_step ?_
  unfold Bytes.takeBufferQuiet?
  refine wpAny_bind (wpAny_attempt ?_)
  unfold Bytes.takeBuffer?
  refine wpAny_bind (wpAny_specialOf hT hl ?_)
  refine wpAny_bind (hown _ _ _ _ ?_)
  refine wpAny_bind (wpAny_specialOf hT hl ?_)
  have wr : wpS (model prog w) A.in1 (Bytes.write (.ref a) (· ++ x) >>= fun _ => ret .none) (fun fin s' => ∃ v, fin = .done (.ret v) ∧ Q v s') E s :=
    wpS_step (ba_write hb (by rw [Array.size_append]; exact hz) (wpS_pure ⟨_, rfl, h⟩))
  have go : wpS (model prog w) A.in1 (do
      if !x.isEmpty then
        Bytes.checkResize (.ref a)
      Bytes.write (.ref a) (· ++ x)
      ret .none) (fun fin s' => ∃ v, fin = .done (.ret v) ∧ Q v s') E s := by
    dsimp only
    split
    · exact wpS_bind (can_resize hg hb wr)
    · first | exact wr | exact wpS_bind (wpS_pure wr)
  rcases hid with rfl | rfl
  all_goals
    show wpAny (model prog w) A.in1 (Bytes.buffer? "bytearray.extend" v ((0 : Int) == Bytes.fullReadOnly) >>= fun r => pure (r.map (·, none))) _ _ _
    refine wpAny_bind (hbuf _ _ _ _ _ _ (wpAny_pure (wpAny_pure ?_)))
    exact go

theorem ba_extend_bytes {x : Array UInt8} {t : Tok} {Q : Value → Shared → Prop} (hg : A.guards = some []) (hb : s.heap.get? a = some (baObj b)) (hz : b.size + x.size ≤ sizeLine)
    (h : Q .none { s with heap := s.heap.update a (Obj.mapBytearray (· ++ x)) }) :
    wpS (model prog w) A (call (.builtin "bytearray.extend") [.ref a, .bytes x t]) Q E s := by
  refine ba_extend_by hg hb hz (typeIs_bytes s x t) PySem.W.KBy.look_buffer (.inl rfl) (fun M A E Q' hq => ?_) (fun M A E i f Q' hq => bytes_buffer? hq) h
  unfold Bytes.slotIsOwn
  refine wpAny_bind (wpAny_specialOf (typeIs_bytes s x t) PySem.W.KBy.look_buffer ?_)
  show wpAny M A (if !("bytes.__buffer__").endsWith ("." ++ "__buffer__") then _ else _) _ _ _
  rw [if_neg (by decide +kernel)]
  show wpAny M A (isInstance (.bytes x t) (.type ("bytes.__buffer__".dropRight ("__buffer__".length + 1)))) _ _ _
  rw [show "bytes.__buffer__".dropRight ("__buffer__".length + 1) = "bytes" from by decide +kernel]
  exact wpAny_isInstance (typeIs_bytes s x t) F.sub_bytes_bytes hq

theorem ba_extend_ba {c : Addr} {x : Array UInt8} {Q : Value → Shared → Prop} (hg : A.guards = some []) (hb : s.heap.get? a = some (baObj b)) (hc : s.heap.get? c = some (baObj x)) (hz : b.size + x.size ≤ sizeLine)
    (h : Q .none { s with heap := s.heap.update a (Obj.mapBytearray (· ++ x)) }) :
    wpS (model prog w) A (call (.builtin "bytearray.extend") [.ref a, .ref c]) Q E s := by
  refine ba_extend_by hg hb hz (ba_type hc) BF.ba_buffer (.inr rfl) (fun M A E Q' hq => ?_) (fun M A E i f Q' hq => ba_buffer? hc hq) h
  unfold Bytes.slotIsOwn
  refine wpAny_bind (wpAny_specialOf (ba_type hc) BF.ba_buffer ?_)
  show wpAny M A (if !("bytearray.__buffer__").endsWith ("." ++ "__buffer__") then _ else _) _ _ _
  rw [if_neg (by decide +kernel)]
  show wpAny M A (isInstance (.ref c) (.type ("bytearray.__buffer__".dropRight ("__buffer__".length + 1)))) _ _ _
  rw [show "bytearray.__buffer__".dropRight ("__buffer__".length + 1) = "bytearray" from by decide +kernel]
  exact wpAny_isInstance (ba_type hc) PySem.F.isi_self_bytearray hq

/- bytes(b) of a bytearray -/
theorem bytes_of_ba {Q : Value → Shared → Prop} (hb : s.heap.get? a = some (baObj b)) (hz : b.size ≤ sizeLine)
    (h : Q (.bytes b s.toks) { s with toks := s.toks + 1 }) : wpAny (model prog w) A (call (.type "bytes") [.ref a]) Q E s := by
  have hT := ba_type hb
  refine callType_codes (Q₁ := fun obj s₁ => s₁.TypeIs obj "bytes" ∧ Q obj s₁) F.bm_called (F.bm_typeCall _) F.entry_object_init ?_ fun obj s₁ h₁ => ?_
  · refine codeAny_of_tree ?_
    show wpAny _ A.in1.in1 (do checkBuiltinCall "bytes.__new__" ⟨[.type "bytes", .ref a], []⟩; again (.builtin "bytes.__new__" ⟨[.type "bytes", .ref a], []⟩)) _ _ s
    refine wpAny_bind (wpAny_of_eq (F.bm_newCall _) (wpAny_pure ⟨plainId_quiet F.bm_plain _, codeAny_builtin F.bm_entry ?_⟩))
    rw [Around.under_plainId F.bm_plain _]
    unfold Builtin.«bytes.__new__»
    refine wpAny_bind (wpAny_of_eq (a := true) rfl ?_)
    refine bm_if_false rfl ?_
    refine wpAny_bind (wpAny_of_eq F.bm_sub ?_)
    refine bm_if_false rfl ?_
    refine wpAny_bind (wpAny_of_eq (F.bm_bind _) ?_)
    refine wpAny_bind (wpAny_of_eq (a := ()) rfl ?_)
    refine wpAny_bind (wpAny_of_eq (a := ()) rfl ?_)
    refine bm_if_false rfl ?_
    refine wpAny_bind (wpAny_specialOf hT BF.ba_no_bytes ?_)
    refine wpAny_bind (wpAny_bind ?_)
    show wpAny _ _ (load a >>= _) _ _ _
    refine wpAny_bind (wpAny_load hb ?_)
    refine wpAny_pure (wpAny_pure ?_)
    refine bm_if_false rfl ?_
    refine wpAny_bind (wpAny_specialOf hT BF.ba_no_index ?_)
    refine bm_if_true rfl ?_
    first
      | show wpAny _ _ (Builtin.Bytes.buffer? "bytes.__new__" (.ref a) true >>= _) _ _ _
      | (refine wpAny_bind ?_; show wpAny _ _ (Builtin.Bytes.buffer? "bytes.__new__" (.ref a) true >>= _) _ _ _)
    refine wpAny_bind (ba_buffer? hb ?_)
    show wpAny _ _ (rule _ >>= fun _ => mkBytes b >>= _) _ _ _
    refine wpAny_bind (wpAny_rule (wpAny_bind (wpAny_mkBytes ?_ hz)))
    show wpAny _ _ (if (Value.type "bytes" == Value.type "bytes") = true then _ else _) _ _ _
    refine bm_if_true (by decide) ?_
    first
      | exact wpAny_pure (wpAny_pure ⟨typeIs_bytes _ _ _, h⟩)
      | exact wpAny_bind (wpAny_pure (wpAny_pure ⟨typeIs_bytes _ _ _, h⟩))
      | exact wpAny_pure ⟨typeIs_bytes _ _ _, h⟩
  · exact ⟨h₁.1, F.args_object_init_2 obj _, object_init_meets F.bm_called.init.lookup F.bm_called.made (by decide) prog w A.in1 _ s₁ ⟨h₁.1, rfl, h₁.2⟩⟩
end
end Mine

end
noncomputable section
open PySem PySem.W PyProof.Rows PySem.Calls
set_option maxRecDepth 100000
namespace Mine
open PySem.Builtin
set_option linter.deprecated false
namespace BF
theorem lookup_new : typeLookup (.type "bytearray") "__new__" = pure (some (.builtin "bytearray.__new__")) := by rw [typeLookup_type, builtinLookup_eq_fast]; kernel_rfl
theorem mro : mroOf (.type "bytearray") = pure [.type "bytearray", .type "object"] := by rw [mroOf_type]; kernel_rfl
theorem slot_init : Slot "bytearray" "__init__" "bytearray.__init__" :=
  .of (owner := "bytearray") (n := "__init__") (by rw [typeLookup_type, builtinLookup_eq_fast]; kernel_rfl) (by decide +kernel) (by decide +kernel) (by decide +kernel)
    (by first | exact .inl (by decide +kernel) | exact .inr (by decide +kernel)) (by rw [isSubtype_type]; kernel_rfl)
theorem called : TypeCalled "bytearray" "bytearray.__new__" "bytearray.__init__" :=
  ⟨by decide +kernel, by decide +kernel, ⟨_, _, mro⟩, madeBy_type mro lookup_new (by decide +kernel), by decide +kernel, by rw [isSubtype_type]; kernel_rfl, slot_init⟩
theorem typeCall : checkTypeCall "bytearray" ⟨[], []⟩ = pure () := by kernel_rfl
theorem newCall : checkBuiltinCall "bytearray.__new__" ⟨[.type "bytearray"], []⟩ = pure () := by kernel_rfl
theorem entry_new : entryFor table "bytearray.__new__" = some Builtin.«list.__new__» := entryFor_alias (id' := "list.__new__") (by rw [fastTable_eq_tree]; kernel_rfl) rfl (by decide +kernel) (by rw [fastTable_eq_tree]; kernel_rfl)
theorem plain_new : plainId "bytearray.__new__" = true := by decide +kernel
theorem entry_init : entryFor table "bytearray.__init__" = some Builtin.«bytearray.__init__» := entryFor_of_tree (by kernel_rfl)
theorem args_init (a : Value) : argsOk "bytearray.__init__" ⟨[a], []⟩ := by
  unfold argsOk; rw [signature?_of (id := "bytearray.__init__") (n := ['_', '_', 't', 'i', 'n', 'i', '_', '_']) (o := ['y', 'a', 'r', 'r', 'a', 'e', 't', 'y', 'b']) (by kernel_rfl) owner]; kernel_rfl
theorem bind0 : Bytes.bindOptional "bytearray.__init__" "bytearray" ["source", "encoding", "errors"] [] [] = pure [none, none, none] := by kernel_rfl
theorem no_dict : typeHasDict (.type "bytearray") = false := by decide +kernel
end BF

section
variable {prog : Program} {w : World} {A : Around} {E : Value → Shared → Prop} {s : Shared} {a : Addr} {b : Array UInt8}

theorem ba_code_new {R : Result → Shared → Prop}
    (h : R (.ok (.ret (.ref s.heap.objs.size))) { s with heap := s.heap.push (baObj #[]) }) :
    codeAny (model prog w) A (.call (.builtin "bytearray.__new__") ⟨[.type "bytearray"], []⟩) R s := by
  refine codeAny_of_tree ?_
  show wpAny _ A.in1 (do checkBuiltinCall "bytearray.__new__" ⟨[.type "bytearray"], []⟩; again (.builtin "bytearray.__new__" ⟨[.type "bytearray"], []⟩)) _ _ s
  refine wpAny_bind (wpAny_of_eq BF.newCall (wpAny_pure ⟨plainId_quiet BF.plain_new _, codeAny_builtin_stack BF.entry_new rfl fun p st => ?_⟩))
  rw [Around.under_plainId BF.plain_new _]
  have hown : ("bytearray.__new__".splitOn ".__new__").headD "" = "bytearray" := by rw [split_bytearray]; rfl
  simp only [hown]
  refine wpAny_bind (wpAny_of_eq (a := true) rfl ?_)
  refine bm_if_false rfl ?_
  refine wpAny_bind (wpAny_of_eq PySem.F.isi_self_bytearray ?_)
  refine bm_if_false rfl ?_
  refine wpAny_bind (wpAny_pure ?_)
  refine bm_if_true (by rw [BF.no_dict]; rfl) ?_
  refine wpAny_bind (wpAny_newObj_type ?_ (Nat.zero_le _))
  exact wpAny_pure h

/-- bytearray() : an empty one, new -/
theorem ba_new {Q : Value → Shared → Prop} (hg : A.guards = some [])
    (h : ∀ h', (∀ b o, s.heap.get? b = some o → h'.get? b = some o) → h'.get? s.heap.objs.size = some (baObj #[]) → Q (.ref s.heap.objs.size) { s with heap := h' }) :
    wpS (model prog w) A (call (.type "bytearray") []) Q E s := by
  refine wpS_call (codeS_of_tree rfl ?_)
  show wpS _ A.in1 (callAny (.type "bytearray") ⟨[], []⟩) _ _ _
  refine wpS_pure ⟨Code.quiet_builtin _ (by decide +kernel), codeS_builtin_at (by decide +kernel) F.entry_type_call ?_⟩
  rw [Around.under_plain (weight_type_call_type "bytearray" [] []) rfl]
  show wpS _ A.in1 (checkTypeCall "bytearray" ⟨[], []⟩ >>= _) _ _ s
  refine wpS_step (wpAny_of_eq BF.typeCall ?_)
  refine wpS_step (wpAny_of_eq BF.mro ?_)
  refine wpS_step (wpAny_of_eq BF.called.made ?_)
  refine wpS_step (wpAny_pure ?_)
  refine wpS_step (wpAny_holding (wpAny_call (ba_code_new ?_)))
  have hb : (s.heap.push (baObj #[])).get? s.heap.objs.size = some (baObj #[]) := Heap.get?_push_size _ rfl
  show wpS _ A.in1 (isInstance (.ref s.heap.objs.size) (.type "bytearray") >>= _) _ _ { s with heap := s.heap.push (baObj #[]) }
  refine wpS_step (wpAny_isInstance (ba_type (s := { s with heap := s.heap.push (baObj #[]) }) hb) BF.called.sub ?_)
  show wpS _ A.in1 (holding [.ref s.heap.objs.size] (callSpecial? (.ref s.heap.objs.size) "__init__" [] []) >>= _) _ _ _
  refine wpS_bind (wpS_holding ?_)
  simp only [callSpecial?]
  refine wpS_step (wpAny_specialOf (ba_type (s := { s with heap := s.heap.push (baObj #[]) }) hb) BF.slot_init.lookup ?_)
  simp only [BF.slot_init.bind]
  refine wpS_holding (wpS_bind (wpS_pure (wpS_bind ?_)))
  refine callS_entry (by decide +kernel) BF.slot_init (ba_type (s := { s with heap := s.heap.push (baObj #[]) }) hb) BF.entry_init (BF.args_init _) ?_
  show wpS _ _ (Bytes.ownRelease (.ref s.heap.objs.size) >>= _) _ _ _
  refine wpS_step ?_
  unfold Bytes.ownRelease Bytes.slotIsOwn
  refine wpAny_bind (wpAny_bind (wpAny_specialOf (ba_type (s := { s with heap := s.heap.push (baObj #[]) }) hb) BF.ba_release ?_))
  show wpAny _ _ (if !("bytearray.__release_buffer__").endsWith ("." ++ "__release_buffer__") then _ else _) _ _ _
  rw [if_neg (by decide +kernel)]
  show wpAny _ _ (isInstance (.ref s.heap.objs.size) (.type ("bytearray.__release_buffer__".dropRight ("__release_buffer__".length + 1)))) _ _ _
  rw [show "bytearray.__release_buffer__".dropRight ("__release_buffer__".length + 1) = "bytearray" from by decide +kernel]
  refine wpAny_isInstance (ba_type (s := { s with heap := s.heap.push (baObj #[]) }) hb) PySem.F.isi_self_bytearray ?_
  refine wpAny_pure ?_
  show wpS _ _ (Bytes.bindOptional "bytearray.__init__" "bytearray" ["source", "encoding", "errors"] [] [] >>= _) _ _ _
  refine wpS_step (wpAny_of_eq BF.bind0 ?_)
  refine wpS_step (wpAny_of_eq (a := ()) rfl ?_)
  refine wpS_step (wpAny_of_eq (a := ()) rfl ?_)
  unfold orM
  refine wpS_bind (wpS_bind (no_export _ hg ?_))
  show wpS _ _ (Bytes.exportsOf (.ref s.heap.objs.size) >>= fun n => pure (decide (n > 0))) _ _ _
  refine wpS_of (wpAny_bind ?_)
  unfold Bytes.exportsOf
  refine wpAny_bind (wpAny_load hb ?_)
  refine wpAny_pure (wpAny_pure ?_)
  show wpS _ _ (Bytes.write (.ref s.heap.objs.size) (fun _ => #[]) >>= _) _ _ _
  refine wpS_step (ba_write hb (Nat.zero_le _) ?_)
  have hb₂ := Heap.get?_update_self (Obj.mapBytearray fun _ => (#[] : Array UInt8)) hb rfl
  refine wpS_pure ⟨_, rfl, ?_⟩
  refine wpS_pure ?_
  refine wpS_pure (h _ (fun b o e => ?_) hb₂)
  exact (Heap.get?_update_other _ _ (Nat.ne_of_lt (Heap.lt_size e)).symm).trans (Heap.get?_push_of_some _ e)
end
end Mine

end
noncomputable section
open PySem PySem.W PyProof.Rows PySem.Calls
set_option maxRecDepth 100000
namespace Mine
open PySem.Builtin
namespace BI
theorem slot_iter : Slot "bytearray" "__iter__" "bytearray.__iter__" :=
  .of (owner := "bytearray") (n := "__iter__") (by rw [typeLookup_type, builtinLookup_eq_fast]; kernel_rfl) (by decide +kernel) (by decide +kernel) (by decide +kernel)
    (by first | exact .inl (by decide +kernel) | exact .inr (by decide +kernel)) (by rw [isSubtype_type]; kernel_rfl)
theorem entry_iter : entryFor table "bytearray.__iter__" = some Builtin.«bytearray.__iter__» := entryFor_of_tree (by kernel_rfl)
theorem args_iter (a : Value) : argsOk "bytearray.__iter__" ⟨[a], []⟩ := by
  unfold argsOk; rw [signature?_of (id := "bytearray.__iter__") (n := ['_', '_', 'r', 'e', 't', 'i', '_', '_']) (o := ['y', 'a', 'r', 'r', 'a', 'e', 't', 'y', 'b']) (by kernel_rfl) BF.owner]; kernel_rfl
theorem slot_next : Slot "bytearray_iterator" "__next__" "bytearray_iterator.__next__" :=
  .of (owner := "bytearray_iterator") (n := "__next__") (by rw [typeLookup_type, builtinLookup_eq_fast]; kernel_rfl) (by decide +kernel) (by decide +kernel) (by decide +kernel)
    (by first | exact .inl (by decide +kernel) | exact .inr (by decide +kernel)) (by rw [isSubtype_type]; kernel_rfl)
theorem slot_self : Slot "bytearray_iterator" "__iter__" "bytearray_iterator.__iter__" :=
  .of (owner := "bytearray_iterator") (n := "__iter__") (by rw [typeLookup_type, builtinLookup_eq_fast]; kernel_rfl) (by decide +kernel) (by decide +kernel) (by decide +kernel)
    (by first | exact .inl (by decide +kernel) | exact .inr (by decide +kernel)) (by rw [isSubtype_type]; kernel_rfl)
theorem entry_next : entryFor table "bytearray_iterator.__next__" = some Builtin.«bytearray_iterator.__next__» := entryFor_of_tree (by kernel_rfl)
theorem entry_self : entryFor table "bytearray_iterator.__iter__" = some Builtin.«dict_keyiterator.__iter__» := entryFor_alias (id' := "dict_keyiterator.__iter__") (by rw [fastTable_eq_tree]; kernel_rfl) rfl (by decide +kernel) (by rw [fastTable_eq_tree]; kernel_rfl)
theorem args_next (a : Value) : argsOk "bytearray_iterator.__next__" ⟨[a], []⟩ := by unfold argsOk; kernel_rfl
theorem args_self (a : Value) : argsOk "bytearray_iterator.__iter__" ⟨[a], []⟩ := by unfold argsOk; kernel_rfl

/-- the walk of a bytearray -/
def IsIter (h : Heap) (I a : Addr) (b : Array UInt8) (i : Nat) : Prop :=
  (∃ o, h.get? I = some o ∧ o.cls = .type "bytearray_iterator" ∧ o.data = .fields #[.ref a, .int i 0]) ∧ h.get? a = some (baObj b)

section
variable {prog : Program} {w : World} {A : Around} {E : Value → Shared → Prop} {s : Shared} {b : Array UInt8} {a I : Addr} {i : Nat}
theorem typeIs (y : IsIter s.heap I a b i) : s.TypeIs (.ref I) "bytearray_iterator" := let ⟨⟨o, ho, hc, _⟩, _⟩ := y; ⟨o, ho, hc⟩

theorem pyIter_ba {Q : Value → Shared → Prop} (hb : s.heap.get? a = some (baObj b))
    (hQ : Q (.ref s.heap.objs.size) { s with heap := s.heap.push { cls := .type "bytearray_iterator", data := .fields #[.ref a, .int 0 0] } }) : wpAny (model prog w) A (pyIter (.ref a)) Q E s := by
  refine wpAny_pyIter_slot (ba_type hb) slot_iter (wpAny_call_entry slot_iter (ba_type hb) entry_iter ?_ (args_iter _))
  show wpAny _ _ (do ret (← newFields "bytearray_iterator" [.ref a, rawInt 0])) _ _ s
  exact wpAny_bind (wpAny_newObj_type (wpAny_pure ⟨_, rfl, "bytearray_iterator", _, ⟨_, Heap.get?_push_size _ rfl, rfl⟩, slot_next.lookup, hQ⟩))

theorem pyIter_self {Q : Value → Shared → Prop} (hit : IsIter s.heap I a b i) (h : Q (.ref I) s) : wpAny (model prog w) A (pyIter (.ref I)) Q E s := by
  refine wpAny_pyIter_slot (typeIs hit) slot_self (wpAny_call_entry slot_self (typeIs hit) entry_self ?_ (args_self _))
  show wpAny _ _ (ret (.ref I)) _ _ s
  exact wpAny_pure ⟨_, rfl, "bytearray_iterator", _, typeIs hit, slot_next.lookup, h⟩

theorem next_item {c : UInt8} {Q : Option Value → Shared → Prop} (hit : IsIter s.heap I a b i) (hx : b[i]? = some c)
    (hQ : ∀ h', IsIter h' I a b (i + 1) → Heap.SameBut I s.heap h' → Q (some (.int (c.toNat : Int) s.toks)) { s with heap := h', toks := s.toks + 1 }) : wpAny (model prog w) A (pyNext (.ref I)) Q E s := by
  obtain ⟨⟨o, ho, hc, hd⟩, hb⟩ := id hit
  have hne : a ≠ I := fun e => by subst e; rw [hb] at ho; cases ho; cases hd
  unfold pyNext
  refine wpAny_bind (wpAny_attempt (wpAny_callSpecial?_slot (name := PySem.Str.ofString "__next__") (typeIs hit) slot_next
    (wpAny_call_entry slot_next (typeIs hit) entry_next ?_ (args_next _))))
  show wpAny _ _ (field (.ref I) 0 >>= _) _ _ s
  refine wpAny_bind (wpAny_field ho hd (x := .ref a) rfl ?_)
  show wpAny _ _ (load a >>= _) _ _ s
  refine wpAny_bind (wpAny_load hb ?_)
  show wpAny _ _ (field (.ref I) 1 >>= _) _ _ s
  refine wpAny_bind (wpAny_field ho hd (x := .int i 0) rfl ?_)
  simp only [Int.toNat_natCast, hx]
  refine wpAny_bind (wpAny_setField ho hd (by simp) (wpAny_bind (wpAny_mkInt (wpAny_pure ⟨_, rfl, wpAny_pure (hQ _ ?_ (Heap.SameBut.update ..))⟩))))
  refine ⟨⟨_, Heap.get?_update_self _ ho (Obj.isFreed_of_fields (Obj.data_mapFields hd _)), (Obj.cls_mapFields ..).trans hc, by
    rw [Obj.data_mapFields hd]; simp [rawInt]⟩, ?_⟩
  exact (Heap.get?_update_other _ _ (Ne.symm hne)).trans hb

theorem next_end {Q : Option Value → Shared → Prop} (hh : A.handled = none) (hit : IsIter s.heap I a b i) (hx : b[i]? = none)
    (hQ : ∀ h', Heap.ExtBut I s.heap h' → Q none { s with heap := h' }) : wpAny (model prog w) A (pyNext (.ref I)) Q E s := by
  obtain ⟨⟨o, ho, hc, hd⟩, hb⟩ := id hit
  unfold pyNext
  refine wpAny_bind (wpAny_attempt (wpAny_callSpecial?_slot (name := PySem.Str.ofString "__next__") (typeIs hit) slot_next
    (wpAny_call_entry slot_next (typeIs hit) entry_next ?_ (args_next _))))
  show wpAny _ _ (field (.ref I) 0 >>= _) _ _ s
  refine wpAny_bind (wpAny_field ho hd (x := .ref a) rfl ?_)
  show wpAny _ _ (load a >>= _) _ _ s
  refine wpAny_bind (wpAny_load hb ?_)
  show wpAny _ _ (field (.ref I) 1 >>= _) _ _ s
  refine wpAny_bind (wpAny_field ho hd (x := .int i 0) rfl ?_)
  simp only [Int.toNat_natCast, hx]
  refine wpAny_bind (wpAny_rule (wpAny_bind (wpAny_setField ho hd (by simp) (wpAny_bind (wpAny_letGo ?_)))))
  show wpAny _ _ (newExc (.type "StopIteration") [] >>= _) _ _ _
  refine wpAny_bind ?_
  simp only [newExc, newTuple]
  refine wpAny_bind (wpAny_newObj_type ?_ (by size_fits))
  refine wpAny_bind (m := firstArgMember _ _) (wpAny_of_eq (a := Value.none) (by first | rfl | (simp only [firstArgMember]; rfl)) ?_)
  refine wpAny_newObj_type ?_ (by size_fits)
  simp only [raiseNew]
  refine wpAny_bind (wpAny_handled ?_)
  rw [show A.in1.handled = none from hh]
  refine wpAny_bind (wpAny_pure (wpAny_throw ?_))
  refine wpAny_bind (wpAny_isInstance (T := "StopIteration") (b := true) ⟨_, Heap.get?_push_size _ rfl, rfl⟩ isSubtype_stop ?_)
  exact wpAny_pure (hQ _ (((Heap.SameBut.update ..).extBut.push _).push _))
end

theorem walks {prog : Program} {w : World} {A : Around} (hh : A.handled = none) (I a : Addr) (hne : a ≠ I) (b : Array UInt8) :
    Walks prog w A I [I, a] [I] b.size (fun i v => ∃ c u, b[i]? = some c ∧ v = .int (c.toNat : Int) u) (fun i h => IsIter h I a b i) where
  sub := fun b hb => by rcases List.mem_singleton.mp hb with rfl; exact .head _
  frame := fun _ _ _ st hk => let ⟨⟨o, ho, r⟩, hb⟩ := st; ⟨⟨o, hk I (by simp) o ho, r⟩, hk a (by simp) _ hb⟩
  item := fun i s Q E hi st hQ => by
    refine next_item st (c := b[i]) (by simp [hi]) fun h' hit' hs' => ?_
    exact hQ _ h' (s.toks + 1) ⟨_, _, by simp [hi], rfl⟩ hit' fun b o hb e => hs'.extBut b o (fun h => hb (by simp [h])) e
  done := fun s Q E st hQ => next_end hh st (by simp) fun h' he' => hQ h' s.toks fun b o hb e => he' b o (fun h => hb (by simp [h])) e
  self := fun _ _ _ _ st hQ => pyIter_self st hQ
end BI

section
variable {prog : Program} {w : World} {A : Around} {E : Value → Shared → Prop} {s : Shared} {b : Array UInt8} {a : Addr}


theorem octs_of_items {acc : Array Value} (h : ItemsOf (fun i v => ∃ c u, b[i]? = some c ∧ v = .int (c.toNat : Int) u) acc b.size) : IntsAre acc.toList (PySem.W.KBw.bInts b) := by
  have gen : ∀ (l : List Value) (m : List UInt8), l.length = m.length → (∀ (j : Nat) (v : Value), l[j]? = some v → ∃ c u, m[j]? = some c ∧ v = .int (c.toNat : Int) u) → IntsAre l (m.map fun c => (c.toNat : Int)) := by
    intro l
    induction l with
    | nil =>
      intro m hm _
      cases m with
      | nil => exact .nil
      | cons _ _ => cases hm
    | cons v l ih =>
      intro m hm hv
      cases m with
      | nil => cases hm
      | cons c m =>
        obtain ⟨c', u, e, rfl⟩ := hv 0 v rfl
        cases e
        exact .cons _ _ (ih m (by simpa using hm) fun j x hx => hv (j + 1) x hx)
  refine gen acc.toList b.toList (by simp [h.1]) fun j v hj => ?_
  obtain ⟨c, u, hc, hv⟩ := h.2 j v (by simpa using hj)
  exact ⟨c, u, by simpa using hc, hv⟩

theorem list_of_ba {Q : Value → Shared → Prop} (hh : A.handled = none) (hb : s.heap.get? a = some (baObj b)) (hz : b.size ≤ sizeLine)
    (hQ : ∀ h' tk vs n, (∀ b o, s.heap.get? b = some o → h'.get? b = some o) → h'.get? s.heap.objs.size = some (listOf (List.toArray vs) n) → IntsAre vs (PySem.W.KBw.bInts b) → Q (.ref s.heap.objs.size) { s with heap := h', toks := tk }) :
    wpAny (model prog w) A (call (.type "list") [.ref a]) Q E s := by
  refine callType_codes (Q₁ := fun obj s₁ => obj = .ref s.heap.objs.size ∧ s₁ = { s with heap := s.heap.push { cls := .type "list", data := .seq #[] } }) F.called_list (F.typeCall_list_1 _) F.entry_list_init
    (code_list_new _ ⟨rfl, rfl⟩) fun obj s₁ h₁ => ?_
  obtain ⟨rfl, rfl⟩ := h₁
  have hS : (s.heap.push { cls := .type "list", data := .seq #[] }).get? s.heap.objs.size = some { cls := .type "list", data := .seq #[] } := Heap.get?_push_size _ rfl
  have hb₁ : (s.heap.push { cls := .type "list", data := .seq #[] }).get? a = some (baObj b) := Heap.get?_push_of_some _ hb
  have hSa : s.heap.objs.size ≠ a := fun e => absurd (Heap.lt_size hb) (by rw [e]; exact Nat.lt_irrefl _)
  refine ⟨⟨_, hS, rfl⟩, F.args_list_init_2 _ _, ?_⟩
  generalize hh1 : s.heap.push { cls := .type "list", data := .seq #[] } = h1 at *
  have keep1 : ∀ c o, s.heap.get? c = some o → h1.get? c = some o := fun c o e => by rw [← hh1]; exact Heap.get?_push_of_some _ e
  show wpAny _ _ (do let old ← Builtin.List.listItems (.ref s.heap.objs.size); Builtin.List.listUpdate (.ref s.heap.objs.size) (fun _ => #[]); letGo old.toList.reverse; Builtin.List.listExtendWith (.ref s.heap.objs.size) (.ref a) .none) _ _ _
  refine wpAny_bind ?_
  unfold Builtin.List.listItems
  refine wpAny_bind (wpAny_seqItems hS rfl (wpAny_pure ?_))
  show wpAny _ _ (updateSeq s.heap.objs.size (fun _ => #[]) >>= fun _ => letGo (#[] : Array Value).toList.reverse >>= fun _ => Builtin.List.listExtendWith (.ref s.heap.objs.size) (.ref a) .none) _ _ _
  refine wpAny_bind (wpAny_updateSeq hS rfl ?_)
  have hS₂ : (h1.update s.heap.objs.size (Obj.mapSeq (fun _ => (#[] : Array Value)))).get? s.heap.objs.size = some { cls := .type "list", dict := none, data := .seq #[] 0, slots := #[] } := Heap.get?_update_self (Obj.mapSeq (fun _ => (#[] : Array Value))) hS rfl
  have hb₂ : (h1.update s.heap.objs.size (Obj.mapSeq (fun _ => (#[] : Array Value)))).get? a = some (baObj b) := (Heap.get?_update_other _ _ hSa).trans hb₁
  have oth : ∀ c o, s.heap.get? c = some o → (h1.update s.heap.objs.size (Obj.mapSeq (fun _ => (#[] : Array Value)))).get? c = some o :=
    fun c o e => (Heap.get?_update_other _ _ (Nat.ne_of_gt (Heap.lt_size e))).trans (keep1 c o e)
  generalize h1.update s.heap.objs.size (Obj.mapSeq (fun _ => (#[] : Array Value))) = h2 at *
  refine wpAny_bind (wpAny_letGo ?_)
  unfold Builtin.List.listExtendWith
  have hT₂ : ({ s with heap := h2 } : Shared).TypeIs (.ref a) "bytearray" := ⟨_, hb₂, rfl⟩
  refine wpAny_bind (wpAny_typeOf hT₂ ?_)
  have e1 : Builtin.List.listSameRef (.ref s.heap.objs.size) (.ref a) = false := by simp [Builtin.List.listSameRef, hSa]
  have e2 : (Value.type "bytearray" == Value.type "list") = false := by decide
  have e3 : (Value.type "bytearray" == Value.type "tuple") = false := by decide
  simp only [e1, e2, e3, Bool.or_false, Bool.false_eq_true, if_false]
  refine wpAny_bind (BI.pyIter_ba hb₂ ?_)
  have hS₃ : (h2.push { cls := .type "bytearray_iterator", data := .fields #[.ref a, .int 0 0] }).get? s.heap.objs.size = _ := Heap.get?_push_of_some _ hS₂
  have hb₃ : (h2.push { cls := .type "bytearray_iterator", data := .fields #[.ref a, .int 0 0] }).get? a = some (baObj b) := Heap.get?_push_of_some _ hb₂
  have hit : BI.IsIter (h2.push { cls := .type "bytearray_iterator", data := .fields #[.ref a, .int 0 0] }) h2.objs.size a b 0 := ⟨⟨_, Heap.get?_push_size _ rfl, rfl, rfl⟩, hb₃⟩
  have hIa : a ≠ h2.objs.size := Nat.ne_of_lt (Heap.lt_size hb₂)
  have hIS : s.heap.objs.size ≠ h2.objs.size := Nat.ne_of_lt (Heap.lt_size hS₂)
  have oth3 : ∀ c o, s.heap.get? c = some o → (h2.push { cls := .type "bytearray_iterator", data := .fields #[.ref a, .int 0 0] }).get? c = some o ∧ c ≠ h2.objs.size := fun c o e => ⟨Heap.get?_push_of_some _ (oth c o e), Nat.ne_of_lt (Heap.lt_size (oth c o e))⟩
  generalize h2.push { cls := .type "bytearray_iterator", data := .fields #[.ref a, .int 0 0] } = h3 at *
  refine wpAny_bind (wpAny_holding ?_)
  unfold Builtin.List.listLengthHint
  have hT₃ : ({ s with heap := h3 } : Shared).TypeIs (.ref a) "bytearray" := ⟨_, hb₃, rfl⟩
  refine wpAny_bind (wpAny_specialOf hT₃ BF.slot_len.lookup ?_)
  dsimp only
  rw [show splitId "bytearray.__len__" = some ("bytearray", "__len__") from by decide +kernel]
  dsimp only
  refine wpAny_bind (wpAny_isInstance hT₃ PySem.F.isi_self_bytearray ?_)
  refine bm_if_false rfl ?_
  refine bm_if_true (by decide +kernel) ?_
  refine wpAny_bind (wpAny_typeOf hT₃ ?_)
  refine wpAny_pure ?_
  rw [if_neg (by decide)]
  refine wpAny_pure ⟨plainId_quiet F.plain_extend_loop _, codeAny_extend_loopS (BI.walks (prog := prog) (w := w) (A := A.in1.in1) hh h2.objs.size a hIa b).toS hz s.heap.objs.size (by
    intro hm
    rcases List.mem_cons.mp hm with e | hm
    · exact hIS e
    · exact hSa (List.mem_singleton.mp hm)) _ b.size 0 _ _ _ rfl (Nat.zero_le _) hit hS₃ (ItemsOf.nil _) fun s' acc' c' hm hS' hacc => ?_⟩
  rw [Moved.eq_with hm]
  refine ⟨rfl, ?_⟩
  refine hQ s'.heap s'.toks acc'.toList c' (fun c o e => hm.heap c o (fun hmem => ?_) (oth3 c o e).1) (by simpa using hS') (octs_of_items hacc)
  rcases List.mem_cons.mp hmem with e' | hmem
  · exact absurd (Heap.lt_size e) (by rw [e']; exact Nat.lt_irrefl _)
  · exact (oth3 c o e).2 (List.mem_singleton.mp hmem)
end
end Mine

end
noncomputable section
open PySem PySem.W PyProof.Rows PySem.Calls
set_option maxRecDepth 100000
namespace Mine

/-- the program as the hidden heap shows it (no tables) -/
noncomputable abbrev PV : Program := topProg
noncomputable abbrev LV : List Str := looseW MineHead.view_1 [Str.ofString "BoardError", Str.ofString "Uart", Str.ofString "LineInput"]
noncomputable abbrev LO : List Str := LV ++ (recsOf MineHead.view_1).map (·.name) ++ (litsOf MineHead.view_1).map (·.1) ++ (clssOf MineHead.view_1 LV).map (·.name)
noncomputable abbrev PR : Program := PySem.Challenge.rw_nu0085_01.row.toRowW.prog

abbrev Led := List (Addr × Obj)
abbrev adr (g : Led) : List Addr := g.map (·.1)

/-- room for n calls more -/
structure Room (A : Around) (n : Nat) : Prop where
  depth : A.depth + n ≤ 900
  units : A.units + 10 * n ≤ 9000
  handled : A.handled = none
  guards : A.guards = some []
theorem Room.deeper {A : Around} {n : Nat} (h : Room A (n + 1)) (env : Env) : Room (A.deeper env) n :=
  ⟨by have := h.depth; show A.depth + 1 + n ≤ 900; omega, by have := h.units; show A.units + 3 + 10 * n ≤ 9000; omega, h.handled, h.guards⟩
theorem Room.le {A : Around} {n m : Nat} (h : Room A n) (e : m ≤ n) : Room A m := ⟨by have := h.depth; omega, by have := h.units; omega, h.handled, h.guards⟩
theorem Room.lim {A : Around} {n : Nat} (h : Room A n) : A.depth < recursionLimit := by have := h.depth; show A.depth < 1000; omega

structure Pre (w : World) (A : Around) (base : Heap) (fs : List Env) (n : Nat) (s : Shared) (g : Led) : Prop where
  bel : Below A base fs (hideAll s.heap (adr g))
  kin : (MineHead.hd.heap_1 w.params).In (hideAll s.heap (adr g))
  top : ∃ mean mg mb, Top PV LO mean mg mb (hideAll s.heap (adr g))
  got : ∀ p ∈ g, s.heap.get? p.1 = some p.2
  dj : (adr g).Nodup
  room : Room A n

structure Post (h : Heap) (g : Led) (h' : Heap) (g' : Led) : Prop where
  kept : ∀ b o, b ∉ adr g → h.get? b = some o → h'.get? b = some o
  got : ∀ p ∈ g', h'.get? p.1 = some p.2
  new : ∀ p ∈ g', p.1 ∈ adr g ∨ h.get? p.1 = none
  dj : (adr g').Nodup

/-- a body's end -/
def Leave (P : Value → Led → Prop) (g' : Heap) (L' : Addr) (s : Shared) (v : Value) (s' : Shared) : Prop :=
  ∃ h' tk m' g'', s' = { s with heap := h', toks := tk } ∧ Fr g' L' h' m' ∧ News g' L' h' g'' ∧ (adr g'').Nodup ∧ P v g''

theorem Post.of {s : Shared} {g : Led} {L' : Addr} {h' : Heap} {m' : Str → Option Value} {g'' : Led} (F : Fr (hideAll s.heap (adr g)) L' h' m') (N : News (hideAll s.heap (adr g)) L' h' g'') (D : (adr g'').Nodup) : Post s.heap g h' g'' where
  kept := fun b o hb e => F.keep b o (hideAll_get _ e hb)
  got := fun p hp => (N p hp).1
  new := fun p hp => by
    by_cases hm : p.1 ∈ adr g
    · exact .inl hm
    · refine .inr ?_
      cases q : s.heap.get? p.1 with
      | none => rfl
      | some o => have := (N p hp).2.2; rw [hideAll_get _ q hm] at this; cases this
  dj := D

theorem Pre.of {w : World} {A : Around} {base h₀ : Heap} {fs : List Env} {n : Nat} {s : Shared} {g : Led} {L : Addr} {m : Str → Option Value} {env : Env} {mean : ExcName → Option Value} {mg mb : Str → Option Value}
    (B : Below A base fs h₀) (F : Fr h₀ L s.heap m) (X : (MineHead.hd.heap_1 w.params).In h₀) (T : Top PV LO mean mg mb h₀) (hf : env.frame = some L) (hk : env.scope.kind = .function)
    (R : Room (A.deeper env) n) (N : News h₀ L s.heap g) (D : (adr g).Nodup) : Pre w (A.deeper env) base (env :: fs) n s g := by
  obtain ⟨_, BG, st, _⟩ := groundX (R := fun _ _ => True) B F N (Around.frames_deeper B.stack : (A.deeper env).frames = some (env :: fs)) hf hk
  exact ⟨BG, X.keeps st, ⟨mean, mg, mb, T.keeps st⟩, fun p hp => (N p hp).1, D, R⟩

theorem Post.back {s : Shared} {h₀ h' : Heap} {L : Addr} {m : Str → Option Value} {g g' rest : Led} (F : Fr h₀ L s.heap m) (N : News h₀ L s.heap (g ++ rest)) (D : (adr (g ++ rest)).Nodup) (P : Post s.heap g h' g') :
    Fr h₀ L h' m ∧ News h₀ L h' (g' ++ rest) ∧ (adr (g' ++ rest)).Nodup := by
  have nL : L ∉ adr g := fun q => by
    obtain ⟨p, hp, e⟩ := List.mem_map.mp q
    exact (N p (List.mem_append_left _ hp)).2.1 e
  have n0 : ∀ b o, h₀.get? b = some o → b ∉ adr g := fun b o e q => by
    obtain ⟨p, hp, rfl⟩ := List.mem_map.mp q
    rw [(N p (List.mem_append_left _ hp)).2.2] at e; cases e
  have D' := D
  rw [adr, List.map_append, List.nodup_append] at D'
  obtain ⟨_, Dr, Dx⟩ := D'
  obtain ⟨oL, es, ep, hL, r⟩ := F.ns
  refine ⟨⟨⟨oL, es, ep, P.kept _ _ nL hL, r⟩, fun b o e => P.kept _ _ (n0 b o e) (F.keep b o e), F.above⟩, fun p hp => ?_, ?_⟩
  · rcases List.mem_append.mp hp with hp | hp
    · refine ⟨P.got p hp, fun e => ?_, ?_⟩
      · rcases P.new p hp with q | q
        · exact nL (e ▸ q)
        · rw [e, hL] at q; cases q
      · cases q : h₀.get? p.1 with
        | none => rfl
        | some o =>
          rcases P.new p hp with x | x
          · exact absurd x (n0 _ _ q)
          · rw [F.keep _ _ q] at x; cases x
    · have z := N p (List.mem_append_right _ hp)
      exact ⟨P.kept _ _ (fun q => Dx _ q _ (List.mem_map_of_mem hp) rfl) z.1, z.2⟩
  · rw [adr, List.map_append, List.nodup_append]
    refine ⟨P.dj, Dr, fun a ha b hb e => ?_⟩
    subst e
    obtain ⟨p, hp, rfl⟩ := List.mem_map.mp ha
    rcases P.new p hp with q | q
    · exact Dx _ q _ hb rfl
    · obtain ⟨r, hr, e⟩ := List.mem_map.mp hb
      rw [← e, (N r (List.mem_append_right _ hr)).1] at q
      cases q

/-- what a call of a def does: it comes back -/
def Spec (n : Nat) (w : World) (f : Addr) (args : List Value) (g : Led) (P : Value → Led → Prop) : Prop :=
  ∀ (A : Around) (base : Heap) (fs : List Env) (s : Shared) (R : Result → Shared → Prop), Pre w A base fs n s g →
    (∀ v g' h' tk, P v g' → Post s.heap g h' g' → R (.ok (.ret v)) { s with heap := h', toks := tk }) → codeAny (model PR w) A (.call (.ref f) ⟨args, []⟩) R s
def SpecS (n : Nat) (w : World) (f : Addr) (args : List Value) (g : Led) (P : Value → Led → Prop) : Prop :=
  ∀ (A : Around) (base : Heap) (fs : List Env) (s : Shared) (R : Result → Shared → Prop), Pre w A base fs n s g →
    (∀ v g' h' tk, P v g' → Post s.heap g h' g' → R (.ok (.ret v)) { s with heap := h', toks := tk }) → codeS (model PR w) A (.call (.ref f) ⟨args, []⟩) R s
theorem Spec.toS {n : Nat} {w : World} {f : Addr} {args : List Value} {g : Led} {P : Value → Led → Prop} (S : Spec n w f args g P) : SpecS n w f args g P :=
  fun A base fs s R p k => codeS_of (S A base fs s R p k)
theorem Spec.mono {n m : Nat} {w : World} {f : Addr} {args : List Value} {g : Led} {P P' : Value → Led → Prop} (S : Spec n w f args g P) (e : n ≤ m) (h : ∀ v g', P v g' → P' v g') : Spec m w f args g P' :=
  fun A base fs s R p k => S A base fs s R ⟨p.bel, p.kin, p.top, p.got, p.dj, p.room.le e⟩ fun v g' h' tk q => k v g' h' tk (h v g' q)
theorem SpecS.mono {n m : Nat} {w : World} {f : Addr} {args : List Value} {g : Led} {P P' : Value → Led → Prop} (S : SpecS n w f args g P) (e : n ≤ m) (h : ∀ v g', P v g' → P' v g') : SpecS m w f args g P' :=
  fun A base fs s R p k => S A base fs s R ⟨p.bel, p.kin, p.top, p.got, p.dj, p.room.le e⟩ fun v g' h' tk q => k v g' h' tk (h v g' q)

section
variable {w : World} {A : Around} {base h₀ : Heap} {fs : List Env} {n : Nat} {s : Shared} {g led rest : Led} {L : Addr} {m : Str → Option Value} {env : Env} {mean : ExcName → Option Value} {mg mb : Str → Option Value}
  {f : Addr} {args : List Value} {P : Value → Led → Prop} {E : Value → Shared → Prop} {Q : Value → Shared → Prop}

theorem Spec.use (S : Spec n w f args g P) (B : Below A base fs h₀) (F : Fr h₀ L s.heap m) (X : (MineHead.hd.heap_1 w.params).In h₀) (T : Top PV LO mean mg mb h₀) (R : Room (A.deeper env) n) (N : News h₀ L s.heap led)
    (hm : ∀ p ∈ g ++ rest, p ∈ led) (D : (adr (g ++ rest)).Nodup)
    (k : ∀ v g' h' tk, P v g' → Fr h₀ L h' m → News h₀ L h' (g' ++ rest) → (adr (g' ++ rest)).Nodup → Q v { s with heap := h', toks := tk })
    (hf : env.frame = some L := by rfl) (hk : env.scope.kind = .function := by rfl) :
    wpAny (model PR w) (A.deeper env) (call (.ref f) args []) Q E s := by
  have N' : News h₀ L s.heap (g ++ rest) := fun p hp => N p (hm p hp)
  have Dg : (adr g).Nodup := by
    rw [adr, List.map_append, List.nodup_append] at D; exact D.1
  refine wpAny_call (S _ base (env :: fs) s _ (Pre.of B F X T hf hk R (fun p hp => N' p (List.mem_append_left _ hp)) Dg) fun v g' h' tk hv hp => ?_)
  obtain ⟨F', N'', D'⟩ := hp.back F N' D
  exact k v g' h' tk hv F' N'' D'

theorem SpecS.use (S : SpecS n w f args g P) (B : Below A base fs h₀) (F : Fr h₀ L s.heap m) (X : (MineHead.hd.heap_1 w.params).In h₀) (T : Top PV LO mean mg mb h₀) (R : Room (A.deeper env) n) (N : News h₀ L s.heap led)
    (hm : ∀ p ∈ g ++ rest, p ∈ led) (D : (adr (g ++ rest)).Nodup)
    (k : ∀ v g' h' tk, P v g' → Fr h₀ L h' m → News h₀ L h' (g' ++ rest) → (adr (g' ++ rest)).Nodup → Q v { s with heap := h', toks := tk })
    (hf : env.frame = some L := by rfl) (hk : env.scope.kind = .function := by rfl) :
    wpS (model PR w) (A.deeper env) (call (.ref f) args []) Q E s := by
  have N' : News h₀ L s.heap (g ++ rest) := fun p hp => N p (hm p hp)
  have Dg : (adr g).Nodup := by
    rw [adr, List.map_append, List.nodup_append] at D; exact D.1
  refine wpS_call (S _ base (env :: fs) s _ (Pre.of B F X T hf hk R (fun p hp => N' p (List.mem_append_left _ hp)) Dg) fun v g' h' tk hv hp => ?_)
  obtain ⟨F', N'', D'⟩ := hp.back F N' D
  exact k v g' h' tk hv F' N'' D'
end

section
variable {w : World} {name qual : Str} {params : Arguments} {body : List Stmt} {scope : Scope} {dV kV doc pm cdv ct oc : Value} {an od : Option Addr} {osl : Array (Option Value)} {f : Addr} {args : List Value} {binds : List (Str × Value)}
  {n : Nat} {g : Led} {P : Value → Led → Prop}

theorem of_hidden {w : World} {A : Around} {base : Heap} {fs : List Env} {n : Nat} {s : Shared} {g : Led} (p : Pre w A base fs n s g) : (MineHead.hd.heap_1 w.params).In s.heap ∧ s.heap.NoLimit := by
  obtain ⟨mean, mg, mb, T⟩ := p.top
  exact ⟨p.kin.keeps fun _ _ e => of_hideAll _ e, T.nolimit.keeps fun _ _ e => of_hideAll _ e⟩

/-- a def's body, walked: what a call of it does -/
theorem Spec.intro (ho : (MineHead.hd.heap_1 w.params).lookup f = some ⟨oc, od, .func (fnOf name qual params body scope dV kV doc pm an cdv ct), osl⟩) (hcd : codeIn (MineHead.hd.heap_1 w.params) cdv qual = true)
    (hbind : ∀ s : Shared, (MineHead.hd.heap_1 w.params).In s.heap → BindsTo s (fnOf name qual params body scope dV kV doc pm an cdv ct) ⟨args, []⟩ binds) (hloc : ∀ y ∈ binds, scope.names.lookup y.1 = some .local)
    (h : ∀ (A : Around) (base : Heap) (fs : List Env) (s : Shared) (g' : Heap) (L' : Addr) (h₁ : Heap) (mean : ExcName → Option Value) (mg mb : Str → Option Value), let mM := (fun y => binds.reverse.lookup y); Room (A.deeper (envOf qual scope L' f cdv)) n → Fr g' L' h₁ mM → News g' L' h₁ g → (adr g).Nodup →
      Below A base fs g' → (MineHead.hd.heap_1 w.params).In g' → Top PV LO mean mg mb g' → (∀ p ∈ g, p.1 < L') →
      wpAny (model PR w) (A.deeper (envOf qual scope L' f cdv)) (execs body (envOf qual scope L' f cdv))
        (fun fl s' => Leave P g' L' s (match fl with | .ret v => v | _ => .none) s') (fun _ _ => False) { s with heap := h₁, toks := s.toks + binds.length })
    (hco : scope.isCoroutine = false := by rfl) (hgen : scope.isGenerator = false := by rfl) (hk : scope.kind = .function := by rfl) (hcell : ∀ x ∈ scope.names, x.2 ≠ .cell := by decide) : Spec (n + 1) w f args g P := by
  intro A base fs s R p k
  obtain ⟨X, lim⟩ := of_hidden p
  obtain ⟨mean, mg, mb, T⟩ := p.top
  refine codeAny_call_def (fd := fnOf name qual params body scope dV kV doc pm an cdv ct) (body := body) (binds := binds) p.room.lim (X _ _ ho) rfl lim (codeRec_of X hcd) rfl (hbind s X) hcell hloc (fun h₁ hns hk₁ => ?_) hco hgen hk
  refine wpAny_mono (h A base fs s _ s.heap.objs.size h₁ mean mg mb (p.room.deeper _) ⟨hns, fun b o e => hk₁ b o (of_hideAll _ e), Nat.le_of_eq (hideAll_size _ _)⟩
    (fun q hq => ⟨hk₁ _ _ (p.got q hq), Nat.ne_of_lt (Heap.lt_size (p.got q hq)), hideAll_none _ (List.mem_map_of_mem hq)⟩) p.dj p.bel p.kin T (fun q hq => Heap.lt_size (p.got q hq)))
    (fun fl s' hl => ?_) fun _ _ y => y.elim
  obtain ⟨h', tk, m', g'', rfl, F', N', D', hP⟩ := hl
  exact k _ g'' h' tk hP (Post.of F' N' D')

theorem codeS_func {prog : Program} {A : Around} {s : Shared} {R : Result → Shared → Prop} {body : List Stmt} {env : Env}
    (h : wpS (model prog w) (A.deeper env) (execs body env) (fun f s' => R (.ok (.ret (match f with | .ret v => v | _ => .none))) s')
      (fun e s' => wpS (model prog w) (A.deeper env) (leaving env e) (fun _ s'' => R (.error e) s'') (fun e' s'' => R (.error e') s'') s') s) :
    codeS (model prog w) A (.func body env) R s := by
  refine codeS_of_tree rfl ?_
  show wpS _ (A.deeper env) (do point; match ← (execs body env).onRaise (leaving env) with | .ret v => ret v | _ => ret .none) _ _ s
  refine wpS_step (wpAny_point (wpS_bind (wpS_onRaise (wpS_mono h (fun f s' h' => ?_) fun _ _ h' => h'))))
  cases f <;> exact wpS_pure h'

theorem codeS_call_fn {A : Around} {s : Shared} {R : Result → Shared → Prop} {a : Addr} {args : Args} {o : Obj} {fd : FuncData} {body : List Stmt} {prog : Program} (hroom : A.depth < recursionLimit) (ho : s.heap.get? a = some o)
    (hd' : o.data = .func fd) (hco : fd.scope.isCoroutine = false) (hgen : fd.scope.isGenerator = false) (hbody : fd.body = .stmts body) (hcd : s.heap.CodeRec fd.code fd.qualname)
    (h : wpAny (model prog w) A.in1 (bindArgs fd args) (fun binds s₁ =>
      wpAny (model prog w) A.in1 (newFunctionEnv fd.scope fd.globals fd.closure binds (fd.qualname ++ ".<locals>.") (some a) fd.code none fd.builtins)
        (fun env s₂ => s₂.heap.NoLimit ∧ codeS (model prog w) A (.func body env) R s₂) (fun e s' => R (.error e) s') s₁) (fun e s' => R (.error e) s') s) :
    codeS (model prog w) A (.call (.ref a) args) R s := by
  refine codeS_of_tree rfl ?_
  show wpS _ A.in1 (callAny (.ref a) args) _ _ s
  simp only [callAny]
  refine wpS_step (wpAny_load ho ?_)
  obtain ⟨c, oc, vs, tq, hc, hoc, hdc, hq⟩ := hcd
  simp only [hd', callFunction, hco, hgen, hbody, hc]
  rw [hc] at h
  refine wpS_step (m := field (.ref c) 1) (wpAny_field hoc hdc hq (wpS_bind (wpS_pure ?_)))
  exact wpS_step (wpAny_mono h (fun binds s₁ h₁ => wpS_step (wpAny_mono h₁ (fun env s₂ h₂ => wpS_step (wpAny_enterFrame h₂.1 hroom
    (wpS_pure (And.intro rfl h₂.2)))) fun _ _ h' => h')) fun _ _ h' => h')

theorem SpecS.intro (ho : (MineHead.hd.heap_1 w.params).lookup f = some ⟨oc, od, .func (fnOf name qual params body scope dV kV doc pm an cdv ct), osl⟩) (hcd : codeIn (MineHead.hd.heap_1 w.params) cdv qual = true)
    (hbind : ∀ s : Shared, (MineHead.hd.heap_1 w.params).In s.heap → BindsTo s (fnOf name qual params body scope dV kV doc pm an cdv ct) ⟨args, []⟩ binds) (hloc : ∀ y ∈ binds, scope.names.lookup y.1 = some .local)
    (h : ∀ (A : Around) (base : Heap) (fs : List Env) (s : Shared) (g' : Heap) (L' : Addr) (h₁ : Heap) (mean : ExcName → Option Value) (mg mb : Str → Option Value), let mM := (fun y => binds.reverse.lookup y); Room (A.deeper (envOf qual scope L' f cdv)) n → Fr g' L' h₁ mM → News g' L' h₁ g → (adr g).Nodup →
      Below A base fs g' → (MineHead.hd.heap_1 w.params).In g' → Top PV LO mean mg mb g' → (∀ p ∈ g, p.1 < L') →
      wpS (model PR w) (A.deeper (envOf qual scope L' f cdv)) (execs body (envOf qual scope L' f cdv))
        (fun fl s' => Leave P g' L' s (match fl with | .ret v => v | _ => .none) s') (fun _ _ => False) { s with heap := h₁, toks := s.toks + binds.length })
    (hco : scope.isCoroutine = false := by rfl) (hgen : scope.isGenerator = false := by rfl) (hk : scope.kind = .function := by rfl) (hcell : ∀ x ∈ scope.names, x.2 ≠ .cell := by decide) : SpecS (n + 1) w f args g P := by
  intro A base fs s R p k
  obtain ⟨X, lim⟩ := of_hidden p
  obtain ⟨mean, mg, mb, T⟩ := p.top
  refine codeS_call_fn (fd := fnOf name qual params body scope dV kV doc pm an cdv ct) (body := body) p.room.lim (X _ _ ho) rfl hco hgen rfl (codeRec_of X hcd) (hbind s X _ _ _ _ ?_)
  refine wpAny_newFunctionEnv hcell hloc (fun h₁ hns hsb => ⟨lim.fresh _ hsb, codeS_func ?_⟩) hk
  have hk₁ : ∀ b o, s.heap.get? b = some o → h₁.get? b = some o := fun b o e => hsb.extBut b o (Nat.ne_of_lt (Heap.lt_size e)) (Heap.get?_push_of_some _ e)
  refine wpS_mono (h A base fs s _ s.heap.objs.size h₁ mean mg mb (p.room.deeper _) ⟨hns, fun b o e => hk₁ b o (of_hideAll _ e), Nat.le_of_eq (hideAll_size _ _)⟩
    (fun q hq => ⟨hk₁ _ _ (p.got q hq), Nat.ne_of_lt (Heap.lt_size (p.got q hq)), hideAll_none _ (List.mem_map_of_mem hq)⟩) p.dj p.bel p.kin T (fun q hq => Heap.lt_size (p.got q hq)))
    (fun fl s' hl => ?_) fun _ _ y => y.elim
  obtain ⟨h', tk, m', g'', rfl, F', N', D', hP⟩ := hl
  exact k _ g'' h' tk hP (Post.of F' N' D')
end
end Mine

end
noncomputable section
open PySem PySem.W PyProof.Rows PySem.Calls
set_option maxRecDepth 100000
namespace Mine
section
variable {M : Model} {A : Around} {E : Value → Shared → Prop} {s : Shared} {env : Env}

theorem S_nil {Q : Flow → Shared → Prop} (h : Q .next s) : wpS M A (execs [] env) Q E s := fun _ _ _ _ => h
theorem S_cons {st : Stmt} {rest : List Stmt} {Q : Flow → Shared → Prop}
    (h : wpS M A (exec st env) (fun f s' => match f with | .next => wpS M A (execs rest env) Q E s' | f => Q f s') E s) : wpS M A (execs (st :: rest) env) Q E s := fun Γ p hΓ hC => by
  rw [execs_cons, Sem.wp_bind']
  refine Sem.wp_mono M Γ _ (fun f p' s' h' => ?_) (fun _ _ _ h' => h') _ _ (h Γ p hΓ hC)
  cases f <;> first | exact h' Γ p' hΓ hC | exact h'
/-- the test walked in S -/
theorem S_IfS {test : Expr} {body orelse : List Stmt} {pos : Pos} {Q : Flow → Shared → Prop}
    (h : wpS M A (isTrue test env (eval test env)) (fun b s₂ => if b then wpS M A (execs body env) Q E s₂ else wpS M A (execs orelse env) Q E s₂) E s) :
    wpS M A (exec (.If test body orelse pos) env) Q E s := fun Γ p hΓ hC => by
  simp only [exec_If, Sem.wp_bind', Sem.wp_cmd_standAt]
  refine Sem.wp_mono M Γ _ (fun b p₂ s₂ h₂ => ?_) (fun _ _ _ h' => h') _ _ (h Γ _ hΓ hC)
  cases b <;> exact h₂ Γ p₂ hΓ hC
theorem S_If {test : Expr} {body orelse : List Stmt} {pos : Pos} {Q : Flow → Shared → Prop}
    (h : wpAny M A (isTrue test env (eval test env)) (fun b s₂ => if b then wpS M A (execs body env) Q E s₂ else wpS M A (execs orelse env) Q E s₂) E s) :
    wpS M A (exec (.If test body orelse pos) env) Q E s := S_IfS (wpS_of h)
theorem S_Ret {e : Expr} {pos : Pos} {Q : Flow → Shared → Prop} (h : wpS M A (eval e env) (fun v => Q (.ret v)) E s) : wpS M A (exec (.Return (some e) pos) env) Q E s := fun Γ p hΓ hC => by
  simp only [exec_Return_some, Sem.wp_bind', Sem.wp_cmd_standAt]
  exact Sem.wp_mono M Γ _ (fun _ _ _ h' => h') (fun _ _ _ h' => h') _ _ (h Γ _ hΓ hC)
/-- an expression's statement whose value is no object -/
theorem S_Expr {e : Expr} {pos : Pos} {Q : Flow → Shared → Prop} (h : wpS M A (eval e env) (fun v s' => match v with | .ref _ => False | _ => Q .next s') E s)
    (hi : interactive env = false := by rfl) (hs : swapsWith e none pos.line env = pure false := by rfl) : wpS M A (exec (.Expr e pos) env) Q E s := by
  rw [exec_Expr env e pos hi hs]
  refine wpS_step (wpAny_standAt (wpS_bind (wpS_mono h (fun v s' h' => ?_) fun _ _ x => x)))
  have hv : ∀ a, v ≠ .ref a := fun a hva => by subst hva; exact h'
  refine wpS_of ?_
  rw [dropValue_plain hv]
  refine wpAny_pure ?_
  cases v <;> first | exact h' | exact h'.elim
theorem S_AssignName {x : Str} {pos' pos : Pos} {value : Expr} {Q : Flow → Shared → Prop}
    (h : wpS M A (eval value env) (fun v s₁ => wpAny M A (storeName env x v) (fun _ => Q .next) E s₁) E s)
    (hs : swapsWith value (some (.Name x pos')) pos.line env = pure false := by rfl) : wpS M A (exec (.Assign [.Name x pos'] value pos) env) Q E s := fun Γ p hΓ hC => by
  simp only [exec_Assign_Name env x pos' value pos hs, Sem.wp_bind', Sem.wp_cmd_standAt, Sem.wp_bindName, Sem.wp_pure']
  exact Sem.wp_mono M Γ _ (fun v _ s₁ h₁ => h₁ Γ _ hΓ) (fun _ _ _ h' => h') _ _ (h Γ _ hΓ hC)
theorem S_AssignAttr {o value : Expr} {attr : Str} {pos' pos : Pos} {Q : Flow → Shared → Prop}
    (h : wpS M A (eval value env) (fun v s₁ => wpAny M A (eval o env) (fun ov s₂ => wpAny M A (setAttr ov attr v) (fun _ => Q .next) E s₂) E s₁) E s)
    (hs : swapsWith value (some (.Attribute o attr pos')) pos.line env = pure false := by rfl) :
    wpS M A (exec (.Assign [.Attribute o attr pos'] value pos) env) Q E s := fun Γ p hΓ hC => by
  simp only [plainObj_exec_Assign_Attribute o attr pos' value pos hs, assign_Attribute, Sem.wp_bind', Sem.wp_holding, Sem.wp_cmd_standAt, Sem.wp_release, Sem.wp_pure']
  exact Sem.wp_mono M Γ _ (fun v p₁ s₁ h₁ => Sem.wp_mono M Γ _ (fun ov _ s₂ h₂ => h₂ Γ _ hΓ) (fun _ _ _ h' => h') _ _ (h₁ Γ p₁ hΓ)) (fun _ _ _ h' => h') _ _ (h Γ _ hΓ hC)

/- calls: the callee and the arguments by wpAny, the call itself in S -/
theorem S_Call {func : Expr} {args : List Expr} {pos : Pos} {Q : Value → Shared → Prop}
    (h : wpAny M A (eval func env) (fun f s₁ => wpS M A (callWith pos f [] (backTo pos (starEach args env)) []) Q E s₁) E s)
    (he : eval (.Call func args [] pos) env = (do callWith pos (← eval func env) [] (backTo pos (starEach args env)) (backToKw pos (keywordEach [] env))) := by rfl) :
    wpS M A (eval (.Call func args [] pos) env) Q E s := by
  rw [he]; exact wpS_step h
theorem S_Method {o : Expr} {name : Str} {apos pos : Pos} {args : List Expr} {pl : Sem Bool} {Q : Value → Shared → Prop}
    (h : wpAny M A (eval o env) (fun ov s₁ => wpAny M A (getMethod ov name pl) (fun fx s₂ => wpS M A (callWith pos fx.1 fx.2 (backTo pos (starEach args env)) []) Q E s₂) E s₁) E s)
    (he : eval (.Call (.Attribute o name apos) args [] pos) env = (do
      let ov ← eval o env
      standAt apos.atName
      let (f, first) ← holding [ov] (getMethod ov name pl)
      callWith pos f first (backTo pos (starEach args env)) []) := by rfl) :
    wpS M A (eval (.Call (.Attribute o name apos) args [] pos) env) Q E s := by
  rw [he]
  refine wpS_step (wpAny_mono h (fun ov s₁ h₁ => wpS_step (wpAny_standAt (wpS_step (wpAny_holding (wpAny_mono h₁ (fun fx s₂ h₂ => ?_) fun _ _ x => x))))) fun _ _ x => x)
  exact h₂
theorem S_callWith {P : Heap → Prop} {f : Value} {pos : Pos} {first : List Value} {Q : Value → Shared → Prop} {args : List (Bool × Sem Value)} {keywords : List (Option Str × Sem Value)} (hplain : (args.any (·.1) || keywords.any (·.1.isNone)) = false)
    (hk : ∀ h, P h → ∃ k, (k = Keeper.frame ∨ k = Keeper.machine ∨ k = Keeper.boundFrame) ∧ Looks M h (keeperOf f) k)
    (h : wpAny M A (evalArgs f true args keywords) (fun a s₁ => P s₁.heap ∧ wpS M A (call f (first ++ a.pos) a.kw) Q E s₁) E s) : wpS M A (callWith pos f first args keywords) Q E s := by
  unfold callWith
  refine wpS_step (wpAny_holding (wpAny_mono h (fun a s₁ h₁ => wpS_step (wpAny_standAt ?_)) fun _ _ x => x))
  obtain ⟨k, hk', L⟩ := hk _ h₁.1
  simp only [hplain]
  refine wpS_step (L.here ?_)
  have tail : ∀ {t : Sem Value}, wpS M A t Q E s₁ → wpS M A (t >>= fun r => holding [r] point >>= fun _ => pure r) Q E s₁ :=
    fun ht => wpS_bind (wpS_mono ht (fun r s₂ hr => wpS_step (wpAny_holding (wpAny_point (wpS_pure hr)))) fun _ _ x => x)
  have marked (mk : Value) : wpS M A (callMarked mk f (first ++ a.pos) a.kw) Q E s₁ := by unfold callMarked; exact wpS_keep h₁.2
  rcases hk' with rfl | rfl | rfl <;> dsimp only <;> first | exact tail h₁.2 | (split <;> first | exact tail h₁.2 | exact tail (marked _))
theorem S_callK {K : Frag} {h₀ : Heap} {f : Value} {pos : Pos} {first : List Value} {Q : Value → Shared → Prop} {e : Expr} {rest : List Expr} (_X : K.In h₀) (hk : keepIn K f = true)
    (h : wpAny M A (spliced (backTo pos (starEach (e :: rest) env))) (fun vs s₁ => K.In s₁.heap ∧ wpS M A (call f (first ++ vs)) Q E s₁) E s)
    (he : starEach (e :: rest) env = (false, eval e env) :: starEach rest env := by rfl) (hplain : (backTo pos (starEach rest env)).any (·.1) = false := by rfl) :
    wpS M A (callWith pos f first (backTo pos (starEach (e :: rest) env)) []) Q E s := by
  rw [he] at h ⊢
  exact S_callWith (by show ((false || (backTo pos (starEach rest env)).any (·.1)) || false) = false; rw [hplain]; rfl) (keeps_K hk) (evalArgs_plain h)
theorem S_callK0 {K : Frag} {f : Value} {pos : Pos} {first : List Value} {Q : Value → Shared → Prop} (X : K.In s.heap) (hk : keepIn K f = true) (h : wpS M A (call f (first ++ [])) Q E s) :
    wpS M A (callWith pos f first (backTo pos (starEach [] env)) []) Q E s :=
  S_callWith rfl (keeps_K hk) (evalArgs_nil3 ⟨X, h⟩)
theorem keeps_machine {f : Value} (hf : ∀ a, f ≠ .ref a) (h : Heap) (_ : True) : ∃ k, (k = Keeper.frame ∨ k = Keeper.machine ∨ k = Keeper.boundFrame) ∧ Looks M h (keeperOf f) k := by
  refine ⟨.machine, .inr (.inl rfl), ?_⟩
  cases f <;> first | exact Looks.of_pure rfl | exact absurd rfl (hf _)
theorem S_callB {f : Value} {pos : Pos} {first : List Value} {Q : Value → Shared → Prop} {e : Expr} {rest : List Expr} (hf : ∀ a, f ≠ .ref a)
    (h : wpAny M A (spliced (backTo pos (starEach (e :: rest) env))) (fun vs s₁ => wpS M A (call f (first ++ vs)) Q E s₁) E s)
    (he : starEach (e :: rest) env = (false, eval e env) :: starEach rest env := by rfl) (hplain : (backTo pos (starEach rest env)).any (·.1) = false := by rfl) :
    wpS M A (callWith pos f first (backTo pos (starEach (e :: rest) env)) []) Q E s := by
  rw [he] at h ⊢
  exact S_callWith (P := fun _ => True) (by show ((false || (backTo pos (starEach rest env)).any (·.1)) || false) = false; rw [hplain]; rfl) (keeps_machine hf) (evalArgs_plain (wpAny_mono h (fun _ _ x => ⟨trivial, x⟩) fun _ _ x => x))
theorem S_callB0 {f : Value} {pos : Pos} {first : List Value} {Q : Value → Shared → Prop} (hf : ∀ a, f ≠ .ref a) (h : wpS M A (call f (first ++ [])) Q E s) :
    wpS M A (callWith pos f first (backTo pos (starEach [] env)) []) Q E s :=
  S_callWith (P := fun _ => True) rfl (keeps_machine hf) (evalArgs_nil3 ⟨trivial, h⟩)
end
/-- the post-condition laid aside under a name (keeps the terms small) -/
theorem S_letS {α : Type} {M : Model} {A : Around} {t : Sem α} {Q : α → Shared → Prop} {E : Value → Shared → Prop} {s : Shared} (h : let k := s; wpS M A t Q E k) : wpS M A t Q E s := h
theorem S_letQ {α : Type} {M : Model} {A : Around} {t : Sem α} {Q : α → Shared → Prop} {E : Value → Shared → Prop} {s : Shared} (h : let q := Q; wpS M A t q E s) : wpS M A t Q E s := h
end Mine

end
noncomputable section
open PySem PySem.W PyProof.Rows PySem.Calls
set_option maxRecDepth 100000
namespace Mine
theorem ite_bool {b : Bool} {P Q : Prop} (h1 : b = true → P) (h2 : b = false → Q) : if b = true then P else Q := by cases b; exact h2 rfl; exact h1 rfl
theorem ite_dec {c : Prop} [Decidable c] {P Q : Prop} (h1 : c → P) (h2 : ¬ c → Q) : if c then P else Q := by by_cases h : c; rw [if_pos h]; exact h1 h; rw [if_neg h]; exact h2 h
/-- once more round -/
def Again (P : Prop) : Prop := P
theorem Again.go {P : Prop} (h : P) : Again P := h
theorem Again.out {P : Prop} (h : Again P) : P := h
abbrev NoE : Value → Shared → Prop := fun _ _ => False
section
variable {M : Model} {A : Around} {E : Value → Shared → Prop} {s : Shared} {env : Env}

theorem wpS_runOwn {c : Code} {Q : Flow → Shared → Prop}
    (hc : codeS M A c (fun r s' => match r with | .ok f => Q f s' | .error _ => False) s) : wpS M A (runOwn c env none) Q NoE s := by
  unfold runOwn
  exact wpS_onRaise (wpS_run (codeS_mono hc fun r s' h => by cases r with | ok f => exact h | error e => exact h.elim))

theorem S_While {test : Expr} {body orelse : List Stmt} {pos : Pos} {Q : Flow → Shared → Prop}
    (h : Again (codeS M A (.whileLoop test body orelse env) (fun r s' => match r with | .ok f => Q f s' | .error _ => False) s)) :
    wpS M A (exec (.While test body orelse pos) env) Q NoE s := by
  rw [exec_While]; exact wpS_step (wpAny_standAt (wpS_runOwn h))
theorem S_For {target iter : Expr} {body orelse : List Stmt} {pos : Pos} {Q : Flow → Shared → Prop}
    (h : wpAny M A (eval iter env) (fun x s₁ => wpAny M A (pyIter x) (fun it s₂ =>
      Again (codeS M A (.forLoop target it body orelse env) (fun r s' => match r with | .ok f => Q f s' | .error _ => False) s₂)) NoE s₁) NoE s)
    (hs : ∀ x, foldedSetIterable iter env x = pure x := by intro _; rfl) :
    wpS M A (exec (.For target iter body orelse pos) env) Q NoE s := by
  rw [exec_For]
  exact wpS_step (wpAny_standAt (wpS_step (wpAny_mono h (fun x s₁ h₁ => wpS_step (wpAny_of_eq (hs x) (wpS_step (wpAny_standAt (wpS_step (wpAny_holding
    (wpAny_mono h₁ (fun it s₂ h₂ => wpS_runOwn h₂) fun _ _ h' => h'))))))) fun _ _ h' => h')))
end

section
variable {prog : Program} {w : World} {A : Around} {s : Shared} {env : Env}

theorem codeS_block {R : Result → Shared → Prop} (h : R (.ok .next) s) : codeS (model prog w) A (.block [] env) R s :=
  codeS_of (codeAny_block (wpAny_execs_nil h))

theorem whileS_turn {R : Result → Shared → Prop} {test : Expr} {body : List Stmt}
    (h : wpS (model prog w) A (isTrue test env (eval test env)) (fun b s₂ => if b then wpS (model prog w) A (execs body env) (fun f s₃ => match f with
        | .next | .cont => Again (codeS (model prog w) A (.whileLoop test body [] env) R s₃)
        | .brk => R (.ok .next) s₃
        | .ret v => R (.ok (.ret v)) s₃) NoE s₂ else R (.ok .next) s₂) NoE s) : codeS (model prog w) A (.whileLoop test body [] env) R s := by
  refine codeS_of_tree rfl ?_
  show wpS _ A ((whileTurn test body [] env).onRaise (fun x => do noteFrame x env; theTreesLotGoes x)) _ _ s
  refine wpS_onRaise ?_
  simp only [whileTurn]
  refine wpS_bind (wpS_mono h (fun b s₂ h₂ => ?_) fun _ _ x => x.elim)
  cases b with
  | false =>
    simp only [Bool.false_eq_true, if_false] at h₂ ⊢
    exact wpS_bind (S_nil (wpS_pure h₂))
  | true =>
    simp only [if_true] at h₂ ⊢
    refine wpS_bind (wpS_mono h₂ (fun f s₃ h₃ => ?_) fun _ _ x => x.elim)
    cases f with
    | next => exact wpS_pure ⟨rfl, h₃⟩
    | cont => exact wpS_pure ⟨rfl, h₃⟩
    | brk => exact wpS_pure h₃
    | ret v => exact wpS_pure h₃

/-- a round of a while loop is over -/
def Round (I : Nat → Shared → Prop) (n : Nat) (s : Shared) : Prop := ∃ m, m < n ∧ I m s
theorem whileS_inv {R : Result → Shared → Prop} {test : Expr} {body : List Stmt} (I : Nat → Shared → Prop)
    (turn : ∀ n s, I n s → wpS (model prog w) A (isTrue test env (eval test env)) (fun b s₂ => if b then wpS (model prog w) A (execs body env) (fun f s₃ => match f with
        | .next | .cont => Round I n s₃
        | .brk => R (.ok .next) s₃
        | .ret v => R (.ok (.ret v)) s₃) NoE s₂ else R (.ok .next) s₂) NoE s) (n : Nat) (h : I n s) : codeS (model prog w) A (.whileLoop test body [] env) R s := by
  induction n using Nat.strongRecOn generalizing s with
  | ind n ih =>
    refine whileS_turn (wpS_mono (turn n s h) (fun b s₂ h₂ => ?_) fun _ _ x => x)
    cases b with
    | false => exact h₂
    | true =>
      simp only [if_true] at h₂ ⊢
      refine wpS_mono h₂ (fun f s₃ h₃ => ?_) fun _ _ x => x
      cases f with
      | next => obtain ⟨m, hm, hI⟩ := h₃; exact ih m hm hI
      | cont => obtain ⟨m, hm, hI⟩ := h₃; exact ih m hm hI
      | brk => exact h₃
      | ret v => exact h₃

theorem forS_turn {R : Result → Shared → Prop} {target : Expr} {it : Value} {body : List Stmt}
    (h : wpAny (model prog w) A (pyNext it) (fun r s₁ => match r with
      | none => R (.ok .next) s₁
      | some v => wpAny (model prog w) A (assign target env v) (fun _ s₂ => wpS (model prog w) A (execs body env) (fun f s₃ => match f with
          | .next | .cont => codeS (model prog w) A (.forLoop target it body [] env) R s₃
          | .brk => R (.ok .next) s₃
          | .ret v => R (.ok (.ret v)) s₃) NoE s₂) NoE s₁) NoE s) (ht : ∀ v, letOwnedTupleGo target it v = pure () := by intro _; rfl) : codeS (model prog w) A (.forLoop target it body [] env) R s := by
  refine codeS_of_tree rfl ?_
  show wpS _ _ ((forTurn target it body [] env).onRaise (fun x => do noteFrame x env; theTreesLotGoes x)) _ _ s
  refine wpS_onRaise ?_
  simp only [forTurn]
  refine wpS_step (wpAny_standAt (wpS_step (wpAny_onRaise (wpAny_mono h (fun r s₁ h₁ => ?_) fun _ _ h' => h'.elim))))
  cases r with
  | none => exact wpS_pure ⟨rfl, codeS_block h₁⟩
  | some v =>
    refine wpS_step (wpAny_of_eq (ht v) ?_)
    refine wpS_step (wpAny_mono h₁ (fun _ s₂ h₂ => wpS_bind (wpS_mono h₂ (fun f s₃ h₃ => ?_) fun _ _ h' => h'.elim)) fun _ _ h' => h'.elim)
    cases f with
    | next => exact wpS_pure ⟨rfl, h₃⟩
    | cont => exact wpS_pure ⟨rfl, h₃⟩
    | brk => exact wpS_pure h₃
    | ret v => exact wpS_pure h₃

/-- a turn of a loop is over -/
def Turned (h₀ : Heap) (L : Addr) (s : Shared) (I : Addr) (o : Obj) (ks : List (Addr × Obj)) (J : (Str → Option Value) → List (Addr × Obj) → Prop) (s₃ : Shared) : Prop :=
  ∃ h' tk m₂ g₂, s₃ = { s with heap := h', toks := tk } ∧ Fr h₀ L h' m₂ ∧ News h₀ L h' ((I, o) :: (ks ++ g₂)) ∧ (∀ p ∈ ks ++ g₂, p.1 ≠ I) ∧ J m₂ g₂
theorem Turned.intro {h₀ h' : Heap} {L I : Addr} {s : Shared} {tk : Tok} {o : Obj} {ks g₂ led : List (Addr × Obj)} {J : (Str → Option Value) → List (Addr × Obj) → Prop} {m₂ : Str → Option Value} (F : Fr h₀ L h' m₂) (N : News h₀ L h' led)
    (hs : ∀ p ∈ (I, o) :: (ks ++ g₂), p ∈ led) (ne : ∀ p ∈ ks ++ g₂, p.1 ≠ I) (hJ : J m₂ g₂) : Turned h₀ L s I o ks J { s with heap := h', toks := tk } :=
  ⟨h', tk, m₂, g₂, rfl, F, fun p hp => N p (hs p hp), ne, hJ⟩
/-- a loop over what walks: the iterator and what it reads lie at the head of the ledger -/
theorem forS_walks {R : Result → Shared → Prop} {x : Str} {px : Pos} {body : List Stmt} {h₀ : Heap} {I : Addr} {fp : List Addr} {n : Nat} {P : Nat → Value → Prop} {St : Nat → Heap → Prop} {ks : List (Addr × Obj)}
    (W : Walks prog w A I fp [I] n P St) (hfp : ∀ b ∈ fp, b = I ∨ ∃ o, (b, o) ∈ ks) (hI : ∀ i h, St i h → ∃ o, h.get? I = some o) (hx : env.kindOf x = some .local) (hp : (env.scope.kind == .class || (env.scope.kind == .module && env.locals != env.globals)) = false)
    (J : Nat → (Str → Option Value) → List (Addr × Obj) → Prop)
    (step : ∀ i v m₁ g₁ o h₁ tk₁, i < n → P i v → J i m₁ g₁ → Fr h₀ env.locals h₁ (fun y => if y = x then some v else m₁ y) → News h₀ env.locals h₁ ((I, o) :: (ks ++ g₁)) → (∀ p ∈ ks ++ g₁, p.1 ≠ I) →
      wpS (model prog w) A (execs body env) (fun f s₃ => match f with
        | .next | .cont => Turned h₀ env.locals s I o ks (J (i + 1)) s₃
        | .brk => R (.ok .next) s₃
        | .ret v => R (.ok (.ret v)) s₃) NoE { s with heap := h₁, toks := tk₁ })
    (hR : ∀ h' tk m' g', Fr h₀ env.locals h' m' → News h₀ env.locals h' (ks ++ g') → J n m' g' → R (.ok .next) { s with heap := h', toks := tk }) :
    ∀ (k i : Nat) (h₁ : Heap) (tk₁ : Tok) (m : Str → Option Value) (g : List (Addr × Obj)) (o : Obj), n - i = k → i ≤ n → St i h₁ → Fr h₀ env.locals h₁ m → News h₀ env.locals h₁ ((I, o) :: (ks ++ g)) → (∀ p ∈ ks ++ g, p.1 ≠ I) → J i m g →
      codeS (model prog w) A (.forLoop (.Name x px) (.ref I) body [] env) R { s with heap := h₁, toks := tk₁ } := by
  intro k
  induction k with
  | zero =>
    intro i h₁ tk₁ m g o hk hi hst F N hne hJ
    obtain rfl : i = n := by omega
    refine forS_turn (W.done _ _ _ hst fun h' tk' hk' => ?_)
    have hIL : I ≠ env.locals := (N _ (.head _)).2.1
    have hI0 : h₀.get? I = none := (N _ (.head _)).2.2
    have hk₂ : ∀ b o, b ≠ I → h₁.get? b = some o → h'.get? b = some o := fun b o hb e => hk' b o (by simpa using hb) e
    refine hR h' tk' m g ⟨F.ns.at' fun o e => hk₂ _ o (Ne.symm hIL) e, fun b o e => hk₂ b o (fun q => by subst q; rw [hI0] at e; cases e) (F.keep b o e), F.above⟩ (fun p hp => ?_) hJ
    exact ⟨hk₂ _ _ (hne p hp) (N p (.tail _ hp)).1, (N p (.tail _ hp)).2⟩
  | succ k ih =>
    intro i h₁ tk₁ m g o hk hi hst F N hne hJ
    have hlt : i < n := by omega
    have hIL : I ≠ env.locals := (N _ (.head _)).2.1
    have hI0 : h₀.get? I = none := (N _ (.head _)).2.2
    refine forS_turn (W.item i _ _ _ hlt hst fun v h₂ tk₂ hP hst₂ hk₂ => ?_)
    have hk₂ : ∀ b o, b ≠ I → h₁.get? b = some o → h₂.get? b = some o := fun b o hb e => hk₂ b o (by simpa using hb) e
    have F₂ : Fr h₀ env.locals h₂ m := ⟨F.ns.at' fun o e => hk₂ _ o (Ne.symm hIL) e, fun b o e => hk₂ b o (fun q => by subst q; rw [hI0] at e; cases e) (F.keep b o e), F.above⟩
    refine wpAny_assign_Name (wpAny_storeName_local hx F₂.ns (fun h₃ hn₃ hs₃ => ?_) hp)
    have F₃ := F₂.set hn₃ hs₃
    have st₃ : St (i + 1) h₃ := W.frame _ _ _ hst₂ fun b hb o e => (hs₃.2 b fun q => by
      rcases hfp b hb with rfl | ⟨o', ho'⟩
      · exact hIL q
      · exact (N (b, o') (.tail _ (List.mem_append_left _ ho'))).2.1 q).trans e
    -- the iterator's object
    obtain ⟨o₃, ho⟩ := hI _ _ st₃
    have N₃ : News h₀ env.locals h₃ ((I, o₃) :: (ks ++ g)) := fun p hp => by
      rcases List.mem_cons.mp hp with rfl | hp
      · exact ⟨ho, hIL, hI0⟩
      · have z := N p (.tail _ hp)
        exact ⟨(hs₃.2 _ z.2.1).trans (hk₂ _ _ (hne p hp) z.1), z.2⟩
    refine wpS_mono (step i v m g o₃ h₃ (tk₂ + 1) hlt hP hJ F₃ N₃ hne) (fun f s₃ h₄ => ?_) fun _ _ x => x
    have go : (∃ h' tk m₂ g₂, s₃ = { s with heap := h', toks := tk } ∧ Fr h₀ env.locals h' m₂ ∧ News h₀ env.locals h' ((I, o₃) :: (ks ++ g₂)) ∧ (∀ p ∈ ks ++ g₂, p.1 ≠ I) ∧ J (i + 1) m₂ g₂) →
        codeS (model prog w) A (.forLoop (.Name x px) (.ref I) body [] env) R s₃ := by
      rintro ⟨h', tk, m₂, g₂, rfl, F₄, N₄, ne₄, J₄⟩
      refine ih (i + 1) h' tk m₂ g₂ o₃ (by omega) hlt (W.frame _ _ _ st₃ fun b hb o e => ?_) F₄ N₄ ne₄ J₄
      rcases hfp b hb with rfl | ⟨o', ho'⟩
      · rw [ho] at e; cases e; exact (N₄ _ (.head _)).1
      · have z := (N₃ (b, o') (.tail _ (List.mem_append_left _ ho'))).1
        exact (Option.some.inj (z.symm.trans e)) ▸ (N₄ (b, o') (.tail _ (List.mem_append_left _ ho'))).1
    cases f with
    | next => exact go h₄
    | cont => exact go h₄
    | brk => exact h₄
    | ret v => exact h₄
end

section
variable {M : Model} {A : Around} {E : Value → Shared → Prop} {s : Shared} {env : Env}
theorem S_isTrue_Not {x : Expr} {pos : Pos} {whole : Sem Value} {Q : Bool → Shared → Prop} (h : wpS M A (isTrue x env (eval x env)) (fun b s₁ => Q (!b) s₁) E s) :
    wpS M A (isTrue (.UnaryOp .Not x pos) env whole) Q E s := by
  rw [arm_isTrue_UnaryOp]
  exact wpS_bind (wpS_mono h (fun b s₁ h₁ => wpS_pure h₁) fun _ _ x => x)
theorem S_isTrue_value {e : Expr} {whole : Sem Value} {Q : Bool → Shared → Prop} (h : wpS M A whole (fun v s₁ => wpAny M A (truthy v) Q E s₁) E s)
    (he : isTrue e env whole = (do let v ← whole; standAt e.pos; holding [v] (truthy v)) := by rfl) : wpS M A (isTrue e env whole) Q E s := by
  rw [he]
  exact wpS_bind (wpS_mono h (fun v s₁ h₁ => wpS_step (wpAny_standAt (wpS_holding (wpS_of h₁)))) fun _ _ x => x)
theorem S_isTrue_Or2 {x y : Expr} {pos : Pos} {whole : Sem Value} {Q : Bool → Shared → Prop}
    (h : wpS M A (isTrue x env (eval x env)) (fun b s₁ => if b then Q true s₁ else wpS M A (isTrue y env (eval y env)) Q E s₁) E s) : wpS M A (isTrue (.BoolOp .Or [x, y] pos) env whole) Q E s := by
  rw [arm_isTrue_BoolOp]
  show wpS M A (do match BoolOp.Or, ← isTrue x env (eval x env) with | .And, false => pure false | .Or, true => pure true | _, _ => allTrue .Or [y] env) Q E s
  refine wpS_bind (wpS_mono h (fun b s₁ h₁ => ?_) fun _ _ x => x)
  cases b with
  | true => exact wpS_pure h₁
  | false =>
    show wpS M A (do match BoolOp.Or, ← isTrue y env (eval y env) with | .And, false => pure false | .Or, true => pure true | _, _ => allTrue .Or [] env) Q E s₁
    refine wpS_bind (wpS_mono h₁ (fun b s₂ h₂ => ?_) fun _ _ x => x)
    cases b <;> exact wpS_pure h₂
theorem S_Compare1 {l r : Expr} {op : CmpOp} {pos : Pos} {Q : Value → Shared → Prop}
    (h : wpS M A (eval l env) (fun a s₁ => wpAny M A (eval r env) (fun b s₂ => wpAny M A (compareOp op a b) Q E s₂) E s₁) E s)
    (hm : behindInMarks op r = false := by with_unfolding_all rfl) :
    wpS M A (eval (.Compare l [op] [r] pos) env) Q E s := fun Γ p hΓ hC => by
  simp only [eval_Compare1, markedBehindIn_of_false hm, Sem.wp_bind', Sem.wp_holding, Sem.wp_cmd_standAt, Sem.wp_operate]
  exact Sem.wp_mono M Γ _ (fun a p₁ s₁ h₁ => Sem.wp_mono M Γ _ (fun b _ s₂ h₂ => h₂ Γ _ hΓ) (fun _ _ _ h' => h') _ _ (h₁ Γ p₁ hΓ))
    (fun _ _ _ h' => h') _ _ (h Γ p hΓ hC)
theorem S_isTrue_Compare1 {l r : Expr} {op : CmpOp} {pos : Pos} {whole : Sem Value} {Q : Bool → Shared → Prop}
    (h : wpS M A (eval l env) (fun a s₁ => wpAny M A (eval r env) (fun b s₂ => wpAny M A (compareOp op a b)
      (fun c s₃ => wpAny M A (truthy c) Q E s₃) E s₂) E s₁) E s)
    (hm : behindInMarks op r = false := by with_unfolding_all rfl) : wpS M A (isTrue (.Compare l [op] [r] pos) env whole) Q E s := fun Γ p hΓ hC => by
  simp only [isTrue_Compare1, markedBehindIn_of_false hm, Sem.wp_bind', Sem.wp_holding, Sem.wp_cmd_standAt, Sem.wp_operate]
  exact Sem.wp_mono M Γ _ (fun a p₁ s₁ h₁ => Sem.wp_mono M Γ _ (fun b _ s₂ h₂ => Sem.wp_mono M Γ _ (fun c p₃ s₃ h₃ => h₃ Γ p₃ hΓ)
    (fun _ _ _ h' => h') _ _ (h₂ Γ _ hΓ)) (fun _ _ _ h' => h') _ _ (h₁ Γ p₁ hΓ)) (fun _ _ _ h' => h') _ _ (h Γ p hΓ hC)
theorem S_And2 {x y : Expr} {pos : Pos} {Q : Value → Shared → Prop}
    (h : wpS M A (eval x env) (fun v s₁ => wpAny M A (truthy v) (fun t s₂ => if t then wpS M A (eval y env) Q E s₂ else Q v s₂) E s₁) E s) :
    wpS M A (eval (.BoolOp .And [x, y] pos) env) Q E s := by
  show wpS M A (do
    let v ← eval x env
    standAt pos
    let t ← holding [v] (truthy v)
    match BoolOp.And, t with
    | .And, false | .Or, true => pure v
    | _, _ => boolOp pos .And [eval y env]) Q E s
  refine wpS_bind (wpS_mono h (fun v s₁ h₁ => wpS_step (wpAny_standAt (wpS_step (wpAny_holding (wpAny_mono h₁ (fun t s₂ h₂ => ?_) fun _ _ x => x))))) fun _ _ x => x)
  cases t with
  | false => exact wpS_pure h₂
  | true => exact h₂
theorem S_items1 {pos : Pos} {e : Expr} {Q : List Value → Shared → Prop}
    (h : wpS M A (eval e env) (fun v s₁ => Q [v] s₁) E s) (he : starEach [e] env = [(false, eval e env)] := by rfl) : wpS M A (spliced (backTo pos (starEach [e] env))) Q E s := by
  rw [he]
  show wpS M A (do
    let v ← eval e env
    let here ← (pure [v] : Sem (List Value))
    return here ++ (← holding here (spliced (backTo pos [])))) Q E s
  exact wpS_bind (wpS_mono h (fun v s₁ h₁ => wpS_bind (wpS_pure (wpS_bind (wpS_holding (wpS_pure (wpS_pure h₁)))))) fun _ _ x => x)
theorem S_items_cons {pos : Pos} {e : Expr} {rest : List Expr} {Q : List Value → Shared → Prop}
    (h : wpS M A (eval e env) (fun v s₁ => wpS M A (spliced (backTo pos (starEach rest env))) (fun vs s₂ => Q (v :: vs) s₂) E s₁) E s)
    (he : starEach (e :: rest) env = (false, eval e env) :: starEach rest env := by rfl) : wpS M A (spliced (backTo pos (starEach (e :: rest) env))) Q E s := by
  rw [he]
  show wpS M A (do
    let v ← eval e env
    let here ← (pure [v] : Sem (List Value))
    return here ++ (← holding here (spliced (backTo pos (starEach rest env))))) Q E s
  exact wpS_bind (wpS_mono h (fun v s₁ h₁ => wpS_bind (wpS_pure (wpS_bind (wpS_holding (wpS_mono h₁ (fun vs s₂ h₂ => wpS_pure h₂) fun _ _ x => x))))) fun _ _ x => x)
theorem S_Tuple {elts : List Expr} {k : Nat} {pos : Pos} {Q : Value → Shared → Prop}
    (h : wpS M A (spliced (backTo pos (starEach elts env)))
      (fun vs s₁ => vs.length ≤ sizeLine ∧ Q (.ref s₁.heap.objs.size) { s₁ with heap := s₁.heap.push { cls := .type "tuple", data := .seq vs.toArray } }) E s) : wpS M A (eval (.Tuple elts k pos) env) Q E s := by
  rw [arm_eval_Tuple]
  exact wpS_step (wpAny_standAt (wpS_bind (wpS_mono h (fun vs s₁ h₁ => wpS_of (wpAny_newObj_type h₁.2 (by show vs.toArray.size ≤ sizeLine; rw [List.size_toArray]; exact h₁.1))) fun _ _ x => x)))
end
end Mine

end
noncomputable section
open PySem PySem.W PyProof.Rows PySem.Calls
set_option maxRecDepth 100000
set_option maxHeartbeats 4000000
namespace Mine
open PySem.Builtin
section
variable {prog : Program} {w : World} {A : Around} {K : Frag} {C : Addr} {R : Result → Shared → Prop} {h : Heap} {g : Array GenState} {d : Drawn} {t : Nat} {os : OsState}
theorem makeS_core {rest : List Value} {init : Value} (Y : Makes (model prog w) h C) (hi : Looks (model prog w) h (typeLookup (.ref C) "__init__") (some init))
    (hb : ∀ self, Looks (model prog w) h (bindSpecial init self) (init, [self])) (hne : (some init != some (Value.builtin "object.__init__")) = true ∨ (rest = [] ∧ ([] : List (Str × Value)) = []))
    (hq : codeS (model prog w) (A.under (.builtin "type.__call__" ⟨.ref C :: rest, []⟩)) (.call init ⟨.ref (h.objs.size + 1) :: rest, []⟩) (InitBack (h.objs.size + 1) R) ⟨(h.push emptyDict).push (instObj C h.objs.size), g, d, t, os⟩) :
    codeS (model prog w) A (.call (.ref C) ⟨rest, []⟩) R ⟨h, g, d, t, os⟩ := by
  have Y' := Y
  obtain ⟨⟨oc, od, cd, sl, hC, e1, e2, e4⟩, made, base, self, top, call, typ⟩ := Y
  refine codeS_of_tree rfl ?_
  show wpS _ _ (callAny (.ref C) _) _ _ _
  refine wpS_of ?_
  refine nd_load hC ?_
  show wpAny _ _ (callAny.viaDunder (.ref C) _) _ _ _
  unfold callAny.viaDunder
  refine wpAny_bind (call.at ?_)
  dsimp only
  rw [tc_bind]
  refine wpAny_bind (wpAny_pure (wpAny_bind (wpAny_pure ?_)))
  refine wpAny_pure (a := Fin.again (.call (.builtin "type.__call__") ⟨.ref C :: rest, []⟩)) (And.intro rfl ?_)
  refine codeS_of_tree rfl ?_
  show wpS _ _ (do checkBuiltinCall "type.__call__" ⟨.ref C :: rest, []⟩; again (.builtin "type.__call__" ⟨.ref C :: rest, []⟩)) _ _ _
  refine wpS_step (check_slot tc_kind tc_split typ (tc_args _ _ _) (wpS_pure ⟨Code.quiet_builtin _ (by decide +kernel), codeS_builtin_at (by decide +kernel) F.entry_type_call ?_⟩))
  unfold Builtin.«type.__call__»
  have hm : Looks (model prog w) h (mroOf (.ref C)) cd.mro := ((Looks.ld (part := none) hC).andThen .now).andThen .now
  show wpS _ _ (mroOf (.ref C) >>= _) _ _ _
  refine wpS_step (hm.at ?_)
  rw [e4]
  show wpS _ _ (Bind.madeBy (.ref C) >>= _) _ _ _
  refine wpS_step (made.at ?_)
  show wpS _ _ (pure (Value.builtin "object.__new__") >>= _) _ _ _
  refine wpS_step (wpAny_pure ?_)
  refine wpS_step (wpAny_holding (wpAny_call (new_K Y' hi hne ?_)))
  have k : ∀ b o, h.get? b = some o → ((h.push emptyDict).push (instObj C h.objs.size)).get? b = some o := fun b o e => Heap.get?_push_of_some _ (Heap.get?_push_of_some _ e)
  have hx : ((h.push emptyDict).push (instObj C h.objs.size)).get? (h.objs.size + 1) = some (instObj C h.objs.size) := by heap_get
  have t1 : Looks (model prog w) ((h.push emptyDict).push (instObj C h.objs.size)) (typeOf (.ref (h.objs.size + 1))) (.ref C) := (Looks.ld hx).andThen .now
  have i1 : Looks (model prog w) ((h.push emptyDict).push (instObj C h.objs.size)) (isInstance (.ref (h.objs.size + 1)) (.ref C)) true := t1.andThen (self.keeps k)
  have s1 : Looks (model prog w) ((h.push emptyDict).push (instObj C h.objs.size)) (specialOf (.ref (h.objs.size + 1)) "__init__") (some init) := t1.andThen (hi.keeps k)
  have b1 := (hb (.ref (h.objs.size + 1))).keeps k
  show wpS _ _ (isInstance (.ref (h.objs.size + 1)) (.ref C) >>= _) _ _ _
  refine wpS_step (i1.at ?_)
  show wpS _ _ (holding _ (callSpecial? _ _ _ _) >>= _) _ _ _
  refine wpS_bind (wpS_holding ?_)
  unfold callSpecial?
  refine wpS_step (s1.at ?_)
  refine wpS_holding (wpS_step (b1.at ?_))
  show wpS _ _ (PySem.call init (.ref (h.objs.size + 1) :: rest) [] >>= fun r => pure (some r)) _ _ _
  refine wpS_bind (wpS_call (codeS_mono hq fun r s' z => ?_))
  rcases r with e | (v | _ | _ | _) <;> first | exact z | exact z.elim | skip
  obtain ⟨rfl, z⟩ := z
  exact wpS_pure (wpS_pure z)
end

section
variable {prog : Program} {w : World} {A : Around} {K : Frag} {C x : Addr} {s : Shared} {h₀ : Heap} {L : Addr} {m : Str → Option Value} {news : List (Addr × Obj)} {E : Value → Shared → Prop} {Q : Value → Shared → Prop}
/-- an object of an own class, made in S -/
theorem S_make {rest : List Value} {fI : Addr} (F : Fr h₀ L s.heap m) (N : News h₀ L s.heap news) (X₀ : K.In h₀) (hm : makesIn K C = true)
    (hi : findIn K (.ref C) "__init__" = some (some (.ref fI))) (hf : isFn K (.ref fI) = true)
    (h : ∀ x dx h', Fr h₀ L h' m → News h₀ L h' ((x, instObj C dx) :: (dx, dictOf [] 0) :: news) → (∀ p ∈ news, p.1 < dx) → dx < x →
      codeS (model prog w) (A.under (.builtin "type.__call__" ⟨.ref C :: rest, []⟩)) (.call (.ref fI) ⟨.ref x :: rest, []⟩) (InitBack x fun r s' => match r with | .ok (.ret v) => Q v s' | .ok _ => False | .error e => E e s') { s with heap := h' }) :
    wpS (model prog w) A (call (.ref C) rest) Q E s := by
  obtain ⟨hh, g, d, t, os⟩ := s
  have X := X₀.keeps F.keep
  refine wpS_call (makeS_core (makes_of X hm) (looks_findIn X hi) (fun self => bind_fn X self (beq_iff_eq.mp hf)) (.inl rfl) (h _ hh.objs.size _ ((F.push _).push _) ?_ (fun p hp => Heap.lt_size (N p hp).1) (Nat.lt_succ_self _)))
  have := (N.push F emptyDict).push (F.push _) (instObj C hh.objs.size)
  rwa [Heap.size_push] at this
end
end Mine

end
noncomputable section
open PySem PySem.W PyProof.Rows PySem.Calls
namespace Mine
/- lines of my own for the walk, kept by k_with (laid once; they cost no compiled code) -/
set_option rowWalk.seconds 0
local macro_rules | `(tactic| walk_at $s:str) => `(tactic| k_extra $s)
local macro_rules | `(tactic| k_ne) => `(tactic| k_extra "k_ne")
local macro_rules | `(tactic| k_all) => `(tactic| k_extra "k_all")
local macro_rules | `(tactic| k_mem) => `(tactic| k_extra "k_mem")
local macro_rules | `(tactic| k_upd) => `(tactic| k_extra "k_upd")
local macro_rules | `(tactic| is_list) => `(tactic| first | assumption | k_extra "is_list")
local macro_rules | `(tactic| k_lt $_) => `(tactic| skip)
example : True := by
  k_with_none
  k_with "k_ne" => (refine neN ?_; (try dsimp only); first | assumption | (refine Ne.symm ?_; assumption) | omega)
  k_with "k_mem" => first | exact mem_ix 0 rfl | exact mem_ix 1 rfl | exact mem_ix 2 rfl | exact mem_ix 3 rfl | exact mem_ix 4 rfl | exact mem_ix 5 rfl | exact mem_ix 6 rfl | exact mem_ix 7 rfl | exact mem_ix 8 rfl | exact mem_ix 9 rfl | exact mem_ix 10 rfl | exact mem_ix 11 rfl | exact mem_ix 12 rfl | exact mem_ix 13 rfl | exact mem_ix 14 rfl | exact mem_ix 15 rfl | exact mem_ix 16 rfl | exact mem_ix 17 rfl | exact mem_ix 18 rfl | exact mem_ix 19 rfl | exact mem_ix 20 rfl | exact mem_ix 21 rfl | exact mem_ix 22 rfl | exact mem_ix 23 rfl | exact mem_ix 24 rfl | exact mem_ix 25 rfl | exact mem_ix 26 rfl | exact mem_ix 27 rfl
  k_with "k_nd" => first | assumption | exact nd_setI (by walk_at "k_nd") | exact nd_consI (by walk_at "k_nd") (by assumption)
  k_with "k_updF" => first | exact updF_ix 0 rfl (by walk_at "k_nd") | exact updF_ix 1 rfl (by walk_at "k_nd") | exact updF_ix 2 rfl (by walk_at "k_nd") | exact updF_ix 3 rfl (by walk_at "k_nd") | exact updF_ix 4 rfl (by walk_at "k_nd") | exact updF_ix 5 rfl (by walk_at "k_nd") | exact updF_ix 6 rfl (by walk_at "k_nd") | exact updF_ix 7 rfl (by walk_at "k_nd") | exact updF_ix 8 rfl (by walk_at "k_nd") | exact updF_ix 9 rfl (by walk_at "k_nd") | exact updF_ix 10 rfl (by walk_at "k_nd") | exact updF_ix 11 rfl (by walk_at "k_nd") | exact updF_ix 12 rfl (by walk_at "k_nd") | exact updF_ix 13 rfl (by walk_at "k_nd") | exact updF_ix 14 rfl (by walk_at "k_nd") | exact updF_ix 15 rfl (by walk_at "k_nd") | exact updF_ix 16 rfl (by walk_at "k_nd") | exact updF_ix 17 rfl (by walk_at "k_nd") | exact updF_ix 18 rfl (by walk_at "k_nd") | exact updF_ix 19 rfl (by walk_at "k_nd") | exact updF_ix 20 rfl (by walk_at "k_nd") | exact updF_ix 21 rfl (by walk_at "k_nd") | exact updF_ix 22 rfl (by walk_at "k_nd") | exact updF_ix 23 rfl (by walk_at "k_nd") | exact updF_ix 24 rfl (by walk_at "k_nd") | exact updF_ix 25 rfl (by walk_at "k_nd") | exact updF_ix 26 rfl (by walk_at "k_nd") | exact updF_ix 27 rfl (by walk_at "k_nd")
  k_with "k_ix" => first | exact ixe 0 rfl | exact ixe 1 rfl | exact ixe 2 rfl | exact ixe 3 rfl | exact ixe 4 rfl | exact ixe 5 rfl | exact ixe 6 rfl | exact ixe 7 rfl | exact ixe 8 rfl | exact ixe 9 rfl | exact ixe 10 rfl | exact ixe 11 rfl | exact ixe 12 rfl | exact ixe 13 rfl | exact ixe 14 rfl | exact ixe 15 rfl | exact ixe 16 rfl | exact ixe 17 rfl | exact ixe 18 rfl | exact ixe 19 rfl | exact ixe 20 rfl | exact ixe 21 rfl | exact ixe 22 rfl | exact ixe 23 rfl | exact ixe 24 rfl | exact ixe 25 rfl | exact ixe 26 rfl | exact ixe 27 rfl
  k_with "is_list" => exact News.isList (by k_asm) (by k_mem)
  k_with "k_upd" => first | exact upd_ix 0 rfl (by walk_at "k_nd") rfl | exact upd_ix 1 rfl (by walk_at "k_nd") rfl | exact upd_ix 2 rfl (by walk_at "k_nd") rfl | exact upd_ix 3 rfl (by walk_at "k_nd") rfl | exact upd_ix 4 rfl (by walk_at "k_nd") rfl | exact upd_ix 5 rfl (by walk_at "k_nd") rfl | exact upd_ix 6 rfl (by walk_at "k_nd") rfl | exact upd_ix 7 rfl (by walk_at "k_nd") rfl | exact upd_ix 8 rfl (by walk_at "k_nd") rfl | exact upd_ix 9 rfl (by walk_at "k_nd") rfl | exact upd_ix 10 rfl (by walk_at "k_nd") rfl | exact upd_ix 11 rfl (by walk_at "k_nd") rfl | exact upd_ix 12 rfl (by walk_at "k_nd") rfl | exact upd_ix 13 rfl (by walk_at "k_nd") rfl | exact upd_ix 14 rfl (by walk_at "k_nd") rfl | exact upd_ix 15 rfl (by walk_at "k_nd") rfl | exact upd_ix 16 rfl (by walk_at "k_nd") rfl | exact upd_ix 17 rfl (by walk_at "k_nd") rfl | exact upd_ix 18 rfl (by walk_at "k_nd") rfl | exact upd_ix 19 rfl (by walk_at "k_nd") rfl | exact upd_ix 20 rfl (by walk_at "k_nd") rfl | exact upd_ix 21 rfl (by walk_at "k_nd") rfl | exact upd_ix 22 rfl (by walk_at "k_nd") rfl | exact upd_ix 23 rfl (by walk_at "k_nd") rfl | exact upd_ix 24 rfl (by walk_at "k_nd") rfl | exact upd_ix 25 rfl (by walk_at "k_nd") rfl | exact upd_ix 26 rfl (by walk_at "k_nd") rfl | exact upd_ix 27 rfl (by walk_at "k_nd") rfl
  k_with "k_all" => (refine all_lt (by assumption) ?_; omega)
  k_with "k_all" => assumption
  k_with "m_size" => (show _ ≤ 16777216; (try simp only [List.size_toArray, List.length_cons, List.length_nil, List.length_append, List.length_drop, List.length_take] at *); omega)
  k_with "m_dj" => first | assumption | walk_at "k_nd" | (refine dj_swap ?_; assumption)
  k_with "m_sub" => first | exact sub_nilI | exact sub_consI (by k_mem) (by walk_at "m_sub")
  k_with "m_ba" => (refine' News.get ?q9N ?q9m; (case q9N => k_asm); (case q9m => k_mem))
  k_with "call builtin:len" => (k_here; (with_reducible show wpAny _ _ (call (Value.builtin "len") [Value.ref _]) _ _ _); k_dflt (refine' ba_lenL ?q9b ?q9z ?_; (case q9b => walk_at "m_ba"); (case q9z => walk_at "m_size"); k_whole))
  k_with "subscriptTail" => (k_here; (with_reducible show wpAny _ _ (subscriptTail _ _ (Value.ref _) (Value.int _ _)) _ _ _); k_dflt (refine' ba_itemL ?q9b ?q9h0 ?q9hk ?q9hc ?q9hs ?_; (case q9b => walk_at "m_ba"); (case q9h0 => first | decide | omega); (case q9hk => first | decide | omega); (case q9hc => first | exact rfl | assumption); (case q9hs => exact rfl); k_whole))
  k_with "subscriptTail Attribute" => (k_here; (with_reducible show wpAny _ _ (subscriptTail _ _ (Value.ref _) (Value.int _ _)) _ _ _); k_dflt (refine' ba_itemL ?q9b ?q9h0 ?q9hk ?q9hc ?q9hs ?_; (case q9b => walk_at "m_ba"); (case q9h0 => first | decide | omega); (case q9hk => first | decide | omega); (case q9hc => first | exact rfl | assumption); (case q9hs => exact rfl); k_whole))
  k_with "subscriptTail Name Slice ref ref" => (k_here; (with_reducible show wpAny _ _ (subscriptTail _ (PySem.Expr.Slice (some _) none none _) (Value.ref _) (Value.ref _)) _ _ _); k_dflt (refine' ba_from ?q9F ?q9N ?q9m ?q9z ?q9h0 ?_; (case q9F => k_asm); (case q9N => k_asm); (case q9m => k_mem); (case q9z => walk_at "m_size"); (case q9h0 => first | decide | omega); k_whole; intro _ _ _ _ _))
  k_with "subscriptTail Attribute" => (k_here; (with_reducible show wpAny _ _ (subscriptTail _ (PySem.Expr.Slice (some _) none none _) (Value.ref _) (Value.ref _)) _ _ _); k_dflt (refine' ba_from ?q9F ?q9N ?q9m ?q9z ?q9h0 ?_; (case q9F => k_asm); (case q9N => k_asm); (case q9m => k_mem); (case q9z => walk_at "m_size"); (case q9h0 => first | decide | omega); k_whole; intro _ _ _ _ _))
  k_with "subscriptTail Name Slice ref ref" => (k_here; (with_reducible show wpAny _ _ (subscriptTail _ (PySem.Expr.Slice none (some _) none _) (Value.ref _) (Value.ref _)) _ _ _); k_dflt (refine' ba_upto ?q9F ?q9N ?q9m ?q9z ?q9h0 ?_; (case q9F => k_asm); (case q9N => k_asm); (case q9m => k_mem); (case q9z => walk_at "m_size"); (case q9h0 => first | decide | omega); k_whole; intro _ _ _ _ _))
  k_with "subscriptTail Attribute" => (k_here; (with_reducible show wpAny _ _ (subscriptTail _ (PySem.Expr.Slice none (some _) none _) (Value.ref _) (Value.ref _)) _ _ _); k_dflt (refine' ba_upto ?q9F ?q9N ?q9m ?q9z ?q9h0 ?_; (case q9F => k_asm); (case q9N => k_asm); (case q9m => k_mem); (case q9z => walk_at "m_size"); (case q9h0 => first | decide | omega); k_whole; intro _ _ _ _ _))
  k_with "m_dec" => first | decide | omega | (simp; done) | (simp; omega)
  k_with "ite" => first | (refine ite_bool ?_ ?_ <;> intro _) | (refine ite_dec ?_ ?_ <;> intro _)
  k_with "ite" => first | refine ite_neg (by walk_at "m_dec") ?_ | refine ite_pos (by walk_at "m_dec") ?_
  k_with "m_end" => skip
  k_with "call ref" => (k_here; (with_reducible show wpAny _ _ (call (Value.ref _) _ _) _ _ _); refine m_hold ?_)
  k_with "getMethod ref" => (k_here; (with_reducible show wpAny _ _ (getMethod (Value.ref _) (Str.ofString "append") _) _ _ _); k_dflt (refine' ba_method ?q9N ?q9m BF.slot_append BF.type_append ?_; (case q9N => k_asm); (case q9m => k_mem)))
  k_with "getMethod ref" => (k_here; (with_reducible show wpAny _ _ (getMethod (Value.ref _) (Str.ofString "extend") _) _ _ _); k_dflt (refine' ba_method ?q9N ?q9m BF.slot_extend BF.type_extend ?_; (case q9N => k_asm); (case q9m => k_mem)))
  k_with "wpS" => ((fail_if_success (with_reducible show wpS _ _ (call _ _ _) _ _ _)); refine wpS_of ?_)
  k_with "wpS" => ((with_reducible show wpS _ _ (call (Value.ref _) _ _) _ _ _); k_dflt (refine m_hold ?_))
  k_with "wpS" => ((with_reducible show wpS _ _ (callWith _ (Value.ref _) _ _ _) _ _ _); k_dflt (first | (refine' S_callK ?q9k1 ?q9k2 ?_; (case q9k1 => k_asm); (case q9k2 => k_is)) | (refine' S_callK0 ?q9k1 ?q9k2 ?_; (case q9k1 => k_in); (case q9k2 => k_is))))
  k_with "wpS" => ((with_reducible show wpS _ _ (callWith _ (Value.builtin _) _ _ _) _ _ _); k_dflt (first | refine S_callB (by intro a h; cases h) ?_ | refine S_callB0 (by intro a h; cases h) ?_))
  k_with "wpS" => ((with_reducible show wpS _ _ (callWith _ (Value.type _) _ _ _) _ _ _); k_dflt (first | refine S_callB (by intro a h; cases h) ?_ | refine S_callB0 (by intro a h; cases h) ?_))
  k_with "wpS" => ((with_reducible show wpS _ _ (call (Value.builtin "bytearray.extend") _) _ _ _); k_dflt ((show wpS _ _ (call (Value.builtin "bytearray.extend") [Value.ref _, Value.bytes _ _]) _ _ _); (refine' S_extend ?q9g ?q9F ?q9N ?q9U ?q9z ?_; (case q9g => exact Room.guards (by assumption)); (case q9F => k_asm); (case q9N => k_asm); (case q9U => k_upd); (case q9z => walk_at "m_size")); intro _ _ _))
  k_with "wpS" => ((with_reducible show wpS _ _ (call (Value.builtin "bytearray.extend") _) _ _ _); k_dflt ((show wpS _ _ (call (Value.builtin "bytearray.extend") [Value.ref _, Value.ref _]) _ _ _); (refine' S_extend_ba ?q9g ?q9F ?q9N ?q9m ?q9U ?q9z ?_; (case q9g => exact Room.guards (by assumption)); (case q9F => k_asm); (case q9N => k_asm); (case q9m => k_mem); (case q9U => k_upd); (case q9z => walk_at "m_size")); intro _ _ _))
  k_with "wpS" => ((with_reducible show wpS _ _ (call (Value.builtin "bytearray.append") _) _ _ _); k_dflt ((show wpS _ _ (call (Value.builtin "bytearray.append") [Value.ref _, Value.int _ _]) _ _ _); (refine' S_append ?q9g ?q9h0 ?q9h1 ?q9F ?q9N ?q9U ?q9z ?_; (case q9g => exact Room.guards (by assumption)); (case q9h0 => walk_at "m_oct"); (case q9h1 => walk_at "m_oct"); (case q9F => k_asm); (case q9N => k_asm); (case q9U => k_upd); (case q9z => first | omega | (dsimp only at *; omega))); intro _ _ _))
  k_with "wpS" => ((with_reducible show wpS _ _ (call (Value.type "bytearray") _) _ _ _); k_dflt ((refine' S_new ?q9g ?q9F ?q9N ?_; (case q9g => exact Room.guards (by assumption)); (case q9F => k_asm); (case q9N => k_asm)); intro _ _ _ _ _))
  k_with "m_oct" => first | omega | assumption
  k_with "wpS" => ((with_reducible show wpS _ _ (exec (Stmt.Expr (Expr.Call (Expr.Attribute _ (Str.ofString "append") _) _ _ _) _) _) _ _ _); k_dflt (refine S_Expr (S_Method ?_)))
  k_with "wpS" => ((with_reducible show wpS _ _ (exec (Stmt.Expr (Expr.Call (Expr.Attribute _ (Str.ofString "extend") _) _ _ _) _) _) _ _ _); k_dflt (refine S_Expr (S_Method ?_)))
  k_with "wpS" => ((with_reducible show wpS _ _ (exec (Stmt.Expr (Expr.Call (Expr.Attribute _ (Str.ofString "send") _) _ _ _) _) _) _ _ _); k_dflt (refine S_Expr (S_Method ?_)))
  k_with "wpS" => ((with_reducible show wpS _ _ (exec (Stmt.Expr (Expr.Call (Expr.Attribute _ (Str.ofString "erase") _) _ _ _) _) _) _ _ _); k_dflt (refine S_Expr (S_Method ?_)))
  k_with "wpS" => ((with_reducible show wpS _ _ (exec (Stmt.Expr (Expr.Call (Expr.Attribute _ (Str.ofString "put") _) _ _ _) _) _) _ _ _); k_dflt (refine S_Expr (S_Method ?_)))
  k_with "wpS" => ((with_reducible show wpS _ _ (exec (Stmt.Expr (Expr.Call (Expr.Attribute _ (Str.ofString "typed") _) _ _ _) _) _) _ _ _); k_dflt (refine S_Expr (S_Method ?_)))
  k_with "wpS" => ((with_reducible show wpS _ _ (exec (Stmt.Expr (Expr.Call (Expr.Attribute _ (Str.ofString "feed") _) _ _ _) _) _) _ _ _); k_dflt (refine S_Expr (S_Method ?_)))
  k_with "wpS" => ((with_reducible show wpS _ _ (exec (Stmt.Assign [Expr.Attribute _ _ _] (Expr.Call (Expr.Name (Str.ofString "bytearray") _) _ _ _) _) _) _ _ _); k_dflt (refine S_AssignAttr (S_Call ?_)))
  k_with "wpS" => ((with_reducible show wpS _ _ (exec (Stmt.If _ _ _ _) _) _ _ _); k_dflt (refine S_If ?_))
  k_with "wpS" => ((with_reducible show wpS _ _ (execs _ _) _ _ _); first | (with_reducible refine S_cons ?_; with_reducible refine S_letQ ?_; intro _; with_reducible refine S_letS ?_; intro _) | (with_reducible refine S_nil ?_) | k_dflt (first | refine S_nil ?_ | (refine S_cons ?_; with_reducible refine S_letQ ?_; intro _)))
  k_with "call type:bytes" => (k_here; (with_reducible show wpAny _ _ (call (Value.type "bytes") _) _ _ _); k_dflt ((show wpAny _ _ (call (Value.type "bytes") [Value.ref _]) _ _ _); (refine' bytes_of_ba ?q9b ?q9z ?_; (case q9b => walk_at "m_ba"); (case q9z => walk_at "m_size"); k_whole)))
  k_with "binaryOp LShift int int" => (k_here; (with_reducible refine lshift_int_small (by decide) (by decide) (band_small _) ?_))
  k_with "m_octs" => (refine all_one ?_; first | exact band_oct _ | omega | (refine And.intro ?_ ?_ <;> assumption))
  k_with "call type:bytes" => (k_here; (with_reducible show wpAny _ _ (call (Value.type "bytes") _) _ _ _); k_dflt ((show wpAny _ _ (call (Value.type "bytes") [Value.ref _]) _ _ _); (refine' bytes_K ?q9F ?q9N ?q9l ?q9i ?q9r ?q9z ?q9h ?_; (case q9F => k_asm); (case q9N => k_asm); (case q9l => is_list); (case q9i => l_ints); (case q9r => walk_at "m_octs"); (case q9z => first | (simp only [sizeLine_eq, List.length_cons, List.length_nil]; decide) | (rw [sizeLine_eq]; omega)); (case q9h => exact Room.handled (by assumption)); k_whole); intro _ _ _ _ _ _))
  k_with "m_ne" => first | exact List.forall_mem_nil _ | (refine List.forall_mem_cons.mpr ⟨by k_ne, ?_⟩; walk_at "m_ne")
  k_with "wpS" => ((with_reducible show wpS _ _ (exec (Stmt.While _ _ _ _) _) _ _ _); k_dflt (refine S_While ?_))
  k_with "wpS" => ((with_reducible show wpS _ _ (exec (Stmt.For _ _ _ _ _) _) _ _ _); k_dflt (refine S_For ?_))
  k_with "eval Name" => (k_here; (with_reducible show wpAny _ _ (eval (Expr.Name (Str.ofString "bytearray") _) _) _ _ _); with_unfolding_all refine guard_global (by rfl) ?_; k_dflt (refine' name_B ?q9kF ?q9k1 ?q9k2 ?q9k3 ?q9k4 ?q9k5 ?_; (case q9kF => k_asm); (case q9k1 => k_asm); (case q9k2 => k_asm); (case q9k3 => k_is); (case q9k4 => boot_by_name); (case q9k5 => decide); k_whole))
  k_with "eval Name" => (k_here; (with_reducible show wpAny _ _ (eval (Expr.Name (Str.ofString "bytes") _) _) _ _ _); with_unfolding_all refine guard_global (by rfl) ?_; k_dflt (refine' name_B ?q9kF ?q9k1 ?q9k2 ?q9k3 ?q9k4 ?q9k5 ?_; (case q9kF => k_asm); (case q9k1 => k_asm); (case q9k2 => k_asm); (case q9k3 => k_is); (case q9k4 => boot_by_name); (case q9k5 => decide); k_whole))
  k_with "eval Name" => (k_here; (with_reducible show wpAny _ _ (eval (Expr.Name (Str.ofString "list") _) _) _ _ _); with_unfolding_all refine guard_global (by rfl) ?_; k_dflt (refine' name_B ?q9kF ?q9k1 ?q9k2 ?q9k3 ?q9k4 ?q9k5 ?_; (case q9kF => k_asm); (case q9k1 => k_asm); (case q9k2 => k_asm); (case q9k3 => k_is); (case q9k4 => boot_by_name); (case q9k5 => decide); k_whole))
  k_with "m_ints" => first | assumption | exact IntsAre.nil | l_ints
  k_with "m_list" => exact News.isList (by k_asm) (by k_mem)
  k_with "compareOp NotEq ref ref" => (k_here; k_dflt ((try dsimp only); refine' ke_ne_ints ?q9a ?q9b ?q9i ?q9j ?q9r ?_; (case q9a => walk_at "m_list"); (case q9b => walk_at "m_list"); (case q9i => walk_at "m_ints"); (case q9j => walk_at "m_ints"); (case q9r => exact Room.line (by assumption))))
  k_with "compareOp Eq ref ref" => (k_here; k_dflt ((try dsimp only); refine' ke_eq_ints ?q9a ?q9b ?q9i ?q9j ?q9r ?_; (case q9a => walk_at "m_list"); (case q9b => walk_at "m_list"); (case q9i => walk_at "m_ints"); (case q9j => walk_at "m_ints"); (case q9r => exact Room.line (by assumption))))
  k_with "call builtin:len" => (k_here; (with_reducible show wpAny _ _ (call (Value.builtin "len") [Value.ref _]) _ _ _); k_dflt (refine' l_len ?q9N ?q9m ?q9i ?q9z ?_; (case q9N => k_asm); (case q9m => k_mem); (case q9i => assumption); (case q9z => omega)))
  k_with "call builtin:list.pop" => (k_here; k_dflt ((show wpAny _ _ (call (Value.builtin _) [Value.ref _, Value.int 0 _]) _ _ _); (refine' l_pop0 ?q9F ?q9N ?q9U ?q9z ?_; (case q9F => k_asm); (case q9N => k_asm); (case q9U => k_upd); (case q9z => walk_at "m_lp")); intro _ _ _))
  k_with "m_lp" => first | assumption | omega
  k_with "wpS" => ((with_reducible show wpS _ _ (call (Value.builtin "list.append") _) _ _ _); k_dflt ((show wpS _ _ (call (Value.builtin "list.append") [Value.ref _, _]) _ _ _); refine wpS_of ?_))
  k_with "call builtin:list.append" => (k_here; k_dflt ((show wpAny _ _ (call (Value.builtin _) [Value.ref _, _]) _ _ _); (refine' l_append ?q9F ?q9N ?q9U ?q9z ?_; (case q9F => k_asm); (case q9N => k_asm); (case q9U => k_upd); (case q9z => walk_at "m_lp")); intro _ _ _))
  k_with "assign Tuple" => (k_here; (with_reducible show wpAny _ _ (assign (Expr.Tuple _ _ _) _ (Value.ref _)) _ _ _); k_dflt (refine' unpackN_ ?q9F ?q9N ?q9T ?q9k1 ?q9k2 ?q9k3 ?_; (case q9F => k_asm); (case q9N => k_asm); (case q9T => exact News.isTup (by k_asm) (by k_mem)); (case q9k1 => exact Room.handled (by assumption)); (case q9k2 => exact rfl); (case q9k3 => exact rfl)); intro _ _ _)
  k_with "p_leaf" => ((try dsimp only); (try (k_unfold; (try dsimp only))); (refine' p_leaf ?q9F ?q9N ?q9D ?q9d ?q9lo ?q9m0 ?q9m1 ?q9m2 ?q9m3 ?q9m4 ?q9wi ?q9oi ?q9li ?q9ri ?_ ?q9hn; (case q9F => k_asm); (case q9N => k_asm); (case q9D => walk_at "k_nd"); (case q9d => assumption); (case q9lo => assumption); (case q9m0 => walk_at "k_ix"); (case q9m1 => walk_at "k_ix"); (case q9m2 => walk_at "k_ix"); (case q9m3 => walk_at "k_ix"); (case q9m4 => walk_at "k_ix"); (case q9wi => walk_at "m_ints"); (case q9oi => walk_at "m_ints"); (case q9li => walk_at "m_ints"); (case q9ri => walk_at "m_ints"); (case q9hn => decide)))
  k_with "m_octs" => assumption
  k_with "call builtin:max" => (k_here; k_dflt ((show wpAny _ _ (call (Value.builtin _) [Value.int 1 _, Value.int _ _]) _ _ _); (refine' l_max1 ?q9h ?q9F ?q9N ?_; (case q9h => exact Room.handled (by assumption)); (case q9F => k_asm); (case q9N => k_asm)); intro _ _ _ _ _))
  k_with "subscriptTail Name Slice ref ref" => (k_here; (with_reducible show wpAny _ _ (subscriptTail _ (PySem.Expr.Slice (some _) none none _) (Value.ref _) (Value.ref _)) _ _ _); k_dflt (refine' l_from ?q9F ?q9N ?q9m ?q9i ?q9z ?q9h0 ?q9t ?_; (case q9F => k_asm); (case q9N => k_asm); (case q9m => k_mem); (case q9i => assumption); (case q9z => omega); (case q9h0 => omega); (case q9t => (intro _; with_unfolding_all rfl)); intro _ _ _ _ _ _ _))
  k_with "subscriptTail Name Slice ref ref" => (k_here; (with_reducible show wpAny _ _ (subscriptTail _ (PySem.Expr.Slice none (some _) none _) (Value.ref _) (Value.ref _)) _ _ _); k_dflt (refine' l_upto ?q9F ?q9N ?q9m ?q9i ?q9z ?q9h0 ?q9t ?_; (case q9F => k_asm); (case q9N => k_asm); (case q9m => k_mem); (case q9i => assumption); (case q9z => omega); (case q9h0 => omega); (case q9t => (intro _; with_unfolding_all rfl)); intro _ _ _ _ _ _ _))
  k_with "call type:list" => (k_here; k_dflt ((show wpAny _ _ (call (Value.type "list") [Value.ref _]) _ _ _); (refine' l_of_ba ?q9h ?q9F ?q9N ?q9m ?q9z ?_; (case q9h => exact Room.handled (by assumption)); (case q9F => k_asm); (case q9N => k_asm); (case q9m => k_mem); (case q9z => omega)); intro _ _ _ _ _ _ _ _ _))
  k_with "wpS" => ((with_reducible show wpS _ _ (exec (Stmt.Return (some (Expr.BoolOp BoolOp.And [Expr.Compare (Expr.Call (Expr.Attribute _ (Str.ofString "take_out") _) _ _ _) _ _ _, _] _)) _) _) _ _ _); k_dflt (refine S_Ret (S_And2 (S_Compare1 (S_Method ?_)))))
  k_with "wpS" => ((with_reducible show wpS _ _ (eval (Expr.Compare (Expr.Call (Expr.Attribute _ (Str.ofString "take_out") _) _ _ _) _ _ _) _) _ _ _); k_dflt (refine S_Compare1 (S_Method ?_)))
  k_with "m_fresh" => (simp only [adr, List.map_cons, List.map_nil, List.map_append, List.cons_append, List.nil_append, List.mem_cons, List.not_mem_nil, or_false, not_or]; (repeat' (refine And.intro ?_ ?_)); all_goals first | assumption | (refine neN ?_; omega))
  k_with "m_sub" => (intro p hp; (repeat (first | exact hp | refine List.Mem.tail _ ?_)); done)
  k_with "wpS" => ((with_reducible show wpS _ _ (exec (Stmt.Assign [_] (Expr.ListComp _ _ _ _) _) _) _ _ _); k_dflt (refine m_hold ?_))
  k_with "wpS" => ((with_reducible show wpS _ _ (exec (Stmt.Expr (Expr.Call (Expr.Name (Str.ofString "_law_came") _) _ _ _) _) _) _ _ _); k_dflt (refine S_Expr (S_Call ?_)))
  k_with "wpS" => ((with_reducible show wpS _ _ (exec (Stmt.Expr (Expr.Call (Expr.Name (Str.ofString "_law_typed") _) _ _ _) _) _) _ _ _); k_dflt (refine S_Expr (S_Call ?_)))
  k_with "wpS" => ((with_reducible show wpS _ _ (exec (Stmt.Expr (Expr.Call (Expr.Name (Str.ofString "_law_stored") _) _ _ _) _) _) _ _ _); k_dflt (refine S_Expr (S_Call ?_)))
  k_with "wpS" => ((with_reducible show wpS _ _ (exec (Stmt.Return (some (Expr.Compare (Expr.Call (Expr.Attribute _ (Str.ofString "take") _) _ _ _) _ _ _)) _) _) _ _ _); k_dflt (refine S_Ret (S_Compare1 (S_Method ?_))))
  k_with "wpS" => ((with_reducible show wpS _ _ (exec (Stmt.Return (some (Expr.Compare (Expr.Call (Expr.Name (Str.ofString "_law_tried") _) _ _ _) _ _ _)) _) _) _ _ _); k_dflt (refine S_Ret (S_CompareS (S_Call ?_))))
  k_with "m_gt" => first | exact List.forall_mem_nil _ | (refine List.forall_mem_cons.mpr ⟨by (refine ltN ?_; (try dsimp only); omega), ?_⟩; walk_at "m_gt")
  k_with "m_lt" => first | exact List.forall_mem_nil _ | assumption | (refine List.forall_mem_cons.mpr ⟨by (refine ltN ?_; (try dsimp only); omega), ?_⟩; walk_at "m_lt")
  k_with "Cut" => fail "cut"
  k_with "eval Name" => (k_here; (with_reducible show wpAny _ _ (eval (Expr.Name _ _) (envX _ _ _ _ _ (_ :: _))) _ _ _); k_dflt (refine' nameX_F ?q9N ?q9c ?q9m ?q9d ?_ ?q9a ?q9b; (case q9a => rfl); (case q9b => rfl); (case q9N => k_asm); (case q9c => rfl); (case q9m => k_mem); (case q9d => k_asm)))
  k_with "unpackItems ref" => (k_here; k_dflt (refine' unpackItemsN_ ?q9k1 ?q9k2 ?q9k3 ?q9k4 ?q9k5 ?_; (case q9k1 => k_asm); (case q9k2 => k_asm); (case q9k3 => exact News.isTup (by k_asm) (by k_mem)); (case q9k4 => exact Room.handled (by assumption)); (case q9k5 => exact rfl)); intro _ _ _)
  k_with "wpS" => ((with_reducible show wpS _ _ (exec (Stmt.Assign [Expr.Name _ _] (Expr.Call (Expr.Name (Str.ofString "Uart") _) _ _ _) _) _) _ _ _); k_dflt (refine S_AssignName (S_Call ?_)))
  k_with "wpS" => ((with_reducible show wpS _ _ (exec (Stmt.Assign [Expr.Name _ _] (Expr.Call (Expr.Name (Str.ofString "LineInput") _) _ _ _) _) _) _ _ _); k_dflt (refine S_AssignName (S_Call ?_)))
  k_with "call builtin:min" => (k_here; k_dflt ((show wpAny _ _ (call (Value.builtin _) [Value.int _ _, Value.int _ _]) _ _ _); (refine' min_two_N ?q9h ?q9F ?q9N ?_; (case q9h => exact Room.handled (by assumption)); (case q9F => k_asm); (case q9N => k_asm)); intro _ _ _ _))
  k_with "call builtin:len" => (k_here; (with_reducible show wpAny _ _ (call (Value.builtin "len") [Value.ref _]) _ _ _); k_dflt (refine' l_lenO ?q9N ?q9m ?q9c ?q9d ?q9i ?q9z ?_; (case q9N => k_asm); (case q9m => k_mem); (case q9c => assumption); (case q9d => assumption); (case q9i => assumption); (case q9z => omega)))
  k_with "wpS" => ((with_reducible show wpS _ _ (isTrue (Expr.UnaryOp _ (Expr.Call (Expr.Name (Str.ofString "_law_alike") _) _ _ _) _) _ _) _ _ _); k_dflt (refine S_isTrue_Not (S_isTrue_value (S_Call ?_))))
  k_with "exec Raise" => (k_here; k_dflt (refine x_Raise (Room.handled (by assumption)) ?_))
  k_with "wpS" => ((with_reducible show wpS _ _ (execs (Stmt.While _ _ _ _ :: _) _) _ _ _); refine m_hold ?_)
  k_with "m_sum" => (rw [sizeLine_eq]; (simp only [List.length_append, List.length_cons, List.length_nil]); omega)
  k_with "binaryOp Add ref ref" => (k_here; (with_reducible show wpAny _ _ (binaryOp _ (Value.ref _) (Value.ref _)) _ _ _); k_dflt (refine' kmk_add_ints ?q9F ?q9N ?q9a ?q9b ?q9i ?q9j ?_ ?q9z; (case q9F => k_asm); (case q9N => k_asm); (case q9a => is_list); (case q9b => is_list); (case q9i => l_ints); (case q9j => l_ints); (case q9z => walk_at "m_sum")); intro _ _ _ _ _ _ _)
  k_with "wpS" => ((with_reducible show wpS _ _ (execs (Stmt.Assign [Expr.Name _ _] (Expr.IfExp _ _ _ _) _ :: _) _) _ _ _); refine m_hold ?_)
  k_with "wpS" => ((with_reducible show wpS _ _ (execs (Stmt.For _ _ _ _ _ :: _) _) _ _ _); refine m_hold ?_)
  k_with "setItem ref str" => (k_here; k_dflt (refine' kda_set (knd := PySem.strKind _ _) ?q9F ?q9N ?q9U ?q9d (strKind_is _ _ _ _) ?q9z ?_; (case q9F => k_asm); (case q9N => k_asm); (case q9U => walk_at "k_updF"); (case q9d => k_asm); (case q9z => rw [sizeLine_eq]; exact Nat.le_of_ble_eq_true (by with_unfolding_all rfl))); intro _ _ _ _ _; (try kob_lit))
  k_with "subscriptTail" => (k_here; (with_reducible show wpAny _ _ (subscriptTail _ _ (Value.ref _) (Value.str _ _)) _ _ _); k_dflt (refine kda_item (knd := PySem.strKind _ _) (by k_asm) (by k_mem) (by k_asm) (strKind_is _ _ _ _) (by rfl) ?_))
  k_with "subscriptTail Name" => (k_here; (with_reducible show wpAny _ _ (subscriptTail _ _ (Value.ref _) (Value.str _ _)) _ _ _); k_dflt (refine kda_item (knd := PySem.strKind _ _) (by k_asm) (by k_mem) (by k_asm) (strKind_is _ _ _ _) (by rfl) ?_))
  k_with "getAttr ref" => (k_here; k_dflt (first | (refine' cls_val ?q9k1 ?q9k2 ?q9k3 ?q9k4 ?q9k5 ?q9k6 ?_; (case q9k1 => k_asm); (case q9k2 => k_asm); (case q9k3 => k_is); (case q9k4 => k_is); (case q9k5 => k_is); (case q9k6 => k_handed); k_whole) | (refine' get_own ?q9k1 ?q9k2 ?q9k3 ?q9k4 ?q9k5 ?q9k6 ?q9k7 ?q9k8 ?q9k9 ?_; (case q9k1 => k_asm); (case q9k2 => k_asm); (case q9k3 => k_inst); (case q9k4 => k_is); (case q9k5 => k_is); (case q9k6 => k_is); (case q9k7 => k_is); (case q9k8 => k_get); (case q9k9 => k_handed); k_whole)))
  k_with "compareOp In int ref" => (k_here; k_dflt (refine in_tuple_ints (News.isTup (by k_asm) (by k_mem)) (by first | assumption | (repeat constructor)) ?_))
  trivial
example : True := by w_top off; trivial
section
variable {prog : Program} {w : World} {A : Around} {E : Value → Shared → Prop} {s : Shared} {h₀ : Heap} {L : Addr} {m : Str → Option Value} {a : Addr} {l : List UInt8} {news led : Led}

theorem ba_lenL {Q : Value → Shared → Prop} (hb : s.heap.get? a = some (baObj l.toArray)) (hz : l.toArray.size ≤ sizeLine) (h : Q (.int l.length (s.toks + 1)) { s with toks := s.toks + 1 + 1 }) :
    wpAny (model prog w) A (call (.builtin "len") [.ref a]) Q E s := ba_len hb hz (by rw [List.size_toArray]; exact h)
theorem ba_itemL {value slice : Expr} {k : Int} {u : Tok} {c : UInt8} {Q : Value → Shared → Prop} (hb : s.heap.get? a = some (baObj l.toArray)) (h0 : 0 ≤ k) (hk : k < 2 ^ 63) (hc : l[k.toNat]? = some c)
    (hs : subscripted slice false (.ref a) (.int k u) = operate [.ref a, .int k u] (getItem (.ref a) (.int k u)))
    (h : Q (.int c.toNat s.toks) { s with toks := s.toks + 1 }) : wpAny (model prog w) A (subscriptTail value slice (.ref a) (.int k u)) Q E s :=
  ba_item hb h0 hk (by simpa using hc) hs h

theorem keeps_two {h : Heap} {o₁ o₂ : Obj} {b : Addr} {o : Obj} (e : h.get? b = some o) : ((h.push o₁).push o₂).get? b = some o := Heap.get?_push_of_some _ (Heap.get?_push_of_some _ e)
/-- a new object onto the ledger -/
theorem News.put {h h' : Heap} {D : Addr} {o : Obj} (F : Fr h₀ L h m) (N : News h₀ L h news) (k : ∀ b o, h.get? b = some o → h'.get? b = some o) (hD : h.get? D = none) (ho : h'.get? D = some o) : News h₀ L h' ((D, o) :: news) := fun p hp => by
  obtain ⟨oL, es, ep, hL, r⟩ := F.ns
  rcases List.mem_cons.mp hp with rfl | hp
  · refine ⟨ho, fun e => ?_, ?_⟩
    · simp only at e; subst e; rw [hL] at hD; cases hD
    · cases q : h₀.get? D with
      | none => rfl
      | some o' => rw [F.keep _ _ q] at hD; cases hD
  · exact ⟨k _ _ (N p hp).1, (N p hp).2⟩
theorem none_of_size {h : Heap} {a : Addr} (e : h.objs.size ≤ a) : h.get? a = none := Heap.get?_none_of_le e
theorem lt_all {h : Heap} {D : Addr} (N : News h₀ L h news) (e : h.objs.size ≤ D) : ∀ p ∈ news, p.1 < D := fun p hp => Nat.lt_of_lt_of_le (Heap.lt_size (N p hp).1) e

theorem ba_cut {value : Expr} {pl pu : Option Expr} {pp : Pos} {lo hi : Value} {x y : Option Nat} {r : List UInt8} {Q : Value → Shared → Prop} (F : Fr h₀ L s.heap m) (N : News h₀ L s.heap news) (hm : (a, baObj l.toArray) ∈ news) (hz : l.toArray.size ≤ sizeLine)
    (ex : IsEnd lo x) (ey : IsEnd hi y) (hr : l.toArray.extract (min (x.getD 0) l.toArray.size) (min (y.getD l.toArray.size) l.toArray.size) = r.toArray)
    (h : ∀ D h', Fr h₀ L h' m → News h₀ L h' ((D, baObj r.toArray) :: news) → (∀ p ∈ news, p.1 < D) → Q (.ref D) { s with heap := h' }) :
    wpAny (model prog w) A (subscriptTail value (.Slice pl pu none pp) (.ref a) (.ref s.heap.objs.size)) Q E { s with heap := s.heap.push { cls := .type "slice", data := .fields #[lo, hi, .none] } } := by
  refine ba_slice (N _ hm).1 hz ex ey ?_
  rw [hr]
  refine h _ _ (F.kept fun b o e => keeps_two e) (News.put F N (fun b o e => keeps_two e) (none_of_size (Nat.le_succ _)) ?_) (lt_all N (Nat.le_succ _))
  have e : ((s.heap.push { cls := .type "slice", data := .fields #[lo, hi, .none] }).push (baObj r.toArray)).get? (s.heap.push { cls := .type "slice", data := .fields #[lo, hi, .none] }).objs.size = some (baObj r.toArray) := Heap.get?_push_size _ rfl
  rwa [Heap.size_push] at e
theorem ba_from {value : Expr} {pl : Option Expr} {pp : Pos} {k : Int} {t : Tok} {Q : Value → Shared → Prop} (F : Fr h₀ L s.heap m) (N : News h₀ L s.heap news) (hm : (a, baObj l.toArray) ∈ news) (hz : l.toArray.size ≤ sizeLine) (h0 : 0 ≤ k)
    (h : ∀ D h', Fr h₀ L h' m → News h₀ L h' ((D, baObj (l.drop k.toNat).toArray) :: news) → (∀ p ∈ news, p.1 < D) → Q (.ref D) { s with heap := h' }) :
    wpAny (model prog w) A (subscriptTail value (.Slice pl none none pp) (.ref a) (.ref s.heap.objs.size)) Q E { s with heap := s.heap.push { cls := .type "slice", data := .fields #[.int k t, .none, .none] } } := by
  refine ba_cut F N hm hz (.int t k.toNat (by omega)) .none ?_ h
  apply Array.toList_inj.mp
  simp only [Option.getD_some, Option.getD_none, Nat.min_self, List.size_toArray, Array.toList_extract, List.extract_eq_take_drop]
  by_cases e : k.toNat ≤ l.length
  · rw [Nat.min_eq_left e, List.take_of_length_le (by rw [List.length_drop]; exact Nat.le_refl _)]
  · rw [Nat.min_eq_right (by omega), List.drop_eq_nil_of_le (Nat.le_refl _), List.drop_eq_nil_of_le (by omega), List.take_nil]
theorem ba_upto {value : Expr} {pu : Option Expr} {pp : Pos} {k : Int} {t : Tok} {Q : Value → Shared → Prop} (F : Fr h₀ L s.heap m) (N : News h₀ L s.heap news) (hm : (a, baObj l.toArray) ∈ news) (hz : l.toArray.size ≤ sizeLine) (h0 : 0 ≤ k)
    (h : ∀ D h', Fr h₀ L h' m → News h₀ L h' ((D, baObj (l.take k.toNat).toArray) :: news) → (∀ p ∈ news, p.1 < D) → Q (.ref D) { s with heap := h' }) :
    wpAny (model prog w) A (subscriptTail value (.Slice none pu none pp) (.ref a) (.ref s.heap.objs.size)) Q E { s with heap := s.heap.push { cls := .type "slice", data := .fields #[.none, .int k t, .none] } } := by
  refine ba_cut F N hm hz .none (.int t k.toNat (by omega)) ?_ h
  apply Array.toList_inj.mp
  simp only [Option.getD_some, Option.getD_none, Nat.zero_min, List.size_toArray, Array.toList_extract, List.extract_eq_take_drop, List.drop_zero, Nat.sub_zero]
  by_cases e : k.toNat ≤ l.length
  · rw [Nat.min_eq_left e]
  · rw [Nat.min_eq_right (by omega), List.take_of_length_le (Nat.le_refl _), List.take_of_length_le (by omega)]

theorem Leave.intro {P : Value → Led → Prop} {g' h' : Heap} {L' : Addr} {tk : Tok} {m' : Str → Option Value} {g'' : Led} {v : Value} (hP : P v g'') (F : Fr g' L' h' m') (N : News g' L' h' led) (hs : ∀ p ∈ g'', p ∈ led) (D : (adr g'').Nodup) :
    Leave P g' L' s v { s with heap := h', toks := tk } := ⟨h', tk, m', g'', rfl, F, fun p hp => N p (hs p hp), D, hP⟩
end

section
variable {w : World} {A : Around} {base h₀ : Heap} {fs : List Env} {n : Nat} {s : Shared} {g : Led} {L : Addr} {m : Str → Option Value} {env : Env} {mean : ExcName → Option Value} {mg mb : Str → Option Value}
  {f : Addr} {args : List Value} {P : Value → Led → Prop} {E : Value → Shared → Prop} {Q : Value → Shared → Prop}
theorem Spec.use0 (S : Spec n w f args g P) (B : Below A base fs h₀) (F : Fr h₀ L s.heap m) (X : (MineHead.hd.heap_1 w.params).In h₀) (T : Top PV LO mean mg mb h₀) (R : Room (A.deeper env) n) (N : News h₀ L s.heap g)
    (D : (adr g).Nodup) (k : ∀ v g' h' tk, P v g' → Fr h₀ L h' m → News h₀ L h' g' → (adr g').Nodup → Q v { s with heap := h', toks := tk })
    (hf : env.frame = some L := by rfl) (hk : env.scope.kind = .function := by rfl) :
    wpAny (model PR w) (A.deeper env) (call (.ref f) args []) Q E s :=
  S.use (rest := []) B F X T R N (by simp) (by simpa using D) (fun v g' h' tk hv F' N' D' => k v g' h' tk hv F' (by simpa using N') (by simpa using D')) hf hk
theorem SpecS.use0 (S : SpecS n w f args g P) (B : Below A base fs h₀) (F : Fr h₀ L s.heap m) (X : (MineHead.hd.heap_1 w.params).In h₀) (T : Top PV LO mean mg mb h₀) (R : Room (A.deeper env) n) (N : News h₀ L s.heap g)
    (D : (adr g).Nodup) (k : ∀ v g' h' tk, P v g' → Fr h₀ L h' m → News h₀ L h' g' → (adr g').Nodup → Q v { s with heap := h', toks := tk })
    (hf : env.frame = some L := by rfl) (hk : env.scope.kind = .function := by rfl) :
    wpS (model PR w) (A.deeper env) (call (.ref f) args []) Q E s :=
  S.use (rest := []) B F X T R N (by simp) (by simpa using D) (fun v g' h' tk hv F' N' D' => k v g' h' tk hv F' (by simpa using N') (by simpa using D')) hf hk
end

/-- a stop of my own: the walk waits here -/
def Hold (P : Prop) : Prop := P
theorem m_hold {P : Prop} (h : Hold P) : P := h
theorem m_go {P : Prop} (h : P) : Hold P := h

/- the serial line: where it lies; what it holds -/
set_option genInjectivity false in
structure UPh where
  (du oa wa : Addr) (k0 k1 k2 k3 k4 k5 k6 k7 t0 t3 t4 t5 : Tok)
structure UD where
  (size en ln dv : Int) (lost sent : Bool) (out wt : List UInt8)
def uEs (P : Params) (x : UPh) (d : UD) : List DictEntry :=
  [⟨PyData.keyHash P "size", .str "size" x.k0, .int d.size x.t0⟩, ⟨PyData.keyHash P "out", .str "out" x.k1, .ref x.oa⟩, ⟨PyData.keyHash P "waiting", .str "waiting" x.k2, .ref x.wa⟩,
   ⟨PyData.keyHash P "enabled", .str "enabled" x.k3, .int d.en x.t3⟩, ⟨PyData.keyHash P "line", .str "line" x.k4, .int d.ln x.t4⟩, ⟨PyData.keyHash P "divisor", .str "divisor" x.k5, .int d.dv x.t5⟩,
   ⟨PyData.keyHash P "lost", .str "lost" x.k6, .bool d.lost⟩, ⟨PyData.keyHash P "sent", .str "sent" x.k7, .bool d.sent⟩]
abbrev uLed (P : Params) (ua : Addr) (x : UPh) (d : UD) : Led := [(ua, instObj 168 x.du), (x.du, dictOf (uEs P x d) 8), (x.oa, baObj d.out.toArray), (x.wa, baObj d.wt.toArray)]
def hasRec (d : UD) : Bool := (Builtin.bitAnd d.en 1 != 0) && decide ((0 : Int) < d.wt.length)
def tellsEmpty (d : UD) : Bool := (Builtin.bitAnd d.en 2 != 0) && d.sent
def isDue (d : UD) : Bool := hasRec d || tellsEmpty d
def isDiv (d : UD) : Bool := Builtin.bitAnd d.ln 128 != 0
example : True := by w_top off; trivial
theorem Room.line {A : Around} {n : Nat} (h : Room A n) : A.units + 64 < cLine := by have := h.units; show A.units + 64 < 9900; omega
theorem dj_swap {a b : Led} (h : (adr (a ++ b)).Nodup) : (adr (b ++ a)).Nodup := by
  rw [adr, List.map_append, List.nodup_append] at h ⊢
  exact ⟨h.2.1, h.1, fun x hx y hy e => h.2.2 y hy x hx e.symm⟩
section
variable {w : World} {A : Around} {base h₀ : Heap} {fs : List Env} {n : Nat} {s : Shared} {g led : Led} {L : Addr} {m : Str → Option Value} {env : Env} {mean : ExcName → Option Value} {mg mb : Str → Option Value}
  {f : Addr} {args : List Value} {P : Value → Led → Prop} {E : Value → Shared → Prop} {Q : Value → Shared → Prop}
theorem Spec.use1 (S : Spec n w f args g P) (B : Below A base fs h₀) (F : Fr h₀ L s.heap m) (X : (MineHead.hd.heap_1 w.params).In h₀) (T : Top PV LO mean mg mb h₀) (R : Room (A.deeper env) n) (N : News h₀ L s.heap led)
    (hm : ∀ p ∈ g, p ∈ led) (D : (adr g).Nodup) (k : ∀ v g' h' tk, P v g' → Fr h₀ L h' m → News h₀ L h' g' → (adr g').Nodup → Q v { s with heap := h', toks := tk })
    (hf : env.frame = some L := by rfl) (hk : env.scope.kind = .function := by rfl) :
    wpAny (model PR w) (A.deeper env) (call (.ref f) args []) Q E s :=
  S.use0 B F X T R (fun p hp => N p (hm p hp)) D k hf hk
theorem SpecS.use1 (S : SpecS n w f args g P) (B : Below A base fs h₀) (F : Fr h₀ L s.heap m) (X : (MineHead.hd.heap_1 w.params).In h₀) (T : Top PV LO mean mg mb h₀) (R : Room (A.deeper env) n) (N : News h₀ L s.heap led)
    (hm : ∀ p ∈ g, p ∈ led) (D : (adr g).Nodup) (k : ∀ v g' h' tk, P v g' → Fr h₀ L h' m → News h₀ L h' g' → (adr g').Nodup → Q v { s with heap := h', toks := tk })
    (hf : env.frame = some L := by rfl) (hk : env.scope.kind = .function := by rfl) :
    wpS (model PR w) (A.deeper env) (call (.ref f) args []) Q E s :=
  S.use0 B F X T R (fun p hp => N p (hm p hp)) D k hf hk
end
theorem all_one {n : Int} (h : 0 ≤ n ∧ n < 256) : ∀ k ∈ [n], 0 ≤ k ∧ k < 256 := fun k hk => by rw [List.mem_singleton.mp hk]; exact h
theorem u_lit {P : Params} {ua du oa wa : Addr} {k0 k1 k2 k3 k4 k5 k6 k7 t0 t3 t4 t5 : Tok} {size en ln dv : Int} {lost sent : Bool} {out wt : List UInt8} : ([(ua, instObj 168 du), (du, dictOf [⟨PyData.keyHash P "size", .str "size" k0, .int size t0⟩, ⟨PyData.keyHash P "out", .str "out" k1, .ref oa⟩, ⟨PyData.keyHash P "waiting", .str "waiting" k2, .ref wa⟩,
   ⟨PyData.keyHash P "enabled", .str "enabled" k3, .int en t3⟩, ⟨PyData.keyHash P "line", .str "line" k4, .int ln t4⟩, ⟨PyData.keyHash P "divisor", .str "divisor" k5, .int dv t5⟩,
   ⟨PyData.keyHash P "lost", .str "lost" k6, .bool lost⟩, ⟨PyData.keyHash P "sent", .str "sent" k7, .bool sent⟩] 8), (oa, baObj out.toArray), (wa, baObj wt.toArray)] : Led) = uLed P ua ⟨du, oa, wa, k0, k1, k2, k3, k4, k5, k6, k7, t0, t3, t4, t5⟩ ⟨size, en, ln, dv, lost, sent, out, wt⟩ := rfl
theorem band_oct (n : Int) : 0 ≤ Builtin.bitAnd n 255 ∧ Builtin.bitAnd n 255 < 256 := by
  have h := bitAnd_range n (y := 255) (by decide)
  omega
/-- the four objects of the serial line, whatever they hold -/
theorem u_fin {P : Params} {ua : Addr} {x : UPh} {d d' : UD} (h : d = d') : uLed P ua x d = uLed P ua x d' := by rw [h]
theorem band_small (n : Int) : (Builtin.bitAnd n 255).natAbs < 2 ^ 64 := by
  have h := bitAnd_range n (y := 255) (by decide)
  have : (2 : Nat) ^ 64 = 18446744073709551616 := by decide
  omega
section
variable {prog : Program} {w : World} {A : Around} {E : Value → Shared → Prop} {s : Shared} {h₀ : Heap} {L D : Addr} {m : Str → Option Value} {l : List UInt8} {news news' : Led}

theorem ba_method {name : Str} {id : String} {pl : Sem Bool} {Q : Value × List Value → Shared → Prop} (N : News h₀ L s.heap news) (hm : (D, baObj l.toArray) ∈ news) (slot : Slot "bytearray" name id) (hty : typeOf (.builtin id) = pure (.type "method_descriptor"))
    (h : Q (.builtin id, [.ref D]) s) : wpAny (model prog w) A (getMethod (.ref D) name pl) Q E s :=
  getMethod_builtin ⟨_, (N _ hm).1, rfl⟩ BF.plainAttrs slot hty (fun a e => by cases e; exact ⟨_, (N _ hm).1, rfl⟩) h

theorem ba_turn {f : Array UInt8 → Array UInt8} {r : List UInt8} {h' : Heap} (F : Fr h₀ L s.heap m) (N : News h₀ L s.heap news) (U : Upd D (baObj l.toArray) (baObj r.toArray) news news') (e : f l.toArray = r.toArray)
    (hh : h' = s.heap.update D (Obj.mapBytearray f)) : Fr h₀ L h' m ∧ News h₀ L h' news' := by
  obtain ⟨pre, post, rfl, rfl, a, c⟩ := U.split
  have z := N (D, baObj l.toArray) (List.mem_append.mpr (.inr (.head _)))
  subst hh
  refine ⟨F.change (Heap.SameBut.update ..) z.2.1 z.2.2, news_set N a c (Heap.SameBut.update ..) ?_⟩
  have q : (s.heap.update D (Obj.mapBytearray f)).get? D = some (Obj.mapBytearray f (baObj l.toArray)) := Heap.get?_update_self _ z.1 rfl
  rw [q]
  show some (baObj (f l.toArray)) = _
  rw [e]

theorem S_extend {x : Array UInt8} {t : Tok} {Q : Value → Shared → Prop} (hg : A.guards = some []) (F : Fr h₀ L s.heap m) (N : News h₀ L s.heap news) (U : Upd D (baObj l.toArray) (baObj (l ++ x.toList).toArray) news news')
    (hz : l.length + x.size ≤ 16777216) (h : ∀ h', Fr h₀ L h' m → News h₀ L h' news' → Q .none { s with heap := h' }) :
    wpS (model prog w) A (call (.builtin "bytearray.extend") [.ref D, .bytes x t]) Q E s := by
  have z : s.heap.get? D = some (baObj l.toArray) := by
    obtain ⟨pre, post, rfl, rfl, a, c⟩ := U.split
    exact (N (D, baObj l.toArray) (List.mem_append.mpr (.inr (.head _)))).1
  refine ba_extend_bytes hg z (by rw [List.size_toArray]; exact hz) ?_
  obtain ⟨F', N'⟩ := ba_turn (f := (· ++ x)) F N U (by simp) rfl
  exact h _ F' N'
theorem S_extend_ba {D₂ : Addr} {r : List UInt8} {Q : Value → Shared → Prop} (hg : A.guards = some []) (F : Fr h₀ L s.heap m) (N : News h₀ L s.heap news) (hm : (D₂, baObj r.toArray) ∈ news) (U : Upd D (baObj l.toArray) (baObj (l ++ r).toArray) news news')
    (hz : l.length + r.length ≤ 16777216) (h : ∀ h', Fr h₀ L h' m → News h₀ L h' news' → Q .none { s with heap := h' }) :
    wpS (model prog w) A (call (.builtin "bytearray.extend") [.ref D, .ref D₂]) Q E s := by
  have z : s.heap.get? D = some (baObj l.toArray) := by
    obtain ⟨pre, post, rfl, rfl, a, c⟩ := U.split
    exact (N (D, baObj l.toArray) (List.mem_append.mpr (.inr (.head _)))).1
  refine ba_extend_ba hg z (N _ hm).1 (by rw [List.size_toArray, List.size_toArray]; exact hz) ?_
  obtain ⟨F', N'⟩ := ba_turn (f := (· ++ r.toArray)) F N U (by simp) rfl
  exact h _ F' N'
theorem S_append {n : Int} {u : Tok} {Q : Value → Shared → Prop} (hg : A.guards = some []) (h0 : 0 ≤ n) (h1 : n < 256) (F : Fr h₀ L s.heap m) (N : News h₀ L s.heap news) (U : Upd D (baObj l.toArray) (baObj (l ++ [n.toNat.toUInt8]).toArray) news news')
    (hz : l.length < 16777216) (h : ∀ h', Fr h₀ L h' m → News h₀ L h' news' → Q .none { s with heap := h' }) :
    wpS (model prog w) A (call (.builtin "bytearray.append") [.ref D, .int n u]) Q E s := by
  have z : s.heap.get? D = some (baObj l.toArray) := by
    obtain ⟨pre, post, rfl, rfl, a, c⟩ := U.split
    exact (N (D, baObj l.toArray) (List.mem_append.mpr (.inr (.head _)))).1
  obtain ⟨F', N'⟩ := ba_turn (f := (·.push n.toNat.toUInt8)) F N U (by simp) rfl
  exact ba_append hg z h0 h1 (by rw [List.size_toArray]; exact hz) (h _ F' N')
theorem S_new {Q : Value → Shared → Prop} (hg : A.guards = some []) (F : Fr h₀ L s.heap m) (N : News h₀ L s.heap news)
    (h : ∀ D h', Fr h₀ L h' m → News h₀ L h' ((D, baObj ([] : List UInt8).toArray) :: news) → (∀ p ∈ news, p.1 < D) → Q (.ref D) { s with heap := h' }) :
    wpS (model prog w) A (call (.type "bytearray") []) Q E s :=
  ba_new hg fun h' k e => h _ h' (F.kept k) (News.put F N k (none_of_size (Nat.le_refl _)) e) (lt_all N (Nat.le_refl _))
end

/-- a contract told by what it hands on -/
def Ret (K : (Value → Led → Prop) → Prop) (v : Value) (g : Led) : Prop := ∀ k : Value → Led → Prop, K k → k v g
/-- what stands behind a call: the callee's ledger ahead of the rest -/
def Back (h₀ : Heap) (L : Addr) (m : Str → Option Value) (rest : Led) (Q : Value → Shared → Prop) (s : Shared) (v : Value) (g' : Led) : Prop :=
  ∀ h' tk, Fr h₀ L h' m → News h₀ L h' (g' ++ rest) → (adr (g' ++ rest)).Nodup → Q v { s with heap := h', toks := tk }
theorem Back.intro {h₀ : Heap} {L : Addr} {m : Str → Option Value} {rest : Led} {Q : Value → Shared → Prop} {s : Shared} {v : Value} {g' : Led}
    (h : let led := g' ++ rest; ∀ h' tk, Fr h₀ L h' m → News h₀ L h' led → (adr led).Nodup → Q v { s with heap := h', toks := tk }) : Back h₀ L m rest Q s v g' := h
section
variable {w : World} {A : Around} {base h₀ : Heap} {fs : List Env} {n n' : Nat} {s : Shared} {g led rest : Led} {L : Addr} {m : Str → Option Value} {env : Env} {mean : ExcName → Option Value} {mg mb : Str → Option Value}
  {f : Addr} {args : List Value} {K K' : (Value → Led → Prop) → Prop} {E : Value → Shared → Prop} {Q : Value → Shared → Prop}
theorem Spec.useK (S : Spec n w f args g (Ret K)) (B : Below A base fs h₀) (F : Fr h₀ L s.heap m) (X : (MineHead.hd.heap_1 w.params).In h₀) (T : Top PV LO mean mg mb h₀) (R : Room (A.deeper env) n) (N : News h₀ L s.heap led)
    (hm : ∀ p ∈ g ++ rest, p ∈ led) (D : (adr (g ++ rest)).Nodup)
    (k : K (Back h₀ L m rest Q s))
    (hf : env.frame = some L := by rfl) (hk : env.scope.kind = .function := by rfl) :
    wpAny (model PR w) (A.deeper env) (call (.ref f) args []) Q E s :=
  S.use B F X T R N hm D (fun _ _ h' tk hv F' N' D' => hv _ k h' tk F' N' D') hf hk
theorem SpecS.useK (S : SpecS n w f args g (Ret K)) (B : Below A base fs h₀) (F : Fr h₀ L s.heap m) (X : (MineHead.hd.heap_1 w.params).In h₀) (T : Top PV LO mean mg mb h₀) (R : Room (A.deeper env) n) (N : News h₀ L s.heap led)
    (hm : ∀ p ∈ g ++ rest, p ∈ led) (D : (adr (g ++ rest)).Nodup)
    (k : K (Back h₀ L m rest Q s))
    (hf : env.frame = some L := by rfl) (hk : env.scope.kind = .function := by rfl) :
    wpS (model PR w) (A.deeper env) (call (.ref f) args []) Q E s :=
  S.use B F X T R N hm D (fun _ _ h' tk hv F' N' D' => hv _ k h' tk F' N' D') hf hk
theorem Spec.use1K (S : Spec n w f args g (Ret K)) (B : Below A base fs h₀) (F : Fr h₀ L s.heap m) (X : (MineHead.hd.heap_1 w.params).In h₀) (T : Top PV LO mean mg mb h₀) (R : Room (A.deeper env) n) (N : News h₀ L s.heap led)
    (hm : ∀ p ∈ g, p ∈ led) (D : (adr g).Nodup)
    (k : K fun v g' => ∀ h' tk, Fr h₀ L h' m → News h₀ L h' g' → (adr g').Nodup → Q v { s with heap := h', toks := tk })
    (hf : env.frame = some L := by rfl) (hk : env.scope.kind = .function := by rfl) :
    wpAny (model PR w) (A.deeper env) (call (.ref f) args []) Q E s :=
  S.use1 B F X T R N hm D (fun _ _ h' tk hv F' N' D' => hv _ k h' tk F' N' D') hf hk
theorem SpecS.use1K (S : SpecS n w f args g (Ret K)) (B : Below A base fs h₀) (F : Fr h₀ L s.heap m) (X : (MineHead.hd.heap_1 w.params).In h₀) (T : Top PV LO mean mg mb h₀) (R : Room (A.deeper env) n) (N : News h₀ L s.heap led)
    (hm : ∀ p ∈ g, p ∈ led) (D : (adr g).Nodup)
    (k : K fun v g' => ∀ h' tk, Fr h₀ L h' m → News h₀ L h' g' → (adr g').Nodup → Q v { s with heap := h', toks := tk })
    (hf : env.frame = some L := by rfl) (hk : env.scope.kind = .function := by rfl) :
    wpS (model PR w) (A.deeper env) (call (.ref f) args []) Q E s :=
  S.use1 B F X T R N hm D (fun _ _ h' tk hv F' N' D' => hv _ k h' tk F' N' D') hf hk
theorem Spec.monoK (S : Spec n w f args g (Ret K)) (e : n ≤ n') (h : ∀ k, K' k → K k) : Spec n' w f args g (Ret K') := S.mono e fun _ _ q k hk => q k (h k hk)
theorem SpecS.monoK (S : SpecS n w f args g (Ret K)) (e : n ≤ n') (h : ∀ k, K' k → K k) : SpecS n' w f args g (Ret K') := S.mono e fun _ _ q k hk => q k (h k hk)
end
theorem mem_ix {p : Addr × Obj} {l : Led} (i : Nat) (h : l[i]? = some p := by rfl) : p ∈ l := List.mem_of_getElem? h
section
variable {a b c d e f g i : Addr} {oa ob oc od oe of og oi : Obj} {G : Prop}
end
theorem ret1 {v v0 : Value} {g g0 : Led} (hv : v = v0) (hg : g = g0) : Ret (fun k => k v0 g0) v g := fun _ h => by rw [hv, hg]; exact h
theorem retI {n n0 : Int} {t : Tok} {g g0 : Led} (hv : n = n0) (hg : g = g0) : Ret (fun k => ∀ t, k (.int n0 t) g0) (.int n t) g := fun _ h => by rw [hv, hg]; exact h t
theorem u_endK {P : Params} {ua : Addr} {x' : UPh} {d d' : UD} {g : Led} (e : g = uLed P ua x' d') (hd : d' = d) : Ret (fun k => ∀ x', k .none (uLed P ua x' d)) .none g := fun _ k => by rw [e, hd]; exact k x'
theorem upd_ix {a : Addr} {o o' : Obj} : ∀ {g g' : Led} (i : Nat) (_ : g[i]? = some (a, o)) (_ : (adr g).Nodup) (_ : g' = g.set i (a, o')), Upd a o o' g g'
  | [], _, _, h, _, _ => by cases h
  | q :: r, _, 0, h, D, e => by
    cases h
    subst e
    exact .head fun p hp e => (List.nodup_cons.mp D).1 (List.mem_map.mpr ⟨p, hp, e⟩)
  | q :: r, _, i + 1, h, D, e => by
    have h' : r[i]? = some (a, o) := h
    subst e
    refine Upd.tail (fun e => ?_) (upd_ix i h' (List.nodup_cons.mp D).2 rfl)
    have h2 := List.mem_map_of_mem (f := (·.1)) (List.mem_of_getElem? h')
    refine (List.nodup_cons.mp D).1 ?_
    show q.1 ∈ _
    rw [e]; exact h2
theorem nd_setI {g : Led} {i : Nat} {p : Addr × Obj} (D : (adr g).Nodup) (h : adr (g.set i p) = adr g := by rfl) : (adr (g.set i p)).Nodup := by rw [h]; exact D
theorem nd_consI {g : Led} {l : Addr} {o : Obj} (D : (adr g).Nodup) (h : ∀ p ∈ g, p.1 < l) : (adr ((l, o) :: g)).Nodup :=
  List.nodup_cons.mpr ⟨fun q => by obtain ⟨p, hp, e⟩ := List.mem_map.mp q; exact absurd (h p hp) (by rw [e]; exact Nat.lt_irrefl _), D⟩
theorem sub_nilI {g : Led} : ∀ p ∈ ([] : Led), p ∈ g := fun _ h => nomatch h
theorem sub_consI {p : Addr × Obj} {r g : Led} (h : p ∈ g) (k : ∀ q ∈ r, q ∈ g) : ∀ q ∈ p :: r, q ∈ g := fun q hq => by
  rcases List.mem_cons.mp hq with rfl | hq
  · exact h
  · exact k q hq
example : True := by w_top off; trivial
section
variable {prog : Program} {w : World} {A : Around} {E : Value → Shared → Prop} {s : Shared} {h₀ : Heap} {L D : Addr} {m : Str → Option Value} {news news' : Led} {n : Nat} {vs : List Value} {ks : List Int}
theorem l_len {Q : Value → Shared → Prop} (N : News h₀ L s.heap news) (hm : (D, W.listOf vs.toArray n) ∈ news) (hi : IntsAre vs ks) (hz : ks.length ≤ 16777216) (h : Q (.int ks.length (s.toks + 1)) { s with toks := s.toks + 1 + 1 }) :
    wpAny (model prog w) A (call (.builtin "len") [.ref D]) Q E s := by
  refine call_len_list (News.isList N hm) (by rw [List.size_toArray, hi.length]; omega) ?_
  rw [List.size_toArray, hi.length]; exact h
theorem l_pop0 {v : Value} {u : Tok} {Q : Value → Shared → Prop} (F : Fr h₀ L s.heap m) (N : News h₀ L s.heap news) (U : Upd D (W.listOf (v :: vs).toArray n) (W.listOf vs.toArray (n + 1)) news news') (hz : vs.length < 16777216)
    (h : ∀ h', Fr h₀ L h' m → News h₀ L h' news' → Q v { s with heap := h' }) : wpAny (model prog w) A (call (.builtin "list.pop") [.ref D, .int 0 u]) Q E s :=
  kl_popAt (p := []) (q := vs) (k := 0) F N rfl (by simp [seqIndex?]) rfl U (by rw [sizeLine_eq]; show (v :: vs).length ≤ _; rw [List.length_cons]; omega) h
end
theorem ints_cons {vs : List Value} {a : Int} {l : List Int} (h : IntsAre vs (a :: l)) : ∃ t r, vs = .int a t :: r ∧ IntsAre r l := by
  cases h with | cons _ t r => exact ⟨t, _, rfl, r⟩
section
variable {prog : Program} {w : World} {A : Around} {E : Value → Shared → Prop} {s : Shared} {h₀ : Heap} {L D : Addr} {m : Str → Option Value} {news news' : Led} {n : Nat} {vs : List Value} {ks : List Int}
theorem l_append {v : Value} {Q : Value → Shared → Prop} (F : Fr h₀ L s.heap m) (N : News h₀ L s.heap news) (U : Upd D (W.listOf vs.toArray n) (W.listOf (vs ++ [v]).toArray (n + 1)) news news') (hz : vs.length ≤ 16777216)
    (h : ∀ h', Fr h₀ L h' m → News h₀ L h' news' → Q .none { s with heap := h' }) : wpAny (model prog w) A (call (.builtin "list.append") [.ref D, v]) Q E s :=
  append_K (its := vs.toArray) F N (by rw [List.push_toArray]; exact U) h (by rw [List.size_toArray]; exact hz)
end
theorem ints_snoc {vs : List Value} {ks : List Int} (h : IntsAre vs ks) (k : Int) (t : Tok) : IntsAre (vs ++ [.int k t]) (ks ++ [k]) := h.append (.cons _ _ .nil)
section
variable {prog : Program} {w : World} {A : Around} {E : Value → Shared → Prop} {s : Shared} {h₀ : Heap} {L : Addr} {m : Str → Option Value} {news : Led}
theorem l_max1 {n : Nat} {t u : Tok} {Q : Value → Shared → Prop} (hh : A.handled = none) (F : Fr h₀ L s.heap m) (N : News h₀ L s.heap news)
    (h : ∀ h' tk t', Fr h₀ L h' m → News h₀ L h' news → Q (.int ((max 1 n : Nat) : Int) t') { s with heap := h', toks := tk }) : wpAny (model prog w) A (call (.builtin "max") [.int 1 t, .int n u]) Q E s := by
  refine max_two_N hh F N fun h' tk F' N' => ?_
  have e : (if (n : Int) > 1 then (n : Int) else 1) = ((max 1 n : Nat) : Int) := by split <;> omega
  rw [e]; exact h h' tk _ F' N'
end
section
variable {prog : Program} {w : World} {A : Around} {E : Value → Shared → Prop} {s : Shared} {h₀ : Heap} {L l : Addr} {m : Str → Option Value} {news : Led} {vs : List Value} {ns : List Int} {n : Nat}
theorem l_from {value : Expr} {pl : Option Expr} {pp : Pos} {k : Int} {t : Tok} {Q : Value → Shared → Prop} (F : Fr h₀ L s.heap m) (N : News h₀ L s.heap news) (hm : (l, W.listOf vs.toArray n) ∈ news) (hi : IntsAre vs ns) (hz : vs.length ≤ 16777216) (h0 : 0 ≤ k)
    (ht : ∀ r, letTemporaryGo value (.ref l) r = pure ())
    (h : ∀ D ws h', Fr h₀ L h' m → News h₀ L h' ((D, W.listOf (List.toArray ws) 0) :: news) → (∀ p ∈ news, p.1 < D) → IntsAre ws (ns.drop k.toNat) → Q (.ref D) { s with heap := h' }) :
    wpAny (model prog w) A (subscriptTail value (.Slice pl none none pp) (.ref l) (.ref s.heap.objs.size)) Q E { s with heap := s.heap.push { cls := .type "slice", data := .fields #[.int k t, .none, .none] } } :=
  kmk_slice_ints F N (News.isList N hm) (.int k t) .none hi (kmk_from hi h0) rfl (fun D ws h' F' N' l1 hi' _ _ => h D ws h' F' N' l1 hi') (by with_unfolding_all rfl) ht (by rw [List.size_toArray]; exact hz)
theorem l_upto {value : Expr} {pu : Option Expr} {pp : Pos} {k : Int} {t : Tok} {Q : Value → Shared → Prop} (F : Fr h₀ L s.heap m) (N : News h₀ L s.heap news) (hm : (l, W.listOf vs.toArray n) ∈ news) (hi : IntsAre vs ns) (hz : vs.length ≤ 16777216) (h0 : 0 ≤ k)
    (ht : ∀ r, letTemporaryGo value (.ref l) r = pure ())
    (h : ∀ D ws h', Fr h₀ L h' m → News h₀ L h' ((D, W.listOf (List.toArray ws) 0) :: news) → (∀ p ∈ news, p.1 < D) → IntsAre ws (ns.take k.toNat) → Q (.ref D) { s with heap := h' }) :
    wpAny (model prog w) A (subscriptTail value (.Slice none pu none pp) (.ref l) (.ref s.heap.objs.size)) Q E { s with heap := s.heap.push { cls := .type "slice", data := .fields #[.none, .int k t, .none] } } :=
  kmk_slice_ints F N (News.isList N hm) .none (.int k t) hi (kmk_upto hi h0) rfl (fun D ws h' F' N' l1 hi' _ _ => h D ws h' F' N' l1 hi') (by with_unfolding_all rfl) ht (by rw [List.size_toArray]; exact hz)
end
example : True := by w_top off; trivial
section
variable {prog : Program} {w : World} {A : Around} {s : Shared} {env : Env} {R : Result → Shared → Prop} {x : Str} {px : Pos} {body : List Stmt} {h₀ : Heap} {l : Addr} {n : Nat} {vs : List Value} {ks : List Int} {g rest : Led} {m : Str → Option Value}
/-- a loop over a list of ints that lies in the ledger -/
theorem forS_list (hh : A.handled = none) (hi : IntsAre vs ks) (F : Fr h₀ env.locals s.heap m) (N : News h₀ env.locals s.heap g) (hm : (l, W.listOf vs.toArray n) ∈ g) (hs : ∀ p ∈ rest, p ∈ g)
    (J : Nat → (Str → Option Value) → Led → Prop) (hJ : J 0 m rest)
    (hR : ∀ h' tk m' g', Fr h₀ env.locals h' m' → News h₀ env.locals h' ((l, W.listOf vs.toArray n) :: g') → J ks.length m' g' → R (.ok .next) { s with heap := h', toks := tk })
    (step : ∀ I i k t m₁ g₁ o h₁ tk₁, ks[i]? = some k → J i m₁ g₁ → Fr h₀ env.locals h₁ (fun y => if y = x then some (.int k t) else m₁ y) → News h₀ env.locals h₁ ((I, o) :: (l, W.listOf vs.toArray n) :: g₁) → (∀ p ∈ (l, W.listOf vs.toArray n) :: g₁, p.1 ≠ I) →
      wpS (model prog w) A (execs body env) (fun f s₃ => match f with
        | .next | .cont => Turned h₀ env.locals s I o [(l, W.listOf vs.toArray n)] (J (i + 1)) s₃
        | .brk => R (.ok .next) s₃
        | .ret v => R (.ok (.ret v)) s₃) NoE { s with heap := h₁, toks := tk₁ })
    (hx : env.kindOf x = some .local := by rfl) (hp : (env.scope.kind == .class || (env.scope.kind == .module && env.locals != env.globals)) = false := by rfl) :
    wpAny (model prog w) A (pyIter (.ref l)) (fun it s₂ => Again (codeS (model prog w) A (.forLoop (.Name x px) it body [] env) R s₂)) NoE s := by
  have hl := News.isList N hm
  refine wpAny_pyIter_list hl ?_
  have hne : l ≠ s.heap.objs.size := Nat.ne_of_lt (Heap.lt_size (N _ hm).1)
  refine Again.go ?_
  refine forS_walks (ks := [(l, W.listOf vs.toArray n)]) (Walks.list hh s.heap.objs.size l hne vs.toArray) ?_ ?_ hx hp J ?_ ?_ vs.toArray.size 0 _ _ m rest { cls := .type "list_iterator", data := .fields #[.ref l, .int 0 0] } rfl (Nat.zero_le _) ?_ (F.push _) ?_ ?_ hJ
  · intro b hb
    rcases List.mem_cons.mp hb with rfl | hb
    · exact .inl rfl
    · rcases List.mem_cons.mp hb with rfl | hb
      · exact .inr ⟨_, .head _⟩
      · cases hb
  · intro i h st
    obtain ⟨⟨o, ho, _⟩, _⟩ := st
    exact ⟨o, ho⟩
  · intro i v m₁ g₁ o h₁ tk₁ hlt hP hJ₁ F₁ N₁ ne₁
    have hlt' : i < ks.length := by rw [← hi.length]; simpa using hlt
    have hv : vs[i]? = some v := by simpa using hP
    obtain ⟨t, rfl⟩ : ∃ t, v = .int ks[i] t := by
      obtain ⟨t, ht⟩ := hi.get i ks[i] (by simp [hlt'])
      exact ⟨t, Option.some.inj (hv.symm.trans ht)⟩
    exact step _ i ks[i] t m₁ g₁ o h₁ tk₁ (by simp) hJ₁ F₁ N₁ ne₁
  · intro h' tk m' g' F' N' hJ'
    rw [List.size_toArray, hi.length] at hJ'
    exact hR h' tk m' g' F' N' hJ'
  · refine ⟨⟨_, Heap.get?_push_size _ rfl, rfl, rfl⟩, ?_⟩
    obtain ⟨o, ho, r⟩ := hl
    exact ⟨o, Heap.get?_push_of_some _ ho, r⟩
  · refine News.put (D := s.heap.objs.size) F (fun p hp => ?_) (fun b o e => Heap.get?_push_of_some _ e) (none_of_size (Nat.le_refl _)) (Heap.get?_push_size _ rfl)
    rcases List.mem_cons.mp hp with rfl | hp
    · exact N _ hm
    · exact N _ (hs _ hp)
  · intro p hp
    rcases List.mem_cons.mp hp with rfl | hp
    · exact hne
    · exact Nat.ne_of_lt (Heap.lt_size (N _ (hs _ hp)).1)
end
example : True := by w_top off; trivial
def octI (l : List UInt8) : List Int := l.map fun c => (c.toNat : Int)
section
variable {prog : Program} {w : World} {A : Around} {E : Value → Shared → Prop} {s : Shared} {h₀ : Heap} {L a : Addr} {m : Str → Option Value} {news : Led} {l : List UInt8}
theorem l_of_ba {Q : Value → Shared → Prop} (hh : A.handled = none) (F : Fr h₀ L s.heap m) (N : News h₀ L s.heap news) (hm : (a, baObj l.toArray) ∈ news) (hz : l.length ≤ 16777216)
    (h : ∀ D vs n h' tk, Fr h₀ L h' m → News h₀ L h' ((D, W.listOf (List.toArray vs) n) :: news) → (∀ p ∈ news, p.1 < D) → IntsAre vs (octI l) → Q (.ref D) { s with heap := h', toks := tk }) :
    wpAny (model prog w) A (call (.type "list") [.ref a]) Q E s := by
  refine list_of_ba hh (N _ hm).1 (by rw [List.size_toArray]; exact hz) fun h' tk vs n hk hD hI => ?_
  refine h s.heap.objs.size vs n h' tk (F.kept hk) (news_pushed F N hk hD rfl) (fun p hp => Heap.lt_size (N p hp).1) ?_
  simpa [PySem.W.KBw.bInts, octI] using hI
end
theorem nd_pick {g g' : Led} (D : (adr g).Nodup) (is : List Nat) (hn : is.Nodup := by decide) (h : adr g' = is.map (fun i => (adr g).getD i 0) := by rfl) (hb : is.all (fun i => decide (i < (adr g).length)) = true := by rfl) : (adr g').Nodup := by
  rw [h]
  have hb' : ∀ i ∈ is, i < (adr g).length := by simpa using hb
  clear h hb
  induction is with
  | nil => exact List.nodup_nil
  | cons i is ih =>
    have hn' := List.nodup_cons.mp hn
    refine List.nodup_cons.mpr ⟨fun q => ?_, ih hn'.2 fun j hj => hb' j (.tail _ hj)⟩
    obtain ⟨j, hj, e⟩ := List.mem_map.mp q
    have h1 := hb' i (.head _)
    have h2 := hb' j (.tail _ hj)
    simp only [List.getD_eq_getElem?_getD, List.getElem?_eq_getElem h1, List.getElem?_eq_getElem h2, Option.getD_some] at e
    have : j = i := (List.getElem_inj D).mp e
    exact hn'.1 (this ▸ hj)
theorem nd_ne {g : Led} (D : (adr g).Nodup) (i j : Nat) {a b : Addr} (ha : (adr g)[i]? = some a := by rfl) (hb : (adr g)[j]? = some b := by rfl) (hne : i ≠ j := by decide) : a ≠ b := fun e => by
  subst e
  obtain ⟨h1, e1⟩ := List.getElem?_eq_some_iff.mp ha
  obtain ⟨h2, e2⟩ := List.getElem?_eq_some_iff.mp hb
  exact hne ((List.getElem_inj D).mp (e1.trans e2.symm))
theorem nd_cons {g : Led} {l : Addr} {o : Obj} (D : (adr g).Nodup) (h : l ∉ adr g) : (adr ((l, o) :: g)).Nodup := List.nodup_cons.mpr ⟨h, D⟩
theorem dec_bne (n : Int) : (decide (n ≠ 1) != (n != 1)) = false := by by_cases h : n = 1 <;> simp [h]
theorem all_lt {cs : Led} {L d : Addr} (h : ∀ p ∈ cs, @LT.lt Nat _ p.1 L) (hd : @LE.le Nat _ L d) : ∀ p ∈ cs, p.1 ≠ d := fun p hp e => by
  have := h p hp
  rw [e] at this
  exact absurd (Nat.lt_of_lt_of_le this hd) (Nat.lt_irrefl _)
theorem nd_above {L : Addr} {c g : Led} (hc : (adr c).Nodup) (hL : ∀ p ∈ c, L < p.1) (hg : (adr g).Nodup) (hl : ∀ p ∈ g, p.1 < L) : (adr (c ++ g)).Nodup := by
  rw [adr, List.map_append, List.nodup_append]
  refine ⟨hc, hg, fun a ha b hb e => ?_⟩
  obtain ⟨p, hp, rfl⟩ := List.mem_map.mp ha
  obtain ⟨q, hq, rfl⟩ := List.mem_map.mp hb
  have := Nat.lt_trans (hl q hq) (hL p hp)
  rw [e] at this
  exact Nat.lt_irrefl _ this
theorem nd_pickT {g g' : Led} (D : (adr g).Nodup) (n : Nat) (is : List Nat) (hn : is.Nodup := by decide) (h : adr g' = is.map (fun i => (adr g).getD i 0) ++ (adr g).drop n := by rfl) (hb : is.all (fun i => decide (i < n)) = true := by rfl)
    (hl : ((adr g).take n).length = n := by rfl) : (adr g').Nodup := by
  rw [h]
  generalize adr g = G at *
  have hnl : n ≤ G.length := by rw [List.length_take] at hl; omega
  have hb' : ∀ i ∈ is, i < n := by simpa using hb
  rw [List.nodup_append]
  refine ⟨?_, List.Nodup.sublist (List.drop_sublist _ _) D, fun a ha b hb e => ?_⟩
  · clear h hb
    induction is with
    | nil => exact List.nodup_nil
    | cons i is ih =>
      have hn' := List.nodup_cons.mp hn
      refine List.nodup_cons.mpr ⟨fun q => ?_, ih hn'.2 fun j hj => hb' j (.tail _ hj)⟩
      obtain ⟨j, hj, e⟩ := List.mem_map.mp q
      have h1 : i < G.length := Nat.lt_of_lt_of_le (hb' i (.head _)) hnl
      have h2 : j < G.length := Nat.lt_of_lt_of_le (hb' j (.tail _ hj)) hnl
      simp only [List.getD_eq_getElem?_getD, List.getElem?_eq_getElem h1, List.getElem?_eq_getElem h2, Option.getD_some] at e
      exact hn'.1 ((List.getElem_inj D).mp e ▸ hj)
  · subst e
    obtain ⟨i, hi, e⟩ := List.mem_map.mp ha
    obtain ⟨j, hj, e2⟩ := List.mem_iff_getElem.mp hb
    have h1 : i < G.length := Nat.lt_of_lt_of_le (hb' i hi) hnl
    simp only [List.getD_eq_getElem?_getD, List.getElem?_eq_getElem h1, Option.getD_some] at e
    rw [List.length_drop] at hj
    rw [List.getElem_drop] at e2
    have := (List.getElem_inj D).mp (e.trans e2.symm)
    have := hb' i hi
    omega
theorem fresh_lt {g : Led} {l : Addr} (h : ∀ p ∈ g, @LT.lt Nat _ p.1 l) : l ∉ adr g := fun q => by
  obtain ⟨p, hp, e⟩ := List.mem_map.mp q
  have := h p hp
  rw [e] at this
  exact Nat.lt_irrefl _ this
theorem sub_pickT {g g' : Led} (n : Nat) (is : List Nat) (h : g' = is.map (fun i => g.getD i default) ++ g.drop n := by rfl) (hb : is.all (fun i => decide (i < n)) = true := by rfl) (hl : (g.take n).length = n := by rfl) : ∀ q ∈ g', q ∈ g := fun q hq => by
  have hn : n ≤ g.length := by rw [List.length_take] at hl; omega
  rw [h] at hq
  rcases List.mem_append.mp hq with hq | hq
  · obtain ⟨i, hi, rfl⟩ := List.mem_map.mp hq
    have h1 : i < g.length := Nat.lt_of_lt_of_le (by simpa using List.all_eq_true.mp hb i hi) hn
    rw [List.getD_eq_getElem?_getD, List.getElem?_eq_getElem h1, Option.getD_some]
    exact List.getElem_mem h1
  · exact List.mem_of_mem_drop hq
theorem nd_pickN {h₀ h : Heap} {L : Addr} {led g' : Led} (_ : News h₀ L h led) (D : (adr led).Nodup) (is : List Nat) (h : adr g' = is.map (fun i => (adr led).getD i 0) := by rfl) (hn : is.Nodup := by decide) (hb : is.all (fun i => decide (i < (adr led).length)) = true := by rfl) : (adr g').Nodup := nd_pick D is hn h hb
theorem sub_ix {led g' : Led} (is : List Nat) (h : g' = is.map (fun i => led.getD i default) := by rfl) (hb : is.all (fun i => decide (i < led.length)) = true := by rfl) : ∀ q ∈ g', q ∈ led := fun q hq => by
  have hb' : ∀ i ∈ is, i < led.length := by simpa using hb
  rw [h] at hq
  obtain ⟨i, hi, rfl⟩ := List.mem_map.mp hq
  rw [List.getD_eq_getElem?_getD, List.getElem?_eq_getElem (hb' i hi), Option.getD_some]
  exact List.getElem_mem _
/-- a body's end, its ledger picked by places -/
theorem Leave.ix {P : Value → Led → Prop} {s : Shared} {g' h' : Heap} {L' : Addr} {tk : Tok} {m' : Str → Option Value} {led g'' : Led} {v : Value} (is : List Nat) (F : Fr g' L' h' m') (N : News g' L' h' led) (D : (adr led).Nodup) (hP : P v g'')
    (e : g'' = is.map (fun i => led.getD i default) := by rfl) (hn : is.Nodup := by decide) (hb : is.all (fun i => decide (i < led.length)) = true := by rfl) : Leave P g' L' s v { s with heap := h', toks := tk } := by
  have hb' : ∀ i ∈ is, i < led.length := by simpa using hb
  have ed : ∀ i, (adr led).getD i default = (led.getD i default).1 := fun i => by
    rw [List.getD_eq_getElem?_getD, List.getD_eq_getElem?_getD, adr, List.getElem?_map]
    cases led[i]? <;> rfl
  refine ⟨h', tk, m', g'', rfl, F, fun p hp => N p ?_, ?_, hP⟩
  · rw [e] at hp
    obtain ⟨i, hi, rfl⟩ := List.mem_map.mp hp
    rw [List.getD_eq_getElem?_getD, List.getElem?_eq_getElem (hb' i hi), Option.getD_some]
    exact List.getElem_mem _
  · refine nd_pick D is hn ?_ (by simpa [adr] using hb)
    rw [e, adr, List.map_map]
    exact List.map_congr_left fun i _ => (ed i).symm
example : True := by w_top off; trivial
section
variable {prog : Program} {w : World} {A : Around} {s : Shared} {env : Env} {R : Result → Shared → Prop}
/-- a while loop by what a round is handed -/
theorem whileS_K {test : Expr} {body : List Stmt} (K : (Nat → Shared → Prop) → Prop)
    (turn : K fun n s => wpS (model prog w) A (isTrue test env (eval test env)) (fun b s₂ => if b then wpS (model prog w) A (execs body env) (fun f s₃ => match f with
        | .next | .cont => Round (fun n s => ∀ G : Nat → Shared → Prop, K G → G n s) n s₃
        | .brk => R (.ok .next) s₃
        | .ret v => R (.ok (.ret v)) s₃) NoE s₂ else R (.ok .next) s₂) NoE s) (n : Nat) (h : ∀ G : Nat → Shared → Prop, K G → G n s) : codeS (model prog w) A (.whileLoop test body [] env) R s :=
  whileS_inv (fun n s => ∀ G : Nat → Shared → Prop, K G → G n s) (fun n s hI => hI (fun n s => wpS (model prog w) A (isTrue test env (eval test env)) (fun b s₂ => if b then wpS (model prog w) A (execs body env) (fun f s₃ => match f with
        | .next | .cont => Round (fun n s => ∀ G : Nat → Shared → Prop, K G → G n s) n s₃
        | .brk => R (.ok .next) s₃
        | .ret v => R (.ok (.ret v)) s₃) NoE s₂ else R (.ok .next) s₂) NoE s) turn) n h
theorem Round.intro {I : Nat → Shared → Prop} {n m : Nat} {s : Shared} (h : m < n) (k : I m s) : Round I n s := ⟨m, h, k⟩
/-- what holds between the turns of a loop: the frame but the loop's own name, the ledger told by what it hands on -/
def JK (x : Str) (m0 : Str → Option Value) (ks : Led) (K : (Led → Prop) → Prop) (m : Str → Option Value) (g : Led) : Prop :=
  (∀ y, y ≠ x → m y = m0 y) ∧ (adr (ks ++ g)).Nodup ∧ ∀ G : Led → Prop, K G → G g
theorem fr_but {h₀ h : Heap} {L : Addr} {m m0 : Str → Option Value} {x : Str} (F : Fr h₀ L h m) (e : ∀ y, y ≠ x → m y = m0 y) : Fr h₀ L h (fun y => if y = x then m x else m0 y) := by
  have : m = fun y => if y = x then m x else m0 y := funext fun y => by
    by_cases q : y = x
    · rw [if_pos q, q]
    · rw [if_neg q, e y q]
  rw [← this]; exact F
theorem fr_at {h₀ h : Heap} {L : Addr} {m m0 : Str → Option Value} {x : Str} {v : Option Value} (F : Fr h₀ L h (fun y => if y = x then v else m y)) (e : ∀ y, y ≠ x → m y = m0 y) : Fr h₀ L h (fun y => if y = x then v else m0 y) := by
  have : (fun y => if y = x then v else m y) = fun y => if y = x then v else m0 y := funext fun y => by
    by_cases q : y = x
    · rw [if_pos q, if_pos q]
    · rw [if_neg q, if_neg q, e y q]
  rw [← this]; exact F
theorem nd_off {g : Led} {I : Addr} {o : Obj} (D : (adr g).Nodup) (h : ∀ p ∈ g, p.1 ≠ I) : (adr ((I, o) :: g)).Nodup :=
  List.nodup_cons.mpr ⟨fun q => by obtain ⟨p, hp, e⟩ := List.mem_map.mp q; exact h p hp e, D⟩
theorem off_nd {g : Led} {I : Addr} {o : Obj} (D : (adr ((I, o) :: g)).Nodup) : (adr g).Nodup ∧ ∀ p ∈ g, p.1 ≠ I :=
  ⟨(List.nodup_cons.mp D).2, fun p hp e => (List.nodup_cons.mp D).1 (List.mem_map.mpr ⟨p, hp, e⟩)⟩
/-- a turn's end, its ledger picked by places -/
theorem Turned.ix {h₀ h' : Heap} {L I : Addr} {tk : Tok} {o : Obj} {ks g₂ led : Led} {x : Str} {m₂ m0 : Str → Option Value} {K : (Led → Prop) → Prop} (is : List Nat) (F : Fr h₀ L h' m₂) (N : News h₀ L h' led) (D : (adr led).Nodup)
    (hm : ∀ y, y ≠ x → m₂ y = m0 y) (hK : ∀ G : Led → Prop, K G → G g₂) (e : (I, o) :: (ks ++ g₂) = is.map (fun i => led.getD i default) := by rfl) (hn : is.Nodup := by decide) (hb : is.all (fun i => decide (i < led.length)) = true := by rfl) :
    Turned h₀ L s I o ks (JK x m0 ks K) { s with heap := h', toks := tk } := by
  have ed : ∀ i, (adr led).getD i default = (led.getD i default).1 := fun i => by
    rw [List.getD_eq_getElem?_getD, List.getD_eq_getElem?_getD, adr, List.getElem?_map]
    cases led[i]? <;> rfl
  have D2 : (adr ((I, o) :: (ks ++ g₂))).Nodup := by
    refine nd_pick D is hn ?_ (by simpa [adr] using hb)
    rw [e, adr, List.map_map]
    exact List.map_congr_left fun i _ => (ed i).symm
  exact Turned.intro F N (sub_ix is e hb) (off_nd D2).2 ⟨hm, (off_nd D2).1, hK⟩
theorem forS_walksK {x : Str} {px : Pos} {body : List Stmt} {h₀ : Heap} {I : Addr} {fp : List Addr} {n : Nat} {P : Nat → Value → Prop} {St : Nat → Heap → Prop} {ks : Led}
    (W : Walks prog w A I fp [I] n P St) (hfp : ∀ b ∈ fp, b = I ∨ ∃ o, (b, o) ∈ ks) (hI : ∀ i h, St i h → ∃ o, h.get? I = some o) (hx : env.kindOf x = some .local) (hp : (env.scope.kind == .class || (env.scope.kind == .module && env.locals != env.globals)) = false)
    (m0 : Str → Option Value) (K : Nat → (Led → Prop) → Prop)
    (step : ∀ i v o h₁ tk₁, i < n → P i v → K i fun g => Fr h₀ env.locals h₁ (fun y => if y = x then some v else m0 y) → News h₀ env.locals h₁ ((I, o) :: (ks ++ g)) → (adr ((I, o) :: (ks ++ g))).Nodup →
      wpS (model prog w) A (execs body env) (fun f s₃ => match f with
        | .next | .cont => Turned h₀ env.locals s I o ks (JK x m0 ks (K (i + 1))) s₃
        | .brk => R (.ok .next) s₃
        | .ret v => R (.ok (.ret v)) s₃) NoE { s with heap := h₁, toks := tk₁ })
    (hR : ∀ h' tk ov, K n fun g => Fr h₀ env.locals h' (fun y => if y = x then ov else m0 y) → News h₀ env.locals h' (ks ++ g) → (adr (ks ++ g)).Nodup → R (.ok .next) { s with heap := h', toks := tk })
    {h₁ : Heap} {tk₁ : Tok} {g : Led} {o : Obj} (hst : St 0 h₁) (F : Fr h₀ env.locals h₁ m0) (N : News h₀ env.locals h₁ ((I, o) :: (ks ++ g))) (D : (adr ((I, o) :: (ks ++ g))).Nodup) (h0 : ∀ G : Led → Prop, K 0 G → G g) :
    codeS (model prog w) A (.forLoop (.Name x px) (.ref I) body [] env) R { s with heap := h₁, toks := tk₁ } :=
  forS_walks W hfp hI hx hp (fun i => JK x m0 ks (K i)) (fun i v m₁ g₁ o h₁ tk₁ hi hv hJ F₁ N₁ ne => hJ.2.2 _ (step i v o h₁ tk₁ hi hv) (fr_at F₁ hJ.1) N₁ (nd_off hJ.2.1 ne))
    (fun h' tk m' g' F' N' hJ => hJ.2.2 _ (hR h' tk _) (fr_but F' hJ.1) N' hJ.2.1) n 0 h₁ tk₁ m0 g o (Nat.sub_zero n) (Nat.zero_le n) hst F N (off_nd D).2 ⟨fun _ _ => rfl, (off_nd D).1, h0⟩
variable {x : Str} {px : Pos} {body : List Stmt} {h₀ : Heap} {l : Addr} {n : Nat} {vs : List Value} {ks : List Int} {g rest : Led} {m0 : Str → Option Value}
theorem forS_listK (hh : A.handled = none) (hi : IntsAre vs ks) (F : Fr h₀ env.locals s.heap m0) (N : News h₀ env.locals s.heap g) (hm : (l, W.listOf vs.toArray n) ∈ g) (hs : ∀ p ∈ rest, p ∈ g) (D : (adr ((l, W.listOf vs.toArray n) :: rest)).Nodup)
    (K : Nat → (Led → Prop) → Prop) (h0 : ∀ G : Led → Prop, K 0 G → G rest)
    (hR : ∀ h' tk ov, K ks.length fun g => Fr h₀ env.locals h' (fun y => if y = x then ov else m0 y) → News h₀ env.locals h' ((l, W.listOf vs.toArray n) :: g) → (adr ((l, W.listOf vs.toArray n) :: g)).Nodup → R (.ok .next) { s with heap := h', toks := tk })
    (step : ∀ I i k t o h₁ tk₁, ks[i]? = some k → K i fun g => Fr h₀ env.locals h₁ (fun y => if y = x then some (.int k t) else m0 y) → News h₀ env.locals h₁ ((I, o) :: (l, W.listOf vs.toArray n) :: g) → (adr ((I, o) :: (l, W.listOf vs.toArray n) :: g)).Nodup →
      wpS (model prog w) A (execs body env) (fun f s₃ => match f with
        | .next | .cont => Turned h₀ env.locals s I o [(l, W.listOf vs.toArray n)] (JK x m0 [(l, W.listOf vs.toArray n)] (K (i + 1))) s₃
        | .brk => R (.ok .next) s₃
        | .ret v => R (.ok (.ret v)) s₃) NoE { s with heap := h₁, toks := tk₁ })
    (hx : env.kindOf x = some .local := by rfl) (hp : (env.scope.kind == .class || (env.scope.kind == .module && env.locals != env.globals)) = false := by rfl) :
    wpAny (model prog w) A (pyIter (.ref l)) (fun it s₂ => Again (codeS (model prog w) A (.forLoop (.Name x px) it body [] env) R s₂)) NoE s :=
  forS_list hh hi F N hm hs (fun i => JK x m0 [(l, W.listOf vs.toArray n)] (K i)) ⟨fun _ _ => rfl, D, h0⟩
    (fun h' tk m' g' F' N' hJ => hJ.2.2 _ (hR h' tk _) (fr_but F' hJ.1) N' hJ.2.1)
    (fun I i k t m₁ g₁ o h₁ tk₁ hk hJ F₁ N₁ ne => hJ.2.2 _ (step I i k t o h₁ tk₁ hk) (fr_at F₁ hJ.1) N₁ (nd_off hJ.2.1 ne)) hx hp
end
/-- a statement's end, held: what is so behind it -/
def Cut (P : Prop) : Prop := P
theorem Cut.go {P : Prop} (h : P) : Cut P := h
theorem S_cut {M : Model} {A : Around} {E : Value → Shared → Prop} {s : Shared} {env : Env} {st : Stmt} {rest : List Stmt} {Q : Flow → Shared → Prop} (Inv : Shared → Prop)
    (h1 : wpS M A (exec st env) (fun f s' => match f with | .next => Cut (Inv s') | f => Q f s') E s) (h2 : ∀ s', Inv s' → wpS M A (execs rest env) Q E s') : wpS M A (execs (st :: rest) env) Q E s :=
  S_cons (wpS_mono h1 (fun f s' h => by cases f <;> first | exact h2 s' h | exact h) fun _ _ h => h)
theorem S_cutK {M : Model} {A : Around} {E : Value → Shared → Prop} {s : Shared} {env : Env} {st : Stmt} {rest : List Stmt} {Q : Flow → Shared → Prop} (K : (Shared → Prop) → Prop)
    (h1 : wpS M A (exec st env) (fun f s' => match f with | .next => Cut (∀ G : Shared → Prop, K G → G s') | f => Q f s') E s) (h2 : K fun s' => wpS M A (execs rest env) Q E s') : wpS M A (execs (st :: rest) env) Q E s :=
  S_cut (fun s' => ∀ G : Shared → Prop, K G → G s') h1 fun s' hI => hI (fun s' => wpS M A (execs rest env) Q E s') h2
theorem updF_ix {d : Addr} {o : Obj} : ∀ {g : Led} (i : Nat) (_ : g[i]? = some (d, o)) (_ : (adr g).Nodup), UpdF d o g (fun o' => g.set i (d, o'))
  | [], _, h, _ => by cases h
  | q :: r, 0, h, D => by
    cases h
    exact .head fun p hp e => (List.nodup_cons.mp D).1 (List.mem_map.mpr ⟨p, hp, e⟩)
  | q :: r, i + 1, h, D => by
    have h' : r[i]? = some (d, o) := h
    refine UpdF.tail (fun e => ?_) (updF_ix i h' (List.nodup_cons.mp D).2)
    have h2 := List.mem_map_of_mem (f := (·.1)) (List.mem_of_getElem? h')
    refine (List.nodup_cons.mp D).1 ?_
    show q.1 ∈ _
    rw [e]; exact h2
theorem ixe {l : Led} {p : Addr × Obj} (i : Nat) (h : l[i]? = some p) : l[i]? = some p := h
example : True := by w_top off; trivial
theorem fills_P12 (w : World) : PySem.Challenge.rw_nu0085_01.row.toRowW.prog = PySem.Challenge.rw_nu0085_01.row.toRowW.prog → MineHead.hd.heap_1 w.params = MineHead.hd.heap_1 w.params := by
  k_fill
  exact fun _ => rfl

theorem receive_spec (w : World) (ua : Addr) (x : UPh) (d : UD) (hz : d.wt.length ≤ 1000) : Spec 1 w 109 [.ref ua] (uLed w.params ua x d) (Ret fun k => match d.wt with
    | [] => k .none (uLed w.params ua x d)
    | c :: r => ∀ t x', k (.int c.toNat t) (uLed w.params ua x' { d with wt := r })) := by
  refine' Spec.intro (binds := [("self", .ref ua)]) ?ho ?hcd ?hb ?hl ?_ ?c1 ?c2 ?c3 ?c4
  case ho => k_is
  case hcd => k_is
  case hb => exact fun s X => BindsTo.of_eq rfl
  case hl => exact locs rfl
  case c1 => exact rfl
  case c2 => exact rfl
  case c3 => exact rfl
  case c4 => decide
  intro A base fs s g' L' h' mean mg mb kM R' F' N' D' B' X' T' l1
  w_on
  skip

  obtain ⟨du, oa, wa, k0, k1, k2, k3, k4, k5, k6, k7, t0, t3, t4, t5⟩ := x
  obtain ⟨size, en, ln, dv, lost, sent, out, wt⟩ := d
  dsimp only [uLed] at *
  show wpAny _ _ _ _ _ _
  k_fold
  cases wt with
  | nil =>
    k_steps
    (try dsimp only); (try (k_unfold; (try dsimp only)))
    refine' Leave.ix [0, 1, 2, 3] (by k_asm) (by k_asm) (by walk_at "k_nd") (fun _ k => k)
  | cons c r =>
    k_steps
    rename Addr => Dn
    (try dsimp only); (try (k_unfold; (try dsimp only)))
    refine' Leave.ix [1, 2, 3, 0] (by k_asm) (by k_asm) (by walk_at "k_nd") (fun _ k => k _ ⟨du, oa, Dn, k0, k1, k2, k3, k4, k5, k6, k7, t0, t3, t4, t5⟩)

theorem has_spec (w : World) (ua : Addr) (x : UPh) (d : UD) (hz : d.wt.length ≤ 1000) : Spec 1 w 116 [.ref ua] (uLed w.params ua x d) (Ret fun k => k (.bool (hasRec d)) (uLed w.params ua x d)) := by
  refine' Spec.intro (binds := [("self", .ref ua)]) ?ho ?hcd ?hb ?hl ?_ ?c1 ?c2 ?c3 ?c4
  case ho => k_is
  case hcd => k_is
  case hb => exact fun s X => BindsTo.of_eq rfl
  case hl => exact locs rfl
  case c1 => exact rfl
  case c2 => exact rfl
  case c3 => exact rfl
  case c4 => decide
  intro A base fs s g' L' h' mean mg mb kM R' F' N' D' B' X' T' l1
  w_on
  skip

  show wpAny _ _ _ _ _ _
  k_fold
  k_steps
  all_goals
    (try dsimp only); (try (k_unfold; (try dsimp only)))
    refine' Leave.intro (ret1 ?_ rfl) (by k_asm) (by k_asm) (by walk_at "m_sub") (by walk_at "m_dj")
    simp [hasRec, *]

theorem tells_spec (w : World) (ua : Addr) (x : UPh) (d : UD) : Spec 1 w 123 [.ref ua] (uLed w.params ua x d) (Ret fun k => k (.bool (tellsEmpty d)) (uLed w.params ua x d)) := by
  refine' Spec.intro (binds := [("self", .ref ua)]) ?ho ?hcd ?hb ?hl ?_ ?c1 ?c2 ?c3 ?c4
  case ho => k_is
  case hcd => k_is
  case hb => exact fun s X => BindsTo.of_eq rfl
  case hl => exact locs rfl
  case c1 => exact rfl
  case c2 => exact rfl
  case c3 => exact rfl
  case c4 => decide
  intro A base fs s g' L' h' mean mg mb kM R' F' N' D' B' X' T' l1
  w_on
  skip

  show wpAny _ _ _ _ _ _
  k_fold
  k_steps
  all_goals
    (try dsimp only); (try (k_unfold; (try dsimp only)))
    refine' Leave.intro (ret1 ?_ rfl) (by k_asm) (by k_asm) (by walk_at "m_sub") (by walk_at "m_dj")
    simp [tellsEmpty, *]

theorem isdiv_spec (w : World) (ua : Addr) (x : UPh) (d : UD) : Spec 1 w 137 [.ref ua] (uLed w.params ua x d) (Ret fun k => k (.bool (isDiv d)) (uLed w.params ua x d)) := by
  refine' Spec.intro (binds := [("self", .ref ua)]) ?ho ?hcd ?hb ?hl ?_ ?c1 ?c2 ?c3 ?c4
  case ho => k_is
  case hcd => k_is
  case hb => exact fun s X => BindsTo.of_eq rfl
  case hl => exact locs rfl
  case c1 => exact rfl
  case c2 => exact rfl
  case c3 => exact rfl
  case c4 => decide
  intro A base fs s g' L' h' mean mg mb kM R' F' N' D' B' X' T' l1
  w_on
  skip

  show wpAny _ _ _ _ _ _
  k_fold
  k_steps
  (try dsimp only); (try (k_unfold; (try dsimp only)))
  refine' Leave.intro (ret1 ?_ rfl) (by k_asm) (by k_asm) (by walk_at "m_sub") (by walk_at "m_dj")
  simp [isDiv, *]

theorem due_spec (w : World) (ua : Addr) (x : UPh) (d : UD) (hz : d.wt.length ≤ 1000) : Spec 2 w 130 [.ref ua] (uLed w.params ua x d) (Ret fun k => k (.bool (isDue d)) (uLed w.params ua x d)) := by
  refine' Spec.intro (binds := [("self", .ref ua)]) ?ho ?hcd ?hb ?hl ?_ ?c1 ?c2 ?c3 ?c4
  case ho => k_is
  case hcd => k_is
  case hb => exact fun s X => BindsTo.of_eq rfl
  case hl => exact locs rfl
  case c1 => exact rfl
  case c2 => exact rfl
  case c3 => exact rfl
  case c4 => decide
  intro A base fs s g' L' h' mean mg mb kM R' F' N' D' B' X' T' l1
  w_on
  skip

  show wpAny _ _ _ _ _ _
  k_fold
  k_steps
  refine' m_go (Spec.use1K (has_spec w ua x d hz) B' (by k_asm) X' T' (R'.le (by decide)) (by k_asm) (by walk_at "m_sub") (by walk_at "m_dj") ?_)
  intro  h' tk F' N' D'; (try dsimp only)
  k_steps
  · (try dsimp only); (try (k_unfold; (try dsimp only)))
    refine' Leave.intro (ret1 ?_ rfl) (by k_asm) (by k_asm) (by walk_at "m_sub") (by walk_at "m_dj")
    simp [isDue, *]
  · refine' m_go (Spec.use1K (tells_spec w ua x d) B' (by k_asm) X' T' (R'.le (by decide)) (by k_asm) (by walk_at "m_sub") (by walk_at "m_dj") ?_)
    intro  h' tk F' N' D'; (try dsimp only)
    k_steps
    (try dsimp only); (try (k_unfold; (try dsimp only)))
    refine' Leave.intro (ret1 ?_ rfl) (by k_asm) (by k_asm) (by walk_at "m_sub") (by walk_at "m_dj")
    simp_all [isDue]

theorem status_spec (w : World) (ua : Addr) (x : UPh) (d : UD) (hz : d.wt.length ≤ 1000) : Spec 1 w 144 [.ref ua] (uLed w.params ua x d) (Ret fun k => ∀ t, k (.int (96 + (if d.wt = [] then 0 else 1) + 2 * (if d.lost then 1 else 0)) t) (uLed w.params ua x { d with lost := false })) := by
  refine' Spec.intro (binds := [("self", .ref ua)]) ?ho ?hcd ?hb ?hl ?_ ?c1 ?c2 ?c3 ?c4
  case ho => k_is
  case hcd => k_is
  case hb => exact fun s X => BindsTo.of_eq rfl
  case hl => exact locs rfl
  case c1 => exact rfl
  case c2 => exact rfl
  case c3 => exact rfl
  case c4 => decide
  intro A base fs s g' L' h' mean mg mb kM R' F' N' D' B' X' T' l1
  w_on
  skip

  obtain ⟨du, oa, wa, k0, k1, k2, k3, k4, k5, k6, k7, t0, t3, t4, t5⟩ := x
  obtain ⟨size, en, ln, dv, lost, sent, out, wt⟩ := d
  dsimp only [uLed] at *
  show wpAny _ _ _ _ _ _
  k_fold
  k_steps
  (try dsimp only); (try (k_unfold; (try dsimp only)))
  refine' Leave.intro (retI ?_ rfl) (by k_asm) (by k_asm) (by walk_at "m_sub") (by walk_at "m_dj")
  cases wt <;> simp <;> omega

def identU (d : UD) : Int × UD := if hasRec d then (4, d) else if tellsEmpty d then (2, { d with sent := false }) else (1, d)

theorem ident_spec (w : World) (ua : Addr) (x : UPh) (d : UD) (hz : d.wt.length ≤ 1000) : Spec 2 w 151 [.ref ua] (uLed w.params ua x d) (Ret fun k => ∀ t, k (.int (identU d).1 t) (uLed w.params ua x (identU d).2)) := by
  refine' Spec.intro (binds := [("self", .ref ua)]) ?ho ?hcd ?hb ?hl ?_ ?c1 ?c2 ?c3 ?c4
  case ho => k_is
  case hcd => k_is
  case hb => exact fun s X => BindsTo.of_eq rfl
  case hl => exact locs rfl
  case c1 => exact rfl
  case c2 => exact rfl
  case c3 => exact rfl
  case c4 => decide
  intro A base fs s g' L' h' mean mg mb kM R' F' N' D' B' X' T' l1
  w_on
  skip

  show wpAny _ _ _ _ _ _
  k_fold
  k_steps
  refine' m_go (Spec.use1K (has_spec w ua x d hz) B' (by k_asm) X' T' (R'.le (by decide)) (by k_asm) (by walk_at "m_sub") (by walk_at "m_dj") ?_)
  intro  h' tk F' N' D'; (try dsimp only)
  k_steps
  · have e : identU d = (4, d) := by simp_all [identU]
    (try dsimp only); (try (k_unfold; (try dsimp only)))
    refine' Leave.intro (g'' := uLed w.params ua x d) (by exact retI (by rw [e]) (by rw [e])) (by k_asm) (by k_asm) (by walk_at "m_sub") (by walk_at "m_dj")
  · refine' m_go (Spec.use1K (tells_spec w ua x d) B' (by k_asm) X' T' (R'.le (by decide)) (by k_asm) (by walk_at "m_sub") (by walk_at "m_dj") ?_)
    intro  h' tk F' N' D'; (try dsimp only)
    k_steps
    · have e : identU d = (2, { d with sent := false }) := by simp_all [identU]
      (try dsimp only); (try (k_unfold; (try dsimp only)))
      refine' Leave.intro (g'' := uLed w.params ua x { d with sent := false }) (by exact retI (by rw [e]) (by rw [e])) (by k_asm) (by k_asm) (by walk_at "m_sub") (by walk_at "m_dj")
    · have e : identU d = (1, d) := by simp_all [identU]
      (try dsimp only); (try (k_unfold; (try dsimp only)))
      refine' Leave.intro (g'' := uLed w.params ua x d) (by exact retI (by rw [e]) (by rw [e])) (by k_asm) (by k_asm) (by walk_at "m_sub") (by walk_at "m_dj")
example : True := by w_top off; trivial
def loadU (d : UD) (p : Int) : Int × UD :=
  if p = 0 then (if isDiv d then (Builtin.bitAnd d.dv 255, d) else match d.wt with | [] => (0, d) | c :: r => (c.toNat, { d with wt := r }))
  else if p = 1 then (if isDiv d then d.dv.fdiv 256 else d.en, d)
  else if p = 2 then identU d
  else if p = 3 then (d.ln, d)
  else if p = 5 then (96 + (if d.wt = [] then 0 else 1) + 2 * (if d.lost then 1 else 0), { d with lost := false })
  else (0, d)
theorem load_end {P : Params} {ua : Addr} {x' : UPh} {d d' : UD} {p n : Int} {t : Tok} (hn : n = (loadU d p).1) (hd : d' = (loadU d p).2) : Ret (fun k => ∀ t x', k (.int (loadU d p).1 t) (uLed P ua x' (loadU d p).2)) (.int n t) (uLed P ua x' d') := fun _ k => by rw [hn, hd]; exact k _ _
theorem receive_nil (w : World) (ua : Addr) (x : UPh) (d : UD) (hz : d.wt.length ≤ 1000) (e : d.wt = []) : Spec 1 w 109 [.ref ua] (uLed w.params ua x d) (Ret fun k => k .none (uLed w.params ua x d)) :=
  (receive_spec w ua x d hz).monoK (Nat.le_refl _) fun _ h => by rw [e]; exact h
theorem receive_cons (w : World) (ua : Addr) (x : UPh) (d : UD) {c : UInt8} {r : List UInt8} (hz : d.wt.length ≤ 1000) (e : d.wt = c :: r) : Spec 1 w 109 [.ref ua] (uLed w.params ua x d) (Ret fun k => ∀ t x', k (.int c.toNat t) (uLed w.params ua x' { d with wt := r })) :=
  (receive_spec w ua x d hz).monoK (Nat.le_refl _) fun _ h => by rw [e]; exact h
theorem Leave.now {P : Value → Led → Prop} {s : Shared} {g' h' : Heap} {L' : Addr} {tk : Tok} {m' : Str → Option Value} {g'' : Led} {v : Value} (F : Fr g' L' h' m') (N : News g' L' h' g'') (D : (adr g'').Nodup) (hP : P v g'') :
    Leave P g' L' s v { s with heap := h', toks := tk } := ⟨h', tk, m', g'', rfl, F, N, D, hP⟩
theorem fills_P13 (w : World) : PySem.Challenge.rw_nu0085_01.row.toRowW.prog = PySem.Challenge.rw_nu0085_01.row.toRowW.prog → MineHead.hd.heap_1 w.params = MineHead.hd.heap_1 w.params := by
  k_fill
  exact fun _ => rfl

theorem load_spec (w : World) (ua : Addr) (x : UPh) (d : UD) (p : Int) (u u' : Tok) (hz : d.wt.length ≤ 1000) (h0 : 0 ≤ p) (h8 : p < 8) : Spec 3 w 158 [.ref ua, .int p u, .int 1 u'] (uLed w.params ua x d)
    (Ret fun k => ∀ t x', k (.int (loadU d p).1 t) (uLed w.params ua x' (loadU d p).2)) := by
  refine' Spec.intro (binds := [("self", .ref ua), ("place", .int p u), ("size", .int 1 u')]) ?ho ?hcd ?hb ?hl ?_ ?c1 ?c2 ?c3 ?c4
  case ho => k_is
  case hcd => k_is
  case hb => exact fun s X => BindsTo.of_eq rfl
  case hl => exact locs rfl
  case c1 => exact rfl
  case c2 => exact rfl
  case c3 => exact rfl
  case c4 => decide
  intro A base fs s g' L' h' mean mg mb kM R' F' N' D' B' X' T' l1
  w_on
  skip

  show wpAny _ _ _ _ _ _
  k_fold
  k_steps
  · refine' m_go (Spec.use1K (isdiv_spec w ua x d) B' (by k_asm) X' T' (R'.le (by decide)) (by k_asm) (by walk_at "m_sub") (by walk_at "m_dj") ?_)
    intro  h' tk F' N' D'; (try dsimp only)
    k_steps
    · (try dsimp only); (try (k_unfold; (try dsimp only)))
      refine' Leave.now (by k_asm) (by k_asm) (by walk_at "m_dj") ?_
      refine load_end ?_ ?_ <;> simp_all [loadU]
    · cases hw : d.wt with
      | nil =>
        refine' m_go (Spec.use1K ((receive_nil w ua x d hz hw)) B' (by k_asm) X' T' (R'.le (by decide)) (by k_asm) (by walk_at "m_sub") (by walk_at "m_dj") ?_)
        intro  h' tk F' N' D'; (try dsimp only)
        k_steps
        (try dsimp only); (try (k_unfold; (try dsimp only)))
        refine' Leave.now (by k_asm) (by k_asm) (by walk_at "m_dj") ?_
        refine load_end ?_ ?_ <;> simp_all [loadU]
      | cons c r =>
        refine' m_go (Spec.use1K ((receive_cons w ua x d hz hw)) B' (by k_asm) X' T' (R'.le (by decide)) (by k_asm) (by walk_at "m_sub") (by walk_at "m_dj") ?_)
        intro tr x' h' tk F' N' D'; (try dsimp only)
        k_steps
        (try dsimp only); (try (k_unfold; (try dsimp only)))
        refine' Leave.now (by k_asm) (by k_asm) (by walk_at "m_dj") ?_
        refine load_end ?_ ?_ <;> simp_all [loadU]
  · refine' m_go (Spec.use1K (isdiv_spec w ua x d) B' (by k_asm) X' T' (R'.le (by decide)) (by k_asm) (by walk_at "m_sub") (by walk_at "m_dj") ?_)
    intro  h' tk F' N' D'; (try dsimp only)
    k_steps
    all_goals
      (try dsimp only); (try (k_unfold; (try dsimp only)))
      refine' Leave.now (by k_asm) (by k_asm) (by walk_at "m_dj") ?_
      refine load_end ?_ ?_ <;> simp_all [loadU]
  · refine' m_go (Spec.use1K (ident_spec w ua x d hz) B' (by k_asm) X' T' (R'.le (by decide)) (by k_asm) (by walk_at "m_sub") (by walk_at "m_dj") ?_)
    intro ti h' tk F' N' D'; (try dsimp only)
    k_steps
    (try dsimp only); (try (k_unfold; (try dsimp only)))
    refine' Leave.now (by k_asm) (by k_asm) (by walk_at "m_dj") ?_
    refine load_end ?_ ?_ <;> simp_all [loadU]
  · (try dsimp only); (try (k_unfold; (try dsimp only)))
    refine' Leave.now (by k_asm) (by k_asm) (by walk_at "m_dj") ?_
    refine load_end ?_ ?_ <;> simp_all [loadU]
  · refine' m_go (Spec.use1K (status_spec w ua x d hz) B' (by k_asm) X' T' (R'.le (by decide)) (by k_asm) (by walk_at "m_sub") (by walk_at "m_dj") ?_)
    intro ts h' tk F' N' D'; (try dsimp only)
    k_steps
    (try dsimp only); (try (k_unfold; (try dsimp only)))
    refine' Leave.now (by k_asm) (by k_asm) (by walk_at "m_dj") ?_
    refine load_end ?_ ?_ <;> simp_all [loadU]
  · (try dsimp only); (try (k_unfold; (try dsimp only)))
    refine' Leave.now (by k_asm) (by k_asm) (by walk_at "m_dj") ?_
    refine load_end ?_ ?_ <;> simp_all [loadU]
example : True := by w_top off; trivial
theorem fills_P14 (w : World) : PySem.Challenge.rw_nu0085_01.row.toRowW.prog = PySem.Challenge.rw_nu0085_01.row.toRowW.prog → MineHead.hd.heap_1 w.params = MineHead.hd.heap_1 w.params := by
  k_fill
  exact fun _ => rfl

theorem send_spec (w : World) (ua : Addr) (x : UPh) (d : UD) (b : Array UInt8) (t : Tok) (hz : d.out.length + b.size ≤ 1000000) : SpecS 1 w 102 [.ref ua, .bytes b t] (uLed w.params ua x d)
    (Ret fun k => k .none (uLed w.params ua x { d with out := d.out ++ b.toList })) := by
  refine' SpecS.intro (binds := [("self", .ref ua), ("octets", .bytes b t)]) ?ho ?hcd ?hb ?hl ?_ ?c1 ?c2 ?c3 ?c4
  case ho => k_is
  case hcd => k_is
  case hb => exact fun s X => BindsTo.of_eq rfl
  case hl => exact locs rfl
  case c1 => exact rfl
  case c2 => exact rfl
  case c3 => exact rfl
  case c4 => decide
  intro A base fs s g' L' h' mean mg mb kM R' F' N' D' B' X' T' l1
  w_on
  refine S_letQ ?_; intro kQ0

  obtain ⟨du, oa, wa, k0, k1, k2, k3, k4, k5, k6, k7, t0, t3, t4, t5⟩ := x
  obtain ⟨size, en, ln, dv, lost, sent, out, wt⟩ := d
  dsimp only [uLed] at *
  show wpS _ _ _ _ _ _
  k_steps
  (try dsimp only); (try (k_unfold; (try dsimp only)))
  refine' Leave.now (by k_asm) (by k_asm) (by walk_at "m_dj") ?_
  exact fun _ k => k

theorem take_out_spec (w : World) (ua : Addr) (x : UPh) (d : UD) (hz : d.out.length ≤ 1000000) : SpecS 1 w 95 [.ref ua] (uLed w.params ua x d)
    (Ret fun k => ∀ t x', k (.bytes d.out.toArray t) (uLed w.params ua x' { d with out := [] })) := by
  refine' SpecS.intro (binds := [("self", .ref ua)]) ?ho ?hcd ?hb ?hl ?_ ?c1 ?c2 ?c3 ?c4
  case ho => k_is
  case hcd => k_is
  case hb => exact fun s X => BindsTo.of_eq rfl
  case hl => exact locs rfl
  case c1 => exact rfl
  case c2 => exact rfl
  case c3 => exact rfl
  case c4 => decide
  intro A base fs s g' L' h' mean mg mb kM R' F' N' D' B' X' T' l1
  w_on
  refine S_letQ ?_; intro kQ0

  obtain ⟨du, oa, wa, k0, k1, k2, k3, k4, k5, k6, k7, t0, t3, t4, t5⟩ := x
  obtain ⟨size, en, ln, dv, lost, sent, out, wt⟩ := d
  dsimp only [uLed] at *
  show wpS _ _ _ _ _ _
  k_steps
  rename Addr => Dn
  (try dsimp only); (try (k_unfold; (try dsimp only)))
  refine' Leave.ix [1, 2, 0, 4] (by k_asm) (by k_asm) (by walk_at "k_nd") (fun _ k => k _ ⟨du, Dn, wa, k0, k1, k2, k3, k4, k5, k6, k7, t0, t3, t4, t5⟩)
example : True := by w_top off; trivial
def storeU (d : UD) (p n : Int) : UD :=
  if p = 0 then (if isDiv d then { d with dv := Builtin.bitOr (Builtin.bitAnd d.dv 65280) (Builtin.bitAnd n 255) } else { d with out := d.out ++ [(Builtin.bitAnd n 255).toNat.toUInt8], sent := true })
  else if p = 1 then (if isDiv d then { d with dv := Builtin.bitOr (Builtin.bitAnd n 255 * 2 ^ Int.toNat 8) (Builtin.bitAnd d.dv 255) } else { d with sent := d.sent || (Builtin.bitAnd d.en 2 == 0 && Builtin.bitAnd (Builtin.bitAnd n 255) 2 != 0), en := Builtin.bitAnd (Builtin.bitAnd n 255) 3 })
  else if p = 2 then (if Builtin.bitAnd (Builtin.bitAnd n 255) 2 ≠ 0 then { d with wt := [], lost := false } else d)
  else if p = 3 then { d with ln := Builtin.bitAnd n 255 } else d
theorem fills_P15 (w : World) : PySem.Challenge.rw_nu0085_01.row.toRowW.prog = PySem.Challenge.rw_nu0085_01.row.toRowW.prog → MineHead.hd.heap_1 w.params = MineHead.hd.heap_1 w.params := by
  k_fill
  exact fun _ => rfl

theorem store_spec (w : World) (ua : Addr) (x : UPh) (d : UD) (p n : Int) (u u' t : Tok) (hz : d.out.length ≤ 900000) (h0 : 0 ≤ p) (h8 : p < 8) : SpecS 2 w 165 [.ref ua, .int p u, .int 1 u', .int n t] (uLed w.params ua x d)
    (Ret fun k => ∀ x', k .none (uLed w.params ua x' (storeU d p n))) := by
  refine' SpecS.intro (binds := [("self", .ref ua), ("place", .int p u), ("size", .int 1 u'), ("value", .int n t)]) ?ho ?hcd ?hb ?hl ?_ ?c1 ?c2 ?c3 ?c4
  case ho => k_is
  case hcd => k_is
  case hb => exact fun s X => BindsTo.of_eq rfl
  case hl => exact locs rfl
  case c1 => exact rfl
  case c2 => exact rfl
  case c3 => exact rfl
  case c4 => decide
  intro A base fs s g' L' h' mean mg mb kM R' F' N' D' B' X' T' l1
  w_on
  refine S_letQ ?_; intro kQ0

  show wpS _ _ _ _ _ _
  k_steps
  · refine' m_go (Spec.use1K (isdiv_spec w ua x d) B' (by k_asm) X' T' (R'.le (by decide)) (by k_asm) (by walk_at "m_sub") (by walk_at "m_dj") ?_)
    intro  h' tk F' N' D'; (try dsimp only)
    k_steps
    · (try dsimp only); (try (k_unfold; (try dsimp only)))
      refine' Leave.now (by k_asm) (by k_asm) (by walk_at "m_dj") ?_
      refine u_endK u_lit ?_
      simp_all [storeU]
    · refine' m_go (SpecS.use1K (send_spec w ua x d _ _ (by simp; omega)) B' (by k_asm) X' T' (R'.le (by decide)) (by k_asm) (by walk_at "m_sub") (by walk_at "m_dj") ?_)
      intro  h' tk F' N' D'; (try dsimp only)
      k_steps
      (try dsimp only); (try (k_unfold; (try dsimp only)))
      refine' Leave.now (by k_asm) (by k_asm) (by walk_at "m_dj") ?_
      refine u_endK u_lit ?_
      simp_all [storeU]
  · refine' m_go (Spec.use1K (isdiv_spec w ua x d) B' (by k_asm) X' T' (R'.le (by decide)) (by k_asm) (by walk_at "m_sub") (by walk_at "m_dj") ?_)
    intro  h' tk F' N' D'; (try dsimp only)
    k_steps
    all_goals
      (try dsimp only); (try (k_unfold; (try dsimp only)))
      refine' Leave.now (by k_asm) (by k_asm) (by walk_at "m_dj") ?_
      refine u_endK u_lit ?_
      simp_all [storeU]
  · rename Addr => Dn
    (try dsimp only); (try (k_unfold; (try dsimp only)))
    refine' Leave.ix [1, 2, 3, 0] (by k_asm) (by k_asm) (by walk_at "k_nd") (u_endK (x' := ⟨x.du, x.oa, Dn, x.k0, x.k1, x.k2, x.k3, x.k4, x.k5, x.k6, x.k7, x.t0, x.t3, x.t4, x.t5⟩) (d' := { d with wt := [], lost := false }) rfl ?_)
    simp_all [storeU]
  all_goals
    (try dsimp only); (try (k_unfold; (try dsimp only)))
    refine' Leave.now (by k_asm) (by k_asm) (by walk_at "m_dj") ?_
    refine u_endK u_lit ?_
    simp_all [storeU]
example : True := by w_top off; trivial
theorem Fr.as {h₀ h : Heap} {L : Addr} {m m' : Str → Option Value} (F : Fr h₀ L h m) (e : ∀ y, m y = m' y) : Fr h₀ L h m' := (funext e : m = m') ▸ F
theorem lk_cons {x : Str} {v : Value} {m : Str → Option Value} {l : List (Str × Value)} (h : ∀ y, y ≠ x → m y = List.lookup y l) (y : Str) : (if y = x then some v else m y) = List.lookup y ((x, v) :: l) := by
  by_cases e : y = x
  · subst e; simp [List.lookup]
  · have : (y == x) = false := by simpa using e
    simp only [List.lookup, this, if_neg e]; exact h y e
theorem lk_tail {x : Str} {v : Value} {l : List (Str × Value)} (y : Str) (h : y ≠ x) : List.lookup y ((x, v) :: l) = List.lookup y l := by
  have : (y == x) = false := by simpa using h
  simp only [List.lookup, this]
theorem kbw_some {I : Addr} {b : Array UInt8} {t : Tok} (i : Nat) (h : Heap) (st : KBw.IsBytesIter h I b t i) : ∃ o, h.get? I = some o := let ⟨o, ho, _⟩ := st; ⟨o, ho⟩
def feed1 (d : UD) (c : UInt8) : UD := if (d.wt.length : Int) < d.size then { d with wt := d.wt ++ [c] } else { d with lost := true }
def feedU (d : UD) (l : List UInt8) : UD := l.foldl feed1 d
theorem feed_wt (l : List UInt8) (d : UD) : (feedU d l).wt.length ≤ d.wt.length + l.length := by
  induction l generalizing d with
  | nil => exact Nat.le_refl _
  | cons c l ih =>
    have h := ih (feed1 d c)
    show (feedU (feed1 d c) l).wt.length ≤ _
    have : (feed1 d c).wt.length ≤ d.wt.length + 1 := by unfold feed1; split <;> simp
    simp only [List.length_cons]; omega
theorem feed_step (l : List UInt8) (d : UD) (i : Nat) (c : UInt8) (h : l[i]? = some c) : feedU d (l.take (i + 1)) = feed1 (feedU d (l.take i)) c := by
  rw [List.take_succ, h]; simp [feedU]
theorem ne4 {I a b c d : Addr} {oa ob oc od : Obj} (h : ∀ p ∈ ([] : Led) ++ [(a, oa), (b, ob), (c, oc), (d, od)], p.1 ≠ I) : a ≠ I ∧ b ≠ I ∧ c ≠ I ∧ d ≠ I :=
  ⟨h _ (.head _), h _ (.tail _ (.head _)), h _ (.tail _ (.tail _ (.head _))), h _ (.tail _ (.tail _ (.tail _ (.head _))))⟩
theorem oct_back (c : UInt8) : ((c.toNat : Int).toNat.toUInt8) = c := by rw [Int.toNat_natCast]; exact UInt8.ofNat_toNat
theorem fills_P16 (w : World) : PySem.Challenge.rw_nu0085_01.row.toRowW.prog = PySem.Challenge.rw_nu0085_01.row.toRowW.prog → MineHead.hd.heap_1 w.params = MineHead.hd.heap_1 w.params := by
  k_fill
  exact fun _ => rfl

theorem feed_spec (w : World) (ua : Addr) (x : UPh) (d : UD) (l : List UInt8) (t : Tok) (hz : d.wt.length + l.length ≤ 1000) : SpecS 1 w 88 [.ref ua, .bytes l.toArray t] (uLed w.params ua x d)
    (Ret fun k => k .none (uLed w.params ua x (feedU d l))) := by
  refine' SpecS.intro (binds := [("self", .ref ua), ("octets", .bytes l.toArray t)]) ?ho ?hcd ?hb ?hl ?_ ?c1 ?c2 ?c3 ?c4
  case ho => k_is
  case hcd => k_is
  case hb => exact fun s X => BindsTo.of_eq rfl
  case hl => exact locs rfl
  case c1 => exact rfl
  case c2 => exact rfl
  case c3 => exact rfl
  case c4 => decide
  intro A base fs s g' L' h' mean mg mb kM R' F' N' D' B' X' T' l1
  w_on
  refine S_letQ ?_; intro kQ0

  show wpS _ _ _ _ _ _
  refine S_cons (S_For ?_)
  walk1
  refine KBw.pyIter_bytes ?_
  generalize hI : h'.objs.size = I
  have hne : ∀ p ∈ uLed w.params ua x d, p.1 ≠ I := fun p hp e => by
    have := Heap.lt_size (N' p hp).1
    rw [e] at this; exact Nat.lt_irrefl _ (hI ▸ this)
  refine Again.go ?_
  refine' forS_walks (h₀ := g') (ks := []) (KBw.walks R'.handled I l.toArray t) (by intro b hb; exact .inl (List.mem_singleton.mp hb)) kbw_some (by rfl) (by rfl)
    (fun i m g => (∀ y, y ≠ ("octet" : Str) → m y = List.lookup y [("octets", .bytes l.toArray t), ("self", .ref ua)]) ∧ g = uLed w.params ua x (feedU d (l.take i))) ?step ?fin l.toArray.size 0 _ _ _ _ _ rfl (Nat.zero_le _) ⟨_, by rw [← hI]; exact Heap.get?_push_size _ rfl, rfl, rfl⟩ ?F ?N hne ⟨fun y _ => rfl, rfl⟩
  case F => exact F'.kept fun b o e => Heap.get?_push_of_some _ e
  case N =>
    rw [← hI]
    exact News.put (D := h'.objs.size) F' N' (fun b o e => Heap.get?_push_of_some _ e) (none_of_size (Nat.le_refl _)) (o := { cls := .type "bytes_iterator", data := .fields #[.bytes l.toArray t, .int 0 0] }) (Heap.get?_push_size _ rfl)
  case fin =>
    rintro h2 tk2 m2 g2 F2 N2 ⟨_, rfl⟩
    rw [List.size_toArray, List.take_length] at N2
    dsimp only
    refine S_nil ?_
    exact Leave.now F2 N2 D' fun _ k => k
  case step =>
    rintro i v m2 g2 o h2 tk2 hi ⟨c, u2, hc, rfl⟩ ⟨hm, rfl⟩ F2 N2 ne2
    have F2 := Fr.as F2 (lk_cons hm)
    have hc' : l[i]? = some c := by simpa using hc
    rw [feed_step _ _ _ _ hc']
    have hz2 := feed_wt (l.take i) d
    have hz3 : (l.take i).length ≤ l.length := by rw [List.length_take]; exact Nat.min_le_right _ _
    clear F' N' hne
    generalize feedU d (l.take i) = d2 at *
    obtain ⟨size, en, ln, dv, lost, sent, out, wt⟩ := d2
    obtain ⟨e1, e2, e3, e4⟩ := ne4 ne2
    have hc3 := c.toNat_lt
    dsimp only [List.nil_append] at *
    by_cases hlt : (wt.length : Int) < size
    · have e : feed1 ⟨size, en, ln, dv, lost, sent, out, wt⟩ c = ⟨size, en, ln, dv, lost, sent, out, wt ++ [c]⟩ := by simp [feed1, hlt]
      rw [e]
      k_steps
      dsimp only
      exact Turned.intro (g₂ := uLed w.params ua x ⟨size, en, ln, dv, lost, sent, out, wt ++ [((c.toNat : Int).toNat.toUInt8)]⟩) (by k_asm) (by k_asm) (by walk_at "m_sub") (by walk_at "m_ne") ⟨fun y hy => lk_tail y hy, u_fin (by rw [oct_back])⟩
    · have e : feed1 ⟨size, en, ln, dv, lost, sent, out, wt⟩ c = ⟨size, en, ln, dv, true, sent, out, wt⟩ := by simp [feed1, hlt]
      rw [e]
      k_steps
      dsimp only
      exact Turned.intro (by k_asm) (by k_asm) (by walk_at "m_sub") (by walk_at "m_ne") ⟨fun y hy => lk_tail y hy, rfl⟩
example : True := by w_top off; trivial
set_option genInjectivity false in
structure CPh where
  (dc ra la : Addr) (k0 k1 k2 k3 t1 : Tok)
structure CD where
  (room : Int) (ready line : List UInt8)
def cEs (P : Params) (y : CPh) (u : Addr) (e : CD) : List DictEntry :=
  [⟨PyData.keyHash P "uart", .str "uart" y.k0, .ref u⟩, ⟨PyData.keyHash P "size", .str "size" y.k1, .int e.room y.t1⟩, ⟨PyData.keyHash P "ready", .str "ready" y.k2, .ref y.ra⟩, ⟨PyData.keyHash P "line", .str "line" y.k3, .ref y.la⟩]
abbrev cLed (P : Params) (ca : Addr) (y : CPh) (ua : Addr) (e : CD) : Led := [(ca, instObj 230 y.dc), (y.dc, dictOf (cEs P y ua e) 4), (y.ra, baObj e.ready.toArray), (y.la, baObj e.line.toArray)]
def eraseC (e : CD) : CD := { e with line := e.line.take ((e.line.length : Int) - 1).toNat }
def eraseU (d : UD) : UD := { d with out := d.out ++ [8, 32, 8] }
def putC (e : CD) (o : UInt8) : CD := if o = 10 ∨ o = 4 ∨ ((e.ready.length + (e.line.length + 1) : Nat) : Int) = e.room then { e with ready := e.ready ++ (e.line ++ [o]), line := [] } else { e with line := e.line ++ [o] }
def putU (d : UD) (o : UInt8) : UD := { d with out := d.out ++ [o] }
theorem cu_endK {P : Params} {ca ua : Addr} {x : UPh} {y' : CPh} {d d' : UD} {e e' : CD} (he : e' = e) (hd : d' = d) : Ret (fun k => ∀ y', k .none (cLed P ca y' ua e ++ uLed P ua x d)) .none (cLed P ca y' ua e' ++ uLed P ua x d') := fun _ k => by rw [he, hd]; exact k y'
theorem one_back (o : UInt8) : (List.map (fun n : Int => n.toNat.toUInt8) [(o.toNat : Int)]).toArray.toList = [o] := by simp [oct_back]
theorem oct_is (o : UInt8) (n : Nat) (h : n < 256) : (o.toNat : Int) = n ↔ o = n.toUInt8 := by
  constructor
  · intro e
    have e' : o.toNat = n := by omega
    rw [← e']; exact UInt8.ofNat_toNat.symm
  · rintro rfl
    have : (n.toUInt8).toNat = n := by show n % 256 = n; omega
    rw [this]
theorem any2 (o : UInt8) : (([10, 4] : List Int).any fun x => x == (o.toNat : Int)) = decide (o = 10 ∨ o = 4) := by
  have a := oct_is o 10 (by decide)
  have b := oct_is o 4 (by decide)
  have a' : ((10 : Int) = o.toNat) ↔ o = 10 := ⟨fun h => a.mp h.symm, fun h => (a.mpr h).symm⟩
  have b' : ((4 : Int) = o.toNat) ↔ o = 4 := ⟨fun h => b.mp h.symm, fun h => (b.mpr h).symm⟩
  rw [Bool.eq_iff_iff]
  simp [a', b']
theorem fills_P17 (w : World) : PySem.Challenge.rw_nu0085_01.row.toRowW.prog = PySem.Challenge.rw_nu0085_01.row.toRowW.prog → MineHead.hd.heap_1 w.params = MineHead.hd.heap_1 w.params := by
  k_fill
  exact fun _ => rfl

theorem erase_spec (w : World) (ua ca : Addr) (x : UPh) (y : CPh) (d : UD) (e : CD) (hl : 0 < e.line.length) (hl2 : e.line.length ≤ 1000) (ho : d.out.length ≤ 900000) : SpecS 2 w 206 [.ref ca] (cLed w.params ca y ua e ++ uLed w.params ua x d)
    (Ret fun k => ∀ y', k .none (cLed w.params ca y' ua (eraseC e) ++ uLed w.params ua x (eraseU d))) := by
  refine' SpecS.intro (binds := [("self", .ref ca)]) ?ho ?hcd ?hb ?hl ?_ ?c1 ?c2 ?c3 ?c4
  case ho => k_is
  case hcd => k_is
  case hb => exact fun s X => BindsTo.of_eq rfl
  case hl => exact locs rfl
  case c1 => exact rfl
  case c2 => exact rfl
  case c3 => exact rfl
  case c4 => decide
  intro A base fs s g' L' h' mean mg mb kM R' F' N' D' B' X' T' l1
  w_on
  refine S_letQ ?_; intro kQ0

  dsimp only [cLed, uLed, List.cons_append, List.nil_append] at N' D' l1
  show wpS _ _ _ _ _ _
  k_steps
  rename Addr => Dn
  refine' m_go (SpecS.useK (rest := [(ca, instObj 230 y.dc), (y.dc, dictOf (cEs w.params ⟨y.dc, y.ra, Dn, y.k0, y.k1, y.k2, y.k3, y.t1⟩ ua e) 4), (y.ra, baObj e.ready.toArray), (Dn, baObj (eraseC e).line.toArray)]) (send_spec w ua x d _ _ (by simp; omega)) B' (by k_asm) X' T' (R'.le (by decide)) (by k_asm) (sub_ix [5, 6, 7, 8, 1, 2, 3, 0]) (nd_pickN (by k_asm) (by walk_at "k_nd") [5, 6, 7, 8, 1, 2, 3, 0]) ?_)
  refine Back.intro ?_; intro kL h' tk F' N' D'; (try dsimp only)
  k_steps
  (try dsimp only); (try (k_unfold; (try dsimp only)))
  refine' Leave.ix [4, 5, 6, 7, 0, 1, 2, 3] (by k_asm) (by k_asm) (by walk_at "k_nd") (cu_endK (y' := ⟨y.dc, y.ra, Dn, y.k0, y.k1, y.k2, y.k3, y.t1⟩) (e' := eraseC e) (d' := eraseU d) rfl rfl)

theorem put_spec (w : World) (ua ca : Addr) (x : UPh) (y : CPh) (d : UD) (e : CD) (o : UInt8) (t : Tok) (hr : e.ready.length ≤ 1000) (hl : e.line.length ≤ 1000) (ho : d.out.length ≤ 900000) : SpecS 2 w 220 [.ref ca, .int o.toNat t] (cLed w.params ca y ua e ++ uLed w.params ua x d)
    (Ret fun k => ∀ y', k .none (cLed w.params ca y' ua (putC e o) ++ uLed w.params ua x (putU d o))) := by
  refine' SpecS.intro (binds := [("self", .ref ca), ("octet", .int o.toNat t)]) ?ho ?hcd ?hb ?hl ?_ ?c1 ?c2 ?c3 ?c4
  case ho => k_is
  case hcd => k_is
  case hb => exact fun s X => BindsTo.of_eq rfl
  case hl => exact locs rfl
  case c1 => exact rfl
  case c2 => exact rfl
  case c3 => exact rfl
  case c4 => decide
  intro A base fs s g' L' h' mean mg mb kM R' F' N' D' B' X' T' l1
  w_on
  refine S_letQ ?_; intro kQ0

  dsimp only [cLed, uLed, List.cons_append, List.nil_append] at N' D' l1
  have ho3 := o.toNat_lt
  show wpS _ _ _ _ _ _
  k_steps
  refine' m_go (SpecS.useK (rest := cLed w.params ca y ua e) (send_spec w ua x d _ _ (by simp; omega)) B' (by k_asm) X' T' (R'.le (by decide)) (by k_asm) (sub_ix [5, 6, 7, 8, 1, 2, 3, 4]) (nd_pickN (by k_asm) (by walk_at "k_nd") [5, 6, 7, 8, 1, 2, 3, 4]) ?_)
  refine Back.intro ?_; intro kL h' tk F' N' D'; (try dsimp only)
  k_steps
  · rename Addr => Dn
    (try dsimp only); (try (k_unfold; (try dsimp only)))
    refine' Leave.ix [6, 7, 8, 0, 2, 3, 4, 5] (by k_asm) (by k_asm) (by walk_at "k_nd") (cu_endK (y' := ⟨y.dc, y.ra, Dn, y.k0, y.k1, y.k2, y.k3, y.t1⟩) (e' := ⟨e.room, e.ready ++ (e.line ++ [(o.toNat : Int).toNat.toUInt8]), []⟩) (d' := { d with out := d.out ++ (List.map (fun n : Int => n.toNat.toUInt8) [(o.toNat : Int)]).toArray.toList }) ?_ ?_)
    · have hs1 : (([10, 4] : List Int).any fun x => x == (o.toNat : Int)) = true := by assumption
      rw [any2, decide_eq_true_eq] at hs1
      rw [oct_back]; unfold putC; rw [if_pos (hs1.elim .inl fun h => .inr (.inl h))]
    · first | (rw [one_back]; rfl) | simp [putU, oct_back]
  · rename Addr => Dn
    (try dsimp only); (try (k_unfold; (try dsimp only)))
    refine' Leave.ix [6, 7, 8, 0, 2, 3, 4, 5] (by k_asm) (by k_asm) (by walk_at "k_nd") (cu_endK (y' := ⟨y.dc, y.ra, Dn, y.k0, y.k1, y.k2, y.k3, y.t1⟩) (e' := ⟨e.room, e.ready ++ (e.line ++ [(o.toNat : Int).toNat.toUInt8]), []⟩) (d' := { d with out := d.out ++ (List.map (fun n : Int => n.toNat.toUInt8) [(o.toNat : Int)]).toArray.toList }) ?_ ?_)
    · have hs1 : (([10, 4] : List Int).any fun x => x == (o.toNat : Int)) = false := by assumption
      have hs2 : (((e.ready.length : Int) + ((e.line ++ [(o.toNat : Int).toNat.toUInt8]).length : Int)) == e.room) = true := by assumption
      rw [any2, decide_eq_false_iff_not] at hs1
      have hs3 : ((e.ready.length + (e.line.length + 1) : Nat) : Int) = e.room := by
        have := eq_of_beq hs2
        rw [List.length_append] at this; simpa using this
      rw [oct_back]; unfold putC; rw [if_pos (.inr (.inr hs3))]
    · first | (rw [one_back]; rfl) | simp [putU, oct_back]
  · (try dsimp only); (try (k_unfold; (try dsimp only)))
    refine' Leave.ix [5, 6, 7, 8, 1, 2, 3, 4] (by k_asm) (by k_asm) (by walk_at "k_nd") (cu_endK (y' := y) (e' := ⟨e.room, e.ready, e.line ++ [(o.toNat : Int).toNat.toUInt8]⟩) (d' := { d with out := d.out ++ (List.map (fun n : Int => n.toNat.toUInt8) [(o.toNat : Int)]).toArray.toList }) ?_ ?_)
    · have hs1 : (([10, 4] : List Int).any fun x => x == (o.toNat : Int)) = false := by assumption
      have hs2 : (((e.ready.length : Int) + ((e.line ++ [(o.toNat : Int).toNat.toUInt8]).length : Int)) == e.room) = false := by assumption
      rw [any2, decide_eq_false_iff_not] at hs1
      have hs3 : ¬ ((e.ready.length + (e.line.length + 1) : Nat) : Int) = e.room := fun q => by
        have := ne_of_beq_false hs2
        exact this (by rw [List.length_append]; simpa using q)
      rw [oct_back]; unfold putC; rw [if_neg (fun h => h.elim (fun h => hs1 (.inl h)) fun h => h.elim (fun h => hs1 (.inr h)) hs3)]
    · first | (rw [one_back]; rfl) | simp [putU, oct_back]
example : True := by w_top off; trivial
noncomputable def kill : Nat → CD × UD → CD × UD
  | 0, p => p
  | n + 1, p => kill n (eraseC p.1, eraseU p.2)
def typedCU (p : CD × UD) (o : UInt8) : CD × UD :=
  if o = 21 then kill p.1.line.length p
  else if o = 8 ∨ o = 127 then (if 0 < p.1.line.length then (eraseC p.1, eraseU p.2) else p)
  else if o ≠ 0 ∧ ((p.1.ready.length + p.1.line.length : Nat) : Int) < p.1.room then (if o = 13 then (putC p.1 10, putU p.2 10) else (putC p.1 o, putU p.2 o)) else p
theorem erase_len (e : CD) : (eraseC e).line.length = e.line.length - 1 := by
  simp only [eraseC, List.length_take]; omega
theorem oct_inj (o k : UInt8) : ((o.toNat : Int) = (k.toNat : Int)) ↔ o = k := ⟨fun h => UInt8.toNat_inj.mp (by omega), fun h => by rw [h]⟩
theorem oct_beq (o k : UInt8) : (((o.toNat : Int) == (k.toNat : Int)) = true) ↔ o = k := by rw [beq_iff_eq]; exact oct_inj o k
theorem oct_bne (o k : UInt8) : (((o.toNat : Int) == (k.toNat : Int)) = false) ↔ ¬ o = k := by rw [← oct_beq o k]; simp
theorem anyb (o : UInt8) : (([8, 127] : List Int).any fun x => x == (o.toNat : Int)) = decide (o = 8 ∨ o = 127) := by
  have a := oct_is o 8 (by decide)
  have b := oct_is o 127 (by decide)
  have a' : ((8 : Int) = o.toNat) ↔ o = 8 := ⟨fun h => a.mp h.symm, fun h => (a.mpr h).symm⟩
  have b' : ((127 : Int) = o.toNat) ↔ o = 127 := ⟨fun h => b.mp h.symm, fun h => (b.mpr h).symm⟩
  rw [Bool.eq_iff_iff]
  simp [a', b']
section
variable {p : CD × UD} {o : UInt8}
theorem typed_21 (h : ((o.toNat : Int) == 21) = true) : typedCU p o = kill p.1.line.length p := by
  rw [typedCU, if_pos ((oct_beq o 21).mp h)]
theorem typed_b1 (h : ((o.toNat : Int) == 21) = false) (h2 : (([8, 127] : List Int).any fun x => x == (o.toNat : Int)) = true) (hl : 0 < p.1.line.length) : typedCU p o = (eraseC p.1, eraseU p.2) := by
  rw [anyb, decide_eq_true_eq] at h2
  rw [typedCU, if_neg ((oct_bne o 21).mp h), if_pos h2, if_pos hl]
theorem typed_b0 (h : ((o.toNat : Int) == 21) = false) (h2 : (([8, 127] : List Int).any fun x => x == (o.toNat : Int)) = true) (hl : ¬ 0 < p.1.line.length) : typedCU p o = p := by
  rw [anyb, decide_eq_true_eq] at h2
  rw [typedCU, if_neg ((oct_bne o 21).mp h), if_pos h2, if_neg hl]
theorem typed_p (h : ((o.toNat : Int) == 21) = false) (h2 : (([8, 127] : List Int).any fun x => x == (o.toNat : Int)) = false) (h3 : ((o.toNat : Int) != 0) = true) (h4 : decide ((p.1.ready.length : Int) + (p.1.line.length : Int) < p.1.room) = true) :
    typedCU p o = (if o = 13 then (putC p.1 10, putU p.2 10) else (putC p.1 o, putU p.2 o)) := by
  rw [anyb, decide_eq_false_iff_not] at h2
  have h3' : ¬ o = 0 := by
    have : ((o.toNat : Int) == ((0 : UInt8).toNat : Int)) = false := by simpa [bne] using h3
    exact (oct_bne o 0).mp this
  rw [typedCU, if_neg ((oct_bne o 21).mp h), if_neg h2, if_pos ⟨h3', by have := of_decide_eq_true h4; omega⟩]
theorem typed_p1 (h : ((o.toNat : Int) == 21) = false) (h2 : (([8, 127] : List Int).any fun x => x == (o.toNat : Int)) = false) (h3 : ((o.toNat : Int) != 0) = true) (h4 : decide ((p.1.ready.length : Int) + (p.1.line.length : Int) < p.1.room) = true)
    (h5 : ((o.toNat : Int) == 13) = true) : typedCU p o = (putC p.1 10, putU p.2 10) := by
  rw [typed_p h h2 h3 h4, if_pos ((oct_beq o 13).mp h5)]
theorem typed_p2 (h : ((o.toNat : Int) == 21) = false) (h2 : (([8, 127] : List Int).any fun x => x == (o.toNat : Int)) = false) (h3 : ((o.toNat : Int) != 0) = true) (h4 : decide ((p.1.ready.length : Int) + (p.1.line.length : Int) < p.1.room) = true)
    (h5 : ((o.toNat : Int) == 13) = false) : typedCU p o = (putC p.1 o, putU p.2 o) := by
  rw [typed_p h h2 h3 h4, if_neg ((oct_bne o 13).mp h5)]
theorem typed_f (h : ((o.toNat : Int) == 21) = false) (h2 : (([8, 127] : List Int).any fun x => x == (o.toNat : Int)) = false) (h3 : ((o.toNat : Int) != 0) = true) (h4 : decide ((p.1.ready.length : Int) + (p.1.line.length : Int) < p.1.room) = false) : typedCU p o = p := by
  rw [anyb, decide_eq_false_iff_not] at h2
  rw [typedCU, if_neg ((oct_bne o 21).mp h), if_neg h2, if_neg (fun q => by have := of_decide_eq_false h4; have := q.2; omega)]
theorem typed_0 (h : ((o.toNat : Int) == 21) = false) (h2 : (([8, 127] : List Int).any fun x => x == (o.toNat : Int)) = false) (h3 : ((o.toNat : Int) != 0) = false) : typedCU p o = p := by
  rw [anyb, decide_eq_false_iff_not] at h2
  have h3' : o = 0 := by
    have : ((o.toNat : Int) == ((0 : UInt8).toNat : Int)) = true := by simpa [bne] using h3
    exact (oct_beq o 0).mp this
  rw [typedCU, if_neg ((oct_bne o 21).mp h), if_neg h2, if_neg (fun q => q.1 h3')]
end
theorem lt_nat {n : Nat} (h : decide ((0 : Int) < (n : Int)) = true) : 0 < n := by have := of_decide_eq_true h; omega
theorem nlt_nat {n : Nat} (h : decide ((0 : Int) < (n : Int)) = false) : ¬ 0 < n := by have := of_decide_eq_false h; omega
theorem kill_cd (n : Nat) (p : CD × UD) : (kill n p).1.room = p.1.room := by
  induction n generalizing p with
  | zero => rfl
  | succ n ih => show (kill n _).1.room = _; rw [ih]; rfl
theorem kill_pred {e : CD} {d : UD} {r : CD × UD} (h : 0 < e.line.length) (hk : kill e.line.length (e, d) = r) : kill (eraseC e).line.length (eraseC e, eraseU d) = r := by
  obtain ⟨k, hk'⟩ : ∃ k, e.line.length = k + 1 := ⟨e.line.length - 1, by omega⟩
  rw [erase_len, ← hk, hk']; rfl
theorem kill_stop {e : CD} {d : UD} {r : CD × UD} (h : ¬ 0 < e.line.length) (hk : kill e.line.length (e, d) = r) : (e, d) = r := by
  have : e.line.length = 0 := by omega
  rw [this] at hk; exact hk
theorem fills_P18 (w : World) : PySem.Challenge.rw_nu0085_01.row.toRowW.prog = PySem.Challenge.rw_nu0085_01.row.toRowW.prog → MineHead.hd.heap_1 w.params = MineHead.hd.heap_1 w.params := by
  k_fill
  exact fun _ => rfl

theorem typed_spec (w : World) (ua ca : Addr) (x : UPh) (y : CPh) (d : UD) (e : CD) (o : UInt8) (t : Tok) (hr : e.ready.length ≤ 1000) (hl : e.line.length ≤ 1000) (ho : d.out.length ≤ 800000) : SpecS 3 w 213 [.ref ca, .int o.toNat t] (cLed w.params ca y ua e ++ uLed w.params ua x d)
    (Ret fun k => ∀ y', k .none (cLed w.params ca y' ua (typedCU (e, d) o).1 ++ uLed w.params ua x (typedCU (e, d) o).2)) := by
  refine' SpecS.intro (binds := [("self", .ref ca), ("octet", .int o.toNat t)]) ?ho ?hcd ?hb ?hl ?_ ?c1 ?c2 ?c3 ?c4
  case ho => k_is
  case hcd => k_is
  case hb => exact fun s X => BindsTo.of_eq rfl
  case hl => exact locs rfl
  case c1 => exact rfl
  case c2 => exact rfl
  case c3 => exact rfl
  case c4 => decide
  intro A base fs s g' L' h' mean mg mb kM R' F' N' D' B' X' T' l1
  w_on
  refine S_letQ ?_; intro kQ0

  have ho3 := o.toNat_lt
  show wpS _ _ _ _ _ _
  k_steps
  · refine m_go (S_cons (S_While (Again.go ?_)))
    refine whileS_K (fun G => ∀ e2 d2 y2 h2 tk2, d2.out.length + 3 * e2.line.length ≤ 900000 → e2.line.length ≤ 1000 → Fr g' L' h2 kM → News g' L' h2 (cLed w.params ca y2 ua e2 ++ uLed w.params ua x d2) →
      (adr (cLed w.params ca y2 ua e2 ++ uLed w.params ua x d2)).Nodup → kill e2.line.length (e2, d2) = kill e.line.length (e, d) → G e2.line.length { s with heap := h2, toks := tk2 }) ?turn e.line.length fun _ h => h e d y _ _ (by omega) hl F' N' D' rfl
    clear F' N' D'
    intro e2 d2 y2 h2 tk2 hd2 hn2 F2 N2 D2 hk
    show wpS _ _ _ _ _ _
    k_steps
    · refine' m_go (SpecS.use1K (erase_spec w ua ca x y2 d2 e2 (lt_nat (by assumption)) (by omega) (by omega)) B' (by k_asm) X' T' (R'.le (by decide)) (by k_asm) (by walk_at "m_sub") (by walk_at "m_dj") ?_)
      intro y3 h' tk F' N' D'; (try dsimp only)
      k_steps
      have hp := lt_nat (n := e2.line.length) (by assumption)
      dsimp only
      exact Round.intro (by rw [erase_len]; omega) fun _ h => h (eraseC e2) (eraseU d2) y3 _ _ (by rw [erase_len]; simp only [eraseU, List.length_append, List.length_cons, List.length_nil]; omega) (by rw [erase_len]; omega) F' N' D' (kill_pred hp hk)
    · have hq := kill_stop (nlt_nat (n := e2.line.length) (by assumption)) hk
      (try dsimp only); (try (k_unfold; (try dsimp only)))
      refine' Leave.now (by k_asm) (by k_asm) (by walk_at "m_dj") ?_
      exact cu_endK (by rw [typed_21 (by assumption), ← hq]) (by rw [typed_21 (by assumption), ← hq])
  · refine' m_go (SpecS.use1K (erase_spec w ua ca x y d e (lt_nat (by assumption)) (by omega) (by omega)) B' (by k_asm) X' T' (R'.le (by decide)) (by k_asm) (by walk_at "m_sub") (by walk_at "m_dj") ?_)
    intro y' h' tk F' N' D'; (try dsimp only)
    k_steps
    (try dsimp only); (try (k_unfold; (try dsimp only)))
    refine' Leave.now (by k_asm) (by k_asm) (by walk_at "m_dj") ?_
    exact cu_endK (by rw [typed_b1 (by assumption) (by assumption) (lt_nat (by assumption))]) (by rw [typed_b1 (by assumption) (by assumption) (lt_nat (by assumption))])
  · (try dsimp only); (try (k_unfold; (try dsimp only)))
    refine' Leave.ix [1, 2, 3, 4, 5, 6, 7, 8] (by k_asm) (by k_asm) (by walk_at "k_nd") (cu_endK (by rw [typed_b0 (by assumption) (by assumption) (nlt_nat (by assumption))]) (by rw [typed_b0 (by assumption) (by assumption) (nlt_nat (by assumption))]))
  · refine' m_go (SpecS.use1K (put_spec w ua ca x y d e 10 _ (by omega) (by omega) (by omega)) B' (by k_asm) X' T' (R'.le (by decide)) (by k_asm) (by walk_at "m_sub") (by walk_at "m_dj") ?_)
    intro y' h' tk F' N' D'; (try dsimp only)
    k_steps
    (try dsimp only); (try (k_unfold; (try dsimp only)))
    refine' Leave.now (by k_asm) (by k_asm) (by walk_at "m_dj") ?_
    exact cu_endK (by rw [typed_p1 (by assumption) (by assumption) (by assumption) (by assumption) (by assumption)]) (by rw [typed_p1 (by assumption) (by assumption) (by assumption) (by assumption) (by assumption)])
  · refine' m_go (SpecS.use1K (put_spec w ua ca x y d e o _ (by omega) (by omega) (by omega)) B' (by k_asm) X' T' (R'.le (by decide)) (by k_asm) (by walk_at "m_sub") (by walk_at "m_dj") ?_)
    intro y' h' tk F' N' D'; (try dsimp only)
    k_steps
    (try dsimp only); (try (k_unfold; (try dsimp only)))
    refine' Leave.now (by k_asm) (by k_asm) (by walk_at "m_dj") ?_
    exact cu_endK (by rw [typed_p2 (by assumption) (by assumption) (by assumption) (by assumption) (by assumption)]) (by rw [typed_p2 (by assumption) (by assumption) (by assumption) (by assumption) (by assumption)])
  · (try dsimp only); (try (k_unfold; (try dsimp only)))
    refine' Leave.ix [1, 2, 3, 4, 5, 6, 7, 8] (by k_asm) (by k_asm) (by walk_at "k_nd") (cu_endK (by rw [typed_f (by assumption) (by assumption) (by assumption) (by assumption)]) (by rw [typed_f (by assumption) (by assumption) (by assumption) (by assumption)]))
  · (try dsimp only); (try (k_unfold; (try dsimp only)))
    refine' Leave.ix [1, 2, 3, 4, 5, 6, 7, 8] (by k_asm) (by k_asm) (by walk_at "k_nd") (cu_endK (by rw [typed_0 (by assumption) (by assumption) (by assumption)]) (by rw [typed_0 (by assumption) (by assumption) (by assumption)]))
example : True := by w_top off; trivial
noncomputable def takeCU : List UInt8 → CD × UD → CD × UD
  | [], p => p
  | c :: r, p => takeCU r (typedCU (p.1, { p.2 with wt := r }) c)
theorem kill_bounds (n : Nat) (p : CD × UD) : (kill n p).1.ready = p.1.ready ∧ (kill n p).1.line.length ≤ p.1.line.length ∧ (kill n p).2 = { p.2 with out := (kill n p).2.out } ∧ (kill n p).2.out.length = p.2.out.length + 3 * n := by
  induction n generalizing p with
  | zero => exact ⟨rfl, Nat.le_refl _, rfl, rfl⟩
  | succ n ih =>
    obtain ⟨a, b, c, d⟩ := ih (eraseC p.1, eraseU p.2)
    have e := erase_len p.1
    refine ⟨a, ?_, c, ?_⟩
    · show (kill n _).1.line.length ≤ _; dsimp only at b; omega
    · show (kill n _).2.out.length = _
      rw [d]; simp only [eraseU, List.length_append, List.length_cons, List.length_nil]; omega
theorem put_bounds (e : CD) (o : UInt8) : (putC e o).room = e.room ∧ (putC e o).ready.length + (putC e o).line.length = e.ready.length + e.line.length + 1 := by
  unfold putC; split <;> simp <;> omega
theorem typed_bounds (p : CD × UD) (o : UInt8) : (typedCU p o).1.room = p.1.room ∧ (typedCU p o).1.ready.length + (typedCU p o).1.line.length ≤ p.1.ready.length + p.1.line.length + 1 ∧
    (typedCU p o).2 = { p.2 with out := (typedCU p o).2.out } ∧ (typedCU p o).2.out.length ≤ p.2.out.length + 3 * p.1.line.length + 3 := by
  obtain ⟨e, d⟩ := p
  have kb := kill_bounds e.line.length (e, d)
  have kr := kill_cd e.line.length (e, d)
  have el := erase_len e
  have p1 := put_bounds e 10
  have p2 := put_bounds e o
  unfold typedCU
  dsimp only at *
  split
  · refine ⟨kr, ?_, kb.2.2.1, ?_⟩
    · rw [kb.1]; omega
    · omega
  · split
    · split
      · refine ⟨rfl, ?_, rfl, ?_⟩
        · show e.ready.length + _ ≤ _; dsimp only; omega
        · simp only [eraseU, List.length_append, List.length_cons, List.length_nil]; omega
      · exact ⟨rfl, by dsimp only; omega, rfl, by dsimp only; omega⟩
    · split
      · split
        · exact ⟨p1.1, by dsimp only; omega, rfl, by simp only [putU, List.length_append, List.length_cons, List.length_nil]; omega⟩
        · exact ⟨p2.1, by dsimp only; omega, rfl, by simp only [putU, List.length_append, List.length_cons, List.length_nil]; omega⟩
      · exact ⟨rfl, by dsimp only; omega, rfl, by dsimp only; omega⟩
/-- what stands before the console's next octet -/
inductive NextO (fin : CD × UD) (e : CD) : Nat → Value → UD → Prop
  | none {n : Nat} {d : UD} (h : (e, d) = fin) (b : e.ready.length + e.line.length ≤ 500) : NextO fin e n .none d
  | int {d : UD} (c : UInt8) (t : Tok) (h : takeCU d.wt (typedCU (e, d) c) = fin) (b : e.ready.length + e.line.length + d.wt.length < 500) (b2 : d.out.length + 1600 * d.wt.length + 1600 ≤ 700000) : NextO fin e (d.wt.length + 1) (.int c.toNat t) d
theorem recv_next (w : World) (ua : Addr) (x : UPh) (d : UD) (e : CD) (b1 : e.ready.length + e.line.length + d.wt.length ≤ 500) (b2 : d.out.length + 1600 * d.wt.length ≤ 700000) :
    Spec 1 w 109 [.ref ua] (uLed w.params ua x d) (Ret fun k => ∀ v x' d', NextO (takeCU d.wt (e, d)) e d.wt.length v d' → k v (uLed w.params ua x' d')) :=
  (receive_spec w ua x d (by omega)).monoK (Nat.le_refl _) fun k h => by
    obtain ⟨size, en, ln, dv, lost, sent, out, wt⟩ := d
    cases wt with
    | nil => exact h _ x _ (.none rfl b1)
    | cons c r =>
      simp only [List.length_cons] at b1 b2
      exact fun t x' => h _ x' _ (.int (d := ⟨size, en, ln, dv, lost, sent, out, r⟩) c t rfl (by dsimp only; omega) (by dsimp only; omega))
theorem typed_next (w : World) (ua ca : Addr) (x : UPh) (y : CPh) (d : UD) (e : CD) (o : UInt8) (t : Tok) (hr : e.ready.length + e.line.length + d.wt.length < 500) (ho : d.out.length + 1600 * d.wt.length + 1600 ≤ 700000) :
    SpecS 3 w 213 [.ref ca, .int o.toNat t] (cLed w.params ca y ua e ++ uLed w.params ua x d) (Ret fun k => ∀ y' e' d', typedCU (e, d) o = (e', d') → d'.wt = d.wt → e'.ready.length + e'.line.length + d'.wt.length ≤ 500 → d'.out.length + 1600 * d'.wt.length ≤ 700000 → k .none (cLed w.params ca y' ua e' ++ uLed w.params ua x d')) :=
  (typed_spec w ua ca x y d e o t (by omega) (by omega) (by omega)).monoK (Nat.le_refl _) fun k h y' => by
    obtain ⟨_, b2, b3, b4⟩ := typed_bounds (e, d) o
    have hw : (typedCU (e, d) o).2.wt = d.wt := by rw [b3]
    have hw2 := congrArg List.length hw
    dsimp only at b2 b4
    exact h y' _ _ rfl hw (by omega) (by omega)
theorem take_end {P : Params} {ua ca : Addr} {x : UPh} {y : CPh} {e : CD} {d : UD} {fin : CD × UD} (h : (e, d) = fin) : Ret (fun k => ∀ x' y', k (.bool (decide ((0 : Int) < fin.1.ready.length))) (cLed P ca y' ua fin.1 ++ uLed P ua x' fin.2)) (.bool (decide ((0 : Int) < e.ready.length))) (cLed P ca y ua e ++ uLed P ua x d) := by
  subst h; exact fun _ k => k x y
theorem take_go {e3 : CD} {d2 d3 : UD} {p fin : CD × UD} {n : Nat} {v : Value} {d' : UD} (hp : p = (e3, d3)) (hw : d3.wt = d2.wt) (h : takeCU d2.wt p = fin) (hn : NextO (takeCU d3.wt (e3, d3)) e3 n v d') : NextO fin e3 n v d' := by
  rw [← hp, hw, h] at hn; exact hn
theorem is_int_none (n : Int) (t : Tok) : (!(Value.int n t == Value.none)) = true := rfl
theorem fills_P19 (w : World) : PySem.Challenge.rw_nu0085_01.row.toRowW.prog = PySem.Challenge.rw_nu0085_01.row.toRowW.prog → MineHead.hd.heap_1 w.params = MineHead.hd.heap_1 w.params := by
  k_fill
  exact fun _ => rfl

theorem take_spec (w : World) (ua ca : Addr) (x : UPh) (y : CPh) (d : UD) (e : CD) (hr : e.ready.length + e.line.length + d.wt.length ≤ 500) (ho : d.out.length + 1600 * d.wt.length ≤ 700000) : SpecS 4 w 199 [.ref ca] (cLed w.params ca y ua e ++ uLed w.params ua x d)
    (Ret fun k => ∀ x' y', k (.bool (decide ((0 : Int) < (takeCU d.wt (e, d)).1.ready.length))) (cLed w.params ca y' ua (takeCU d.wt (e, d)).1 ++ uLed w.params ua x' (takeCU d.wt (e, d)).2)) := by
  refine' SpecS.intro (binds := [("self", .ref ca)]) ?ho ?hcd ?hb ?hl ?_ ?c1 ?c2 ?c3 ?c4
  case ho => k_is
  case hcd => k_is
  case hb => exact fun s X => BindsTo.of_eq rfl
  case hl => exact locs rfl
  case c1 => exact rfl
  case c2 => exact rfl
  case c3 => exact rfl
  case c4 => decide
  intro A base fs s g' L' h' mean mg mb kM R' F' N' D' B' X' T' l1
  w_on
  refine S_letQ ?_; intro kQ0

  show wpS _ _ _ _ _ _
  k_steps
  refine' m_go (Spec.useK (rest := cLed w.params ca y ua e) (recv_next w ua x d e hr ho) B' (by k_asm) X' T' (R'.le (by decide)) (by k_asm) (sub_ix [4, 5, 6, 7, 0, 1, 2, 3]) (nd_pickN (by k_asm) (by walk_at "k_nd") [4, 5, 6, 7, 0, 1, 2, 3]) ?_)
  intro v x2 d2 hn; refine Back.intro ?_; intro kL h' tk F' N' D'; (try dsimp only)
  k_steps
  refine m_go (S_cons (S_While (Again.go ?_)))
  refine whileS_K (fun G => ∀ n v e2 d2 x2 y2 h2 tk2, Fr g' L' h2 (fun z => if z = ("octet" : Str) then some v else kM z) → News g' L' h2 (uLed w.params ua x2 d2 ++ cLed w.params ca y2 ua e2) →
    (adr (uLed w.params ua x2 d2 ++ cLed w.params ca y2 ua e2)).Nodup → NextO (takeCU d.wt (e, d)) e2 n v d2 → G n { s with heap := h2, toks := tk2 }) ?turn d.wt.length fun _ h => h _ v e d2 x2 y _ _ (by k_asm) (by k_asm) D' hn
  clear D' hn
  intro n v e2 d2 x2 y2 h2 tk2 F2 N2 D2 hn
  show wpS _ _ _ _ _ _
  cases hn with
  | none hf hb0 =>
    k_steps
    (try dsimp only); (try (k_unfold; (try dsimp only)))
    refine' Leave.ix [4, 5, 6, 7, 0, 1, 2, 3] (by k_asm) (by k_asm) (by walk_at "k_nd") (take_end hf)
  | int c t hf hb1 hb2 =>
    k_steps
    refine' m_go (SpecS.use1K (typed_next w ua ca x2 y2 d2 e2 c _ hb1 hb2) B' (by k_asm) X' T' (R'.le (by decide)) (by k_asm) (sub_ix [4, 5, 6, 7, 0, 1, 2, 3]) (nd_pickN (by k_asm) (by walk_at "k_nd") [4, 5, 6, 7, 0, 1, 2, 3]) ?_)
    intro y3 e3 d3 h3 tw hb3 hb4 h' tk F' N' D'; (try dsimp only)
    k_steps
    refine' m_go (Spec.useK (rest := cLed w.params ca y3 ua e3) (recv_next w ua x2 d3 e3 hb3 hb4) B' (by k_asm) X' T' (R'.le (by decide)) (by k_asm) (sub_ix [4, 5, 6, 7, 0, 1, 2, 3]) (nd_pickN (by k_asm) (by walk_at "k_nd") [4, 5, 6, 7, 0, 1, 2, 3]) ?_)
    intro v x4 d4 hn; refine Back.intro ?_; intro kL h' tk F' N' D'; (try dsimp only)
    k_steps
    exact Round.intro (by rw [tw]; exact Nat.lt_succ_self _) fun _ h => h _ v e3 d4 x4 y3 _ _ (fr_at (by assumption) fun q hq => if_neg hq) (by k_asm) D' (take_go h3 tw hf hn)
example : True := by w_top off; trivial
noncomputable def scan : List UInt8 → Nat → Nat
  | _, 0 => 0
  | [], _ + 1 => 0
  | c :: r, n + 1 => if c = 4 then 0 else if c = 10 then 1 else 1 + scan r n
def readCU (e : CD) (n : Nat) : Option (List UInt8) × CD :=
  if n = 0 then (some [], e) else if e.ready = [] then (none, e)
  else (some (e.ready.take (scan e.ready n)), { e with ready := e.ready.drop (if scan e.ready n = 0 then 1 else scan e.ready n) })
def IsR (v : Value) : Option (List UInt8) → Prop
  | none => v = .none
  | some l => ∃ t, v = .bytes l.toArray t
theorem scan_go {l : List UInt8} {n i : Nat} {c : UInt8} (hc : l[i]? = some c) (hi : i < n) : i + scan (l.drop i) (n - i) = if c = 4 then i else if c = 10 then i + 1 else (i + 1) + scan (l.drop (i + 1)) (n - (i + 1)) := by
  obtain ⟨hl, rfl⟩ := List.getElem?_eq_some_iff.mp hc
  have e : n - i = (n - (i + 1)) + 1 := by omega
  rw [List.drop_eq_getElem_cons hl, e]
  simp only [scan]
  split
  · rfl
  · split
    · rfl
    · omega
theorem scan_stop {l : List UInt8} {n i : Nat} (h : ¬ (i < n ∧ i < l.length)) : scan (l.drop i) (n - i) = 0 := by
  by_cases h1 : i < n
  · rw [List.drop_eq_nil_of_le (by omega)]
    cases n - i <;> rfl
  · have : n - i = 0 := by omega
    rw [this]; cases l.drop i <;> rfl
section
variable {e : CD} {n i : Nat}
theorem read_fin {tok : Tok} (h0 : ¬ n = 0) (hre : ¬ e.ready = []) (ek : scan e.ready n = i) : IsR (.bytes (e.ready.take ((i : Int)).toNat).toArray tok) (readCU e n).1 := by
  unfold readCU; rw [if_neg h0, if_neg hre, ek, Int.toNat_natCast]; exact ⟨_, rfl⟩
theorem read_fin2 (h0 : ¬ n = 0) (hre : ¬ e.ready = []) (ek : scan e.ready n = i) (hi : ((i : Int) == 0) = false) : (⟨e.room, e.ready.drop ((i : Int)).toNat, e.line⟩ : CD) = (readCU e n).2 := by
  have : ¬ i = 0 := fun q => by subst q; simp at hi
  unfold readCU; rw [if_neg h0, if_neg hre, ek, if_neg this, Int.toNat_natCast]
theorem read_fin1 (h0 : ¬ n = 0) (hre : ¬ e.ready = []) (ek : scan e.ready n = i) (hi : ((i : Int) == 0) = true) : (⟨e.room, e.ready.drop ((1 : Int)).toNat, e.line⟩ : CD) = (readCU e n).2 := by
  have : i = 0 := by have := eq_of_beq hi; omega
  unfold readCU; rw [if_neg h0, if_neg hre, ek, if_pos this]; rfl
theorem read_end {P : Params} {ca ua : Addr} {y' : CPh} {e e' : CD} {n : Nat} {v : Value} (hv : IsR v (readCU e n).1) (he : e' = (readCU e n).2) : Ret (fun k => ∀ v y', IsR v (readCU e n).1 → k v (cLed P ca y' ua (readCU e n).2)) v (cLed P ca y' ua e') := fun _ k => by rw [he]; exact k v y' hv
end
theorem fr_none {h₀ h : Heap} {L : Addr} {m : Str → Option Value} {x : Str} (F : Fr h₀ L h m) (e : m x = none) : Fr h₀ L h (fun y => if y = x then none else m y) := by
  have : m = fun y => if y = x then none else m y := funext fun y => by
    by_cases q : y = x
    · rw [if_pos q, q, e]
    · rw [if_neg q]
  rw [← this]; exact F
theorem fr_swap {h₀ h : Heap} {L : Addr} {m : Str → Option Value} {x z : Str} {v u u' a : Option Value} (F : Fr h₀ L h (fun y => if y = z then u' else if y = x then v else if y = x then a else if y = z then u else m y)) (n : z ≠ x := by decide) : Fr h₀ L h (fun y => if y = x then v else if y = z then u' else m y) := by
  have : (fun y => if y = z then u' else if y = x then v else if y = x then a else if y = z then u else m y) = fun y => if y = x then v else if y = z then u' else m y := funext fun y => by
    by_cases q : y = x
    · rw [if_pos q, if_pos q, if_neg (fun e => n (e.symm.trans q))]
    · by_cases r : y = z
      · rw [if_pos r, if_neg q, if_pos r]
      · rw [if_neg q, if_neg r, if_neg q, if_neg q, if_neg r, if_neg r]
  rw [← this]; exact F
theorem fr_swap0 {h₀ h : Heap} {L : Addr} {m : Str → Option Value} {x z : Str} {v u a : Option Value} (F : Fr h₀ L h (fun y => if y = x then v else if y = x then a else if y = z then u else m y)) : Fr h₀ L h (fun y => if y = x then v else if y = z then u else m y) := fr_at F fun _ q => if_neg q
theorem fills_P20 (w : World) : PySem.Challenge.rw_nu0085_01.row.toRowW.prog = PySem.Challenge.rw_nu0085_01.row.toRowW.prog → MineHead.hd.heap_1 w.params = MineHead.hd.heap_1 w.params := by
  k_fill
  exact fun _ => rfl

theorem read_spec (w : World) (ua ca : Addr) (y : CPh) (e : CD) (n : Nat) (t : Tok) (hr : e.ready.length ≤ 1000) (hn : n ≤ 100) : SpecS 1 w 227 [.ref ca, .int n t] (cLed w.params ca y ua e)
    (Ret fun k => ∀ v y', IsR v (readCU e n).1 → k v (cLed w.params ca y' ua (readCU e n).2)) := by
  refine' SpecS.intro (binds := [("self", .ref ca), ("count", .int n t)]) ?ho ?hcd ?hb ?hl ?_ ?c1 ?c2 ?c3 ?c4
  case ho => k_is
  case hcd => k_is
  case hb => exact fun s X => BindsTo.of_eq rfl
  case hl => exact locs rfl
  case c1 => exact rfl
  case c2 => exact rfl
  case c3 => exact rfl
  case c4 => decide
  intro A base fs s g' L' h' mean mg mb kM R' F' N' D' B' X' T' l1
  w_on
  refine S_letQ ?_; intro kQ0

  show wpS _ _ _ _ _ _
  by_cases h0 : n = 0
  · subst h0
    k_steps
    (try dsimp only); (try (k_unfold; (try dsimp only)))
    refine' Leave.now (by k_asm) (by k_asm) (by walk_at "m_dj") ?_
    exact fun _ k => k _ y ⟨_, rfl⟩
  cases hre : e.ready with
  | nil =>
    k_steps
    (try dsimp only); (try (k_unfold; (try dsimp only)))
    refine' Leave.now (by k_asm) (by k_asm) (by walk_at "m_dj") ?_
    exact read_end (by unfold readCU; rw [if_neg h0, if_pos hre]; rfl) (by unfold readCU; rw [if_neg h0, if_pos hre])
  | cons c r =>
    have hl : 0 < e.ready.length := by rw [hre]; exact Nat.succ_pos _
    have hre' : ¬ e.ready = [] := by rw [hre]; exact fun q => by cases q
    clear hre
    k_steps
    refine m_go (S_cutK (fun G => ∀ (i : Nat) (ov : Option Value) (t' : Tok) (h2 : Heap) (tk2 : Tok), i ≤ 1001 → Fr g' L' h2 (fun z => if z = ("octet" : Str) then ov else if z = ("many" : Str) then some (.int (i : Int) t') else kM z) →
      News g' L' h2 (cLed w.params ca y ua e) → scan e.ready n = i → G { s with heap := h2, toks := tk2 }) ?first ?second)
    case second =>
      intro i ov t' h2 tk2 hi1 F2 N2 ek
      show wpS _ _ _ _ _ _
      k_steps
      · rename Addr => Dn
        (try dsimp only); (try (k_unfold; (try dsimp only)))
        refine' Leave.ix [2, 3, 0, 5] (by k_asm) (by k_asm) (by walk_at "k_nd") (read_end (e' := ⟨e.room, e.ready.drop ((1 : Int)).toNat, e.line⟩) (y' := ⟨y.dc, Dn, y.la, y.k0, y.k1, y.k2, y.k3, y.t1⟩) (read_fin h0 hre' ek) (read_fin1 h0 hre' ek (by assumption)))
      · rename Addr => Dn
        (try dsimp only); (try (k_unfold; (try dsimp only)))
        refine' Leave.ix [2, 3, 0, 5] (by k_asm) (by k_asm) (by walk_at "k_nd") (read_end (e' := ⟨e.room, e.ready.drop ((i : Int)).toNat, e.line⟩) (y' := ⟨y.dc, Dn, y.la, y.k0, y.k1, y.k2, y.k3, y.t1⟩) (read_fin h0 hre' ek) (read_fin2 h0 hre' ek (by assumption)))
    case first =>
    refine S_While (Again.go ?_)
    refine whileS_K (fun G => ∀ (i : Nat) (ov : Option Value) (t' : Tok) (h2 : Heap) (tk2 : Tok), i ≤ 1000 → Fr g' L' h2 (fun z => if z = ("octet" : Str) then ov else if z = ("many" : Str) then some (.int (i : Int) t') else kM z) →
      News g' L' h2 (cLed w.params ca y ua e) → i + scan (e.ready.drop i) (n - i) = scan e.ready n → G (n - i) { s with heap := h2, toks := tk2 }) ?turn n fun _ h => h 0 none _ _ _ (Nat.zero_le _) (fr_none (by assumption) rfl) (by k_asm) (by rw [List.drop_zero, Nat.zero_add]; rfl)
    intro i ov t' h2 tk2 hi1 F2 N2 hk
    show wpS _ _ _ _ _ _
    by_cases hi : i < n ∧ i < e.ready.length
    · obtain ⟨hin, hil⟩ := hi
      have hc := List.getElem?_eq_getElem hil
      generalize e.ready[i] = c' at hc
      rw [scan_go hc hin] at hk
      have hc2 : e.ready[((i : Nat) : Int).toNat]? = some c' := hc
      k_steps
      · (try dsimp only)
        exact Cut.go fun _ h => h i (some (.int c'.toNat _)) _ _ _ (Nat.le_succ_of_le hi1) (fr_swap0 (by assumption)) (by k_asm) (by rw [← hk, if_pos ((oct_beq c' 4).mp (by assumption))])
      · (try dsimp only)
        exact Cut.go fun _ h => h (i + 1) (some (.int c'.toNat _)) _ _ _ (Nat.succ_le_succ hi1) (fr_swap (by assumption)) (by k_asm) (by rw [← hk, if_neg ((oct_bne c' 4).mp (by assumption)), if_pos ((oct_beq c' 10).mp (by assumption))])
      · rw [if_neg ((oct_bne c' 4).mp (by assumption)), if_neg ((oct_bne c' 10).mp (by assumption))] at hk
        dsimp only
        exact Round.intro (Nat.sub_succ_lt_self _ _ hin) fun _ h => h (i + 1) (some (.int c'.toNat _)) _ _ _ (by omega) (fr_swap (by assumption)) (by k_asm) hk
    · rw [scan_stop hi] at hk
      k_steps
      all_goals
        (try dsimp only)
        exact Cut.go fun _ h => h i ov _ _ _ (Nat.le_succ_of_le hi1) F2 (by k_asm) hk.symm
example : True := by w_top off; trivial
section
variable {w : World} {A : Around} {base h₀ : Heap} {fs : List Env} {n : Nat} {s : Shared} {g led rest : Led} {L C fI : Addr} {m : Str → Option Value} {env : Env} {mean : ExcName → Option Value} {mg mb : Str → Option Value}
  {args : List Value} {E : Value → Shared → Prop} {Q : Value → Shared → Prop}
theorem Room.under {A : Around} (h : Room A (n + 1)) (C : Addr) (args : List Value) : Room (A.under (.builtin "type.__call__" ⟨.ref C :: args, []⟩)) n where
  depth := by have := h.depth; show A.depth + 1 + n ≤ 900; omega
  units := by have := h.units; show A.units + 1 + 10 * n ≤ 9000; omega
  handled := h.handled
  guards := by
    have e : (Code.builtin "type.__call__" ⟨.ref C :: args, []⟩).guards = [] := by
      have : (Code.builtin "type.__call__" ⟨.ref C :: args, []⟩).isGuard = false := by show guardIds.contains "type.__call__" = false; decide +kernel
      simp [Code.guards, this]
    simp only [Around.under, e, h.guards]; rfl
theorem Pre.under {A : Around} {fs : List Env} (p : Pre w A base fs (n + 1) s g) (C : Addr) (args : List Value) : Pre w (A.under (.builtin "type.__call__" ⟨.ref C :: args, []⟩)) base fs n s g where
  bel := ⟨by
    have e : (Code.builtin "type.__call__" ⟨.ref C :: args, []⟩).envs = [] := by rfl
    simp only [Around.under, e, p.bel.stack]; rfl, p.bel.stays, p.bel.frames⟩
  kin := p.kin
  top := p.top
  got := p.got
  dj := p.dj
  room := p.room.under C args

theorem SpecS.make {K : Addr → (Value → Led → Prop) → Prop} (S : ∀ x dx, SpecS n w fI (.ref x :: args) [(x, instObj C dx), (dx, dictOf [] 0)] (Ret (K x)))
    (hm : makesIn (MineHead.hd.heap_1 w.params) C = true) (hi : findIn (MineHead.hd.heap_1 w.params) (.ref C) "__init__" = some (some (.ref fI))) (hf : isFn (MineHead.hd.heap_1 w.params) (.ref fI) = true)
    (B : Below A base fs h₀) (F : Fr h₀ L s.heap m) (X : (MineHead.hd.heap_1 w.params).In h₀) (T : Top PV LO mean mg mb h₀) (R : Room (A.deeper env) (n + 1)) (N : News h₀ L s.heap led)
    (hs : ∀ p ∈ rest, p ∈ led) (D : (adr rest).Nodup)
    (k : ∀ x, K x fun v g' => v = .none ∧ Back h₀ L m rest Q s (.ref x) g')
    (hfr : env.frame = some L := by rfl) (hk : env.scope.kind = .function := by rfl) :
    wpS (model PR w) (A.deeper env) (call (.ref C) args) Q E s := by
  refine S_make F (fun p hp => N p (hs p hp) : News h₀ L s.heap rest) X hm hi hf fun x dx h' F' N' l1 l2 => ?_
  have Dr : (adr ([(x, instObj C dx), (dx, dictOf [] 0)] ++ rest)).Nodup := by
    show (x :: dx :: adr rest).Nodup
    have lx : ∀ b ∈ adr rest, b < dx := fun b hb => by obtain ⟨p, hp, rfl⟩ := List.mem_map.mp hb; exact l1 p hp
    refine List.nodup_cons.mpr ⟨fun q => ?_, List.nodup_cons.mpr ⟨fun q => absurd (lx _ q) (Nat.lt_irrefl _), D⟩⟩
    rcases List.mem_cons.mp q with q | q
    · rw [q] at l2; exact Nat.lt_irrefl _ l2
    · exact absurd (Nat.lt_trans l2 (Nat.lt_of_lt_of_le (lx _ q) (Nat.le_refl _))) (Nat.lt_irrefl _)
  have pre := Pre.of (s := { s with heap := h' }) B F' X T hfr hk R (fun p hp => N' p (List.mem_append_left rest hp) : News h₀ L h' [(x, instObj C dx), (dx, dictOf [] 0)]) (by
    rw [adr, List.map_append, List.nodup_append] at Dr; exact Dr.1)
  refine S x dx _ base (env :: fs) _ _ (pre.under C args) fun v g' h'' tk hv hp => ?_
  obtain ⟨F'', N'', D''⟩ := hp.back F' N' Dr
  obtain ⟨e, b⟩ := hv _ (k x)
  exact ⟨e, b h'' tk F'' N'' D''⟩
end
theorem fills_P21 (w : World) : PySem.Challenge.rw_nu0085_01.row.toRowW.prog = PySem.Challenge.rw_nu0085_01.row.toRowW.prog → MineHead.hd.heap_1 w.params = MineHead.hd.heap_1 w.params := by
  k_fill
  exact fun _ => rfl

theorem uinit_spec (w : World) (u du : Addr) (size : Int) (t : Tok) (hz : 1 ≤ size) : SpecS 1 w 81 [.ref u, .int size t] [(u, instObj 168 du), (du, dictOf [] 0)]
    (Ret fun k => ∀ x, k .none (uLed w.params u x ⟨size, 0, 0, 0, false, false, [], []⟩)) := by
  refine' SpecS.intro (binds := [("self", .ref u), ("size", .int size t)]) ?ho ?hcd ?hb ?hl ?_ ?c1 ?c2 ?c3 ?c4
  case ho => k_is
  case hcd => k_is
  case hb => exact fun s X => binds_K X rfl (by k_is) rfl rfl rfl
  case hl => exact locs rfl
  case c1 => exact rfl
  case c2 => exact rfl
  case c3 => exact rfl
  case c4 => decide
  intro A base fs s g' L' h' mean mg mb kM R' F' N' D' B' X' T' l1
  w_on
  refine S_letQ ?_; intro kQ0

  show wpS _ _ _ _ _ _
  k_steps
  (try dsimp only); (try (k_unfold; (try dsimp only)))
  refine' Leave.ix [2, 3, 1, 0] (by k_asm) (by k_asm) (by walk_at "k_nd") (fun _ k => k ⟨du, _, _, _, _, _, _, _, _, _, _, _, _, _, _⟩)

theorem cinit_spec (w : World) (c dc u : Addr) (room : Int) (t : Tok) (hz : 1 ≤ room) : SpecS 1 w 192 [.ref c, .ref u, .int room t] [(c, instObj 230 dc), (dc, dictOf [] 0)]
    (Ret fun k => ∀ y, k .none (cLed w.params c y u ⟨room, [], []⟩)) := by
  refine' SpecS.intro (binds := [("self", .ref c), ("uart", .ref u), ("size", .int room t)]) ?ho ?hcd ?hb ?hl ?_ ?c1 ?c2 ?c3 ?c4
  case ho => k_is
  case hcd => k_is
  case hb => exact fun s X => binds_K X rfl (by k_is) rfl rfl rfl
  case hl => exact locs rfl
  case c1 => exact rfl
  case c2 => exact rfl
  case c3 => exact rfl
  case c4 => decide
  intro A base fs s g' L' h' mean mg mb kM R' F' N' D' B' X' T' l1
  w_on
  refine S_letQ ?_; intro kQ0

  show wpS _ _ _ _ _ _
  k_steps
  (try dsimp only); (try (k_unfold; (try dsimp only)))
  refine' Leave.ix [2, 3, 1, 0] (by k_asm) (by k_asm) (by walk_at "k_nd") (fun _ k => k ⟨dc, _, _, _, _, _, _, _⟩)
example : True := by w_top off; trivial
set_option genInjectivity false in
structure PPh where
  (wl ol ll rl : Addr) (o : Obj) (wn on ln rn : Nat) (wv ov lv rv : List Value) (t0 t1 t2 t3 t4 t5 : Tok)
structure PD where
  (size room lost let_ bits div : Int) (sent : Bool) (wt out line ready : List Int)
def pKvs (x : PPh) (d : PD) : List (Str × Value) :=
  [("size", .int d.size x.t0), ("room", .int d.room x.t1), ("waiting", .ref x.wl), ("lost", .int d.lost x.t2), ("out", .ref x.ol), ("line", .ref x.ll), ("ready", .ref x.rl), ("let", .int d.let_ x.t3), ("sent", .bool d.sent), ("line_bits", .int d.bits x.t4), ("divisor", .int d.div x.t5)]
structure PW (w : World) (pa : Addr) (x : PPh) (d : PD) : Prop where
  dict : x.o.IsDictOf (strKind PR w) (pKvs x d)
  low : (pa == sysModules) = false
  wi : IntsAre x.wv d.wt
  oi : IntsAre x.ov d.out
  li : IntsAre x.lv d.line
  ri : IntsAre x.rv d.ready
abbrev pLed (pa : Addr) (x : PPh) : Led := [(pa, x.o), (x.wl, W.listOf x.wv.toArray x.wn), (x.ol, W.listOf x.ov.toArray x.on), (x.ll, W.listOf x.lv.toArray x.ln), (x.rl, W.listOf x.rv.toArray x.rn)]
def dueP (d : PD) : Int := if d.let_.fmod 2 = 1 ∧ d.wt ≠ [] then 4 else if d.let_.fdiv 2 = 1 ∧ d.sent = true then 2 else 1
theorem fills_P22 (w : World) : PySem.Challenge.rw_nu0085_01.row.toRowW.prog = PySem.Challenge.rw_nu0085_01.row.toRowW.prog → MineHead.hd.heap_1 w.params = MineHead.hd.heap_1 w.params := by
  k_fill
  exact fun _ => rfl

theorem pdue_spec (w : World) (pa : Addr) (x : PPh) (d : PD) (h : PW w pa x d) (hl : d.wt.length ≤ 1000) : Spec 1 w 283 [.ref pa] (pLed pa x) (Ret fun k => ∀ t, k (.int (dueP d) t) (pLed pa x)) := by
  refine' Spec.intro (binds := [("plain", .ref pa)]) ?ho ?hcd ?hb ?hl ?_ ?c1 ?c2 ?c3 ?c4
  case ho => k_is
  case hcd => k_is
  case hb => exact fun s X => BindsTo.of_eq rfl
  case hl => exact locs rfl
  case c1 => exact rfl
  case c2 => exact rfl
  case c3 => exact rfl
  case c4 => decide
  intro A base fs s g' L' h' mean mg mb kM R' F' N' D' B' X' T' l1
  w_on
  skip

  obtain ⟨hd, lo, wi, oi, li, ri⟩ := h
  dsimp only [pKvs] at hd
  show wpAny _ _ _ _ _ _
  k_fold
  k_steps
  all_goals
    (try dsimp only); (try (k_unfold; (try dsimp only)))
    first | refine' Leave.ix [0, 1, 2, 3, 4] (by k_asm) (by k_asm) (by walk_at "k_nd") (retI ?_ rfl) | refine' Leave.ix [1, 2, 3, 4, 5] (by k_asm) (by k_asm) (by walk_at "k_nd") (retI ?_ rfl)
    simp_all [dueP]
example : True := by w_top off; trivial
abbrev PPh.sWt (x : PPh) (o : Obj) (l : Addr) (n : Nat) (vs : List Value) : PPh := ⟨l, x.ol, x.ll, x.rl, o, n, x.on, x.ln, x.rn, vs, x.ov, x.lv, x.rv, x.t0, x.t1, x.t2, x.t3, x.t4, x.t5⟩
abbrev PPh.sOut (x : PPh) (o : Obj) (l : Addr) (n : Nat) (vs : List Value) : PPh := ⟨x.wl, l, x.ll, x.rl, o, x.wn, n, x.ln, x.rn, x.wv, vs, x.lv, x.rv, x.t0, x.t1, x.t2, x.t3, x.t4, x.t5⟩
abbrev PPh.sLine (x : PPh) (o : Obj) (l : Addr) (n : Nat) (vs : List Value) : PPh := ⟨x.wl, x.ol, l, x.rl, o, x.wn, x.on, n, x.rn, x.wv, x.ov, vs, x.rv, x.t0, x.t1, x.t2, x.t3, x.t4, x.t5⟩
abbrev PPh.sReady (x : PPh) (o : Obj) (l : Addr) (n : Nat) (vs : List Value) : PPh := ⟨x.wl, x.ol, x.ll, l, o, x.wn, x.on, x.ln, n, x.wv, x.ov, x.lv, vs, x.t0, x.t1, x.t2, x.t3, x.t4, x.t5⟩
abbrev PPh.sLost (x : PPh) (o : Obj) (t : Tok) : PPh := ⟨x.wl, x.ol, x.ll, x.rl, o, x.wn, x.on, x.ln, x.rn, x.wv, x.ov, x.lv, x.rv, x.t0, x.t1, t, x.t3, x.t4, x.t5⟩
abbrev PPh.sLet (x : PPh) (o : Obj) (t : Tok) : PPh := ⟨x.wl, x.ol, x.ll, x.rl, o, x.wn, x.on, x.ln, x.rn, x.wv, x.ov, x.lv, x.rv, x.t0, x.t1, x.t2, t, x.t4, x.t5⟩
abbrev PPh.sBits (x : PPh) (o : Obj) (t : Tok) : PPh := ⟨x.wl, x.ol, x.ll, x.rl, o, x.wn, x.on, x.ln, x.rn, x.wv, x.ov, x.lv, x.rv, x.t0, x.t1, x.t2, x.t3, t, x.t5⟩
abbrev PPh.sDiv (x : PPh) (o : Obj) (t : Tok) : PPh := ⟨x.wl, x.ol, x.ll, x.rl, o, x.wn, x.on, x.ln, x.rn, x.wv, x.ov, x.lv, x.rv, x.t0, x.t1, x.t2, x.t3, x.t4, t⟩
abbrev PPh.sO (x : PPh) (o : Obj) : PPh := ⟨x.wl, x.ol, x.ll, x.rl, o, x.wn, x.on, x.ln, x.rn, x.wv, x.ov, x.lv, x.rv, x.t0, x.t1, x.t2, x.t3, x.t4, x.t5⟩
section
variable {w : World} {pa : Addr} {x : PPh} {d : PD} {o : Obj} {l : Addr} {n : Nat} {vs : List Value} {ks : List Int} {t : Tok} {v : Int} {b : Bool}
theorem PW.sWt (h : PW w pa x d) (hd : o.IsDictOf (strKind PR w) (stored (pKvs x d) "waiting" (.ref l))) (hi : IntsAre vs ks) : PW w pa (x.sWt o l n vs) { d with wt := ks } := ⟨hd, h.low, hi, h.oi, h.li, h.ri⟩
theorem PW.sOut (h : PW w pa x d) (hd : o.IsDictOf (strKind PR w) (stored (pKvs x d) "out" (.ref l))) (hi : IntsAre vs ks) : PW w pa (x.sOut o l n vs) { d with out := ks } := ⟨hd, h.low, h.wi, hi, h.li, h.ri⟩
theorem PW.sLine (h : PW w pa x d) (hd : o.IsDictOf (strKind PR w) (stored (pKvs x d) "line" (.ref l))) (hi : IntsAre vs ks) : PW w pa (x.sLine o l n vs) { d with line := ks } := ⟨hd, h.low, h.wi, h.oi, hi, h.ri⟩
theorem PW.sReady (h : PW w pa x d) (hd : o.IsDictOf (strKind PR w) (stored (pKvs x d) "ready" (.ref l))) (hi : IntsAre vs ks) : PW w pa (x.sReady o l n vs) { d with ready := ks } := ⟨hd, h.low, h.wi, h.oi, h.li, hi⟩
theorem PW.sLost (h : PW w pa x d) (hd : o.IsDictOf (strKind PR w) (stored (pKvs x d) "lost" (.int v t))) : PW w pa (x.sLost o t) { d with lost := v } := ⟨hd, h.low, h.wi, h.oi, h.li, h.ri⟩
theorem PW.sLet (h : PW w pa x d) (hd : o.IsDictOf (strKind PR w) (stored (pKvs x d) "let" (.int v t))) : PW w pa (x.sLet o t) { d with let_ := v } := ⟨hd, h.low, h.wi, h.oi, h.li, h.ri⟩
theorem PW.sBits (h : PW w pa x d) (hd : o.IsDictOf (strKind PR w) (stored (pKvs x d) "line_bits" (.int v t))) : PW w pa (x.sBits o t) { d with bits := v } := ⟨hd, h.low, h.wi, h.oi, h.li, h.ri⟩
theorem PW.sDiv (h : PW w pa x d) (hd : o.IsDictOf (strKind PR w) (stored (pKvs x d) "divisor" (.int v t))) : PW w pa (x.sDiv o t) { d with div := v } := ⟨hd, h.low, h.wi, h.oi, h.li, h.ri⟩
theorem PW.sSent (h : PW w pa x d) (hd : o.IsDictOf (strKind PR w) (stored (pKvs x d) "sent" (.bool b))) : PW w pa (x.sO o) { d with sent := b } := ⟨hd, h.low, h.wi, h.oi, h.li, h.ri⟩
end
section
variable {w : World} {s : Shared} {g' h' : Heap} {L' : Addr} {tk : Tok} {m' : Str → Option Value} {led : Led} {v : Value} {P : Value → Led → Prop}
  {pa wl ol ll rl : Addr} {o : Obj} {wn on ln rn : Nat} {wv ov lv rv : List Value} {t0 t1 t2 t3 t4 t5 : Tok} {size room lost let_ bits div : Int} {sent : Bool} {wt out line ready : List Int} {f d : PD}
/-- the end of a walk over the plain side -/
theorem p_leaf (F : Fr g' L' h' m') (N : News g' L' h' led) (D : (adr led).Nodup)
    (hd : o.IsDictOf (strKind PR w) [("size", .int size t0), ("room", .int room t1), ("waiting", .ref wl), ("lost", .int lost t2), ("out", .ref ol), ("line", .ref ll), ("ready", .ref rl), ("let", .int let_ t3), ("sent", .bool sent), ("line_bits", .int bits t4), ("divisor", .int div t5)])
    (lo : (pa == sysModules) = false) {i0 i1 i2 i3 i4 : Nat} (m0 : led[i0]? = some (pa, o)) (m1 : led[i1]? = some (wl, W.listOf wv.toArray wn)) (m2 : led[i2]? = some (ol, W.listOf ov.toArray on)) (m3 : led[i3]? = some (ll, W.listOf lv.toArray ln)) (m4 : led[i4]? = some (rl, W.listOf rv.toArray rn))
    (wi : IntsAre wv wt) (oi : IntsAre ov out) (li : IntsAre lv line) (ri : IntsAre rv ready)
    (hP : ∀ x' : PPh, PW w pa x' ⟨size, room, lost, let_, bits, div, sent, wt, out, line, ready⟩ → P v (pLed pa x')) (hn : [i0, i1, i2, i3, i4].Nodup := by decide) :
    Leave P g' L' s v { s with heap := h', toks := tk } := by
  refine Leave.ix [i0, i1, i2, i3, i4] F N D (hP ⟨wl, ol, ll, rl, o, wn, on, ln, rn, wv, ov, lv, rv, t0, t1, t2, t3, t4, t5⟩ ⟨hd, lo, wi, oi, li, ri⟩) ?_ hn ?_
  · simp only [List.map_cons, List.map_nil, List.getD_eq_getElem?_getD, m0, m1, m2, m3, m4, Option.getD_some]
  · have lt : ∀ {i : Nat} {q : Addr × Obj}, led[i]? = some q → i < led.length := fun h => (List.getElem?_eq_some_iff.mp h).1
    simp only [List.all_cons, List.all_nil, lt m0, lt m1, lt m2, lt m3, lt m4, decide_true, Bool.and_true]
theorem p_none (e : f = d) : ∀ x' : PPh, PW w pa x' d → Ret (fun k => ∀ x', PW w pa x' f → k .none (pLed pa x')) .none (pLed pa x') := fun x' h _ k => k x' (e ▸ h)
end
theorem any2i {a b o : Int} : (([a, b] : List Int).any fun x => x == o) = decide (o = a ∨ o = b) := by
  rw [Bool.eq_iff_iff]; simp only [List.any_cons, List.any_nil, Bool.or_false, Bool.or_eq_true, beq_iff_eq, decide_eq_true_eq]
  constructor <;> (rintro (h | h) <;> simp [h])
example : True := by w_top off; trivial
set_option genInjectivity false in
structure BPh where
  (bl : Addr) (bn sn : Nat) (sv : List Value) (t0 : Tok)
abbrev bLed (ba : Addr) (x : BPh) (k : Int) : Led := [(ba, W.listOf #[.ref x.bl, .int k x.t0] x.bn), (x.bl, W.listOf x.sv.toArray x.sn)]
theorem fills_P23 (w : World) : PySem.Challenge.rw_nu0085_01.row.toRowW.prog = PySem.Challenge.rw_nu0085_01.row.toRowW.prog → MineHead.hd.heap_1 w.params = MineHead.hd.heap_1 w.params := by
  k_fill
  exact fun _ => rfl

theorem more_spec (w : World) (ba : Addr) (x : BPh) (k : Int) (l : List Int) (many : Int) (u : Tok) (hi : IntsAre x.sv l) (hl : l.length ≤ 100) (hm : 0 < many) : Spec 1 w 248 [.ref ba, .int many u] (bLed ba x k)
    (Ret fun K => ∀ t x', IntsAre (BPh.sv x') l.tail → K (.int (match l with | [] => 0 | a :: _ => a.fmod many) t) (bLed ba x' k)) := by
  refine' Spec.intro (binds := [("box", .ref ba), ("many", .int many u)]) ?ho ?hcd ?hb ?hl ?_ ?c1 ?c2 ?c3 ?c4
  case ho => k_is
  case hcd => k_is
  case hb => exact fun s X => BindsTo.of_eq rfl
  case hl => exact locs rfl
  case c1 => exact rfl
  case c2 => exact rfl
  case c3 => exact rfl
  case c4 => decide
  intro A base fs s g' L' h' mean mg mb kM R' F' N' D' B' X' T' l1
  w_on
  skip

  obtain ⟨bl, bn, sn, sv, t0⟩ := x
  dsimp only [bLed] at *
  cases l with
  | nil =>
    obtain rfl := hi.nil_inv
    show wpAny _ _ _ _ _ _
    k_fold
    k_steps
    (try dsimp only); (try (k_unfold; (try dsimp only)))
    refine' Leave.now (by k_asm) (by k_asm) (by walk_at "m_dj") ?_
    exact fun _ h => h _ ⟨bl, bn, sn, [], t0⟩ .nil
  | cons a l =>
    obtain ⟨t1, r, rfl, hi'⟩ := ints_cons hi
    have hlv := hi'.length
    have hlv2 : r.length < 16777216 := by rw [hlv]; simp only [List.length_cons] at hl; omega
    show wpAny _ _ _ _ _ _
    k_fold
    k_steps
    (try dsimp only); (try (k_unfold; (try dsimp only)))
    refine' Leave.now (by k_asm) (by k_asm) (by walk_at "m_dj") ?_
    exact fun _ h => h _ ⟨bl, bn, sn + 1, r, t0⟩ hi'

/-- the next figure of the script, or one of its own making -/
def figB (k : Int) (l : List Int) : Int × Int × List Int := match l with
  | [] => (5 * (k + 1) + (k + 1).fdiv 3, k + 1, [])
  | a :: r => (a, k, r)
theorem ltake_spec (w : World) (ba : Addr) (x : BPh) (k : Int) (l : List Int) (many : Int) (u : Tok) (hi : IntsAre x.sv l) (hl : l.length ≤ 100) (hm : 0 < many) : Spec 1 w 241 [.ref ba, .int many u] (bLed ba x k)
    (Ret fun K => ∀ t x', IntsAre (BPh.sv x') (figB k l).2.2 → K (.int ((figB k l).1.fmod many) t) (bLed ba x' (figB k l).2.1)) := by
  refine' Spec.intro (binds := [("box", .ref ba), ("many", .int many u)]) ?ho ?hcd ?hb ?hl ?_ ?c1 ?c2 ?c3 ?c4
  case ho => k_is
  case hcd => k_is
  case hb => exact fun s X => BindsTo.of_eq rfl
  case hl => exact locs rfl
  case c1 => exact rfl
  case c2 => exact rfl
  case c3 => exact rfl
  case c4 => decide
  intro A base fs s g' L' h' mean mg mb kM R' F' N' D' B' X' T' l1
  w_on
  skip

  obtain ⟨bl, bn, sn, sv, t0⟩ := x
  dsimp only [bLed] at *
  cases l with
  | nil =>
    obtain rfl := hi.nil_inv
    show wpAny _ _ _ _ _ _
    k_fold
    k_steps
    (try dsimp only); (try (k_unfold; (try dsimp only)))
    refine' Leave.now (by k_asm) (by k_asm) (by walk_at "m_dj") ?_
    exact fun _ h => h _ ⟨bl, bn, sn, [], _⟩ .nil
  | cons a l =>
    obtain ⟨t1, r, rfl, hi'⟩ := ints_cons hi
    have hlv := hi'.length
    have hlv2 : r.length < 16777216 := by rw [hlv]; simp only [List.length_cons] at hl; omega
    show wpAny _ _ _ _ _ _
    k_fold
    k_steps
    (try dsimp only); (try (k_unfold; (try dsimp only)))
    refine' Leave.now (by k_asm) (by k_asm) (by walk_at "m_dj") ?_
    exact fun _ h => h _ ⟨bl, bn, sn + 1, r, t0⟩ hi'
example : True := by w_top off; trivial
def came1 (d : PD) (o : Int) : PD := if (d.wt.length : Int) < d.size then { d with wt := d.wt ++ [o] } else { d with lost := 1 }
def cameP (d : PD) (l : List Int) : PD := l.foldl came1 d
theorem came_wt (l : List Int) (d : PD) : (cameP d l).wt.length ≤ d.wt.length + l.length := by
  induction l generalizing d with
  | nil => exact Nat.le_refl _
  | cons c l ih =>
    have h := ih (came1 d c)
    show (cameP (came1 d c) l).wt.length ≤ _
    have : (came1 d c).wt.length ≤ d.wt.length + 1 := by unfold came1; split <;> simp
    simp only [List.length_cons]; omega
theorem came_step (l : List Int) (d : PD) (i : Nat) (c : Int) (h : l[i]? = some c) : cameP d (l.take (i + 1)) = came1 (cameP d (l.take i)) c := by
  rw [List.take_succ, h]; simp [cameP]
theorem fills_P24 (w : World) : PySem.Challenge.rw_nu0085_01.row.toRowW.prog = PySem.Challenge.rw_nu0085_01.row.toRowW.prog → MineHead.hd.heap_1 w.params = MineHead.hd.heap_1 w.params := by
  k_fill
  exact fun _ => rfl

theorem came_spec (w : World) (pa : Addr) (x : PPh) (d : PD) (h : PW w pa x d) (l : Addr) (n : Nat) (vs : List Value) (ks : List Int) (hi : IntsAre vs ks) (hz : d.wt.length + ks.length ≤ 1000) :
    SpecS 1 w 262 [.ref pa, .ref l] ((l, W.listOf vs.toArray n) :: pLed pa x) (Ret fun k => ∀ x', PW w pa x' (cameP d ks) → k .none ((l, W.listOf vs.toArray n) :: pLed pa x')) := by
  refine' SpecS.intro (binds := [("plain", .ref pa), ("octets", .ref l)]) ?ho ?hcd ?hb ?hl ?_ ?c1 ?c2 ?c3 ?c4
  case ho => k_is
  case hcd => k_is
  case hb => exact fun s X => BindsTo.of_eq rfl
  case hl => exact locs rfl
  case c1 => exact rfl
  case c2 => exact rfl
  case c3 => exact rfl
  case c4 => decide
  intro A base fs s g' L' h' mean mg mb kM R' F' N' D' B' X' T' l1
  w_on
  refine S_letQ ?_; intro kQ0

  show wpS _ _ _ _ _ _
  refine S_cons (S_For ?_)
  walk1
  refine forS_listK R'.handled hi F' N' (.head _) (rest := pLed pa x) (fun p hp => .tail _ hp) D' (fun i G => ∀ x2, PW w pa x2 (cameP d (ks.take i)) → G (pLed pa x2)) (fun _ k => k x h) ?_ ?_
  · intro h2 tk2 ov x2 hW F2 N2 D2
    rw [List.take_length] at hW
    dsimp only
    refine S_nil ?_
    exact Leave.now F2 N2 D2 fun _ k => k x2 hW
  · intro I i k t o h2 tk2 hk x2 hW F2 N2 D2
    have hz2 := came_wt (ks.take i) d
    have hz3 : (ks.take i).length ≤ ks.length := by rw [List.length_take]; exact Nat.min_le_right _ _
    have e3 := came_step _ d _ _ hk
    clear F' N' l1 h D'
    generalize cameP d (ks.take i) = d2 at *
    have hW2 := hW
    obtain ⟨hd, lo, wi, oi, li, ri⟩ := hW
    dsimp only [pKvs] at hd
    have hwl := wi.length
    show wpS _ _ _ _ _ _
    by_cases hlt : (d2.wt.length : Int) < d2.size
    · rw [came1, if_pos hlt] at e3
      k_steps
      dsimp only
      exact Turned.ix [0, 1, 2, 3, 4, 5, 6] (by k_asm) (by k_asm) (by walk_at "k_nd") (fun y hy => if_neg hy) fun _ k' => k' (x2.sWt x2.o x2.wl (x2.wn + 1) (x2.wv ++ [.int k t])) (e3 ▸ ⟨hd, lo, ints_snoc wi k t, oi, li, ri⟩)
    · rw [came1, if_neg hlt] at e3
      k_steps
      dsimp only
      rename Obj.IsDictOf _ _ _ => hd3
      exact Turned.ix [0, 1, 2, 3, 4, 5, 6] (by k_asm) (by k_asm) (by walk_at "k_nd") (fun y hy => if_neg hy) fun _ k' => k' (x2.sLost _ _) (e3 ▸ PW.sLost hW2 hd3)
example : True := by w_top off; trivial
def typedP (d : PD) (o : Int) : PD :=
  if o = 21 then { d with out := d.out ++ (List.replicate d.line.length ([8, 32, 8] : List Int)).flatten, line := [] }
  else if o = 8 ∨ o = 127 then (if d.line ≠ [] then { d with out := d.out ++ [8, 32, 8], line := d.line.take (d.line.length - 1) } else d)
  else if 0 < o ∧ 0 < d.room - d.ready.length - d.line.length then
    if (if o = 13 then 10 else o) = 4 ∨ (if o = 13 then 10 else o) = 10 ∨ d.room - d.ready.length - d.line.length = 1 then { d with out := d.out ++ [if o = 13 then 10 else o], ready := d.ready ++ (d.line ++ [if o = 13 then 10 else o]), line := [] }
    else { d with out := d.out ++ [if o = 13 then 10 else o], line := d.line ++ [if o = 13 then 10 else o] }
  else d
section
variable {d : PD} {o o2 : Int}
theorem tp_21 (h : (o == 21) = true) : typedP d o = { d with out := d.out ++ (List.replicate d.line.length ([8, 32, 8] : List Int)).flatten, line := [] } := by
  unfold typedP; rw [if_pos (eq_of_beq h)]
theorem tp_b1 (h : (o == 21) = false) (h8 : (([8, 127] : List Int).any fun x => x == o) = true) (hl : (!decide (d.line = [])) = true) : typedP d o = { d with out := d.out ++ [8, 32, 8], line := d.line.take (d.line.length - 1) } := by
  rw [any2i, decide_eq_true_eq] at h8
  unfold typedP; rw [if_neg (ne_of_beq_false h), if_pos h8, if_pos (by simpa using hl)]
theorem tp_b0 (h : (o == 21) = false) (h8 : (([8, 127] : List Int).any fun x => x == o) = true) (hl : (!decide (d.line = [])) = false) : typedP d o = d := by
  rw [any2i, decide_eq_true_eq] at h8
  unfold typedP; rw [if_neg (ne_of_beq_false h), if_pos h8, if_neg (by simpa using hl)]
theorem tp_f (h : (o == 21) = false) (h8 : (([8, 127] : List Int).any fun x => x == o) = false) (hr : decide (0 < d.room - (d.ready.length : Int) - d.line.length) = false) : typedP d o = d := by
  rw [any2i, decide_eq_false_iff_not] at h8
  unfold typedP; rw [if_neg (ne_of_beq_false h), if_neg h8, if_neg (fun q => of_decide_eq_false hr q.2)]
theorem tp_0 (h : (o == 21) = false) (h8 : (([8, 127] : List Int).any fun x => x == o) = false) (h0 : decide (0 < o) = false) : typedP d o = d := by
  rw [any2i, decide_eq_false_iff_not] at h8
  unfold typedP; rw [if_neg (ne_of_beq_false h), if_neg h8, if_neg (fun q => of_decide_eq_false h0 q.1)]
variable (h : (o == 21) = false) (h8 : (([8, 127] : List Int).any fun x => x == o) = false) (h0 : decide (0 < o) = true) (hr : decide (0 < d.room - (d.ready.length : Int) - d.line.length) = true) (e : o2 = if o = 13 then 10 else o)
include h h8 h0 hr e
theorem tp_p : typedP d o = if o2 = 4 ∨ o2 = 10 ∨ d.room - d.ready.length - d.line.length = 1 then { d with out := d.out ++ [o2], ready := d.ready ++ (d.line ++ [o2]), line := [] } else { d with out := d.out ++ [o2], line := d.line ++ [o2] } := by
  rw [any2i, decide_eq_false_iff_not] at h8
  unfold typedP; rw [if_neg (ne_of_beq_false h), if_neg h8, if_pos ⟨of_decide_eq_true h0, of_decide_eq_true hr⟩, e]
theorem tp_1 (hs : (([4, 10] : List Int).any fun x => x == o2) = true) : typedP d o = { d with out := d.out ++ [o2], ready := d.ready ++ (d.line ++ [o2]), line := [] } := by
  rw [any2i, decide_eq_true_eq] at hs
  rw [tp_p h h8 h0 hr e, if_pos (hs.elim .inl fun q => .inr (.inl q))]
theorem tp_2 (hq : (d.room - (d.ready.length : Int) - d.line.length == 1) = true) : typedP d o = { d with out := d.out ++ [o2], ready := d.ready ++ (d.line ++ [o2]), line := [] } := by
  rw [tp_p h h8 h0 hr e, if_pos (.inr (.inr (eq_of_beq hq)))]
theorem tp_3 (hs : (([4, 10] : List Int).any fun x => x == o2) = false) (hq : (d.room - (d.ready.length : Int) - d.line.length == 1) = false) : typedP d o = { d with out := d.out ++ [o2], line := d.line ++ [o2] } := by
  rw [any2i, decide_eq_false_iff_not, not_or] at hs
  rw [tp_p h h8 h0 hr e, if_neg fun q => q.elim hs.1 fun q => q.elim hs.2 (ne_of_beq_false hq)]
end
theorem fills_P25 (w : World) : PySem.Challenge.rw_nu0085_01.row.toRowW.prog = PySem.Challenge.rw_nu0085_01.row.toRowW.prog → MineHead.hd.heap_1 w.params = MineHead.hd.heap_1 w.params := by
  k_fill
  exact fun _ => rfl

theorem ptyped_spec (w : World) (pa : Addr) (x : PPh) (d : PD) (h : PW w pa x d) (o : Int) (t : Tok) (h0 : 0 ≤ o) (h1 : o < 256) (hl : d.line.length + d.ready.length ≤ 1000) (ho : d.out.length ≤ 900000) :
    SpecS 1 w 269 [.ref pa, .int o t] (pLed pa x) (Ret fun k => ∀ x', PW w pa x' (typedP d o) → k .none (pLed pa x')) := by
  refine' SpecS.intro (binds := [("plain", .ref pa), ("octet", .int o t)]) ?ho ?hcd ?hb ?hl ?_ ?c1 ?c2 ?c3 ?c4
  case ho => k_is
  case hcd => k_is
  case hb => exact fun s X => BindsTo.of_eq rfl
  case hl => exact locs rfl
  case c1 => exact rfl
  case c2 => exact rfl
  case c3 => exact rfl
  case c4 => decide
  intro A base fs s g' L' h' mean mg mb kM R' F' N' D' B' X' T' l1
  w_on
  refine S_letQ ?_; intro kQ0

  obtain ⟨hd, lo, wi, oi, li, ri⟩ := h
  dsimp only [pKvs] at hd
  have hwl := wi.length
  have hol := oi.length
  have hll := li.length
  have hrl := ri.length
  show wpS _ _ _ _ _ _
  k_steps
  rotate_left 3
  · refine m_go (S_cutK (fun G => ∀ o2 t2 rt h2 tk2, o2 = (if o = 13 then 10 else o) → Fr g' L' h2 (fun q => if q = ("octet" : Str) then some (.int o2 t2) else if q = ("room" : Str) then some (.int (d.room - d.ready.length - d.line.length) rt) else kM q) → News g' L' h2 (pLed pa x) → G { s with heap := h2, toks := tk2 }) ?first ?second)
    case first =>
      k_steps
      · exact Cut.go fun _ h => h 10 _ _ _ _ (by rw [if_pos (eq_of_beq (by assumption))]) (by k_asm) (fun p hp => (by assumption : News _ _ _ _) p (.tail _ hp))
      · exact Cut.go fun _ h => h o _ _ _ _ (by rw [if_neg (ne_of_beq_false (by assumption))]) (by k_asm) (fun p hp => (by assumption : News _ _ _ _) p (.tail _ hp))
    case second =>
      intro o2 t2 rt h2 tk2 ho2 F2 N2
      show wpS _ _ _ _ _ _
      k_steps
      · (walk_at "p_leaf"; refine p_none (tp_1 (by assumption) (by assumption) (by assumption) (by assumption) ho2 (by assumption)))
      · (walk_at "p_leaf"; refine p_none (tp_2 (by assumption) (by assumption) (by assumption) (by assumption) ho2 (by assumption)))
      · (walk_at "p_leaf"; refine p_none (tp_3 (by assumption) (by assumption) (by assumption) (by assumption) ho2 (by assumption) (by assumption)))
  all_goals (walk_at "p_leaf"; refine p_none ?_)
  all_goals first | exact tp_21 (by assumption) | exact tp_b1 (by assumption) (by assumption) (by assumption) | exact tp_b0 (by assumption) (by assumption) (by assumption) | exact tp_f (by assumption) (by assumption) (by assumption) | exact tp_0 (by assumption) (by assumption) (by assumption)
example : True := by w_top off; trivial
noncomputable def madeP : List Int → List Int
  | [] => []
  | c :: r => if c = 4 then [] else if c = 10 then [c] else c :: madeP r
def octs8 (l : List Int) : List UInt8 := l.map fun k => k.toNat.toUInt8
def readP (d : PD) (n : Nat) : Option (List UInt8) × PD :=
  if n = 0 then (some [], d) else if d.ready = [] then (none, d)
  else (some (octs8 (madeP (d.ready.take n))), { d with ready := d.ready.drop (max 1 (madeP (d.ready.take n)).length) })
theorem made_step {l : List Int} {i : Nat} {k : Int} {acc : List Int} (hk : l[i]? = some k) (h : madeP l = acc ++ madeP (l.drop i)) : madeP l = acc ++ (if k = 4 then [] else if k = 10 then [k] else k :: madeP (l.drop (i + 1))) := by
  obtain ⟨hl, rfl⟩ := List.getElem?_eq_some_iff.mp hk
  rw [h, List.drop_eq_getElem_cons hl]; rfl
theorem made_len (l : List Int) : (madeP l).length ≤ l.length := by
  induction l with
  | nil => exact Nat.le_refl _
  | cons c r ih =>
    unfold madeP
    split
    · exact Nat.zero_le _
    · split
      · exact Nat.succ_le_succ (Nat.zero_le _)
      · exact Nat.succ_le_succ ih
theorem made_mem (l : List Int) : ∀ k ∈ madeP l, k ∈ l := by
  induction l with
  | nil => exact fun _ h => h
  | cons c r ih =>
    unfold madeP
    intro k hk
    split at hk
    · cases hk
    · split at hk
      · rw [List.mem_singleton.mp hk]; exact .head _
      · rcases List.mem_cons.mp hk with rfl | hk
        · exact .head _
        · exact .tail _ (ih k hk)
theorem p_read {w : World} {pa : Addr} {d f : PD} {n : Nat} {v : Value} (hv : IsR v (readP d n).1) (e : (readP d n).2 = f) : ∀ x' : PPh, PW w pa x' f → Ret (fun k => ∀ v x', IsR v (readP d n).1 → PW w pa x' (readP d n).2 → k v (pLed pa x')) v (pLed pa x') := fun x' h _ k => k v x' hv (e ▸ h)
section
variable {l acc : List Int} {k : Int} {r : List Int} (h : l = acc ++ (if k = 4 then [] else if k = 10 then [k] else k :: r))
include h
theorem made_4 (h4 : (k == 4) = true) : acc = l := by rw [h, if_pos (eq_of_beq h4), List.append_nil]
theorem made_10 (h4 : (k == 4) = false) (h10 : (k == 10) = true) : acc ++ [k] = l := by rw [h, if_neg (ne_of_beq_false h4), if_pos (eq_of_beq h10)]
theorem made_go (h4 : (k == 4) = false) (h10 : (k == 10) = false) : l = (acc ++ [k]) ++ r := by rw [h, if_neg (ne_of_beq_false h4), if_neg (ne_of_beq_false h10), List.append_assoc]; rfl
end
theorem sub_news {h₀ h : Heap} {L : Addr} {led g' : Led} (N : News h₀ L h led) (is : List Nat) (e : g' = is.map (fun i => led.getD i default) := by rfl) (hb : is.all (fun i => decide (i < led.length)) = true := by rfl) : News h₀ L h g' := fun p hp => N p (sub_ix is e hb p hp)
section
variable {d : PD} {n : Nat}
theorem read_0 {t : Tok} (h : ((n : Int) == 0) = true) : IsR (.bytes #[] t) (readP d n).1 := by
  have : n = 0 := by have := eq_of_beq h; omega
  subst this; exact ⟨_, rfl⟩
theorem read_02 (h : ((n : Int) == 0) = true) : (readP d n).2 = d := by
  have : n = 0 := by have := eq_of_beq h; omega
  subst this; rfl
theorem ne_0 (h : ((n : Int) == 0) = false) : ¬ n = 0 := fun e => by subst e; exact absurd h (by decide)
theorem read_nil (h0 : ¬ n = 0) (h : d.ready = []) : readP d n = (none, d) := by unfold readP; rw [if_neg h0, if_pos h]
theorem read_is (h0 : ¬ n = 0) (h : ¬ d.ready = []) : readP d n = (some (octs8 (madeP (d.ready.take n))), { d with ready := d.ready.drop (max 1 (madeP (d.ready.take n)).length) }) := by unfold readP; rw [if_neg h0, if_neg h]
end
theorem fills_P26 (w : World) : PySem.Challenge.rw_nu0085_01.row.toRowW.prog = PySem.Challenge.rw_nu0085_01.row.toRowW.prog → MineHead.hd.heap_1 w.params = MineHead.hd.heap_1 w.params := by
  k_fill
  exact fun _ => rfl

theorem pread_spec (w : World) (pa : Addr) (x : PPh) (d : PD) (h : PW w pa x d) (n : Nat) (t : Tok) (hn : n ≤ 100) (hr : ∀ k ∈ d.ready, 0 ≤ k ∧ k < 256) (hl : d.ready.length ≤ 1000) :
    SpecS 1 w 276 [.ref pa, .int n t] (pLed pa x) (Ret fun k => ∀ v x', IsR v (readP d n).1 → PW w pa x' (readP d n).2 → k v (pLed pa x')) := by
  refine' SpecS.intro (binds := [("plain", .ref pa), ("count", .int n t)]) ?ho ?hcd ?hb ?hl ?_ ?c1 ?c2 ?c3 ?c4
  case ho => k_is
  case hcd => k_is
  case hb => exact fun s X => BindsTo.of_eq rfl
  case hl => exact locs rfl
  case c1 => exact rfl
  case c2 => exact rfl
  case c3 => exact rfl
  case c4 => decide
  intro A base fs s g' L' h' mean mg mb kM R' F' N' D' B' X' T' l1
  w_on
  refine S_letQ ?_; intro kQ0

  obtain ⟨hd, lo, wi, oi, li, ri⟩ := h
  dsimp only [pKvs] at hd
  have hrl := ri.length
  show wpS _ _ _ _ _ _
  k_steps
  · (walk_at "p_leaf"; exact p_read (read_0 (by assumption)) (read_02 (by assumption)))
  · have e := read_nil (ne_0 (by assumption)) (of_decide_eq_true (by assumption : decide (d.ready = []) = true))
    (walk_at "p_leaf"; exact p_read (by rw [e]; rfl) (by rw [e]))
  · have e := read_is (ne_0 (by assumption)) (of_decide_eq_false (by assumption : decide (d.ready = []) = false))
    have hlm : (d.ready.take n).length ≤ 100 := by rw [List.length_take]; omega
    have hac := Nat.le_trans (made_len (d.ready.take n)) hlm
    have hrg : ∀ k ∈ madeP (d.ready.take n), 0 ≤ k ∧ k < 256 := fun k hk => hr k (List.mem_of_mem_take (made_mem _ k hk))
    rename_i Dm _ _ FA NA _
    refine m_go (S_cutK (fun G => ∀ ov mv mn h2 tk2, IntsAre mv (madeP (d.ready.take n)) → Fr g' L' h2 (fun q => if q = ("octet" : Str) then ov else if q = ("made" : Str) then some (.ref Dm) else kM q) → News g' L' h2 ((Dm, W.listOf (List.toArray mv) mn) :: pLed pa x) →
      (adr ((Dm, W.listOf (List.toArray mv) mn) :: pLed pa x)).Nodup → G { s with heap := h2, toks := tk2 }) ?first ?second)
    case second =>
      clear D'
      intro ov mv mn h2 tk2 hmv F2 N2 D2
      show wpS _ _ _ _ _ _
      generalize madeP (d.ready.take n) = acc at *
      have hmvl := hmv.length
      k_steps
      (walk_at "p_leaf"; exact p_read (by rw [e]; exact ⟨_, rfl⟩) (by rw [e]; rfl))
    case first =>
      refine S_For ?_
      k_steps
      rename IntsAre _ _ => hws
      rename News _ _ _ _ => NA2
      rename Fr _ _ _ _ => FA2
      have hws : IntsAre _ (d.ready.take n) := hws
      refine forS_listK R'.handled hws FA2 NA2 (.head _) (rest := (Dm, W.listOf #[] 0) :: pLed pa x) (sub_ix [1, 3, 4, 5, 6, 7]) (nd_pickN NA2 (by walk_at "k_nd") [0, 1, 3, 4, 5, 6, 7]) (fun i G => ∀ mv mn acc, IntsAre mv acc → acc.length ≤ i → madeP (d.ready.take n) = acc ++ madeP ((d.ready.take n).drop i) → G ((Dm, W.listOf (List.toArray mv) mn) :: pLed pa x))
        (fun _ k => k [] 0 [] .nil (Nat.le_refl _) rfl) ?fin ?step
      case fin =>
        intro h2 tk2 ov mv mn acc hmv hal hma F2 N2 D2
        rw [List.drop_length] at hma
        dsimp only
        exact Cut.go fun _ k => k ov mv mn _ _ ((hma.trans (List.append_nil _)) ▸ hmv) F2 (fun p hp => N2 p (.tail _ hp)) (List.nodup_cons.mp D2).2
      case step =>
        intro I i k t o h2 tk2 hk mv mn acc hmv hal hma F2 N2 D2
        have hma := made_step hk hma
        have hmvl := hmv.length
        have hil : i < (d.ready.take n).length := (List.getElem?_eq_some_iff.mp hk).1
        have hmv2 : mv.length < 16777216 := by omega
        clear FA2 NA2 hrg hac
        show wpS _ _ _ _ _ _
        k_steps
        all_goals (try dsimp only)
        · exact Cut.go fun _ k' => k' _ mv mn _ _ ((made_4 hma (by assumption)) ▸ hmv) F2 (fun p hp => N2 p (.tail _ (.tail _ hp))) (List.nodup_cons.mp (List.nodup_cons.mp D2).2).2
        · exact Cut.go fun _ k' => k' _ (mv ++ [.int k t]) (mn + 1) _ _ ((made_10 hma (by assumption) (by assumption)) ▸ ints_snoc hmv k t) (by k_asm) (sub_news (by k_asm) [2, 3, 4, 5, 6, 7]) (nd_pick D2 [2, 3, 4, 5, 6, 7])
        · exact Turned.ix [0, 1, 2, 3, 4, 5, 6, 7] (by k_asm) (by k_asm) (by walk_at "k_nd") (fun y hy => if_neg hy) fun _ k' => k' (mv ++ [.int k t]) (mn + 1) _ (ints_snoc hmv k t) (by rw [List.length_append, List.length_singleton]; omega) (made_go hma (by assumption) (by assumption))
example : True := by w_top off; trivial
def loadedP (d : PD) (p : Int) : Int × PD :=
  if p = 0 then (if d.bits.fdiv 128 = 1 then (d.div.fmod 256, d) else match d.wt with | [] => (0, d) | a :: r => (a, { d with wt := r }))
  else if p = 1 then (if d.bits.fdiv 128 = 1 then d.div.fdiv 256 else d.let_, d)
  else if p = 2 then (dueP d, if dueP d = 2 then { d with sent := false } else d)
  else if p = 3 then (d.bits, d)
  else if p = 5 then (96 + (if d.wt = [] then 0 else 1) + 2 * d.lost, { d with lost := 0 })
  else (0, d)
theorem p_loaded {w : World} {pa : Addr} {d f : PD} {p n : Int} {tk : Tok} (hn : n = (loadedP d p).1) (e : (loadedP d p).2 = f) : ∀ x' : PPh, PW w pa x' f → Ret (fun k => ∀ t x', PW w pa x' (loadedP d p).2 → k (.int (loadedP d p).1 t) (pLed pa x')) (.int n tk) (pLed pa x') := fun x' h _ k => by rw [hn]; exact k _ x' (e ▸ h)
theorem fills_P27 (w : World) : PySem.Challenge.rw_nu0085_01.row.toRowW.prog = PySem.Challenge.rw_nu0085_01.row.toRowW.prog → MineHead.hd.heap_1 w.params = MineHead.hd.heap_1 w.params := by
  k_fill
  exact fun _ => rfl

theorem ploaded_spec (w : World) (pa : Addr) (x : PPh) (d : PD) (h : PW w pa x d) (p : Int) (t : Tok) (hl : d.wt.length ≤ 1000) :
    SpecS 2 w 290 [.ref pa, .int p t] (pLed pa x) (Ret fun k => ∀ t x', PW w pa x' (loadedP d p).2 → k (.int (loadedP d p).1 t) (pLed pa x')) := by
  refine' SpecS.intro (binds := [("plain", .ref pa), ("place", .int p t)]) ?ho ?hcd ?hb ?hl ?_ ?c1 ?c2 ?c3 ?c4
  case ho => k_is
  case hcd => k_is
  case hb => exact fun s X => BindsTo.of_eq rfl
  case hl => exact locs rfl
  case c1 => exact rfl
  case c2 => exact rfl
  case c3 => exact rfl
  case c4 => decide
  intro A base fs s g' L' h' mean mg mb kM R' F' N' D' B' X' T' l1
  w_on
  refine S_letQ ?_; intro kQ0

  have hW := h
  obtain ⟨wl, ol, ll, rl, o0, wn, on, ln, rn, wv, ov, lv, rv, t0, t1, t2, t3, t4, t5⟩ := x
  obtain ⟨size, room, lost, let_, bits, div, sent, wt, out, line, ready⟩ := d
  obtain ⟨hd, lo, wi, oi, li, ri⟩ := h
  dsimp only [pKvs] at hd
  dsimp only at *
  have hwl := wi.length
  show wpS _ _ _ _ _ _
  k_steps
  · (walk_at "p_leaf"; refine p_loaded ?_ ?_ <;> simp_all [loadedP])
  · cases wt with
    | nil => simp_all
    | cons a r =>
      obtain ⟨ta, rw', rfl, hr⟩ := ints_cons wi
      have hwl2 : rw'.length < 16777216 := by simp only [List.length_cons] at hwl hl; omega
      show wpAny _ _ (call (.builtin "list.pop") [.ref wl, .int 0 _]) _ _ _
      (refine' l_pop0 ?F ?N ?U ?z ?_; (case F => k_asm); (case N => k_asm); (case U => k_upd); (case z => walk_at "m_lp")); intro h' F' N'
      k_steps
      (walk_at "p_leaf"; refine p_loaded ?_ ?_ <;> simp_all [loadedP])
  · (walk_at "p_leaf"; refine p_loaded ?_ ?_ <;> simp_all [loadedP])
  · (walk_at "p_leaf"; refine p_loaded ?_ ?_ <;> simp_all [loadedP])
  · (walk_at "p_leaf"; refine p_loaded ?_ ?_ <;> simp_all [loadedP])
  · refine' m_go (Spec.use1K (pdue_spec w pa _ _ hW hl) B' (by k_asm) X' T' (R'.le (by decide)) (by k_asm) (by walk_at "m_sub") (by walk_at "m_dj") ?_)
    intro td h' tk F' N' D'; (try dsimp only)
    (refine' storeX_L ?F ?N ?_ ?a ?b; (case F => k_asm); (case N => k_asm); (case a => rfl); (case b => rfl); intro h' F' N')
    k_steps
    all_goals (walk_at "p_leaf"; refine p_loaded ?_ ?_)
    all_goals (simp_all [loadedP]; done)
  · (walk_at "p_leaf"; refine p_loaded ?_ ?_ <;> simp_all [loadedP])
  · (walk_at "p_leaf"; refine p_loaded ?_ ?_ <;> simp_all [loadedP])
  · (walk_at "p_leaf"; refine p_loaded ?_ ?_ <;> simp_all [loadedP])
example : True := by w_top off; trivial
def storedP (d : PD) (p o : Int) : PD :=
  if p = 0 ∧ d.bits.fdiv 128 = 1 then { d with div := d.div.fdiv 256 * 256 + o }
  else if p = 0 then { d with out := d.out ++ [o], sent := true }
  else if p = 1 ∧ d.bits.fdiv 128 = 1 then { d with div := 256 * o + d.div.fmod 256 }
  else if p = 1 then { d with sent := d.sent || (d.let_.fdiv 2 == 0 && (o.fdiv 2).fmod 2 == 1), let_ := o.fmod 4 }
  else if p = 2 ∧ (o.fdiv 2).fmod 2 = 1 then { d with wt := [], lost := 0 }
  else if p = 3 then { d with bits := o }
  else d
theorem fills_P28 (w : World) : PySem.Challenge.rw_nu0085_01.row.toRowW.prog = PySem.Challenge.rw_nu0085_01.row.toRowW.prog → MineHead.hd.heap_1 w.params = MineHead.hd.heap_1 w.params := by
  k_fill
  exact fun _ => rfl

theorem pstored_spec (w : World) (pa : Addr) (x : PPh) (d : PD) (h : PW w pa x d) (p o : Int) (t u : Tok) (hl : d.out.length ≤ 900000) :
    SpecS 1 w 297 [.ref pa, .int p t, .int o u] (pLed pa x) (Ret fun k => ∀ x', PW w pa x' (storedP d p o) → k .none (pLed pa x')) := by
  refine' SpecS.intro (binds := [("plain", .ref pa), ("place", .int p t), ("octet", .int o u)]) ?ho ?hcd ?hb ?hl ?_ ?c1 ?c2 ?c3 ?c4
  case ho => k_is
  case hcd => k_is
  case hb => exact fun s X => BindsTo.of_eq rfl
  case hl => exact locs rfl
  case c1 => exact rfl
  case c2 => exact rfl
  case c3 => exact rfl
  case c4 => decide
  intro A base fs s g' L' h' mean mg mb kM R' F' N' D' B' X' T' l1
  w_on
  refine S_letQ ?_; intro kQ0

  obtain ⟨hd, lo, wi, oi, li, ri⟩ := h
  dsimp only [pKvs] at hd
  have hol := oi.length
  show wpS _ _ _ _ _ _
  k_steps
  all_goals (walk_at "p_leaf"; refine p_none ?_)
  all_goals (simp_all [storedP]; done)
example : True := by w_top off; trivial
/-- both sides are alike -/
structure AG (d : UD) (e : CD) (p : PD) : Prop where
  size : d.size = p.size
  room : e.room = p.room
  wt : octI d.wt = p.wt
  rdy : octI e.ready = p.ready
  line : octI e.line = p.line
  out : d.out = octs8 p.out
  outr : ∀ k ∈ p.out, 0 ≤ k ∧ k < 256
  en : d.en = p.let_
  en0 : 0 ≤ d.en ∧ d.en < 4
  ln : d.ln = p.bits
  ln0 : 0 ≤ d.ln ∧ d.ln < 256
  dv : d.dv = p.div
  dv0 : 0 ≤ d.dv ∧ d.dv < 65536
  lost : p.lost = if d.lost then 1 else 0
  sent : d.sent = p.sent
theorem isDue_dueP {d : UD} {e : CD} {p : PD} (h : AG d e p) : isDue d = decide (dueP p ≠ 1) := by
  have hw : p.wt = [] ↔ d.wt = [] := by rw [← h.wt]; simp [octI]
  have e1 := h.en0
  have e2 := h.en
  have e3 := h.sent
  have hen : d.en = 0 ∨ d.en = 1 ∨ d.en = 2 ∨ d.en = 3 := by omega
  unfold isDue hasRec tellsEmpty dueP
  rw [← e2, ← e3]
  have b0 : Builtin.bitAnd 0 1 = 0 := by decide
  have b1 : Builtin.bitAnd 1 1 = 1 := by decide
  have b2 : Builtin.bitAnd 2 1 = 0 := by decide
  have b3 : Builtin.bitAnd 3 1 = 1 := by decide
  have c0 : Builtin.bitAnd 0 2 = 0 := by decide
  have c1 : Builtin.bitAnd 1 2 = 0 := by decide
  have c2 : Builtin.bitAnd 2 2 = 2 := by decide
  have c3 : Builtin.bitAnd 3 2 = 2 := by decide
  have hl : decide ((0 : Int) < d.wt.length) = !decide (p.wt = []) := by
    by_cases q : d.wt = []
    · rw [hw.mpr q, q]; rfl
    · have : 0 < d.wt.length := List.length_pos_iff.mpr q
      have q2 : ¬ p.wt = [] := fun z => q (hw.mp z)
      simp [q2]; omega
  rw [hl]
  rcases hen with q | q | q | q <;> rw [q] <;> simp only [b0, b1, b2, b3, c0, c1, c2, c3] <;> cases d.sent <;> by_cases z : p.wt = [] <;> simp [z] <;> decide
structure IV (d : UD) (e : CD) : Prop where
  wt : d.wt.length ≤ 8
  sz : d.size ≤ 8
  rl : ((e.ready.length + e.line.length : Nat) : Int) ≤ e.room
  rm : e.room ≤ 9
example : True := by w_top off; trivial
theorem fills_P31 (w : World) : PySem.Challenge.rw_nu0085_01.row.toRowW.prog = PySem.Challenge.rw_nu0085_01.row.toRowW.prog → MineHead.hd.heap_1 w.params = MineHead.hd.heap_1 w.params := by
  k_fill
  exact fun _ => rfl

theorem alike_spec (w : World) (ua ca pa : Addr) (x : UPh) (y : CPh) (z : PPh) (d : UD) (e : CD) (p : PD) (h : PW w pa z p) (ag : AG d e p) (hw : d.wt.length ≤ 1000) (hr : e.ready.length ≤ 1000) (hl : e.line.length ≤ 1000) (ho : p.out.length ≤ 900000) :
    SpecS 3 w 309 [.ref ua, .ref ca, .ref pa] (uLed w.params ua x d ++ (cLed w.params ca y ua e ++ pLed pa z)) (Ret fun k => ∀ x' z', PW w pa z' { p with out := [] } → k (.bool true) (uLed w.params ua x' { d with out := [] } ++ (cLed w.params ca y ua e ++ pLed pa z'))) := by
  refine' SpecS.intro (binds := [("uart", .ref ua), ("console", .ref ca), ("plain", .ref pa)]) ?ho ?hcd ?hb ?hl ?_ ?c1 ?c2 ?c3 ?c4
  case ho => k_is
  case hcd => k_is
  case hb => exact fun s X => BindsTo.of_eq rfl
  case hl => exact locs rfl
  case c1 => exact rfl
  case c2 => exact rfl
  case c3 => exact rfl
  case c4 => decide
  intro A base fs s g' L' h' mean mg mb kM R' F' N' D' B' X' T' l1
  w_on
  refine S_letQ ?_; intro kQ0

  have hW := h
  obtain ⟨hd, lo, wi, oi, li, ri⟩ := h
  have hol := oi.length
  have a1 := ag.wt
  have a2 := ag.rdy
  have a3 := ag.line
  have a4 := ag.outr
  have hpw : p.wt.length ≤ 1000 := by rw [← a1]; simpa [octI] using hw
  dsimp only [pKvs] at hd
  show wpS _ _ _ _ _ _
  k_steps
  refine' m_go (Spec.useK (rest := cLed w.params ca y ua e ++ pLed pa z) (due_spec w ua x d hw) B' (by k_asm) X' T' (R'.le (by decide)) (by k_asm) (by walk_at "m_sub") D' ?_)
  refine Back.intro ?_; intro kL h' tk F' N' D'; (try dsimp only)
  k_steps
  refine' m_go (Spec.useK (rest := uLed w.params ua x d ++ cLed w.params ca y ua e) (pdue_spec w pa z p hW hpw) B' (by k_asm) X' T' (R'.le (by decide)) (by k_asm) (sub_ix [8, 9, 10, 11, 12, 0, 1, 2, 3, 4, 5, 6, 7]) (nd_pickN (by k_asm) (by walk_at "k_nd") [8, 9, 10, 11, 12, 0, 1, 2, 3, 4, 5, 6, 7]) ?_)
  intro t2; refine Back.intro ?_; intro kL h' tk F' N' D'; (try dsimp only)
  rw [isDue_dueP ag]
  k_steps
  rename_i l3 _ _ _ _ _ _ _ _ _ _ o3 F3 N3 hd3 kq kS
  have hW3 : PW w pa (z.sOut o3 l3 0 []) { p with out := [] } := PW.sOut hW hd3 .nil
  refine' m_go (SpecS.useK (rest := cLed w.params ca y ua e ++ pLed pa (z.sOut o3 l3 0 [])) (take_out_spec w ua x d (by rw [ag.out]; simp only [octs8, List.length_map]; omega)) B' (by k_asm) X' T' (R'.le (by decide)) (by k_asm) (sub_ix [7, 8, 9, 10, 11, 12, 13, 14, 2, 3, 1, 5, 6]) (nd_pickN (by k_asm) (by walk_at "k_nd") [7, 8, 9, 10, 11, 12, 13, 14, 2, 3, 1, 5, 6]) ?_)
  intro t5 x2; refine Back.intro ?_; intro kL h' tk F' N' D'; (try dsimp only)
  have hde : (d.out.toArray.toList == (List.map (fun n : Int => n.toNat.toUInt8) p.out).toArray.toList) = true := by rw [ag.out]; exact beq_iff_eq.mpr rfl
  k_steps
  refine' m_go (SpecS.useK (rest := cLed w.params ca y ua e ++ pLed pa (z.sOut o3 l3 0 [])) (take_out_spec w ua x2 { d with out := [] } (Nat.zero_le _)) B' (by k_asm) X' T' (R'.le (by decide)) (by k_asm) (by walk_at "m_sub") D' ?_)
  intro t6 x3; refine Back.intro ?_; intro kL h' tk F' N' D'; (try dsimp only)
  k_steps
  (try dsimp only); (try (k_unfold; (try dsimp only)))
  refine' Leave.now (by k_asm) (by k_asm) (by walk_at "m_dj") ?_
  exact fun _ k => k x3 (z.sOut o3 l3 0 []) hW3
example : True := by w_top off; trivial
section
variable {M : Model} {A : Around} {E : Value → Shared → Prop} {s : Shared} {env : Env}
/-- a try whose body ends with a return -/
theorem S_Try {body : List Stmt} {h₀ : ExceptHandler} {hs : List ExceptHandler} {pos : Pos} {Q : Flow → Shared → Prop}
    (h : wpS M A (execs body env) (fun f s₁ => match f with | .next => False | f => Q f s₁) NoE s) : wpS M A (exec (.Try body (h₀ :: hs) [] [] pos) env) Q E s := by
  rw [arm_exec_Try]
  refine wpS_step (wpAny_standAt ?_)
  unfold tryStmt
  simp only [List.isEmpty_nil, if_true]
  refine wpS_bind (wpS_attempt (wpS_mono h (fun f s₁ h₁ => ?_) fun e s₁ h₁ => h₁.elim))
  cases f <;> first | exact h₁.elim | exact wpS_pure h₁
theorem S_CompareS {l r : Expr} {op : CmpOp} {pos : Pos} {Q : Value → Shared → Prop}
    (h : wpS M A (eval l env) (fun a s₁ => wpS M A (eval r env) (fun b s₂ => wpAny M A (compareOp op a b) Q E s₂) E s₁) E s)
    (hm : behindInMarks op r = false := by with_unfolding_all rfl) :
    wpS M A (eval (.Compare l [op] [r] pos) env) Q E s := fun Γ p hΓ hC => by
  simp only [eval_Compare1, markedBehindIn_of_false hm, Sem.wp_bind', Sem.wp_holding, Sem.wp_cmd_standAt, Sem.wp_operate]
  exact Sem.wp_mono M Γ _ (fun a p₁ s₁ h₁ => Sem.wp_mono M Γ _ (fun b _ s₂ h₂ => h₂ Γ _ hΓ) (fun _ _ _ h' => h') _ _ (h₁ Γ p₁ hΓ hC))
    (fun _ _ _ h' => h') _ _ (h Γ p hΓ hC)
theorem S_callF0 {f : Addr} {pos : Pos} {first : List Value} {Q : Value → Shared → Prop} (hf : FnAt f s.heap) (h : wpS M A (call (.ref f) (first ++ [])) Q E s) :
    wpS M A (callWith pos (.ref f) first (backTo pos (starEach [] env)) []) Q E s :=
  S_callWith (P := FnAt f) rfl keeps_F (evalArgs_nil3 ⟨hf, h⟩)
end
section
variable {prog : Program} {w : World} {A : Around} {s : Shared}
theorem codeS_expr {R : Result → Shared → Prop} {e : Expr} {env : Env}
    (h : wpS (model prog w) (A.deeper env) (eval e env) (fun v s' => R (.ok (.ret v)) s') NoE s) : codeS (model prog w) A (.expr e env) R s := by
  refine codeS_of_tree rfl ?_
  show wpS _ (A.deeper env) (do point; ret (← (eval e env).onRaise (leaving env))) _ _ s
  exact wpS_step (wpAny_point (wpS_bind (wpS_onRaise (wpS_mono h (fun v s' h' => wpS_pure h') fun _ _ h' => h'.elim))))
theorem codeS_call_fnE {R : Result → Shared → Prop} {a : Addr} {args : Args} {o : Obj} {fd : FuncData} {body : Expr} (hroom : A.depth < recursionLimit) (ho : s.heap.get? a = some o)
    (hd' : o.data = .func fd) (hco : fd.scope.isCoroutine = false) (hgen : fd.scope.isGenerator = false) (hbody : fd.body = .expr body) (hcd : s.heap.CodeRec fd.code fd.qualname)
    (h : wpAny (model prog w) A.in1 (bindArgs fd args) (fun binds s₁ =>
      wpAny (model prog w) A.in1 (newFunctionEnv fd.scope fd.globals fd.closure binds (fd.qualname ++ ".<locals>.") (some a) fd.code none fd.builtins)
        (fun env s₂ => s₂.heap.NoLimit ∧ codeS (model prog w) A (.expr body env) R s₂) (fun e s' => R (.error e) s') s₁) (fun e s' => R (.error e) s') s) :
    codeS (model prog w) A (.call (.ref a) args) R s := by
  refine codeS_of_tree rfl ?_
  show wpS _ A.in1 (callAny (.ref a) args) _ _ s
  simp only [callAny]
  refine wpS_step (wpAny_load ho ?_)
  obtain ⟨c, oc, vs, tq, hc, hoc, hdc, hq⟩ := hcd
  simp only [hd', callFunction, hco, hgen, hbody, hc]
  rw [hc] at h
  refine wpS_step (m := field (.ref c) 1) (wpAny_field hoc hdc hq (wpS_bind (wpS_pure ?_)))
  exact wpS_step (wpAny_mono h (fun binds s₁ h₁ => wpS_step (wpAny_mono h₁ (fun env s₂ h₂ => wpS_step (wpAny_enterFrame h₂.1 hroom
    (wpS_pure (And.intro rfl h₂.2)))) fun _ _ h' => h')) fun _ _ h' => h')
end

/- lambdas -/
theorem among_snoc {pos : Pos} {a b : Int} {c cv : Value} (l : List Value) (h : TriplesOk l) (e : codeAmong pos (l ++ [rawInt a, rawInt b, c]) = some cv) : codeAmong pos l = some cv ∨ cv = c := by
  fun_induction TriplesOk l with
  | case1 =>
    simp only [List.nil_append, rawInt, codeAmong] at e
    split at e
    · exact .inr (Option.some.inj e).symm
    · cases e
  | case2 a' t b' u x rest ih =>
    simp only [List.cons_append, codeAmong] at e ⊢
    split at e
    · rename_i hc; rw [if_pos hc]; exact .inl e
    · rename_i hc; rw [if_neg hc]; exact ih h e
  | case3 l h1 h2 => exact h.elim
/-- a table of code objects, all of one name -/
structure TabOK (q : Str) (ps : Array Value) (cs : Led) : Prop where
  tr : TriplesOk ps.toList
  hit : ∀ pos cv, codeAmong pos ps.toList = some cv → ∃ c' oc vs t, cv = .ref c' ∧ (c', oc) ∈ cs ∧ oc.data = .fields vs ∧ vs[1]? = some (.str q t)
theorem TabOK.nil (q : Str) : TabOK q #[] [] := ⟨trivial, fun pos cv h => by cases h⟩
def IsLam (q : Str) (body : Expr) (scope : Scope) (clos : List (Str × Addr)) (o : Obj) (cs : Led) : Prop :=
  ∃ pm c' ctv oc vs t, o = kla_obj "<lambda>" q ⟨[], [], none, [], [], none, []⟩ body scope clos pm c' ctv ∧ (c', oc) ∈ cs ∧ oc.data = .fields vs ∧ vs[1]? = some (.str q t)
theorem updF_head {d : Addr} {o : Obj} {r : Led} (D : (adr ((d, o) :: r)).Nodup) : UpdF d o ((d, o) :: r) (fun o' => (d, o') :: r) :=
  .head fun p hp e => (List.nodup_cons.mp D).1 (List.mem_map.mpr ⟨p, hp, e⟩)
section
variable {w : World} {A : Around} {E : Value → Shared → Prop} {s : Shared} {h₀ : Heap} {L a c P : Addr} {m mg mb : Str → Option Value} {cn : Str} {sc : Scope} {cl : List (Str × Addr)}
  {mean : ExcName → Option Value} {body : Expr} {scope : Scope} {ps : Array Value} {pos : Pos} {clos : List (Str × Addr)} {cs rest led : Led}
theorem mk_lam {Q : Value → Shared → Prop} (F : Fr h₀ L s.heap m) (N : News h₀ L s.heap led) (X : (MineHead.hd.heap_1 w.params).In h₀) (T : Top PV LO mean mg mb h₀) (hC : codeHdIn (MineHead.hd.heap_1 w.params) c P = true)
    (tb : TabOK (cn ++ ".<locals>." ++ "<lambda>") ps cs) (hs : ∀ p ∈ (P, tabObj ps) :: (cs ++ rest), p ∈ led) (D : (adr ((P, tabObj ps) :: (cs ++ rest))).Nodup)
    (hcl : closureFor scope (envX cn sc L a (.ref c) cl) = pure clos)
    (h : ∀ f o h' tk ps' cs', TabOK (cn ++ ".<locals>." ++ "<lambda>") ps' cs' → IsLam (cn ++ ".<locals>." ++ "<lambda>") body scope clos o cs' → Fr h₀ L h' m → News h₀ L h' ((f, o) :: (P, tabObj ps') :: (cs' ++ rest)) →
      (adr ((f, o) :: (P, tabObj ps') :: (cs' ++ rest))).Nodup → Q (.ref f) { s with heap := h', toks := tk }) :
    wpAny (model PR w) A (eval (.Lambda ⟨[], [], none, [], [], none, []⟩ body scope pos) (envX cn sc L a (.ref c) cl)) Q E s := by
  have C := codeHd_of_K X hC
  have N' : News h₀ L s.heap ((P, tabObj ps) :: (cs ++ rest)) := fun p hp => N p (hs p hp)
  refine kla_eval rfl ?_
  have fresh : ∀ {g : Led} {f : Addr}, (∀ q ∈ g, q.1 < f) → f ∉ adr g := fun hq hm => by
    obtain ⟨p, hp, e⟩ := List.mem_map.mp hm
    exact absurd (hq p hp) (by rw [e]; exact Nat.lt_irrefl _)
  cases hk : codeAmong pos ps.toList with
  | none =>
    refine kla_nest F N' T C rfl (updF_head D) tb.tr hk hcl fun f c' oc vs t ctv h' tk F' N'' hd hv l1 l2 => ?_
    refine h f _ h' tk (ps ++ #[rawInt pos.line, rawInt pos.col, .ref c']) ((c', oc) :: cs) ⟨?_, fun pos' cv hp => ?_⟩ ⟨(mg "__name__").getD .none, c', ctv, oc, vs, t, rfl, .head _, hd, hv⟩ F' (fun p hp => ?_) ?_
    · rw [Array.toList_append]; exact TriplesOk_snoc _ _ _ _ tb.tr
    · rw [Array.toList_append] at hp
      rcases among_snoc _ tb.tr hp with q | q
      · obtain ⟨c₂, oc₂, vs₂, t₂, e1, e2, e3, e4⟩ := tb.hit _ _ q
        exact ⟨c₂, oc₂, vs₂, t₂, e1, .tail _ e2, e3, e4⟩
      · exact ⟨c', oc, vs, t, q, .head _, hd, hv⟩
    · rcases List.mem_cons.mp hp with rfl | hp
      · exact N'' _ (.head _)
      · rcases List.mem_cons.mp hp with rfl | hp
        · exact N'' _ (.tail _ (.tail _ (.head _)))
        · rcases List.mem_cons.mp hp with rfl | hp
          · exact N'' _ (.tail _ (.head _))
          · exact N'' _ (.tail _ (.tail _ (.tail _ hp)))
    · have f1 : c' ∉ adr ((P, tabObj ps) :: (cs ++ rest)) := fresh l1
      have f2 : f ∉ adr ((P, tabObj ps) :: (cs ++ rest)) := fresh fun q hq => Nat.lt_trans (l1 q hq) l2
      have D' : (P :: adr (cs ++ rest)).Nodup := D
      have f1' : c' ∉ P :: adr (cs ++ rest) := f1
      have f2' : f ∉ P :: adr (cs ++ rest) := f2
      show (f :: P :: c' :: adr (cs ++ rest)).Nodup
      have hf : f ≠ c' := Nat.ne_of_gt l2
      simp only [List.nodup_cons, List.mem_cons, not_or] at D' f1' f2' ⊢
      exact ⟨⟨f2'.1, hf, f2'.2⟩, ⟨fun e => f1'.1 e.symm, D'.1⟩, f1'.2, D'.2⟩
  | some cv =>
    obtain ⟨c', oc, vs, t, rfl, e2, e3, e4⟩ := tb.hit _ _ hk
    refine kla_hit F N' T C rfl (.head _) tb.tr hk hcl fun f ctv h' tk F' N'' l1 => ?_
    exact h f _ h' tk ps cs tb ⟨(mg "__name__").getD .none, c', ctv, oc, vs, t, rfl, e2, e3, e4⟩ F' N'' (nd_cons D (fresh l1))
end
section
variable {w : World} {q : Str} {body : Expr} {scope : Scope} {clos : List (Str × Addr)} {f : Addr} {o : Obj} {cs g : Led} {n : Nat} {P : Value → Led → Prop}
/-- a lambda without parameters, its body walked -/
theorem SpecS.introL (hl : IsLam q body scope clos o cs) (hf : (f, o) ∈ g) (hcs : ∀ p ∈ cs, p ∈ g)
    (h : ∀ (A : Around) (base : Heap) (fs : List Env) (s : Shared) (g' : Heap) (L' : Addr) (h₁ : Heap) (cdv : Value) (mean : ExcName → Option Value) (mg mb : Str → Option Value), Room (A.deeper (envX q scope L' f cdv clos)) n → Fr g' L' h₁ (fun _ => none) → News g' L' h₁ g → (adr g).Nodup →
      Below A base fs g' → (MineHead.hd.heap_1 w.params).In g' → Top PV LO mean mg mb g' → (∀ p ∈ g, p.1 < L') →
      wpS (model PR w) (A.deeper (envX q scope L' f cdv clos)) (eval body (envX q scope L' f cdv clos)) (fun v s' => Leave P g' L' s v s') NoE { s with heap := h₁, toks := s.toks })
    (hco : scope.isCoroutine = false := by rfl) (hgen : scope.isGenerator = false := by rfl) (hk : scope.kind = .function := by rfl) (hcell : ∀ x ∈ scope.names, x.2 ≠ .cell := by decide) : SpecS (n + 1) w f [] g P := by
  intro A base fs s R p k
  obtain ⟨X, lim⟩ := of_hidden p
  obtain ⟨mean, mg, mb, T⟩ := p.top
  obtain ⟨pm, c', ctv, oc, vs, t, rfl, e2, e3, e4⟩ := hl
  have hrec : s.heap.CodeRec (.ref c') q := ⟨c', oc, vs, t, rfl, p.got _ (hcs _ e2), e3, e4⟩
  refine codeS_call_fnE (fd := kla_fn "<lambda>" q ⟨[], [], none, [], [], none, []⟩ body scope clos pm (.ref c') ctv) p.room.lim (p.got _ hf) rfl hco hgen rfl hrec ?_
  refine wpAny_of_eq (a := []) rfl ?_
  refine wpAny_newFunctionEnv hcell (fun x hx => nomatch hx) (fun h₁ hns hsb => ⟨lim.fresh _ hsb, codeS_expr ?_⟩) hk
  have hk₁ : ∀ b o, s.heap.get? b = some o → h₁.get? b = some o := fun b o e => hsb.extBut b o (Nat.ne_of_lt (Heap.lt_size e)) (Heap.get?_push_of_some _ e)
  refine wpS_mono (h A base fs s _ s.heap.objs.size h₁ (.ref c') mean mg mb (p.room.deeper _) ⟨hns, fun b o e => hk₁ b o (of_hideAll _ e), Nat.le_of_eq (hideAll_size _ _)⟩
    (fun q hq => ⟨hk₁ _ _ (p.got q hq), Nat.ne_of_lt (Heap.lt_size (p.got q hq)), hideAll_none _ (List.mem_map_of_mem hq)⟩) p.dj p.bel p.kin T (fun q hq => Heap.lt_size (p.got q hq)))
    (fun v s' hl => ?_) fun _ _ y => y.elim
  obtain ⟨h', tk, m', g'', rfl, F', N', D', hP⟩ := hl
  exact k _ g'' h' tk hP (Post.of F' N' D')
end
section
variable {w : World} {name qual : Str} {params : Arguments} {body : List Stmt} {scope : Scope} {dV kV doc pm cdv ct oc : Value} {an od : Option Addr} {osl : Array (Option Value)} {f : Addr} {args : List Value} {binds : List (Str × Value)}
  {n : Nat} {g : Led} {P : Value → Led → Prop}
/-- a def with cells, its body walked -/
theorem SpecS.introC (ho : (MineHead.hd.heap_1 w.params).lookup f = some ⟨oc, od, .func (fnOf name qual params body scope dV kV doc pm an cdv ct), osl⟩) (hcd : codeIn (MineHead.hd.heap_1 w.params) cdv qual = true)
    (hbind : ∀ s : Shared, (MineHead.hd.heap_1 w.params).In s.heap → BindsTo s (fnOf name qual params body scope dV kV doc pm an cdv ct) ⟨args, []⟩ binds)
    (hkind : (binds.all fun y => scope.names.lookup y.1 == some .local || scope.names.lookup y.1 == some .cell) = true) (hnd : ((cellsFrom 0 scope.names []).map (·.1)).Nodup)
    (h : ∀ (A : Around) (base : Heap) (fs : List Env) (s : Shared) (g' : Heap) (L' : Addr) (h₁ : Heap) (tk₁ : Tok) (cells : Led) (mean : ExcName → Option Value) (mg mb : Str → Option Value), Room (A.deeper (envOfC qual scope L' f cdv)) n →
      Fr g' L' h₁ (bindL (envOfC qual scope L' f cdv).kindOf binds fun _ => none) → News g' L' h₁ (cells ++ g) → (adr g).Nodup → CellsAre (bindC (envOfC qual scope L' f cdv).kindOf binds fun _ => none) (cellsFrom (L' + 1) scope.names []) cells →
      Below A base fs g' → (MineHead.hd.heap_1 w.params).In g' → Top PV LO mean mg mb g' → (∀ p ∈ g, p.1 < L') →
      wpS (model PR w) (A.deeper (envOfC qual scope L' f cdv)) (execs body (envOfC qual scope L' f cdv))
        (fun fl s' => Leave P g' L' s (match fl with | .ret v => v | _ => .none) s') NoE { s with heap := h₁, toks := tk₁ })
    (hco : scope.isCoroutine = false := by rfl) (hgen : scope.isGenerator = false := by rfl) (hk : scope.kind = .function := by rfl) : SpecS (n + 1) w f args g P := by
  intro A base fs s R p k
  obtain ⟨X, lim⟩ := of_hidden p
  obtain ⟨mean, mg, mb, T⟩ := p.top
  refine codeS_call_fn (fd := fnOf name qual params body scope dV kV doc pm an cdv ct) (body := body) p.room.lim (X _ _ ho) rfl hco hgen rfl (codeRec_of X hcd) (hbind s X _ _ _ _ ?_)
  refine wpAny_newFunctionEnv_cells hk (kindsX hkind _) fun env' he s' x => ?_
  subst he
  refine ⟨lim.keeps x.toInCall.keep, codeS_func ?_⟩
  obtain ⟨h₁, tk, rfl, _⟩ := x.done
  have hk₁ := x.toInCall.keep
  obtain ⟨cells, NC, Y⟩ := Cl.news (h₀ := s.heap) (Nat.le_refl _) fun n c hm => ⟨x.cell n c (lookup_of_mem_nodup (cellsFrom_names scope.names 0 (s.heap.objs.size + 1) [] [] rfl ▸ hnd) hm), x.above n c hm⟩
  refine wpS_mono (h A base fs s _ s.heap.objs.size h₁ tk cells mean mg mb (p.room.deeper _) ⟨x.toInCall.ns, fun b o e => hk₁ b o (of_hideAll _ e), Nat.le_of_eq (hideAll_size _ _)⟩ (fun q hq => ?_) p.dj Y p.bel p.kin T (fun q hq => Heap.lt_size (p.got q hq)))
    (fun fl s' hl => ?_) fun _ _ y => y.elim
  · rcases List.mem_append.mp hq with hq | hq
    · refine ⟨(NC q hq).1, (NC q hq).2.1, ?_⟩
      cases z : (hideAll s.heap (adr g)).get? q.1 with
      | none => rfl
      | some o => have := of_hideAll _ z; rw [(NC q hq).2.2] at this; cases this
    · exact ⟨hk₁ _ _ (p.got q hq), Nat.ne_of_lt (Heap.lt_size (p.got q hq)), hideAll_none _ (List.mem_map_of_mem hq)⟩
  obtain ⟨h', tk, m', g'', rfl, F', N', D', hP⟩ := hl
  exact k _ g'' h' tk hP (Post.of F' N' D')
end
example : True := by w_top off; trivial
abbrev tupObj (vs : List Value) : Obj := { cls := .type "tuple", data := .seq vs.toArray }
theorem fills_P33 (w : World) : PySem.Challenge.rw_nu0085_01.row.toRowW.prog = PySem.Challenge.rw_nu0085_01.row.toRowW.prog → MineHead.hd.heap_1 w.params = MineHead.hd.heap_1 w.params := by
  k_fill
  exact fun _ => rfl

theorem tried_spec (w : World) (f : Addr) (fd : FuncData) (od : Option Addr) (oc : Value) (sl : Array (Option Value)) (g : Led) (P : Value → Led → Prop) (n : Nat) (hf : (f, (⟨oc, od, .func fd, sl⟩ : Obj)) ∈ g) (S : SpecS n w f [] g P) :
    SpecS (n + 1) w 255 [.ref f] g (Ret fun k => ∀ D t v0 g0, P v0 g0 → k (.ref D) ((D, tupObj [.str "told" t, v0]) :: g0)) := by
  refine' SpecS.intro (binds := [("call", .ref f)]) ?ho ?hcd ?hb ?hl ?_ ?c1 ?c2 ?c3 ?c4
  case ho => k_is
  case hcd => k_is
  case hb => exact fun s X => BindsTo.of_eq rfl
  case hl => exact locs rfl
  case c1 => exact rfl
  case c2 => exact rfl
  case c3 => exact rfl
  case c4 => decide
  intro A base fs s g' L' h' mean mg mb kM R' F' N' D' B' X' T' l1
  w_on
  refine S_letQ ?_; intro kQ0

  show wpS _ _ _ _ _ _
  refine S_cons (S_Try (S_cons (S_Ret (S_Tuple (S_items_cons ?_)))))
  refine wpS_of ?_
  walk1
  refine S_items1 (S_Call ?_)
  walk1
  refine S_callF0 (FnAt.of N' hf) ?_
  dsimp only [List.nil_append]
  refine' SpecS.use0 S B' (by k_asm) X' T' R' (by k_asm) D' ?_
  intro v g' h' tk hv F' N' D'
  refine ⟨by show 2 ≤ 16777216; decide, ?_⟩
  exact Leave.now (F'.push _) (N'.push F' _) (nd_consI D' fun p hp => Heap.lt_size (N' p hp).1) fun _ k => k _ _ _ _ hv
/-- a figure of the box, in its range -/
theorem fig_spec (w : World) (ba : Addr) (b : BPh) (k : Int) (l : List Int) (many : Int) (u : Tok) (hi : IntsAre b.sv l) (hl : l.length ≤ 100) (hm : 0 < many) : Spec 1 w 241 [.ref ba, .int many u] (bLed ba b k)
    (Ret fun K => ∀ n t b' k' l', 0 ≤ n → n < many → IntsAre (BPh.sv b') l' → l'.length ≤ 100 → K (.int n t) (bLed ba b' k')) :=
  (ltake_spec w ba b k l many u hi hl hm).monoK (Nat.le_refl _) fun _ h t b' h3 =>
    h _ t b' _ _ (Int.fmod_nonneg_of_pos _ hm) (Int.fmod_lt_of_pos _ hm) h3 (by cases l <;> simp [figB] at hl ⊢; omega)
theorem more_fig_spec (w : World) (ba : Addr) (b : BPh) (k : Int) (l : List Int) (many : Int) (u : Tok) (hi : IntsAre b.sv l) (hl : l.length ≤ 100) (hm : 0 < many) : Spec 1 w 248 [.ref ba, .int many u] (bLed ba b k)
    (Ret fun K => ∀ n t b' l', 0 ≤ n → n < many → IntsAre (BPh.sv b') l' → l'.length ≤ 100 → K (.int n t) (bLed ba b' k)) :=
  (more_spec w ba b k l many u hi hl hm).monoK (Nat.le_refl _) fun _ h t b' h3 => by
    cases l with
    | nil => exact h _ t b' _ (Int.le_refl _) hm h3 (by simp)
    | cons a r => exact h _ t b' _ (Int.fmod_nonneg_of_pos _ hm) (Int.fmod_lt_of_pos _ hm) h3 (by simp only [List.length_cons, List.tail_cons] at hl ⊢; omega)
example : True := by w_top off; trivial
theorem Fr.sameBut {h₀ h h' : Heap} {L C : Addr} {m : Str → Option Value} (F : Fr h₀ L h m) (hs : ∀ b o, b ≠ C → h.get? b = some o → h'.get? b = some o) (hL : C ≠ L) (h0 : h₀.get? C = none) : Fr h₀ L h' m :=
  ⟨F.ns.at' fun o e => hs _ o (Ne.symm hL) e, fun b o e => hs b o (fun q => by subst q; rw [h0] at e; cases e) (F.keep b o e), F.above⟩
theorem News.sameBut {h₀ h h' : Heap} {L C : Addr} {g : Led} (N : News h₀ L h g) (hs : ∀ b o, b ≠ C → h.get? b = some o → h'.get? b = some o) (hC : C ∉ adr g) : News h₀ L h' g := fun p hp =>
  ⟨hs _ _ (fun e => hC (e ▸ List.mem_map_of_mem hp)) (N p hp).1, (N p hp).2⟩
theorem nd_tail {g : Led} {p : Addr × Obj} (D : (adr (p :: g)).Nodup) : (adr g).Nodup := (List.nodup_cons.mp D).2
theorem nd_head {g : Led} {p : Addr × Obj} (D : (adr (p :: g)).Nodup) : p.1 ∉ adr g := (List.nodup_cons.mp D).1
section
variable {prog : Program} {w : World} {A : Around} {s : Shared} {env : Env} {h₀ : Heap}
/-- an element of a comprehension is walked -/
inductive CompElt (h₀ : Heap) (L : Addr) (m : Str → Option Value) (D C I : Addr) (oD oC oI : Obj) (J : Led → Prop) (s₂ : Shared) : Shared → Prop
  | mk (h' : Heap) (tk : Tok) (led₂ : Led) (F : Fr h₀ L h' m) (N : News h₀ L h' ((D, oD) :: (C, oC) :: (I, oI) :: led₂)) (Dn : (adr ((D, oD) :: (C, oC) :: (I, oI) :: led₂)).Nodup) (hJ : J led₂) : CompElt h₀ L m D C I oD oC oI J s₂ { s₂ with heap := h', toks := tk }
/-- what a comprehension over an iterator wants -/
inductive CompGo (prog : Program) (w : World) (A : Around) (h₀ : Heap) (env : Env) (elt : Expr) (scope : Scope) (cl : List (Str × Addr)) (y : Str) (Q : Flow → Shared → Prop) (s₂ : Shared) : Value → Prop
  | mk (I : Addr) (o : Obj) (n : Nat) (P : Nat → Value → Prop) (St : Nat → Heap → Prop) (m : Str → Option Value) (led : Led) (J : Nat → List Value → Led → Prop)
      (Wk : Walks prog w A I [I] [I] n P St) (hsz : n ≤ 16777216) (hI : ∀ i h, St i h → ∃ o, h.get? I = some o) (hst : St 0 s₂.heap) (F : Fr h₀ env.locals s₂.heap m) (N : News h₀ env.locals s₂.heap ((I, o) :: led)) (D0 : (adr ((I, o) :: led)).Nodup) (hJ0 : J 0 [] led)
      (hJl : ∀ i ys led, J i ys led → ys.length ≤ i)
      (helt : ∀ i v C D oC oI c ys led₁ h₁ tk₁, i < n → P i v → J i ys led₁ → Fr h₀ env.locals h₁ m → News h₀ env.locals h₁ ((D, W.listOf (List.toArray ys) c) :: (C, oC) :: (I, oI) :: led₁) → (adr ((D, W.listOf (List.toArray ys) c) :: (C, oC) :: (I, oI) :: led₁)).Nodup →
        wpAny (model prog w) A (eval elt (compEnvC scope cl C env)) (fun yv s₄ => CompElt h₀ env.locals m D C I (W.listOf (List.toArray ys) c) oC oI (J (i + 1) (ys ++ [yv])) s₂ s₄) NoE { s₂ with heap := h₁, toks := tk₁ })
      (hQ : ∀ D c ys led₁ h' tk, J n ys led₁ → Fr h₀ env.locals h' (fun z => if z = y then some (.ref D) else m z) → News h₀ env.locals h' ((D, W.listOf (List.toArray ys) c) :: led₁) → (adr ((D, W.listOf (List.toArray ys) c) :: led₁)).Nodup →
        Q .next { s₂ with heap := h', toks := tk }) : CompGo prog w A h₀ env elt scope cl y Q s₂ (.ref I)
/-- the loop of a comprehension -/
inductive CompI (h₀ : Heap) (L : Addr) (m : Str → Option Value) (D C I : Addr) (n : Nat) (St : Nat → Heap → Prop) (J : Nat → List Value → Led → Prop) (s₂ : Shared) : Nat → Shared → Prop
  | mk (i : Nat) (h : Heap) (tk : Tok) (ys : List Value) (c : Nat) (led₁ : Led) (oC oI : Obj) (mC : Str → Option Value) (hi : i ≤ n) (st : St i h) (F : Fr h₀ L h m) (N : News h₀ L h ((D, W.listOf (List.toArray ys) c) :: (C, oC) :: (I, oI) :: led₁))
      (D1 : (adr ((D, W.listOf (List.toArray ys) c) :: (C, oC) :: (I, oI) :: led₁)).Nodup) (hn : h.Ns C mC) (hJ : J i ys led₁) : CompI h₀ L m D C I n St J s₂ (n - i) { s₂ with heap := h, toks := tk }
theorem Assign_comp_led {elt iter : Expr} {x y : Str} {px py : Pos} {scope : Scope} {cl : List (Str × Addr)} {pos spos : Pos} {Q : Flow → Shared → Prop}
    (hsw : swapsWith (.ListComp elt [⟨.Name x px, iter, [], 0⟩] scope pos) (some (.Name y py)) spos.line env = pure true)
    (hclos : closureFor scope env = pure cl) (hcell : ∀ z ∈ scope.names, z.2 ≠ .cell) (hkind : scope.kind = .function)
    (hnames : ∀ z ∈ scope.names, z.2 = .local → scope.names.lookup z.1 = some .local) (hx : scope.names.lookup x = some .local)
    (hy : env.kindOf y = some .local) (hp : (env.scope.kind == .class || (env.scope.kind == .module && env.locals != env.globals)) = false)
    (hs : ∀ x, foldedSetIterable iter env x = pure x)
    (h : wpAny (model prog w) A (eval iter env) (fun xv s₁ => wpAny (model prog w) A (pyIter xv) (fun it s₂ => CompGo prog w A h₀ env elt scope cl y Q s₂ it) NoE s₁) NoE s) :
    wpAny (model prog w) A (exec (.Assign [.Name y py] (.ListComp elt [⟨.Name x px, iter, [], 0⟩] scope pos) spos) env) Q NoE s := by
  rw [exec_Assign_Name_used _ _ _ _ hsw]
  refine wpAny_bind (wpAny_standAt (wpAny_bind ?_))
  show wpAny _ A (do let _ ← comprehension (.ListComp elt [⟨.Name x px, iter, [], 0⟩] scope pos) scope env _ (newList []) false (eval iter env) (some (assign (.Name y py) env))) _ _ s
  refine wpAny_bind (wpAny_mono (wpAny_comprehension_free (use := some (assign (.Name y py) env)) (Q := fun _ s' => Q .next s') rfl hs hclos hkind hnames
    (wpAny_mono h (fun xv s₁ h₁ => wpAny_mono h₁ (fun it s₂ h₂ => ?_) fun _ _ e => e) fun _ _ e => e)) (fun _ s' hq => wpAny_pure (wpAny_pure hq)) fun _ _ e => e)
  obtain ⟨I, o, n, P, St, m, led, J, Wk, hsz, hI, hst, F, N, D0, hJ0, hJl, helt, hQ⟩ := h₂
  refine wpAny_newObj_type (wpAny_newFunctionEnv hcell (by intro y hy; simp at hy) (fun h₁ hns₁ hsb₁ => ?_) hkind)
  dsimp only at hns₁ hsb₁ ⊢
  have F2 := F.push { cls := .type "list", dict := none, data := .seq ([] : List Value).toArray }
  have N2 := N.push F { cls := .type "list", dict := none, data := .seq ([] : List Value).toArray }
  have D2 : (adr ((s₂.heap.objs.size, ({ cls := .type "list", dict := none, data := .seq ([] : List Value).toArray } : Obj)) :: (I, o) :: led)).Nodup := nd_cons D0 fun q => by
    obtain ⟨p, hp, e⟩ := List.mem_map.mp q
    exact absurd (Heap.lt_size (N p hp).1) (by rw [e]; exact Nat.lt_irrefl _)
  generalize hDD : s₂.heap.objs.size = D at N2 D2 hsb₁ hns₁ ⊢
  generalize hH2 : s₂.heap.push { cls := .type "list", dict := none, data := .seq ([] : List Value).toArray } = H2 at hns₁ hsb₁ F2 N2 ⊢
  generalize hCC : H2.objs.size = C at hns₁ hsb₁ ⊢
  have hC2 : H2.get? C = none := none_of_size (Nat.le_of_eq hCC)
  have k1 : ∀ b o, H2.get? b = some o → h₁.get? b = some o := fun b o e => hsb₁.extBut b o (fun q => by subst q; rw [hC2] at e; cases e) (Heap.get?_push_of_some _ e)
  obtain ⟨oC, es, ep, hoC, hdC, hkC, hfC⟩ := id hns₁
  have F3 := F2.kept k1
  have N3 := News.put F2 N2 k1 hC2 hoC
  have D3 := nd_cons (o := oC) D2 (l := C) fun q => by
    obtain ⟨p, hp, e⟩ := List.mem_map.mp q
    exact absurd (Heap.lt_size (N2 p hp).1) (by rw [e, ← hCC]; exact Nat.lt_irrefl _)
  have st3 : St 0 h₁ := Wk.frame _ _ _ hst fun b hb o e => k1 _ _ (by rw [← hH2]; exact Heap.get?_push_of_some _ e)
  have hCL : C ≠ env.locals := (N3 _ (.head _)).2.1
  have hC0 : h₀.get? C = none := (N3 _ (.head _)).2.2
  have loop : ∀ s₃ : Shared, s₃ = { s₂ with heap := h₁, toks := s₂.toks + ([] : List (Str × Value)).length } →
      codeAny (model prog w) A (.compLoop (.ListComp elt [⟨.Name x px, iter, [], 0⟩] scope pos) 0 (.ref I) (.ref D) (compEnvC scope cl C env))
        (compPost (model prog w) A NoE (some (assign (.Name y py) env)) (fun _ s' => Q .next s') (.ref D) C) s₃ := by
    rintro s₃ rfl
    refine codeAny_compLoop_list (CompI h₀ env.locals m D C I n St J s₂) ?_ n (CompI.mk (n := n) 0 h₁ _ [] 0 led oC o _ (Nat.zero_le _) st3 F3 ?_ ?_ hns₁ hJ0)
    · rintro _ _ ⟨i, h, tk, ys, c, led₁, oC, oI, mC, hi, st, F, N, D1, hn, hJ⟩
      have hID : I ∉ adr led₁ := nd_head (nd_tail (nd_tail D1))
      have hIL : I ≠ env.locals := (N _ (.tail _ (.tail _ (.head _)))).2.1
      have hI0 : h₀.get? I = none := (N _ (.tail _ (.tail _ (.head _)))).2.2
      have e12 : D ≠ C := nd_ne D1 0 1
      have e13 : D ≠ I := nd_ne D1 0 2
      have e23 : C ≠ I := nd_ne D1 1 2
      have hID2 : I ∉ adr ((D, W.listOf (List.toArray ys) c) :: (C, oC) :: led₁) := by
        show I ∉ D :: C :: adr led₁
        simp only [List.mem_cons, not_or]
        exact ⟨Ne.symm e13, Ne.symm e23, hID⟩
      have N' : News h₀ env.locals h ((D, W.listOf (List.toArray ys) c) :: (C, oC) :: led₁) := fun p hp => by
        rcases List.mem_cons.mp hp with rfl | hp
        · exact N _ (.head _)
        · rcases List.mem_cons.mp hp with rfl | hp
          · exact N _ (.tail _ (.head _))
          · exact N _ (.tail _ (.tail _ (.tail _ hp)))
      by_cases hin : i = n
      · subst hin
        refine wpAny_mono (Wk.done { s₂ with heap := h, toks := tk } (fun r s₁ => r = none ∧ ∃ h' tk', s₁ = { s₂ with heap := h', toks := tk' } ∧ ∀ b o, b ≠ I → h.get? b = some o → h'.get? b = some o) NoE st fun h' tk' hk => ⟨rfl, h', tk', rfl, fun b o hb e => hk b o (by simpa using hb) e⟩) (fun r s₁ hr => ?_) fun _ _ z => z.elim
        obtain ⟨rfl, h', tk', rfl, hk⟩ := hr
        have F' := Mine.Fr.sameBut F hk hIL hI0
        have N'' := Mine.News.sameBut N' hk hID2
        have hn' : h'.Ns C mC := hn.at' fun o e => hk _ o e23 e
        refine wpAny_assign_Name (wpAny_storeName_local hy F'.ns (fun h₂ hn₂ hs₂ => ?_) hp)
        have F₂ := F'.set hn₂ hs₂
        have N₂ : News h₀ env.locals h₂ ((D, W.listOf (List.toArray ys) c) :: (C, oC) :: led₁) := fun p hp => ⟨(hs₂.2 _ (N'' p hp).2.1).trans (N'' p hp).1, (N'' p hp).2⟩
        refine ⟨mC, hn'.at' fun o e => (hs₂.2 _ hCL).trans e, fun h₃ hs₃ => ?_⟩
        have hk₃ : ∀ b o, b ≠ C → h₂.get? b = some o → h₃.get? b = some o := fun b o hb e => (hs₃.2 b hb).trans e
        refine hQ D c ys led₁ h₃ _ hJ (Mine.Fr.sameBut F₂ hk₃ hCL hC0) (Mine.News.sameBut (fun p hp => N₂ p ?_) hk₃ ?_) (nd_cons (nd_tail (nd_tail (nd_tail D1))) ?_)
        · rcases List.mem_cons.mp hp with rfl | hp
          · exact .head _
          · exact .tail _ (.tail _ hp)
        · show C ∉ D :: adr led₁
          simp only [List.mem_cons, not_or]
          refine ⟨Ne.symm e12, ?_⟩
          have := nd_head (nd_tail D1)
          exact fun q => this (.tail _ q)
        · have := nd_head D1
          exact fun q => this (.tail _ (.tail _ q))
      · have hlt : i < n := by omega
        refine wpAny_mono (Wk.item i { s₂ with heap := h, toks := tk } (fun r s₁ => ∃ v h' tk', r = some v ∧ s₁ = { s₂ with heap := h', toks := tk' } ∧ P i v ∧ St (i + 1) h' ∧ ∀ b o, b ≠ I → h.get? b = some o → h'.get? b = some o) NoE hlt st fun v h' tk' hP hst' hk => ⟨v, h', tk', rfl, rfl, hP, hst', fun b o hb e => hk b o (by simpa using hb) e⟩) (fun r s₁ hr => ?_) fun _ _ z => z.elim
        obtain ⟨v, h', tk', rfl, rfl, hP, hst', hk⟩ := hr
        have F' := Mine.Fr.sameBut F hk hIL hI0
        have N'' := Mine.News.sameBut N' hk hID2
        have hn' : h'.Ns C mC := hn.at' fun o e => hk _ o e23 e
        refine wpAny_assign_Name (wpAny_storeName_local (env := compEnvC scope cl C env) (lookup_relabel_local hx) hn' (fun h₂ hn₂ hs₂ => ?_) (by simp [compEnvC, relabel, hkind]))
        have hs₂' : Heap.SameBut C h' h₂ := hs₂
        have hk₂ : ∀ b o, b ≠ C → h'.get? b = some o → h₂.get? b = some o := fun b o hb e => (hs₂'.2 b hb).trans e
        have hn₂' : h₂.Ns C _ := hn₂
        obtain ⟨oC₂, es₂, ep₂, hoC₂, r₂⟩ := id hn₂'
        obtain ⟨oI₂, hoI⟩ := hI _ _ hst'
        have st₂ : St (i + 1) h₂ := Wk.frame _ _ _ hst' fun b hb o e => hk₂ b o (by rcases List.mem_singleton.mp hb with rfl; exact Ne.symm e23) e
        have F₂ := Mine.Fr.sameBut F' hk₂ hCL hC0
        have N₂ : News h₀ env.locals h₂ ((D, W.listOf (List.toArray ys) c) :: (C, oC₂) :: (I, oI₂) :: led₁) := fun p hp => by
          rcases List.mem_cons.mp hp with rfl | hp
          · exact ⟨hk₂ _ _ e12 (N'' _ (.head _)).1, (N'' _ (.head _)).2⟩
          · rcases List.mem_cons.mp hp with rfl | hp
            · exact ⟨hoC₂, hCL, hC0⟩
            · rcases List.mem_cons.mp hp with rfl | hp
              · exact ⟨hk₂ _ _ (Ne.symm e23) hoI, hIL, hI0⟩
              · have z := N'' p (.tail _ (.tail _ hp))
                refine ⟨hk₂ _ _ (fun q => ?_) z.1, z.2⟩
                have := nd_head (nd_tail D1)
                exact this (.tail _ (List.mem_map.mpr ⟨p, hp, q⟩))
        refine wpAny_mono (helt i v C D oC₂ oI₂ c ys led₁ h₂ _ hlt hP hJ F₂ N₂ D1) (fun yv s₄ h₄ => ?_) fun _ _ z => z.elim
        obtain ⟨h₄, tk₄, led₂, F₄, N₄, D₄, hJ₄⟩ := h₄
        have hyl := hJl _ _ _ hJ
        refine l_append (prog := prog) F₄ N₄ (Upd.head fun p hp e => nd_head D₄ (List.mem_map.mpr ⟨p, hp, e⟩)) (by omega) fun h₅ F₅ N₅ => ?_
        refine ⟨n - (i + 1), by omega, .mk (i + 1) h₅ tk₄ (ys ++ [yv]) (c + 1) led₂ oC₂ oI₂ _ hlt ?_ F₅ N₅ D₄ ⟨oC₂, es₂, ep₂, (N₅ _ (.tail _ (.head _))).1, r₂⟩ hJ₄⟩
        refine Wk.frame _ _ _ st₂ fun b hb o e => ?_
        rcases List.mem_singleton.mp hb with rfl
        have : h₂.get? b = some oI₂ := (N₂ _ (.tail _ (.tail _ (.head _)))).1
        rw [this] at e; cases e
        exact (N₅ _ (.tail _ (.tail _ (.head _)))).1
    · intro p hp
      rcases List.mem_cons.mp hp with rfl | hp
      · exact N3 _ (.tail _ (.head _))
      · rcases List.mem_cons.mp hp with rfl | hp
        · exact N3 _ (.head _)
        · exact N3 _ (.tail _ (.tail _ hp))
    · have D3' : (C :: D :: adr ((I, o) :: led)).Nodup := D3
      show (D :: C :: adr ((I, o) :: led)).Nodup
      simp only [List.nodup_cons, List.mem_cons, not_or] at D3' ⊢
      exact ⟨⟨fun e => D3'.1.1 e.symm, D3'.2.1⟩, D3'.1.2, D3'.2.2⟩
  exact codeAny_compStart_list (loop _ rfl) (Wk.self 0 _ _ _ st3 (loop _ rfl))
end
section
variable {prog : Program} {w : World} {A : Around} {E : Value → Shared → Prop} {s : Shared} {h₀ : Heap} {L r : Addr} {m : Str → Option Value} {led : Led} {b : Int} {t₀ u₀ v₀ : Tok}
theorem pyIter_rng {Q : Value → Shared → Prop} (hh : A.handled = none) (hr : IsRange s.heap r 0 b 1 t₀ u₀ v₀) (h0 : 0 ≤ b) (h1 : b ≤ 1000) (F : Fr h₀ L s.heap m) (N : News h₀ L s.heap led)
    (h : ∀ (I : Addr) (o : Obj) (h' : Heap) (St : Nat → Heap → Prop), Walks prog w A I [I] [I] b.toNat (fun i v => ∃ t, v = .int ((i : Nat) : Int) t) St → (∀ i h, St i h → ∃ o, h.get? I = some o) → St 0 h' → Fr h₀ L h' m → News h₀ L h' ((I, o) :: led) → (∀ p ∈ led, @LT.lt Nat _ p.1 I) → Q (.ref I) { s with heap := h' }) :
    wpAny (model prog w) A (pyIter (.ref r)) Q E s := by
  refine wpAny_pyIter_range hr (small_one (by decide) (by decide) (by omega) (by omega)) ?_
  have W := Walks.range (prog := prog) (w := w) (A := A) hh s.heap.objs.size 0 1 b.toNat
  have e1 : (fun (i : Nat) v => ∃ t, v = Value.int (0 + (i : Int) * 1) t) = fun (i : Nat) v => ∃ t, v = Value.int ((i : Nat) : Int) t := by
    funext i v; simp
  rw [e1] at W
  refine h _ _ _ _ W (fun i h st => ⟨_, st⟩) ?_ (F.push _) (N.push F _) (fun p hp => Heap.lt_size (N p hp).1)
  show IsRangeIter _ _ _ _ _
  rw [rangeSize_nat]
  simpa using Heap.get?_push_size _ rfl
end
theorem name_CC {M : Model} {A : Around} {E : Value → Shared → Prop} {s : Shared} {env : Env} {h₀ : Heap} {L : Addr} {news : Led} {v : Value} {x : Str} {pos : Pos} {Q : Value → Shared → Prop} (c' : Addr) (o' : Obj) (N : News h₀ L s.heap news) (hm : (c', o') ∈ news) (hd : o'.data = .cell (some v))
    (hk : env.scope.kind = .function) (hx : env.kindOf x = some .cell) (hc : env.cells.lookup x = some c') (hb : (x == ("__debug__" : Str)) = false) (h : Q v s) : wpAny M A (eval (.Name x pos) env) Q E s :=
  wpAny_Name (wpAny_loadName_cell hk hx hc ⟨o', (N _ hm).1, hd⟩ h) hb
theorem getD_rng {l : List Int} (h : ∀ k ∈ l, 0 ≤ k ∧ k < 256) (i : Nat) : 0 ≤ l.getD i 0 ∧ l.getD i 0 < 256 := by
  rw [List.getD_eq_getElem?_getD]
  cases e : l[i]? with
  | none => decide
  | some k => exact h k (List.mem_of_getElem? e)
theorem rng_snoc {ks : List Int} {k : Int} (h : ∀ k ∈ ks, 0 ≤ k ∧ k < 256) (hk : 0 ≤ k ∧ k < 256) : ∀ k' ∈ ks ++ [k], 0 ≤ k' ∧ k' < 256 := fun k' h' => by
  rcases List.mem_append.mp h' with h' | h'
  · exact h k' h'
  · rw [List.mem_singleton.mp h']; exact hk
section
variable {w : World} {A : Around} {E : Value → Shared → Prop} {s : Shared} {h₀ : Heap} {L a c P : Addr} {m mg mb : Str → Option Value} {cn : Str} {sc : Scope} {cl : List (Str × Addr)}
  {mean : ExcName → Option Value} {body : Expr} {scope : Scope} {ps : Array Value} {pos : Pos} {clos : List (Str × Addr)} {cs rest : Led}
theorem mk_lam2 {Q : Value → Shared → Prop} (F : Fr h₀ L s.heap m) (N : News h₀ L s.heap (rest ++ ((P, tabObj ps) :: cs))) (D : (adr (rest ++ ((P, tabObj ps) :: cs))).Nodup) (X : (MineHead.hd.heap_1 w.params).In h₀) (T : Top PV LO mean mg mb h₀)
    (tb : TabOK (cn ++ ".<locals>." ++ "<lambda>") ps cs) (hC : codeHdIn (MineHead.hd.heap_1 w.params) c P = true) (hcl : closureFor scope (envX cn sc L a (.ref c) cl) = pure clos)
    (h : ∀ f o h' tk ps' cs', TabOK (cn ++ ".<locals>." ++ "<lambda>") ps' cs' → IsLam (cn ++ ".<locals>." ++ "<lambda>") body scope clos o cs' → Fr h₀ L h' m → News h₀ L h' ((f, o) :: (rest ++ ((P, tabObj ps') :: cs'))) →
      (adr ((f, o) :: (rest ++ ((P, tabObj ps') :: cs')))).Nodup → Q (.ref f) { s with heap := h', toks := tk }) :
    wpAny (model PR w) A (eval (.Lambda ⟨[], [], none, [], [], none, []⟩ body scope pos) (envX cn sc L a (.ref c) cl)) Q E s := by
  have pm : ∀ (ps : Array Value) (cs : Led), ((P, tabObj ps) :: (cs ++ rest)).Perm (rest ++ ((P, tabObj ps) :: cs)) := fun ps cs => by
    show (((P, tabObj ps) :: cs) ++ rest).Perm _
    exact List.perm_append_comm
  refine mk_lam F N X T hC tb (fun p hp => (pm ps cs).mem_iff.mp hp) ((((pm ps cs).map (·.1)).nodup_iff).mpr D) hcl fun f o h' tk ps' cs' tb' il F' N' D' => ?_
  refine h f o h' tk ps' cs' tb' il F' (fun p hp => N' p ?_) ?_
  · rcases List.mem_cons.mp hp with rfl | hp
    · exact .head _
    · exact .tail _ ((pm ps' cs').mem_iff.mpr hp)
  · have := (((pm ps' cs').cons (f, o)).map (·.1)).nodup_iff.mp D'
    exact this
end
section
variable {A : Around} {s : Shared}
theorem eqAt_bytes {b c : Array UInt8} {t u : Tok} (h : b = c) : SeqAt.EqAt A s (.bytes b t) (.bytes c u) true := fun prog w E Q hq => by
  subst h
  unfold eqBool
  refine wpAny_holding ?_
  refine wpAny_ite_split (fun _ => wpAny_bind (wpAny_rule (wpAny_pure hq))) (fun _ => ?_)
  have e : wpAny (model prog w) A (richCompare .Eq (.bytes b t) (.bytes b u)) (fun v s' => v = .bool true ∧ s' = s) E s := PySem.W.eq_bytes (by rw [beq_self_eq_true]; exact ⟨rfl, rfl⟩)
  refine wpAny_bind (wpAny_mono e (fun v s' hv => ?_) fun _ _ z => z)
  obtain ⟨rfl, rfl⟩ := hv
  exact wpAny_truthy_bool hq
theorem eqAt_int {a b : Int} {t u : Tok} (h : a = b) : SeqAt.EqAt A s (.int a t) (.int b u) true := by
  subst h
  have := SeqAt.EqAt.int_int (A := A) (s := s) a t a u
  rwa [beq_self_eq_true] at this
theorem eqAt_isR {v v' : Value} {r : Option (List UInt8)} (h : IsR v r) (h' : IsR v' r) : SeqAt.EqAt A s v v' true := by
  cases r with
  | none => rw [show v = .none from h, show v' = .none from h']; exact SeqAt.EqAt.same _
  | some l =>
    obtain ⟨t, rfl⟩ := h
    obtain ⟨u, rfl⟩ := h'
    exact eqAt_bytes rfl
theorem eq_told {prog : Program} {w : World} {E : Value → Shared → Prop} {D E2 : Addr} {x : Str} {t u : Tok} {v v' : Value} {Q : Value → Shared → Prop} (h1 : s.heap.get? D = some (tupObj [.str x t, v])) (h2 : s.heap.get? E2 = some (tupObj [.str x u, v'])) (hu : A.units < cLine)
    (hv : SeqAt.EqAt A.in1 s v v' true) (h : Q (.bool true) s) : wpAny (model prog w) A (compareOp .Eq (.ref D) (.ref E2)) Q E s := by
  refine SeqAt.eq_tupleAt (items := #[.str x t, v]) (items2 := #[.str x u, v']) (e := fun _ => true) ⟨_, h1, rfl, _, rfl⟩ ⟨_, h2, rfl, _, rfl⟩ hu (fun j q1 q2 => ?_) h
  match j, q1 with
  | 0, _ =>
    have := SeqAt.EqAt.str_str (A := A.in1) (s := s) x t x u
    rwa [beq_self_eq_true] at this
  | 1, _ => exact hv
end
example : True := by w_top off; trivial
theorem octI_len (l : List UInt8) : (octI l).length = l.length := by simp [octI]
theorem octI_app (a b : List UInt8) : octI (a ++ b) = octI a ++ octI b := by simp [octI]
theorem octs8_app (a b : List Int) : octs8 (a ++ b) = octs8 a ++ octs8 b := by simp [octs8]
theorem octI_octs8 {l : List Int} (h : ∀ k ∈ l, 0 ≤ k ∧ k < 256) : octI (octs8 l) = l := by
  induction l with
  | nil => rfl
  | cons a l ih =>
    have h1 := h a (.head _)
    have h2 := ih fun k hk => h k (.tail _ hk)
    show ((a.toNat.toUInt8.toNat : Int) :: octI (octs8 l)) = a :: l
    rw [h2]
    congr 1
    have : a.toNat < 256 := by omega
    rw [UInt8.toNat_ofNat']
    omega
theorem octs8_octI (l : List UInt8) : octs8 (octI l) = l := by
  induction l with
  | nil => rfl
  | cons a l ih =>
    show (((a.toNat : Int).toNat.toUInt8) :: octs8 (octI l)) = a :: l
    rw [ih, oct_back]
theorem octI_rng (l : List UInt8) : ∀ k ∈ octI l, 0 ≤ k ∧ k < 256 := by
  intro k hk
  obtain ⟨c, _, rfl⟩ := List.mem_map.mp hk
  have := c.toNat_lt
  omega
theorem octI_drop (l : List UInt8) (n : Nat) : octI (l.drop n) = (octI l).drop n := by simp [octI, List.map_drop]
theorem octI_take (l : List UInt8) (n : Nat) : octI (l.take n) = (octI l).take n := by simp [octI, List.map_take]
theorem octI_nil {l : List UInt8} : octI l = [] ↔ l = [] := by simp [octI]

/- what came -/
theorem ag_came1 {d : UD} {e : CD} {p : PD} (h : AG d e p) {c : Int} (h0 : 0 ≤ c ∧ c < 256) : AG (feed1 d c.toNat.toUInt8) e (came1 p c) := by
  have hl : (p.wt.length : Int) = d.wt.length := by rw [← h.wt, octI_len]
  have e1 := octI_octs8 (l := [c]) (by simpa using h0)
  unfold feed1 came1
  by_cases hc : (d.wt.length : Int) < d.size
  · rw [if_pos hc, if_pos (by rw [hl, ← h.size]; exact hc)]
    exact ⟨h.size, h.room, by show octI (d.wt ++ [c.toNat.toUInt8]) = p.wt ++ [c]; rw [octI_app, h.wt]; congr 1, h.rdy, h.line, h.out, h.outr, h.en, h.en0, h.ln, h.ln0, h.dv, h.dv0, h.lost, h.sent⟩
  · rw [if_neg hc, if_neg (by rw [hl, ← h.size]; exact hc)]
    exact ⟨h.size, h.room, h.wt, h.rdy, h.line, h.out, h.outr, h.en, h.en0, h.ln, h.ln0, h.dv, h.dv0, rfl, h.sent⟩
theorem ag_came {d : UD} {e : CD} {p : PD} (h : AG d e p) (l : List Int) (hl : ∀ k ∈ l, 0 ≤ k ∧ k < 256) : AG (feedU d (octs8 l)) e (cameP p l) := by
  induction l generalizing d p with
  | nil => exact h
  | cons c l ih => exact ih (ag_came1 h (hl c (.head _))) fun k hk => hl k (.tail _ hk)
theorem iv_feed {d : UD} {e : CD} (h : IV d e) (l : List UInt8) : IV (feedU d l) e ∧ (feedU d l).out = d.out ∧ (feedU d l).size = d.size := by
  induction l generalizing d with
  | nil => exact ⟨h, rfl, rfl⟩
  | cons c l ih =>
    have h1 : IV (feed1 d c) e ∧ (feed1 d c).out = d.out ∧ (feed1 d c).size = d.size := by
      unfold feed1
      split
      · refine ⟨⟨?_, h.sz, h.rl, h.rm⟩, rfl, rfl⟩
        have := h.sz
        simp only [List.length_append, List.length_singleton]; omega
      · exact ⟨⟨h.wt, h.sz, h.rl, h.rm⟩, rfl, rfl⟩
    obtain ⟨a, b, c'⟩ := ih h1.1
    exact ⟨a, b.trans h1.2.1, c'.trans h1.2.2⟩

/- what is typed -/
theorem AG.two {d d' : UD} {e e' : CD} {p : PD} (h : AG d e p) (ro : e'.room = e.room) {r l o : List Int} (hr : octI e'.ready = r) (hl : octI e'.line = l) (ho : d'.out = octs8 o) (hor : ∀ k ∈ o, 0 ≤ k ∧ k < 256) (hd : d' = { d with out := d'.out }) :
    AG d' e' { p with out := o, line := l, ready := r } := by
  obtain ⟨size, en, ln, dv, lost, sent, out, wt⟩ := d'
  simp only [UD.mk.injEq, true_and, and_true] at hd
  obtain ⟨rfl, rfl, rfl, rfl, rfl, rfl, rfl⟩ := hd
  exact ⟨h.size, ro.trans h.room, h.wt, hr, hl, ho, hor, h.en, h.en0, h.ln, h.ln0, h.dv, h.dv0, h.lost, h.sent⟩
theorem out_app {d : UD} {e : CD} {p : PD} (h : AG d e p) {x : List UInt8} {y : List Int} (e1 : x = octs8 y) (h1 : ∀ k ∈ y, 0 ≤ k ∧ k < 256) : d.out ++ x = octs8 (p.out ++ y) ∧ ∀ k ∈ p.out ++ y, 0 ≤ k ∧ k < 256 := by
  rw [octs8_app, h.out, e1]
  refine ⟨rfl, fun k hk => ?_⟩
  rcases List.mem_append.mp hk with hk | hk
  · exact h.outr k hk
  · exact h1 k hk
theorem ag_erase {d : UD} {e : CD} {p : PD} (h : AG d e p) : AG (eraseU d) (eraseC e) { p with out := p.out ++ [8, 32, 8], line := p.line.take (p.line.length - 1) } := by
  have o := out_app h (x := [8, 32, 8]) (y := [8, 32, 8]) (by decide) (by decide)
  refine AG.two (d' := eraseU d) (e' := eraseC e) h rfl (r := p.ready) h.rdy ?_ o.1 o.2 rfl
  show octI (e.line.take _) = _
  rw [octI_take, h.line, ← h.line, octI_len]
  congr 1
  omega
theorem ag_kill (n : Nat) {d : UD} {e : CD} {p : PD} (h : AG d e p) : AG (kill n (e, d)).2 (kill n (e, d)).1 { p with out := p.out ++ (List.replicate n ([8, 32, 8] : List Int)).flatten, line := p.line.take (p.line.length - n) } := by
  induction n generalizing d e p with
  | zero =>
    show AG d e _
    have : ({ p with out := p.out ++ (List.replicate 0 ([8, 32, 8] : List Int)).flatten, line := p.line.take (p.line.length - 0) } : PD) = p := by simp
    rw [this]; exact h
  | succ n ih =>
    have := ih (ag_erase h)
    show AG (kill n (eraseC e, eraseU d)).2 (kill n (eraseC e, eraseU d)).1 _
    have e1 : ({ p with out := p.out ++ (List.replicate (n + 1) ([8, 32, 8] : List Int)).flatten, line := p.line.take (p.line.length - (n + 1)) } : PD) =
        { ({ p with out := p.out ++ [8, 32, 8], line := p.line.take (p.line.length - 1) } : PD) with out := (p.out ++ [8, 32, 8]) ++ (List.replicate n ([8, 32, 8] : List Int)).flatten, line := (p.line.take (p.line.length - 1)).take ((p.line.take (p.line.length - 1)).length - n) } := by
      simp only [List.replicate_succ, List.flatten_cons, List.append_assoc, PD.mk.injEq, true_and, and_true, List.take_take, List.length_take]
      congr 1
      omega
    rw [e1]; exact this
theorem ag_put {d : UD} {e : CD} {p : PD} (h : AG d e p) (c : UInt8) : AG (putU d c) (putC e c)
    (if (c.toNat : Int) = 4 ∨ (c.toNat : Int) = 10 ∨ p.room - p.ready.length - p.line.length = 1 then { p with out := p.out ++ [(c.toNat : Int)], ready := p.ready ++ (p.line ++ [(c.toNat : Int)]), line := [] } else { p with out := p.out ++ [(c.toNat : Int)], line := p.line ++ [(c.toNat : Int)] }) := by
  have hc := c.toNat_lt
  have o := out_app h (x := [c]) (y := [(c.toNat : Int)]) (by show [c] = [((c.toNat : Int).toNat.toUInt8)]; rw [oct_back]) (by simp; omega)
  have l1 : p.ready.length = e.ready.length := by rw [← h.rdy, octI_len]
  have l2 : p.line.length = e.line.length := by rw [← h.line, octI_len]
  have c4 : ((c.toNat : Int) = 4) ↔ c = 4 := oct_inj c 4
  have c10 : ((c.toNat : Int) = 10) ↔ c = 10 := oct_inj c 10
  have cr : (p.room - p.ready.length - p.line.length = 1) ↔ ((e.ready.length + (e.line.length + 1) : Nat) : Int) = e.room := by rw [l1, l2, h.room]; omega
  simp only [c4, c10, cr]
  unfold putC putU
  by_cases q : c = 4 ∨ c = 10 ∨ ((e.ready.length + (e.line.length + 1) : Nat) : Int) = e.room
  · have q' : c = 10 ∨ c = 4 ∨ ((e.ready.length + (e.line.length + 1) : Nat) : Int) = e.room := by rcases q with q | q | q; exact .inr (.inl q); exact .inl q; exact .inr (.inr q)
    rw [if_pos q, if_pos q']
    refine AG.two (d' := { d with out := d.out ++ [c] }) (e' := { e with ready := e.ready ++ (e.line ++ [c]), line := [] }) h rfl ?_ rfl o.1 o.2 rfl
    show octI (e.ready ++ (e.line ++ [c])) = _
    rw [octI_app, octI_app, h.rdy, h.line]; rfl
  · have q' : ¬ (c = 10 ∨ c = 4 ∨ ((e.ready.length + (e.line.length + 1) : Nat) : Int) = e.room) := by rintro (z | z | z); exact q (.inr (.inl z)); exact q (.inl z); exact q (.inr (.inr z))
    rw [if_neg q, if_neg q']
    refine AG.two (d' := { d with out := d.out ++ [c] }) (e' := { e with line := e.line ++ [c] }) h rfl (r := p.ready) h.rdy ?_ o.1 o.2 rfl
    show octI (e.line ++ [c]) = _
    rw [octI_app, h.line]; rfl
theorem ag_typed {d : UD} {e : CD} {p : PD} (h : AG d e p) (c : UInt8) : AG (typedCU (e, d) c).2 (typedCU (e, d) c).1 (typedP p (c.toNat : Int)) := by
  have l1 : p.ready.length = e.ready.length := by rw [← h.rdy, octI_len]
  have l2 : p.line.length = e.line.length := by rw [← h.line, octI_len]
  have c21 : ((c.toNat : Int) = 21) ↔ c = 21 := oct_inj c 21
  have c8 : ((c.toNat : Int) = 8) ↔ c = 8 := oct_inj c 8
  have c127 : ((c.toNat : Int) = 127) ↔ c = 127 := oct_inj c 127
  have c13 : ((c.toNat : Int) = 13) ↔ c = 13 := oct_inj c 13
  have c0 : (0 < (c.toNat : Int)) ↔ c ≠ 0 := by
    have := oct_inj c 0
    have e0 : ((0 : UInt8).toNat : Int) = 0 := rfl
    rw [e0] at this
    rw [Ne, ← this]; omega
  have cr : (0 < p.room - p.ready.length - p.line.length) ↔ ((e.ready.length + e.line.length : Nat) : Int) < e.room := by rw [l1, l2, h.room]; omega
  unfold typedCU typedP
  dsimp only
  by_cases q1 : c = 21
  · rw [if_pos q1, if_pos (c21.mpr q1)]
    have := ag_kill e.line.length h
    rw [l2]
    rw [l2, Nat.sub_self, List.take_zero] at this
    exact this
  · rw [if_neg q1, if_neg (fun z => q1 (c21.mp z))]
    by_cases q2 : c = 8 ∨ c = 127
    · have q2' : (c.toNat : Int) = 8 ∨ (c.toNat : Int) = 127 := by rcases q2 with q | q; exact .inl (c8.mpr q); exact .inr (c127.mpr q)
      rw [if_pos q2, if_pos q2']
      by_cases q3 : 0 < e.line.length
      · rw [if_pos q3, if_pos (show p.line ≠ [] by rw [Ne, ← List.length_eq_zero_iff, l2]; omega)]
        exact ag_erase h
      · rw [if_neg q3, if_neg (show ¬ p.line ≠ [] by rw [Ne, ← List.length_eq_zero_iff, l2]; omega)]
        exact h
    · have q2' : ¬ ((c.toNat : Int) = 8 ∨ (c.toNat : Int) = 127) := by rintro (z | z); exact q2 (.inl (c8.mp z)); exact q2 (.inr (c127.mp z))
      rw [if_neg q2, if_neg q2']
      simp only [c0, cr]
      by_cases q4 : c ≠ 0 ∧ ((e.ready.length + e.line.length : Nat) : Int) < e.room
      · rw [if_pos q4, if_pos q4]
        by_cases q5 : c = 13
        · rw [if_pos q5, if_pos (c13.mpr q5)]
          exact ag_put h 10
        · rw [if_neg q5, if_neg (fun z => q5 (c13.mp z))]
          exact ag_put h c
      · rw [if_neg q4, if_neg q4]; exact h
example : True := by w_top off; trivial
theorem typedP_wt (p : PD) (o : Int) : (typedP p o).wt = p.wt ∧ (typedP p o).size = p.size ∧ (typedP p o).room = p.room := by
  unfold typedP; (repeat' split) <;> exact ⟨rfl, rfl, rfl⟩
noncomputable def takeP : List Int → PD → PD
  | [], p => p
  | c :: r, p => takeP r (typedP { p with wt := r } c)
theorem AG.wts {d : UD} {e : CD} {p : PD} (h : AG d e p) {l : List UInt8} {r : List Int} (e1 : octI l = r) : AG { d with wt := l } e { p with wt := r } :=
  ⟨h.size, h.room, e1, h.rdy, h.line, h.out, h.outr, h.en, h.en0, h.ln, h.ln0, h.dv, h.dv0, h.lost, h.sent⟩
theorem iv_typed {d : UD} {e : CD} (h : IV d e) (c : UInt8) : IV (typedCU (e, d) c).2 (typedCU (e, d) c).1 := by
  obtain ⟨t1, t2, t3, t4⟩ := typed_bounds (e, d) c
  have rl : (((typedCU (e, d) c).1.ready.length + (typedCU (e, d) c).1.line.length : Nat) : Int) ≤ (typedCU (e, d) c).1.room := by
    rw [t1]
    have hr := h.rl
    have kb := kill_bounds e.line.length (e, d)
    have el := erase_len e
    have kl := congrArg List.length kb.1
    have er : (eraseC e).ready.length = e.ready.length := rfl
    have p1 := put_bounds e 10
    have p2 := put_bounds e c
    unfold typedCU
    dsimp only at *
    (repeat' split) <;> (try dsimp only at *) <;> omega
  refine ⟨?_, ?_, rl, by rw [t1]; exact h.rm⟩
  · rw [t3]; exact h.wt
  · rw [t3]; exact h.sz
theorem ag_take (l : List UInt8) {d : UD} {e : CD} {p : PD} (h : AG d e p) (iv : IV d e) (hl : l.length ≤ 8) : AG (takeCU l (e, { d with wt := l })).2 (takeCU l (e, { d with wt := l })).1 (takeP (octI l) { p with wt := octI l }) ∧
    IV (takeCU l (e, { d with wt := l })).2 (takeCU l (e, { d with wt := l })).1 ∧ (takeCU l (e, { d with wt := l })).2.out.length ≤ d.out.length + 30 * l.length := by
  induction l generalizing d e p with
  | nil => exact ⟨h.wts rfl, ⟨Nat.zero_le _, iv.sz, iv.rl, iv.rm⟩, Nat.le_refl _⟩
  | cons c r ih =>
    simp only [List.length_cons] at hl
    have h1 := ag_typed (h.wts (l := r) rfl) c
    have iv0 : IV { d with wt := r } e := ⟨by show r.length ≤ 8; omega, iv.sz, iv.rl, iv.rm⟩
    have iv1 := iv_typed iv0 c
    obtain ⟨t1, t2, t3, t4⟩ := typed_bounds (e, { d with wt := r }) c
    have := ih h1 iv1 (by omega)
    have e1 : ({ (typedCU (e, { d with wt := r }) c).2 with wt := r } : UD) = (typedCU (e, { d with wt := r }) c).2 := by rw [t3]
    have e2 : ({ typedP { p with wt := octI r } (c.toNat : Int) with wt := octI r } : PD) = typedP { p with wt := octI r } (c.toNat : Int) := by
      have := (typedP_wt { p with wt := octI r } (c.toNat : Int)).1
      generalize typedP { p with wt := octI r } (c.toNat : Int) = q at *
      obtain ⟨_, _, _, _, _, _, _, _, _, _, _⟩ := q
      simp only at this; rw [this]
    rw [e1, e2] at this
    refine ⟨this.1, this.2.1, Nat.le_trans this.2.2 ?_⟩
    have hr := iv.rl
    have hm := iv.rm
    dsimp only at t4
    simp only [List.length_cons]
    omega
/- what is read -/
theorem scan_le (l : List UInt8) (n : Nat) : scan l n ≤ l.length := by
  induction l generalizing n with
  | nil => cases n <;> simp [scan]
  | cons c l ih =>
    cases n with
    | zero => simp [scan]
    | succ n =>
      have := ih n
      simp only [scan, List.length_cons]
      split
      · omega
      · split <;> omega
theorem made_scan (l : List UInt8) (n : Nat) : madeP (octI (l.take n)) = octI (l.take (scan l n)) := by
  induction l generalizing n with
  | nil => cases n <;> rfl
  | cons c l ih =>
    cases n with
    | zero => rfl
    | succ n =>
      have c4 : ((c.toNat : Int) = 4) ↔ c = 4 := oct_inj c 4
      have c10 : ((c.toNat : Int) = 10) ↔ c = 10 := oct_inj c 10
      show madeP ((c.toNat : Int) :: octI (l.take n)) = _
      simp only [madeP, scan, c4, c10]
      by_cases q : c = 4
      · rw [if_pos q, if_pos q]; rfl
      · rw [if_neg q, if_neg q]
        by_cases q2 : c = 10
        · rw [if_pos q2, if_pos q2]; rfl
        · rw [if_neg q2, if_neg q2, ih n, Nat.add_comm 1]; rfl
theorem ag_read {d : UD} {e : CD} {p : PD} (h : AG d e p) (n : Nat) : (readCU e n).1 = (readP p n).1 ∧ AG d (readCU e n).2 (readP p n).2 ∧ ((readCU e n).2.ready.length ≤ e.ready.length ∧ (readCU e n).2.line = e.line ∧ (readCU e n).2.room = e.room) := by
  unfold readCU readP
  by_cases q : n = 0
  · rw [if_pos q, if_pos q]; exact ⟨rfl, h, Nat.le_refl _, rfl, rfl⟩
  · rw [if_neg q, if_neg q]
    by_cases q2 : e.ready = []
    · have q3 : p.ready = [] := by rw [← h.rdy, q2]; rfl
      rw [if_pos q2, if_pos q3]; exact ⟨rfl, h, Nat.le_refl _, rfl, rfl⟩
    · have q3 : ¬ p.ready = [] := fun z => q2 (by rw [← h.rdy] at z; exact octI_nil.mp z)
      rw [if_neg q2, if_neg q3]
      have e1 : madeP (p.ready.take n) = octI (e.ready.take (scan e.ready n)) := by rw [← h.rdy, ← octI_take, made_scan]
      have e2 : max 1 (madeP (p.ready.take n)).length = if scan e.ready n = 0 then 1 else scan e.ready n := by
        rw [e1, octI_len, List.length_take, Nat.min_eq_left (scan_le _ _)]
        split <;> omega
      refine ⟨?_, ⟨h.size, h.room, h.wt, ?_, h.line, h.out, h.outr, h.en, h.en0, h.ln, h.ln0, h.dv, h.dv0, h.lost, h.sent⟩, ?_, rfl, rfl⟩
      · show some _ = some _
        rw [e1, octs8_octI]
      · show octI (e.ready.drop _) = p.ready.drop _
        rw [octI_drop, h.rdy, e2]
      · show (e.ready.drop _).length ≤ _
        rw [List.length_drop]; omega
theorem typedP_bounds (p : PD) (o : Int) : (typedP p o).line.length + (typedP p o).ready.length ≤ p.line.length + p.ready.length + 1 ∧ (typedP p o).out.length ≤ p.out.length + 3 * p.line.length + 3 := by
  have hf : ∀ n : Nat, ((List.replicate n ([8, 32, 8] : List Int)).flatten).length = 3 * n := fun n => by
    induction n with
    | zero => rfl
    | succ n ih => rw [List.replicate_succ, List.flatten_cons, List.length_append, ih]; simp only [List.length_cons, List.length_nil]; omega
  unfold typedP
  (repeat' split) <;> (try simp only [List.length_append, List.length_cons, List.length_nil, hf, List.length_take]) <;> omega
theorem take_says (l : List UInt8) : (decide ((0 : Int) < l.length) == !decide (octI l = [])) = true := by
  cases l with
  | nil => rfl
  | cons c l =>
    have h1 : decide ((0 : Int) < (c :: l).length) = true := by simp only [List.length_cons, decide_eq_true_eq]; omega
    have h2 : decide (octI (c :: l) = []) = false := rfl
    rw [h1, h2]; rfl
example : True := by w_top off; trivial
theorem bAnd (x y : Nat) : Builtin.bitAnd (x : Int) (y : Int) = ((x &&& y : Nat) : Int) := by
  have h1 : decide (0 ≤ (x : Int)) = true := by simp
  have h2 : decide (0 ≤ (y : Int)) = true := by simp
  unfold Builtin.bitAnd
  rw [h1, h2]; rfl
theorem bOr (x y : Nat) : Builtin.bitOr (x : Int) (y : Int) = ((x ||| y : Nat) : Int) := by
  have n1 : ∀ z : Nat, decide (0 ≤ Builtin.bitNot (z : Int)) = false := fun z => decide_eq_false (by show ¬ (0 ≤ Builtin.bitNot (z : Int)); unfold Builtin.bitNot; omega)
  have n2 : ∀ z : Nat, (Builtin.bitNot (Builtin.bitNot (z : Int))) = z := fun z => by unfold Builtin.bitNot; omega
  unfold Builtin.bitOr Builtin.bitAnd
  rw [n1, n1]
  simp only [n2, Int.toNat_natCast]
theorem and65280 (n : Nat) (h : n < 65536) : n &&& 65280 = n / 256 * 256 := by
  have e1 : (65280 : Nat) = (2 ^ 8 - 1) <<< 8 := by decide
  have e2 : n / 256 * 256 = (n >>> 8) <<< 8 := by rw [Nat.shiftRight_eq_div_pow, Nat.shiftLeft_eq]
  rw [e1, e2]
  apply Nat.eq_of_testBit_eq
  intro i
  rw [Nat.testBit_and, Nat.testBit_shiftLeft, Nat.testBit_shiftLeft, Nat.testBit_two_pow_sub_one, Nat.testBit_shiftRight]
  by_cases q : 8 ≤ i
  · have e3 : 8 + (i - 8) = i := by omega
    rw [e3]
    by_cases q2 : i - 8 < 8
    · simp [q, q2]
    · have : n.testBit i = false := Nat.testBit_lt_two_pow (Nat.lt_of_lt_of_le h (by
        have : (65536 : Nat) = 2 ^ 16 := by decide
        rw [this]; exact Nat.pow_le_pow_right (by decide) (by omega)))
      simp [this]
  · simp [q]
theorem or_low (a o : Nat) (h : o < 256) : (a * 256) ||| o = a * 256 + o := by
  have := Nat.shiftLeft_add_eq_or_of_lt (b := o) (i := 8) (by simpa using h) a
  rw [Nat.shiftLeft_eq] at this
  exact this.symm
theorem and255 (n : Nat) : n &&& 255 = n % 256 := Nat.and_two_pow_sub_one_eq_mod n 8
theorem fin_all {P : Int → Prop} {n : Nat} (h : ∀ i : Fin n, P ((i.val : Nat) : Int)) (x : Int) (h0 : 0 ≤ x) (h1 : x < n) : P x := by
  have := h ⟨x.toNat, by omega⟩
  simpa [Int.toNat_of_nonneg h0] using this
theorem isDiv_high {d : UD} {e : CD} {p : PD} (h : AG d e p) : isDiv d = decide (p.bits.fdiv 128 = 1) := by
  unfold isDiv
  rw [h.ln]
  obtain ⟨a, b⟩ := h.ln0
  rw [h.ln] at a b
  exact fin_all (P := fun x => (Builtin.bitAnd x 128 != 0) = decide (x.fdiv 128 = 1)) (n := 256) (by decide +kernel) _ a b
theorem dv_low {d : UD} {e : CD} {p : PD} (h : AG d e p) : Builtin.bitAnd d.dv 255 = p.div.fmod 256 := by
  rw [h.dv, bitAnd_m8, Int.fmod_eq_emod_of_nonneg _ (by decide)]
theorem ag_due {d : UD} {e : CD} {p : PD} (h : AG d e p) : (identU d).1 = dueP p ∧ (identU d).2 = (if dueP p = 2 then { d with sent := false } else d) := by
  have hw : p.wt = [] ↔ d.wt = [] := by rw [← h.wt]; simp [octI]
  have hl : decide ((0 : Int) < d.wt.length) = !decide (p.wt = []) := by
    by_cases q : d.wt = []
    · rw [hw.mpr q, q]; rfl
    · have : 0 < d.wt.length := List.length_pos_iff.mpr q
      have q2 : ¬ p.wt = [] := fun z => q (hw.mp z)
      simp [q2]; omega
  have e1 := h.en0
  have hen : d.en = 0 ∨ d.en = 1 ∨ d.en = 2 ∨ d.en = 3 := by omega
  have b0 : Builtin.bitAnd 0 1 = 0 := by decide
  have b1 : Builtin.bitAnd 1 1 = 1 := by decide
  have b2 : Builtin.bitAnd 2 1 = 0 := by decide
  have b3 : Builtin.bitAnd 3 1 = 1 := by decide
  have c0 : Builtin.bitAnd 0 2 = 0 := by decide
  have c1 : Builtin.bitAnd 1 2 = 0 := by decide
  have c2 : Builtin.bitAnd 2 2 = 2 := by decide
  have c3 : Builtin.bitAnd 3 2 = 2 := by decide
  unfold identU hasRec tellsEmpty dueP
  rw [hl, ← h.en, ← h.sent]
  rcases hen with q | q | q | q <;> simp only [q, b0, b1, b2, b3, c0, c1, c2, c3] <;> cases d.sent <;> by_cases z : p.wt = [] <;> simp [z, Int.fmod, Int.fdiv]
theorem ag_load {d : UD} {e : CD} {p : PD} (h : AG d e p) (iv : IV d e) (pl : Int) (h0 : 0 ≤ pl) (h8 : pl < 8) : (loadU d pl).1 = (loadedP p pl).1 ∧ AG (loadU d pl).2 e (loadedP p pl).2 ∧ IV (loadU d pl).2 e ∧ (loadU d pl).2.out = d.out := by
  have hd := isDiv_high h
  have hdue := ag_due h
  have hlow := dv_low h
  unfold loadU loadedP
  rw [hd]
  by_cases p0 : pl = 0
  · rw [if_pos p0, if_pos p0]
    by_cases q : p.bits.fdiv 128 = 1
    · rw [if_pos (by simpa using q), if_pos q]
      exact ⟨hlow, h, iv, rfl⟩
    · rw [if_neg (by simpa using q), if_neg q]
      have hw := h.wt
      cases hdw : d.wt with
      | nil =>
        rw [hdw] at hw
        have hw' : p.wt = [] := hw.symm
        rw [hw']
        exact ⟨rfl, h, iv, rfl⟩
      | cons c r =>
        rw [hdw] at hw
        have hw' : p.wt = (c.toNat : Int) :: octI r := hw.symm
        rw [hw']
        refine ⟨rfl, h.wts rfl, ⟨?_, iv.sz, iv.rl, iv.rm⟩, rfl⟩
        have := iv.wt
        rw [hdw] at this
        simp only [List.length_cons] at this
        show r.length ≤ 8
        omega
  · rw [if_neg p0, if_neg p0]
    by_cases p1 : pl = 1
    · rw [if_pos p1, if_pos p1]
      refine ⟨?_, h, iv, rfl⟩
      by_cases q : p.bits.fdiv 128 = 1
      · rw [if_pos (by simpa using q), if_pos q, h.dv]
      · rw [if_neg (by simpa using q), if_neg q, h.en]
    · rw [if_neg p1, if_neg p1]
      by_cases p2 : pl = 2
      · rw [if_pos p2, if_pos p2]
        refine ⟨hdue.1, ?_, ?_, ?_⟩
        · rw [hdue.2]
          dsimp only
          by_cases q : dueP p = 2
          · rw [if_pos q, if_pos q]
            exact ⟨h.size, h.room, h.wt, h.rdy, h.line, h.out, h.outr, h.en, h.en0, h.ln, h.ln0, h.dv, h.dv0, h.lost, rfl⟩
          · rw [if_neg q, if_neg q]; exact h
        · rw [hdue.2]; split
          · exact ⟨iv.wt, iv.sz, iv.rl, iv.rm⟩
          · exact iv
        · rw [hdue.2]; split <;> rfl
      · rw [if_neg p2, if_neg p2]
        by_cases p3 : pl = 3
        · rw [if_pos p3, if_pos p3]; exact ⟨h.ln, h, iv, rfl⟩
        · rw [if_neg p3, if_neg p3]
          by_cases p5 : pl = 5
          · rw [if_pos p5, if_pos p5]
            refine ⟨?_, ⟨h.size, h.room, h.wt, h.rdy, h.line, h.out, h.outr, h.en, h.en0, h.ln, h.ln0, h.dv, h.dv0, rfl, h.sent⟩, ⟨iv.wt, iv.sz, iv.rl, iv.rm⟩, rfl⟩
            dsimp only
            rw [h.lost, ← h.wt]
            by_cases q : d.wt = []
            · rw [if_pos q, if_pos (octI_nil.mpr q)]
            · rw [if_neg q, if_neg (fun z => q (octI_nil.mp z))]
          · rw [if_neg p5, if_neg p5]; exact ⟨rfl, h, iv, rfl⟩
theorem ag_store {d : UD} {e : CD} {p : PD} (h : AG d e p) (iv : IV d e) (pl o : Int) (h0 : 0 ≤ pl) (h8 : pl < 8) (o0 : 0 ≤ o) (o256 : o < 256) : AG (storeU d pl (o + 256)) e (storedP p pl o) ∧ IV (storeU d pl (o + 256)) e ∧ (storeU d pl (o + 256)).out.length ≤ d.out.length + 1 := by
  have hd := isDiv_high h
  have hlow := dv_low h
  have eo : Builtin.bitAnd (o + 256) 255 = o := by rw [bitAnd_m8]; omega
  have e3 : Builtin.bitAnd o 3 = o.fmod 4 := by rw [bitAnd_m2, Int.fmod_eq_emod_of_nonneg _ (by decide)]
  have e2 : (Builtin.bitAnd o 2 != 0) = ((o.fdiv 2).fmod 2 == 1) := fin_all (P := fun x => (Builtin.bitAnd x 2 != 0) = ((x.fdiv 2).fmod 2 == 1)) (n := 256) (by decide +kernel) o o0 o256
  have e4 : (Builtin.bitAnd d.en 2 == 0) = (p.let_.fdiv 2 == 0) := by
    rw [← h.en]
    exact fin_all (P := fun x => (Builtin.bitAnd x 2 == 0) = (x.fdiv 2 == 0)) (n := 4) (by decide +kernel) d.en h.en0.1 h.en0.2
  have e5 : (Builtin.bitAnd o 2 ≠ 0) ↔ (o.fdiv 2).fmod 2 = 1 := by
    constructor
    · intro q
      have : (Builtin.bitAnd o 2 != 0) = true := by simpa using q
      rw [e2] at this; simpa using this
    · intro q
      have : ((o.fdiv 2).fmod 2 == 1) = true := by simpa using q
      rw [← e2] at this; simpa using this
  obtain ⟨dv0, dv1⟩ := h.dv0
  have ehi : Builtin.bitOr (Builtin.bitAnd d.dv 65280) o = p.div.fdiv 256 * 256 + o := by
    rw [← h.dv]
    obtain ⟨n, hn⟩ : ∃ n : Nat, d.dv = n := ⟨d.dv.toNat, by omega⟩
    obtain ⟨m, hm⟩ : ∃ m : Nat, o = m := ⟨o.toNat, by omega⟩
    rw [hn, hm]
    rw [hn] at dv1
    rw [hm] at o256
    show Builtin.bitOr (Builtin.bitAnd (n : Int) ((65280 : Nat) : Int)) (m : Int) = _
    rw [bAnd, bOr, and65280 n (by omega), or_low _ m (by omega), Int.fdiv_eq_ediv_of_nonneg _ (by decide)]
    omega
  have elo : Builtin.bitOr (o * 2 ^ Int.toNat 8) (Builtin.bitAnd d.dv 255) = 256 * o + p.div.fmod 256 := by
    rw [hlow, ← h.dv]
    obtain ⟨n, hn⟩ : ∃ n : Nat, d.dv = n := ⟨d.dv.toNat, by omega⟩
    obtain ⟨m, hm⟩ : ∃ m : Nat, o = m := ⟨o.toNat, by omega⟩
    rw [hn, hm, Int.fmod_eq_emod_of_nonneg _ (by decide)]
    have q : (n : Int) % 256 = ((n % 256 : Nat) : Int) := by omega
    have q2 : (m : Int) * 2 ^ Int.toNat 8 = ((m * 256 : Nat) : Int) := by
      have : (2 : Int) ^ Int.toNat 8 = 256 := by decide
      rw [this]; omega
    rw [q, q2, bOr, or_low m (n % 256) (Nat.mod_lt _ (by decide))]
    omega
  have r1 : 0 ≤ p.div.fdiv 256 * 256 + o ∧ p.div.fdiv 256 * 256 + o < 65536 := by
    rw [← h.dv, Int.fdiv_eq_ediv_of_nonneg _ (by decide)]; omega
  have r2 : 0 ≤ 256 * o + p.div.fmod 256 ∧ 256 * o + p.div.fmod 256 < 65536 := by
    rw [Int.fmod_eq_emod_of_nonneg _ (by decide)]; omega
  have r3 : 0 ≤ o.fmod 4 ∧ o.fmod 4 < 4 := by rw [Int.fmod_eq_emod_of_nonneg _ (by decide)]; omega
  unfold storeU storedP
  rw [hd, eo]
  by_cases p0 : pl = 0
  · rw [if_pos p0]
    by_cases q : p.bits.fdiv 128 = 1
    · rw [if_pos (show decide (p.bits.fdiv 128 = 1) = true by simpa using q), if_pos (show pl = 0 ∧ p.bits.fdiv 128 = 1 from ⟨p0, q⟩)]
      exact ⟨⟨h.size, h.room, h.wt, h.rdy, h.line, h.out, h.outr, h.en, h.en0, h.ln, h.ln0, ehi, by dsimp only; rw [ehi]; exact r1, h.lost, h.sent⟩, ⟨iv.wt, iv.sz, iv.rl, iv.rm⟩, by dsimp only; omega⟩
    · rw [if_neg (show ¬ (decide (p.bits.fdiv 128 = 1) = true) by simpa using q), if_neg (show ¬ (pl = 0 ∧ p.bits.fdiv 128 = 1) from fun z => q z.2), if_pos p0]
      have oa := out_app h (x := [o.toNat.toUInt8]) (y := [o]) rfl (by simp; omega)
      exact ⟨⟨h.size, h.room, h.wt, h.rdy, h.line, oa.1, oa.2, h.en, h.en0, h.ln, h.ln0, h.dv, h.dv0, h.lost, rfl⟩, ⟨iv.wt, iv.sz, iv.rl, iv.rm⟩, by dsimp only; rw [List.length_append, List.length_singleton]; omega⟩
  · rw [if_neg p0, if_neg (show ¬ (pl = 0 ∧ p.bits.fdiv 128 = 1) from fun z => p0 z.1), if_neg p0]
    by_cases p1 : pl = 1
    · rw [if_pos p1]
      by_cases q : p.bits.fdiv 128 = 1
      · rw [if_pos (show decide (p.bits.fdiv 128 = 1) = true by simpa using q), if_pos (show pl = 1 ∧ p.bits.fdiv 128 = 1 from ⟨p1, q⟩)]
        exact ⟨⟨h.size, h.room, h.wt, h.rdy, h.line, h.out, h.outr, h.en, h.en0, h.ln, h.ln0, elo, by dsimp only; rw [elo]; exact r2, h.lost, h.sent⟩, ⟨iv.wt, iv.sz, iv.rl, iv.rm⟩, by dsimp only; omega⟩
      · rw [if_neg (show ¬ (decide (p.bits.fdiv 128 = 1) = true) by simpa using q), if_neg (show ¬ (pl = 1 ∧ p.bits.fdiv 128 = 1) from fun z => q z.2), if_pos p1]
        refine ⟨⟨h.size, h.room, h.wt, h.rdy, h.line, h.out, h.outr, e3, by dsimp only; rw [e3]; exact r3, h.ln, h.ln0, h.dv, h.dv0, h.lost, ?_⟩, ⟨iv.wt, iv.sz, iv.rl, iv.rm⟩, by dsimp only; omega⟩
        dsimp only
        rw [h.sent, e4, e2]
    · rw [if_neg p1, if_neg (show ¬ (pl = 1 ∧ p.bits.fdiv 128 = 1) from fun z => p1 z.1), if_neg p1]
      by_cases p2 : pl = 2
      · rw [if_pos p2]
        by_cases q : (o.fdiv 2).fmod 2 = 1
        · rw [if_pos (e5.mpr q), if_pos (show pl = 2 ∧ (o.fdiv 2).fmod 2 = 1 from ⟨p2, q⟩)]
          exact ⟨⟨h.size, h.room, rfl, h.rdy, h.line, h.out, h.outr, h.en, h.en0, h.ln, h.ln0, h.dv, h.dv0, rfl, h.sent⟩, ⟨Nat.zero_le _, iv.sz, iv.rl, iv.rm⟩, by dsimp only; omega⟩
        · rw [if_neg (show ¬ (Builtin.bitAnd o 2 ≠ 0) from fun z => q (e5.mp z)), if_neg (show ¬ (pl = 2 ∧ (o.fdiv 2).fmod 2 = 1) from fun z => q z.2), if_neg (show ¬ pl = 3 by omega)]
          exact ⟨h, iv, by omega⟩
      · rw [if_neg p2, if_neg (show ¬ (pl = 2 ∧ (o.fdiv 2).fmod 2 = 1) from fun z => p2 z.1)]
        by_cases p3 : pl = 3
        · rw [if_pos p3, if_pos p3]
          exact ⟨⟨h.size, h.room, h.wt, h.rdy, h.line, h.out, h.outr, h.en, h.en0, rfl, ⟨o0, o256⟩, h.dv, h.dv0, h.lost, h.sent⟩, ⟨iv.wt, iv.sz, iv.rl, iv.rm⟩, by dsimp only; omega⟩
        · rw [if_neg p3, if_neg p3]; exact ⟨h, iv, by omega⟩
example : True := by w_top off; trivial
section
variable {prog : Program} {w : World} {A : Around} {E : Value → Shared → Prop} {s : Shared} {h₀ : Heap} {L D : Addr} {m : Str → Option Value} {news news' : Led} {n : Nat} {vs : List Value} {ks : List Int} {o : Obj}
theorem l_lenO {Q : Value → Shared → Prop} (N : News h₀ L s.heap news) (hm : (D, o) ∈ news) (hc : o.cls = .type "list") (hd : o.data = .seq vs.toArray n) (hi : IntsAre vs ks) (hz : ks.length ≤ 16777216) (h : Q (.int ks.length (s.toks + 1)) { s with toks := s.toks + 1 + 1 }) :
    wpAny (model prog w) A (call (.builtin "len") [.ref D]) Q E s := by
  refine call_len_list ⟨o, (N _ hm).1, hc, n, hd⟩ (by rw [List.size_toArray, hi.length]; omega) ?_
  rw [List.size_toArray, hi.length]; exact h
end
theorem nd_mid {a b c : Led} (D : (adr (a ++ (b ++ c))).Nodup) : (adr (a ++ (c ++ b))).Nodup :=
  ((List.Perm.append_left a List.perm_append_comm).map (·.1)).nodup_iff.mp D
theorem ag_said {d : UD} {e : CD} {p : PD} (h : AG d e p) : AG { d with out := [] } e { p with out := [] } :=
  ⟨h.size, h.room, h.wt, h.rdy, h.line, rfl, fun _ q => (nomatch q), h.en, h.en0, h.ln, h.ln0, h.dv, h.dv0, h.lost, h.sent⟩
theorem iv_said {d : UD} {e : CD} (h : IV d e) : IV { d with out := [] } e := ⟨h.wt, h.sz, h.rl, h.rm⟩
theorem ag_start (size room : Int) : AG ⟨size, 0, 0, 0, false, false, [], []⟩ ⟨room, [], []⟩ ⟨size, room, 0, 0, 0, 0, false, [], [], [], []⟩ :=
  ⟨rfl, rfl, rfl, rfl, rfl, rfl, fun _ q => (nomatch q), rfl, by show (0 : Int) ≤ 0 ∧ (0 : Int) < 4; decide, rfl, by show (0 : Int) ≤ 0 ∧ (0 : Int) < 256; decide, rfl, by show (0 : Int) ≤ 0 ∧ (0 : Int) < 65536; decide, rfl, rfl⟩
theorem iv_start {size room : Int} (h : size ≤ 8) (h1 : 1 ≤ room) (h2 : room ≤ 9) : IV ⟨size, 0, 0, 0, false, false, [], []⟩ ⟨room, [], []⟩ :=
  ⟨by show 0 ≤ 8; decide, h, by show ((0 : Nat) : Int) ≤ room; omega, h2⟩
theorem lap_rng {n : Nat} (h : n ≤ 63) : 0 ≤ (if 6 + (n : Int).fdiv 3 < 18 then 6 + (n : Int).fdiv 3 else 18) ∧ (if 6 + (n : Int).fdiv 3 < 18 then 6 + (n : Int).fdiv 3 else 18) ≤ 18 := by
  have : 0 ≤ (n : Int).fdiv 3 := Int.fdiv_nonneg (by omega) (by decide)
  split <;> omega
theorem nd_midM {a b c : Led} : ∀ q ∈ a ++ (b ++ c), q ∈ a ++ (c ++ b) := fun q hq => by
  rcases List.mem_append.mp hq with h | h
  · exact List.mem_append_left _ h
  · exact List.mem_append_right _ ((List.mem_append.mp h).elim (List.mem_append_right _) (List.mem_append_left _))
theorem nd_pickTN {h₀ h : Heap} {L : Addr} {led g' : Led} (_ : News h₀ L h led) (D : (adr led).Nodup) (n : Nat) (is : List Nat) (e : adr g' = is.map (fun i => (adr led).getD i 0) ++ (adr led).drop n := by rfl) (hn : is.Nodup := by decide) (hb : is.all (fun i => decide (i < n)) = true := by rfl) (hl : ((adr led).take n).length = n := by rfl) : (adr g').Nodup :=
  nd_pickT D n is hn e hb hl
theorem Leave.ixT {P : Value → Led → Prop} {s : Shared} {g' h' : Heap} {L' : Addr} {tk : Tok} {m' : Str → Option Value} {led g'' : Led} {v : Value} (n : Nat) (is : List Nat) (F : Fr g' L' h' m') (N : News g' L' h' led) (D : (adr led).Nodup) (hP : P v g'')
    (e : g'' = is.map (fun i => led.getD i default) ++ led.drop n := by rfl) (e2 : adr g'' = is.map (fun i => (adr led).getD i 0) ++ (adr led).drop n := by rfl) (hn : is.Nodup := by decide) (hb : is.all (fun i => decide (i < n)) = true := by rfl) (hl : (led.take n).length = n := by rfl) : Leave P g' L' s v { s with heap := h', toks := tk } :=
  ⟨h', tk, m', g'', rfl, F, fun p hp => N p (sub_pickT n is e hb hl p hp), nd_pickT D n is hn e2 hb (by rw [adr, ← List.map_take, List.length_map]; exact hl), hP⟩
/-- an element's end, its ledger picked by places -/
theorem CompElt.mono {h₀ : Heap} {L : Addr} {m : Str → Option Value} {D C I : Addr} {oD oC oI : Obj} {J J' : Led → Prop} {s₂ s : Shared} (h : CompElt h₀ L m D C I oD oC oI J s₂ s) (k : ∀ g, J g → J' g) : CompElt h₀ L m D C I oD oC oI J' s₂ s := by
  cases h with
  | mk h' tk led₂ F N Dn hJ => exact .mk h' tk led₂ F N Dn (k _ hJ)
theorem CompElt.ix {h₀ h' : Heap} {L : Addr} {m : Str → Option Value} {D C I : Addr} {oD oC oI : Obj} {J : Led → Prop} {s₂ : Shared} {tk : Tok} {led led₂ : Led} (n : Nat) (is : List Nat) (F : Fr h₀ L h' m) (N : News h₀ L h' led) (Dn : (adr led).Nodup) (hJ : J led₂)
    (e : (D, oD) :: (C, oC) :: (I, oI) :: led₂ = is.map (fun i => led.getD i default) ++ led.drop n := by rfl) (e2 : adr ((D, oD) :: (C, oC) :: (I, oI) :: led₂) = is.map (fun i => (adr led).getD i 0) ++ (adr led).drop n := by rfl) (hn : is.Nodup := by decide)
    (hb : is.all (fun i => decide (i < n)) = true := by rfl) (hl : (led.take n).length = n := by rfl) : CompElt h₀ L m D C I oD oC oI J s₂ { s₂ with heap := h', toks := tk } :=
  .mk h' tk led₂ F (fun p hp => N p (sub_pickT n is e hb hl p hp)) (nd_pickT Dn n is hn e2 hb (by rw [adr, ← List.map_take, List.length_map]; exact hl)) hJ
section
variable {prog : Program} {w : World} {A : Around} {s₂ : Shared} {env : Env} {h₀ : Heap}
/-- a comprehension by what an element is handed -/
theorem CompGo.intro {elt : Expr} {scope : Scope} {cl : List (Str × Addr)} {y : Str} {Q : Flow → Shared → Prop} (I : Addr) (o : Obj) (n : Nat) (P : Nat → Value → Prop) (St : Nat → Heap → Prop) (m : Str → Option Value) (led : Led) (K : Nat → List Value → (Led → Prop) → Prop)
    (Wk : Walks prog w A I [I] [I] n P St) (hsz : n ≤ 16777216) (hI : ∀ i h, St i h → ∃ o, h.get? I = some o) (hst : St 0 s₂.heap) (F : Fr h₀ env.locals s₂.heap m) (N : News h₀ env.locals s₂.heap ((I, o) :: led)) (D0 : (adr ((I, o) :: led)).Nodup) (h0 : ∀ G : Led → Prop, K 0 [] G → G led)
    (helt : ∀ i v C D oC oI c ys h₁ tk₁, i < n → P i v → ys.length ≤ i → K i ys fun led₁ => Fr h₀ env.locals h₁ m → News h₀ env.locals h₁ ((D, W.listOf (List.toArray ys) c) :: (C, oC) :: (I, oI) :: led₁) → (adr ((D, W.listOf (List.toArray ys) c) :: (C, oC) :: (I, oI) :: led₁)).Nodup →
      wpAny (model prog w) A (eval elt (compEnvC scope cl C env)) (fun yv s₄ => CompElt h₀ env.locals m D C I (W.listOf (List.toArray ys) c) oC oI (fun g => ∀ G : Led → Prop, K (i + 1) (ys ++ [yv]) G → G g) s₂ s₄) NoE { s₂ with heap := h₁, toks := tk₁ })
    (hQ : ∀ D c ys h' tk, ys.length ≤ n → K n ys fun led₁ => Fr h₀ env.locals h' (fun z => if z = y then some (.ref D) else m z) → News h₀ env.locals h' ((D, W.listOf (List.toArray ys) c) :: led₁) → (adr ((D, W.listOf (List.toArray ys) c) :: led₁)).Nodup → Q .next { s₂ with heap := h', toks := tk }) :
    CompGo prog w A h₀ env elt scope cl y Q s₂ (.ref I) :=
  .mk I o n P St m led (fun i ys g => ys.length ≤ i ∧ ∀ G : Led → Prop, K i ys G → G g) Wk hsz hI hst F N D0 ⟨Nat.le_refl _, h0⟩ (fun _ _ _ h => h.1)
    (fun i v C D oC oI c ys led₁ h₁ tk₁ hi hv hJ F N Dn => wpAny_mono (hJ.2 _ (helt i v C D oC oI c ys h₁ tk₁ hi hv hJ.1) F N Dn)
      (fun yv s₄ h => h.mono fun g hk => ⟨by rw [List.length_append, List.length_singleton]; exact Nat.succ_le_succ hJ.1, hk⟩) fun _ _ z => z)
    (fun D c ys led₁ h' tk hJ F N Dn => hJ.2 _ (hQ D c ys h' tk hJ.1) F N Dn)
end
theorem sv_go {h₀ h : Heap} {L l : Addr} {led : Led} {vs : List Value} {ns : List Int} {G : Prop} (N : News h₀ L h ((l, W.listOf (List.toArray vs) 0) :: led)) (hi : IntsAre vs ns) (k : ∀ sv, IntsAre sv ns → News h₀ L h ((l, W.listOf (List.toArray sv) 0) :: led) → G) : G := k vs hi N
theorem news_tl {h₀ h : Heap} {L : Addr} {p : Addr × Obj} {led : Led} (N : News h₀ L h (p :: led)) : News h₀ L h led := fun q hq => N q (.tail _ hq)
/-- the law's own lists and both devices: what a deed finds and leaves -/
structure DI (w : World) (pa : Addr) (b : BPh) (l : List Int) (z : PPh) (d : UD) (e : CD) (p : PD) : Prop where
  bi : IntsAre b.sv l
  bl : l.length ≤ 100
  W : PW w pa z p
  ag : AG d e p
  iv : IV d e
section
variable {w : World} {pa : Addr} {b b' : BPh} {l l' : List Int} {z z' : PPh} {d : UD} {e : CD} {p : PD}
theorem DI.pwt (h : DI w pa b l z d e p) : p.wt.length ≤ 8 := by rw [← h.ag.wt, octI_len]; exact h.iv.wt
theorem DI.pout (h : DI w pa b l z d e p) (ho : d.out = []) : p.out = [] := by
  have q := h.ag.out
  rw [ho] at q
  have q := congrArg List.length q
  simp only [octs8, List.length_map, List.length_nil] at q
  exact List.length_eq_zero_iff.mp q.symm
theorem DI.rdy (h : DI w pa b l z d e p) : p.ready.length + p.line.length ≤ 9 := by
  have h1 := h.iv.rl
  have h2 := h.iv.rm
  rw [← h.ag.rdy, ← h.ag.line, octI_len, octI_len]; omega
theorem DI.erl (h : DI w pa b l z d e p) : e.ready.length + e.line.length ≤ 9 := by
  have h1 := h.iv.rl
  have h2 := h.iv.rm
  omega
theorem DI.came (h : DI w pa b l z d e p) {ks : List Int} (hW : PW w pa z' (cameP p ks)) (hk : ∀ k ∈ ks, 0 ≤ k ∧ k < 256) (ho : d.out = []) : DI w pa b l z' (feedU d (octs8 ks)) e (cameP p ks) ∧ (feedU d (octs8 ks)).out = [] :=
  ⟨⟨h.bi, h.bl, hW, ag_came h.ag ks hk, (iv_feed h.iv (octs8 ks)).1⟩, (iv_feed h.iv (octs8 ks)).2.1.trans ho⟩
theorem DI.take (h : DI w pa b l z d e p) {q : PD} (hW : PW w pa z' q) (hq : q = takeP p.wt p) (ho : d.out = []) :
    DI w pa b l z' (takeCU d.wt (e, d)).2 (takeCU d.wt (e, d)).1 q ∧ (takeCU d.wt (e, d)).2.out.length ≤ 100000 := by
  have a := ag_take d.wt h.ag h.iv h.iv.wt
  have hw := h.iv.wt
  rw [h.ag.wt] at a
  refine ⟨⟨h.bi, h.bl, hW, hq ▸ a.1, a.2.1⟩, Nat.le_trans a.2.2 ?_⟩
  rw [ho, List.length_nil]; omega
theorem DI.read (h : DI w pa b l z d e p) {n : Nat} (hW : PW w pa z' (readP p n).2) : DI w pa b l z' d (readCU e n).2 (readP p n).2 := by
  have a := ag_read h.ag n
  refine ⟨h.bi, h.bl, hW, a.2.1, ⟨h.iv.wt, h.iv.sz, ?_, ?_⟩⟩
  · have := h.iv.rl
    rw [a.2.2.2.2, a.2.2.2.1]
    have := a.2.2.1
    omega
  · rw [a.2.2.2.2]; exact h.iv.rm
theorem DI.load (h : DI w pa b l z d e p) {n : Int} (h0 : 0 ≤ n) (h8 : n < 8) (hW : PW w pa z' (loadedP p n).2) (ho : d.out = []) : DI w pa b l z' (loadU d n).2 e (loadedP p n).2 ∧ (loadU d n).2.out.length ≤ 100000 := by
  have a := ag_load h.ag h.iv n h0 h8
  exact ⟨⟨h.bi, h.bl, hW, a.2.1, a.2.2.1⟩, by rw [a.2.2.2, ho]; decide⟩
theorem DI.store (h : DI w pa b l z d e p) {n o : Int} (h0 : 0 ≤ n) (h8 : n < 8) (o0 : 0 ≤ o) (o1 : o < 256) (hW : PW w pa z' (storedP p n o)) (ho : d.out = []) : DI w pa b l z' (storeU d n (o + 256)) e (storedP p n o) ∧ (storeU d n (o + 256)).out.length ≤ 100000 := by
  have a := ag_store h.ag h.iv n o h0 h8 o0 o1
  exact ⟨⟨h.bi, h.bl, hW, a.1, a.2.1⟩, Nat.le_trans a.2.2 (by rw [ho]; decide)⟩
theorem fig_di (w : World) (ba : Addr) (b : BPh) (k : Int) (l : List Int) (many : Int) (u : Tok) {pa : Addr} {z : PPh} {d : UD} {e : CD} {p : PD} (h : DI w pa b l z d e p) (hm : 0 < many) : Spec 1 w 241 [.ref ba, .int many u] (bLed ba b k)
    (Ret fun K => ∀ n t b' k' l', 0 ≤ n → n < many → DI w pa b' l' z d e p → K (.int n t) (bLed ba b' k')) :=
  (fig_spec w ba b k l many u h.bi h.bl hm).monoK (Nat.le_refl _) fun _ K n t b' k' l' h0 h1 hi hl => K n t b' k' l' h0 h1 ⟨hi, hl, h.W, h.ag, h.iv⟩
/-- what the loop over the octets that wait keeps -/
structure TakeI (fin q : PD) : Prop where
  b1 : q.line.length + q.ready.length + q.wt.length ≤ 30
  b2 : q.out.length + 100 * q.wt.length ≤ 1000
  rg : ∀ k ∈ q.wt, 0 ≤ k ∧ k < 256
  eq : takeP q.wt q = fin
theorem DI.takes (h : DI w pa b l z d e p) (ho : d.out = []) : TakeI (takeP p.wt p) p := by
  have h1 := h.pwt
  have h2 := h.rdy
  refine ⟨by omega, ?_, by rw [← h.ag.wt]; exact octI_rng _, rfl⟩
  rw [h.pout ho, List.length_nil]; omega
theorem TakeI.next {fin q : PD} {c : Int} {r : List Int} (h : TakeI fin q) (hw : q.wt = c :: r) : TakeI fin (typedP { q with wt := r } c) ∧ (typedP { q with wt := r } c).wt.length < q.wt.length ∧ 0 ≤ c ∧ c < 256 ∧ q.line.length + q.ready.length ≤ 1000 ∧ q.out.length ≤ 900000 := by
  obtain ⟨b1, b2, rg, eq⟩ := h
  rw [hw] at b1 b2 rg eq
  have t1 := typedP_bounds { q with wt := r } c
  have t2 := (typedP_wt { q with wt := r } c).1
  dsimp only at t1 t2
  simp only [List.length_cons] at b1 b2
  have hc := rg c (.head _)
  refine ⟨⟨by rw [t2]; omega, by rw [t2]; omega, by rw [t2]; exact fun k hk => rg k (.tail _ hk), by rw [t2]; exact eq⟩, by rw [t2, hw]; simp, hc.1, hc.2, by omega, by omega⟩
end
theorem tried_specK (w : World) (f : Addr) (fd : FuncData) (od : Option Addr) (oc : Value) (sl : Array (Option Value)) (g : Led) (K0 : (Value → Led → Prop) → Prop) (n : Nat) (hf : (f, (⟨oc, od, .func fd, sl⟩ : Obj)) ∈ g) (S : SpecS n w f [] g (Ret K0)) :
    SpecS (n + 1) w 255 [.ref f] g (Ret fun k => ∀ D t, K0 fun v0 g0 => k (.ref D) ((D, tupObj [.str "told" t, v0]) :: g0)) :=
  (tried_spec w f fd od oc sl g (Ret K0) n hf S).monoK (Nat.le_refl _) fun _ h D t _ _ hP => hP _ (h D t)
theorem ret_true {b : Bool} {g : Led} {K : (Value → Led → Prop) → Prop} (hb : b = true) (h : Ret K (.bool true) g) : Ret K (.bool b) g := by rw [hb]; exact h
theorem deed_says {w : World} {pa : Addr} {b : BPh} {l : List Int} {z : PPh} {d : UD} {e : CD} {p : PD} (h : DI w pa b l z d e p) : (decide ((0 : Int) < e.ready.length) == !decide (p.ready = [])) = true := by
  have q := take_says e.ready
  rw [h.ag.rdy] at q
  exact q
section
variable {w : World} {A : Around} {n : Nat} {s : Shared} {g' h' : Heap} {L : Addr} {m : Str → Option Value} {led : Led} {D : Addr} {x : Str} {t u : Tok} {v v' : Value} {tk : Tok} {Q : Value → Shared → Prop}
/-- two told results are alike -/
theorem told_go (N : News g' L h' led) (F : Fr g' L h' m) (hm : (D, tupObj [.str x t, v]) ∈ led) (R : Room A n) (hv : ∀ s, SeqAt.EqAt A.in1 s v v' true)
    (h : ∀ h₂, Fr g' L h₂ m → News g' L h₂ led → Q (.bool true) { s with heap := h₂, toks := tk }) :
    2 ≤ 16777216 ∧ wpAny (model PR w) A (compareOp .Eq (.ref D) (.ref h'.objs.size)) Q NoE { s with heap := h'.push (tupObj [.str x u, v']), toks := tk } :=
  ⟨by decide, eq_told (Heap.get?_push_of_some _ (N _ hm).1) (Heap.get?_push_size _ rfl) (Nat.lt_of_le_of_lt (Nat.le_add_right _ 64) (Room.line R)) (hv _) (h _ (F.push _) (news_tl (N.push F _)))⟩
end
example : True := by w_top off; trivial
abbrev dC (L : Addr) (o1 o2 o3 o4 o5 o6 o7 : Obj) : Led := [(L + 1 + 1 + 1 + 1 + 1 + 1 + 1, o1), (L + 1 + 1 + 1 + 1 + 1 + 1, o2), (L + 1 + 1 + 1 + 1 + 1, o3), (L + 1 + 1 + 1 + 1, o4), (L + 1 + 1 + 1, o5), (L + 1 + 1, o6), (L + 1, o7)]
abbrev dS (P : Params) (ua ca pa : Addr) (x : UPh) (d : UD) (y : CPh) (e : CD) (z : PPh) (ps : Array Value) (cs : Led) : Led := uLed P ua x d ++ (cLed P ca y ua e ++ (pLed pa z ++ ((299, tabObj ps) :: cs)))
theorem nd_dC {L : Addr} {o1 o2 o3 o4 o5 o6 o7 : Obj} : (adr (dC L o1 o2 o3 o4 o5 o6 o7)).Nodup := by
  show ([L + 1 + 1 + 1 + 1 + 1 + 1 + 1, L + 1 + 1 + 1 + 1 + 1 + 1, L + 1 + 1 + 1 + 1 + 1, L + 1 + 1 + 1 + 1, L + 1 + 1 + 1, L + 1 + 1, L + 1] : List Nat).Nodup
  simp [List.nodup_cons]
  omega
theorem gt_dC {L : Addr} {o1 o2 o3 o4 o5 o6 o7 : Obj} : ∀ p ∈ dC L o1 o2 o3 o4 o5 o6 o7, L < p.1 := by
  intro p hp
  simp only [List.mem_cons, List.not_mem_nil, or_false] at hp
  rcases hp with rfl | rfl | rfl | rfl | rfl | rfl | rfl <;> (show @LT.lt Nat _ _ _; dsimp only; omega)
theorem fills_P35 (w : World) : PySem.Challenge.rw_nu0085_01.row.toRowW.prog = PySem.Challenge.rw_nu0085_01.row.toRowW.prog → MineHead.hd.heap_1 w.params = MineHead.hd.heap_1 w.params := by
  k_fill
  exact fun _ => rfl

theorem deed_spec (w : World) (ba ua ca pa : Addr) (b : BPh) (k : Int) (l : List Int) (x : UPh) (d : UD) (y : CPh) (e : CD) (z : PPh) (p : PD) (ps : Array Value) (cs : Led) (I : DI w pa b l z d e p) (ho : d.out = [])
    (tb : TabOK "_law_deed_right.<locals>.<lambda>" ps cs) :
    SpecS 8 w 302 [.ref ba, .ref ua, .ref ca, .ref pa] (bLed ba b k ++ dS w.params ua ca pa x d y e z ps cs)
      (Ret fun K => ∀ b' k' l' x' d' y' e' z' p' ps' cs', DI w pa b' l' z' d' e' p' ∧ d'.out.length ≤ 100000 → TabOK "_law_deed_right.<locals>.<lambda>" ps' cs' → K (.bool true) (bLed ba b' k' ++ dS w.params ua ca pa x' d' y' e' z' ps' cs')) := by
  refine' SpecS.introC (binds := [("box", .ref ba), ("uart", .ref ua), ("console", .ref ca), ("plain", .ref pa)]) ?ho ?hcd ?hb ?hkk ?hnd ?_ ?c1 ?c2 ?c3
  case ho => k_is
  case hcd => k_is
  case hb => exact fun s X => BindsTo.of_eq rfl
  case hkk => exact rfl
  case hnd => decide
  case c1 => exact rfl
  case c2 => exact rfl
  case c3 => exact rfl
  intro A base fs s g' L' h' tk' cells mean mg mb R' F' N' D' Y' B' X' T' l1
  w_on
  refine S_letQ ?_; intro kQ0

  obtain ⟨o1, o2, o3, o4, o5, o6, o7, rfl, d1, d2, d3, d4, d5, d6, d7⟩ := PyProof.Rows.kc_seven Y'
  clear Y'
  have d7 : o7.data = .cell (some (.ref ba)) := d7
  have d6 : o6.data = .cell (some (.ref ua)) := d6
  have d5 : o5.data = .cell (some (.ref ca)) := d5
  have d4 : o4.data = .cell none := d4
  have d3 : o3.data = .cell none := d3
  have d2 : o2.data = .cell none := d2
  have d1 : o1.data = .cell none := d1
  have F' : Fr g' L' h' (fun q => if q = ("plain" : Str) then some (.ref pa) else none) := F'
  replace N' : News g' L' h' (dC L' o1 o2 o3 o4 o5 o6 o7 ++ (bLed ba b k ++ dS w.params ua ca pa x d y e z ps cs)) := N'
  replace D' : (adr (dC L' o1 o2 o3 o4 o5 o6 o7 ++ (bLed ba b k ++ dS w.params ua ca pa x d y e z ps cs))).Nodup := nd_above nd_dC gt_dC D' l1
  clear l1
  show wpS _ _ _ _ _ _
  k_steps
  refine' m_go (Spec.useK (rest := dC L' o1 o2 o3 o4 o5 o6 o7 ++ dS w.params ua ca pa x d y e z ps cs) (fig_di w ba b k l 8 _ I (by decide)) B' (by k_asm) X' T' (R'.le (by decide)) (by k_asm) (sub_pickT 23 [7, 8, 0, 1, 2, 3, 4, 5, 6, 9, 10, 11, 12, 13, 14, 15, 16, 17, 18, 19, 20, 21, 22]) (nd_pickTN (by k_asm) (by walk_at "k_nd") 23 [7, 8, 0, 1, 2, 3, 4, 5, 6, 9, 10, 11, 12, 13, 14, 15, 16, 17, 18, 19, 20, 21, 22]) ?_)
  intro way tw b1 k1 l2 w0 w8 I1; refine Back.intro ?_; intro kL h' tk F' N' D'; (try dsimp only)
  clear I
  walk1
  dsimp only
  refine S_cutK (fun G => ∀ h2 tk2 ov o4' b2 k2 l3 x2 d2 z2 p2, way ≠ 2 → Fr g' L' h2 (fun q => if q = ("octets" : Str) then ov else if q = ("way" : Str) then some (.int way tw) else if q = ("plain" : Str) then some (.ref pa) else none) →
    News g' L' h2 (bLed ba b2 k2 ++ (dC L' o1 o2 o3 o4' o5 o6 o7 ++ dS w.params ua ca pa x2 d2 y e z2 ps cs)) → (adr (bLed ba b2 k2 ++ (dC L' o1 o2 o3 o4' o5 o6 o7 ++ dS w.params ua ca pa x2 d2 y e z2 ps cs))).Nodup → DI w pa b2 l3 z2 d2 e p2 → d2.out = [] → G { s with heap := h2, toks := tk2 }) ?first ?second
  case first =>
    by_cases hw3 : way < 3
    · k_steps
      rename_i lS hS FS NS l1S
      dsimp only at NS
      refine sv_go (ns := [97, 98, 10, 8, 127, 21, 4, 13, 0, 99, 10, 97]) NS (by l_ints) fun sv hsv N1 => ?_
      clear NS
      have D1 : (adr ((lS, W.listOf (List.toArray sv) 0) :: kL)).Nodup := nd_consI D' l1S
      (refine' storeX_C ?F N1 ?c (updF_ix 6 rfl D1) d4 ?_ ?a ?b; (case a => rfl); (case b => rfl); (case F => k_asm); (case c => rfl))
      intro hC oS FC NC dS4
      replace NC : News g' L' hC ((lS, W.listOf (List.toArray sv) 0) :: (bLed ba b1 k1 ++ (dC L' o1 o2 o3 oS o5 o6 o7 ++ dS w.params ua ca pa x d y e z ps cs))) := NC
      replace D1 : (adr ((lS, W.listOf (List.toArray sv) 0) :: (bLed ba b1 k1 ++ (dC L' o1 o2 o3 oS o5 o6 o7 ++ dS w.params ua ca pa x d y e z ps cs)))).Nodup := D1
      clear N1 D' FS l1S
      k_steps
      refine m_go (wpS_of (Assign_comp_led (h₀ := g') (cl := _) (by rfl) (by rfl) (by decide) (by rfl) (by decide) (by rfl) (by rfl) (by rfl) (by intro _; rfl) ?_))
      k_steps
      refine' m_go (Spec.useK (rest := (lS, W.listOf (List.toArray sv) 0) :: (dC L' o1 o2 o3 oS o5 o6 o7 ++ dS w.params ua ca pa x d y e z ps cs)) (fig_di w ba b1 k1 l2 4 _ I1 (by decide)) B' (by k_asm) X' T' (R'.le (by decide)) (by k_asm) (sub_pickT 24 [1, 2, 0, 3, 4, 5, 6, 7, 8, 9, 10, 11, 12, 13, 14, 15, 16, 17, 18, 19, 20, 21, 22, 23]) (nd_pickTN (by k_asm) (by walk_at "k_nd") 24 [1, 2, 0, 3, 4, 5, 6, 7, 8, 9, 10, 11, 12, 13, 14, 15, 16, 17, 18, 19, 20, 21, 22, 23]) ?_)
      intro nn tn b2 k2 l3 nn0 nn4 I2; refine Back.intro ?_; intro kL h' tk F' N' D'; (try dsimp only)
      k_steps
      rename IsRange _ _ _ _ _ _ _ _ => hR
      rename Fr _ _ _ _ => FR
      rename News _ _ _ _ => NR
      refine pyIter_rng R'.handled hR (by omega) (by omega) FR NR fun I oI hI St Wk hIo hst FI NI ltI => ?_
      refine CompGo.intro I oI (1 + nn).toNat _ St _ _ (fun _ ys G => ∀ b3 k3 l4 ks, DI w pa b3 l4 z d e p → IntsAre ys ks → (∀ k ∈ ks, 0 ≤ k ∧ k < 256) → G (bLed ba b3 k3 ++ ((lS, W.listOf (List.toArray sv) 0) :: (dC L' o1 o2 o3 oS o5 o6 o7 ++ dS w.params ua ca pa x d y e z ps cs))))
        Wk (by omega) hIo hst FI NI (nd_consI (by walk_at "k_nd") ltI) (fun _ h => h b2 k2 l3 [] I2 .nil (fun k hk => nomatch hk)) ?elt ?fin
      case elt =>
        clear FI NI FR NR hR ltI hst D1 D'
        intro i v C D oC oI2 c ys h₁ tk₁ hin hP hyl b3 k3 l4 ks I3 hys hks F1 N1 D1
        refine Subscript_ (name_CC (L' + 1 + 1 + 1 + 1) oS N1 (mem_ix 9 rfl) dS4 (by rfl) (by rfl) (by rfl) (by decide) ?_)
        refine Call_ ?_
        refine' nameG_K F1 X' ?T ?e ?_ ?g ?k ?x ?d
        case T => k_asm
        case e => k_is
        case g => rfl
        case k => rfl
        case x => rfl
        case d => decide
        refine' callWith_K X' ?k ?_
        case k => k_is
        walk1
        refine (name_CC (L' + 1) o7 N1 (mem_ix 12 rfl) d7 (by rfl) (by rfl) (by rfl) (by decide) ?_)
        iterate 4 walk1
        refine Spec.useK (rest := (D, W.listOf (List.toArray ys) c) :: (C, oC) :: (I, oI2) :: (lS, W.listOf (List.toArray sv) 0) :: (dC L' o1 o2 o3 oS o5 o6 o7 ++ dS w.params ua ca pa x d y e z ps cs)) (fig_di w ba b3 k3 l4 12 _ I3 (by decide)) B' F1 X' T' (R'.le (by decide)) N1 (sub_pickT 27 [3, 4, 0, 1, 2, 5, 6, 7, 8, 9, 10, 11, 12, 13, 14, 15, 16, 17, 18, 19, 20, 21, 22, 23, 24, 25, 26]) (nd_pickT D1 27 [3, 4, 0, 1, 2, 5, 6, 7, 8, 9, 10, 11, 12, 13, 14, 15, 16, 17, 18, 19, 20, 21, 22, 23, 24, 25, 26]) ?_
        intro n4 t4 b4 k5 l5 n40 n412 I4
        refine Back.intro ?_
        intro kL h₂ tk₂ F2 N2 D2
        refine item_anyK (ns := [97, 98, 10, 8, 127, 21, 4, 13, 0, 99, 10, 97]) (News.isList N2 (mem_ix 5 rfl)) (by assumption) n40 (by simpa using n412) (by omega) (fun t5 => ?_) (by with_unfolding_all rfl)
        exact CompElt.ix 27 [2, 3, 4, 0, 1, 5, 6, 7, 8, 9, 10, 11, 12, 13, 14, 15, 16, 17, 18, 19, 20, 21, 22, 23, 24, 25, 26] F2 N2 D2 (fun _ k => k b4 k5 l5 _ I4 (ints_snoc hys _ t5) (rng_snoc hks (getD_rng (by decide) _)))
      case fin =>
        clear FI NI FR NR hR ltI hst D1 D' I1 I2
        intro D c ys h₁ tk₁ hyl b3 k3 l4 ks I3 hys hks F1 N1 D1
        have hysl := hys.length
        have hyl2 : ys.length ≤ 5 := by omega
        have hpw := I3.pwt
        k_steps
        refine' m_go (SpecS.useK (rest := bLed ba b3 k3 ++ ((lS, W.listOf (List.toArray sv) 0) :: (dC L' o1 o2 o3 oS o5 o6 o7 ++ (uLed w.params ua x d ++ (cLed w.params ca y ua e ++ ((299, tabObj ps) :: cs)))))) (came_spec w pa z p I3.W D c ys ks hys (by omega)) B' (by k_asm) X' T' (R'.le (by decide)) (by k_asm) (sub_pickT 25 [0, 19, 20, 21, 22, 23, 1, 2, 3, 4, 5, 6, 7, 8, 9, 10, 11, 12, 13, 14, 15, 16, 17, 18, 24]) (nd_pickTN (by k_asm) (by walk_at "k_nd") 25 [0, 19, 20, 21, 22, 23, 1, 2, 3, 4, 5, 6, 7, 8, 9, 10, 11, 12, 13, 14, 15, 16, 17, 18, 24]) ?_)
        intro z2 W2; refine Back.intro ?_; intro kL h' tk F' N' D'; (try dsimp only)
        have hwl : d.wt.length ≤ 8 := I3.iv.wt
        have hzb : (List.map (fun n : Int => n.toNat.toUInt8) ks).length ≤ 5 := by rw [List.length_map]; omega
        k_steps
        refine' m_go (SpecS.useK (rest := bLed ba b3 k3 ++ (dC L' o1 o2 o3 oS o5 o6 o7 ++ (cLed w.params ca y ua e ++ (pLed pa z2 ++ ((299, tabObj ps) :: cs))))) (feed_spec w ua x d _ _ (by omega)) B' (by k_asm) X' T' (R'.le (by decide)) (by k_asm) (sub_pickT 25 [16, 17, 18, 19, 6, 7, 9, 10, 11, 12, 13, 14, 15, 20, 21, 22, 23, 1, 2, 3, 4, 5, 24]) (nd_pickTN (by k_asm) (by walk_at "k_nd") 25 [16, 17, 18, 19, 6, 7, 9, 10, 11, 12, 13, 14, 15, 20, 21, 22, 23, 1, 2, 3, 4, 5, 24]) ?_)
        refine Back.intro ?_; intro kL h' tk F' N' D'; (try dsimp only)
        have IF := I3.came W2 hks ho
        clear W2 I3 N1 D1 F1
        by_cases hw2 : way = 2
        · k_steps
          (try dsimp only); (try (k_unfold; (try dsimp only)))
          refine' Leave.ixT 23 [4, 5, 0, 1, 2, 3, 13, 14, 15, 16, 17, 18, 19, 20, 21, 22] (by k_asm) (by k_asm) (by walk_at "k_nd") (fun _ K => K b3 k3 l4 x _ y e z2 _ ps cs ⟨IF.1, by rw [IF.2]; decide⟩ tb)
        · k_steps
          dsimp only
          exact Cut.go fun _ h => h _ _ _ oS b3 k3 l4 x (feedU d (octs8 ks)) z2 (cameP p ks) hw2 (by k_asm) (fun q hq => N' q (sub_pickT 23 [4, 5, 6, 7, 8, 9, 10, 11, 12, 0, 1, 2, 3, 13, 14, 15, 16, 17, 18, 19, 20, 21, 22] rfl rfl rfl q hq)) (nd_pickT D' 23 [4, 5, 6, 7, 8, 9, 10, 11, 12, 0, 1, 2, 3, 13, 14, 15, 16, 17, 18, 19, 20, 21, 22]) IF.1 IF.2
    · k_steps
      dsimp only
      exact Cut.go fun _ h => h _ _ none o4 b1 k1 l2 x d z p (by omega) (fr_none (by assumption) rfl) (by k_asm) D' I1 ho
  case second =>
    clear D' I1 ho
    intro h2 tk2 ov oS b2 k2 l3 x2 d2 z2 p2 hw2 F' N' D' I2 ho2
    show wpS _ _ _ _ _ _
    by_cases hw4 : way < 4
    · k_steps
      refine m_go (S_cons (S_While (Again.go ?_)))
      refine whileS_K (fun G => ∀ z3 p3 h3 tk3, PW w pa z3 p3 → TakeI (takeP p2.wt p2) p3 → Fr g' L' h3 (fun q => if q = ("octets" : Str) then ov else if q = ("way" : Str) then some (.int way tw) else if q = ("plain" : Str) then some (.ref pa) else none) →
        News g' L' h3 (bLed ba b2 k2 ++ (dC L' o1 o2 o3 oS o5 o6 o7 ++ dS w.params ua ca pa x2 d2 y e z3 ps cs)) → (adr (bLed ba b2 k2 ++ (dC L' o1 o2 o3 oS o5 o6 o7 ++ dS w.params ua ca pa x2 d2 y e z3 ps cs))).Nodup → G p3.wt.length { s with heap := h3, toks := tk3 }) ?turn p2.wt.length
        fun _ h => h z2 p2 _ _ I2.W (I2.takes ho2) F' N' D'
      clear F' N' D'
      intro z3 p3 h3 tk3 W3 T3 F3 N3 D3
      have W3' := W3
      obtain ⟨hd, lo, wi, oi, li, ri⟩ := W3
      obtain ⟨wl, ol, ll, rl, oo, wn, on, ln, rn, wv, ovv, lv, rv, t0, t1, t2, t3, t4, t5⟩ := z3
      obtain ⟨size, room, lost, let_, bits, div, sent, wt, out, line, ready⟩ := p3
      dsimp only [pKvs] at hd wi oi li ri
      have hrl := ri.length
      show wpS _ _ _ _ _ _
      cases wt with
      | nil =>
        obtain rfl := wi.nil_inv
        have IT := I2.take W3' T3.eq ho2
        have hrl2 := I2.erl
        have hwl := I2.iv.wt
        k_steps
        refine' m_go (SpecS.useK (rest := bLed ba b2 k2 ++ (dC L' o1 o2 o3 oS o5 o6 o7 ++ (pLed pa ⟨wl, ol, ll, rl, oo, wn, on, ln, rn, [], ovv, lv, rv, t0, t1, t2, t3, t4, t5⟩ ++ ((299, tabObj ps) :: cs)))) (take_spec w ua ca x2 y d2 e (by omega) (by rw [ho2, List.length_nil]; omega)) B' (by k_asm) X' T' (R'.le (by decide)) (by k_asm) (sub_pickT 24 [14, 15, 16, 17, 10, 11, 12, 13, 1, 2, 3, 4, 5, 6, 7, 8, 9, 18, 19, 20, 21, 22, 23]) (nd_pickTN (by k_asm) (by walk_at "k_nd") 24 [14, 15, 16, 17, 10, 11, 12, 13, 1, 2, 3, 4, 5, 6, 7, 8, 9, 18, 19, 20, 21, 22, 23]) ?_)
        intro x3 y3; refine Back.intro ?_; intro kL h' tk F' N' D'; (try dsimp only)
        k_steps
        (try dsimp only); (try (k_unfold; (try dsimp only)))
        refine' Leave.ixT 24 [9, 10, 5, 6, 7, 8, 1, 2, 3, 4, 18, 19, 20, 21, 22, 23] (by k_asm) (by k_asm) (by walk_at "k_nd") (ret_true (deed_says IT.1) fun _ K => K b2 k2 l3 x3 _ y3 _ ⟨wl, ol, ll, rl, oo, wn, on, ln, rn, [], ovv, lv, rv, t0, t1, t2, t3, t4, t5⟩ _ ps cs IT tb)
      | cons c r =>
        obtain ⟨tc, rw', rfl, hr⟩ := ints_cons wi
        obtain ⟨T4, hlt, hc0, hc1, hb1, hb2⟩ := T3.next rfl
        have hwl := hr.length
        have hwl2 : rw'.length < 16777216 := by have := T3.b1; simp only [List.length_cons] at this; omega
        clear T3
        k_steps
        refine' m_go (SpecS.useK (rest := bLed ba b2 k2 ++ (dC L' o1 o2 o3 oS o5 o6 o7 ++ (uLed w.params ua x2 d2 ++ (cLed w.params ca y ua e ++ ((299, tabObj ps) :: cs))))) (ptyped_spec w pa ⟨wl, ol, ll, rl, oo, wn + 1, on, ln, rn, rw', ovv, lv, rv, t0, t1, t2, t3, t4, t5⟩ ⟨size, room, lost, let_, bits, div, sent, r, out, line, ready⟩ ⟨hd, lo, hr, oi, li, ri⟩ c _ hc0 hc1 hb1 hb2) B' (by k_asm) X' T' (R'.le (by decide)) (by k_asm) (sub_pickT 24 [18, 19, 20, 21, 22, 1, 2, 3, 4, 5, 6, 7, 8, 9, 10, 11, 12, 13, 14, 15, 16, 17, 23]) (nd_pickTN (by k_asm) (by walk_at "k_nd") 24 [18, 19, 20, 21, 22, 1, 2, 3, 4, 5, 6, 7, 8, 9, 10, 11, 12, 13, 14, 15, 16, 17, 23]) ?_)
        intro z4 W4; refine Back.intro ?_; intro kL h' tk F' N' D'; (try dsimp only)
        k_steps
        dsimp only
        exact Round.intro hlt fun _ h => h z4 _ _ _ W4 T4 (by k_asm) (fun q hq => N' q (sub_pickT 23 [5, 6, 7, 8, 9, 10, 11, 12, 13, 14, 15, 16, 17, 18, 19, 20, 21, 0, 1, 2, 3, 4, 22] rfl rfl rfl q hq)) (nd_pickT D' 23 [5, 6, 7, 8, 9, 10, 11, 12, 13, 14, 15, 16, 17, 18, 19, 20, 21, 0, 1, 2, 3, 4, 22])
    by_cases hw6 : way < 6
    · k_steps
      refine' m_go (Spec.useK (rest := dC L' o1 o2 o3 oS o5 o6 o7 ++ dS w.params ua ca pa x2 d2 y e z2 ps cs) (fig_di w ba b2 k2 l3 6 _ I2 (by decide)) B' (by k_asm) X' T' (R'.le (by decide)) (by k_asm) (by walk_at "m_sub") D' ?_)
      intro cn tc b3 k3 l4 cn0 cn6 I3; refine Back.intro ?_; intro kL h' tk F' N' D'; (try dsimp only)
      (refine' storeX_C ?F N' ?c (updF_ix 4 rfl D') d3 ?_ ?a ?b; (case a => rfl); (case b => rfl); (case F => k_asm); (case c => rfl))
      intro hC oC FC NC dC3
      replace NC : News g' L' hC (bLed ba b3 k3 ++ (dC L' o1 o2 oC oS o5 o6 o7 ++ dS w.params ua ca pa x2 d2 y e z2 ps cs)) := NC
      replace D' : (adr (bLed ba b3 k3 ++ (dC L' o1 o2 oC oS o5 o6 o7 ++ dS w.params ua ca pa x2 d2 y e z2 ps cs))).Nodup := D'
      clear N' F'
      k_steps
      refine mk_lam2 (rest := bLed ba b3 k3 ++ (dC L' o1 o2 oC oS o5 o6 o7 ++ (uLed w.params ua x2 d2 ++ (cLed w.params ca y ua e ++ pLed pa z2)))) FC NC D' X' T' tb (by kernel_rfl) (by rfl) ?_
      intro f fo hL tkL ps2 cs2 tb2 il FL NL DL
      clear FC NC D' tb
      obtain ⟨n, rfl⟩ : ∃ n : Nat, cn = n := ⟨cn.toNat, by omega⟩
      have S : SpecS 2 w f [] ((f, fo) :: (bLed ba b3 k3 ++ (dC L' o1 o2 oC oS o5 o6 o7 ++ dS w.params ua ca pa x2 d2 y e z2 ps2 cs2))) (Ret fun k => ∀ v y', IsR v (readCU e n).1 → k v ((f, fo) :: (bLed ba b3 k3 ++ (dC L' o1 o2 oC oS o5 o6 o7 ++ dS w.params ua ca pa x2 d2 y' (readCU e n).2 z2 ps2 cs2)))) := by
        have her := I3.erl
        clear FL NL DL B' T' X' R' I3 tb2
        refine SpecS.introL il (.head _) (fun p hp => ?_) ?_
        · simp [hp]
        intro A base fs s g₂ L₂ h₂ cdv mean mg mb R' F' N' D' B' X' T' l1
        refine S_Method ?_
        k_steps
        refine' m_go (SpecS.useK (rest := (f, fo) :: (bLed ba b3 k3 ++ (dC L' o1 o2 oC oS o5 o6 o7 ++ (uLed w.params ua x2 d2 ++ (pLed pa z2 ++ ((299, tabObj ps2) :: cs2)))))) (read_spec w ua ca y e n _ (by omega) (by omega)) B' (by k_asm) X' T' (R'.le (by decide)) (by k_asm) (sub_pickT 24 [14, 15, 16, 17, 0, 1, 2, 3, 4, 5, 6, 7, 8, 9, 10, 11, 12, 13, 18, 19, 20, 21, 22, 23]) (nd_pickTN (by k_asm) (by walk_at "k_nd") 24 [14, 15, 16, 17, 0, 1, 2, 3, 4, 5, 6, 7, 8, 9, 10, 11, 12, 13, 18, 19, 20, 21, 22, 23]) ?_)
        intro v y2 hR; refine Back.intro ?_; intro kL h' tk F' N' D'; (try dsimp only)
        exact Leave.ixT 24 [4, 5, 6, 7, 8, 9, 10, 11, 12, 13, 14, 15, 16, 17, 0, 1, 2, 3, 18, 19, 20, 21, 22, 23] F' N' D' fun _ k => k v y2 hR
      obtain ⟨pm, c', ctv, oc, vs, t9, rfl, _⟩ := il
      k_steps
      refine' m_go (SpecS.use1K (tried_specK w f _ _ _ _ _ _ _ (.head _) S) B' (by k_asm) X' T' (R'.le (by decide)) (by k_asm) (by walk_at "m_sub") DL ?_)
      intro Dt tt v0 y2 hv0 h' tk F' N' D'; (try dsimp only)
      clear S
      refine S_Tuple (S_items_cons (wpS_of ?_))
      walk1
      refine S_items1 (S_Call ?_)
      k_steps
      have hrr : ∀ k ∈ p2.ready, 0 ≤ k ∧ k < 256 := by rw [← I3.ag.rdy]; exact octI_rng _
      have hrl := I3.rdy
      refine' m_go (SpecS.useK (rest := (Dt, tupObj [.str "told" tt, v0]) :: (bLed ba b3 k3 ++ (dC L' o1 o2 oC oS o5 o6 o7 ++ (uLed w.params ua x2 d2 ++ (cLed w.params ca y2 ua (readCU e n).2 ++ ((299, tabObj ps2) :: cs2)))))) (pread_spec w pa z2 p2 I3.W n _ (by omega) hrr (by omega)) B' (by k_asm) X' T' (R'.le (by decide)) (by k_asm) (sub_pickT 25 [19, 20, 21, 22, 23, 0, 2, 3, 4, 5, 6, 7, 8, 9, 10, 11, 12, 13, 14, 15, 16, 17, 18, 24]) (nd_pickTN (by k_asm) (by walk_at "k_nd") 25 [19, 20, 21, 22, 23, 0, 2, 3, 4, 5, 6, 7, 8, 9, 10, 11, 12, 13, 14, 15, 16, 17, 18, 24]) ?_)
      intro v1 z3 hv1 W3; refine Back.intro ?_; intro kL h' tk F' N' D'; (try dsimp only)
      refine told_go N' F' (mem_ix 5 rfl) R' (fun _ => eqAt_isR hv0 (by rw [(ag_read I3.ag n).1]; exact hv1)) fun hT F3 N3 => ?_
      exact Leave.ixT 24 [6, 7, 15, 16, 17, 18, 19, 20, 21, 22, 0, 1, 2, 3, 4, 23] F3 N3 D' fun _ K => K b3 k3 l4 x2 d2 y2 _ z3 _ ps2 cs2 ⟨I3.read W3, by rw [ho2]; decide⟩ tb2
    have hway : way = 6 ∨ way = 7 := by omega
    k_steps
    refine' m_go (Spec.useK (rest := dC L' o1 o2 o3 oS o5 o6 o7 ++ dS w.params ua ca pa x2 d2 y e z2 ps cs) (fig_di w ba b2 k2 l3 8 _ I2 (by decide)) B' (by k_asm) X' T' (R'.le (by decide)) (by k_asm) (by walk_at "m_sub") D' ?_)
    intro pl tp b3 k3 l4 pl0 pl8 I3; refine Back.intro ?_; intro kL h' tk F' N' D'; (try dsimp only)
    clear I2
    k_steps
    refine' m_go (Spec.useK (rest := dC L' o1 o2 o3 oS o5 o6 o7 ++ dS w.params ua ca pa x2 d2 y e z2 ps cs) (fig_di w ba b3 k3 l4 256 _ I3 (by decide)) B' (by k_asm) X' T' (R'.le (by decide)) (by k_asm) (by walk_at "m_sub") D' ?_)
    intro oc to b4 k4 l5 oc0 oc256 I4; refine Back.intro ?_; intro kL h' tk F' N' D'; (try dsimp only)
    clear I3
    iterate 5 walk1
    rename News _ _ _ _ => NT
    replace NT : News g' L' _ (bLed ba b4 k4 ++ (dC L' o1 o2 o3 oS o5 o6 o7 ++ dS w.params ua ca pa x2 d2 y e z2 ps cs)) := news_tl NT
    (refine' storeX_C ?F NT ?c (updF_ix 2 rfl D') d1 ?_ ?a ?b; (case a => rfl); (case b => rfl); (case F => k_asm); (case c => rfl))
    intro hC oP FC NC dP
    replace NC : News g' L' hC (bLed ba b4 k4 ++ (dC L' oP o2 o3 oS o5 o6 o7 ++ dS w.params ua ca pa x2 d2 y e z2 ps cs)) := NC
    replace D' : (adr (bLed ba b4 k4 ++ (dC L' oP o2 o3 oS o5 o6 o7 ++ dS w.params ua ca pa x2 d2 y e z2 ps cs))).Nodup := D'
    clear NT
    iterate 2 walk1
    (refine' storeX_C ?F NC ?c (updF_ix 3 rfl D') (show o2.data = .cell none by assumption) ?_ ?a ?b; (case a => rfl); (case b => rfl); (case F => k_asm); (case c => rfl))
    intro hO oO FO NO dO
    replace NO : News g' L' hO (bLed ba b4 k4 ++ (dC L' oP oO o3 oS o5 o6 o7 ++ dS w.params ua ca pa x2 d2 y e z2 ps cs)) := NO
    replace D' : (adr (bLed ba b4 k4 ++ (dC L' oP oO o3 oS o5 o6 o7 ++ dS w.params ua ca pa x2 d2 y e z2 ps cs))).Nodup := D'
    clear NC FC
    walk1
    have hpw := I4.pwt
    rcases hway with hw | hw
    · k_steps
      refine mk_lam2 (rest := bLed ba b4 k4 ++ (dC L' oP oO o3 oS o5 o6 o7 ++ (uLed w.params ua x2 d2 ++ (cLed w.params ca y ua e ++ pLed pa z2)))) FO NO D' X' T' tb (by kernel_rfl) (by rfl) ?_
      intro f fo hL tkL ps2 cs2 tb2 il FL NL DL
      clear FO NO D' tb
      have S : SpecS 4 w f [] ((f, fo) :: (bLed ba b4 k4 ++ (dC L' oP oO o3 oS o5 o6 o7 ++ dS w.params ua ca pa x2 d2 y e z2 ps2 cs2))) (Ret fun k => ∀ t x', k (.int (loadU d2 pl).1 t) ((f, fo) :: (bLed ba b4 k4 ++ (dC L' oP oO o3 oS o5 o6 o7 ++ dS w.params ua ca pa x' (loadU d2 pl).2 y e z2 ps2 cs2)))) := by
        have ivw := I4.iv.wt
        clear FL NL DL B' T' X' R' I4 tb2
        refine SpecS.introL il (.head _) (fun p hp => ?_) ?_
        · simp [hp]
        intro A base fs s g₂ L₂ h₂ cdv mean mg mb R' F' N' D' B' X' T' l1
        refine wpS_of ?_
        k_steps
        refine' m_go (Spec.useK (rest := (f, fo) :: (bLed ba b4 k4 ++ (dC L' oP oO o3 oS o5 o6 o7 ++ (cLed w.params ca y ua e ++ (pLed pa z2 ++ ((299, tabObj ps2) :: cs2)))))) (load_spec w ua x2 d2 pl _ _ (by omega) pl0 pl8) B' (by k_asm) X' T' (R'.le (by decide)) (by k_asm) (sub_pickT 24 [10, 11, 12, 13, 0, 1, 2, 3, 4, 5, 6, 7, 8, 9, 14, 15, 16, 17, 18, 19, 20, 21, 22, 23]) (nd_pickTN (by k_asm) (by walk_at "k_nd") 24 [10, 11, 12, 13, 0, 1, 2, 3, 4, 5, 6, 7, 8, 9, 14, 15, 16, 17, 18, 19, 20, 21, 22, 23]) ?_)
        intro t7 x3; refine Back.intro ?_; intro kL h' tk F' N' D'; (try dsimp only)
        exact Leave.ixT 24 [4, 5, 6, 7, 8, 9, 10, 11, 12, 13, 0, 1, 2, 3, 14, 15, 16, 17, 18, 19, 20, 21, 22, 23] F' N' D' fun _ k => k t7 x3
      obtain ⟨pm, c', ctv, oc9, vs, t9, rfl, _⟩ := il
      k_steps
      refine' m_go (SpecS.use1K (tried_specK w f _ _ _ _ _ _ _ (.head _) S) B' (by k_asm) X' T' (R'.le (by decide)) (by k_asm) (by walk_at "m_sub") DL ?_)
      intro Dt tt t7 x3 h' tk F' N' D'; (try dsimp only)
      clear S
      refine S_Tuple (S_items_cons (wpS_of ?_))
      walk1
      refine S_items1 (S_Call ?_)
      k_steps
      refine' m_go (SpecS.useK (rest := (Dt, tupObj [.str "told" tt, .int (loadU d2 pl).1 t7]) :: (bLed ba b4 k4 ++ (dC L' oP oO o3 oS o5 o6 o7 ++ (uLed w.params ua x3 (loadU d2 pl).2 ++ (cLed w.params ca y ua e ++ ((299, tabObj ps2) :: cs2)))))) (ploaded_spec w pa z2 p2 I4.W pl _ (by omega)) B' (by k_asm) X' T' (R'.le (by decide)) (by k_asm) (sub_pickT 25 [19, 20, 21, 22, 23, 0, 2, 3, 4, 5, 6, 7, 8, 9, 10, 11, 12, 13, 14, 15, 16, 17, 18, 24]) (nd_pickTN (by k_asm) (by walk_at "k_nd") 25 [19, 20, 21, 22, 23, 0, 2, 3, 4, 5, 6, 7, 8, 9, 10, 11, 12, 13, 14, 15, 16, 17, 18, 24]) ?_)
      intro t8 z3 W3; refine Back.intro ?_; intro kL h' tk F' N' D'; (try dsimp only)
      refine told_go N' F' (mem_ix 5 rfl) R' (fun _ => eqAt_int (ag_load I4.ag I4.iv pl pl0 pl8).1) fun hT F3 N3 => ?_
      exact Leave.ixT 24 [6, 7, 15, 16, 17, 18, 19, 20, 21, 22, 0, 1, 2, 3, 4, 23] F3 N3 D' fun _ K => K b4 k4 l5 x3 _ y e z3 _ ps2 cs2 (I4.load pl0 pl8 W3 ho2) tb2
    · have hpo2 : p2.out.length ≤ 900000 := by rw [I4.pout ho2]; decide
      k_steps
      refine' m_go (SpecS.useK (rest := bLed ba b4 k4 ++ (dC L' oP oO o3 oS o5 o6 o7 ++ (uLed w.params ua x2 d2 ++ (cLed w.params ca y ua e ++ ((299, tabObj ps) :: cs))))) (pstored_spec w pa z2 p2 I4.W pl oc _ _ hpo2) B' (by k_asm) X' T' (R'.le (by decide)) (by k_asm) (sub_pickT 23 [17, 18, 19, 20, 21, 0, 1, 2, 3, 4, 5, 6, 7, 8, 9, 10, 11, 12, 13, 14, 15, 16, 22]) (nd_pickTN (by k_asm) (by walk_at "k_nd") 23 [17, 18, 19, 20, 21, 0, 1, 2, 3, 4, 5, 6, 7, 8, 9, 10, 11, 12, 13, 14, 15, 16, 22]) ?_)
      intro z3 W3; refine Back.intro ?_; intro kL h' tk F' N' D'; (try dsimp only)
      have NS : News g' L' _ (bLed ba b4 k4 ++ (dC L' oP oO o3 oS o5 o6 o7 ++ dS w.params ua ca pa x2 d2 y e z3 ps cs)) := fun q hq => N' q (sub_pickT 23 [5, 6, 7, 8, 9, 10, 11, 12, 13, 14, 15, 16, 17, 18, 19, 20, 21, 0, 1, 2, 3, 4, 22] rfl rfl rfl q hq)
      have DS := nd_pickT (g' := bLed ba b4 k4 ++ (dC L' oP oO o3 oS o5 o6 o7 ++ dS w.params ua ca pa x2 d2 y e z3 ps cs)) D' 23 [5, 6, 7, 8, 9, 10, 11, 12, 13, 14, 15, 16, 17, 18, 19, 20, 21, 0, 1, 2, 3, 4, 22]
      clear NO N' D'
      k_steps
      refine mk_lam2 (rest := bLed ba b4 k4 ++ (dC L' oP oO o3 oS o5 o6 o7 ++ (uLed w.params ua x2 d2 ++ (cLed w.params ca y ua e ++ pLed pa z3)))) (by k_asm) NS DS X' T' tb (by kernel_rfl) (by rfl) ?_
      intro f fo hL tkL ps2 cs2 tb2 il FL NL DL
      have S : SpecS 3 w f [] ((f, fo) :: (bLed ba b4 k4 ++ (dC L' oP oO o3 oS o5 o6 o7 ++ dS w.params ua ca pa x2 d2 y e z3 ps2 cs2))) (Ret fun k => ∀ x', k .none ((f, fo) :: (bLed ba b4 k4 ++ (dC L' oP oO o3 oS o5 o6 o7 ++ dS w.params ua ca pa x' (storeU d2 pl (oc + 256)) y e z3 ps2 cs2)))) := by
        clear FL NL DL NS DS B' T' X' R' F' I4 tb tb2
        refine SpecS.introL il (.head _) (fun p hp => ?_) ?_
        · simp [hp]
        intro A base fs s g₂ L₂ h₂ cdv mean mg mb R' F' N' D' B' X' T' l1
        refine S_Method ?_
        k_steps
        refine' m_go (SpecS.useK (rest := (f, fo) :: (bLed ba b4 k4 ++ (dC L' oP oO o3 oS o5 o6 o7 ++ (cLed w.params ca y ua e ++ (pLed pa z3 ++ ((299, tabObj ps2) :: cs2)))))) (store_spec w ua x2 d2 pl (oc + 256) _ _ _ (by rw [ho2]; decide) pl0 pl8) B' (by k_asm) X' T' (R'.le (by decide)) (by k_asm) (sub_pickT 24 [10, 11, 12, 13, 0, 1, 2, 3, 4, 5, 6, 7, 8, 9, 14, 15, 16, 17, 18, 19, 20, 21, 22, 23]) (nd_pickTN (by k_asm) (by walk_at "k_nd") 24 [10, 11, 12, 13, 0, 1, 2, 3, 4, 5, 6, 7, 8, 9, 14, 15, 16, 17, 18, 19, 20, 21, 22, 23]) ?_)
        intro x3; refine Back.intro ?_; intro kL h' tk F' N' D'; (try dsimp only)
        exact Leave.ixT 24 [4, 5, 6, 7, 8, 9, 10, 11, 12, 13, 0, 1, 2, 3, 14, 15, 16, 17, 18, 19, 20, 21, 22, 23] F' N' D' fun _ k => k x3
      obtain ⟨pm, c', ctv, oc9, vs, t9, rfl, _⟩ := il
      k_steps
      refine' m_go (SpecS.use1K (tried_specK w f _ _ _ _ _ _ _ (.head _) S) B' (by k_asm) X' T' (R'.le (by decide)) (by k_asm) (by walk_at "m_sub") DL ?_)
      intro Dt tt x3 h' tk F' N' D'; (try dsimp only)
      clear S
      refine S_Tuple (S_items_cons (wpS_of ?_))
      walk1
      refine S_items1 (wpS_of ?_)
      walk1
      refine told_go N' F' (mem_ix 0 rfl) R' (fun _ => SeqAt.EqAt.same _) fun hT F3 N3 => ?_
      exact Leave.ixT 25 [2, 3, 11, 12, 13, 14, 15, 16, 17, 18, 19, 20, 21, 22, 23, 24] F3 N3 D' fun _ K => K b4 k4 l5 x3 _ y e z3 _ ps2 cs2 (I4.store pl0 pl8 oc0 oc256 W3 ho2) tb2
example : True := by w_top off; trivial
abbrev frs (l : List Env) : List Addr := l.filterMap (·.frame)
/-- the frames' objects slid (in their slots alone), those of X aside, the rest is kept -/
structure Slid (S X : List Addr) (h h' : Heap) : Prop where
  keep : ∀ b o, h.get? b = some o → b ∉ S → b ∉ X → h'.get? b = some o
  slid : ∀ b o, h.get? b = some o → b ∈ S → b ∉ X → ∃ sl, h'.get? b = some { o with slots := sl }
theorem Slid.up {S X : List Addr} {h h' : Heap} (x : Slid S X h h') {b : Addr} {o : Obj} (e : h.get? b = some o) (n : b ∉ X) : ∃ sl, h'.get? b = some { o with slots := sl } := by
  by_cases m : b ∈ S
  · exact x.slid b o e m n
  · exact ⟨o.slots, x.keep b o e m n⟩
theorem Slid.trans {S X : List Addr} {h h₁ h₂ : Heap} (x : Slid S X h h₁) (y : Slid S X h₁ h₂) : Slid S X h h₂ :=
  ⟨fun b o e m n => y.keep b o (x.keep b o e m n) m n, fun b o e m n => by
    obtain ⟨s1, h1⟩ := x.slid b o e m n
    obtain ⟨s2, h2⟩ := y.slid b _ h1 m n
    exact ⟨s2, h2⟩⟩
theorem Slid.mono {S X Y : List Addr} {h h' : Heap} (x : Slid S X h h') (i : ∀ b, b ∈ X → b ∈ Y) : Slid S Y h h' :=
  ⟨fun b o e m n => x.keep b o e m fun q => n (i b q), fun b o e m n => x.slid b o e m fun q => n (i b q)⟩
theorem Slid.wide {S X : List Addr} {h h' : Heap} (x : Slid [] X h h') : Slid S X h h' :=
  ⟨fun b o e m n => x.keep b o e (by simp) n, fun b o e m n => ⟨o.slots, x.keep b o e (by simp) n⟩⟩
/-- what was not there may be left out -/
theorem Slid.drop {S X : List Addr} {h h' : Heap} {T : Addr} (x : Slid S (T :: X) h h') (e : h.get? T = none) : Slid S X h h' :=
  ⟨fun b o q m n => x.keep b o q m (by intro z; rcases List.mem_cons.mp z with r | r; (rw [r, e] at q; cases q); exact n r),
   fun b o q m n => x.slid b o q m (by intro z; rcases List.mem_cons.mp z with r | r; (rw [r, e] at q; cases q); exact n r)⟩
theorem frames_at {base h h' : Heap} : ∀ {l : List Env} (_ : h.FunFrames base l) (_ : ∀ b ∈ frs l, ∀ o, h.get? b = some o → ∃ o', h'.get? b = some o' ∧ o'.data = o.data), h'.FunFrames base l
  | [], _, _ => trivial
  | env :: rest, ⟨hk, ⟨L, o, hf, hn, ho, hd⟩, hr⟩, k => by
    have e1 : L ∈ frs (env :: rest) := by
      rw [frs, List.filterMap_cons, hf]; exact List.mem_cons_self
    obtain ⟨o', ho', hd'⟩ := k L e1 o ho
    exact ⟨hk, ⟨L, o', hf, hn, ho', fun vs => hd' ▸ hd vs⟩, frames_at hr fun b hb => k b (by rw [frs, List.filterMap_cons, hf]; exact List.mem_cons_of_mem _ hb)⟩

/-- newer than all that was there -/
def Over (h : Heap) (T : Addr) : Prop := ∀ b o, h.get? b = some o → @LT.lt Nat _ b T
theorem Over.none {h : Heap} {T : Addr} (x : Over h T) : h.get? T = none := by
  cases q : h.get? T with
  | none => rfl
  | some o => exact absurd (x _ _ q) (Nat.lt_irrefl _)
/-- an exception with its traceback -/
structure ExcAt (h : Heap) (e T : Addr) (c : Value) (dd : Option Addr) (fl : Value) : Prop where
  exc : ∃ oe vs, h.get? e = some oe ∧ oe.cls = c ∧ oe.dict = dd ∧ oe.data = .fields vs ∧ vs[1]? = some (.ref T)
  tb : ∃ oT ts, h.get? T = some oT ∧ oT.data = .fields ts ∧ ts[3]? = some fl
  ne : T ≠ e
theorem ExcAt.keeps {h h' : Heap} {e T : Addr} {c : Value} {dd : Option Addr} {fl : Value} (x : ExcAt h e T c dd fl) (k : ∀ b o, h.get? b = some o → h'.get? b = some o) : ExcAt h' e T c dd fl := by
  obtain ⟨⟨oe, vs, a, b⟩, ⟨oT, ts, c, d⟩, n⟩ := x
  exact ⟨⟨oe, vs, k _ _ a, b⟩, ⟨oT, ts, k _ _ c, d⟩, n⟩
section
variable {M : Model} {A : Around} {E : Value → Shared → Prop} {s : Shared} {base : Heap} {env : Env} {outer : List Env} {L e T : Addr} {oe : Obj} {vs : Array Value} {c : Value} {dd : Option Addr} {fl : Value} {Q : Unit → Shared → Prop}
theorem dict_mapFields (o : Obj) (f : Array Value → Array Value) : (o.mapFields f).dict = o.dict := by
  obtain ⟨_, _, dt, _⟩ := o
  cases dt <;> rfl
theorem x_entry {head : Value} {hadNext : Bool} (hfr : A.frames = some (env :: outer)) (hl : s.heap.FunFrames base (env :: outer)) (hf : env.frame = some L) (he : s.heap.get? e = some oe) (hd : oe.data = .fields vs) (hsz : 1 < vs.size)
    (h : ∀ h' T, Over s.heap T → ExcAt h' e T oe.cls oe.dict (rawInt L) → Slid (frs (env :: outer)) [e] s.heap h' → Q () { s with heap := h' }) :
    wpAny M A (do let a ← frameOf env; let pl ← entryPlaceOf L hadNext; let b ← EntryCells.newEntry head a .none (rawInt L) .none pl; setField (.ref e) 1 b) Q E s := by
  have hene : e ∉ (env :: outer).filterMap (·.frame) := fun hm => by
    obtain ⟨_, o, ho, hnf⟩ := hl.mem hm
    rw [he] at ho; cases ho; exact hnf vs hd
  refine wpAny_bind (wpAny_frameOf_fun hfr hl hf fun h₁ hs₁ => ?_)
  refine wpAny_bind (wpAny_entryPlaceOf fun pl hpl => ?_)
  unfold EntryCells.newEntry newFields
  refine wpAny_bind (wpAny_newObj_type ?_ (hpl.sizeOk5 _ _ _ _ _))
  have he₁ : h₁.get? e = some oe := (hs₁.2.1 e hene).trans he
  generalize htb : ({ cls := .type "traceback", dict := none, data := .fields ([head, .ref L, .none, rawInt L, .none] ++ (if pl.isEmpty then List.replicate 6 Value.none else pl)).toArray } : Obj) = tb
  have htd : ∃ ts, tb.data = .fields ts ∧ ts[3]? = some (rawInt L) := ⟨_, by rw [← htb], by rcases hpl with rfl | ⟨_, _, _, _, _, _, _, rfl⟩ <;> simp⟩
  have he₂ := Heap.get?_push_of_some (h := h₁) tb he₁
  have hTe : h₁.objs.size ≠ e := Nat.ne_of_gt (Heap.lt_size he₁)
  obtain ⟨ts, ht1, ht2⟩ := htd
  refine wpAny_setField he₂ hd hsz (h _ h₁.objs.size ?_ ⟨⟨_, _, Heap.get?_update_self _ he₂ (Obj.isFreed_of_fields (Obj.data_mapFields hd _)), Obj.cls_mapFields _ _, dict_mapFields _ _, Obj.data_mapFields hd _, by simp [hsz]⟩, ⟨tb, ts, ?_, ht1, ht2⟩, hTe⟩ ⟨fun b o q m n => ?_, fun b o q m n => ?_⟩)
  · intro b o q
    rw [hs₁.1]
    exact Heap.lt_size q
  · rw [Heap.get?_update_other _ _ (Ne.symm hTe)]
    refine Heap.get?_push_size h₁ ?_
    obtain ⟨_, _, dt, _⟩ := tb
    cases dt <;> first | rfl | cases ht1
  · rw [Heap.get?_update_other _ _ (fun z : e = b => n (by simp [z]))]
    exact Heap.get?_push_of_some _ ((hs₁.2.1 b m).trans q)
  · obtain ⟨sl, hs⟩ := hs₁.2.2 b o q
    refine ⟨sl, ?_⟩
    rw [Heap.get?_update_other _ _ (fun z : e = b => n (by simp [z]))]
    exact Heap.get?_push_of_some _ hs

theorem x_note_first (hfr : A.frames = some (env :: outer)) (hl : s.heap.FunFrames base (env :: outer)) (hf : env.frame = some L) (he : s.heap.get? e = some oe) (hd : oe.data = .fields vs) (h1 : vs[1]? = some .none)
    (h : ∀ h' T, Over s.heap T → ExcAt h' e T oe.cls oe.dict (rawInt L) → Slid (frs (env :: outer)) [e] s.heap h' → Q () { s with heap := h' }) : wpAny M A (noteFrame (.ref e) env) Q E s := by
  unfold noteFrame
  simp only [hf]
  refine wpAny_bind (wpAny_field he hd h1 ?_)
  rw [if_neg (by decide)]
  exact x_entry hfr hl hf he hd (Array.getElem?_eq_some_iff.mp h1).1 h

theorem x_note_next (hfr : A.frames = some (env :: outer)) (hl : s.heap.FunFrames base (env :: outer)) (hf : env.frame = some L) (x : ExcAt s.heap e T c dd .none)
    (h : ∀ h' T', Over s.heap T' → ExcAt h' e T' c dd (rawInt L) → Slid (frs (env :: outer)) [e, T] s.heap h' → Q () { s with heap := h' }) : wpAny M A (noteFrame (.ref e) env) Q E s := by
  obtain ⟨⟨oe, vs, he, rfl, rfl, hd, h1⟩, ⟨oT, ts, hT, hdT, h3⟩, hTe⟩ := x
  unfold noteFrame
  simp only [hf]
  refine wpAny_bind (wpAny_field he hd h1 ?_)
  rw [if_pos (show (Value.ref T != Value.none) = true from by simp)]
  refine wpAny_bind (wpAny_field hT hdT h3 ?_)
  rw [if_neg (show ¬ ((Value.none == rawInt L) = true) from by simp [rawInt])]
  refine wpAny_bind (wpAny_setField hT hdT (Array.getElem?_eq_some_iff.mp h3).1 ?_)
  have other : ∀ b, b ≠ T → (s.heap.update T (Obj.mapFields (·.setIfInBounds 3 Value.none))).get? b = s.heap.get? b := fun b hb => Heap.get?_update_other _ _ (Ne.symm hb)
  have nT : T ∉ frs (env :: outer) := fun hm => by
    obtain ⟨_, o, ho, hnf⟩ := hl.mem hm
    rw [hT] at ho; cases ho; exact hnf ts hdT
  refine x_entry (base := base) hfr (frames_at hl fun b hb o ho => ⟨o, (other b (fun q => nT (q ▸ hb))).trans ho, rfl⟩) hf ((other e (Ne.symm hTe)).trans he) hd (Array.getElem?_eq_some_iff.mp h1).1 fun h' T' hT' x' sl => ?_
  refine h h' T' ?_ x' ⟨fun b o q m n => sl.keep b o ((other b (fun z => n (by simp [z]))).trans q) m (fun z => n (by simp at z; simp [z])), fun b o q m n => sl.slid b o ((other b (fun z => n (by simp [z]))).trans q) m (fun z => n (by simp at z; simp [z]))⟩
  intro b o q
  by_cases z : b = T
  · subst z
    exact hT' _ _ (Heap.get?_update_self (Obj.mapFields (·.setIfInBounds 3 Value.none)) hT (Obj.isFreed_of_fields (Obj.data_mapFields hdT _)))
  · exact hT' _ _ ((other b z).trans q)

theorem x_flight (x : ExcAt s.heap e T c dd fl) (h : ∀ h', ExcAt h' e T c dd .none → Slid [] [T] s.heap h' → Q () { s with heap := h' }) : wpAny M A (setFlight (.ref e) none) Q E s := by
  obtain ⟨⟨oe, vs, he, rfl, rfl, hd, h1⟩, ⟨oT, ts, hT, hdT, h3⟩, hTe⟩ := x
  have hsz3 : 3 < ts.size := (Array.getElem?_eq_some_iff.mp h3).1
  have other : ∀ b, b ≠ T → (s.heap.update T (Obj.mapFields (·.setIfInBounds 3 ((none : Option Addr).elim Value.none fun f => rawInt f)))).get? b = s.heap.get? b :=
    fun b hb => Heap.get?_update_other _ _ (Ne.symm hb)
  unfold setFlight
  refine wpAny_bind (wpAny_field he hd h1 ?_)
  rw [if_pos (show (Value.ref T != Value.none) = true from by simp)]
  refine wpAny_setField hT hdT hsz3 (h _ ⟨⟨oe, vs, (other e (Ne.symm hTe)).trans he, rfl, rfl, hd, h1⟩, ⟨_, _, Heap.get?_update_self _ hT (Obj.isFreed_of_fields (Obj.data_mapFields hdT _)), Obj.data_mapFields hdT _, by simp [hsz3]⟩, hTe⟩ ⟨fun b o q m n => ?_, fun b o q m n => by simp at m⟩)
  exact (other b fun z => n (by simp [z])).trans q

theorem x_leave_first (hfr : A.frames = some (env :: outer)) (hl : s.heap.FunFrames base (env :: outer)) (hf : env.frame = some L) (he : s.heap.get? e = some oe) (hd : oe.data = .fields vs) (h1 : vs[1]? = some .none)
    (h : ∀ h' T, Over s.heap T → ExcAt h' e T oe.cls oe.dict .none → Slid (frs (env :: outer)) [e] s.heap h' → Q () { s with heap := h' }) : wpAny M A (leaving env (.ref e)) Q E s := by
  unfold leaving
  refine wpAny_bind (x_note_first hfr hl hf he hd h1 fun h₁ T hT x sl => ?_)
  exact x_flight (s := { s with heap := h₁ }) x fun h₂ x₂ sl₂ => h h₂ T hT x₂ (((sl.mono fun b q => List.mem_cons_of_mem T q).trans (sl₂.wide.mono fun b q => by simp at q; simp [q])).drop hT.none)
theorem x_leave_next (hfr : A.frames = some (env :: outer)) (hl : s.heap.FunFrames base (env :: outer)) (hf : env.frame = some L) (x : ExcAt s.heap e T c dd .none)
    (h : ∀ h' T', Over s.heap T' → ExcAt h' e T' c dd .none → Slid (frs (env :: outer)) [e, T] s.heap h' → Q () { s with heap := h' }) : wpAny M A (leaving env (.ref e)) Q E s := by
  unfold leaving
  refine wpAny_bind (x_note_next hfr hl hf x fun h₁ T' hT x sl => ?_)
  exact x_flight (s := { s with heap := h₁ }) x fun h₂ x₂ sl₂ => h h₂ T' hT x₂ (((sl.mono fun b q => List.mem_cons_of_mem T' q).trans (sl₂.wide.mono fun b q => by simp at q; simp [q])).drop hT.none)
end
example : True := by w_top off; trivial
structure PostE (fs : List Env) (h : Heap) (g : Led) (h' : Heap) (g' : Led) (e T : Addr) (c : Value) (dd : Option Addr) : Prop where
  sl : Slid (frs fs) (adr g) h h'
  got : ∀ p ∈ g', h'.get? p.1 = some p.2
  new : ∀ p ∈ g', p.1 ∈ adr g ∨ h.get? p.1 = none
  dj : (adr g').Nodup
  exc : ExcAt h' e T c dd .none
  fe : Over h e
  fT : Over h T
  ne : e ∉ adr g'
  nT : T ∉ adr g'
/-- what a call of a def does: it raises -/
def SpecE (n : Nat) (w : World) (f : Addr) (args : List Value) (g : Led) (c : Value) (Pe : Option Addr → Led → Prop) : Prop :=
  ∀ (A : Around) (base : Heap) (fs : List Env) (s : Shared) (R : Result → Shared → Prop), Pre w A base fs n s g →
    (∀ e T dd g' h' tk, Pe dd g' → PostE fs s.heap g h' g' e T c dd → R (.error (.ref e)) { s with heap := h', toks := tk }) → codeAny (model PR w) A (.call (.ref f) ⟨args, []⟩) R s
/-- an exception is raised here -/
def Away (Pe : Option Addr → Led → Prop) (c : Value) (g' : Heap) (L' : Addr) (s : Shared) (v : Value) (s' : Shared) : Prop :=
  ∃ e oe vs h' tk m' g'', v = .ref e ∧ s' = { s with heap := h', toks := tk } ∧ @LT.lt Nat _ L' e ∧ Fr g' L' h' m' ∧ News g' L' h' ((e, oe) :: g'') ∧ (adr ((e, oe) :: g'')).Nodup ∧ oe.cls = c ∧ oe.data = .fields vs ∧ vs[1]? = some .none ∧ Pe oe.dict g''
section
variable {w : World} {A : Around} {base g' h : Heap} {fs : List Env} {n : Nat} {s : Shared} {g led : Led} {L : Addr} {m : Str → Option Value} {env : Env}
theorem frs_ground (B : Below A base fs g') {b : Addr} (hb : b ∈ frs fs) : ∃ o, g'.get? b = some o := let ⟨_, o, ho, _⟩ := B.frames.mem hb; ⟨o, ho⟩
theorem frs_cons (hf : env.frame = some L) {b : Addr} : b ∈ frs (env :: fs) ↔ b = L ∨ b ∈ frs fs := by
  rw [frs, List.filterMap_cons, hf]; exact List.mem_cons
theorem frs_news (F : Fr g' L h m) (B : Below A base fs g') (N : News g' L h led) (hf : env.frame = some L) {p : Addr × Obj} (hp : p ∈ led) : p.1 ∉ frs (env :: fs) := fun q => by
  rcases (frs_cons hf).mp q with q | q
  · exact (N p hp).2.1 q
  · obtain ⟨o, ho⟩ := frs_ground B q
    rw [(N p hp).2.2] at ho; cases ho
end
section
variable {w : World} {name qual : Str} {params : Arguments} {body : List Stmt} {scope : Scope} {dV kV doc pm cdv ct oc : Value} {an od : Option Addr} {osl : Array (Option Value)} {f : Addr} {args : List Value} {binds : List (Str × Value)}
  {n : Nat} {g : Led} {Pe : Option Addr → Led → Prop} {c : Value}
theorem SpecE.intro (ho : (MineHead.hd.heap_1 w.params).lookup f = some ⟨oc, od, .func (fnOf name qual params body scope dV kV doc pm an cdv ct), osl⟩) (hcd : codeIn (MineHead.hd.heap_1 w.params) cdv qual = true)
    (hbind : ∀ s : Shared, (MineHead.hd.heap_1 w.params).In s.heap → BindsTo s (fnOf name qual params body scope dV kV doc pm an cdv ct) ⟨args, []⟩ binds) (hloc : ∀ y ∈ binds, scope.names.lookup y.1 = some .local)
    (h : ∀ (A : Around) (base : Heap) (fs : List Env) (s : Shared) (g' : Heap) (L' : Addr) (h₁ : Heap) (mean : ExcName → Option Value) (mg mb : Str → Option Value), let mM := (fun y => binds.reverse.lookup y); Room (A.deeper (envOf qual scope L' f cdv)) n → Fr g' L' h₁ mM → News g' L' h₁ g → (adr g).Nodup →
      Below A base fs g' → (MineHead.hd.heap_1 w.params).In g' → Top PV LO mean mg mb g' → (∀ p ∈ g, p.1 < L') →
      wpAny (model PR w) (A.deeper (envOf qual scope L' f cdv)) (execs body (envOf qual scope L' f cdv))
        (fun _ _ => False) (fun v s' => Away Pe c g' L' s v s') { s with heap := h₁, toks := s.toks + binds.length })
    (hco : scope.isCoroutine = false := by rfl) (hgen : scope.isGenerator = false := by rfl) (hk : scope.kind = .function := by rfl) (hcell : ∀ x ∈ scope.names, x.2 ≠ .cell := by decide) : SpecE (n + 1) w f args g c Pe := by
  intro A base fs s R p k
  obtain ⟨X, lim⟩ := of_hidden p
  obtain ⟨mean, mg, mb, T⟩ := p.top
  refine codeAny_call_def (fd := fnOf name qual params body scope dV kV doc pm an cdv ct) (body := body) (binds := binds) p.room.lim (X _ _ ho) rfl lim (codeRec_of X hcd) rfl (hbind s X) hcell hloc (fun h₁ hns hk₁ => ?_) hco hgen hk
  refine wpAny_mono (h A base fs s _ s.heap.objs.size h₁ mean mg mb (p.room.deeper _) ⟨hns, fun b o e => hk₁ b o (of_hideAll _ e), Nat.le_of_eq (hideAll_size _ _)⟩
    (fun q hq => ⟨hk₁ _ _ (p.got q hq), Nat.ne_of_lt (Heap.lt_size (p.got q hq)), hideAll_none _ (List.mem_map_of_mem hq)⟩) p.dj p.bel p.kin T (fun q hq => Heap.lt_size (p.got q hq)))
    (fun fl s' hl => hl.elim) fun v s' hl => ?_
  obtain ⟨e, oe, vs, h', tk, m', g'', rfl, rfl, le, F', N', D', hc, hd, h1, hP⟩ := hl
  have B := p.bel
  have B1 := pushX B F' (env := envOf qual scope s.heap.objs.size f cdv) rfl hk
  have ne0 := List.nodup_cons.mp D'
  have fr := fun {b : Addr} => frs_cons (fs := fs) (b := b) (show (envOf qual scope s.heap.objs.size f cdv).frame = some s.heap.objs.size from rfl)
  have hid : ∀ b o, b ∉ adr g → s.heap.get? b = some o → h'.get? b = some o := fun b o hb q => F'.keep b o (hideAll_get _ q hb)
  have oe' : Over s.heap e := fun b o q => Nat.lt_trans (Heap.lt_size q) le
  refine x_leave_first (s := { s with heap := h', toks := tk }) B1.stack B1.frames rfl (N' _ (.head _)).1 hd h1 fun h₂ T₂ hT x₂ sl => ?_
  have oT' : Over s.heap T₂ := fun b o q => by
    obtain ⟨oL, _, _, hL, _⟩ := F'.ns
    exact Nat.lt_trans (Heap.lt_size q) (hT _ _ hL)
  refine k e T₂ _ g'' h₂ tk hP ⟨⟨fun b o q m n => ?_, fun b o q m n => ?_⟩, fun q hq => ?_, fun q hq => ?_, ne0.2, hc ▸ x₂, oe', oT', ne0.1, fun q => ?_⟩
  · exact sl.keep b o (hid b o n q) (fun z => (fr.mp z).elim (fun z => Nat.lt_irrefl _ (z ▸ Heap.lt_size q)) m) (fun z => by
      rw [List.mem_singleton.mp z, oe'.none] at q; cases q)
  · exact sl.slid b o (hid b o n q) (fr.mpr (.inr m)) (fun z => by rw [List.mem_singleton.mp z, oe'.none] at q; cases q)
  · exact sl.keep _ _ (N' q (.tail _ hq)).1 (frs_news F' B N' rfl (.tail _ hq)) fun z => ne0.1 (List.mem_map.mpr ⟨q, hq, List.mem_singleton.mp z⟩)
  · exact (Post.of F' (fun r hr => N' r (.tail _ hr)) ne0.2).new q hq
  · obtain ⟨r, hr, er⟩ := List.mem_map.mp q
    have := (N' r (.tail _ hr)).1
    rw [er, hT.none] at this; cases this
end
example : True := by w_top off; trivial
abbrev excObj (C : Addr) (dd : Option Addr) (t0 : Addr) : Obj := { cls := .ref C, dict := dd, data := .fields #[.ref t0, .none, .none, .none, .bool false, .none] }
abbrev bmV : List Value := [.type "ValueError", .type "Exception", .type "BaseException", .type "object"]
abbrev bmX : List Value := .ref 32 :: bmV
abbrev xcls (nm q : Str) (C N : Addr) (k0 k1 k2 k3 k5 : Option Value) : Obj := excClassObj nm q C N [.ref 32] bmX true [] [] false none none k0 k1 k2 k3 k5 "ValueError.__new__"
section
variable {prog : Program} {w : World} {A : Around} {E : Value → Shared → Prop} {h : Heap} {g : Array GenState} {d : Drawn} {t : Nat} {os : OsState} {nm q : Str} {C N N' : Addr} {k0 k1 k2 k3 k5 : Option Value}
theorem xm_check {M : Model} {rest : List Value} {Q : Unit → Shared → Prop} (hC : h.get? C = some (xcls nm q C N k0 k1 k2 k3 k5)) (hq : Q () ⟨h, g, d, t, os⟩) : wpAny M A (checkBuiltinCall "ValueError.__new__" ⟨.ref C :: rest, []⟩) Q E ⟨h, g, d, t, os⟩ := by
  have F := PySem.F.excBase_ValueError
  have hcont : (Value.ref C :: bmX).contains (.type "ValueError") = true := by rw [List.contains_cons]; simp
  have hstar := F.noStar
  simp only [checkBuiltinCall, F.newKind, F.newSplit, F.newRow]
  repeat (first | refine wpAny_loadPart_at hC ?_ | (refine wpAny_isSubtype_exc hC ?_; rw [hcont]) | refine wpAny_staticBase_exc hC ?_ | refine wpAny_madeBy_exc hC ?_ | simp only [bne_self_eq_false, Bool.false_eq_true, if_false] | wp_step)
  exact hq
theorem xm_new {R : Result → Shared → Prop} {rest : List Value} (hC : h.get? C = some (xcls nm q C N k0 k1 k2 k3 k5))
    (hq : R (.ok (.ret (.ref (h.objs.size + 1)))) ⟨(h.push (tupObj rest)).push (excObj C none h.objs.size), g, d, t, os⟩) (hrest : rest.length ≤ sizeLine) :
    codeAny (model prog w) A (.builtin "ValueError.__new__" ⟨.ref C :: rest, []⟩) R ⟨h, g, d, t, os⟩ := by
  have F := PySem.F.excBase_ValueError
  have hends := F.ends
  have hcB : (Value.ref C :: bmX).contains (.type "ValueError") = true := by rw [List.contains_cons]; simp
  have hcA : (Value.ref C :: bmX).contains (.type "AttributeError") = false := by rw [List.contains_cons]; simp
  have hcN : (Value.ref C :: bmX).contains (.type "NameError") = false := by rw [List.contains_cons]; simp
  refine codeAny_builtinAt F.entry ?_
  unfold Builtin.«BaseException.__new__»
  refine PySem.wpAt_bind ?_
  show PySem.wpAt _ _ _ (stack >>= _) _ _ _
  refine PySem.wpAt_bind (PySem.wpAt_stack fun p below => PySem.wpAt_of_wpAny ?_)
  wp_walk
  refine PySem.wpAt_of_wpAny ?_
  rw [F.owner]
  repeat (first | with_reducible refine wpAny_madeHere_exc F.canon hC ?_ | with_reducible refine wpAny_loadPart_at hC ?_ | (with_reducible refine wpAny_isSubtype_exc hC ?_; first | rw [hcB] | rw [hcA] | rw [hcN]) | wp_step)
  show R _ _
  rw [Heap.size_push]
  exact hq
theorem xm_call {K : Frag} {rest : List Value} {fI : Addr} {Q : Value → Shared → Prop} (X : K.In h) (hC : h.get? C = some (xcls nm q C N k0 k1 k2 k3 k5)) (hi : findIn K (.ref C) "__init__" = some (some (.ref fI))) (hf : isFn K (.ref fI) = true) (hrest : rest.length ≤ sizeLine)
    (hq : codeAny (model prog w) (A.under (.builtin "type.__call__" ⟨.ref C :: rest, []⟩)) (.call (.ref fI) ⟨.ref (h.objs.size + 1) :: rest, []⟩) (InitBack (h.objs.size + 1) fun r s' => match r with | .ok (.ret v) => Q v s' | .ok _ => False | .error e => E e s')
      ⟨(h.push (tupObj rest)).push (excObj C none h.objs.size), g, d, t, os⟩) : wpAny (model prog w) A (call (.ref C) rest) Q E ⟨h, g, d, t, os⟩ := by
  have f1 := tc_lookup
  have f2 := tc_bind (.ref C)
  have hT : (⟨h, g, d, t, os⟩ : Shared).TypeIs (.ref C) "type" := ⟨_, hC, rfl⟩
  have F := PySem.F.excBase_ValueError
  refine wpAny_call (codeAny_of_tree ?_)
  show wpAny _ _ (callAny (.ref C) _) _ _ _
  repeat (any_goals (first | assumption | with_reducible refine wpAny_loadPart_at hC ?_ | wp_step))
  refine ⟨rfl, ?_⟩
  refine codeAny_call_builtin_at (Code.quiet_builtin _ (by decide +kernel)) entry_typeCall (wpAny_check_type_call_sub hC ?_)
  repeat (first | with_reducible refine wpAny_loadPart_at hC ?_ | with_reducible refine wpAny_madeBy_exc hC ?_ | wp_step)
  refine codeAny_call_builtin_code (Code.quiet_builtin _ F.quiet) (xm_check hC ?_)
  refine xm_new hC ?_ hrest
  show wpAny _ _ _ _ _ _
  have k : ∀ b o, h.get? b = some o → ((h.push (tupObj rest)).push (excObj C none h.objs.size)).get? b = some o := fun b o e => Heap.get?_push_of_some _ (Heap.get?_push_of_some _ e)
  have hC₁ := k _ _ hC
  have hget : ((h.push (tupObj rest)).push (excObj C none h.objs.size)).get? (h.objs.size + 1) = some (excObj C none h.objs.size) := by heap_get
  have hcC : (Value.ref C :: bmX).contains (.ref C) = true := by simp
  unfold isInstance
  repeat (first | with_reducible refine wpAny_loadPart_at hget ?_ | (with_reducible refine wpAny_isSubtype_exc hC₁ ?_; rw [hcC]) | wp_step)
  show wpAny _ _ (isSubtype (.ref C) (.ref C)) _ _ _
  refine wpAny_isSubtype_exc hC₁ ?_
  rw [hcC]
  repeat (first | with_reducible refine wpAny_loadPart_at hget ?_ | wp_step)
  show wpAny _ _ (typeLookup (.ref C) _) _ _ _
  refine ((looks_findIn X hi).keeps k).here ?_
  show wpAny _ _ (holding _ _) _ _ _
  refine wpAny_holding (wpAny_bind (((bind_fn X (.ref (h.objs.size + 1)) (beq_iff_eq.mp hf)).keeps k).here ?_))
  show wpAny _ _ (PySem.call (.ref fI) (.ref (h.objs.size + 1) :: rest) [] >>= fun r => pure (some r)) _ _ _
  refine wpAny_bind (wpAny_call (codeAny_mono hq fun r s' z => ?_))
  rcases r with e | (v | _ | _ | _) <;> first | exact z | exact z.elim | skip
  obtain ⟨rfl, z⟩ := z
  exact wpAny_pure (wpAny_pure z)
/-- the base's __init__ : the arguments are laid anew -/
theorem xm_init {h₀ : Heap} {L e t0 : Addr} {m : Str → Option Value} {dd : Option Addr} {led : Led} {args : List Value} {s : Shared} {Q : Value → Shared → Prop} (F : Fr h₀ L s.heap m) (N : News h₀ L s.heap ((e, excObj C dd t0) :: led)) (ne : ∀ p ∈ led, p.1 ≠ e)
    (hC : h₀.get? C = some (xcls nm q C N' k0 k1 k2 k3 k5)) (hz : args.length ≤ sizeLine)
    (hq : ∀ t2 h', Fr h₀ L h' m → News h₀ L h' ((e, excObj C dd t2) :: (t2, tupObj args) :: led) → (∀ p ∈ led, @LT.lt Nat _ p.1 t2) → @LT.lt Nat _ e t2 → Q .none { s with heap := h' }) :
    wpAny (model prog w) A (call (.builtin "ValueError.__init__") (.ref e :: args)) Q E s := by
  have FX := PySem.F.excBase_ValueError
  have hC' := F.keep _ _ hC
  have he := (N _ (.head _)).1
  have F1 := F.push (tupObj args)
  have N1 := N.push F (tupObj args)
  obtain ⟨hh, g, d, t, os⟩ := s
  dsimp only at hC' he F1 N1
  have chk : ∀ (A : Around) (Q : Unit → Shared → Prop) (E : Value → Shared → Prop), Q () ⟨hh, g, d, t, os⟩ → wpAny (model prog w) A (checkBuiltinCall "ValueError.__init__" ⟨.ref e :: args, []⟩) Q E ⟨hh, g, d, t, os⟩ := fun A Q E hq => by
    have hcB : (Value.ref C :: bmX).contains (.type "ValueError") = true := by rw [List.contains_cons]; simp
    have hshort := FX.noStar
    simp only [checkBuiltinCall, FX.initKind, FX.initSplit, FX.initRow]
    repeat (first | with_reducible refine wpAny_loadPart_at he ?_ | with_reducible refine wpAny_loadPart_at hC' ?_ | (with_reducible refine wpAny_isSubtype_exc hC' ?_; rw [hcB]) | wp_step)
    refine wpAny_onRaise ?_
    rw [show ∀ (a b : String) (n : Nat), Bind.check ⟨.positional, "*", "ValueError", .self, [⟨"args", .varPos, false⟩]⟩ a b n (List.map (fun x => x.fst) ({ pos := Value.ref e :: args } : Args).kw) = pure () from
      fun a b n => check_star_args _ _ _ _ _ _]
    exact wpAny_pure hq
  refine wpAny_call (codeAny_call_builtin FX.init.plain FX.initEntry (chk _ _ _ ?_))
  wp_walk
  obtain ⟨F2, N2⟩ := news_upd (pre := [(hh.objs.size, tupObj args)]) (post := led) (o' := excObj C dd hh.objs.size) (f := Obj.mapFields fun x => x.setIfInBounds 0 (Value.ref hh.objs.size)) F1 N1
    (fun p hp => by rw [List.mem_singleton.mp hp]; exact Nat.ne_of_gt (Heap.lt_size he)) ne rfl rfl
  refine hq hh.objs.size _ F2 (fun p hp => N2 p ?_) (fun p hp => Heap.lt_size (N p (.tail _ hp)).1) (Heap.lt_size he)
  simp only [List.mem_cons, List.mem_append, List.cons_append, List.nil_append] at hp ⊢
  grind
end
open Builtin Builtin.ObjectAttr
section
variable {prog : Program} {w : World} {A : Around} {E : Value → Shared → Prop} {s : Shared} {nm q : Str} {C N' e t0 dx : Addr} {k0 k1 k2 k3 k5 : Option Value} {K : Frag} {h₀ : Heap} {L : Addr} {m : Str → Option Value} {led : Led} {name : Str} {tk : Tok} {v : Value} {dd : Option Addr} {es es' : List DictEntry} {n n' : Nat}
theorem xm_store {Q : Fin → Shared → Prop} (F : Fr h₀ L s.heap m) (N : News h₀ L s.heap ((dx, dictOf es n) :: led)) (ne : ∀ p ∈ led, p.1 ≠ dx) (hl : (getL name es).isSome = true)
    (e : (putL name (PyData.keyHash w.params name) (.str name s.toks) v es, putN name es n) = (es', n')) (hz : es'.length ≤ 1000)
    (h : ∀ h', Fr h₀ L h' m → News h₀ L h' ((dx, dictOf es' n') :: led) → Q (.done (.ret .none)) { s with heap := h', toks := s.toks + 1 }) :
    wpAny (model prog w) A (storeInDict dx (.str name tk) name v) Q E s := by
  obtain ⟨e1, e2⟩ := Prod.mk.inj e
  obtain ⟨U1, U2⟩ := news_upd (pre := []) (post := led) (f := Obj.putName name (PyData.keyHash w.params name) (.str name s.toks) v) (o' := dictOf es' n') F N (fun _ h => nomatch h) ne (by rw [putName_dict, e1, e2]) rfl
  have D := (N (dx, dictOf es n) (.head _)).1
  have D' := (U2 (dx, dictOf es' n') (.head _)).1
  unfold storeInDict newKeyGuard
  refine wpAny_bind (wpAny_pure (wpAny_bind ?_))
  unfold nsSet
  refine wpAny_bind (wpAny_bind (wpAny_askSetting (wpAny_pure (wpAny_bind (wpAny_mkText (wpAny_bind (wpAny_loadPart D ?_)))))))
  have c : (!es.toArray.any (·.key.isStr name) && es.toArray.any (·.refKey)) = false := by
    unfold getL at hl
    split at hl
    · rename_i en he
      rw [← Array.any_toList, ← Array.any_toList]
      rw [List.any_eq_true.mpr ⟨en, List.mem_of_find?_eq_some he, List.find?_some he⟩]; rfl
    · split at hl
      · cases hl
      · rename_i z; rw [Bool.not_eq_true] at z; rw [← Array.any_toList, ← Array.any_toList]; simp only; rw [z, Bool.and_false]
  dsimp only
  rw [aRefKeyMayBeTheName_at, c]
  refine wpAny_updatePart D ?_
  refine wpAny_bind (wpAny_lookBehind D' (pastItsLine_dict (by rw [List.size_toArray, sizeLine_eq]; omega)) ?_)
  exact wpAny_pure (h _ U1 U2)
theorem xm_osa {R : Result → Shared → Prop} (X : K.In s.heap) (he : s.heap.get? e = some (excObj C dd t0)) (hK : K.lookup C = some (xcls nm q C N' k0 k1 k2 k3 k5)) (ht : takerIn K C name = some none)
    (h : ∀ b, wpAny (model prog w) A.in1 (storeInOwnDict (.ref e) (.ref C) (.str name tk) name v b)
      (fun fin s' => match fin with | .done f => R (.ok f) s' | .again c' => c'.quiet = true ∧ codeAny (model prog w) A c' R s') (fun e s' => R (.error e) s') s) :
    codeAny (model prog w) A (.call (.builtin "object.__setattr__") ⟨[.ref e, .str name tk, v], []⟩) R s := by
  have SF := PySem.F.store_object
  obtain ⟨cd, hc, hm0, hd0⟩ : ∃ cd, clsIn K C = some cd ∧ cd.mro = .ref C :: bmX ∧ cd.hasDict = true := ⟨_, by unfold clsIn; rw [hK], rfl, rfl⟩
  have It : Looks (model prog w) s.heap (typeOf (.ref e)) (.ref C) := (Looks.ld he).andThen .now
  have hm : Looks (model prog w) s.heap (mroOf (.ref C)) (.ref C :: bmX) := by rw [← hm0]; exact (looks_clsIn X hc).andThen .now
  have sub : Looks (model prog w) s.heap (isInstance (.ref e) (.type "object")) true := It.andThen (looks_mroIn X (by unfold mroIn; rw [hc]; simp [hm0]))
  refine codeAny_call_builtin SF.slot.plain SF.entry (@check_slot (model prog w) _ _ s "object.__setattr__" "object" "__setattr__" (.ref e) [.str name tk, v] [] _ SF.kind SF.split sub (SF.args (.ref e) (.str name tk) v) ?_)
  obtain ⟨attr, ha, hr⟩ := Option.bind_eq_some_iff.mp ht
  have L3 : Looks (model prog w) s.heap (storeTaker? attr) none := by
    cases attr with
    | none => exact .now
    | some a =>
      obtain ⟨b, hb, hbb⟩ := Option.map_eq_some_iff.mp hr
      refine (looks_takesIn X hb).andThen ?_
      cases b with
      | false => exact .now
      | true => cases hbb
  rw [osa_eq, refuse_eq]
  refine wpAny_bind (wpAny_bind (It.here (wpAny_bind (hm.here ?_))))
  rw [refuseLoop_ref, refuseLoop_ref, PySem.F.store_ValueError.passes]
  exact wpAny_pure (wpAny_bind (It.here (wpAny_bind ((looks_findIn X ha).here (wpAny_bind (L3.here (h _)))))))
theorem xm_ownNew {b : Bool} {Q : Fin → Shared → Prop} (F : Fr h₀ L s.heap m) (N : News h₀ L s.heap ((e, excObj C none t0) :: led)) (ne : ∀ p ∈ led, p.1 ≠ e) (X₀ : K.In h₀) (hK : K.lookup C = some (xcls nm q C N' k0 k1 k2 k3 k5))
    (h : ∀ D h', Fr h₀ L h' m → News h₀ L h' ((e, excObj C (some D) t0) :: (D, dictOf [⟨PyData.keyHash w.params name, .str name s.toks, v⟩] 1) :: led) → (∀ p ∈ led, @LT.lt Nat _ p.1 D) → @LT.lt Nat _ e D → Q (.done (.ret .none)) { s with heap := h', toks := s.toks + 1 }) :
    wpAny (model prog w) A (storeInOwnDict (.ref e) (.ref C) (.str name tk) name v b) Q E s := by
  have X := X₀.keeps F.keep
  have he := (N _ (.head _)).1
  obtain ⟨cd, hc, hm0, hd0⟩ : ∃ cd, clsIn K C = some cd ∧ cd.mro = .ref C :: bmX ∧ cd.hasDict = true := ⟨_, by unfold clsIn; rw [hK], rfl, rfl⟩
  unfold storeInOwnDict
  refine wpAny_bind (wpAny_pure (wpAny_bind (wpAny_bind (wpAny_loadPart he (wpAny_bind ((looks_clsIn X hc).here ?_))))))
  rw [hd0]
  show wpAny _ _ (alloc { cls := .type "dict", data := .dict #[] } >>= fun d => PySem.update e (fun o => { o with dict := some d }) >>= fun _ => dictMade (.ref C) e d) _ _ _
  obtain ⟨F1, N1⟩ : Fr h₀ L (s.heap.push (dictOf [] 0)) m ∧ News h₀ L (s.heap.push (dictOf [] 0)) ([(s.heap.objs.size, dictOf [] 0)] ++ (e, excObj C none t0) :: led) := ⟨F.push _, N.push F _⟩
  have lt : ∀ p ∈ led, @LT.lt Nat _ p.1 s.heap.objs.size := fun p hp => Heap.lt_size (N p (.tail _ hp)).1
  have le : @LT.lt Nat _ e s.heap.objs.size := Heap.lt_size he
  obtain ⟨F2, N2⟩ := news_upd (f := fun o => { o with dict := some s.heap.objs.size }) (o' := excObj C (some s.heap.objs.size) t0) F1 N1 (fun p hp => by rw [List.mem_singleton.mp hp]; exact Nat.ne_of_gt le) ne rfl rfl
  obtain ⟨hh, g, d, t, os⟩ := s
  refine wpAny_bind (wpAny_alloc' ?_)
  refine wpAny_bind (wpAny_update' (Heap.get?_push_of_some _ he) ?_)
  refine wpAny_pure ?_
  refine xm_store (es := []) (n := 0) (led := (e, excObj C (some hh.objs.size) t0) :: led) F2 (fun p hp => N2 p hp) (fun p hp => ?_) rfl rfl (by show 1 ≤ 1000; decide) fun h' F' N' => h hh.objs.size h' F' (fun p hp => N' p (by
    cases hp with
    | head => exact .tail _ (.head _)
    | tail _ hp =>
      cases hp with
      | head => exact .head _
      | tail _ hp => exact .tail _ (.tail _ hp))) lt le
  rcases List.mem_cons.mp hp with rfl | hp
  · exact Nat.ne_of_lt le
  · exact Nat.ne_of_lt (lt p hp)
theorem xm_ownOld {b : Bool} {Q : Fin → Shared → Prop} (F : Fr h₀ L s.heap m) (N : News h₀ L s.heap ((e, excObj C (some dx) t0) :: (dx, dictOf es n) :: led)) (ne : ∀ p ∈ led, p.1 ≠ dx) (nd : e ≠ dx) (X₀ : K.In h₀) (hK : K.lookup C = some (xcls nm q C N' k0 k1 k2 k3 k5))
    (hl : (getL name es).isSome = true) (hp : (putL name (PyData.keyHash w.params name) (.str name s.toks) v es, putN name es n) = (es', n')) (hz : es'.length ≤ 1000)
    (h : ∀ h', Fr h₀ L h' m → News h₀ L h' ((e, excObj C (some dx) t0) :: (dx, dictOf es' n') :: led) → Q (.done (.ret .none)) { s with heap := h', toks := s.toks + 1 }) :
    wpAny (model prog w) A (storeInOwnDict (.ref e) (.ref C) (.str name tk) name v b) Q E s := by
  have X := X₀.keeps F.keep
  have he := (N _ (.head _)).1
  obtain ⟨cd, hc, hm0, hd0⟩ : ∃ cd, clsIn K C = some cd ∧ cd.mro = .ref C :: bmX ∧ cd.hasDict = true := ⟨_, by unfold clsIn; rw [hK], rfl, rfl⟩
  unfold storeInOwnDict
  refine wpAny_bind (wpAny_pure (wpAny_bind (wpAny_bind (wpAny_loadPart he (wpAny_bind ((looks_clsIn X hc).here ?_))))))
  rw [hd0]
  refine wpAny_pure (a := some dx) ?_
  refine xm_store (led := (e, excObj C (some dx) t0) :: led) F (fun p hp => N p (by simp only [List.mem_cons] at hp ⊢; grind)) (fun p hp => ?_) hl hp hz fun h' F' N' => h h' F' fun p hp => N' p (by simp only [List.mem_cons] at hp ⊢; grind)
  rcases List.mem_cons.mp hp with rfl | hp
  · exact nd
  · exact ne p hp
theorem xm_setNew {Q : Unit → Shared → Prop} (F : Fr h₀ L s.heap m) (N : News h₀ L s.heap ((e, excObj C none t0) :: led)) (ne : ∀ p ∈ led, p.1 ≠ e) (X₀ : K.In h₀) (hK : K.lookup C = some (xcls nm q C N' k0 k1 k2 k3 k5))
    (hs : findIn K (.ref C) "__setattr__" = some (some (.builtin "object.__setattr__"))) (ht : takerIn K C name = some none)
    (h : ∀ D h', Fr h₀ L h' m → News h₀ L h' ((e, excObj C (some D) t0) :: (D, dictOf [⟨PyData.keyHash w.params name, .str name (s.toks + 1), v⟩] 1) :: led) → (∀ p ∈ led, @LT.lt Nat _ p.1 D) → @LT.lt Nat _ e D → Q () { s with heap := h', toks := s.toks + 2 }) :
    wpAny (model prog w) A (setAttr (.ref e) name v) Q E s := by
  have X := X₀.keeps F.keep
  have he := (N _ (.head _)).1
  exact set_plain X (ox := excObj C none t0) (od := none) ⟨he, rfl, rfl, trivial⟩ hs (xm_osa (s := { s with toks := s.toks + 1 }) X he hK ht fun b => xm_ownNew (s := { s with toks := s.toks + 1 }) F N ne X₀ hK fun D h' F' N' l1 l2 => h D h' F' N' l1 l2)
theorem xm_setOld {Q : Unit → Shared → Prop} (F : Fr h₀ L s.heap m) (N : News h₀ L s.heap ((e, excObj C (some dx) t0) :: (dx, dictOf es n) :: led)) (ne : ∀ p ∈ led, p.1 ≠ dx) (nd : e ≠ dx) (X₀ : K.In h₀) (hK : K.lookup C = some (xcls nm q C N' k0 k1 k2 k3 k5))
    (hs : findIn K (.ref C) "__setattr__" = some (some (.builtin "object.__setattr__"))) (ht : takerIn K C name = some none)
    (hl : (getL name es).isSome = true) (hp : (putL name (PyData.keyHash w.params name) (.str name (s.toks + 1)) v es, putN name es n) = (es', n')) (hz : es'.length ≤ 1000)
    (h : ∀ h', Fr h₀ L h' m → News h₀ L h' ((e, excObj C (some dx) t0) :: (dx, dictOf es' n') :: led) → Q () { s with heap := h', toks := s.toks + 2 }) :
    wpAny (model prog w) A (setAttr (.ref e) name v) Q E s := by
  have X := X₀.keeps F.keep
  have he := (N _ (.head _)).1
  exact set_plain X (ox := excObj C (some dx) t0) (od := some (dictOf es n)) ⟨he, rfl, rfl, (N _ (.tail _ (.head _))).1⟩ hs (xm_osa (s := { s with toks := s.toks + 1 }) X he hK ht fun b => xm_ownOld (s := { s with toks := s.toks + 1 }) F N ne nd X₀ hK hl hp hz fun h' F' N' => h h' F' N')
end
example : True := by w_top off; trivial
def SpecES (n : Nat) (w : World) (f : Addr) (args : List Value) (g : Led) (c : Value) (Pe : Option Addr → Led → Prop) : Prop :=
  ∀ (A : Around) (base : Heap) (fs : List Env) (s : Shared) (R : Result → Shared → Prop), Pre w A base fs n s g →
    (∀ e T dd g' h' tk, Pe dd g' → PostE fs s.heap g h' g' e T c dd → R (.error (.ref e)) { s with heap := h', toks := tk }) → codeS (model PR w) A (.call (.ref f) ⟨args, []⟩) R s
theorem SpecE.toS {n : Nat} {w : World} {f : Addr} {args : List Value} {g : Led} {c : Value} {Pe : Option Addr → Led → Prop} (S : SpecE n w f args g c Pe) : SpecES n w f args g c Pe := fun A base fs s R p k => codeS_of (S A base fs s R p k)
/-- the state while an exception flies through a frame -/
structure Mid (g' : Heap) (L' : Addr) (fs : List Env) (m : Str → Option Value) (led : Led) (e T : Addr) (h : Heap) : Prop where
  keep : ∀ b o, g'.get? b = some o → b ∉ frs fs → h.get? b = some o
  slid : ∀ b o, g'.get? b = some o → b ∈ frs fs → ∃ sl, h.get? b = some { o with slots := sl }
  ns : h.Ns L' m
  got : ∀ p ∈ led, h.get? p.1 = some p.2 ∧ p.1 ≠ L' ∧ g'.get? p.1 = none
  dj : (adr led).Nodup
  ne : e ∉ adr led
  nT : T ∉ adr led
  le : @LT.lt Nat _ L' e
  lT : @LT.lt Nat _ L' T
  above : g'.objs.size ≤ L'
theorem ns_slots {h h' : Heap} {L : Addr} {m : Str → Option Value} (x : h.Ns L m) (k : ∀ o, h.get? L = some o → ∃ sl, h'.get? L = some { o with slots := sl }) : h'.Ns L m := by
  obtain ⟨o, es, ep, ho, hd, r⟩ := x
  obtain ⟨sl, hs⟩ := k o ho
  exact ⟨_, es, ep, hs, hd, r⟩
section
variable {w : World} {A : Around} {base g' h h₂ G : Heap} {fs : List Env} {n : Nat} {s : Shared} {g led gc rest gx : Led} {L' e T T' : Addr} {m : Str → Option Value} {env : Env} {c : Value} {dd : Option Addr} {fl : Value}
theorem Mid.of (F : Fr g' L' G m) (N : News g' L' G (gc ++ rest)) (D : (adr (gc ++ rest)).Nodup) (B : Below A base fs g') (hf : env.frame = some L') (P : PostE (env :: fs) G gc h gx e T c dd) : Mid g' L' fs m (gx ++ rest) e T h := by
  have D' := D
  rw [adr, List.map_append, List.nodup_append] at D'
  obtain ⟨_, Dr, Dx⟩ := D'
  have ngc : ∀ b o, g'.get? b = some o → b ∉ adr gc := fun b o q z => by
    obtain ⟨r, hr, er⟩ := List.mem_map.mp z
    have := (N r (List.mem_append_left _ hr)).2.2
    rw [er, q] at this; cases this
  obtain ⟨oL, _, _, hL, _⟩ := F.ns
  have nL : L' ∉ adr gc := fun z => by
    obtain ⟨r, hr, er⟩ := List.mem_map.mp z
    exact (N r (List.mem_append_left _ hr)).2.1 er
  have less : ∀ b o, g'.get? b = some o → b ≠ L' := fun b o q z => by
    have := Nat.lt_of_lt_of_le (Heap.lt_size q) F.above
    rw [z] at this; exact Nat.lt_irrefl _ this
  refine ⟨fun b o q n => P.sl.keep b o (F.keep b o q) (fun z => ((frs_cons hf).mp z).elim (less b o q) n) (ngc b o q), fun b o q n => P.sl.slid b o (F.keep b o q) ((frs_cons hf).mpr (.inr n)) (ngc b o q), ns_slots F.ns fun o q => P.sl.up q nL, ?_, ?_, ?_, ?_, P.fe _ _ hL, P.fT _ _ hL, F.above⟩
  · intro p hp
    rcases List.mem_append.mp hp with hp | hp
    · refine ⟨P.got p hp, fun z => ?_, ?_⟩
      · rcases P.new p hp with q | q
        · exact nL (z ▸ q)
        · rw [z, hL] at q; cases q
      · cases q : g'.get? p.1 with
        | none => rfl
        | some o =>
          rcases P.new p hp with x | x
          · exact absurd x (ngc _ _ q)
          · rw [F.keep _ _ q] at x; cases x
    · have z := N p (List.mem_append_right _ hp)
      exact ⟨P.sl.keep _ _ z.1 (frs_news F B N hf (List.mem_append_right _ hp)) (fun q => Dx _ q _ (List.mem_map_of_mem hp) rfl), z.2⟩
  · rw [adr, List.map_append, List.nodup_append]
    refine ⟨P.dj, Dr, fun a ha b hb e => ?_⟩
    subst e
    obtain ⟨p, hp, rfl⟩ := List.mem_map.mp ha
    rcases P.new p hp with q | q
    · exact Dx _ q _ hb rfl
    · obtain ⟨r, hr, e⟩ := List.mem_map.mp hb
      rw [← e, (N r (List.mem_append_right _ hr)).1] at q
      cases q
  · intro z
    rw [adr, List.map_append] at z
    rcases List.mem_append.mp z with z | z
    · exact P.ne z
    · obtain ⟨r, hr, er⟩ := List.mem_map.mp z
      have := P.fe _ _ (N r (List.mem_append_right _ hr)).1
      rw [er] at this; exact Nat.lt_irrefl _ this
  · intro z
    rw [adr, List.map_append] at z
    rcases List.mem_append.mp z with z | z
    · exact P.nT z
    · obtain ⟨r, hr, er⟩ := List.mem_map.mp z
      have := P.fT _ _ (N r (List.mem_append_right _ hr)).1
      rw [er] at this; exact Nat.lt_irrefl _ this
theorem Mid.old (x : Mid g' L' fs m led e T h) {b : Addr} {o : Obj} (q : g'.get? b = some o) : b ≠ L' ∧ b ≠ e ∧ b ≠ T :=
  have l := Nat.lt_of_lt_of_le (Heap.lt_size q) x.above
  ⟨Nat.ne_of_lt l, Nat.ne_of_lt (Nat.lt_trans l x.le), Nat.ne_of_lt (Nat.lt_trans l x.lT)⟩
theorem Mid.step (x : Mid g' L' fs m led e T h) (B : Below A base fs g') (hf : env.frame = some L') (sl : Slid (frs (env :: fs)) [e, T] h h₂) (hT : T' = T ∨ Over h T') : Mid g' L' fs m led e T' h₂ := by
  have nx : ∀ b o, g'.get? b = some o → b ∉ [e, T] := fun b o q z => by
    have := x.old q
    simp at z
    rcases z with z | z
    · exact this.2.1 z
    · exact this.2.2 z
  have nl : L' ∉ [e, T] := fun z => by
    have a := x.le
    have b := x.lT
    simp at z
    rcases z with z | z
    · rw [z] at a; exact Nat.lt_irrefl _ a
    · rw [z] at b; exact Nat.lt_irrefl _ b
  refine ⟨fun b o q n => sl.keep b o (x.keep b o q n) (fun z => ((frs_cons hf).mp z).elim (x.old q).1 n) (nx b o q), fun b o q n => ?_, ns_slots x.ns fun o q => sl.up q nl, fun p hp => ⟨sl.keep _ _ (x.got p hp).1 (fun z => ?_) (fun z => ?_), (x.got p hp).2⟩, x.dj, x.ne, ?_, x.le, ?_, x.above⟩
  · obtain ⟨s1, h1⟩ := x.slid b o q n
    obtain ⟨s2, h2⟩ := sl.up h1 (nx b o q)
    exact ⟨s2, h2⟩
  · rcases (frs_cons hf).mp z with z | z
    · exact (x.got p hp).2.1 z
    · obtain ⟨o, ho⟩ := frs_ground B z
      rw [(x.got p hp).2.2] at ho; cases ho
  · simp at z
    rcases z with z | z
    · exact x.ne (List.mem_map.mpr ⟨p, hp, z⟩)
    · exact x.nT (List.mem_map.mpr ⟨p, hp, z⟩)
  · rcases hT with rfl | hT
    · exact x.nT
    · intro z
      obtain ⟨r, hr, er⟩ := List.mem_map.mp z
      have := hT _ _ (x.got r hr).1
      rw [er] at this; exact Nat.lt_irrefl _ this
  · rcases hT with rfl | hT
    · exact x.lT
    · obtain ⟨oL, _, _, hL, _⟩ := x.ns
      exact hT _ _ hL
theorem Mid.frames (x : Mid g' L' fs m led e T h) (B : Below A base fs g') (hf : env.frame = some L') (hk : env.scope.kind = .function) : h.FunFrames base (env :: fs) := by
  have hnew : base.get? L' = none := by
    cases hq : base.get? L' with
    | none => rfl
    | some o => exact absurd (Nat.lt_of_lt_of_le (Heap.lt_size (B.stays L' o hq)) x.above) (Nat.lt_irrefl _)
  exact .cons (by rw [hk]; decide) hf x.ns hnew (frames_at B.frames fun b hb o ho => let ⟨sl, hs⟩ := x.slid b o ho hb; ⟨_, hs, rfl⟩)
theorem Mid.postE (x : Mid (hideAll s.heap (adr g)) s.heap.objs.size fs m led e T h) (ex : ExcAt h e T c dd .none) : PostE fs s.heap g h led e T c dd where
  sl := ⟨fun b o q n n' => x.keep b o (hideAll_get _ q n') n, fun b o q n n' => x.slid b o (hideAll_get _ q n') n⟩
  got := fun p hp => (x.got p hp).1
  new := fun p hp => by
    by_cases hm : p.1 ∈ adr g
    · exact .inl hm
    · refine .inr ?_
      cases q : s.heap.get? p.1 with
      | none => rfl
      | some o => have := (x.got p hp).2.2; rw [hideAll_get _ q hm] at this; cases this
  dj := x.dj
  exc := ex
  fe := fun b o q => Nat.lt_trans (Heap.lt_size q) x.le
  fT := fun b o q => Nat.lt_trans (Heap.lt_size q) x.lT
  ne := x.ne
  nT := x.nT
theorem Mid.ground (x : Mid g' L' fs m led e T h) (B : Below A base fs g') : ∃ g₂, KtsTurn (frs fs) g' g₂ ∧ Fr g₂ L' h m ∧ News g₂ L' h led ∧ Below A base fs g₂ := by
  obtain ⟨T, S⟩ := kts_turn_at (fs := frs fs) (g := g') (h := h) (fun b hb => frs_ground B hb) x.keep x.slid
  exact ⟨_, T, ⟨x.ns, S, by rw [T.size]; exact x.above⟩, fun p hp => ⟨(x.got p hp).1, (x.got p hp).2.1, T.none_ _ (x.got p hp).2.2⟩, ⟨B.stack, fun b o e => T.other b o (B.stays b o e) (fun hm => by
    rw [(B.frames.mem hm).1] at e; cases e), B.frames.of_keeps fun b o e _ => let ⟨sl, hs⟩ := T.up e; ⟨_, hs, rfl⟩⟩⟩

/-- what is known when the exception has left the callee -/
def Thru (Pe : Option Addr → Led → Prop) (c : Value) (g' : Heap) (L' : Addr) (fs : List Env) (env : Env) (s : Shared) (v : Value) (s' : Shared) : Prop :=
  ∃ e T dd G m gc rest gx h' tk, v = .ref e ∧ s' = { s with heap := h', toks := tk } ∧ Fr g' L' G m ∧ News g' L' G (gc ++ rest) ∧ (adr (gc ++ rest)).Nodup ∧ PostE (env :: fs) G gc h' gx e T c dd ∧ Pe dd (gx ++ rest)
end
section
variable {w : World} {A : Around} {base h₀ : Heap} {fs : List Env} {n : Nat} {s : Shared} {g led rest : Led} {L : Addr} {m : Str → Option Value} {env : Env} {mean : ExcName → Option Value} {mg mb : Str → Option Value}
  {f : Addr} {args : List Value} {Pe : Option Addr → Led → Prop} {c : Value} {E : Value → Shared → Prop} {Q : Value → Shared → Prop}
theorem SpecE.use (S : SpecE n w f args g c Pe) (B : Below A base fs h₀) (F : Fr h₀ L s.heap m) (X : (MineHead.hd.heap_1 w.params).In h₀) (T : Top PV LO mean mg mb h₀) (R : Room (A.deeper env) n) (N : News h₀ L s.heap led)
    (hm : ∀ p ∈ g, p ∈ led) (D : (adr g).Nodup)
    (k : ∀ e T dd gx h' tk, Pe dd gx → PostE (env :: fs) s.heap g h' gx e T c dd → E (.ref e) { s with heap := h', toks := tk })
    (hf : env.frame = some L := by rfl) (hk : env.scope.kind = .function := by rfl) :
    wpAny (model PR w) (A.deeper env) (call (.ref f) args []) Q E s :=
  wpAny_call (S _ base (env :: fs) s _ (Pre.of B F X T hf hk R (fun p hp => N p (hm p hp)) D) k)
theorem SpecES.use (S : SpecES n w f args g c Pe) (B : Below A base fs h₀) (F : Fr h₀ L s.heap m) (X : (MineHead.hd.heap_1 w.params).In h₀) (T : Top PV LO mean mg mb h₀) (R : Room (A.deeper env) n) (N : News h₀ L s.heap led)
    (hm : ∀ p ∈ g, p ∈ led) (D : (adr g).Nodup)
    (k : ∀ e T dd gx h' tk, Pe dd gx → PostE (env :: fs) s.heap g h' gx e T c dd → E (.ref e) { s with heap := h', toks := tk })
    (hf : env.frame = some L := by rfl) (hk : env.scope.kind = .function := by rfl) :
    wpS (model PR w) (A.deeper env) (call (.ref f) args []) Q E s :=
  wpS_call (S _ base (env :: fs) s _ (Pre.of B F X T hf hk R (fun p hp => N p (hm p hp)) D) k)
/-- an own class called, its __init__ raises -/
theorem SpecES.make {C fI : Addr} (S : ∀ x dx, SpecES n w fI (.ref x :: args) [(x, instObj C dx), (dx, dictOf [] 0)] c Pe)
    (hm : makesIn (MineHead.hd.heap_1 w.params) C = true) (hi : findIn (MineHead.hd.heap_1 w.params) (.ref C) "__init__" = some (some (.ref fI))) (hf : isFn (MineHead.hd.heap_1 w.params) (.ref fI) = true)
    (B : Below A base fs h₀) (F : Fr h₀ L s.heap m) (X : (MineHead.hd.heap_1 w.params).In h₀) (T : Top PV LO mean mg mb h₀) (R : Room (A.deeper env) (n + 1)) (N : News h₀ L s.heap led)
    (hs : ∀ p ∈ rest, p ∈ led) (D : (adr rest).Nodup)
    (k : ∀ e T dd G gc gx h' tk, Fr h₀ L G m → News h₀ L G (gc ++ rest) → (adr (gc ++ rest)).Nodup → PostE (env :: fs) G gc h' gx e T c dd → Pe dd gx → E (.ref e) { s with heap := h', toks := tk })
    (hfr : env.frame = some L := by rfl) (hk : env.scope.kind = .function := by rfl) :
    wpS (model PR w) (A.deeper env) (call (.ref C) args) Q E s := by
  refine S_make F (fun p hp => N p (hs p hp) : News h₀ L s.heap rest) X hm hi hf fun x dx h' F' N' l1 l2 => ?_
  have Dr : (adr ([(x, instObj C dx), (dx, dictOf [] 0)] ++ rest)).Nodup := by
    show (x :: dx :: adr rest).Nodup
    have lx : ∀ b ∈ adr rest, b < dx := fun b hb => by obtain ⟨p, hp, rfl⟩ := List.mem_map.mp hb; exact l1 p hp
    refine List.nodup_cons.mpr ⟨fun q => ?_, List.nodup_cons.mpr ⟨fun q => absurd (lx _ q) (Nat.lt_irrefl _), D⟩⟩
    rcases List.mem_cons.mp q with q | q
    · rw [q] at l2; exact Nat.lt_irrefl _ l2
    · exact absurd (Nat.lt_trans l2 (Nat.lt_of_lt_of_le (lx _ q) (Nat.le_refl _))) (Nat.lt_irrefl _)
  have pre := Pre.of (s := { s with heap := h' }) B F' X T hfr hk R (fun p hp => N' p (List.mem_append_left rest hp) : News h₀ L h' [(x, instObj C dx), (dx, dictOf [] 0)]) (by
    rw [adr, List.map_append, List.nodup_append] at Dr; exact Dr.1)
  exact S x dx _ base (env :: fs) _ _ (pre.under C args) fun e T dd gx h'' tk hP hp => k e T dd h' _ gx h'' tk F' N' Dr hp hP
end
section
variable {w : World} {q : Str} {body : Expr} {scope : Scope} {clos : List (Str × Addr)} {f : Addr} {o : Obj} {cs g : Led} {n : Nat} {Pe : Option Addr → Led → Prop} {c : Value}
theorem codeS_exprE {prog : Program} {A : Around} {s : Shared} {R : Result → Shared → Prop} {e : Expr} {env : Env}
    (h : wpS (model prog w) (A.deeper env) (eval e env) (fun v s' => R (.ok (.ret v)) s') (fun e s' => wpAny (model prog w) (A.deeper env) (leaving env e) (fun _ s'' => R (.error e) s'') (fun e' s'' => R (.error e') s'') s') s) : codeS (model prog w) A (.expr e env) R s := by
  refine codeS_of_tree rfl ?_
  show wpS _ (A.deeper env) (do point; ret (← (eval e env).onRaise (leaving env))) _ _ s
  exact wpS_step (wpAny_point (wpS_bind (wpS_onRaise (wpS_mono h (fun v s' h' => wpS_pure h') fun _ _ h' => wpS_of h'))))
/-- a lambda whose body raises -/
theorem SpecES.introL (hl : IsLam q body scope clos o cs) (hf : (f, o) ∈ g) (hcs : ∀ p ∈ cs, p ∈ g)
    (h : ∀ (A : Around) (base : Heap) (fs : List Env) (s : Shared) (g' : Heap) (L' : Addr) (h₁ : Heap) (cdv : Value) (mean : ExcName → Option Value) (mg mb : Str → Option Value), Room (A.deeper (envX q scope L' f cdv clos)) n → Fr g' L' h₁ (fun _ => none) → News g' L' h₁ g → (adr g).Nodup →
      Below A base fs g' → (MineHead.hd.heap_1 w.params).In g' → Top PV LO mean mg mb g' → (∀ p ∈ g, p.1 < L') →
      wpS (model PR w) (A.deeper (envX q scope L' f cdv clos)) (eval body (envX q scope L' f cdv clos)) (fun _ _ => False) (fun v s' => Thru Pe c g' L' fs (envX q scope L' f cdv clos) s v s') { s with heap := h₁, toks := s.toks })
    (hco : scope.isCoroutine = false := by rfl) (hgen : scope.isGenerator = false := by rfl) (hk : scope.kind = .function := by rfl) (hcell : ∀ x ∈ scope.names, x.2 ≠ .cell := by decide) : SpecES (n + 1) w f [] g c Pe := by
  intro A base fs s R p k
  obtain ⟨X, lim⟩ := of_hidden p
  obtain ⟨mean, mg, mb, T⟩ := p.top
  obtain ⟨pm, c', ctv, oc, vs, t, rfl, e2, e3, e4⟩ := hl
  have hrec : s.heap.CodeRec (.ref c') q := ⟨c', oc, vs, t, rfl, p.got _ (hcs _ e2), e3, e4⟩
  refine codeS_call_fnE (fd := kla_fn "<lambda>" q ⟨[], [], none, [], [], none, []⟩ body scope clos pm (.ref c') ctv) p.room.lim (p.got _ hf) rfl hco hgen rfl hrec ?_
  refine wpAny_of_eq (a := []) rfl ?_
  refine wpAny_newFunctionEnv hcell (fun x hx => nomatch hx) (fun h₁ hns hsb => ⟨lim.fresh _ hsb, codeS_exprE ?_⟩) hk
  have hk₁ : ∀ b o, s.heap.get? b = some o → h₁.get? b = some o := fun b o e => hsb.extBut b o (Nat.ne_of_lt (Heap.lt_size e)) (Heap.get?_push_of_some _ e)
  refine wpS_mono (h A base fs s _ s.heap.objs.size h₁ (.ref c') mean mg mb (p.room.deeper _) ⟨hns, fun b o e => hk₁ b o (of_hideAll _ e), Nat.le_of_eq (hideAll_size _ _)⟩
    (fun q hq => ⟨hk₁ _ _ (p.got q hq), Nat.ne_of_lt (Heap.lt_size (p.got q hq)), hideAll_none _ (List.mem_map_of_mem hq)⟩) p.dj p.bel p.kin T (fun q hq => Heap.lt_size (p.got q hq)))
    (fun v s' hl => hl.elim) fun v s' hl => ?_
  obtain ⟨e, Te, dd, G, m, gc, rest, gx, h', tk, rfl, rfl, F', N', D', P, hP⟩ := hl
  have M0 := Mid.of F' N' D' p.bel (env := envX q scope s.heap.objs.size f (.ref c') clos) rfl P
  refine x_leave_next (s := { s with heap := h', toks := tk }) (Around.frames_deeper p.bel.stack) (M0.frames p.bel rfl hk) rfl P.exc fun h₂ T₂ hT x₂ sl => ?_
  exact k e T₂ dd _ h₂ tk hP ((M0.step p.bel rfl sl (.inr hT)).postE x₂)
end
example : True := by w_top off; trivial
open Builtin Builtin.ObjectAttr in
theorem xm_get {prog : Program} {w : World} {A : Around} {E : Value → Shared → Prop} {s : Shared} {x C : Addr} {K : Frag} {ox : Obj} {od : Option Obj} {name : Str} {v : Value} {expr : Bool} {Q : Value → Shared → Prop} (X : K.In s.heap) (I : InstAt s.heap x ox C od)
    (hga : findIn K (.ref C) "__getattribute__" = some (some (.builtin "BaseException.__getattribute__"))) (hng : findIn K (.ref C) "__getattr__" = some none) (hsub : mroIn K C (.type "BaseException") = some true)
    (hf : findObj K C od name = some (.value v)) (hh : handedIn v = true) (h : Q v { s with toks := s.toks + 1 }) : wpAny (model prog w) A (getAttr (.ref x) name expr) Q E s := by
  have FB := PySem.F.attrBase_ValueError
  obtain ⟨hh', g, d, t, os⟩ := s
  have L0 := I.type (M := model prog w)
  have L1 := looks_findIn (M := model prog w) X hga
  have L2 := looks_findIn (M := model prog w) X hng
  have L3 := looks_find (M := model prog w) X I hf
  have L4 : Looks (model prog w) hh' (isInstance (.ref x) (.type "BaseException")) true := L0.andThen (looks_mroIn X hsub)
  unfold getAttr getAttrBy
  refine wpAny_bind (wpAny_mkText (wpAny_holding (wpAny_bind (L0.at (wpAny_bind (L1.at ?_))))))
  have hx2 : (Value.builtin "BaseException.__getattribute__" == Value.builtin "object.__getattribute__") = false := by decide +kernel
  have hx1 : (onTheHeap (Value.ref C) && Value.builtin "BaseException.__getattribute__" == Value.builtin "object.__getattribute__") = false := by rw [hx2]; rfl
  dsimp only
  rw [if_neg (by rw [hx1]; decide)]
  unfold getAttrByItsOwn
  refine wpAny_bind (m := hookBefore (.ref C)) (L2.at ?_)
  refine wpAny_bind (wpAny_attempt (wpAny_holding ?_))
  have hx0 : (expr && onTheHeap (Value.builtin "BaseException.__getattribute__")) = false := by cases expr <;> rfl
  unfold callGetattribute
  rw [if_neg (by rw [hx0]; decide)]
  unfold boundAndCalled
  rw [FB.ga.bind (.ref x)]
  refine wpAny_bind (wpAny_pure ?_)
  have hk : builtinKind "BaseException.__getattribute__" = some .slot := by decide +kernel
  have hsplit : splitId "BaseException.__getattribute__" = some ("BaseException", "__getattribute__") := by decide +kernel
  have L4' : Looks (model prog w) (⟨hh', g, d, t + 1, os⟩ : Shared).heap (isInstance (.ref x) (.type "BaseException")) true := L4
  refine wpAny_call (codeAny_call_builtin FB.ga.plain PySem.F.entry_bexc_ga (@check_slot (model prog w) _ _ ⟨hh', g, d, t + 1, os⟩ "BaseException.__getattribute__" "BaseException" "__getattribute__" (.ref x) [.str name t] [] _ hk hsplit L4' (PySem.F.args_bexc_ga (.ref x) (.str name t)) ?_))
  unfold Builtin.«object.__getattribute__»
  refine wpAny_bind (wpAny_of_eq (a := (Value.ref x, [Value.str name t])) rfl ?_)
  refine wpAny_bind (wpAny_of_eq (a := name) rfl ?_)
  refine wpAny_bind (L0.at (wpAny_bind (L3.at ?_)))
  refine wpAny_pure ?_
  show wpAny _ _ (handedOut v) _ _ _
  rw [handedOut_of hh]
  exact wpAny_pure h
section
variable {w : World} {A : Around} {base h₀ : Heap} {fs : List Env} {n : Nat} {s : Shared} {led rest : Led} {L C fI N' : Addr} {m : Str → Option Value} {env : Env} {mean : ExcName → Option Value} {mg mb : Str → Option Value}
  {args : List Value} {E : Value → Shared → Prop} {Q : Value → Shared → Prop} {nm q : Str} {k0 k1 k2 k3 k5 : Option Value}
/-- an own exception is made -/
theorem exc_use {P : Addr → Led → Prop} (S : ∀ e t0, Spec n w fI (.ref e :: args) [(e, excObj C none t0), (t0, tupObj args)] (fun v g => v = .none ∧ P e g))
    (hK : (MineHead.hd.heap_1 w.params).lookup C = some (xcls nm q C N' k0 k1 k2 k3 k5)) (hi : findIn (MineHead.hd.heap_1 w.params) (.ref C) "__init__" = some (some (.ref fI))) (hf : isFn (MineHead.hd.heap_1 w.params) (.ref fI) = true) (hz : args.length ≤ sizeLine)
    (B : Below A base fs h₀) (F : Fr h₀ L s.heap m) (X : (MineHead.hd.heap_1 w.params).In h₀) (T : Top PV LO mean mg mb h₀) (R : Room (A.deeper env) (n + 1)) (N : News h₀ L s.heap led)
    (hs : ∀ p ∈ rest, p ∈ led) (D : (adr rest).Nodup)
    (k : ∀ e g' h' tk, P e g' → @LT.lt Nat _ L e → Fr h₀ L h' m → News h₀ L h' (g' ++ rest) → (adr (g' ++ rest)).Nodup → Q (.ref e) { s with heap := h', toks := tk })
    (hfr : env.frame = some L := by rfl) (hk : env.scope.kind = .function := by rfl) :
    wpAny (model PR w) (A.deeper env) (call (.ref C) args) Q E s := by
  have F2 := (F.push (tupObj args)).push (excObj C none s.heap.objs.size)
  have N2 := (News.push (F := F) (fun p hp => N p (hs p hp) : News h₀ L s.heap rest) (tupObj args)).push (F.push _) (excObj C none s.heap.objs.size)
  rw [Heap.size_push] at N2
  have lt : ∀ b ∈ adr rest, @LT.lt Nat _ b s.heap.objs.size := fun b hb => by obtain ⟨p, hp, rfl⟩ := List.mem_map.mp hb; exact Heap.lt_size (N p (hs p hp)).1
  obtain ⟨oL, _, _, hL, _⟩ := F.ns
  have lL : @LT.lt Nat _ L (s.heap.objs.size + 1) := Nat.lt_trans (Heap.lt_size hL) (Nat.lt_succ_self _)
  have Dr : (adr ([(s.heap.objs.size + 1, excObj C none s.heap.objs.size), (s.heap.objs.size, tupObj args)] ++ rest)).Nodup := by
    show ((s.heap.objs.size + 1) :: s.heap.objs.size :: adr rest).Nodup
    refine List.nodup_cons.mpr ⟨fun z => ?_, List.nodup_cons.mpr ⟨fun z => absurd (lt _ z) (Nat.lt_irrefl _), D⟩⟩
    rcases List.mem_cons.mp z with z | z
    · exact absurd z (Nat.ne_of_gt (Nat.lt_succ_self _))
    · exact absurd (Nat.lt_trans (Nat.lt_succ_self _) (lt _ z)) (Nat.lt_irrefl _)
  have pre := Pre.of (s := { s with heap := (s.heap.push (tupObj args)).push (excObj C none s.heap.objs.size) }) B F2 X T hfr hk R (fun p hp => N2 p (List.mem_append_left rest hp) : News h₀ L _ [(s.heap.objs.size + 1, excObj C none s.heap.objs.size), (s.heap.objs.size, tupObj args)]) (by
    rw [adr, List.map_append, List.nodup_append] at Dr; exact Dr.1)
  obtain ⟨hh, g, d, t, os⟩ := s
  refine xm_call (X.keeps F.keep) (F.keep _ _ (X _ _ hK)) hi hf hz ?_
  refine S _ _ _ base (env :: fs) _ _ (pre.under C args) fun v g' h'' tk hv hp => ?_
  obtain ⟨rfl, hP⟩ := hv
  obtain ⟨F'', N'', D''⟩ := hp.back F2 N2 Dr
  exact ⟨rfl, k _ g' h'' tk hP lL F'' N'' D''⟩
end

theorem fills_P54 (w : World) : PySem.Challenge.rw_nu0085_01.row.toRowW.prog = PySem.Challenge.rw_nu0085_01.row.toRowW.prog → MineHead.hd.heap_1 w.params = MineHead.hd.heap_1 w.params := by
  k_fill
  exact fun _ => rfl

theorem binit_spec (w : World) (C e t0 : Addr) (v0 : List Value) (r : Str) (t : Tok) (hC : C = 64 ∨ C = 45) : Spec 1 w 29 [.ref e, .str r t] [(e, excObj C none t0), (t0, tupObj v0)]
    (fun v g => v = .none ∧ ∃ D t2 t3, g = [(e, excObj C (some D) t2), (D, dictOf [⟨PyData.keyHash w.params "reason", .str "reason" t3, .str r t⟩] 1)]) := by
  obtain ⟨nm, q, N', k0, k1, k2, k3, k5, hK, hs, ht⟩ : ∃ nm q N' k0 k1 k2 k3 k5, (MineHead.hd.heap_1 w.params).lookup C = some (xcls nm q C N' k0 k1 k2 k3 k5) ∧ findIn (MineHead.hd.heap_1 w.params) (.ref C) "__setattr__" = some (some (.builtin "object.__setattr__")) ∧ takerIn (MineHead.hd.heap_1 w.params) C "reason" = some none := by
    rcases hC with rfl | rfl
    · exact ⟨_, _, _, _, _, _, _, _, by k_is, by k_is, by k_is⟩
    · exact ⟨_, _, _, _, _, _, _, _, by k_is, by k_is, by k_is⟩
  refine' Spec.intro (binds := [("self", .ref e), ("reason", .str r t)]) ?ho ?hcd ?hb ?hl ?_ ?c1 ?c2 ?c3 ?c4
  case ho => k_is
  case hcd => k_is
  case hb => exact fun s X => binds_K X rfl (by k_is) rfl rfl rfl
  case hl => exact locs rfl
  case c1 => exact rfl
  case c2 => exact rfl
  case c3 => exact rfl
  case c4 => decide
  intro A base fs s g' L' h' mean mg mb kM R' F' N' D' B' X' T' l1
  w_on
  skip

  k_lt l1
  show wpAny _ _ _ _ _ _
  k_fold
  k_steps
  refine' method_type (T := "ValueError") ?F ?X (by kernel_rfl) (by decide +kernel) ?e ?h ?_
  case F => k_asm
  case X => k_asm
  case e => k_is
  case h => k_handed
  k_steps
  have ne1 : t0 ≠ e := Ne.symm (by simpa [adr] using D')
  refine xm_init (led := [(t0, tupObj v0)]) (by k_asm) (by k_asm) (fun p hp => by rw [List.mem_singleton.mp hp]; exact ne1) (X' _ _ hK) (by show 1 ≤ 16777216; decide) ?_
  intro t2 h2 F2 N2 l2 l3
  clear D'
  dsimp only
  k_steps
  refine xm_setNew (led := [(t2, tupObj [.str r t]), (t0, tupObj v0)]) (by k_asm) N2 (fun p hp => ?_) X' hK hs ht ?_
  · rcases List.mem_cons.mp hp with rfl | hp
    · exact Nat.ne_of_gt l3
    · rw [List.mem_singleton.mp hp]; exact ne1
  intro D h3 F3 N3 l4 l5
  dsimp only
  k_steps
  refine Leave.intro (g'' := [(e, excObj C (some D) t2), (D, dictOf [⟨PyData.keyHash w.params "reason", .str "reason" _, .str r t⟩] 1)]) ⟨rfl, D, t2, _, rfl⟩ F3 N3 (by walk_at "m_sub") ?_
  show [e, D].Nodup
  simp only [List.nodup_cons, List.mem_singleton, List.not_mem_nil, not_false_eq_true, List.nodup_nil, and_true]
  exact Nat.ne_of_lt l5

theorem ainit_spec (w : World) (e t0 : Addr) (v0 : List Value) (a : Int) (t : Tok) (ha : a = -1 ∨ a = 8 ∨ a = 9 ∨ a = 0) : Spec 2 w 61 [.ref e, .int a t] [(e, excObj 64 none t0), (t0, tupObj v0)]
    (fun v g => v = .none ∧ ∃ D t2 es k, g = [(e, excObj 64 (some D) t2), (D, dictOf es k)] ∧ getL "address" es = some (some (.int a t))) := by
  obtain ⟨nm, q, N', k0, k1, k2, k3, k5, hK, hs, ht⟩ : ∃ nm q N' k0 k1 k2 k3 k5, (MineHead.hd.heap_1 w.params).lookup 64 = some (xcls nm q 64 N' k0 k1 k2 k3 k5) ∧ findIn (MineHead.hd.heap_1 w.params) (.ref 64) "__setattr__" = some (some (.builtin "object.__setattr__")) ∧ takerIn (MineHead.hd.heap_1 w.params) 64 "address" = some none := ⟨_, _, _, _, _, _, _, _, by k_is, by k_is, by k_is⟩
  refine' Spec.intro (binds := [("self", .ref e), ("address", .int a t)]) ?ho ?hcd ?hb ?hl ?_ ?c1 ?c2 ?c3 ?c4
  case ho => k_is
  case hcd => k_is
  case hb => exact fun s X => BindsTo.of_eq rfl
  case hl => exact locs rfl
  case c1 => exact rfl
  case c2 => exact rfl
  case c3 => exact rfl
  case c4 => decide
  intro A base fs s g' L' h' mean mg mb kM R' F' N' D' B' X' T' l1
  w_on
  skip

  k_lt l1
  rcases ha with rfl | rfl | rfl | rfl
  all_goals (show wpAny _ _ _ _ _ _)
  all_goals k_fold
  all_goals k_steps
  all_goals refine' m_go (Spec.use1 (binit_spec w 64 e t0 v0 _ _ (.inl rfl)) B' (by k_asm) X' T' (R'.le (by decide)) (by k_asm) (by walk_at "m_sub") (by walk_at "m_dj") ?_)
  all_goals intro v g₂ h₂ tk₂ hv F₂ N₂ D₂
  all_goals obtain ⟨rfl, D, t2, t3, rfl⟩ := hv
  all_goals k_steps
  all_goals refine xm_setOld (dx := D) (led := []) (by k_asm) N₂ (fun p hp => nomatch hp) (by simpa [adr] using D₂) X' hK hs ht (by rfl) (by rfl) (by show 2 ≤ 1000; decide) ?_
  all_goals intro h3 F3 N3
  all_goals k_steps
  all_goals obtain ⟨es', k', N4, hl'⟩ : ∃ es k, News g' L' h3 [(e, excObj 64 (some D) t2), (D, dictOf es k)] ∧ getL "address" es = some (some (.int _ t)) := ⟨_, _, N3, by rfl⟩
  all_goals exact Leave.intro (g'' := [(e, excObj 64 (some D) t2), (D, dictOf es' k')]) ⟨rfl, D, t2, es', k', rfl, hl'⟩ F3 N4 (fun p hp => hp) (show [e, D].Nodup from D₂)
section
variable {M : Model} {A : Around} {E : Value → Shared → Prop} {env : Env} {s : Shared}
theorem x_raiseStmt {x : Sem Value} {Q : Flow → Shared → Prop} (hh : A.handled = none)
    (h : wpAny M A x (fun v s₁ => ∃ e oe C nm q N' k0 k1 k2 k3 k5, v = .ref e ∧ s₁.heap.get? C = some (xcls nm q C N' k0 k1 k2 k3 k5) ∧ s₁.heap.get? e = some oe ∧ oe.cls = .ref C ∧ (∃ vs, oe.data = .fields vs ∧ vs[1]? = some .none) ∧ E (.ref e) s₁) E s) : wpAny M A (raiseStmt env (some x) none) Q E s := by
  unfold raiseStmt
  refine wpAny_bind (wpAny_mono h (fun v s₁ h₁ => ?_) fun _ _ x => x)
  obtain ⟨e, oe, C, nm, q, N', k0, k1, k2, k3, k5, rfl, hC, he, hc, ⟨vs, hd, h1⟩, hE⟩ := h₁
  obtain ⟨hp, g, d, tk, os⟩ := s₁
  have hcB : (Value.ref C :: bmX).contains (.type "BaseException") = true := by rw [List.contains_cons]; simp
  repeat (first | (with_reducible refine wpAny_loadPart_at he ?_; rw [hc]) | (with_reducible refine wpAny_loadPart_at he ?_; rw [hd]) | with_reducible refine wpAny_loadPart_at he ?_ | with_reducible refine wpAny_loadPart_at hC ?_ | (with_reducible refine wpAny_isSubtype_exc hC ?_; rw [hcB]) | wp_step)
  rw [hd]
  refine wpAny_pure ?_
  rw [h1]
  refine wpAny_pure ?_
  rw [if_neg (by decide)]
  exact wpAny_pure (wpAny_raiseNew_none hh hE)
theorem x_Raise {e : Expr} {pos : Pos} {Q : Flow → Shared → Prop} (hh : A.handled = none)
    (h : wpAny M A (eval e env) (fun v s₁ => ∃ e oe C nm q N' k0 k1 k2 k3 k5, v = .ref e ∧ s₁.heap.get? C = some (xcls nm q C N' k0 k1 k2 k3 k5) ∧ s₁.heap.get? e = some oe ∧ oe.cls = .ref C ∧ (∃ vs, oe.data = .fields vs ∧ vs[1]? = some .none) ∧ E (.ref e) s₁) E s) : wpAny M A (exec (.Raise (some e) none pos) env) Q E s := by
  rw [arm_exec_Raise]
  refine wpAny_bind (wpAny_standAt (x_raiseStmt hh ?_))
  exact wpAny_bind (wpAny_mono h (fun v s₁ h₁ => wpAny_bind (wpAny_standAt (wpAny_pure h₁))) fun _ _ x => x)
end
example : True := by w_top off; trivial
abbrev badPe (g : Led) (v : Value) (dd : Option Addr) (g' : Led) : Prop := ∃ D es k, dd = some D ∧ g' = (D, dictOf es k) :: g ∧ getL "address" es = some (some v)
abbrev argPe (g : Led) (dd : Option Addr) (g' : Led) : Prop := ∃ D es k, dd = some D ∧ g' = (D, dictOf es k) :: g
theorem true_cut {M : Model} {A : Around} {E : Value → Shared → Prop} {s s0 : Shared} {c : Sem Bool} {Q : Bool → Shared → Prop} {h : Heap} (h1 : wpAny M A c (fun b s' => ∃ tk, b = true ∧ s' = { s0 with heap := h, toks := tk }) E s) (h2 : ∀ tk, Q true { s0 with heap := h, toks := tk }) : wpAny M A c Q E s :=
  wpAny_mono h1 (by rintro _ _ ⟨tk, rfl, rfl⟩; exact h2 tk) fun _ _ e => e
theorem fills_P56 (w : World) : PySem.Challenge.rw_nu0085_01.row.toRowW.prog = PySem.Challenge.rw_nu0085_01.row.toRowW.prog → MineHead.hd.heap_1 w.params = MineHead.hd.heap_1 w.params := by
  k_fill
  exact fun _ => rfl

theorem load_bad (w : World) (ua : Addr) (x : UPh) (d : UD) (place size : Int) (t u : Tok) (hb : ((place = -1 ∨ place = 8 ∨ place = 9) ∧ size = 1) ∨ (place = 0 ∧ (size = 2 ∨ size = 4 ∨ size = 0))) :
    SpecE 4 w 158 [.ref ua, .int place t, .int size u] (uLed w.params ua x d) (.ref 64) (badPe (uLed w.params ua x d) (.int place t)) := by
  have ha : place = -1 ∨ place = 8 ∨ place = 9 ∨ place = 0 := by omega
  obtain ⟨nm, q, N', k0, k1, k2, k3, k5, hK⟩ : ∃ nm q N' k0 k1 k2 k3 k5, (MineHead.hd.heap_1 w.params).lookup 64 = some (xcls nm q 64 N' k0 k1 k2 k3 k5) := ⟨_, _, _, _, _, _, _, _, by k_is⟩
  refine' SpecE.intro (binds := [("self", .ref ua), ("place", .int place t), ("size", .int size u)]) ?ho ?hcd ?hb ?hl ?_ ?c1 ?c2 ?c3 ?c4
  case ho => k_is
  case hcd => k_is
  case hb => exact fun s X => BindsTo.of_eq rfl
  case hl => exact locs rfl
  case c1 => exact rfl
  case c2 => exact rfl
  case c3 => exact rfl
  case c4 => decide
  intro A base fs s g' L' h' mean mg mb kM R' F' N' D' B' X' T' l1
  w_on
  skip

  show wpAny _ _ _ _ _ _
  k_fold
  iterate 3 walk1
  refine true_cut (s0 := s) (h := h') ?_ fun tk => ?_
  · rcases hb with ⟨rfl | rfl | rfl, rfl⟩ | ⟨rfl, rfl | rfl | rfl⟩
    all_goals k_steps
    all_goals exact ⟨_, rfl, rfl⟩
  k_steps
  refine' m_go (exc_use (rest := uLed w.params ua x d) (fun e t0 => ainit_spec w e t0 _ _ _ ha) hK (by k_is) (by k_is) (by show 1 ≤ 16777216; decide) B' (by k_asm) X' T' (R'.le (by decide)) (by k_asm) (fun p hp => hp) D' ?_)
  rintro e g₂ h₂ tk₂ ⟨D, t2, es, k, rfl, hl⟩ lt F₂ N₂ D₂
  refine ⟨e, _, 64, _, _, _, _, _, _, _, _, rfl, F₂.keep _ _ (X' _ _ hK), (N₂ _ (.head _)).1, rfl, ⟨_, rfl, rfl⟩, ?_⟩
  try k_unfold
  exact ⟨e, _, _, h₂, tk₂, _, (D, dictOf es k) :: uLed w.params ua x d, rfl, rfl, lt, F₂, N₂, D₂, rfl, rfl, rfl, D, es, k, rfl, rfl, hl⟩

theorem store_bad (w : World) (ua : Addr) (x : UPh) (d : UD) (place size value : Int) (t u u2 : Tok) (hb : ((place = -1 ∨ place = 8 ∨ place = 9) ∧ size = 1) ∨ (place = 0 ∧ (size = 2 ∨ size = 4 ∨ size = 0))) :
    SpecE 4 w 165 [.ref ua, .int place t, .int size u, .int value u2] (uLed w.params ua x d) (.ref 64) (badPe (uLed w.params ua x d) (.int place t)) := by
  have ha : place = -1 ∨ place = 8 ∨ place = 9 ∨ place = 0 := by omega
  obtain ⟨nm, q, N', k0, k1, k2, k3, k5, hK⟩ : ∃ nm q N' k0 k1 k2 k3 k5, (MineHead.hd.heap_1 w.params).lookup 64 = some (xcls nm q 64 N' k0 k1 k2 k3 k5) := ⟨_, _, _, _, _, _, _, _, by k_is⟩
  refine' SpecE.intro (binds := [("self", .ref ua), ("place", .int place t), ("size", .int size u), ("value", .int value u2)]) ?ho ?hcd ?hb ?hl ?_ ?c1 ?c2 ?c3 ?c4
  case ho => k_is
  case hcd => k_is
  case hb => exact fun s X => BindsTo.of_eq rfl
  case hl => exact locs rfl
  case c1 => exact rfl
  case c2 => exact rfl
  case c3 => exact rfl
  case c4 => decide
  intro A base fs s g' L' h' mean mg mb kM R' F' N' D' B' X' T' l1
  w_on
  skip

  show wpAny _ _ _ _ _ _
  k_fold
  iterate 3 walk1
  refine true_cut (s0 := s) (h := h') ?_ fun tk => ?_
  · rcases hb with ⟨rfl | rfl | rfl, rfl⟩ | ⟨rfl, rfl | rfl | rfl⟩
    all_goals k_steps
    all_goals exact ⟨_, rfl, rfl⟩
  k_steps
  refine' m_go (exc_use (rest := uLed w.params ua x d) (fun e t0 => ainit_spec w e t0 _ _ _ ha) hK (by k_is) (by k_is) (by show 1 ≤ 16777216; decide) B' (by k_asm) X' T' (R'.le (by decide)) (by k_asm) (fun p hp => hp) D' ?_)
  rintro e g₂ h₂ tk₂ ⟨D, t2, es, k, rfl, hl⟩ lt F₂ N₂ D₂
  refine ⟨e, _, 64, _, _, _, _, _, _, _, _, rfl, F₂.keep _ _ (X' _ _ hK), (N₂ _ (.head _)).1, rfl, ⟨_, rfl, rfl⟩, ?_⟩
  try k_unfold
  exact ⟨e, _, _, h₂, tk₂, _, (D, dictOf es k) :: uLed w.params ua x d, rfl, rfl, lt, F₂, N₂, D₂, rfl, rfl, rfl, D, es, k, rfl, rfl, hl⟩

theorem read_bad (w : World) (ua ca : Addr) (y : CPh) (e : CD) (t : Tok) : SpecE 4 w 227 [.ref ca, .int (-1) t] (cLed w.params ca y ua e) (.ref 45) (argPe (cLed w.params ca y ua e)) := by
  obtain ⟨nm, q, N', k0, k1, k2, k3, k5, hK⟩ : ∃ nm q N' k0 k1 k2 k3 k5, (MineHead.hd.heap_1 w.params).lookup 45 = some (xcls nm q 45 N' k0 k1 k2 k3 k5) := ⟨_, _, _, _, _, _, _, _, by k_is⟩
  refine' SpecE.intro (binds := [("self", .ref ca), ("count", .int (-1) t)]) ?ho ?hcd ?hb ?hl ?_ ?c1 ?c2 ?c3 ?c4
  case ho => k_is
  case hcd => k_is
  case hb => exact fun s X => BindsTo.of_eq rfl
  case hl => exact locs rfl
  case c1 => exact rfl
  case c2 => exact rfl
  case c3 => exact rfl
  case c4 => decide
  intro A base fs s g' L' h' mean mg mb kM R' F' N' D' B' X' T' l1
  w_on
  skip

  show wpAny _ _ _ _ _ _
  k_fold
  k_steps
  refine' m_go (exc_use (rest := cLed w.params ca y ua e) (fun e t0 => binit_spec w 45 e t0 _ _ _ (.inr rfl)) hK (by k_is) (by k_is) (by show 1 ≤ 16777216; decide) B' (by k_asm) X' T' (R'.le (by decide)) (by k_asm) (fun p hp => hp) D' ?_)
  rintro e g₂ h₂ tk₂ ⟨D, t2, t3, rfl⟩ lt F₂ N₂ D₂
  refine ⟨e, _, 45, _, _, _, _, _, _, _, _, rfl, F₂.keep _ _ (X' _ _ hK), (N₂ _ (.head _)).1, rfl, ⟨_, rfl, rfl⟩, ?_⟩
  try k_unfold
  exact ⟨e, _, _, h₂, tk₂, _, (D, dictOf _ _) :: cLed w.params ca y ua _, rfl, rfl, lt, F₂, N₂, D₂, rfl, rfl, rfl, D, _, _, rfl, rfl⟩

theorem uinit_bad (w : World) (u du : Addr) (t : Tok) : SpecE 4 w 81 [.ref u, .int 0 t] [(u, instObj 168 du), (du, dictOf [] 0)] (.ref 45) (argPe [(u, instObj 168 du), (du, dictOf [] 0)]) := by
  obtain ⟨nm, q, N', k0, k1, k2, k3, k5, hK⟩ : ∃ nm q N' k0 k1 k2 k3 k5, (MineHead.hd.heap_1 w.params).lookup 45 = some (xcls nm q 45 N' k0 k1 k2 k3 k5) := ⟨_, _, _, _, _, _, _, _, by k_is⟩
  refine' SpecE.intro (binds := [("self", .ref u), ("size", .int 0 t)]) ?ho ?hcd ?hb ?hl ?_ ?c1 ?c2 ?c3 ?c4
  case ho => k_is
  case hcd => k_is
  case hb => exact fun s X => binds_K X rfl (by k_is) rfl rfl rfl
  case hl => exact locs rfl
  case c1 => exact rfl
  case c2 => exact rfl
  case c3 => exact rfl
  case c4 => decide
  intro A base fs s g' L' h' mean mg mb kM R' F' N' D' B' X' T' l1
  w_on
  skip

  show wpAny _ _ _ _ _ _
  k_fold
  k_steps
  refine' m_go (exc_use (rest := [(u, instObj 168 du), (du, dictOf [] 0)]) (fun e t0 => binit_spec w 45 e t0 _ _ _ (.inr rfl)) hK (by k_is) (by k_is) (by show 1 ≤ 16777216; decide) B' (by k_asm) X' T' (R'.le (by decide)) (by k_asm) (fun p hp => hp) D' ?_)
  rintro e g₂ h₂ tk₂ ⟨D, t2, t3, rfl⟩ lt F₂ N₂ D₂
  refine ⟨e, _, 45, _, _, _, _, _, _, _, _, rfl, F₂.keep _ _ (X' _ _ hK), (N₂ _ (.head _)).1, rfl, ⟨_, rfl, rfl⟩, ?_⟩
  try k_unfold
  exact ⟨e, _, _, h₂, tk₂, _, (D, dictOf _ _) :: [(u, instObj 168 du), (du, dictOf [] 0)], rfl, rfl, lt, F₂, N₂, D₂, rfl, rfl, rfl, D, _, _, rfl, rfl⟩

theorem cinit_bad (w : World) (c dc u : Addr) (t : Tok) : SpecE 4 w 192 [.ref c, .ref u, .int 0 t] [(c, instObj 230 dc), (dc, dictOf [] 0)] (.ref 45) (argPe [(c, instObj 230 dc), (dc, dictOf [] 0)]) := by
  obtain ⟨nm, q, N', k0, k1, k2, k3, k5, hK⟩ : ∃ nm q N' k0 k1 k2 k3 k5, (MineHead.hd.heap_1 w.params).lookup 45 = some (xcls nm q 45 N' k0 k1 k2 k3 k5) := ⟨_, _, _, _, _, _, _, _, by k_is⟩
  refine' SpecE.intro (binds := [("self", .ref c), ("uart", .ref u), ("size", .int 0 t)]) ?ho ?hcd ?hb ?hl ?_ ?c1 ?c2 ?c3 ?c4
  case ho => k_is
  case hcd => k_is
  case hb => exact fun s X => binds_K X rfl (by k_is) rfl rfl rfl
  case hl => exact locs rfl
  case c1 => exact rfl
  case c2 => exact rfl
  case c3 => exact rfl
  case c4 => decide
  intro A base fs s g' L' h' mean mg mb kM R' F' N' D' B' X' T' l1
  w_on
  skip

  show wpAny _ _ _ _ _ _
  k_fold
  k_steps
  refine' m_go (exc_use (rest := [(c, instObj 230 dc), (dc, dictOf [] 0)]) (fun e t0 => binit_spec w 45 e t0 _ _ _ (.inr rfl)) hK (by k_is) (by k_is) (by show 1 ≤ 16777216; decide) B' (by k_asm) X' T' (R'.le (by decide)) (by k_asm) (fun p hp => hp) D' ?_)
  rintro e g₂ h₂ tk₂ ⟨D, t2, t3, rfl⟩ lt F₂ N₂ D₂
  refine ⟨e, _, 45, _, _, _, _, _, _, _, _, rfl, F₂.keep _ _ (X' _ _ hK), (N₂ _ (.head _)).1, rfl, ⟨_, rfl, rfl⟩, ?_⟩
  try k_unfold
  exact ⟨e, _, _, h₂, tk₂, _, (D, dictOf _ _) :: [(c, instObj 230 dc), (dc, dictOf [] 0)], rfl, rfl, lt, F₂, N₂, D₂, rfl, rfl, rfl, D, _, _, rfl, rfl⟩
example : True := by w_top off; trivial
theorem Mid.stepW {A : Around} {base g' h h₂ : Heap} {fs : List Env} {led : Led} {L' e T : Addr} {m : Str → Option Value} (x : Mid g' L' fs m led e T h) (B : Below A base fs g') (sl : Slid [] [T] h h₂) : Mid g' L' fs m led e T h₂ :=
  x.step B (env := envOf "f" { kind := .function, names := [], isGenerator := false, isCoroutine := false } L' 0 .none) rfl (sl.wide.mono fun b q => by simp at q; simp [q]) (.inl rfl)
structure PostX (fs : List Env) (h : Heap) (g : Led) (h' : Heap) (g' : Led) : Prop where
  sl : Slid (frs fs) (adr g) h h'
  got : ∀ p ∈ g', h'.get? p.1 = some p.2
  new : ∀ p ∈ g', p.1 ∈ adr g ∨ h.get? p.1 = none
  dj : (adr g').Nodup
/-- a def that catches: the frames below have slid -/
def SpecX (n : Nat) (w : World) (f : Addr) (args : List Value) (g : Led) (P : Value → Led → Prop) : Prop :=
  ∀ (A : Around) (base : Heap) (fs : List Env) (s : Shared) (R : Result → Shared → Prop), Pre w A base fs n s g → (MineHead.hd.heap_1 w.params).In base → (∃ mean mg mb, Top PV LO mean mg mb base) →
    (∀ v g' h' tk, P v g' → PostX fs s.heap g h' g' → R (.ok (.ret v)) { s with heap := h', toks := tk }) → codeS (model PR w) A (.call (.ref f) ⟨args, []⟩) R s
structure GoneX (P : Value → Led → Prop) (fs : List Env) (g₀ : Heap) (L' : Addr) (s : Shared) (v : Value) (s' : Shared) : Prop where
  out : ∃ h' tk m' g₂ g'', s' = { s with heap := h', toks := tk } ∧ KtsTurn (frs fs) g₀ g₂ ∧ Fr g₂ L' h' m' ∧ News g₂ L' h' g'' ∧ (adr g'').Nodup ∧ P v g''
theorem GoneX.intro {P : Value → Led → Prop} {fs : List Env} {g₀ g₂ h' : Heap} {L' : Addr} {s : Shared} {v : Value} {tk : Tok} {m' : Str → Option Value} {led g'' : Led} (hP : P v g'') (T : KtsTurn (frs fs) g₀ g₂) (F : Fr g₂ L' h' m') (N : News g₂ L' h' led) (hs : ∀ p ∈ g'', p ∈ led) (D : (adr g'').Nodup) :
    GoneX P fs g₀ L' s v { s with heap := h', toks := tk } := ⟨h', tk, m', g₂, g'', rfl, T, F, fun p hp => N p (hs p hp), D, hP⟩
section
variable {M : Model} {A : Around} {E : Value → Shared → Prop} {s : Shared} {env : Env}
theorem S_TryE {body : List Stmt} {h₀ : ExceptHandler} {hs : List ExceptHandler} {pos : Pos} {Q : Flow → Shared → Prop}
    (h : wpS M A (execs body env) (fun f s₁ => match f with | .next => False | f => Q f s₁)
      (fun e s₁ => wpAny M A (noteFrame e env) (fun _ s₂ => wpAny M A (setFlight e none) (fun _ s₃ => wpAny M A (handleBy e env (h₀ :: hs)) Q E s₃) E s₂) E s₁) s) : wpS M A (exec (.Try body (h₀ :: hs) [] [] pos) env) Q E s := by
  rw [arm_exec_Try]
  refine wpS_step (wpAny_standAt ?_)
  unfold tryStmt
  simp only [List.isEmpty_nil, if_true, List.isEmpty_cons, Bool.false_and, Bool.false_eq_true, if_false]
  refine wpS_bind (wpS_attempt (wpS_mono h (fun f s₁ h₁ => ?_) fun e s₁ h₁ => ?_))
  · cases f <;> first | exact h₁.elim | exact wpS_pure h₁
  · exact wpS_of (wpAny_bind (wpAny_mono h₁ (fun _ _ h₂ => wpAny_bind h₂) fun _ _ x => x))
end
section
variable {w : World} {name qual : Str} {params : Arguments} {body : List Stmt} {scope : Scope} {dV kV doc pm cdv ct oc : Value} {an od : Option Addr} {osl : Array (Option Value)} {f : Addr} {args : List Value} {binds : List (Str × Value)}
  {n : Nat} {g : Led} {P : Value → Led → Prop}
theorem SpecX.intro (ho : (MineHead.hd.heap_1 w.params).lookup f = some ⟨oc, od, .func (fnOf name qual params body scope dV kV doc pm an cdv ct), osl⟩) (hcd : codeIn (MineHead.hd.heap_1 w.params) cdv qual = true)
    (hbind : ∀ s : Shared, (MineHead.hd.heap_1 w.params).In s.heap → BindsTo s (fnOf name qual params body scope dV kV doc pm an cdv ct) ⟨args, []⟩ binds) (hloc : ∀ y ∈ binds, scope.names.lookup y.1 = some .local)
    (h : ∀ (A : Around) (base : Heap) (fs : List Env) (s : Shared) (g' : Heap) (L' : Addr) (h₁ : Heap) (mean : ExcName → Option Value) (mg mb : Str → Option Value), let mM := (fun y => binds.reverse.lookup y); Room (A.deeper (envOf qual scope L' f cdv)) n → Fr g' L' h₁ mM → News g' L' h₁ g → (adr g).Nodup →
      Below A base fs g' → (MineHead.hd.heap_1 w.params).In g' → Top PV LO mean mg mb g' → (∀ p ∈ g, p.1 < L') → (MineHead.hd.heap_1 w.params).In base → (∃ mean mg mb, Top PV LO mean mg mb base) →
      wpS (model PR w) (A.deeper (envOf qual scope L' f cdv)) (execs body (envOf qual scope L' f cdv))
        (fun fl s' => GoneX P fs g' L' s (match fl with | .ret v => v | _ => .none) s') (fun _ _ => False) { s with heap := h₁, toks := s.toks + binds.length })
    (hco : scope.isCoroutine = false := by rfl) (hgen : scope.isGenerator = false := by rfl) (hk : scope.kind = .function := by rfl) (hcell : ∀ x ∈ scope.names, x.2 ≠ .cell := by decide) : SpecX (n + 1) w f args g P := by
  intro A base fs s R p XB TB k
  obtain ⟨X, lim⟩ := of_hidden p
  obtain ⟨mean, mg, mb, T⟩ := p.top
  refine codeS_call_fn (fd := fnOf name qual params body scope dV kV doc pm an cdv ct) (body := body) p.room.lim (X _ _ ho) rfl hco hgen rfl (codeRec_of X hcd) (hbind s X _ _ _ _ ?_)
  refine wpAny_newFunctionEnv hcell hloc (fun h₁ hns hsb => ⟨lim.fresh _ hsb, codeS_func ?_⟩) hk
  have hk₁ : ∀ b o, s.heap.get? b = some o → h₁.get? b = some o := fun b o e => hsb.extBut b o (Nat.ne_of_lt (Heap.lt_size e)) (Heap.get?_push_of_some _ e)
  refine wpS_mono (h A base fs s _ s.heap.objs.size h₁ mean mg mb (p.room.deeper _) ⟨hns, fun b o e => hk₁ b o (of_hideAll _ e), Nat.le_of_eq (hideAll_size _ _)⟩
    (fun q hq => ⟨hk₁ _ _ (p.got q hq), Nat.ne_of_lt (Heap.lt_size (p.got q hq)), hideAll_none _ (List.mem_map_of_mem hq)⟩) p.dj p.bel p.kin T (fun q hq => Heap.lt_size (p.got q hq)) XB TB)
    (fun fl s' hl => ?_) fun _ _ y => y.elim
  obtain ⟨⟨h', tk, m', g₂, g'', rfl, TT, F', N', D', hP⟩⟩ := hl
  refine k _ g'' h' tk hP ⟨⟨fun b o q n n' => F'.keep b o (TT.other b o (hideAll_get _ q n') n), fun b o q n n' => ?_⟩, fun p hp => (N' p hp).1, fun r hr => ?_, D'⟩
  · obtain ⟨sl, hs⟩ := TT.frame b o (hideAll_get _ q n') n
    exact ⟨sl, F'.keep _ _ hs⟩
  · by_cases hm : r.1 ∈ adr g
    · exact .inl hm
    · refine .inr ?_
      cases q : s.heap.get? r.1 with
      | none => rfl
      | some o =>
        obtain ⟨sl, hs⟩ := TT.up (hideAll_get _ q hm)
        rw [(N' r hr).2.2] at hs; cases hs
end
example : True := by w_top off; trivial
section
variable {w : World} {A : Around} {base h₀ h' : Heap} {n : Nat} {s : Shared} {g g' led rest : Led} {L : Addr} {m : Str → Option Value} {env : Env} {mean : ExcName → Option Value} {mg mb : Str → Option Value}
  {f : Addr} {args : List Value} {P : Value → Led → Prop} {E : Value → Shared → Prop} {Q : Value → Shared → Prop}
theorem PostX.back (F : Fr h₀ L s.heap m) (N : News h₀ L s.heap (g ++ rest)) (D : (adr (g ++ rest)).Nodup) (P : PostX [env] s.heap g h' g') (hf : env.frame = some L) :
    Fr h₀ L h' m ∧ News h₀ L h' (g' ++ rest) ∧ (adr (g' ++ rest)).Nodup := by
  have nL : L ∉ adr g := fun q => by
    obtain ⟨p, hp, e⟩ := List.mem_map.mp q
    exact (N p (List.mem_append_left _ hp)).2.1 e
  have n0 : ∀ b o, h₀.get? b = some o → b ∉ adr g := fun b o e q => by
    obtain ⟨p, hp, rfl⟩ := List.mem_map.mp q
    rw [(N p (List.mem_append_left _ hp)).2.2] at e; cases e
  have nf : ∀ {b : Addr}, b ≠ L → b ∉ frs [env] := fun hb q => by
    rcases (frs_cons (fs := []) hf).mp q with q | q
    · exact hb q
    · cases q
  have less : ∀ b o, h₀.get? b = some o → b ≠ L := fun b o q z => by
    have := Nat.lt_of_lt_of_le (Heap.lt_size q) F.above
    rw [z] at this; exact Nat.lt_irrefl _ this
  have D' := D
  rw [adr, List.map_append, List.nodup_append] at D'
  obtain ⟨_, Dr, Dx⟩ := D'
  obtain ⟨oL, es, ep, hL, r⟩ := id F.ns
  refine ⟨⟨ns_slots F.ns fun o q => P.sl.up q nL, fun b o e => P.sl.keep _ _ (F.keep b o e) (nf (less b o e)) (n0 b o e), F.above⟩, fun p hp => ?_, ?_⟩
  · rcases List.mem_append.mp hp with hp | hp
    · refine ⟨P.got p hp, fun e => ?_, ?_⟩
      · rcases P.new p hp with q | q
        · exact nL (e ▸ q)
        · rw [e, hL] at q; cases q
      · cases q : h₀.get? p.1 with
        | none => rfl
        | some o =>
          rcases P.new p hp with x | x
          · exact absurd x (n0 _ _ q)
          · rw [F.keep _ _ q] at x; cases x
    · have z := N p (List.mem_append_right _ hp)
      exact ⟨P.sl.keep _ _ z.1 (nf z.2.1) (fun q => Dx _ q _ (List.mem_map_of_mem hp) rfl), z.2⟩
  · rw [adr, List.map_append, List.nodup_append]
    refine ⟨P.dj, Dr, fun a ha b hb e => ?_⟩
    subst e
    obtain ⟨p, hp, rfl⟩ := List.mem_map.mp ha
    rcases P.new p hp with q | q
    · exact Dx _ q _ hb rfl
    · obtain ⟨r, hr, e⟩ := List.mem_map.mp hb
      rw [← e, (N r (List.mem_append_right _ hr)).1] at q
      cases q
/-- a def that catches, called from the law itself -/
theorem SpecX.use0 (S : SpecX n w f args g P) (B : Below A base [] h₀) (F : Fr h₀ L s.heap m) (X : (MineHead.hd.heap_1 w.params).In h₀) (T : Top PV LO mean mg mb h₀) (XB : (MineHead.hd.heap_1 w.params).In base) (TB : ∃ mean mg mb, Top PV LO mean mg mb base)
    (R : Room (A.deeper env) n) (N : News h₀ L s.heap led) (hm : ∀ p ∈ g ++ rest, p ∈ led) (D : (adr (g ++ rest)).Nodup)
    (k : ∀ v g' h' tk, P v g' → Fr h₀ L h' m → News h₀ L h' (g' ++ rest) → (adr (g' ++ rest)).Nodup → Q v { s with heap := h', toks := tk })
    (hf : env.frame = some L := by rfl) (hk : env.scope.kind = .function := by rfl) :
    wpS (model PR w) (A.deeper env) (call (.ref f) args []) Q E s := by
  have N' : News h₀ L s.heap (g ++ rest) := fun p hp => N p (hm p hp)
  have Dg : (adr g).Nodup := by
    rw [adr, List.map_append, List.nodup_append] at D; exact D.1
  refine wpS_call (S _ base [env] s _ (Pre.of B F X T hf hk R (fun p hp => N' p (List.mem_append_left _ hp)) Dg) XB TB fun v g' h' tk hv hp => ?_)
  obtain ⟨F', N'', D'⟩ := hp.back F N' D hf
  exact k v g' h' tk hv F' N'' D'
end
/-- the law, called from outside -/
def SpecT (n : Nat) (w : World) (f : Addr) (args : List Value) (g : Led) (P : Value → Led → Prop) : Prop :=
  ∀ (A : Around) (base : Heap) (s : Shared) (R : Result → Shared → Prop), Pre w A base [] n s g → (MineHead.hd.heap_1 w.params).In base → (∃ mean mg mb, Top PV LO mean mg mb base) →
    (∀ v g' h' tk, P v g' → Post s.heap g h' g' → R (.ok (.ret v)) { s with heap := h', toks := tk }) → codeS (model PR w) A (.call (.ref f) ⟨args, []⟩) R s
section
variable {w : World} {name qual : Str} {params : Arguments} {body : List Stmt} {scope : Scope} {dV kV doc pm cdv ct oc : Value} {an od : Option Addr} {osl : Array (Option Value)} {f : Addr} {args : List Value} {binds : List (Str × Value)}
  {n : Nat} {g : Led} {P : Value → Led → Prop}
theorem SpecT.introC (ho : (MineHead.hd.heap_1 w.params).lookup f = some ⟨oc, od, .func (fnOf name qual params body scope dV kV doc pm an cdv ct), osl⟩) (hcd : codeIn (MineHead.hd.heap_1 w.params) cdv qual = true)
    (hbind : ∀ s : Shared, (MineHead.hd.heap_1 w.params).In s.heap → BindsTo s (fnOf name qual params body scope dV kV doc pm an cdv ct) ⟨args, []⟩ binds)
    (hkind : (binds.all fun y => scope.names.lookup y.1 == some .local || scope.names.lookup y.1 == some .cell) = true) (hnd : ((cellsFrom 0 scope.names []).map (·.1)).Nodup)
    (h : ∀ (A : Around) (base : Heap) (s : Shared) (g' : Heap) (L' : Addr) (h₁ : Heap) (tk₁ : Tok) (cells : Led) (mean : ExcName → Option Value) (mg mb : Str → Option Value), Room (A.deeper (envOfC qual scope L' f cdv)) n →
      Fr g' L' h₁ (bindL (envOfC qual scope L' f cdv).kindOf binds fun _ => none) → News g' L' h₁ (cells ++ g) → (adr g).Nodup → CellsAre (bindC (envOfC qual scope L' f cdv).kindOf binds fun _ => none) (cellsFrom (L' + 1) scope.names []) cells →
      Below A base [] g' → (MineHead.hd.heap_1 w.params).In g' → Top PV LO mean mg mb g' → (∀ p ∈ g, p.1 < L') → (MineHead.hd.heap_1 w.params).In base → (∃ mean mg mb, Top PV LO mean mg mb base) →
      wpS (model PR w) (A.deeper (envOfC qual scope L' f cdv)) (execs body (envOfC qual scope L' f cdv))
        (fun fl s' => Leave P g' L' s (match fl with | .ret v => v | _ => .none) s') NoE { s with heap := h₁, toks := tk₁ })
    (hco : scope.isCoroutine = false := by rfl) (hgen : scope.isGenerator = false := by rfl) (hk : scope.kind = .function := by rfl) : SpecT (n + 1) w f args g P := by
  intro A base s R p XB TB k
  obtain ⟨X, lim⟩ := of_hidden p
  obtain ⟨mean, mg, mb, T⟩ := p.top
  refine codeS_call_fn (fd := fnOf name qual params body scope dV kV doc pm an cdv ct) (body := body) p.room.lim (X _ _ ho) rfl hco hgen rfl (codeRec_of X hcd) (hbind s X _ _ _ _ ?_)
  refine wpAny_newFunctionEnv_cells hk (kindsX hkind _) fun env' he s' x => ?_
  subst he
  refine ⟨lim.keeps x.toInCall.keep, codeS_func ?_⟩
  obtain ⟨h₁, tk, rfl, _⟩ := x.done
  have hk₁ := x.toInCall.keep
  obtain ⟨cells, NC, Y⟩ := Cl.news (h₀ := s.heap) (Nat.le_refl _) fun n c hm => ⟨x.cell n c (lookup_of_mem_nodup (cellsFrom_names scope.names 0 (s.heap.objs.size + 1) [] [] rfl ▸ hnd) hm), x.above n c hm⟩
  refine wpS_mono (h A base s _ s.heap.objs.size h₁ tk cells mean mg mb (p.room.deeper _) ⟨x.toInCall.ns, fun b o e => hk₁ b o (of_hideAll _ e), Nat.le_of_eq (hideAll_size _ _)⟩ (fun q hq => ?_) p.dj Y p.bel p.kin T (fun q hq => Heap.lt_size (p.got q hq)) XB TB)
    (fun fl s' hl => ?_) fun _ _ y => y.elim
  · rcases List.mem_append.mp hq with hq | hq
    · refine ⟨(NC q hq).1, (NC q hq).2.1, ?_⟩
      cases z : (hideAll s.heap (adr g)).get? q.1 with
      | none => rfl
      | some o => have := of_hideAll _ z; rw [(NC q hq).2.2] at this; cases this
    · exact ⟨hk₁ _ _ (p.got q hq), Nat.ne_of_lt (Heap.lt_size (p.got q hq)), hideAll_none _ (List.mem_map_of_mem hq)⟩
  obtain ⟨h', tk, m', g'', rfl, F', N', D', hP⟩ := hl
  exact k _ g'' h' tk hP (Post.of F' N' D')
end
example : True := by w_top off; trivial
theorem fills_P575 (w : World) : PySem.Challenge.rw_nu0085_01.row.toRowW.prog = PySem.Challenge.rw_nu0085_01.row.toRowW.prog → MineHead.hd.heap_1 w.params = MineHead.hd.heap_1 w.params := by
  k_fill
  exact fun _ => rfl

theorem tried_addr (w : World) (f : Addr) (fd : FuncData) (od : Option Addr) (oc : Value) (sl : Array (Option Value)) (g : Led) (Pe : Option Addr → Led → Prop) (n : Nat) (a : Int) (hf : (f, (⟨oc, od, .func fd, sl⟩ : Obj)) ∈ g) (S : SpecES n w f [] g (.ref 64) Pe)
    (hPe : ∀ dd g', Pe dd g' → ∃ D es k ta, dd = some D ∧ (D, dictOf es k) ∈ g' ∧ getL "address" es = some (some (.int a ta))) :
    SpecX (n + 1) w 255 [.ref f] g (fun v g' => ∃ D t ta dd gx, v = .ref D ∧ Pe dd gx ∧ g' = (D, tupObj [.str "address" t, .int a ta]) :: gx) := by
  refine' SpecX.intro (binds := [("call", .ref f)]) ?ho ?hcd ?hb ?hl ?_ ?c1 ?c2 ?c3 ?c4
  case ho => k_is
  case hcd => k_is
  case hb => exact fun s X => BindsTo.of_eq rfl
  case hl => exact locs rfl
  case c1 => exact rfl
  case c2 => exact rfl
  case c3 => exact rfl
  case c4 => decide
  intro A base fs s g' L' h' mean mg mb kM R' F' N' D' B' X' T' l1 XB TB
  w_on
  refine S_letQ ?_; intro kQ0

  show wpS _ _ _ _ _ _
  refine S_cons (S_TryE (S_cons (S_Ret (S_Tuple (S_items_cons ?_)))))
  refine wpS_of ?_
  walk1
  refine S_items1 (S_Call ?_)
  walk1
  refine S_callF0 (FnAt.of N' hf) ?_
  dsimp only [List.nil_append]
  refine SpecES.use S B' (by k_asm) X' T' R' (by k_asm) (fun p hp => hp) D' ?_
  intro e Te dd gx h₂ tk₂ hP hp
  have M0 := Mid.of (rest := []) (by k_asm) (by rw [List.append_nil]; k_asm) (by rw [List.append_nil]; exact D') B' rfl hp
  rw [List.append_nil] at M0
  refine x_note_next (s := { s with heap := h₂, toks := tk₂ }) (Around.frames_deeper B'.stack) (M0.frames B' rfl rfl) rfl hp.exc fun h₃ T₃ hT₃ x₃ sl₃ => ?_
  have M1 := M0.step B' rfl sl₃ (.inr hT₃)
  refine x_flight (s := { s with heap := h₃, toks := tk₂ }) x₃ fun h₄ x₄ sl₄ => ?_
  have M2 := M1.stepW B' sl₄
  obtain ⟨g₅, TT₅, F₅, N₅, B₅⟩ := M2.ground B'
  have X₅ : (MineHead.hd.heap_1 w.params).In g₅ := XB.keeps B₅.stays
  obtain ⟨meanB, mgB, mbB, TB'⟩ := TB
  have P₅ := topRead_of (TB'.keeps B₅.stays)
  have x₄' := x₄
  obtain ⟨⟨oe, vs, he, hc, hdd, hd, h1⟩, _, _⟩ := x₄'
  have LT : Looks (model PR w) h₄ (typeOf (.ref e)) (.ref 64) := hc ▸ (Looks.ld he).andThen .now
  refine wpAny_handleBy_cons (codeAny_handlers_test (name_K F₅ X₅ P₅ (by k_is) ?_ rfl rfl (by decide))) (by intro q; cases q)
  refine (exm_one (X₅.keeps F₅.keep) LT (by kts_exm)).here ?_
  refine codeAny_handlers_suite_as ?_
  refine x_flight (s := { s with heap := h₄, toks := tk₂ }) x₄ fun h₆ x₆ sl₆ => ?_
  have M3 := M2.stepW B' sl₆
  obtain ⟨g₆, TT₆, F₆, N₆, B₆⟩ := M3.ground B'
  obtain ⟨⟨oe6, vs6, he6, hc6, hdd6, hd6, h16⟩, _, _⟩ := x₆
  have X₆ : (MineHead.hd.heap_1 w.params).In g₆ := XB.keeps B₆.stays
  have P₆ := topRead_of (TB'.keeps B₆.stays)
  have ge : g₆.get? e = none := by
    cases q : g₆.get? e with
    | none => rfl
    | some o =>
      have := Heap.lt_size q
      rw [TT₆.size] at this
      exact absurd (Nat.lt_trans (Nat.lt_of_lt_of_le this M3.above) M3.le) (Nat.lt_irrefl _)
  have N₆' : News g₆ L' h₆ ((e, oe6) :: gx) := fun p hp => by
    rcases List.mem_cons.mp hp with rfl | hp
    · exact ⟨he6, Nat.ne_of_gt M3.le, ge⟩
    · exact N₆ p hp
  have D₆ := M3.dj
  refine stN F₆ N₆' (fun h₇ F₇ N₇ => ?_) rfl rfl
  clear M0 M1 M2 N₅ F₅ TT₅ X₅ P₅ B₅ N₆ N₆' F₆ F' N' LT he hd
  k_steps
  obtain ⟨D, es, k, ta, hDD, hmem, hl⟩ := hPe _ _ hP
  have I : InstAt h₇ e oe6 64 (some (dictOf es k)) := ⟨(N₇ _ (.head _)).1, hc6, by unfold notCls; rw [hd6], by rw [hdd6, hDD]; exact (N₇ _ (.tail _ hmem)).1⟩
  refine xm_get (X₆.keeps F₇.keep) I (by k_is) (by k_is) (by k_is) (findObj_own (by k_is) (attr := none) (by k_is) (by rfl) (by rw [lookIn_dict]; exact hl)) (by rfl) ?_
  k_steps
  rename News _ _ _ _ => NZ
  obtain ⟨t, NZ⟩ : ∃ t, News g₆ L' _ ((_, tupObj [.str "address" t, .int a ta]) :: (e, oe6) :: gx) := ⟨_, NZ⟩
  refine GoneX.intro (g'' := (_, tupObj [.str "address" t, .int a ta]) :: gx) ⟨_, _, _, _, gx, rfl, hP, rfl⟩ TT₆ (by assumption) NZ (fun p hp => ?_) (nd_consI D₆ fun p hp => (by assumption : ∀ q ∈ (e, oe6) :: gx, @LT.lt Nat _ q.1 _) p (.tail _ hp))
  rcases List.mem_cons.mp hp with rfl | hp
  · exact .head _
  · exact .tail _ (.tail _ hp)

theorem tried_arg (w : World) (f : Addr) (fd : FuncData) (od : Option Addr) (oc : Value) (sl : Array (Option Value)) (g : Led) (Pe : Option Addr → Led → Prop) (n : Nat) (hf : (f, (⟨oc, od, .func fd, sl⟩ : Obj)) ∈ g) (S : SpecES n w f [] g (.ref 45) Pe) :
    SpecX (n + 1) w 255 [.ref f] g (fun v g' => ∃ D t dd gx, v = .ref D ∧ Pe dd gx ∧ g' = (D, tupObj [.str "argument" t, .none]) :: gx) := by
  refine' SpecX.intro (binds := [("call", .ref f)]) ?ho ?hcd ?hb ?hl ?_ ?c1 ?c2 ?c3 ?c4
  case ho => k_is
  case hcd => k_is
  case hb => exact fun s X => BindsTo.of_eq rfl
  case hl => exact locs rfl
  case c1 => exact rfl
  case c2 => exact rfl
  case c3 => exact rfl
  case c4 => decide
  intro A base fs s g' L' h' mean mg mb kM R' F' N' D' B' X' T' l1 XB TB
  w_on
  refine S_letQ ?_; intro kQ0

  show wpS _ _ _ _ _ _
  refine S_cons (S_TryE (S_cons (S_Ret (S_Tuple (S_items_cons ?_)))))
  refine wpS_of ?_
  walk1
  refine S_items1 (S_Call ?_)
  walk1
  refine S_callF0 (FnAt.of N' hf) ?_
  dsimp only [List.nil_append]
  refine SpecES.use S B' (by k_asm) X' T' R' (by k_asm) (fun p hp => hp) D' ?_
  intro e Te dd gx h₂ tk₂ hP hp
  have M0 := Mid.of (rest := []) (by k_asm) (by rw [List.append_nil]; k_asm) (by rw [List.append_nil]; exact D') B' rfl hp
  rw [List.append_nil] at M0
  refine x_note_next (s := { s with heap := h₂, toks := tk₂ }) (Around.frames_deeper B'.stack) (M0.frames B' rfl rfl) rfl hp.exc fun h₃ T₃ hT₃ x₃ sl₃ => ?_
  have M1 := M0.step B' rfl sl₃ (.inr hT₃)
  refine x_flight (s := { s with heap := h₃, toks := tk₂ }) x₃ fun h₄ x₄ sl₄ => ?_
  have M2 := M1.stepW B' sl₄
  obtain ⟨g₅, TT₅, F₅, N₅, B₅⟩ := M2.ground B'
  have X₅ : (MineHead.hd.heap_1 w.params).In g₅ := XB.keeps B₅.stays
  obtain ⟨meanB, mgB, mbB, TB'⟩ := TB
  have P₅ := topRead_of (TB'.keeps B₅.stays)
  have x₄' := x₄
  obtain ⟨⟨oe, vs, he, hc, hdd, hd, h1⟩, _, _⟩ := x₄'
  have LT : Looks (model PR w) h₄ (typeOf (.ref e)) (.ref 45) := hc ▸ (Looks.ld he).andThen .now
  refine wpAny_handleBy_cons (codeAny_handlers_test (name_K F₅ X₅ P₅ (by k_is) ?_ rfl rfl (by decide))) (by intro q; cases q)
  refine (exm_one (X₅.keeps F₅.keep) LT (by kts_exm)).here ?_
  show wpAny _ _ (handleBy _ _ _) _ _ _
  refine wpAny_handleBy_cons (codeAny_handlers_test (name_K F₅ X₅ P₅ (by k_is) ?_ rfl rfl (by decide))) (by intro q; cases q)
  refine (exm_one (X₅.keeps F₅.keep) LT (by kts_exm)).here ?_
  refine codeAny_handlers_suite ?_
  refine x_flight (s := { s with heap := h₄, toks := tk₂ }) x₄ fun h₆ x₆ sl₆ => ?_
  have M3 := M2.stepW B' sl₆
  obtain ⟨g₆, TT₆, F₆, N₆, B₆⟩ := M3.ground B'
  have X₆ : (MineHead.hd.heap_1 w.params).In g₆ := XB.keeps B₆.stays
  have P₆ := topRead_of (TB'.keeps B₆.stays)
  have D₆ := M3.dj
  clear M0 M1 M2 N₅ F₅ TT₅ X₅ P₅ B₅ F' N' LT he hd
  k_steps
  rename News _ _ _ _ => NZ
  obtain ⟨t, NZ⟩ : ∃ t, News g₆ L' _ ((_, tupObj [.str "argument" t, .none]) :: gx) := ⟨_, NZ⟩
  exact GoneX.intro (g'' := (_, tupObj [.str "argument" t, .none]) :: gx) ⟨_, _, _, gx, rfl, hP, rfl⟩ TT₆ (by assumption) NZ (fun p hp => hp) (nd_consI D₆ (by assumption))
example : True := by w_top off; trivial
section
variable {prog : Program} {w : World} {A : Around} {s : Shared} {env : Env} {R : Result → Shared → Prop} {x : Str} {px : Pos} {body : List Stmt} {h₀ : Heap} {l : Addr} {n : Nat} {vs : List Value} {g rest : Led} {m : Str → Option Value}
/-- a loop over a list that lies in the ledger -/
theorem forS_vals (hh : A.handled = none) (F : Fr h₀ env.locals s.heap m) (N : News h₀ env.locals s.heap g) (hm : (l, W.listOf vs.toArray n) ∈ g) (hs : ∀ p ∈ rest, p ∈ g)
    (J : Nat → (Str → Option Value) → Led → Prop) (hJ : J 0 m rest)
    (hR : ∀ h' tk m' g', Fr h₀ env.locals h' m' → News h₀ env.locals h' ((l, W.listOf vs.toArray n) :: g') → J vs.length m' g' → R (.ok .next) { s with heap := h', toks := tk })
    (step : ∀ I i v m₁ g₁ o h₁ tk₁, vs[i]? = some v → J i m₁ g₁ → Fr h₀ env.locals h₁ (fun y => if y = x then some v else m₁ y) → News h₀ env.locals h₁ ((I, o) :: (l, W.listOf vs.toArray n) :: g₁) → (∀ p ∈ (l, W.listOf vs.toArray n) :: g₁, p.1 ≠ I) →
      wpS (model prog w) A (execs body env) (fun f s₃ => match f with
        | .next | .cont => Turned h₀ env.locals s I o [(l, W.listOf vs.toArray n)] (J (i + 1)) s₃
        | .brk => R (.ok .next) s₃
        | .ret v => R (.ok (.ret v)) s₃) NoE { s with heap := h₁, toks := tk₁ })
    (hx : env.kindOf x = some .local := by rfl) (hp : (env.scope.kind == .class || (env.scope.kind == .module && env.locals != env.globals)) = false := by rfl) :
    wpAny (model prog w) A (pyIter (.ref l)) (fun it s₂ => Again (codeS (model prog w) A (.forLoop (.Name x px) it body [] env) R s₂)) NoE s := by
  have hl := News.isList N hm
  refine wpAny_pyIter_list hl ?_
  have hne : l ≠ s.heap.objs.size := Nat.ne_of_lt (Heap.lt_size (N _ hm).1)
  refine Again.go ?_
  refine forS_walks (ks := [(l, W.listOf vs.toArray n)]) (Walks.list hh s.heap.objs.size l hne vs.toArray) ?_ ?_ hx hp J ?_ ?_ vs.toArray.size 0 _ _ m rest { cls := .type "list_iterator", data := .fields #[.ref l, .int 0 0] } rfl (Nat.zero_le _) ?_ (F.push _) ?_ ?_ hJ
  · intro b hb
    rcases List.mem_cons.mp hb with rfl | hb
    · exact .inl rfl
    · rcases List.mem_cons.mp hb with rfl | hb
      · exact .inr ⟨_, .head _⟩
      · cases hb
  · intro i h st
    obtain ⟨⟨o, ho, _⟩, _⟩ := st
    exact ⟨o, ho⟩
  · intro i v m₁ g₁ o h₁ tk₁ hlt hP hJ₁ F₁ N₁ ne₁
    exact step _ i v m₁ g₁ o h₁ tk₁ (by simpa using hP) hJ₁ F₁ N₁ ne₁
  · intro h' tk m' g' F' N' hJ'
    rw [List.size_toArray] at hJ'
    exact hR h' tk m' g' F' N' hJ'
  · refine ⟨⟨_, Heap.get?_push_size _ rfl, rfl, rfl⟩, ?_⟩
    obtain ⟨o, ho, r⟩ := hl
    exact ⟨o, Heap.get?_push_of_some _ ho, r⟩
  · refine News.put (D := s.heap.objs.size) F (fun p hp => ?_) (fun b o e => Heap.get?_push_of_some _ e) (none_of_size (Nat.le_refl _)) (Heap.get?_push_size _ rfl)
    rcases List.mem_cons.mp hp with rfl | hp
    · exact N _ hm
    · exact N _ (hs _ hp)
  · intro p hp
    rcases List.mem_cons.mp hp with rfl | hp
    · exact hne
    · exact Nat.ne_of_lt (Heap.lt_size (N _ (hs _ hp)).1)
end

section
variable {A : Around} {s : Shared}
theorem ne_told {prog : Program} {w : World} {E : Value → Shared → Prop} {D E2 : Addr} {x : Str} {t u : Tok} {v v' : Value} {Q : Value → Shared → Prop} (h1 : s.heap.get? D = some (tupObj [.str x t, v])) (h2 : s.heap.get? E2 = some (tupObj [.str x u, v'])) (hu : A.units < cLine)
    (hv : SeqAt.EqAt A.in1 s v v' true) (h : Q (.bool false) s) : wpAny (model prog w) A (compareOp .NotEq (.ref D) (.ref E2)) Q E s := by
  refine SeqAt.RcNeAt.tuples (items := #[.str x t, v]) (items2 := #[.str x u, v']) (e := fun _ => true) ⟨_, h1, rfl, _, rfl⟩ ⟨_, h2, rfl, _, rfl⟩ hu (fun j q1 q2 => ?_) prog w E Q h
  match j, q1 with
  | 0, _ =>
    have := SeqAt.EqAt.str_str (A := A.in1) (s := s) x t x u
    rwa [beq_self_eq_true] at this
  | 1, _ => exact hv
end
theorem law_fn_eq {K : Frag} {a : Addr} {name qual : Str} {params : Arguments} {body : List Stmt} {scope : Scope} {dV kV doc pm cdv ct oc : Value} {an od : Option Addr} {osl : Array (Option Value)}
    {name' qual' : Str} {params' : Arguments} {body' : List Stmt} {scope' : Scope} {dV' kV' doc' pm' cdv' ct' oc' : Value} {an' od' : Option Addr} {osl' : Array (Option Value)}
    (h : K.lookup a = some ⟨oc, od, .func (fnOf name qual params body scope dV kV doc pm an cdv ct), osl⟩) (h' : K.lookup a = some ⟨oc', od', .func (fnOf name' qual' params' body' scope' dV' kV' doc' pm' an' cdv' ct'), osl'⟩) :
    qual = qual' ∧ body = body' ∧ scope = scope' ∧ cdv = cdv' := by
  have e := Option.some.inj (h.symm.trans h')
  have e2 := congrArg Obj.data e
  dsimp only at e2
  have e3 := Data.func.inj e2
  have q1 := congrArg FuncData.qualname e3
  have q2 := congrArg FuncData.body e3
  have q3 := congrArg FuncData.scope e3
  have q4 := congrArg FuncData.code e3
  exact ⟨q1, FuncBody.stmts.inj q2, q3, q4⟩
section
variable {w : World} {A : Around} {E : Value → Shared → Prop} {s : Shared} {h₀ : Heap} {L a c P : Addr} {m mg mb : Str → Option Value} {cn : Str} {sc : Scope} {cl : List (Str × Addr)}
  {mean : ExcName → Option Value} {body : Expr} {scope : Scope} {ps : Array Value} {pos : Pos} {clos : List (Str × Addr)} {cs rest led : Led}
theorem mk_lam' {Q : Value → Shared → Prop} (F : Fr h₀ L s.heap m) (N : News h₀ L s.heap led) (X : (MineHead.hd.heap_1 w.params).In h₀) (T : Top PV LO mean mg mb h₀) (hC : codeHdIn (MineHead.hd.heap_1 w.params) c P = true)
    (tb : TabOK (cn ++ ".<locals>." ++ "<lambda>") ps cs) (hs : ∀ p ∈ (P, tabObj ps) :: (cs ++ rest), p ∈ led) (D : (adr ((P, tabObj ps) :: (cs ++ rest))).Nodup)
    (hcl : closureFor scope (envX cn sc L a (.ref c) cl) = pure clos)
    (h : ∀ f o h' tk ps' cs', TabOK (cn ++ ".<locals>." ++ "<lambda>") ps' cs' → IsLam (cn ++ ".<locals>." ++ "<lambda>") body scope clos o cs' → (∀ p ∈ cs, p ∈ cs') → Fr h₀ L h' m → News h₀ L h' ((f, o) :: (P, tabObj ps') :: (cs' ++ rest)) →
      (adr ((f, o) :: (P, tabObj ps') :: (cs' ++ rest))).Nodup → Q (.ref f) { s with heap := h', toks := tk }) :
    wpAny (model PR w) A (eval (.Lambda ⟨[], [], none, [], [], none, []⟩ body scope pos) (envX cn sc L a (.ref c) cl)) Q E s := by
  have C := codeHd_of_K X hC
  have N' : News h₀ L s.heap ((P, tabObj ps) :: (cs ++ rest)) := fun p hp => N p (hs p hp)
  refine kla_eval rfl ?_
  have fresh : ∀ {g : Led} {f : Addr}, (∀ q ∈ g, q.1 < f) → f ∉ adr g := fun hq hm => by
    obtain ⟨p, hp, e⟩ := List.mem_map.mp hm
    exact absurd (hq p hp) (by rw [e]; exact Nat.lt_irrefl _)
  cases hk : codeAmong pos ps.toList with
  | none =>
    refine kla_nest F N' T C rfl (updF_head D) tb.tr hk hcl fun f c' oc vs t ctv h' tk F' N'' hd hv l1 l2 => ?_
    refine h f _ h' tk (ps ++ #[rawInt pos.line, rawInt pos.col, .ref c']) ((c', oc) :: cs) ⟨?_, fun pos' cv hp => ?_⟩ ⟨(mg "__name__").getD .none, c', ctv, oc, vs, t, rfl, .head _, hd, hv⟩ (fun p hp => .tail _ hp) F' (fun p hp => ?_) ?_
    · rw [Array.toList_append]; exact TriplesOk_snoc _ _ _ _ tb.tr
    · rw [Array.toList_append] at hp
      rcases among_snoc _ tb.tr hp with q | q
      · obtain ⟨c₂, oc₂, vs₂, t₂, e1, e2, e3, e4⟩ := tb.hit _ _ q
        exact ⟨c₂, oc₂, vs₂, t₂, e1, .tail _ e2, e3, e4⟩
      · exact ⟨c', oc, vs, t, q, .head _, hd, hv⟩
    · rcases List.mem_cons.mp hp with rfl | hp
      · exact N'' _ (.head _)
      · rcases List.mem_cons.mp hp with rfl | hp
        · exact N'' _ (.tail _ (.tail _ (.head _)))
        · rcases List.mem_cons.mp hp with rfl | hp
          · exact N'' _ (.tail _ (.head _))
          · exact N'' _ (.tail _ (.tail _ (.tail _ hp)))
    · have f1 : c' ∉ adr ((P, tabObj ps) :: (cs ++ rest)) := fresh l1
      have f2 : f ∉ adr ((P, tabObj ps) :: (cs ++ rest)) := fresh fun q hq => Nat.lt_trans (l1 q hq) l2
      have D' : (P :: adr (cs ++ rest)).Nodup := D
      have f1' : c' ∉ P :: adr (cs ++ rest) := f1
      have f2' : f ∉ P :: adr (cs ++ rest) := f2
      show (f :: P :: c' :: adr (cs ++ rest)).Nodup
      have hf : f ≠ c' := Nat.ne_of_gt l2
      simp only [List.nodup_cons, List.mem_cons, not_or] at D' f1' f2' ⊢
      exact ⟨⟨f2'.1, hf, f2'.2⟩, ⟨fun e => f1'.1 e.symm, D'.1⟩, f1'.2, D'.2⟩
  | some cv =>
    obtain ⟨c', oc, vs, t, rfl, e2, e3, e4⟩ := tb.hit _ _ hk
    refine kla_hit F N' T C rfl (.head _) tb.tr hk hcl fun f ctv h' tk F' N'' l1 => ?_
    exact h f _ h' tk ps cs tb ⟨(mg "__name__").getD .none, c', ctv, oc, vs, t, rfl, e2, e3, e4⟩ (fun p hp => hp) F' N'' (nd_cons D (fresh l1))
end
section
variable {w : World} {A : Around} {E : Value → Shared → Prop} {s : Shared} {h₀ : Heap} {L a c P : Addr} {m mg mb : Str → Option Value} {cn : Str} {sc : Scope} {cl : List (Str × Addr)}
  {mean : ExcName → Option Value} {body : Expr} {scope : Scope} {ps : Array Value} {pos : Pos} {clos : List (Str × Addr)} {cs rest : Led}
theorem mk_lam3 {Q : Value → Shared → Prop} (F : Fr h₀ L s.heap m) (N : News h₀ L s.heap (rest ++ ((P, tabObj ps) :: cs))) (D : (adr (rest ++ ((P, tabObj ps) :: cs))).Nodup) (X : (MineHead.hd.heap_1 w.params).In h₀) (T : Top PV LO mean mg mb h₀)
    (tb : TabOK (cn ++ ".<locals>." ++ "<lambda>") ps cs) (hC : codeHdIn (MineHead.hd.heap_1 w.params) c P = true) (hcl : closureFor scope (envX cn sc L a (.ref c) cl) = pure clos)
    (h : ∀ f o h' tk ps' cs', TabOK (cn ++ ".<locals>." ++ "<lambda>") ps' cs' → IsLam (cn ++ ".<locals>." ++ "<lambda>") body scope clos o cs' → (∀ p ∈ cs, p ∈ cs') → Fr h₀ L h' m → News h₀ L h' ((f, o) :: (rest ++ ((P, tabObj ps') :: cs'))) →
      (adr ((f, o) :: (rest ++ ((P, tabObj ps') :: cs')))).Nodup → Q (.ref f) { s with heap := h', toks := tk }) :
    wpAny (model PR w) A (eval (.Lambda ⟨[], [], none, [], [], none, []⟩ body scope pos) (envX cn sc L a (.ref c) cl)) Q E s := by
  have pm : ∀ (ps : Array Value) (cs : Led), ((P, tabObj ps) :: (cs ++ rest)).Perm (rest ++ ((P, tabObj ps) :: cs)) := fun ps cs => by
    show (((P, tabObj ps) :: cs) ++ rest).Perm _
    exact List.perm_append_comm
  refine mk_lam' F N X T hC tb (fun p hp => (pm ps cs).mem_iff.mp hp) ((((pm ps cs).map (·.1)).nodup_iff).mpr D) hcl fun f o h' tk ps' cs' tb' il sb F' N' D' => ?_
  refine h f o h' tk ps' cs' tb' il sb F' (fun p hp => N' p ?_) ?_
  · rcases List.mem_cons.mp hp with rfl | hp
    · exact .head _
    · exact .tail _ ((pm ps' cs').mem_iff.mpr hp)
  · have := (((pm ps' cs').cons (f, o)).map (·.1)).nodup_iff.mp D'
    exact this
end
theorem IsLam.more {q : Str} {body : Expr} {scope : Scope} {clos : List (Str × Addr)} {o : Obj} {cs cs' : Led} (h : IsLam q body scope clos o cs) (s : ∀ p ∈ cs, p ∈ cs') : IsLam q body scope clos o cs' := by
  obtain ⟨pm, c', ctv, oc, vs, t, e1, e2, e3, e4⟩ := h
  exact ⟨pm, c', ctv, oc, vs, t, e1, s _ e2, e3, e4⟩
theorem IsLam.fn {q : Str} {body : Expr} {scope : Scope} {clos : List (Str × Addr)} {o : Obj} {cs : Led} (h : IsLam q body scope clos o cs) : ∃ oc od fd sl, o = (⟨oc, od, .func fd, sl⟩ : Obj) := by
  obtain ⟨pm, c', ctv, oc, vs, t, rfl, e2, e3, e4⟩ := h
  exact ⟨_, _, _, _, rfl⟩
section
variable {M : Model} {A : Around} {E : Value → Shared → Prop} {s : Shared} {env : Env}
theorem S_List {elts : List Expr} {pos : Pos} {Q : Value → Shared → Prop}
    (h : wpS M A (spliced (backTo pos (starEach elts env)))
      (fun vs s₁ => vs.length ≤ sizeLine ∧ Q (.ref s₁.heap.objs.size) { s₁ with heap := s₁.heap.push { cls := .type "list", data := .seq vs.toArray } }) E s) : wpS M A (eval (.List elts pos) env) Q E s := by
  rw [arm_eval_List]
  exact wpS_step (wpAny_standAt (wpS_bind (wpS_mono h (fun vs s₁ h₁ => wpS_of (wpAny_newObj_type h₁.2 (by show vs.toArray.size ≤ sizeLine; rw [List.size_toArray]; exact h₁.1))) fun _ _ x => x)))
end
theorem nd_left {a b : Led} (D : (adr (a ++ b)).Nodup) : (adr a).Nodup := by
  rw [adr, List.map_append, List.nodup_append] at D; exact D.1
section
variable {w : World} {A : Around} {base g₂ : Heap} {fs : List Env} {n : Nat} {s s₀ : Shared} {a rest : Led} {L : Addr} {m : Str → Option Value} {env : Env} {mean : ExcName → Option Value} {mg mb : Str → Option Value}
  {fn : Addr} {args : List Value} {Pe Pe' : Option Addr → Led → Prop} {c : Value} {Q : Value → Shared → Prop}
theorem lam_thru (S : SpecE n w fn args a c Pe) (hPe : ∀ dd gx, Pe dd gx → Pe' dd (gx ++ rest)) (B : Below A base fs g₂) (F : Fr g₂ L s.heap m) (X : (MineHead.hd.heap_1 w.params).In g₂) (T : Top PV LO mean mg mb g₂) (R : Room (A.deeper env) n)
    (N : News g₂ L s.heap (a ++ rest)) (D : (adr (a ++ rest)).Nodup) (e : ∀ h' tk, ({ s with heap := h', toks := tk } : Shared) = { s₀ with heap := h', toks := tk }) (hf : env.frame = some L := by rfl) (hk : env.scope.kind = .function := by rfl) :
    wpAny (model PR w) (A.deeper env) (call (.ref fn) args []) Q (fun v s' => Thru Pe' c g₂ L fs env s₀ v s') s :=
  SpecE.use S B F X T R N (fun p hp => List.mem_append_left _ hp) (nd_left D) (fun e' T dd gx h' tk hP hp =>
    ⟨e', T, dd, s.heap, m, a, rest, gx, h', tk, rfl, e h' tk, F, N, D, hp, hPe _ _ hP⟩) hf hk
end
theorem badPe_app {a rest : Led} {v : Value} (dd : Option Addr) (gx : Led) (h : badPe a v dd gx) : badPe (a ++ rest) v dd (gx ++ rest) := by
  obtain ⟨D, es, k, e1, rfl, hl⟩ := h
  exact ⟨D, es, k, e1, rfl, hl⟩
theorem SpecE.monoE {n : Nat} {w : World} {f : Addr} {args : List Value} {g : Led} {c : Value} {Pe Pe' : Option Addr → Led → Prop} (S : SpecE n w f args g c Pe) (h : ∀ dd g', Pe dd g' → Pe' dd g') : SpecE n w f args g c Pe' :=
  fun A base fs s R p k => S A base fs s R p fun e T dd g' h' tk q => k e T dd g' h' tk (h dd g' q)
theorem nd_drop {p : Addr × Obj} {a g r : Led} (D : (adr ((p :: (a ++ g)) ++ r)).Nodup) : (adr (p :: g)).Nodup := by
  have D := nd_left D
  refine List.nodup_cons.mpr ⟨fun q => ?_, ?_⟩
  · refine (List.nodup_cons.mp D).1 ?_
    rw [List.map_append]
    exact List.mem_append_right _ q
  · have := (List.nodup_cons.mp D).2
    rw [List.map_append, List.nodup_append] at this
    exact this.2.1
/-- the refused call leaves what was there -/
abbrev keepPe (g : Led) (_ : Option Addr) (g' : Led) : Prop := ∃ a : Led, g' = a ++ g
theorem eqAt_pair {A : Around} {s : Shared} {D DE : Addr} {x : Str} {t u : Tok} (hu : A.units + 64 < cLine) (hD : s.heap.get? D = some (tupObj [.str x t, .none])) (hE : s.heap.get? DE = some (tupObj [.str x u, .none])) (hne : D ≠ DE) : SeqAt.EqAt A.in1 s (.ref D) (.ref DE) true := by
  refine SeqAt.EqAt.of_refs hne (SeqAt.RcAt.tuples (items := #[.str x t, .none]) (items2 := #[.str x u, .none]) (e := fun _ => true) ⟨_, hD, rfl, _, rfl⟩ ⟨_, hE, rfl, _, rfl⟩ (by show A.units + 1 < cLine; omega) (fun j q1 q2 => ?_))
  match j, q1 with
  | 0, _ =>
    have := SeqAt.EqAt.str_str (A := A.in1.in1) (s := s) x t x u
    rwa [beq_self_eq_true] at this
  | 1, _ => exact SeqAt.EqAt.same _
theorem mem_step {a b i l : Addr × Obj} {G : Led} : ∀ q ∈ a :: i :: l :: G, q ∈ (a :: b :: G) ++ [i, l] := fun q hq => by
  simp only [List.mem_cons, List.mem_append, List.not_mem_nil, or_false] at hq ⊢
  grind
theorem pick3 {a b c n v : Int} (h0 : 0 ≤ n) (h3 : n < 3) (e : [a, b, c].getD n.toNat 0 = v) : v = a ∨ v = b ∨ v = c := by
  have : n.toNat = 0 ∨ n.toNat = 1 ∨ n.toNat = 2 := by omega
  rcases this with q | q | q <;> rw [q] at e
  · exact .inl e.symm
  · exact .inr (.inl e.symm)
  · exact .inr (.inr e.symm)
theorem nd_of {h₀ h : Heap} {L : Addr} {led : Led} (_ : News h₀ L h led) (D : (adr led).Nodup) : (adr led).Nodup := D
theorem SpecX.monoK {n : Nat} {w : World} {f : Addr} {args : List Value} {g : Led} {P P' : Value → Led → Prop} (S : SpecX n w f args g P) (h : ∀ v g', P v g' → P' v g') : SpecX n w f args g P' :=
  fun A base fs s R p XB TB k => S A base fs s R p XB TB fun v g' h' tk q => k v g' h' tk (h v g' q)
theorem tried_addrK (w : World) (f : Addr) (fd : FuncData) (od : Option Addr) (oc : Value) (sl : Array (Option Value)) (g : Led) (n : Nat) (a : Int) (hf : (f, (⟨oc, od, .func fd, sl⟩ : Obj)) ∈ g) (S : SpecES n w f [] g (.ref 64) (fun dd gx => ∃ t, badPe g (.int a t) dd gx)) :
    SpecX (n + 1) w 255 [.ref f] g (Ret fun k => ∀ D t ta X, k (.ref D) ((D, tupObj [.str "address" t, .int a ta]) :: X :: g)) :=
  (tried_addr w f fd od oc sl g _ n a hf S (fun _ _ ⟨ta, D, es, k, e1, e2, hl⟩ => ⟨D, es, k, ta, e1, e2 ▸ .head _, hl⟩)).monoK fun v g' q k h => by
    obtain ⟨D, t, ta, dd, gx, rfl, ⟨tb, Dx, es, kx, rfl, rfl, hlx⟩, rfl⟩ := q
    exact h D t ta _
theorem tried_argK (w : World) (f : Addr) (fd : FuncData) (od : Option Addr) (oc : Value) (sl : Array (Option Value)) (g : Led) (n : Nat) (hf : (f, (⟨oc, od, .func fd, sl⟩ : Obj)) ∈ g) (S : SpecES n w f [] g (.ref 45) (keepPe g)) :
    SpecX (n + 1) w 255 [.ref f] g (Ret fun k => ∀ D t a, k (.ref D) ((D, tupObj [.str "argument" t, .none]) :: (a ++ g))) :=
  (tried_arg w f fd od oc sl g _ n hf S).monoK fun v g' q k h => by
    obtain ⟨D, t, dd, gx, rfl, ⟨a, rfl⟩, rfl⟩ := q
    exact h D t a
section
variable {w : World} {A : Around} {base h₀ : Heap} {n : Nat} {s : Shared} {g led rest : Led} {L : Addr} {m : Str → Option Value} {env : Env} {mean : ExcName → Option Value} {mg mb : Str → Option Value}
  {f : Addr} {args : List Value} {K : (Value → Led → Prop) → Prop} {Q : Value → Shared → Prop}
theorem SpecX.useK (S : SpecX n w f args g (Ret K)) (B : Below A base [] h₀) (F : Fr h₀ L s.heap m) (X : (MineHead.hd.heap_1 w.params).In h₀) (T : Top PV LO mean mg mb h₀) (XB : (MineHead.hd.heap_1 w.params).In base) (TB : ∃ mean mg mb, Top PV LO mean mg mb base)
    (R : Room (A.deeper env) n) (N : News h₀ L s.heap led) (hm : ∀ p ∈ g ++ rest, p ∈ led) (D : (adr (g ++ rest)).Nodup) (k : K (Back h₀ L m rest Q s)) (hf : env.frame = some L := by rfl) (hk : env.scope.kind = .function := by rfl) :
    wpS (model PR w) (A.deeper env) (call (.ref f) args []) Q NoE s :=
  SpecX.use0 S B F X T XB TB R N hm D (fun _ _ h' tk hv F' N' D' => hv _ k h' tk F' N' D') hf hk
theorem SpecX.use1K (S : SpecX n w f args g (Ret K)) (B : Below A base [] h₀) (F : Fr h₀ L s.heap m) (X : (MineHead.hd.heap_1 w.params).In h₀) (T : Top PV LO mean mg mb h₀) (XB : (MineHead.hd.heap_1 w.params).In base) (TB : ∃ mean mg mb, Top PV LO mean mg mb base)
    (R : Room (A.deeper env) n) (N : News h₀ L s.heap g) (D : (adr g).Nodup) (k : K fun v g' => ∀ h' tk, Fr h₀ L h' m → News h₀ L h' g' → (adr g').Nodup → Q v { s with heap := h', toks := tk }) (hf : env.frame = some L := by rfl) (hk : env.scope.kind = .function := by rfl) :
    wpS (model PR w) (A.deeper env) (call (.ref f) args []) Q NoE s :=
  SpecX.use0 (rest := []) S B F X T XB TB R N (fun _ hp => by rwa [List.append_nil] at hp) (by rwa [List.append_nil]) (fun _ _ h' tk hv F' N' D' => hv _ k h' tk F' (by rwa [List.append_nil] at N') (by rwa [List.append_nil] at D')) hf hk
end
section
variable {prog : Program} {w : World} {A : Around} {s : Shared} {env : Env} {R : Result → Shared → Prop} {x : Str} {px : Pos} {body : List Stmt} {h₀ : Heap} {l : Addr} {n : Nat} {vs : List Value} {g rest : Led} {m0 : Str → Option Value}
/-- a loop over a list, the ledger as it was at each turn -/
theorem forS_valsK (hh : A.handled = none) (F : Fr h₀ env.locals s.heap m0) (N : News h₀ env.locals s.heap ((l, W.listOf vs.toArray n) :: rest)) (D : (adr ((l, W.listOf vs.toArray n) :: rest)).Nodup)
    (hR : ∀ h' tk ov, Fr h₀ env.locals h' (fun y => if y = x then ov else m0 y) → News h₀ env.locals h' rest → R (.ok .next) { s with heap := h', toks := tk })
    (step : ∀ (I : Addr) (i : Nat) (v : Value) (o : Obj) (h₁ : Heap) (tk₁ : Tok), vs[i]? = some v → Fr h₀ env.locals h₁ (fun y => if y = x then some v else m0 y) → News h₀ env.locals h₁ ((I, o) :: (l, W.listOf vs.toArray n) :: rest) → (adr ((I, o) :: (l, W.listOf vs.toArray n) :: rest)).Nodup →
      wpS (model prog w) A (execs body env) (fun f s₃ => match f with
        | .next | .cont => Turned h₀ env.locals s I o [(l, W.listOf vs.toArray n)] (JK x m0 [(l, W.listOf vs.toArray n)] fun G => G rest) s₃
        | .brk => R (.ok .next) s₃
        | .ret v => R (.ok (.ret v)) s₃) NoE { s with heap := h₁, toks := tk₁ })
    (hx : env.kindOf x = some .local := by rfl) (hp : (env.scope.kind == .class || (env.scope.kind == .module && env.locals != env.globals)) = false := by rfl) :
    wpAny (model prog w) A (pyIter (.ref l)) (fun it s₂ => Again (codeS (model prog w) A (.forLoop (.Name x px) it body [] env) R s₂)) NoE s :=
  forS_vals hh F N (.head _) (fun _ hp => .tail _ hp) (fun _ => JK x m0 [(l, W.listOf vs.toArray n)] fun G => G rest) ⟨fun _ _ => rfl, D, fun _ h => h⟩
    (fun h' tk m' g' F' N' hJ => hJ.2.2 (fun g' => Fr h₀ env.locals h' (fun y => if y = x then m' x else m0 y) → News h₀ env.locals h' ((l, W.listOf vs.toArray n) :: g') → R (.ok .next) { s with heap := h', toks := tk }) (fun F₁ N₁ => hR h' tk _ F₁ (news_tl N₁)) (fr_but F' hJ.1) N')
    (fun I i v m₁ g₁ o h₁ tk₁ hk hJ F₁ N₁ ne => hJ.2.2 (fun g => Fr h₀ env.locals h₁ (fun y => if y = x then some v else m0 y) → News h₀ env.locals h₁ ((I, o) :: (l, W.listOf vs.toArray n) :: g) → (adr ((I, o) :: (l, W.listOf vs.toArray n) :: g)).Nodup →
      wpS (model prog w) A (execs body env) (fun f s₃ => match f with
        | .next | .cont => Turned h₀ env.locals s I o [(l, W.listOf vs.toArray n)] (JK x m0 [(l, W.listOf vs.toArray n)] fun G => G rest) s₃
        | .brk => R (.ok .next) s₃
        | .ret v => R (.ok (.ret v)) s₃) NoE { s with heap := h₁, toks := tk₁ }) (step I i v o h₁ tk₁ hk) (fr_at F₁ hJ.1) N₁ (nd_off hJ.2.1 ne)) hx hp
/-- a turn's end where the ledger is as it was -/
theorem Turned.same {h' : Heap} {L : Addr} {tk : Tok} {p : Addr × Obj} {I' : Addr} {o' : Obj} {ks : Led} {m₂ : Str → Option Value} (F : Fr h₀ L h' m₂) (N : News h₀ L h' (p :: (I', o') :: (ks ++ rest))) (D : (adr ((I', o') :: (ks ++ rest))).Nodup) (hm : ∀ y, y ≠ x → m₂ y = m0 y) :
    Turned h₀ L s I' o' ks (JK x m0 ks fun G => G rest) { s with heap := h', toks := tk } :=
  Turned.intro F N (fun _ hq => .tail _ hq) (off_nd D).2 ⟨hm, (off_nd D).1, fun _ h => h⟩
end
theorem mem_last2 {a b : Addr × Obj} {G : Led} : ∀ q ∈ G ++ [a, b], q ∈ a :: b :: G := fun q hq => by
  rcases List.mem_append.mp hq with hq | hq
  · exact .tail _ (.tail _ hq)
  · exact List.mem_append_left G hq
theorem nd_dropK {p : Addr × Obj} {a g : Led} (D : (adr (p :: (a ++ g))).Nodup) : (adr (p :: g)).Nodup := nd_drop (r := []) (by rwa [List.append_nil])
theorem mem_keepK {p : Addr × Obj} {a g : Led} : ∀ q ∈ p :: g, q ∈ p :: (a ++ g) := fun q hq => by
  rcases List.mem_cons.mp hq with rfl | hq
  · exact .head _
  · exact .tail _ (List.mem_append_right _ hq)
theorem DI.pout5 {w : World} {pa : Addr} {b : BPh} {l : List Int} {z : PPh} {d : UD} {e : CD} {p : PD} (h : DI w pa b l z d e p ∧ d.out.length ≤ 100000) : p.out.length ≤ 900000 := by
  have q := congrArg List.length h.1.ag.out
  simp only [octs8, List.length_map] at q
  have := h.2
  omega
theorem DI.said {w : World} {pa : Addr} {b : BPh} {l : List Int} {z z' : PPh} {d : UD} {e : CD} {p : PD} (h : DI w pa b l z d e p) (hW : PW w pa z' { p with out := [] }) : DI w pa b l z' { d with out := [] } e { p with out := [] } :=
  ⟨h.bi, h.bl, hW, ag_said h.ag, iv_said h.iv⟩
theorem alike_di (w : World) (ua ca pa : Addr) (x : UPh) (y : CPh) (z : PPh) (d : UD) (e : CD) (p : PD) {b : BPh} {l : List Int} (h : DI w pa b l z d e p ∧ d.out.length ≤ 100000) :
    SpecS 3 w 309 [.ref ua, .ref ca, .ref pa] (uLed w.params ua x d ++ (cLed w.params ca y ua e ++ pLed pa z)) (Ret fun k => ∀ x' z', DI w pa b l z' { d with out := [] } e { p with out := [] } → k (.bool true) (uLed w.params ua x' { d with out := [] } ++ (cLed w.params ca y ua e ++ pLed pa z'))) := by
  have i1 := h.1.iv.wt
  have i2 := h.1.erl
  exact (alike_spec w ua ca pa x y z d e p h.1.W h.1.ag (by omega) (by omega) (by omega) (DI.pout5 h)).monoK (Nat.le_refl _) fun _ k x' z' hW => k x' z' (h.1.said hW)
example : True := by w_top off; trivial
abbrev lC (L : Addr) (o1 o2 o3 o4 : Obj) : Led := [(L + 1 + 1 + 1 + 1, o1), (L + 1 + 1 + 1, o2), (L + 1 + 1, o3), (L + 1, o4)]
/-- what the tail's lambdas need, the serial line ahead -/
abbrev tG (P : Params) (L S : Addr) (so : Obj) (ps : Array Value) (ba : Addr) (b : BPh) (k : Int) (ua : Addr) (x : UPh) (d : UD) (ca : Addr) (y : CPh) (e : CD) (pa : Addr) (z : PPh) (o1 o2 o3 o4 : Obj) (f1 f2 : Addr) (fo1 fo2 : Obj) (qs : Array Value) (ds : Led) : Led :=
  uLed P ua x d ++ ((f1, fo1) :: (f2, fo2) :: (bLed ba b k ++ (lC L o1 o2 o3 o4 ++ (cLed P ca y ua e ++ (pLed pa z ++ ((S, so) :: (299, tabObj ps) :: (311, tabObj qs) :: ds))))))
abbrev tS (P : Params) (L S : Addr) (so : Obj) (ps : Array Value) (ba : Addr) (b : BPh) (k : Int) (ua : Addr) (x : UPh) (d : UD) (ca : Addr) (y : CPh) (e : CD) (pa : Addr) (z : PPh) (o1 o2 o3 o4 : Obj) : Led :=
  bLed ba b k ++ (lC L o1 o2 o3 o4 ++ (uLed P ua x d ++ (cLed P ca y ua e ++ (pLed pa z ++ [(S, so), (299, tabObj ps)]))))
def LawP (S : Addr) (so : Obj) (v : Value) (g : Led) : Prop := v = .bool true ∧ ∃ ps qs, (S, so) ∈ g ∧ (299, tabObj ps) ∈ g ∧ (311, tabObj qs) ∈ g
def TailGoal (w : World) (qual : Str) (body : List Stmt) (scope : Scope) (cdv : Value) : Prop :=
  ∀ (A : Around) (base : Heap) (s : Shared) (g' : Heap) (L' : Addr) (h : Heap) (tk : Tok) (mean : ExcName → Option Value) (mg mb : Str → Option Value) (S : Addr) (so : Obj) (ps : Array Value)
    (ba : Addr) (b : BPh) (k : Int) (l : List Int) (ua : Addr) (x : UPh) (d : UD) (ca : Addr) (y : CPh) (e : CD) (pa : Addr) (z : PPh) (p : PD) (o1 o2 o3 o4 : Obj) (lv v1 v2 : Option Value),
    Room (A.deeper (envOfC qual scope L' 316 cdv)) 11 → Below A base [] g' → (MineHead.hd.heap_1 w.params).In g' → Top PV LO mean mg mb g' → (MineHead.hd.heap_1 w.params).In base → (∃ mean mg mb, Top PV LO mean mg mb base) →
    Fr g' L' h (fun q => if q = ("lap" : Str) then lv else if q = ("plain" : Str) then some (.ref pa) else if q = ("size" : Str) then v1 else if q = ("room" : Str) then v2 else if q = ("box" : Str) then some (.ref ba) else if q = ("script" : Str) then some (.ref S) else none) →
    News g' L' h (tS w.params L' S so ps ba b k ua x d ca y e pa z o1 o2 o3 o4 ++ [(311, tabObj #[])]) → (adr (tS w.params L' S so ps ba b k ua x d ca y e pa z o1 o2 o3 o4 ++ [(311, tabObj #[])])).Nodup →
    DI w pa b l z d e p → d.out = [] → o1.data = .cell (some (.ref ua)) → o2.data = .cell none → o3.data = .cell none → o4.data = .cell (some (.ref ca)) →
    wpS (model PR w) (A.deeper (envOfC qual scope L' 316 cdv)) (execs (body.drop 7) (envOfC qual scope L' 316 cdv)) (fun fl s' => Leave (LawP S so) g' L' s (match fl with | .ret v => v | _ => .none) s') NoE { s with heap := h, toks := tk }
theorem tail_open {w : World} {name qual : Str} {params : Arguments} {body : List Stmt} {scope : Scope} {dV kV doc pm cdv ct oc : Value} {an od : Option Addr} {osl : Array (Option Value)}
    {name' qual' : Str} {params' : Arguments} {body' : List Stmt} {scope' : Scope} {dV' kV' doc' pm' cdv' ct' oc' : Value} {an' od' : Option Addr} {osl' : Array (Option Value)}
    (h : (MineHead.hd.heap_1 w.params).lookup 316 = some ⟨oc, od, .func (fnOf name qual params body scope dV kV doc pm an cdv ct), osl⟩) (k : TailGoal w qual body scope cdv)
    (h' : (MineHead.hd.heap_1 w.params).lookup 316 = some ⟨oc', od', .func (fnOf name' qual' params' body' scope' dV' kV' doc' pm' an' cdv' ct'), osl'⟩) : TailGoal w qual' body' scope' cdv' := by
  obtain ⟨rfl, rfl, rfl, rfl⟩ := law_fn_eq h h'
  exact k
theorem fills_P595 (w : World) : PySem.Challenge.rw_nu0085_01.row.toRowW.prog = PySem.Challenge.rw_nu0085_01.row.toRowW.prog → MineHead.hd.heap_1 w.params = MineHead.hd.heap_1 w.params := by
  k_fill
  exact fun _ => rfl

theorem tail_ok {w : World} {name qual : Str} {params : Arguments} {body : List Stmt} {scope : Scope} {dV kV doc pm cdv ct oc : Value} {an od : Option Addr} {osl : Array (Option Value)}
    (h' : (MineHead.hd.heap_1 w.params).lookup 316 = some ⟨oc, od, .func (fnOf name qual params body scope dV kV doc pm an cdv ct), osl⟩) : TailGoal w qual body scope cdv := by
  refine' tail_open ?h1 ?_ h'
  case h1 => k_is
  clear h'
  w_on
  intro A base s g' L' h tk mean mg mb S so ps ba b k l ua x d ca y e pa z p o1 o2 o3 o4 lv v1 v2 R' B' X' T' XB TB F' N' D' I hout d1 d2 d3 d4
  refine S_letQ ?_; intro kQ0
  k_steps
  rename_i l8 hD FA NA l1c
  dsimp only at NA
  refine sv_go (ns := [-1, 8, 9]) NA (by l_ints) fun v8 h8 N1 => ?_
  clear NA
  have D1 := nd_of N1 (nd_consI D' l1c)
  refine' m_go (Spec.useK (rest := (l8, W.listOf (List.toArray v8) 0) :: (lC L' o1 o2 o3 o4 ++ (uLed w.params ua x d ++ (cLed w.params ca y ua e ++ (pLed pa z ++ [(S, so), (299, tabObj ps), (311, tabObj #[])]))))) (fig_di w ba b k l 3 _ I (by decide)) B' (by k_asm) X' T' (R'.le (by decide)) (by k_asm) (sub_ix [1, 2, 0, 3, 4, 5, 6, 7, 8, 9, 10, 11, 12, 13, 14, 15, 16, 17, 18, 19, 20, 21, 22]) (nd_pickN (by k_asm) (by walk_at "k_nd") [1, 2, 0, 3, 4, 5, 6, 7, 8, 9, 10, 11, 12, 13, 14, 15, 16, 17, 18, 19, 20, 21, 22]) ?_)
  intro n8 t8 b1 k1 l2 n80 n83 I1; refine Back.intro ?_; intro kL h' tk F' N' D'; (try dsimp only)
  clear N1 D1 l1c I FA
  refine item_anyK (ns := [-1, 8, 9]) (News.isList N' (mem_ix 2 rfl)) (by assumption) n80 (by simpa using n83) (by omega) (fun t9 => ?_) (by with_unfolding_all rfl)
  generalize hplace : ([-1, 8, 9] : List Int).getD n8.toNat 0 = place
  have hpl := pick3 n80 n83 hplace
  clear hplace n80 n83 h8
  k_steps
  rename_i l9 hE FE NE l1e
  dsimp only at NE
  refine sv_go (ns := [2, 4, 0]) NE (by l_ints) fun v9 h9 N2 => ?_
  clear NE
  have D2 := nd_of N2 (nd_consI D' l1e)
  refine' m_go (Spec.useK (rest := (l9, W.listOf (List.toArray v9) 0) :: (lC L' o1 o2 o3 o4 ++ (uLed w.params ua x d ++ (cLed w.params ca y ua e ++ (pLed pa z ++ [(S, so), (299, tabObj ps), (311, tabObj #[])]))))) (fig_di w ba b1 k1 l2 3 _ I1 (by decide)) B' (by k_asm) X' T' (R'.le (by decide)) (by k_asm) (sub_ix [1, 2, 0, 4, 5, 6, 7, 8, 9, 10, 11, 12, 13, 14, 15, 16, 17, 18, 19, 20, 21, 22, 23]) (nd_pickN (by k_asm) (by walk_at "k_nd") [1, 2, 0, 4, 5, 6, 7, 8, 9, 10, 11, 12, 13, 14, 15, 16, 17, 18, 19, 20, 21, 22, 23]) ?_)
  intro n9 t91 b2 k2 l3 n90 n93 I2; refine Back.intro ?_; intro kL h' tk F' N' D'; (try dsimp only)
  clear N2 D2 l1e I1 FE
  refine item_anyK (ns := [2, 4, 0]) (News.isList N' (mem_ix 2 rfl)) (by assumption) n90 (by simpa using n93) (by omega) (fun t92 => ?_) (by with_unfolding_all rfl)
  generalize hmany : ([2, 4, 0] : List Int).getD n9.toNat 0 = many
  have hmn := pick3 n90 n93 hmany
  clear hmany n90 n93 h9
  iterate 5 walk1
  rename News _ _ _ _ => NT
  replace NT := news_tl NT
  (refine' storeX_C ?F NT ?c (updF_ix 4 rfl D') d2 ?_ ?a ?b; (case a => rfl); (case b => rfl); (case F => k_asm); (case c => rfl))
  intro hC oP FC NC dP
  iterate 2 walk1
  (refine' storeX_C ?F NC ?c (updF_ix 5 rfl (nd_setI D')) d3 ?_ ?a ?b; (case a => rfl); (case b => rfl); (case F => k_asm); (case c => rfl))
  intro hO oM FO NO dM
  let TS : Led := tS w.params L' S so ps ba b2 k2 ua x d ca y e pa z o1 oP oM o4
  have N0 : News g' L' hO (TS ++ [(311, tabObj #[])]) := sub_news NO [0, 1, 3, 4, 5, 6, 7, 8, 9, 10, 11, 12, 13, 14, 15, 16, 17, 18, 19, 20, 21, 22]
  have D0 : (adr (TS ++ [(311, tabObj #[])])).Nodup := nd_pick D' [0, 1, 3, 4, 5, 6, 7, 8, 9, 10, 11, 12, 13, 14, 15, 16, 17, 18, 19, 20, 21, 22]
  clear NO NC NT FC d2 d3
  clear D'
  k_steps
  refine m_go (S_cons (S_For ?_))
  k_steps
  refine mk_lam3 (rest := TS) FO N0 D0 X' T' (TabOK.nil _) (by kernel_rfl) (by rfl) ?_
  intro f1 fo1 hL1 tkL1 qs1 ds1 tb1 il1 sb1 FL1 NL1 DL1
  clear N0 D0 
  k_steps
  refine mk_lam3 (rest := (f1, fo1) :: TS) FL1 NL1 DL1 X' T' tb1 (by kernel_rfl) (by rfl) ?_
  intro f2 fo2 hL2 tkL2 qs2 ds2 tb2 il2 sb2 FL2 NL2 DL2
  replace il1 := il1.more sb2
  clear NL1 FL1 DL1 tb1 sb1 sb2
  let TG : Led := tG w.params L' S so ps ba b2 k2 ua x d ca y e pa z o1 oP oM o4 f1 f2 fo1 fo2 qs2 ds2
  have S1 : SpecES 5 w f1 [] TG (.ref 64) (fun dd gx => ∃ t, badPe TG (.int place t) dd gx) := by
    clear FL2 NL2 DL2 B' T' X' R' XB TB
    refine SpecES.introL il1 (mem_ix 4 rfl) (fun p hp => List.mem_of_mem_drop (i := 24) (show p ∈ List.drop 24 TG from hp)) ?_
    intro A base fs s g₂ L₂ h₂ cdv mean mg mb R' F' N' D' B' X' T' l1
    refine wpS_of ?_
    k_steps
    exact m_go (lam_thru (load_bad w ua x d _ _ _ _ (.inl ⟨hpl, rfl⟩)) (fun dd gx h => ⟨_, badPe_app dd gx h⟩) B' (by k_asm) X' T' (R'.le (by decide)) N' D' (fun _ _ => rfl))
  have S2 : SpecES 5 w f2 [] TG (.ref 64) (fun dd gx => ∃ t, badPe TG (.int place t) dd gx) := by
    clear FL2 NL2 DL2 B' T' X' R' XB TB
    refine SpecES.introL il2 (mem_ix 5 rfl) (fun p hp => List.mem_of_mem_drop (i := 24) (show p ∈ List.drop 24 TG from hp)) ?_
    intro A base fs s g₂ L₂ h₂ cdv mean mg mb R' F' N' D' B' X' T' l1
    refine wpS_of ?_
    k_steps
    exact m_go (lam_thru (store_bad w ua x d _ _ _ _ _ _ (.inl ⟨hpl, rfl⟩)) (fun dd gx h => ⟨_, badPe_app dd gx h⟩) B' (by k_asm) X' T' (R'.le (by decide)) N' D' (fun _ _ => rfl))
  have S12 : ∀ (i : Nat) (v : Value), [Value.ref f1, Value.ref f2][i]? = some v → ∃ f, v = .ref f ∧ SpecX 6 w 255 [.ref f] TG (Ret fun k => ∀ D t ta X, k (.ref D) ((D, tupObj [.str "address" t, .int place ta]) :: X :: TG)) := by
    intro i v hv
    obtain ⟨a1, a2, a3, a4, e1⟩ := il1.fn
    obtain ⟨c1, c2, c3, c4, e2⟩ := il2.fn
    match i, hv with
    | 0, hv => cases hv; exact ⟨f1, rfl, tried_addrK w f1 a3 a2 a1 a4 TG 5 place (e1 ▸ mem_ix 4 rfl) S1⟩
    | 1, hv => cases hv; exact ⟨f2, rfl, tried_addrK w f2 c3 c2 c1 c4 TG 5 place (e2 ▸ mem_ix 5 rfl) S2⟩
  clear S1 S2 il1 il2
  replace NL2 : News g' L' hL2 TG := fun q hq => NL2 q (sub_pickT 23 [8, 9, 10, 11, 1, 0, 2, 3, 4, 5, 6, 7, 12, 13, 14, 15, 16, 17, 18, 19, 20, 21, 22] rfl rfl rfl q hq)
  replace DL2 : (adr TG).Nodup := nd_pickT DL2 23 [8, 9, 10, 11, 1, 0, 2, 3, 4, 5, 6, 7, 12, 13, 14, 15, 16, 17, 18, 19, 20, 21, 22]
  k_steps
  rename_i lP hP FP NP ltP
  refine forS_valsK (vs := [Value.ref f1, Value.ref f2]) (rest := TG) R'.handled FP NP (nd_consI DL2 ltP) ?done ?step
  case step =>
    clear FP NP ltP DL2
    intro I i v o h₁ tk₁ hv F1 N1 D1
    obtain ⟨f, rfl, Sf⟩ := S12 i v hv
    refine S_cons (S_IfS (S_isTrue_Compare1 (S_Call ?_)))
    k_steps
    refine m_go (SpecX.useK (rest := [(I, o), (lP, W.listOf (List.toArray [Value.ref f1, Value.ref f2]) 0)]) Sf B' (by k_asm) X' T' XB TB (R'.le (by decide)) N1 mem_last2 (dj_swap (a := [(I, o), (lP, W.listOf (List.toArray [Value.ref f1, Value.ref f2]) 0)]) D1) ?_)
    intro D t ta X
    refine Back.intro ?_
    intro kL h₂ tk₂ F2 N2 D2
    replace N2 : News g' L' h₂ ((D, tupObj [.str "address" t, .int place ta]) :: (I, o) :: (lP, W.listOf (List.toArray [Value.ref f1, Value.ref f2]) 0) :: TG) := fun q hq => N2 q (mem_step q hq)
    clear N1 F1 D2
    iterate 7 walk1
    rename_i DT hT FT NT ltT
    refine ne_told (NT _ (mem_ix 1 rfl)).1 (NT _ (mem_ix 0 rfl)).1 (Nat.lt_of_le_of_lt (Nat.le_add_right _ 64) (Room.line R')) (eqAt_int rfl) ?_
    k_steps
    exact Turned.same FT (news_tl NT) D1 (fun q hq => if_neg hq)
  case done =>
  clear FP NP ltP S12
  intro h9 tk9 cv9 F9 N9
  replace N9 : News g' L' h9 (TS ++ ((311, tabObj qs2) :: ds2)) := fun q hq => N9 q (sub_pickT 23 [6, 7, 8, 9, 10, 11, 0, 1, 2, 3, 12, 13, 14, 15, 16, 17, 18, 19, 20, 21, 22] rfl rfl rfl q hq)
  have D9 : (adr (TS ++ ((311, tabObj qs2) :: ds2))).Nodup := nd_pickT DL2 23 [6, 7, 8, 9, 10, 11, 0, 1, 2, 3, 12, 13, 14, 15, 16, 17, 18, 19, 20, 21, 22]
  clear DL2
  clear TG
  dsimp only
  k_steps
  refine m_go (S_cons (S_For ?_))
  k_steps
  refine mk_lam3 (rest := TS) F9 N9 D9 X' T' tb2 (by kernel_rfl) (by rfl) ?_
  intro f1b fo1b hL1b tkL1b qs1b ds1b tb1b il1b sb1b FL1b NL1b DL1b
  clear N9 D9 
  k_steps
  refine mk_lam3 (rest := (f1b, fo1b) :: TS) FL1b NL1b DL1b X' T' tb1b (by kernel_rfl) (by rfl) ?_
  intro f2b fo2b hL2b tkL2b qs2b ds2b tb2b il2b sb2b FL2b NL2b DL2b
  replace il1b := il1b.more sb2b
  clear NL1b FL1b DL1b tb1b sb1b sb2b
  let TGb : Led := tG w.params L' S so ps ba b2 k2 ua x d ca y e pa z o1 oP oM o4 f1b f2b fo1b fo2b qs2b ds2b
  have S1b : SpecES 5 w f1b [] TGb (.ref 64) (fun dd gx => ∃ t, badPe TGb (.int 0 t) dd gx) := by
    clear FL2b NL2b DL2b B' T' X' R' XB TB
    refine SpecES.introL il1b (mem_ix 4 rfl) (fun p hp => List.mem_of_mem_drop (i := 24) (show p ∈ List.drop 24 TGb from hp)) ?_
    intro A base fs s g₂ L₂ h₂ cdv mean mg mb R' F' N' D' B' X' T' l1
    refine wpS_of ?_
    k_steps
    exact m_go (lam_thru (load_bad w ua x d _ _ _ _ (.inr ⟨rfl, hmn⟩)) (fun dd gx h => ⟨_, badPe_app dd gx h⟩) B' (by k_asm) X' T' (R'.le (by decide)) N' D' (fun _ _ => rfl))
  have S2b : SpecES 5 w f2b [] TGb (.ref 64) (fun dd gx => ∃ t, badPe TGb (.int 0 t) dd gx) := by
    clear FL2b NL2b DL2b B' T' X' R' XB TB
    refine SpecES.introL il2b (mem_ix 5 rfl) (fun p hp => List.mem_of_mem_drop (i := 24) (show p ∈ List.drop 24 TGb from hp)) ?_
    intro A base fs s g₂ L₂ h₂ cdv mean mg mb R' F' N' D' B' X' T' l1
    refine wpS_of ?_
    k_steps
    exact m_go (lam_thru (store_bad w ua x d _ _ _ _ _ _ (.inr ⟨rfl, hmn⟩)) (fun dd gx h => ⟨_, badPe_app dd gx h⟩) B' (by k_asm) X' T' (R'.le (by decide)) N' D' (fun _ _ => rfl))
  have S12b : ∀ (i : Nat) (v : Value), [Value.ref f1b, Value.ref f2b][i]? = some v → ∃ f, v = .ref f ∧ SpecX 6 w 255 [.ref f] TGb (Ret fun k => ∀ D t ta X, k (.ref D) ((D, tupObj [.str "address" t, .int 0 ta]) :: X :: TGb)) := by
    intro i v hv
    obtain ⟨a1, a2, a3, a4, e1⟩ := il1b.fn
    obtain ⟨c1, c2, c3, c4, e2⟩ := il2b.fn
    match i, hv with
    | 0, hv => cases hv; exact ⟨f1b, rfl, tried_addrK w f1b a3 a2 a1 a4 TGb 5 0 (e1 ▸ mem_ix 4 rfl) S1b⟩
    | 1, hv => cases hv; exact ⟨f2b, rfl, tried_addrK w f2b c3 c2 c1 c4 TGb 5 0 (e2 ▸ mem_ix 5 rfl) S2b⟩
  clear S1b S2b il1b il2b
  replace NL2b : News g' L' hL2b TGb := fun q hq => NL2b q (sub_pickT 23 [8, 9, 10, 11, 1, 0, 2, 3, 4, 5, 6, 7, 12, 13, 14, 15, 16, 17, 18, 19, 20, 21, 22] rfl rfl rfl q hq)
  replace DL2b : (adr TGb).Nodup := nd_pickT DL2b 23 [8, 9, 10, 11, 1, 0, 2, 3, 4, 5, 6, 7, 12, 13, 14, 15, 16, 17, 18, 19, 20, 21, 22]
  k_steps
  rename_i lP hP FP NP ltP
  refine forS_valsK (vs := [Value.ref f1b, Value.ref f2b]) (rest := TGb) R'.handled FP NP (nd_consI DL2b ltP) ?done ?step
  case step =>
    clear FP NP ltP DL2b
    intro I i v o h₁ tk₁ hv F1 N1 D1
    obtain ⟨f, rfl, Sf⟩ := S12b i v hv
    refine S_cons (S_IfS (S_isTrue_Compare1 (S_Call ?_)))
    k_steps
    refine m_go (SpecX.useK (rest := [(I, o), (lP, W.listOf (List.toArray [Value.ref f1b, Value.ref f2b]) 0)]) Sf B' (by k_asm) X' T' XB TB (R'.le (by decide)) N1 mem_last2 (dj_swap (a := [(I, o), (lP, W.listOf (List.toArray [Value.ref f1b, Value.ref f2b]) 0)]) D1) ?_)
    intro D t ta X
    refine Back.intro ?_
    intro kL h₂ tk₂ F2 N2 D2
    replace N2 : News g' L' h₂ ((D, tupObj [.str "address" t, .int 0 ta]) :: (I, o) :: (lP, W.listOf (List.toArray [Value.ref f1b, Value.ref f2b]) 0) :: TGb) := fun q hq => N2 q (mem_step q hq)
    clear N1 F1 D2
    iterate 7 walk1
    rename_i DT hT FT NT ltT
    refine ne_told (NT _ (mem_ix 1 rfl)).1 (NT _ (mem_ix 0 rfl)).1 (Nat.lt_of_le_of_lt (Nat.le_add_right _ 64) (Room.line R')) (eqAt_int rfl) ?_
    k_steps
    exact Turned.same FT (news_tl NT) D1 (fun q hq => if_neg hq)
  case done =>
  clear FP NP ltP S12b
  intro h8 tk8 cv8 F8 N8
  replace N8 : News g' L' h8 (TS ++ ((311, tabObj qs2b) :: ds2b)) := fun q hq => N8 q (sub_pickT 23 [6, 7, 8, 9, 10, 11, 0, 1, 2, 3, 12, 13, 14, 15, 16, 17, 18, 19, 20, 21, 22] rfl rfl rfl q hq)
  have D8 : (adr (TS ++ ((311, tabObj qs2b) :: ds2b))).Nodup := nd_pickT DL2b 23 [6, 7, 8, 9, 10, 11, 0, 1, 2, 3, 12, 13, 14, 15, 16, 17, 18, 19, 20, 21, 22]
  clear DL2b
  clear TGb
  dsimp only
  refine S_cons (S_AssignName (S_List ?_))
  refine S_items_cons (S_Call ?_)
  k_steps
  refine mk_lam3 (rest := TS) F8 N8 D8 X' T' tb2b (by kernel_rfl) (by rfl) ?_
  intro fp fop hLp tkLp qsp dsp tbp ilp sbp FLp NLp DLp
  clear N8 F8 D8 sbp
  let Gp : Led := cLed w.params ca y ua e ++ ((fp, fop) :: (bLed ba b2 k2 ++ (lC L' o1 oP oM o4 ++ (uLed w.params ua x d ++ (pLed pa z ++ ((S, so) :: (299, tabObj ps) :: (311, tabObj qsp) :: dsp))))))
  have Sp : SpecES 6 w fp [] Gp (.ref 45) (keepPe Gp) := by
    clear FLp NLp DLp B' T' X' R' XB TB
    refine SpecES.introL ilp (mem_ix 4 rfl) (fun p hp => List.mem_of_mem_drop (i := 23) (show p ∈ List.drop 23 Gp from hp)) ?_
    intro A base fs s g₂ L₂ h₂ cdv mean mg mb R' F' N' D' B' X' T' l1
    refine wpS_of ?_
    k_steps
    exact m_go (lam_thru (read_bad w ua ca y e _) (fun dd gx h => by obtain ⟨D, es, k, _, rfl⟩ := h; exact ⟨[(D, dictOf es k)], rfl⟩) B' (by k_asm) X' T' (R'.le (by decide)) N' D' (fun _ _ => rfl))
  replace NLp : News g' L' hLp Gp := fun q hq => NLp q (sub_pickT 22 [11, 12, 13, 14, 0, 1, 2, 3, 4, 5, 6, 7, 8, 9, 10, 15, 16, 17, 18, 19, 20, 21] rfl rfl rfl q hq)
  replace DLp : (adr Gp).Nodup := nd_pickT DLp 22 [11, 12, 13, 14, 0, 1, 2, 3, 4, 5, 6, 7, 8, 9, 10, 15, 16, 17, 18, 19, 20, 21]
  obtain ⟨ocp, odp, fdp, slp, ep⟩ := ilp.fn
  k_steps
  refine m_go (SpecX.use1K (tried_argK w fp fdp odp ocp slp Gp 6 (ep ▸ mem_ix 4 rfl) Sp) B' FLp X' T' XB TB (R'.le (by decide)) NLp DLp ?_)
  clear FLp NLp DLp Sp ep ilp
  intro Dp tp ap hp tkp Fp Np Mp
  replace Mp : (adr ((Dp, tupObj [.str "argument" tp, .none]) :: (TS ++ ((311, tabObj qsp) :: dsp)))).Nodup := nd_pickT (nd_dropK Mp) 23 [0, 6, 7, 8, 9, 10, 11, 12, 13, 14, 15, 1, 2, 3, 4, 16, 17, 18, 19, 20, 21, 22]
  replace Np : News g' L' hp ((Dp, tupObj [.str "argument" tp, .none]) :: (TS ++ ((311, tabObj qsp) :: dsp))) := fun q hq => Np q (mem_keepK q (sub_pickT 23 [0, 6, 7, 8, 9, 10, 11, 12, 13, 14, 15, 1, 2, 3, 4, 16, 17, 18, 19, 20, 21, 22] rfl rfl rfl q hq))
  clear Gp
  refine S_items_cons (S_Call ?_)
  k_steps
  refine mk_lam3 (rest := (Dp, tupObj [.str "argument" tp, .none]) :: TS) Fp Np Mp X' T' tbp (by kernel_rfl) (by rfl) ?_
  intro fj foj hLj tkLj qsj dsj tbj ilj sbj FLj NLj DLj
  clear Np Fp Mp sbj
  let Gj : Led := (fj, foj) :: (Dp, tupObj [.str "argument" tp, .none]) :: (TS ++ ((311, tabObj qsj) :: dsj))
  have Sj : SpecES 6 w fj [] Gj (.ref 45) (keepPe Gj) := by
    clear FLj NLj DLj B' T' X' R' XB TB
    refine SpecES.introL ilj (mem_ix 0 rfl) (fun p hp => List.mem_of_mem_drop (i := 24) (show p ∈ List.drop 24 Gj from hp)) ?_
    intro A base fs s g₂ L₂ h₂ cdv mean mg mb R' F' N' D' B' X' T' l1
    refine S_Call ?_
    k_steps
    exact m_go (SpecES.make (fun u du => (SpecE.monoE (Pe' := fun _ _ => True) (uinit_bad w u du _) fun _ _ _ => trivial).toS) (by k_is) (by k_is) (by k_is) B' (by k_asm) X' T' (R'.le (by decide)) N' (fun p hp => hp) D'
      (fun e' T' dd G gc gx h' tk F1 N1 D1 hp _ => ⟨e', T', dd, G, _, gc, _, gx, h', tk, rfl, rfl, F1, N1, D1, hp, gx, rfl⟩))
  replace NLj : News g' L' hLj Gj := NLj
  replace DLj : (adr Gj).Nodup := DLj
  obtain ⟨ocj, odj, fdj, slj, ej⟩ := ilj.fn
  k_steps
  refine m_go (SpecX.use1K (tried_argK w fj fdj odj ocj slj Gj 6 (ej ▸ mem_ix 0 rfl) Sj) B' FLj X' T' XB TB (R'.le (by decide)) NLj DLj ?_)
  clear FLj NLj DLj Sj ej ilj
  intro Dj tj aj hj tkj Fj Nj Mj
  replace Mj : (adr ((Dj, tupObj [.str "argument" tj, .none]) :: (Dp, tupObj [.str "argument" tp, .none]) :: (TS ++ ((311, tabObj qsj) :: dsj)))).Nodup := nd_pickT (nd_dropK Mj) 24 [0, 2, 3, 4, 5, 6, 7, 8, 9, 10, 11, 12, 13, 14, 15, 16, 17, 18, 19, 20, 21, 22, 23]
  replace Nj : News g' L' hj ((Dj, tupObj [.str "argument" tj, .none]) :: (Dp, tupObj [.str "argument" tp, .none]) :: (TS ++ ((311, tabObj qsj) :: dsj))) := fun q hq => Nj q (mem_keepK q (sub_pickT 24 [0, 2, 3, 4, 5, 6, 7, 8, 9, 10, 11, 12, 13, 14, 15, 16, 17, 18, 19, 20, 21, 22, 23] rfl rfl rfl q hq))
  clear Gj
  refine S_items1 (S_Call ?_)
  k_steps
  refine mk_lam3 (rest := (Dj, tupObj [.str "argument" tj, .none]) :: (Dp, tupObj [.str "argument" tp, .none]) :: TS) Fj Nj Mj X' T' tbj (by kernel_rfl) (by rfl) ?_
  intro fn fon hLn tkLn qsn dsn tbn iln sbn FLn NLn DLn
  clear Nj Fj Mj sbn
  let Gn : Led := (fn, fon) :: (Dj, tupObj [.str "argument" tj, .none]) :: (Dp, tupObj [.str "argument" tp, .none]) :: (TS ++ ((311, tabObj qsn) :: dsn))
  have Sn : SpecES 6 w fn [] Gn (.ref 45) (keepPe Gn) := by
    clear FLn NLn DLn B' T' X' R' XB TB
    refine SpecES.introL iln (mem_ix 0 rfl) (fun p hp => List.mem_of_mem_drop (i := 25) (show p ∈ List.drop 25 Gn from hp)) ?_
    intro A base fs s g₂ L₂ h₂ cdv mean mg mb R' F' N' D' B' X' T' l1
    refine S_Call ?_
    k_steps
    exact m_go (SpecES.make (fun u du => (SpecE.monoE (Pe' := fun _ _ => True) (cinit_bad w u du ua _) fun _ _ _ => trivial).toS) (by k_is) (by k_is) (by k_is) B' (by k_asm) X' T' (R'.le (by decide)) N' (fun p hp => hp) D'
      (fun e' T' dd G gc gx h' tk F1 N1 D1 hp _ => ⟨e', T', dd, G, _, gc, _, gx, h', tk, rfl, rfl, F1, N1, D1, hp, gx, rfl⟩))
  replace NLn : News g' L' hLn Gn := NLn
  replace DLn : (adr Gn).Nodup := DLn
  obtain ⟨ocn, odn, fdn, sln, en⟩ := iln.fn
  k_steps
  refine m_go (SpecX.use1K (tried_argK w fn fdn odn ocn sln Gn 6 (en ▸ mem_ix 0 rfl) Sn) B' FLn X' T' XB TB (R'.le (by decide)) NLn DLn ?_)
  clear FLn NLn DLn Sn en iln
  intro Dn tn an hn tkn Fn Nn Mn
  replace Mn : (adr ((Dn, tupObj [.str "argument" tn, .none]) :: (Dj, tupObj [.str "argument" tj, .none]) :: (Dp, tupObj [.str "argument" tp, .none]) :: (TS ++ ((311, tabObj qsn) :: dsn)))).Nodup := nd_pickT (nd_dropK Mn) 25 [0, 2, 3, 4, 5, 6, 7, 8, 9, 10, 11, 12, 13, 14, 15, 16, 17, 18, 19, 20, 21, 22, 23, 24]
  replace Nn : News g' L' hn ((Dn, tupObj [.str "argument" tn, .none]) :: (Dj, tupObj [.str "argument" tj, .none]) :: (Dp, tupObj [.str "argument" tp, .none]) :: (TS ++ ((311, tabObj qsn) :: dsn))) := fun q hq => Nn q (mem_keepK q (sub_pickT 25 [0, 2, 3, 4, 5, 6, 7, 8, 9, 10, 11, 12, 13, 14, 15, 16, 17, 18, 19, 20, 21, 22, 23, 24] rfl rfl rfl q hq))
  clear Gn
  refine ⟨by show 3 ≤ 16777216; decide, ?_⟩
  have FW := Fn.push { cls := Value.type "list", data := Data.seq #[Value.ref Dp, Value.ref Dj, Value.ref Dn] }
  have NW := Nn.push Fn { cls := Value.type "list", data := Data.seq #[Value.ref Dp, Value.ref Dj, Value.ref Dn] }
  have DW := nd_of NW (nd_consI Mn fun p hp => Heap.lt_size (Nn p hp).1)
  clear Fn Nn
  dsimp only
  generalize hn.push { cls := Value.type "list", data := Data.seq #[Value.ref Dp, Value.ref Dj, Value.ref Dn] } = hpl9 at FW NW ⊢
  generalize hn.objs.size = Wl at NW DW ⊢
  iterate 2 walk1
  refine S_Ret (S_And2 (wpS_of ?_))
  iterate 15 walk1
  dsimp only
  rename_i h0 DE h1 lE0 lE hE FE NE ltE
  refine KMa.mul (vs := [.ref DE]) (ws := [.ref DE, .ref DE, .ref DE]) FE NE (News.isList NE (mem_ix 0 rfl)) (by decide) (by decide) (by show 1 * 3 ≤ 256; decide) (by rfl) (fun lM hM FM NM ltM => ?_)
  have hu := Room.line R'
  have DE9 := nd_of NE (nd_consI (nd_consI DW lE0) ltE)
  clear FE NE
  refine SeqAt.eq_listAt (items := #[.ref Dp, .ref Dj, .ref Dn]) (items2 := #[.ref DE, .ref DE, .ref DE]) (e := fun _ => true) (News.isList NM (mem_ix 3 rfl)) (News.isList NM (mem_ix 0 rfl)) rfl (Nat.lt_of_le_of_lt (Nat.le_add_right _ 64) hu) (fun j q1 q2 => ?_) ?_
  · have hE := (NM _ (mem_ix 2 rfl)).1
    match j, q1 with
    | 0, _ => exact eqAt_pair hu (NM _ (mem_ix 6 rfl)).1 hE (nd_ne DE9 5 1)
    | 1, _ => exact eqAt_pair hu (NM _ (mem_ix 5 rfl)).1 hE (nd_ne DE9 4 1)
    | 2, _ => exact eqAt_pair hu (NM _ (mem_ix 4 rfl)).1 hE (nd_ne DE9 3 1)
  clear DE9 DW
  replace NM : News g' L' hM (TS ++ ((311, tabObj qsn) :: dsn)) := news_tl (news_tl (news_tl (news_tl (news_tl (news_tl (news_tl NM))))))
  replace Mn : (adr (TS ++ ((311, tabObj qsn) :: dsn))).Nodup := nd_tail (nd_tail (nd_tail Mn))
  iterate 2 walk1
  refine S_Call ?_
  k_steps
  refine m_go (SpecS.useK (rest := bLed ba b2 k2 ++ (lC L' o1 oP oM o4 ++ ((S, so) :: (299, tabObj ps) :: (311, tabObj qsn) :: dsn))) (alike_di w ua ca pa x y z d e p ⟨I2, by rw [hout]; decide⟩) B' FM X' T' (R'.le (by decide)) NM (sub_pickT 21 [6, 7, 8, 9, 10, 11, 12, 13, 14, 15, 16, 17, 18, 0, 1, 2, 3, 4, 5, 19, 20]) (nd_pickT Mn 21 [6, 7, 8, 9, 10, 11, 12, 13, 14, 15, 16, 17, 18, 0, 1, 2, 3, 4, 5, 19, 20]) ?_)
  intro x4 z4 I4
  refine Back.intro ?_
  intro kL hz tkz FZ NZ DZ
  refine Leave.intro (g'' := [(S, so), (299, tabObj ps), (311, tabObj qsn)]) ⟨rfl, ps, qsn, .head _, .tail _ (.head _), .tail _ (.tail _ (.head _))⟩ FZ NZ (fun q hq => sub_pickT (g' := [(S, so), (299, tabObj ps), (311, tabObj qsn)] ++ dsn) 22 [19, 20, 21] rfl rfl rfl q (List.mem_append_left _ hq)) (nd_left (b := dsn) (nd_pickT DZ 22 [19, 20, 21]))
example : True := by w_top off; trivial
abbrev lT (S : Addr) (so : Obj) : Led := [(S, so), (299, tabObj #[]), (311, tabObj #[])]
abbrev lR (L S : Addr) (o1 o2 o3 o4 so : Obj) : Led := [(L + 1 + 1 + 1 + 1, o1), (L + 1 + 1 + 1, o2), (L + 1 + 1, o3), (L + 1, o4), (S, so), (311, tabObj #[])]
abbrev lS (P : Params) (ba : Addr) (b : BPh) (k : Int) (ua ca pa : Addr) (x : UPh) (d : UD) (y : CPh) (e : CD) (z : PPh) (ps : Array Value) (r : Led) : Led := bLed ba b k ++ dS P ua ca pa x d y e z ps r
theorem nd_lC {L : Addr} {o1 o2 o3 o4 : Obj} : (adr (lC L o1 o2 o3 o4)).Nodup := by
  show ([L + 1 + 1 + 1 + 1, L + 1 + 1 + 1, L + 1 + 1, L + 1] : List Nat).Nodup
  simp [List.nodup_cons]
  omega
theorem gt_lC {L : Addr} {o1 o2 o3 o4 : Obj} : ∀ p ∈ lC L o1 o2 o3 o4, L < p.1 := by
  intro p hp
  simp only [List.mem_cons, List.not_mem_nil, or_false] at hp
  rcases hp with rfl | rfl | rfl | rfl <;> (show @LT.lt Nat _ _ _; dsimp only; omega)
theorem size_ok {v : Int} (h : v = 8 ∨ v = 2 ∨ v = 4) : 1 ≤ v ∧ v ≤ 8 := by omega
theorem room_ok {v : Int} (h : v = 9 ∨ v = 3 ∨ v = 5) : 1 ≤ v ∧ v ≤ 9 := by omega
theorem Turned.ixT {h₀ h' : Heap} {L I : Addr} {tk : Tok} {s : Shared} {o : Obj} {ks g₂ led : Led} {x : Str} {m₂ m0 : Str → Option Value} {K : (Led → Prop) → Prop} (n : Nat) (is : List Nat) (F : Fr h₀ L h' m₂) (N : News h₀ L h' led) (D : (adr led).Nodup)
    (hm : ∀ y, y ≠ x → m₂ y = m0 y) (hK : ∀ G : Led → Prop, K G → G g₂) (e : (I, o) :: (ks ++ g₂) = is.map (fun i => led.getD i default) ++ led.drop n := by rfl) (e2 : adr ((I, o) :: (ks ++ g₂)) = is.map (fun i => (adr led).getD i 0) ++ (adr led).drop n := by rfl)
    (hn : is.Nodup := by decide) (hb : is.all (fun i => decide (i < n)) = true := by rfl) (hl : (led.take n).length = n := by rfl) :
    Turned h₀ L s I o ks (JK x m0 ks K) { s with heap := h', toks := tk } :=
  have D2 : (adr ((I, o) :: (ks ++ g₂))).Nodup := nd_pickT D n is hn e2 hb (by rw [adr, ← List.map_take, List.length_map]; exact hl)
  Turned.intro F N (sub_pickT n is e hb hl) (off_nd D2).2 ⟨hm, (off_nd D2).1, hK⟩
/-- the law's own lists, new -/
theorem plain_go {w : World} {pa wl ol ll rl : Addr} {o : Obj} {size room : Int} {t0 t1 t2 t3 t4 t5 : Tok} {h₀ h : Heap} {L : Addr} {led : Led} {G : Prop}
    (N : News h₀ L h ((pa, o) :: (rl, W.listOf (List.toArray []) 0) :: (ll, W.listOf (List.toArray []) 0) :: (ol, W.listOf (List.toArray []) 0) :: (wl, W.listOf (List.toArray []) 0) :: led))
    (hd : o.IsDictOf (strKind PR w) (pKvs ⟨wl, ol, ll, rl, o, 0, 0, 0, 0, [], [], [], [], t0, t1, t2, t3, t4, t5⟩ ⟨size, room, 0, 0, 0, 0, false, [], [], [], []⟩)) (lo : (pa == sysModules) = false)
    (D : (adr ((pa, o) :: (rl, W.listOf (List.toArray []) 0) :: (ll, W.listOf (List.toArray []) 0) :: (ol, W.listOf (List.toArray []) 0) :: (wl, W.listOf (List.toArray []) 0) :: led)).Nodup)
    (k : ∀ z, PW w pa z ⟨size, room, 0, 0, 0, 0, false, [], [], [], []⟩ → News h₀ L h (pLed pa z ++ led) → (adr (pLed pa z ++ led)).Nodup → G) : G :=
  k ⟨wl, ol, ll, rl, o, 0, 0, 0, 0, [], [], [], [], t0, t1, t2, t3, t4, t5⟩ ⟨hd, lo, .nil, .nil, .nil, .nil⟩ (fun q hq => N q (sub_pickT 5 [0, 4, 3, 2, 1] rfl rfl rfl q hq)) (nd_pickT D 5 [0, 4, 3, 2, 1])
theorem box_go {h₀ h : Heap} {L l8 Db Ds : Addr} {vs ws : List Value} {ns : List Int} {t0 : Tok} {led : Led} {G : Prop} (N : News h₀ L h ((l8, W.listOf (List.toArray vs) 0) :: (Db, W.listOf #[.ref Ds, .int 0 t0] 0) :: (Ds, W.listOf (List.toArray ws) 0) :: led)) (hi : IntsAre vs ns)
    (k : ∀ sv b, BPh.sv b = ws → IntsAre sv ns → News h₀ L h ((l8, W.listOf (List.toArray sv) 0) :: (bLed Db b 0 ++ led)) → b.bl = Ds → G) : G := k vs ⟨Ds, 0, 0, ws, t0⟩ rfl hi N rfl
theorem fills_P36 (w : World) : PySem.Challenge.rw_nu0085_01.row.toRowW.prog = PySem.Challenge.rw_nu0085_01.row.toRowW.prog → MineHead.hd.heap_1 w.params = MineHead.hd.heap_1 w.params := by
  k_fill
  exact fun _ => rfl

theorem law_spec (w : World) (S : Addr) (so : Obj) (sn : Nat) (sv : List Value) (l : List Int) (hsi : IntsAre sv l) (hl : l.length ≤ 63) (hso : so.cls = .type "list") (hsd : so.data = .seq sv.toArray sn) :
    SpecT 12 w 316 [.ref S] [(S, so), (299, tabObj #[]), (311, tabObj #[])] (LawP S so) := by
  refine' SpecT.introC (binds := [("script", .ref S)]) ?ho ?hcd ?hb ?hkk ?hnd ?_ ?c1 ?c2 ?c3
  case ho => k_is
  case hcd => k_is
  case hb => exact fun s X => BindsTo.of_eq rfl
  case hkk => exact rfl
  case hnd => decide
  case c1 => exact rfl
  case c2 => exact rfl
  case c3 => exact rfl
  intro A base s g' L' h' tk' cells mean mg mb R' F' N' D' Y' B' X' T' l1 XB TB
  w_on
  refine S_letQ ?_; intro kQ0

  obtain ⟨o1, o2, o3, o4, rfl, d1, d2, d3, d4⟩ := PyProof.Rows.CellsAre.four Y'
  clear Y'
  have d1 : o1.data = .cell none := d1
  have d2 : o2.data = .cell none := d2
  have d3 : o3.data = .cell none := d3
  have d4 : o4.data = .cell none := d4
  have F' : Fr g' L' h' (fun q => if q = ("script" : Str) then some (.ref S) else none) := F'
  replace N' : News g' L' h' (lC L' o1 o2 o3 o4 ++ lT S so) := N'
  replace D' : (adr (lC L' o1 o2 o3 o4 ++ lT S so)).Nodup := nd_above nd_lC gt_lC D' l1
  have hls : h'.IsList S sv.toArray := ⟨so, (N' (S, so) (mem_ix 4 rfl)).1, hso, sn, hsd⟩
  show wpS _ _ _ _ _ _
  k_steps
  rename_i Ds ws hA l1a hI hC hL Db hB l1b hC2 kq1 kS1 l8 hD FA NA l1c
  dsimp only at NA
  have D1 := nd_of NA (nd_consI (nd_consI (nd_consI D' l1a) l1b) l1c)
  refine box_go (ns := [8, 2, 4]) NA (by l_ints) fun v8 b0 hb0 h8 N1 hb1 => ?_
  subst hb1
  rw [← hb0] at hI
  clear NA hb0
  refine' m_go (Spec.useK (rest := (l8, W.listOf (List.toArray v8) 0) :: (lC L' o1 o2 o3 o4 ++ lT S so)) (more_fig_spec w Db b0 0 _ 3 _ hI (by rw [List.length_take]; omega) (by decide)) B' (by k_asm) X' T' (R'.le (by decide)) (by k_asm) (sub_ix [1, 2, 0, 3, 4, 5, 6, 7, 8, 9]) (nd_pickN (by k_asm) (by walk_at "k_nd") [1, 2, 0, 3, 4, 5, 6, 7, 8, 9]) ?_)
  intro n8 t8 b1 l2 n80 n83 hi1 hl1; refine Back.intro ?_; intro kL h' tk F' N' D'; (try dsimp only)
  refine item_anyK (ns := [8, 2, 4]) (News.isList N' (mem_ix 2 rfl)) (by assumption) n80 (by simpa using n83) (by omega) (fun t9 => ?_) (by with_unfolding_all rfl)
  generalize hsize : ([8, 2, 4] : List Int).getD n8.toNat 0 = size
  have hs := size_ok (pick3 n80 n83 hsize)
  clear hsize N1 n80 n83 h8
  k_steps
  rename_i l9 hE FE NE l1e
  dsimp only at NE
  refine sv_go (ns := [9, 3, 5]) NE (by l_ints) fun v9 h9 N2 => ?_
  clear NE
  have D2 := nd_of N2 (nd_consI D' l1e)
  refine' m_go (Spec.useK (rest := (l9, W.listOf (List.toArray v9) 0) :: (lC L' o1 o2 o3 o4 ++ lT S so)) (more_fig_spec w Db b1 0 _ 3 _ hi1 hl1 (by decide)) B' (by k_asm) X' T' (R'.le (by decide)) (by k_asm) (sub_ix [1, 2, 0, 4, 5, 6, 7, 8, 9, 10]) (nd_pickN (by k_asm) (by walk_at "k_nd") [1, 2, 0, 4, 5, 6, 7, 8, 9, 10]) ?_)
  intro n9 t91 b2 l3 n90 n93 hi2 hl2; refine Back.intro ?_; intro kL h' tk F' N' D'; (try dsimp only)
  refine item_anyK (ns := [9, 3, 5]) (News.isList N' (mem_ix 2 rfl)) (by assumption) n90 (by simpa using n93) (by omega) (fun t92 => ?_) (by with_unfolding_all rfl)
  generalize hroom : ([9, 3, 5] : List Int).getD n9.toNat 0 = room
  have hr := room_ok (pick3 n90 n93 hroom)
  clear hroom N2 D2 l1e n90 n93 h9
  replace N' : News g' L' _ (bLed Db b2 0 ++ (lC L' o1 o2 o3 o4 ++ lT S so)) := sub_news N' [0, 1, 3, 4, 5, 6, 7, 8, 9]
  replace D' : (adr (bLed Db b2 0 ++ (lC L' o1 o2 o3 o4 ++ lT S so))).Nodup := nd_pick D' [0, 1, 3, 4, 5, 6, 7, 8, 9]
  k_steps
  rename_i pa _ _ _ _ _ wl _ _ ol _ _ ll _ _ rl _ _ _ _
  refine kdn_made_str (by k_asm) (by k_asm) (updF_ix 4 rfl (by walk_at "k_nd")) (by k_asm) (by rfl) (of_decide_eq_true (by first | rfl | kernel_rfl!)) ?_
  intro hX oX FX NX hdX
  k_steps
  rename Obj.IsDictOf _ _ _ => hdz
  rename News _ _ _ _ => NZ
  rename Fr _ _ _ _ => FZ
  refine plain_go (led := bLed Db b2 0 ++ (lC L' o1 o2 o3 o4 ++ lT S so)) (pa := pa) (rl := rl) (ll := ll) (ol := ol) (wl := wl) (sub_news NZ [5, 1, 2, 3, 4, 7, 8, 9, 10, 11, 12, 13, 14, 15]) hdz (by assumption) (nd_pick (nd_of NZ (by walk_at "k_nd")) [5, 1, 2, 3, 4, 7, 8, 9, 10, 11, 12, 13, 14, 15]) fun z hW NW DW => ?_
  clear NZ hdz
  refine' m_go (SpecS.make (rest := (pLed pa z ++ (bLed Db b2 0 ++ (lC L' o1 o2 o3 o4 ++ lT S so)))) (fun x dx => uinit_spec w x dx size t9 hs.1) (by k_is) (by k_is) (by k_is) B' FZ X' T' (R'.le (by decide)) NW (fun p hp => hp) DW ?_)
  intro ua x
  refine ⟨rfl, Back.intro ?_⟩
  intro kL hU tkU FU NU DU
  (refine' storeX_C ?F NU ?c (updF_ix 11 rfl DU) d1 ?_ ?a ?b; (case a => rfl); (case b => rfl); (case F => k_asm); (case c => rfl))
  intro hC oU FC NC dU
  replace NC : News g' L' hC (uLed w.params ua x ⟨size, 0, 0, 0, false, false, [], []⟩ ++ (pLed pa z ++ (bLed Db b2 0 ++ (lC L' oU o2 o3 o4 ++ lT S so)))) := NC
  replace DU : (adr (uLed w.params ua x ⟨size, 0, 0, 0, false, false, [], []⟩ ++ (pLed pa z ++ (bLed Db b2 0 ++ (lC L' oU o2 o3 o4 ++ lT S so))))).Nodup := DU
  clear NU FU NW DW
  k_steps
  refine' m_go (SpecS.make (rest := uLed w.params ua x ⟨size, 0, 0, 0, false, false, [], []⟩ ++ (pLed pa z ++ (bLed Db b2 0 ++ (lC L' oU o2 o3 o4 ++ lT S so)))) (fun c dc => cinit_spec w c dc ua room _ hr.1) (by k_is) (by k_is) (by k_is) B' (by k_asm) X' T' (R'.le (by decide)) (by k_asm) (fun p hp => hp) DU ?_)
  intro ca y
  refine ⟨rfl, Back.intro ?_⟩
  intro kL hU tkU FU NU DU
  (refine' storeX_C ?F NU ?c (updF_ix 18 rfl DU) d4 ?_ ?a ?b; (case a => rfl); (case b => rfl); (case F => k_asm); (case c => rfl))
  intro hK oK FK NK dK
  replace NK : News g' L' hK (cLed w.params ca y ua ⟨room, [], []⟩ ++ (uLed w.params ua x ⟨size, 0, 0, 0, false, false, [], []⟩ ++ (pLed pa z ++ (bLed Db b2 0 ++ (lC L' oU o2 o3 oK ++ lT S so))))) := NK
  replace DU : (adr (cLed w.params ca y ua ⟨room, [], []⟩ ++ (uLed w.params ua x ⟨size, 0, 0, 0, false, false, [], []⟩ ++ (pLed pa z ++ (bLed Db b2 0 ++ (lC L' oU o2 o3 oK ++ lT S so)))))).Nodup := DU
  clear NU FU
  k_steps
  refine m_go (S_cons (S_For ?_))
  k_steps
  rename IsRange _ _ _ _ _ _ _ _ => hR
  obtain ⟨n, hR, hn0, hn18⟩ : ∃ n, IsRange _ _ 0 n 1 _ _ _ ∧ 0 ≤ n ∧ n ≤ 18 := ⟨_, hR, lap_rng hl⟩
  refine pyIter_rng R'.handled hR hn0 (by omega) (by assumption) (by assumption) fun I oI hI St Wk hIo hst FI NI ltI => ?_
  refine Again.go (forS_walksK (ks := []) (s := { s with heap := h', toks := tk' }) Wk (fun b hb => .inl (by simpa using hb)) hIo (by rfl) (by rfl) (fun q => if q = ("plain" : Str) then some (.ref pa) else if q = ("size" : Str) then some (.int size t9) else if q = ("room" : Str) then some (.int room t92) else if q = ("box" : Str) then some (.ref Db) else if q = ("script" : Str) then some (.ref S) else none)
    (fun _ G => ∀ b k l' x' d y' e z' p ps cs, DI w pa b l' z' d e p → d.out = [] → TabOK "_law_deed_right.<locals>.<lambda>" ps cs → G (lS w.params Db b k ua ca pa x' d y' e z' ps (lR L' S oU o2 o3 oK so ++ cs)))
    ?step ?done hst FI (sub_news NI [0, 14, 15, 5, 6, 7, 8, 1, 2, 3, 4, 9, 10, 11, 12, 13, 21, 16, 17, 18, 19, 20, 22]) (nd_pick (nd_of NI (nd_consI DU ltI)) [0, 14, 15, 5, 6, 7, 8, 1, 2, 3, 4, 9, 10, 11, 12, 13, 21, 16, 17, 18, 19, 20, 22])
    fun _ h => h b2 0 l3 x ⟨size, 0, 0, 0, false, false, [], []⟩ y ⟨room, [], []⟩ z ⟨size, room, 0, 0, 0, 0, false, [], [], [], []⟩ #[] [] ⟨by assumption, hl2, hW, ag_start size room, iv_start hs.2 hr.1 hr.2⟩ rfl (TabOK.nil _))
  case step =>
    clear FI NI ltI hst NK DU
    intro i v o h₁ tk₁ hin hv b k l' x' d y' e z' p ps cs I1 ho tb F1 N1 D1
    obtain ⟨t, rfl⟩ := hv
    refine S_cons (S_IfS (S_isTrue_Or2 (S_isTrue_Not (S_isTrue_value (S_Call ?_)))))
    k_steps
    refine' m_go (SpecS.useK (rest := (I, o) :: lR L' S oU o2 o3 oK so) (deed_spec w Db ua ca pa b k l' x' d y' e z' p ps cs I1 ho tb) B' (by k_asm) X' T' (R'.le (by decide)) (by k_asm)
      (fun q hq => sub_pickT 23 [1, 2, 3, 4, 5, 6, 7, 8, 9, 10, 11, 12, 13, 14, 15, 16, 0, 17, 18, 19, 20, 21, 22] rfl rfl rfl q (nd_midM (a := bLed Db b k ++ (uLed w.params ua x' d ++ (cLed w.params ca y' ua e ++ (pLed pa z' ++ [(299, tabObj ps)])))) (b := cs) (c := (I, o) :: lR L' S oU o2 o3 oK so) q hq))
      (nd_mid (a := bLed Db b k ++ (uLed w.params ua x' d ++ (cLed w.params ca y' ua e ++ (pLed pa z' ++ [(299, tabObj ps)])))) (b := (I, o) :: lR L' S oU o2 o3 oK so) (c := cs) (nd_pickT D1 23 [1, 2, 3, 4, 5, 6, 7, 8, 9, 10, 11, 12, 13, 14, 15, 16, 0, 17, 18, 19, 20, 21, 22])) ?_)
    intro b3 k3 l4 x3 d3 y3 e3 z3 p3 ps3 cs3 I3 tb3
    refine Back.intro ?_
    intro kL h₂ tk₂ F2 N2 D2
    replace D2 := nd_mid (a := bLed Db b3 k3 ++ (uLed w.params ua x3 d3 ++ (cLed w.params ca y3 ua e3 ++ (pLed pa z3 ++ [(299, tabObj ps3)])))) (b := cs3) (c := (I, o) :: lR L' S oU o2 o3 oK so) D2
    have N3 : News g' L' h₂ (lS w.params Db b3 k3 ua ca pa x3 d3 y3 e3 z3 ps3 ((I, o) :: (lR L' S oU o2 o3 oK so ++ cs3))) := fun q hq => N2 q (nd_midM (a := bLed Db b3 k3 ++ (uLed w.params ua x3 d3 ++ (cLed w.params ca y3 ua e3 ++ (pLed pa z3 ++ [(299, tabObj ps3)])))) (b := (I, o) :: lR L' S oU o2 o3 oK so) (c := cs3) q hq)
    clear N2 N1 F1 D1 I1 tb ho
    k_steps
    refine' m_go (SpecS.useK (rest := bLed Db b3 k3 ++ ((299, tabObj ps3) :: (I, o) :: (lR L' S oU o2 o3 oK so ++ cs3))) (alike_di w ua ca pa x3 y3 z3 d3 e3 p3 I3) B' (by k_asm) X' T' (R'.le (by decide)) N3 (sub_pickT 23 [2, 3, 4, 5, 6, 7, 8, 9, 10, 11, 12, 13, 14, 0, 1, 15, 16, 17, 18, 19, 20, 21, 22]) (nd_pickT D2 23 [2, 3, 4, 5, 6, 7, 8, 9, 10, 11, 12, 13, 14, 0, 1, 15, 16, 17, 18, 19, 20, 21, 22]) ?_)
    intro x4 z4 I4
    refine Back.intro ?_
    intro kL h₃ tk₃ F4 N4 D4
    clear N3 D2 F2 I3
    k_steps
    dsimp only
    exact Turned.ixT 23 [16, 13, 14, 0, 1, 2, 3, 4, 5, 6, 7, 8, 9, 10, 11, 12, 15, 17, 18, 19, 20, 21, 22] (by k_asm) N4 D4 (fun q hq => if_neg hq) fun _ K => K b3 k3 l4 x4 { d3 with out := [] } y3 e3 z4 _ ps3 cs3 I4 rfl tb3
  case done =>
    clear FI NI ltI hst NK DU
    intro h₁ tk₁ ov b k l' x' d y' e z' p ps cs I1 ho tb F1 N1 D1
    have TG : TailGoal w _ _ _ _ := tail_ok (by k_is)
    exact TG A base s g' L' h₁ tk₁ mean mg mb S so ps Db b k l' ua x' d ca y' e pa z' p oU o2 o3 oK _ _ _ R' B' X' T' XB TB F1
      (fun q hq => N1 q (sub_pickT (g' := (tS w.params L' S so ps Db b k ua x' d ca y' e pa z' oU o2 o3 oK ++ [(311, tabObj #[])]) ++ cs) 22 [0, 1, 16, 17, 18, 19, 2, 3, 4, 5, 6, 7, 8, 9, 10, 11, 12, 13, 14, 20, 15, 21] rfl rfl rfl q (List.mem_append_left _ hq)))
      (nd_left (b := cs) (nd_pickT D1 22 [0, 1, 16, 17, 18, 19, 2, 3, 4, 5, 6, 7, 8, 9, 10, 11, 12, 13, 14, 20, 15, 21])) I1 ho dU d2 d3 dK
example : True := by w_top off; trivial
/-- what may be hidden: an empty table, a list -/
def Hid (o : Obj) : Prop := o = tabObj #[] ∨ (o.cls = .type "list" ∧ ∃ vs n, o.data = .seq vs n)
section
variable {h : Heap} {X : List Addr} {p : Program} {loose : List Str} {mean : ExcName → Option Value} {mg mb : Str → Option Value}
theorem hide_get (hX : ∀ a ∈ X, ∀ o, h.get? a = some o → Hid o) {b : Addr} {o : Obj} (e : h.get? b = some o) (n : ¬ Hid o) : (hideAll h X).get? b = some o :=
  hideAll_get _ e fun m => n (hX b m o e)
theorem notHid_data {o : Obj} (h : ∀ vs, o.data ≠ .fields vs) (h2 : ∀ vs n, o.data ≠ .seq vs n) : ¬ Hid o := fun q => by
  rcases q with rfl | ⟨_, vs, n, e⟩
  · exact h _ rfl
  · exact h2 _ _ e
theorem notHid_cls {o : Obj} (h : o.cls ≠ .none) (h2 : o.cls ≠ .type "list") : ¬ Hid o := fun q => by
  rcases q with rfl | ⟨e, _⟩
  · exact h rfl
  · exact h2 e
theorem hide_ns (hX : ∀ a ∈ X, ∀ o, h.get? a = some o → Hid o) {a : Addr} {mm : Str → Option Value} (x : h.Ns a mm) : (hideAll h X).Ns a mm :=
  let ⟨o, es, ep, e, hd, r⟩ := x; ⟨o, es, ep, hide_get hX e (notHid_data (fun vs q => by rw [hd] at q; cases q) fun vs n q => by rw [hd] at q; cases q), hd, r⟩
theorem hide_top (hX : ∀ a ∈ X, ∀ o, h.get? a = some o → Hid o) (T : Top p loose mean mg mb h) :
    Top topProg (loose ++ (recsOf p).map (·.name) ++ (litsOf p).map (·.1) ++ (clssOf p loose).map (·.name)) mean mg mb (hideAll h X) :=
  have T0 := ghost_top (tabs := []) (fun q hq => nomatch hq) T
  { T0 with
    g := hide_ns hX T.g
    b := hide_ns hX T.b
    nolimit := T.nolimit.imp fun _ x => x.imp_left (hide_ns hX)
    nodigits := T.nodigits.imp fun _ x => x.imp_left (hide_ns hX)
    fn := fun _ hd => nomatch hd
    own := fun _ ho => nomatch ho
    tab := fun _ hd => nomatch hd
    seer := fun e => absurd (show false = true from e) Bool.false_ne_true
    bmain := by
      obtain ⟨bm, ob, a1, a2, a3, a4, r⟩ := T.bmain
      exact ⟨bm, ob, a1, a2, hide_get hX a3 (notHid_cls (by rw [a4]; decide) (by rw [a4]; decide)), a4, r⟩ }
def noHid (K : Frag) : Bool := K.all fun p => match p.2.cls, p.2.data with
  | .none, .fields _ => false
  | .type c, .seq _ _ => c != "list"
  | _, _ => true
theorem hide_K {K : Frag} (hX : ∀ a ∈ X, ∀ o, h.get? a = some o → Hid o) (I : K.In h) (hK : noHid K = true) : K.In (hideAll h X) := fun a o e => by
  refine hide_get hX (I a o e) fun q => ?_
  have h2 := List.all_eq_true.mp hK (a, o) (mem_of_lookupK e)
  rcases q with rfl | ⟨e1, vs, n, e2⟩
  · exact absurd (show false = true from h2) Bool.false_ne_true
  · dsimp only at h2
    rw [e1, e2] at h2
    exact absurd (show false = true from h2) Bool.false_ne_true
end
example : True := by w_top off; trivial
theorem room0 : Room callerA 12 := ⟨by decide, by decide, rfl, rfl⟩
theorem fills_P65 (w : World) : PySem.Challenge.rw_nu0085_01.row.toRowW.prog = PySem.Challenge.rw_nu0085_01.row.toRowW.prog → MineHead.hd.heap_1 w.params = MineHead.hd.heap_1 w.params := by
  k_fill
  exact fun _ => rfl

theorem final_walk (w : World) (s₀ s₁ : Shared) (mg mb : Str → Option Value) (T : Top MineHead.view_1 LV (ExcName.means s₀.heap) mg mb s₁.heap) (KX : (MineHead.hd.heap_1 w.params).In s₁.heap)
    (c1 : CodeHd s₁.heap 315 311) (c2 : CodeHd s₁.heap 301 299) (t1 : s₁.heap.get? 299 = some (tabObj #[])) (t2 : s₁.heap.get? 311 = some (tabObj #[])) (hg : s₁.gens = #[])
    (S : Addr) (sv : List Value) (l : List Int) (hL : s₁.heap.IsList S sv.toArray) (hI : IntsAre sv l) (hl : l.length ≤ 63)
    (hr : ∀ cls, PySem.Challenge.rw_nu0085_01.row.toRowW.claim.raises [ofPy (PyData.list (l.map PyData.int))] cls = false)
    (hp : PySem.Challenge.rw_nu0085_01.row.toRowW.claim.post [ofPy (PyData.list (l.map PyData.int))] (.bool true) [ofPy (PyData.list (l.map PyData.int))] = true) :
    codeS (model PR w) callerA (.call (.ref 316) ⟨[.ref S], []⟩) (fun res s' => GoodWG PySem.Challenge.rw_nu0085_01.row.toRowW.claim (classAt s₀.heap) (ExcName.means s₀.heap) [ofPy (PyData.list (l.map PyData.int))] s₁ res s' ∧ s'.gens = #[]) s₁ := by
  obtain ⟨so, hso, hsc, sn, hsd⟩ := id hL
  have n1 : S ≠ 299 := fun q => by subst q; rw [t1] at hso; cases hso; cases hsc
  have n2 : S ≠ 311 := fun q => by subst q; rw [t2] at hso; cases hso; cases hsc
  have hX : ∀ a ∈ adr [(S, so), (299, tabObj #[]), (311, tabObj #[])], ∀ o, s₁.heap.get? a = some o → Hid o := fun a ha o e => by
    simp only [adr, List.map_cons, List.map_nil, List.mem_cons, List.not_mem_nil, or_false] at ha
    rcases ha with rfl | rfl | rfl
    · rw [hso] at e; cases e; exact .inr ⟨hsc, _, _, hsd⟩
    · rw [t1] at e; cases e; exact .inl rfl
    · rw [t2] at e; cases e; exact .inl rfl
  have topH := hide_top hX T
  have kH := hide_K hX KX (by kernel_rfl)
  refine law_spec w S so sn sv l hI hl hsc hsd callerA _ s₁ _ ⟨below_caller _, kH, ⟨_, _, _, topH⟩, fun p hp => ?_, ?_, room0⟩ kH ⟨_, _, _, topH⟩ ?_
  · simp only [List.mem_cons, List.not_mem_nil, or_false] at hp
    rcases hp with rfl | rfl | rfl
    · exact hso
    · exact t1
    · exact t2
  · show [S, 299, 311].Nodup
    simp only [List.nodup_cons, List.mem_cons, List.not_mem_nil, or_false, not_or, not_false_eq_true, List.nodup_nil, and_true]
    exact ⟨⟨n1, n2⟩, by decide⟩
  rintro v g' h' tk ⟨rfl, ps, qs, m1, m2, m3⟩ P
  have old : ∀ b o, s₁.heap.get? b = some o → asItWas s₁.heap h' b o ∧ ∃ o', h'.get? b = some o' := fun b o e => by
    by_cases b1 : b = S
    · subst b1; rw [hso] at e; cases e
      exact ⟨.inl (P.got _ m1), _, P.got _ m1⟩
    by_cases b2 : b = 299
    · subst b2; rw [t1] at e; cases e
      exact ⟨.inr (.inl ⟨(c2.tab t1).isCodeTable, rfl, #[], ps, rfl, by rw [Array.empty_append]; exact P.got _ m2⟩), _, P.got _ m2⟩
    by_cases b3 : b = 311
    · subst b3; rw [t2] at e; cases e
      exact ⟨.inr (.inl ⟨(c1.tab t2).isCodeTable, rfl, #[], qs, rfl, by rw [Array.empty_append]; exact P.got _ m3⟩), _, P.got _ m3⟩
    have k := P.kept b o (by
      simp only [adr, List.map_cons, List.map_nil, List.mem_cons, List.not_mem_nil, or_false, not_or]
      exact ⟨b1, b2, b3⟩) e
    exact ⟨.inl k, _, k⟩
  exact ⟨⟨.inl ⟨_, .bool true, [], rfl, hr, ReadsW.bool _, hp, fun _ => ⟨List.nodup_nil, fun _ q => nomatch q⟩⟩, ⟨fun b o e => (old b o e).1, fun b o e => (old b o e).2⟩, rfl, .of_eq hg⟩, hg⟩

theorem final : PySem.Challenge.rw_nu0085_01.Holds := by
  refine MineHead.top ?_
  intro w s₀ s₁ mg mb fa args vals as G Y hg hmg hpre hlay hrd hwl hlo
  have KX := km_in_of Y
  have hT8 := km_tabs_of Y
  refine Ground.open G ?_
  intro T B D TE TW
  have e1 := mg_of (v := Value.ref 316) (n := ("law" : Str)) KX T.g (by kernel_rfl)
  have e2 := hmg.symm.trans e1
  have e3 := Value.ref.inj (Option.some.inj e2)
  subst e3
  have c1 := codeHd_of_K (c := 315) (P := 311) KX (by kernel_rfl)
  have c2 := codeHd_of_K (c := 301) (P := 299) KX (by kernel_rfl)
  have t1 := hT8 299 (.head _)
  have t2 := hT8 311 (.tail _ (.head _))
  clear hmg e1 e2 Y hT8
  wrow_args hpre hlay hrd hwl hlo
  exact final_walk w s₀ s₁ mg mb T KX c1 c2 t1 t2 hg _ _ _ (by assumption) (by assumption) (by omega) (raisesW_false (by wrow_none_raised)) (by wrow_post)
end Mine
end
set_option maxRecDepth 100000 in
set_option maxHeartbeats 8000000 in
theorem PySem.Challenge.cw_nu0085_01_holds : PySem.Challenge.rw_nu0085_01.Holds := by
  exact Mine.final
