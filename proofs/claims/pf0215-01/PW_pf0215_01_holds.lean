import PyProof.Rows.All
import Wide.All
import OpenK.AllK
import Wide.FinOn
import Lean
import PySem.Challenge.RW_pf0215_01
set_option maxRecDepth 100000
set_option Elab.async false
set_option linter.unusedVariables false
namespace Mine
open PySem PySem.W PySem.Spec PySem.Calls PyProof.Rows

-- the head by one look of the kernel behind the library's opening: the kit's road in pieces lays 400,000 nodes of states
theorem left_boot {p q : Program} {loose : List Str} {Xt : Shared → Bool} {α : Type} {Yf : Shared → α} {Ya : World → α} {N : Nat}
    (e : opening p = plainProg p.main.scope.names) (hN : Nat.ble 600 N = true) (f : ∀ s, fenceModules? p s = some s)
    (hn : ∀ w : World, ((boot_heap w.params).isNs mainGlobals && 0 == 0) = true)
    (h : ∀ w : World, (fun os => ((PySem.W.Fast.tw14082659384304107361 PySem.W.Fast.tw14364793385576792824 p w (boot_heap w.params).objs.size ((boot_heap w.params).nsMap mainGlobals "__annotations__") N ⟨boot_heap w.params, Array.mk [], boot_drawn, boot_toks, os⟩ (topStub p)).bind fun s₁ =>
        match staticsOk (importedModules p.main.body) (boot_heap w.params) s₁.heap && namesBound p s₁.heap && gensDone s₁ && laidKept (boot_heap w.params) s₁.heap with
        | true => some s₁
        | false => none).map (fun s => (PySem.W.Fast.tw4187177175401517315 q loose (importedModules p.main.body) Xt true s, Yf s))) = fun _ => some (openGood q loose, Ya w)) : LeftO p q loose Xt Yf Ya N := fun w => by
  obtain ⟨⟨a, b, c, d, os⟩, hs, hv⟩ := Option.map_eq_some_iff.mp (boot_open e hN f w)
  cases hv
  unfold openEnds
  rw [hs]
  have h' := congrFun (h w) os
  rw [← PySem.W.Fast.te14082659384304107361, ← PySem.W.Fast.te14364793385576792824, ← PySem.W.Fast.te4187177175401517315] at h'
  show (topFrom treeTable p w N _).map _ = _
  unfold topFrom
  show (match (boot_heap w.params).isNs mainGlobals && 0 == 0 with | true => _ | false => _ : Option Shared).map _ = _
  rw [hn w]
  exact h'
theorem law_said : OpenLaw.wellSaid PySem.Challenge.rw_pf0215_01 = true := by
  rw [PySem.W.Fast.te9446332074065402090]
  kernel_rfl
 local macro_rules | `(tactic| o_law) => `(tactic| (refine holds_law law_said (fun said => ?_)))
 local macro_rules | `(tactic| o_head $H) => `(tactic| (
  refine holds_open (q := PySem.W.view PySem.Challenge.pw_pf0215_01 [0, 2, 3, 4, 5, 7, 8, 10, 11, 12, 13, 14, 15]) (loose := [PySem.Str.ofString "BoardError"]) (Xt := fun s => xlAt (PySem.W.view PySem.Challenge.pw_pf0215_01 [0, 2, 3, 4, 5, 7, 8, 10, 11, 12, 13, 14, 15]) [] s && recOk (RowW.records PySem.Challenge.rw_pf0215_01.row.toRowW) s) (XP := XL (PySem.W.view PySem.Challenge.pw_pf0215_01 [0, 2, 3, 4, 5, 7, 8, 10, 11, 12, 13, 14, 15]) []) (Yf := Hook.obs $H) (Ya := Hook.val $H) (YP := Hook.says $H) (N := 3604) ?hl (Hook.of $H) (Hook.keeps $H) (fun s e => xl_of s (Bool.and_eq_true_iff.mp e).1) XL.keeps (by rfl) (by rfl) (by rfl) (fun s e => recFacts_of (Bool.and_eq_true_iff.mp e).2) (by rfl) (by first | assumption | decide +kernel) (by decide +kernel) ⟨rfl, rfl, rfl, rfl, rfl, by decide +kernel⟩ ?hw ?hc
  (case hl => exact left_boot (by kernel_rfl) (by kernel_rfl) (fun s => by kernel_rfl) (fun w => by kernel_rfl) (fun w => by kernel_rfl))))
set_option maxHeartbeats 8000000 in
open_top hd for PySem.Challenge.rw_pf0215_01

theorem off_S01 : True := by
  w_top off
  trivial

local macro_rules | `(tactic| k_ne) => `(tactic| (refine neN ?_; (try dsimp only); first | assumption | exact Ne.symm (by assumption) | exact Nat.ne_of_lt (by assumption) | exact Nat.ne_of_gt (by assumption) | omega))

/-- what is outside of the ledger `mine` stands -/
def Rest (mine : List (Addr × Obj)) (h h' : Heap) : Prop := ∀ b o, h.get? b = some o → b ∉ mine.map (·.1) → h'.get? b = some o
/-- what is in the new ledger and not in the old one was made anew -/
def Anew (mine : List (Addr × Obj)) (h : Heap) (mine' : List (Addr × Obj)) : Prop := ∀ p ∈ mine', p.1 ∈ mine.map (·.1) ∨ h.get? p.1 = none

structure Ctx (K : Frag) (p : Program) (loose : List Str) (mean : ExcName → Option Value) (mg mb : Str → Option Value) (dp un : Nat) (cs : Scope) (outer : List Env) (A₀ : Around) (base h₀ : Heap) (L : Addr) (m : Str → Option Value) (s : Shared) (d u : Nat) : Prop where
  B : Below A₀ base outer h₀
  F : Fr h₀ L s.heap m
  X : K.In h₀
  T : Top p loose mean mg mb h₀
  kd : cs.kind = .function
  dp : dp + d < recursionLimit
  un : un + u < cLine

/-- a call of a def of the text: its ledger `mine`, what it wants of the rest of the heap, what it gives back -/
def Call (prog : Program) (w : World) (K : Frag) (f : Value) (args : List Value) (d u : Nat) (P : Heap → Prop) (mine : List (Addr × Obj)) (S : Heap → Value → List (Addr × Obj) → Prop) : Prop :=
  ∀ (p : Program) (loose : List Str) (mean : ExcName → Option Value) (mg mb : Str → Option Value) (dp un : Nat) (gd : Option (List Code)) (cn : Str) (cs : Scope) (a : Addr) (ccd : Value) (cl : List (Str × Addr)) (outer : List Env) (A₀ : Around) (base h₀ : Heap) (L : Addr) (m : Str → Option Value) (s : Shared) (R : Result → Shared → Prop),
    Ctx K p loose mean mg mb dp un cs outer A₀ base h₀ L m s d u → News h₀ L s.heap mine → P s.heap →
    (∀ r mine' h' tk', Fr h₀ L h' m → News h₀ L h' mine' → Rest mine s.heap h' → Anew mine s.heap mine' → S h' r mine' → R (.ok (.ret r)) { s with heap := h', toks := tk' }) →
    codeAny (model prog w) (ktrTop dp un gd cn cs L a ccd cl outer) (.call f ⟨args, []⟩) R s

/-- how a way through the body ends -/
def Ends (s : Shared) (g : Heap) (S : Heap → Value → List (Addr × Obj) → Prop) (r : Value) (s' : Shared) : Prop :=
  ∃ L' m' mine' h' tk', s' = { s with heap := h', toks := tk' } ∧ Fr g L' h' m' ∧ News g L' h' mine' ∧ S h' r mine'
theorem Ends.intro {s : Shared} {g : Heap} {S : Heap → Value → List (Addr × Obj) → Prop} {r : Value} {L' : Addr} {m' : Str → Option Value} {mine' : List (Addr × Obj)} {h' : Heap} {tk' : Nat}
    (F : Fr g L' h' m') (N : News g L' h' mine') (hS : S h' r mine') : Ends s g S r { s with heap := h', toks := tk' } := ⟨_, _, _, _, _, rfl, F, N, hS⟩
theorem Ends.out {s : Shared} {g : Heap} {S : Heap → Value → List (Addr × Obj) → Prop} {Qf : Value → Shared → Prop} (hQf : ∀ v s', Ends s g S v s' → Qf v s') {r : Value} {L' : Addr} {m' : Str → Option Value} {mine' : List (Addr × Obj)} {h' : Heap} {tk' : Nat}
    (F : Fr g L' h' m') (N : News g L' h' mine') (hS : S h' r mine') : Qf r { s with heap := h', toks := tk' } := hQf _ _ ⟨_, _, _, _, _, rfl, F, N, hS⟩

section
variable {prog : Program} {w : World} {K : Frag} {mine : List (Addr × Obj)}
  {name qual : Str} {params : Arguments} {body : List Stmt} {scope : Scope} {dV kV doc pm cdv ct oc : Value} {an od : Option Addr} {osl : Array (Option Value)} {f : Addr} {args : List Value} {binds : List (Str × Value)}
  {P : Heap → Prop} {S : Heap → Value → List (Addr × Obj) → Prop} {d u : Nat}

theorem call_of
    (ho : K.lookup f = some ⟨oc, od, .func (fnOf name qual params body scope dV kV doc pm an cdv ct), osl⟩) (hcd : codeIn K cdv qual = true)
    (hst : ∀ h g : Heap, P h → (∀ b o, h.get? b = some o → b ∉ mine.map (·.1) → g.get? b = some o) → (∀ p ∈ mine, h.get? p.1 = some p.2) → P g)
    (hbind : ∀ s, BindsTo s (fnOf name qual params body scope dV kV doc pm an cdv ct) ⟨args, []⟩ binds) (hloc : ∀ y ∈ binds, scope.names.lookup y.1 = some .local)
    (h : ∀ (p : Program) (loose : List Str) (mean : ExcName → Option Value) (mg mb : Str → Option Value) (dp un : Nat) (gd : Option (List Code)) (outer : List Env) (A₀ : Around) (base g : Heap) (L' : Addr) (gns : Array GenState) (dr : Drawn) (os : OsState) (h₁ : Heap) (tk₁ : Nat),
      dp + d < recursionLimit + 1 → un + u < cLine + 3 → (∀ p ∈ mine, p.1 < L') → P g → Below A₀ base outer g → K.In g → Top p loose mean mg mb g → News g L' h₁ mine → Fr g L' h₁ (fun y => binds.reverse.lookup y) →
      ∀ Qf : Value → Shared → Prop, (∀ v s', Ends { heap := h₁, gens := gns, drawn := dr, toks := tk₁, os := os } g S v s' → Qf v s') →
      wpAny (model prog w) (ktrTop dp un gd qual scope L' f cdv [] outer) (execs body (envOf qual scope L' f cdv))
        (fun fl s' => Qf (match fl with | .ret v => v | _ => .none) s') (fun _ _ => False)
        { heap := h₁, gens := gns, drawn := dr, toks := tk₁, os := os })
    (hd : 1 ≤ d := by decide) (hu : 3 ≤ u := by decide)
    (hco : scope.isCoroutine = false := by rfl) (hgen : scope.isGenerator = false := by rfl) (hk : scope.kind = .function := by rfl)
    (hcell : ∀ x ∈ scope.names, x.2 ≠ .cell := by decide) : Call prog w K (.ref f) args d u P mine S := by
  intro p loose mean mg mb dp un gd cn cs a ccd cl outer A₀ base h₀ L m s R C N hP hQ
  have hroom : (ktrTop dp un gd cn cs L a ccd cl outer).depth < recursionLimit := by have := C.dp; show dp < _; omega
  obtain ⟨FG, BG, st, -⟩ := groundX (R := fun _ _ => True) (A := ktrTop dp un gd cn cs L a ccd cl outer) (env := envX cn cs L a ccd cl) C.B C.F N rfl rfl C.kd
  have nm : ∀ b o, h₀.get? b = some o → b ∉ mine.map (·.1) := fun b o e q => by
    obtain ⟨p, hp, rfl⟩ := List.mem_map.mp q
    rw [(N p hp).2.2] at e; cases e
  have keep : ∀ b o, s.heap.get? b = some o → b ∉ mine.map (·.1) → (hideAll s.heap (mine.map (·.1))).get? b = some o := fun b o e n => hideAll_get _ e n
  refine codeAny_call_def (fd := fnOf name qual params body scope dV kV doc pm an cdv ct) (body := body) (binds := binds) hroom (C.X.keeps C.F.keep _ _ ho) rfl (C.T.nolimit.keeps C.F.keep) (codeRec_of (C.X.keeps C.F.keep) hcd) rfl (hbind s) hcell hloc (fun h₁ hns hk₁ => ?_) hco hgen hk
  refine wpAny_mono (h p loose mean mg mb (dp + 1) (un + 3) gd (envX cn cs L a ccd cl :: outer) _ base (hideAll s.heap (mine.map (·.1))) s.heap.objs.size s.gens s.drawn s.os h₁ (s.toks + binds.length)
    (by have := C.dp; omega) (by have := C.un; omega) (fun p hp => Heap.lt_size (N p hp).1) (hst _ _ hP keep fun p hp => (N p hp).1) BG (C.X.keeps st) (C.T.keeps st)
    (fun p hp => ⟨hk₁ _ _ (N p hp).1, Nat.ne_of_lt (Heap.lt_size (N p hp).1), hideAll_none _ (List.mem_map_of_mem hp)⟩)
    ⟨hns, fun b o e => hk₁ b o (of_hideAll _ e), Nat.le_of_eq (hideAll_size _ _)⟩ _ fun _ _ e => e) (fun fl s' he => ?_) fun _ _ e => e.elim
  obtain ⟨L'', m', mine', h', tk', rfl, F', N', hS⟩ := he
  obtain ⟨oL, es, ep, hL, hLd, hLk, hLf⟩ := FG.ns
  refine hQ _ mine' h' tk' ⟨⟨oL, es, ep, F'.keep L oL hL, hLd, hLk, hLf⟩, fun b o e => F'.keep b o (st b o e), C.F.above⟩ (fun q hq => ⟨(N' q hq).1, fun e => ?_, ?_⟩)
    (fun b o e n => F'.keep b o (keep b o e n)) (fun q hq => ?_) hS
  · have := (N' q hq).2.2; rw [e, hL] at this; cases this
  · cases e : h₀.get? q.1 with
    | none => rfl
    | some o => have := (N' q hq).2.2; rw [st _ _ e] at this; cases this
  · by_cases hm : q.1 ∈ mine.map (·.1)
    · exact .inl hm
    · cases e : s.heap.get? q.1 with
      | none => exact .inr rfl
      | some o => have := (N' q hq).2.2; rw [keep _ _ e hm] at this; cases this

theorem Call.use {fv : Value} (H : Call prog w K fv args d u P mine S) {p : Program} {loose : List Str} {mean : ExcName → Option Value} {mg mb : Str → Option Value} {dp un : Nat} {gd : Option (List Code)} {cn : Str} {cs : Scope} {a : Addr} {ccd : Value} {cl : List (Str × Addr)} {outer : List Env} {A₀ : Around} {base h₀ : Heap} {L : Addr} {m : Str → Option Value} {s : Shared} {Q E : Value → Shared → Prop} {news : List (Addr × Obj)}
    (B : Below A₀ base outer h₀) (F : Fr h₀ L s.heap m) (X : K.In h₀) (T : Top p loose mean mg mb h₀) (N : News h₀ L s.heap news) (hk : cs.kind = .function) (hd : dp + d < recursionLimit) (hu : un + u < cLine)
    (hm : ∀ q ∈ mine, q ∈ news) (hP : P s.heap)
    (hQ : ∀ r mine' h' tk', Fr h₀ L h' m → (∀ news' : List (Addr × Obj), (∀ q ∈ news', q ∈ mine' ∨ (q ∈ news ∧ q.1 ∉ mine.map (·.1))) → News h₀ L h' news') → (∀ q ∈ mine', ∀ q' ∈ news, q.1 = q'.1 → q.1 ∈ mine.map (·.1)) → Rest mine s.heap h' → S h' r mine' → Q r { s with heap := h', toks := tk' }) :
    wpAny (model prog w) (ktrTop dp un gd cn cs L a ccd cl outer) (call fv args) Q E s := by
  refine wpAny_call (H p loose mean mg mb dp un gd cn cs a ccd cl outer A₀ base h₀ L m s _ ⟨B, F, X, T, hk, hd, hu⟩ (fun q hq => N q (hm q hq)) hP fun r mine' h' tk' F' N' R' A' hS => ?_)
  refine hQ r mine' h' tk' F' (fun news' hn q hq => ?_) (fun q hq q' hq' e => ?_) R' hS
  · rcases hn q hq with h | ⟨h, hno⟩
    · exact N' q h
    · exact ⟨R' _ _ (N q h).1 hno, (N q h).2⟩
  · rcases A' q hq with h | h
    · exact h
    · rw [e, (N q' hq').1] at h; cases h
end


theorem by_no_bytes_int : typeLookup (.type "int") "__bytes__" = pure none := by rw [typeLookup_type, builtinLookup_eq_fast]; kernel_rfl
theorem by_index_int : typeLookup (.type "int") "__index__" = pure (some (.builtin "int.__index__")) := by rw [typeLookup_type, builtinLookup_eq_fast]; kernel_rfl
theorem by_bytes_bytes : typeLookup (.type "bytes") "__bytes__" = pure (some (.builtin "bytes.__bytes__")) := by rw [typeLookup_type, builtinLookup_eq_fast]; kernel_rfl

section
variable {prog : Program} {w : World} {A : Around} {E : Value → Shared → Prop} {s : Shared}

def blank (n : Nat) : Array UInt8 := Array.replicate n 0

theorem by_new_int {n : Int} {t : Tok} {Q : Value → Shared → Prop} (h0 : 0 ≤ n) (h1 : n ≤ 1000) (hQ : ∀ t' k, Q (.bytes (blank n.toNat) t') { s with toks := k }) :
    codeAny (model prog w) A (.call (.builtin "bytes.__new__") ⟨[.type "bytes", .int n t], []⟩) (wants Q E) s := by
  refine codeAny_of_tree ?_
  show wpAny _ A.in1 (do checkBuiltinCall "bytes.__new__" ⟨[.type "bytes", .int n t], []⟩; again (.builtin "bytes.__new__" ⟨[.type "bytes", .int n t], []⟩)) _ _ s
  refine wpAny_bind (wpAny_of_eq (F.bm_newCall _) (wpAny_pure ⟨plainId_quiet F.bm_plain _, codeAny_builtin F.bm_entry ?_⟩))
  rw [Around.under_plainId F.bm_plain _]
  have hT : s.TypeIs (.int n t) "int" := rfl
  unfold Builtin.«bytes.__new__»
  refine wpAny_bind (wpAny_of_eq (a := true) rfl ?_)
  refine bm_if_false rfl ?_
  refine wpAny_bind (wpAny_of_eq F.bm_sub ?_)
  refine bm_if_false rfl ?_
  refine wpAny_bind (wpAny_of_eq (F.bm_bind _) ?_)
  refine wpAny_bind (wpAny_of_eq (a := ()) rfl ?_)
  refine wpAny_bind (wpAny_of_eq (a := ()) rfl ?_)
  refine bm_if_false rfl ?_
  refine wpAny_bind (wpAny_specialOf hT by_no_bytes_int ?_)
  refine wpAny_bind (wpAny_bind ?_)
  refine wpAny_of_eq (a := none) rfl (wpAny_pure ?_)
  refine bm_if_false rfl ?_
  refine wpAny_bind (wpAny_specialOf hT by_index_int ?_)
  refine bm_if_false rfl ?_
  refine wpAny_bind (wpAny_attempt ?_)
  refine wpAny_of_eq (rfl : asIndex (.int n t) = pure n) ?_
  have hf : Builtin.Bytes.fitsIndex n = true := by
    simp only [Builtin.Bytes.fitsIndex, Bool.and_eq_true, decide_eq_true_eq]
    omega
  refine bm_if_false (by rw [hf]; rfl) ?_
  refine wpAny_ite ?_
  rw [if_neg (by omega)]
  refine wpAny_ite ?_
  rw [if_neg (by omega)]
  refine bm_if_false (by unfold Builtin.Bytes.tooLong; simp; rw [sizeLine_eq]; omega) ?_
  refine wpAny_bind (wpAny_rule ?_)
  refine wpAny_bind (wpAny_mkBytes ?_ (by simp; rw [sizeLine_eq]; omega))
  show wpAny _ _ (if (Value.type "bytes" == Value.type "bytes") = true then _ else _) _ _ _
  refine bm_if_true (by decide) ?_
  first
    | exact wpAny_pure (hQ _ _)
    | exact wpAny_bind (wpAny_pure (wpAny_pure (hQ _ _)))

theorem call_bytes_int {n : Int} {t : Tok} {Q : Value → Shared → Prop} (h0 : 0 ≤ n) (h1 : n ≤ 1000) (hQ : ∀ t' k, Q (.bytes (blank n.toNat) t') { s with toks := k }) : wpAny (model prog w) A (call (.type "bytes") [.int n t]) Q E s := by
  refine callType_codes (Q₁ := fun obj s₁ => s₁.TypeIs obj "bytes" ∧ Q obj s₁) F.bm_called (F.bm_typeCall _) F.entry_object_init
    (by_new_int h0 h1 fun t' k => ⟨PySem.W.typeIs_bytes _ _ _, hQ t' k⟩) fun obj s₁ h₁ => ?_
  exact ⟨h₁.1, F.args_object_init_2 obj _, object_init_meets F.bm_called.init.lookup F.bm_called.made (by decide) prog w A.in1 _ s₁ ⟨h₁.1, rfl, h₁.2⟩⟩

theorem by_new_bytes {b : Array UInt8} {t : Tok} {Q : Value → Shared → Prop} (hQ : Q (.bytes b t) s) :
    codeAny (model prog w) A (.call (.builtin "bytes.__new__") ⟨[.type "bytes", .bytes b t], []⟩) (wants Q E) s := by
  refine codeAny_of_tree ?_
  show wpAny _ A.in1 (do checkBuiltinCall "bytes.__new__" ⟨[.type "bytes", .bytes b t], []⟩; again (.builtin "bytes.__new__" ⟨[.type "bytes", .bytes b t], []⟩)) _ _ s
  refine wpAny_bind (wpAny_of_eq (F.bm_newCall _) (wpAny_pure ⟨plainId_quiet F.bm_plain _, codeAny_builtin F.bm_entry ?_⟩))
  rw [Around.under_plainId F.bm_plain _]
  have hT : s.TypeIs (.bytes b t) "bytes" := typeIs_bytes _ _ _
  unfold Builtin.«bytes.__new__»
  refine wpAny_bind (wpAny_of_eq (a := true) rfl ?_)
  refine bm_if_false rfl ?_
  refine wpAny_bind (wpAny_of_eq F.bm_sub ?_)
  refine bm_if_false rfl ?_
  refine wpAny_bind (wpAny_of_eq (F.bm_bind _) ?_)
  refine wpAny_bind (wpAny_of_eq (a := ()) rfl ?_)
  refine wpAny_bind (wpAny_of_eq (a := ()) rfl ?_)
  refine bm_if_false rfl ?_
  refine wpAny_bind (wpAny_specialOf hT by_bytes_bytes ?_)
  refine wpAny_bind (wpAny_rule ?_)
  refine wpAny_bind (wpAny_typeOf hT ?_)
  refine bm_if_true (by decide) ?_
  show wpAny _ _ (if (Value.type "bytes" == Value.type "bytes") = true then _ else _) _ _ _
  refine bm_if_true (by decide) ?_
  first
    | exact wpAny_pure hQ
    | exact wpAny_bind (wpAny_pure (wpAny_pure hQ))
theorem call_bytes_bytes {b : Array UInt8} {t : Tok} {Q : Value → Shared → Prop} (hQ : Q (.bytes b t) s) : wpAny (model prog w) A (call (.type "bytes") [.bytes b t]) Q E s := by
  refine callType_codes (Q₁ := fun obj s₁ => s₁.TypeIs obj "bytes" ∧ Q obj s₁) F.bm_called (F.bm_typeCall _) F.entry_object_init
    (by_new_bytes ⟨PySem.W.typeIs_bytes _ _ _, hQ⟩) fun obj s₁ h₁ => ?_
  exact ⟨h₁.1, F.args_object_init_2 obj _, object_init_meets F.bm_called.init.lookup F.bm_called.made (by decide) prog w A.in1 _ s₁ ⟨h₁.1, rfl, h₁.2⟩⟩
end
local macro_rules | `(tactic| walk_at "call type:bytes") => `(tactic| ((with_reducible show wpAny _ _ (call (Value.type "bytes") [Value.bytes _ _]) _ _ _); refine call_bytes_bytes ?_; (try dsimp only)))
local macro_rules | `(tactic| walk_at "call type:bytes") => `(tactic| ((with_reducible show wpAny _ _ (call (Value.type "bytes") [Value.int _ _]) _ _ _); refine call_bytes_int (by omega) (by omega) ?_; (try dsimp only); intro _ _; (try dsimp only)))
local macro_rules | `(tactic| k_room) => `(tactic| (dsimp only [ktrTop, depth_under_make, depth_under_kw, depth_in1, depth_deeper, depth_caller]; omega))
local macro_rules | `(tactic| k_units) => `(tactic| (have hcL9 := cLine_is; dsimp only [ktrTop, units_in1, units_deeper, Around.mark_units, units_caller]; omega))
local macro_rules | `(tactic| walk_at "ite") => `(tactic| (first | (refine ite_neg (by (simp only [decide_eq_true_eq, Bool.not_eq_true', decide_eq_false_iff_not, bne_iff_ne, beq_iff_eq, ne_eq]; omega)) ?_) | (refine ite_pos (by (simp only [decide_eq_true_eq, Bool.not_eq_true', decide_eq_false_iff_not, bne_iff_ne, beq_iff_eq, ne_eq]; omega)) ?_)))

theorem off_S02 : True := by
  w_top off
  trivial
/-- the dict of a disk's fields -/
def DiskD (P : Params) (o : Obj) (nb : Int) (kd ld ud : Addr) (wr fl : Int) : Prop :=
  ∃ (k0 k1 k2 k3 k4 k5 k6 k7 k8 k9 tb ts tw tf : Tok), o = dictOf [
    ⟨PyData.keyHash P "blocks", .str "blocks" k0, .int nb tb⟩, ⟨PyData.keyHash P "size", .str "size" k1, .int 4 ts⟩,
    ⟨PyData.keyHash P "kept", .str "kept" k2, .ref kd⟩, ⟨PyData.keyHash P "latest", .str "latest" k3, .ref ld⟩, ⟨PyData.keyHash P "unflushed", .str "unflushed" k4, .ref ud⟩,
    ⟨PyData.keyHash P "writes", .str "writes" k5, .int wr tw⟩, ⟨PyData.keyHash P "flushes", .str "flushes" k6, .int fl tf⟩,
    ⟨PyData.keyHash P "last", .str "last" k7, .none⟩, ⟨PyData.keyHash P "last_flush", .str "last_flush" k8, .none⟩, ⟨PyData.keyHash P "is_dead", .str "is_dead" k9, .bool false⟩] 10

abbrev IntDict (w : World) (o : Obj) (kvs : List (Int × Value)) : Prop := o.IsDictOf (intKind PySem.Challenge.rw_pf0215_01.row.prog w) kvs

set_option maxHeartbeats 4000000 in
theorem init_call (w : World) (x dx : Addr) (nb : Int) (tb ts : Tok) (h0 : 0 < nb) (h1 : nb < 100) (hx : dx < x) :
    Call PySem.Challenge.rw_pf0215_01.row.prog w (hd.heap_1 w.params) (.ref 99) [.ref x, .int nb tb, .int 4 ts] 5 100 (fun _ => True) [(x, instObj 177 dx), (dx, dictOf [] 0)]
      (fun _ r mine' => ∃ kd ld ud od ok ol, r = .none ∧ DiskD w.params od nb kd ld ud 0 0 ∧ IntDict w ok [] ∧ IntDict w ol [] ∧ (kd == sysModules) = false ∧ (ld == sysModules) = false ∧ x < kd ∧ kd < ld ∧ ld < ud ∧ mine' = [(ud, W.listOf #[] 0), (ld, ol), (kd, ok), (x, instObj 177 dx), (dx, od)]) := by
  k_fill
  refine call_of (by k_is) (by k_is) ?_ (fun _ => BindsTo.of_eq rfl) (locs rfl) ?_
  · intros; trivial
  intro p loose mean mg mb dp un gd outer A₀ base g L' gns dr os h₁ tk₁ hdp hun hlt hP B X T N F Qf hQf
  replace hx := ltN hx
  replace hlt := allLt_of hlt
  simp only [AllLt, and_true] at hlt
  (try dsimp only)
  (try k_fold)
  k_steps
  all_goals (
    try dsimp only
    refine Ends.out hQf (by assumption) (by assumption) ⟨_, _, _, _, _, _, rfl, ⟨_, _, _, _, _, _, _, _, _, _, _, _, _, _, rfl⟩, by assumption, by assumption, by assumption, by assumption, ?_, ?_, ?_, rfl⟩ <;> (refine ltN ?_; omega))

/-- a disk on the heap: five objects -/
abbrev diskL (x dx kd ld ud : Addr) (od ok ol ou : Obj) : List (Addr × Obj) := [(x, instObj 177 dx), (dx, od), (kd, ok), (ld, ol), (ud, ou)]
structure DiskA (x dx kd ld ud : Nat) : Prop where
  a1 : dx < x
  a2 : x < kd
  a3 : kd < ld
  a4 : x < ud
  a5 : kd ≠ ud
  a6 : ld ≠ ud
  a7 : (kd == sysModules) = false
  a8 : (ld == sysModules) = false

theorem DiskA.inner {x dx kd ld ud : Nat} (h : DiskA x dx kd ld ud) : dx < kd ∧ dx < ld ∧ dx < ud ∧ x < ld := by
  obtain ⟨a1, a2, a3, a4, a5, a6, a7, a8⟩ := h
  refine ⟨?_, ?_, ?_, ?_⟩ <;> omega
theorem DiskA.over {x dx kd ld ud : Nat} (h : DiskA x dx kd ld ud) {a : Nat} (ha : a < dx) : a < dx ∧ a < x ∧ a < kd ∧ a < ld ∧ a < ud := by
  obtain ⟨a1, a2, a3, a4, a5, a6, a7, a8⟩ := h
  refine ⟨?_, ?_, ?_, ?_, ?_⟩ <;> omega
/-- objects that stand -/
def Alive (olds : List Nat) (h : Heap) : Prop := ∀ b ∈ olds, ∃ o, h.get? b = some o
inductive ClsPost (w : World) (nb : Int) (olds : List Nat) (r : Value) (mine' : List (Addr × Obj)) : Prop
  | mk (x dx kd ld ud : Addr) (od ok ol : Obj) (f1 : r = .ref x) (f2 : (∀ b ∈ olds, @LT.lt Nat _ b dx)) (f3 : DiskD w.params od nb kd ld ud 0 0) (f4 : IntDict w ok []) (f5 : IntDict w ol []) (f6 : DiskA x dx kd ld ud) (f7 : mine' = diskL x dx kd ld ud od ok ol (W.listOf #[] 0))
theorem cls_call (w : World) (nb : Int) (tb ts : Tok) (olds : List Nat) (h0 : 0 < nb) (h1 : nb < 100) :
    Call PySem.Challenge.rw_pf0215_01.row.prog w (hd.heap_1 w.params) (.ref 177) [.int nb tb, .int 4 ts] 10 140 (Alive olds) []
      (fun _ r mine' => ClsPost w nb olds r mine') := by
  intro p loose mean mg mb dp un gd cn cs a ccd cl outer A₀ base h₀ L m s R C N hP hQ
  obtain ⟨hp, g, d, t, os⟩ := s
  have X := C.X.keeps C.F.keep
  have F₁ := (C.F.push emptyDict).push (instObj 177 hp.objs.size)
  have N₁ := (News.nil.push C.F emptyDict).push (C.F.push _) (instObj 177 hp.objs.size)
  rw [Heap.size_push] at N₁
  have lt : ∀ b o, hp.get? b = some o → b < hp.objs.size := fun b o e => Heap.lt_size e
  have key : (hd.heap_1 w.params).In hp → makesIn (hd.heap_1 w.params) 177 = true ∧ findIn (hd.heap_1 w.params) (.ref 177) "__init__" = some (some (.ref 99)) ∧ typeIn (hd.heap_1 w.params) (.ref 99) = some (.type "function") := by
    k_fill
    intro X
    exact ⟨by k_is, by k_is, by k_is⟩
  obtain ⟨e1, e2, e3⟩ := key X
  refine make_core (makes_of X e1) (looks_findIn X e2) (fun self => bind_fn X self e3) (.inl rfl) ?_
  refine init_call w (hp.objs.size + 1) hp.objs.size nb tb ts h0 h1 (Nat.lt_succ_self _) p loose mean mg mb _ _ _ cn cs a ccd cl outer A₀ base h₀ L m _ _ ⟨C.B, F₁, C.X, C.T, C.kd, ?_, ?_⟩ N₁ trivial fun r mine' h' tk' F' N' R' A' hS => ?_
  · have := C.dp
    have e : (Code.builtin "type.__call__" ⟨[.ref 177, .int nb tb, .int 4 ts], []⟩).weight = 1 := by unfold Code.weight; kernel_rfl
    show dp + _ + 5 < _
    rw [e]
    omega
  · have := C.un
    have e : (Code.builtin "type.__call__" ⟨[.ref 177, .int nb tb, .int 4 ts], []⟩).cUnits = 1 := by unfold Code.cUnits; kernel_rfl
    show un + _ + 100 < _
    omega
  obtain ⟨kd, ld, ud, od, ok, ol, rfl, hD, hk, hl, n1, n2, l1, l2, l3, rfl⟩ := hS
  refine ⟨rfl, hQ _ (diskL (hp.objs.size + 1) hp.objs.size kd ld ud od ok ol (W.listOf #[] 0)) h' tk' F' (fun q hq => N' q ?_) (fun b o e _ => ?_) (fun q hq => .inr ?_) ⟨_, _, _, _, _, _, _, _, rfl, (fun b hb => by obtain ⟨o, ho⟩ := hP b hb; exact Heap.lt_size ho), hD, hk, hl, ?_, rfl⟩⟩
  · simp only [List.mem_cons, List.not_mem_nil, or_false] at hq ⊢
    rcases hq with h | h | h | h | h <;> simp [h]
  · refine R' b o (Heap.get?_push_of_some _ (Heap.get?_push_of_some _ e)) ?_
    have := lt b o e
    simp only [List.map_cons, List.map_nil, List.mem_cons, List.not_mem_nil, or_false]
    replace this := ltN this
    rintro (h | h) <;> (rw [h] at this; omega)
  · cases e : hp.get? q.1 with
    | none => rfl
    | some o =>
      have h := lt _ _ e
      simp only [List.mem_cons, List.not_mem_nil, or_false] at hq
      replace h := ltN h
      replace l1 := ltN l1
      replace l2 := ltN l2
      replace l3 := ltN l3
      rcases hq with rfl | rfl | rfl | rfl | rfl <;> dsimp only at h <;> omega
  · replace l1 := ltN l1
    replace l2 := ltN l2
    replace l3 := ltN l3
    constructor <;> first | assumption | omega
local macro_rules | `(tactic| walk_at "setItem ref int") => `(tactic| ((with_reducible show wpAny _ _ (setItem (Value.ref _) (Value.int _ _) _) _ _ _); k_dflt (refine' kda_set ?F ?N ?U ?d (intKind_is _ _ _ _) ?z ?_; (case F => k_asm); (case N => k_asm); (case U => k_updF); (case d => assumption); (case z => (rw [sizeLine_eq]; omega)); k_whole); intro h' o' F' N' hd'; (try k_sweep)))

theorem off_S2b : True := by
  w_top off
  trivial
/-- a disk's fields, its dict kept closed -/
def dkE (P : Params) (k0 k1 k2 k3 k4 k5 k6 k7 k8 k9 tb ts tw tf : Tok) (nb : Int) (kd ld ud : Addr) (wr fl : Int) : List DictEntry := [
    ⟨PyData.keyHash P "blocks", .str "blocks" k0, .int nb tb⟩, ⟨PyData.keyHash P "size", .str "size" k1, .int 4 ts⟩,
    ⟨PyData.keyHash P "kept", .str "kept" k2, .ref kd⟩, ⟨PyData.keyHash P "latest", .str "latest" k3, .ref ld⟩, ⟨PyData.keyHash P "unflushed", .str "unflushed" k4, .ref ud⟩,
    ⟨PyData.keyHash P "writes", .str "writes" k5, .int wr tw⟩, ⟨PyData.keyHash P "flushes", .str "flushes" k6, .int fl tf⟩,
    ⟨PyData.keyHash P "last", .str "last" k7, .none⟩, ⟨PyData.keyHash P "last_flush", .str "last_flush" k8, .none⟩, ⟨PyData.keyHash P "is_dead", .str "is_dead" k9, .bool false⟩]
theorem UpdF.upd {d : Addr} {o : Obj} {l : List (Addr × Obj)} {g : Obj → List (Addr × Obj)} (U : UpdF d o l g) (o' : Obj) : Upd d o o' l (g o') := by
  induction U with
  | head h => exact .head h
  | tail h _ ih => exact .tail h ih
section
variable {prog : Program} {w : World} {A : Around} {E : Value → Shared → Prop} {s : Shared} {K : Frag} {x dx kd ld ud L : Addr} {h₀ : Heap} {m : Str → Option Value} {news : List (Addr × Obj)} {od : Obj} {nb wr fl : Int} {name : Str}
theorem dk_ref {expr : Bool} {Q : Value → Shared → Prop} {attr : Option Value} {v : Value} (F : Fr h₀ L s.heap m) (X : K.In h₀) (N : News h₀ L s.heap news) (hx : (x, instObj 177 dx) ∈ news) (hd : (dx, od) ∈ news) (hD : DiskD w.params od nb kd ld ud wr fl)
    (hg : plainGet K 177 name = true) (hh : hasDictIn K 177 = true) (ha : findIn K (.ref 177) name = some attr) (hn : noGet K attr = true)
    (hl : ∀ k0 k1 k2 k3 k4 k5 k6 k7 k8 k9 tb ts tw tf, getL name (dkE w.params k0 k1 k2 k3 k4 k5 k6 k7 k8 k9 tb ts tw tf nb kd ld ud wr fl) = some (some v)) (hv : handedIn v = true) (h : Q v { s with toks := s.toks + 1 }) :
    wpAny (model prog w) A (getAttr (.ref x) name expr) Q E s := by
  obtain ⟨k0, k1, k2, k3, k4, k5, k6, k7, k8, k9, tb, ts, tw, tf, rfl⟩ := hD
  exact get_own F X (InstAt.of_news N hx hd) hg hh ha hn (hl k0 k1 k2 k3 k4 k5 k6 k7 k8 k9 tb ts tw tf) hv h
theorem dk_int {expr : Bool} {Q : Value → Shared → Prop} {attr : Option Value} {n : Int} {tk : Tok → Tok → Tok → Tok → Tok} (F : Fr h₀ L s.heap m) (X : K.In h₀) (N : News h₀ L s.heap news) (hx : (x, instObj 177 dx) ∈ news) (hd : (dx, od) ∈ news) (hD : DiskD w.params od nb kd ld ud wr fl)
    (hg : plainGet K 177 name = true) (hh : hasDictIn K 177 = true) (ha : findIn K (.ref 177) name = some attr) (hn : noGet K attr = true)
    (hl : ∀ k0 k1 k2 k3 k4 k5 k6 k7 k8 k9 tb ts tw tf, getL name (dkE w.params k0 k1 k2 k3 k4 k5 k6 k7 k8 k9 tb ts tw tf nb kd ld ud wr fl) = some (some (.int n (tk tb ts tw tf)))) (h : ∀ t, Q (.int n t) { s with toks := s.toks + 1 }) :
    wpAny (model prog w) A (getAttr (.ref x) name expr) Q E s := by
  obtain ⟨k0, k1, k2, k3, k4, k5, k6, k7, k8, k9, tb, ts, tw, tf, rfl⟩ := hD
  exact get_own F X (InstAt.of_news N hx hd) hg hh ha hn (hl k0 k1 k2 k3 k4 k5 k6 k7 k8 k9 tb ts tw tf) (by simp only [handedIn]) (h _)
theorem dk_method {pl : Sem Bool} {Q : Value × List Value → Shared → Prop} {f : Addr} (F : Fr h₀ L s.heap m) (X : K.In h₀) (N : News h₀ L s.heap news) (hx : (x, instObj 177 dx) ∈ news) (hd : (dx, od) ∈ news) (hD : DiskD w.params od nb kd ld ud wr fl)
    (hg : plainGet K 177 name = true) (hf : findIn K (.ref 177) name = some (some (.ref f))) (ht : isFn K (.ref f) = true)
    (hl : ∀ k0 k1 k2 k3 k4 k5 k6 k7 k8 k9 tb ts tw tf, getL name (dkE w.params k0 k1 k2 k3 k4 k5 k6 k7 k8 k9 tb ts tw tf nb kd ld ud wr fl) = some none) (h : Q (.ref f, [.ref x]) s) :
    wpAny (model prog w) A (getMethod (.ref x) name pl) Q E s := by
  obtain ⟨k0, k1, k2, k3, k4, k5, k6, k7, k8, k9, tb, ts, tw, tf, rfl⟩ := hD
  exact method_inst F X (InstAt.of_news N hx hd) hg hf ht (hl k0 k1 k2 k3 k4 k5 k6 k7 k8 k9 tb ts tw tf) h
theorem dk_set {Q : Unit → Shared → Prop} {v : Value} {g : Obj → List (Addr × Obj)} {kd' ld' ud' : Addr} {wr' fl' : Int} {tw' tf' : Tok → Tok} (F : Fr h₀ L s.heap m) (X : K.In h₀) (N : News h₀ L s.heap news) (hx : (x, instObj 177 dx) ∈ news) (U : UpdF dx od news g) (hm : (dx, od) ∈ news) (hD : DiskD w.params od nb kd ld ud wr fl)
    (hs : findIn K (.ref 177) "__setattr__" = some (some (.builtin "object.__setattr__"))) (hp : plainOver K 177 = true) (ht : takerIn K 177 name = some none) (hh : hasDictIn K 177 = true)
    (hl : ∀ k0 k1 k2 k3 k4 k5 k6 k7 k8 k9 tb ts tw tf, (getL name (dkE w.params k0 k1 k2 k3 k4 k5 k6 k7 k8 k9 tb ts tw tf nb kd ld ud wr fl)).isSome = true)
    (e : ∀ k0 k1 k2 k3 k4 k5 k6 k7 k8 k9 tb ts tw tf tk, (putL name (PyData.keyHash w.params name) (.str name tk) v (dkE w.params k0 k1 k2 k3 k4 k5 k6 k7 k8 k9 tb ts tw tf nb kd ld ud wr fl), putN name (dkE w.params k0 k1 k2 k3 k4 k5 k6 k7 k8 k9 tb ts tw tf nb kd ld ud wr fl) 10) = (dkE w.params k0 k1 k2 k3 k4 k5 k6 k7 k8 k9 tb ts (tw' tw) (tf' tf) nb kd' ld' ud' wr' fl', 10))
    (h : ∀ h' od', DiskD w.params od' nb kd' ld' ud' wr' fl' → Fr h₀ L h' m → News h₀ L h' (g od') → Q () { s with heap := h', toks := s.toks + 2 }) :
    wpAny (model prog w) A (setAttr (.ref x) name v) Q E s := by
  obtain ⟨k0, k1, k2, k3, k4, k5, k6, k7, k8, k9, tb, ts, tw, tf, rfl⟩ := hD
  refine set_dict F X N (InstAt.of_news N hx hm) rfl hs hp ht hh (hl k0 k1 k2 k3 k4 k5 k6 k7 k8 k9 tb ts tw tf) (e k0 k1 k2 k3 k4 k5 k6 k7 k8 k9 tb ts tw tf _) (UpdF.upd U _) (Nat.le_of_ble_eq_true rfl) fun h' F' N' => h h' _ ⟨_, _, _, _, _, _, _, _, _, _, _, _, _, _, rfl⟩ F' N'
end
local macro_rules | `(tactic| walk_at "getAttr ref") => `(tactic| (k_here; k_dflt (refine' dk_ref ?k1 ?k2 ?k3 ?k4 ?k5 ?k6 ?k7 ?k8 ?k9 ?k10 ?k11 ?k12 ?_; (case k1 => k_asm); (case k2 => k_asm); (case k3 => k_asm); (case k4 => k_mem); (case k5 => k_mem); (case k6 => assumption); (case k7 => k_is); (case k8 => k_is); (case k9 => k_is); (case k10 => k_is); (case k11 => (intros; rfl)); (case k12 => k_handed); k_whole)))
local macro_rules | `(tactic| walk_at "getAttr ref") => `(tactic| (k_here; k_dflt (refine' dk_int ?k1 ?k2 ?k3 ?k4 ?k5 ?k6 ?k7 ?k8 ?k9 ?k10 ?k11 ?_; (case k1 => k_asm); (case k2 => k_asm); (case k3 => k_asm); (case k4 => k_mem); (case k5 => k_mem); (case k6 => assumption); (case k7 => k_is); (case k8 => k_is); (case k9 => k_is); (case k10 => k_is); (case k11 => (intros; rfl)); k_whole); intro t'))
local macro_rules | `(tactic| walk_at "getMethod ref") => `(tactic| (k_here; k_dflt (refine' dk_method ?k1 ?k2 ?k3 ?k4 ?k5 ?k6 ?k7 ?k8 ?k9 ?k10 ?_; (case k1 => k_asm); (case k2 => k_asm); (case k3 => k_asm); (case k4 => k_mem); (case k5 => k_mem); (case k6 => assumption); (case k7 => k_is); (case k8 => k_is); (case k9 => k_is); (case k10 => (intros; rfl)); k_whole)))
local macro_rules | `(tactic| walk_at "setAttr ref") => `(tactic| (k_here; k_dflt (refine' dk_set ?k1 ?k2 ?k3 ?k4 ?k5 ?k5m ?k6 ?k7 ?k8 ?k9 ?k10 ?k11 ?k12 ?_; (case k1 => k_asm); (case k2 => k_asm); (case k3 => k_asm); (case k4 => k_mem); (case k5m => k_mem); (case k5 => k_updF); (case k6 => assumption); (case k7 => k_is); (case k8 => k_is); (case k9 => k_is); (case k10 => k_is); (case k11 => (intros; rfl)); (case k12 => (intros; rfl)); k_whole); intro h' od' hD' F' N'; (try k_sweep)))

theorem off_S03 : True := by
  w_top off
  trivial
abbrev tupO (n : Int) (b : Array UInt8) (tn tb : Tok) : Obj := { cls := .type "tuple", data := .seq #[.int n tn, .bytes b tb] }

inductive WritePost (w : World) (x dx kd ld ud : Addr) (ok : Obj) (us : Array Value) (nb wr fl n : Int) (b : Array UInt8) (tn tb : Tok) (lk : List (Int × Value)) (r : Value) (mine' : List (Addr × Obj)) : Prop
  | mk (D : Addr) (od' ol' : Obj) (nu' : Nat) (f1 : r = .none) (f2 : DiskD w.params od' nb kd ld ud (wr + 1) fl) (f3 : IntDict w ol' (stored lk n (.bytes b tb))) (f4 : D ∉ [x, dx, kd, ld, ud]) (f5 : mine' = (D, tupO n b tn tb) :: diskL x dx kd ld ud od' ok ol' (W.listOf (us.push (.ref D)) nu'))
set_option maxHeartbeats 1000000 in
theorem write_call (w : World) (x dx kd ld ud : Addr) (od ok ol : Obj) (us : Array Value) (nu : Nat) (nb wr fl n : Int) (b : Array UInt8) (tn tb : Tok) (kk lk : List (Int × Value))
    (hD : DiskD w.params od nb kd ld ud wr fl) (hk : IntDict w ok kk) (hl : IntDict w ol lk) (hA : DiskA x dx kd ld ud) (h0 : 0 ≤ n) (h1 : n < nb) (hnb : nb < 100) (hb : b.size = 4) (hw : 0 ≤ wr) (hw1 : wr < 1000) (hz : lk.length ≤ 1000) (hu : us.size ≤ 1000) :
    Call PySem.Challenge.rw_pf0215_01.row.prog w (hd.heap_1 w.params) (.ref 127) [.ref x, .int n tn, .bytes b tb] 10 140 (fun _ => True) (diskL x dx kd ld ud od ok ol (W.listOf us nu))
      (fun _ r mine' => WritePost w x dx kd ld ud ok us nb wr fl n b tn tb lk r mine') := by
  k_fill
  refine call_of (by k_is) (by k_is) ?_ (fun _ => BindsTo.of_eq rfl) (locs rfl) ?_
  · intros; trivial
  intro p loose mean mg mb dp un gd outer A₀ base g L' gns dr os h₁ tk₁ hdp hun hlt hP B X T N F Qf hQf
  obtain ⟨i11, i12, i13, i14⟩ := hA.inner
  obtain ⟨a1, a2, a3, a4, a5, a6, a7, a8⟩ := hA
  dsimp only [diskL] at N
  replace hlt := allLt_of hlt
  simp only [AllLt, and_true] at hlt
  (try dsimp only)
  (try k_fold)
  k_steps
  all_goals (
    try dsimp only
    refine Ends.out hQf (by assumption) (by assumption) ⟨_, _, _, _, rfl, by assumption, by assumption, ?_, rfl⟩
    simp only [List.mem_cons, List.not_mem_nil, or_false, not_or]
    refine ⟨?_, ?_, ?_, ?_, ?_⟩ <;> (refine neN ?_; omega))

theorem off_S04 : True := by
  w_top off
  trivial
/-- the iterator of a list, as an object -/
def ItOf (o : Obj) (l : Addr) (i : Nat) : Prop := o.cls = .type "list_iterator" ∧ ∃ t, o.data = .fields #[.ref l, .int i t]

inductive TurnGo (h₀ : Heap) (L I : Addr) (o : Obj) (s : Shared) (J : (Str → Option Value) → List (Addr × Obj) → Prop) (s' : Shared) : Prop
  | mk (h' : Heap) (tk : Nat) (m' : Str → Option Value) (news' : List (Addr × Obj)) (e : s' = { s with heap := h', toks := tk }) (F : Fr h₀ L h' m') (N : News h₀ L h' ((I, o) :: news')) (ne : ∀ p ∈ news', p.1 ≠ I) (j : J m' news')
def TurnEnd (h₀ : Heap) (L : Addr) (I : Addr) (o : Obj) (s : Shared) (J : (Str → Option Value) → List (Addr × Obj) → Prop) (Q : Flow → Shared → Prop) (f : Flow) (s' : Shared) : Prop :=
  match f with
  | .ret v => Q (.ret v) s'
  | .brk => Q .next s'
  | _ => TurnGo h₀ L I o s J s'
theorem TurnEnd.next {h₀ : Heap} {L I : Addr} {o : Obj} {s : Shared} {J : (Str → Option Value) → List (Addr × Obj) → Prop} {Q : Flow → Shared → Prop} {h' : Heap} {tk : Nat} {m' : Str → Option Value} {news' : List (Addr × Obj)}
    (F : Fr h₀ L h' m') (N : News h₀ L h' ((I, o) :: news')) (hI : ∀ p ∈ news', p.1 ≠ I) (hJ : J m' news') : TurnEnd h₀ L I o s J Q .next { s with heap := h', toks := tk } := ⟨_, _, _, _, rfl, F, N, hI, hJ⟩

theorem TurnEnd.out {h₀ : Heap} {L I : Addr} {o : Obj} {s : Shared} {J : (Str → Option Value) → List (Addr × Obj) → Prop} {Q Qt : Flow → Shared → Prop} (hQt : ∀ f s', TurnEnd h₀ L I o s J Q f s' → Qt f s') {h' : Heap} {tk : Nat} {m' : Str → Option Value} {news' : List (Addr × Obj)}
    (F : Fr h₀ L h' m') (N : News h₀ L h' ((I, o) :: news')) (hI : ∀ p ∈ news', p.1 ≠ I) (hJ : J m' news') : Qt .next { s with heap := h', toks := tk } := hQt _ _ ⟨_, _, _, _, rfl, F, N, hI, hJ⟩
/-- a for over a list, its invariant over the frame's names and the whole ledger -/
inductive LoopL (prog : Program) (w : World) (A : Around) (h₀ : Heap) (env : Env) (target : Expr) (body : List Stmt) (Q : Flow → Shared → Prop) (v : Value) (s : Shared) : Prop
  | mk (l : Addr) (vs : Array Value) (m : Str → Option Value) (news : List (Addr × Obj)) (J : Nat → (Str → Option Value) → List (Addr × Obj) → Prop) (f1 : v = .ref l) (f2 : Fr h₀ env.locals s.heap m) (f3 : News h₀ env.locals s.heap news) (f4 : J 0 m news) (f5 : (∀ i m' news' h', J i m' news' → Fr h₀ env.locals h' m' → News h₀ env.locals h' news' → h'.IsList l vs)) (f6 : (∀ i x m₁ news₁ h tk I o, vs[i]? = some x → J i m₁ news₁ → (∀ p ∈ news, p.1 < I) → (∀ p ∈ news₁, p.1 ≠ I) → Fr h₀ env.locals h m₁ → News h₀ env.locals h ((I, o) :: news₁) → ∀ Qt : Flow → Shared → Prop, (∀ f s', TurnEnd h₀ env.locals I o s (J (i + 1)) Q f s' → Qt f s') → wpAny (model prog w) A (assign target env x) (fun _ s₂ => wpAny (model prog w) A (execs body env) Qt (fun _ _ => False) s₂) (fun _ _ => False) { s with heap := h, toks := tk })) (f7 : (∀ m' news' h' tk, J vs.size m' news' → Fr h₀ env.locals h' m' → News h₀ env.locals h' news' → Q .next { s with heap := h', toks := tk }))

inductive InvL (h₀ : Heap) (L : Addr) (s₁ : Shared) (I l : Addr) (n : Nat) (J : Nat → (Str → Option Value) → List (Addr × Obj) → Prop) (k : Nat) (s' : Shared) : Prop
  | mk (i : Nat) (h' : Heap) (tk : Nat) (m' : Str → Option Value) (news' : List (Addr × Obj)) (f1 : n - i = k) (f2 : s' = { s₁ with heap := h', toks := tk }) (f3 : h'.IsListIter I l i) (f4 : Fr h₀ L h' m') (f5 : News h₀ L h' news') (f6 : (∀ p ∈ news', p.1 ≠ I)) (f7 : J i m' news') (f8 : i ≤ n)
section
variable {prog : Program} {w : World} {A : Around} {env : Env} {h₀ : Heap} {target iter : Expr} {body : List Stmt} {pos : Pos} {Q : Flow → Shared → Prop} {E : Value → Shared → Prop}

theorem own_list {I a : Addr} {l : Addr} {i : Nat} {s : Shared} {Q : Unit → Shared → Prop} {E : Value → Shared → Prop} {v : Value} (hit : s.heap.IsListIter I l i) (h : Q () s) :
    wpAny (model prog w) A (letOwnedTupleGo target (.ref I) v) Q E s := by
  obtain ⟨o, ho, hc, hd⟩ := hit
  unfold letOwnedTupleGo
  split <;> first
    | exact wpAny_pure h
    | (cases v <;> first
        | exact wpAny_pure h
        | (refine wpAny_bind (wpAny_load ho ?_)
           rw [hc, hd]
           dsimp only
           rw [if_neg (by simp)]
           exact wpAny_pure h))

theorem For_L (hh : A.handled = none) {s : Shared} (h : wpAny (model prog w) A (eval iter env) (LoopL prog w A h₀ env target body Q) E s)
    (hs : ∀ x, foldedSetIterable iter env x = pure x := by intro _; rfl) :
    wpAny (model prog w) A (exec (.For target iter body [] pos) env) Q E s := by
  refine wpAny_For (wpAny_mono h (fun v s₁ h₁ => ?_) fun _ _ e => e) hs
  obtain ⟨l, vs, m, news, J, rfl, F, N, h0, hl, turn, done⟩ := h₁
  refine wpAny_pyIter_list (hl _ _ _ _ h0 F N) ?_
  have hI : (s₁.heap.push { cls := .type "list_iterator", data := .fields #[.ref l, .int 0 0] }).IsListIter s₁.heap.objs.size l 0 := ⟨_, Heap.get?_push_size _ rfl, rfl, rfl⟩
  have ltI : ∀ p ∈ news, p.1 < s₁.heap.objs.size := fun p hp => Heap.lt_size (N p hp).1
  have nI : h₀.get? s₁.heap.objs.size = none := by
    cases e : h₀.get? s₁.heap.objs.size with
    | none => rfl
    | some o => exact absurd (Heap.lt_size (F.keep _ _ e)) (Nat.lt_irrefl _)
  have nL : s₁.heap.objs.size ≠ env.locals := fun e => by
    obtain ⟨oL, _, _, hL, _⟩ := F.ns
    exact absurd (Heap.lt_size hL) (by rw [e]; exact Nat.lt_irrefl _)
  generalize hIe : s₁.heap.objs.size = I at *
  have key : ∀ (k : Nat) (s' : Shared), InvL h₀ env.locals s₁ I l vs.size J k s' →
      codeAny (model prog w) A (.forLoop target (.ref I) body [] env) (fun r s' => match r with | .ok f => Q f s' | .error e => cameBackBy (model prog w) A env E e s') s' := by
    intro k s' hst
    refine codeAny_loop' rfl (InvL h₀ env.locals s₁ I l vs.size J) ?_ k hst
    rintro k s' ⟨i, h', tk, m', news', rfl, rfl, hit, F', N', hne, hJ, hi⟩
    show wpAny _ _ ((forTurn target (.ref I) body [] env).onRaise (fun x => do noteFrame x env; theTreesLotGoes x)) _ _ _
    refine wpAny_noted ?_
    simp only [forTurn]
    have hl' := hl _ _ _ _ hJ F' N'
    refine wpAny_bind (wpAny_standAt (wpAny_bind (wpAny_onRaise ?_)))
    by_cases hlt : i < vs.size
    · refine wpAny_pyNext_list_item hit hl' (x := vs[i]) (by simp [hlt]) fun h₂ hit₂ hs₂ => ?_
      dsimp only
      refine wpAny_bind (own_list (a := I) hit₂ ?_)
      have F₂ : Fr h₀ env.locals h₂ m' := ⟨F'.ns.sameBut hs₂ (Ne.symm nL), fun b o e => (hs₂.2 b (fun q => by rw [q, nI] at e; cases e)).trans (F'.keep b o e), F'.above⟩
      have N₂ : News h₀ env.locals h₂ news' := fun p hp => ⟨(hs₂.2 p.1 (hne p hp)).trans (N' p hp).1, (N' p hp).2⟩
      obtain ⟨o, ho, hc, hd⟩ := id hit₂
      have N₃ : News h₀ env.locals h₂ ((I, o) :: news') := fun p hp => by
        rcases List.mem_cons.mp hp with rfl | hp
        · exact ⟨ho, nL, nI⟩
        · exact N₂ p hp
      refine wpAny_bind (wpAny_mono (turn i vs[i] m' news' h₂ tk I o (by simp [hlt]) hJ ltI hne F₂ N₃ _ fun _ _ e => e) (fun _ s₂ h₂' => wpAny_bind (wpAny_mono h₂' (fun f s₃ hf => ?_) fun _ _ e => e.elim)) fun _ _ e => e.elim)
      have fin : TurnGo h₀ env.locals I o s₁ (J (i + 1)) s₃ →
          ∃ m, m < vs.size - i ∧ InvL h₀ env.locals s₁ I l vs.size J m s₃ := by
        rintro ⟨h3, tk3, m3, news3, e3, F3, N3, ne3, J3⟩
        exact ⟨vs.size - (i + 1), by omega, i + 1, h3, tk3, m3, news3, rfl, e3, ⟨o, (N3 _ (.head _)).1, hc, hd⟩, F3, fun p hp => N3 p (.tail _ hp), ne3, J3, hlt⟩
      cases f with
      | next => exact wpAny_pure (.inl ⟨rfl, fin hf⟩)
      | cont => exact wpAny_pure (.inl ⟨rfl, fin hf⟩)
      | brk => exact wpAny_pure hf
      | ret v => exact wpAny_pure hf
    · have hin : i = vs.size := by omega
      subst hin
      refine wpAny_pyNext_list_end hh hit hl' (by simp) fun h₂ he => ?_
      refine wpAny_pure (.inr ⟨rfl, codeAny_block (wpAny_execs_nil ?_)⟩)
      refine done m' news' h₂ tk hJ ⟨F'.ns.extBut he (Ne.symm nL), fun b o e => he b o (fun q => by rw [q, nI] at e; cases e) (F'.keep b o e), F'.above⟩ fun p hp => ⟨he _ _ (hne p hp) (N' p hp).1, (N' p hp).2⟩
  refine key _ _ ⟨0, _, _, m, news, rfl, rfl, hI, ?_, ?_, fun p hp => Nat.ne_of_lt (ltI p hp), h0, Nat.zero_le _⟩
  · exact F.push _
  · exact fun p hp => ⟨Heap.get?_push_of_some _ (N p hp).1, (N p hp).2⟩
end
theorem m_at {m : Str → Option Value} {a : Str} {v : Value} (h : m a = some v) : m = fun y => if y = a then some v else m y := by
  funext y
  by_cases e : y = a
  · rw [if_pos e, e, h]
  · rw [if_neg e]
theorem fr_at1 {h₀ h : Heap} {L : Addr} {m : Str → Option Value} {a : Str} {v : Value} (F : Fr h₀ L h m) (e : m a = some v) : Fr h₀ L h (fun y => if y = a then some v else m y) := m_at e ▸ F
def AllNe (d : Nat) : List (Addr × Obj) → Prop
  | [] => True
  | p :: r => @Ne Nat p.1 d ∧ AllNe d r
theorem allNe_of {d : Nat} : ∀ {l : List (Addr × Obj)}, (∀ p ∈ l, p.1 ≠ d) → AllNe d l
  | [], _ => trivial
  | _ :: _, h => ⟨h _ (.head _), allNe_of fun q hq => h q (.tail _ hq)⟩
theorem isList_rest {mine : List (Addr × Obj)} {h g : Heap} {l : Addr} {its : Array Value} (hl : h.IsList l its) (hk : ∀ b o, h.get? b = some o → b ∉ mine.map (·.1) → g.get? b = some o) (hn : l ∉ mine.map (·.1)) : g.IsList l its := by
  obtain ⟨o, ho, r⟩ := hl
  exact ⟨o, hk _ _ ho hn, r⟩
theorem fr_at2 {h₀ h : Heap} {L : Addr} {m : Str → Option Value} {a b : Str} {v u : Value} (F : Fr h₀ L h m) (e : m a = some v) (e' : m b = some u) : Fr h₀ L h (fun y => if y = a then some v else if y = b then some u else m y) := by
  have q : m = fun y => if y = a then some v else if y = b then some u else m y := by
    funext y
    by_cases h1 : y = a
    · rw [if_pos h1, h1, e]
    · rw [if_neg h1]
      by_cases h2 : y = b
      · rw [if_pos h2, h2, e']
      · rw [if_neg h2]
  rw [← q]
  exact F
theorem fr_at3 {h₀ h : Heap} {L : Addr} {m : Str → Option Value} {a b c : Str} {v u x : Value} (F : Fr h₀ L h m) (e : m a = some v) (e' : m b = some u) (e'' : m c = some x) : Fr h₀ L h (fun y => if y = a then some v else if y = b then some u else if y = c then some x else m y) := by
  have q : m = fun y => if y = a then some v else if y = b then some u else if y = c then some x else m y := by
    funext y
    by_cases h1 : y = a
    · rw [if_pos h1, h1, e]
    · rw [if_neg h1]
      by_cases h2 : y = b
      · rw [if_pos h2, h2, e']
      · rw [if_neg h2]
        by_cases h3 : y = c
        · rw [if_pos h3, h3, e'']
        · rw [if_neg h3]
  rw [← q]
  exact F

theorem off_S05 : True := by
  w_top off
  trivial
abbrev tupV (n : Int) (tn : Tok) (v : Value) : Obj := { cls := .type "tuple", data := .seq #[.int n tn, v] }
/-- a list of pairs of a number and octets, as tuples on the heap -/
inductive Tups (h : Heap) : List Value → List (Int × Value) → Prop
  | nil : Tups h [] []
  | cons {a : Addr} {n : Int} {tn : Tok} {v : Value} {us : List Value} {un : List (Int × Value)} : h.get? a = some (tupV n tn v) → Tups h us un → Tups h (.ref a :: us) ((n, v) :: un)
theorem Tups.keeps {h h' : Heap} {us : List Value} {un : List (Int × Value)} (T : Tups h us un) (k : ∀ b o, h.get? b = some o → o.cls = .type "tuple" → h'.get? b = some o) : Tups h' us un := by
  induction T with
  | nil => exact .nil
  | cons e _ ih => exact .cons (k _ _ e rfl) ih
theorem Tups.length {h : Heap} {us : List Value} {un : List (Int × Value)} (T : Tups h us un) : us.length = un.length := by
  induction T with
  | nil => rfl
  | cons _ _ ih => simp [ih]
theorem Tups.get {h : Heap} {us : List Value} {un : List (Int × Value)} (T : Tups h us un) : ∀ {i : Nat} {x : Value}, us[i]? = some x → ∃ a n tn v, x = .ref a ∧ h.get? a = some (tupV n tn v) ∧ un[i]? = some (n, v) := by
  induction T with
  | nil => intro i x h; simp at h
  | cons e _ ih =>
    intro i x h
    cases i with
    | zero => simp at h; exact ⟨_, _, _, _, h.symm, e, rfl⟩
    | succ i => simp at h; simpa using ih h
theorem Tups.snoc {h : Heap} {us : List Value} {un : List (Int × Value)} (T : Tups h us un) {a : Addr} {n : Int} {tn : Tok} {v : Value} (e : h.get? a = some (tupV n tn v)) : Tups h (us ++ [.ref a]) (un ++ [(n, v)]) := by
  induction T with
  | nil => exact .cons e .nil
  | cons e' _ ih => exact .cons e' ih

/-- the octets of a block -/
def Oct (v : Value) : Prop := ∃ b t, v = .bytes b t ∧ b.size = 4
def puts (kvs un : List (Int × Value)) : List (Int × Value) := un.foldl (fun kv p => stored kv p.1 p.2) kvs
theorem puts_take {kvs un : List (Int × Value)} {i : Nat} {n : Int} {v : Value} (h : un[i]? = some (n, v)) : puts kvs (un.take (i + 1)) = stored (puts kvs (un.take i)) n v := by
  unfold puts
  rw [List.take_add_one, h]
  simp
theorem stored_length (kvs : List (Int × Value)) (n : Int) (v : Value) : (stored kvs n v).length ≤ kvs.length + 1 := by
  unfold stored
  split <;> simp
theorem puts_length (un : List (Int × Value)) : ∀ kvs, (puts kvs un).length ≤ kvs.length + un.length := by
  induction un with
  | nil => intro kvs; exact Nat.le_refl _
  | cons p r ih =>
    intro kvs
    have h1 := ih (stored kvs p.1 p.2)
    have h2 := stored_length kvs p.1 p.2
    show (puts (stored kvs p.1 p.2) r).length ≤ _
    simp only [List.length_cons]
    omega

theorem dict_cls {w : World} {o : Obj} {kvs : List (Int × Value)} (h : IntDict w o kvs) : o.cls = .type "dict" := by
  obtain ⟨_, _, hc, _⟩ := h
  exact hc.1
def NoTup (mine : List (Addr × Obj)) : Prop := ∀ p ∈ mine, p.2.cls ≠ .type "tuple"
theorem Tups.hide {h g : Heap} {us : List Value} {un : List (Int × Value)} {mine : List (Addr × Obj)} (T : Tups h us un) (hc : NoTup mine) (k : ∀ b o, h.get? b = some o → b ∉ mine.map (·.1) → g.get? b = some o) (hm : ∀ p ∈ mine, h.get? p.1 = some p.2) : Tups g us un :=
  T.keeps fun b o e ht => k b o e fun hb => by
    obtain ⟨p, hp, rfl⟩ := List.mem_map.mp hb
    rw [hm p hp] at e
    cases e
    exact hc p hp ht
theorem diskL_noTup {w : World} {x dx kd ld ud : Addr} {od ok ol ou : Obj} {nb wr fl : Int} {kk lk : List (Int × Value)} (hD : DiskD w.params od nb kd ld ud wr fl) (hk : IntDict w ok kk) (hl : IntDict w ol lk) (hu : ou.cls = .type "list") : NoTup (diskL x dx kd ld ud od ok ol ou) := by
  obtain ⟨k0, k1, k2, k3, k4, k5, k6, k7, k8, k9, t0, t1, t2, t3, rfl⟩ := hD
  intro p hp
  simp only [List.mem_cons, List.not_mem_nil, or_false] at hp
  rcases hp with rfl | rfl | rfl | rfl | rfl
  · exact fun e => nomatch e
  · exact fun e => absurd (Value.type.inj e) (by decide)
  · rw [dict_cls hk]; exact fun e => absurd (Value.type.inj e) (by decide)
  · rw [dict_cls hl]; exact fun e => absurd (Value.type.inj e) (by decide)
  · rw [hu]; exact fun e => absurd (Value.type.inj e) (by decide)
theorem ud_new {x dx kd ld ud ud' : Nat} (h : DiskA x dx kd ld ud') (hud : ud' ≠ ud) : ud' ∉ [x, dx, kd, ld, ud] := by
  obtain ⟨a1, a2, a3, a4, a5, a6, a7, a8⟩ := h
  simp only [List.mem_cons, List.not_mem_nil, or_false, not_or]
  refine ⟨?_, ?_, ?_, ?_, ?_⟩ <;> omega
theorem news_sub {h₀ h : Heap} {L : Addr} {news new : List (Addr × Obj)} (N : News h₀ L h news) (hs : ∀ q ∈ new, q ∈ news) : News h₀ L h new := fun q hq => N q (hs q hq)

def NeAll (b : Nat) : List Nat → Prop
  | [] => True
  | a :: r => @Ne Nat b a ∧ NeAll b r
def OffAll (A : List Nat) : List (Addr × Obj) → Prop
  | [] => True
  | q :: r => NeAll q.1 A ∧ OffAll A r
theorem NeAll.out {b : Nat} : ∀ {A : List Nat}, NeAll b A → b ∉ A
  | [], _ => by simp
  | a :: r, h => fun hm => by
    rcases List.mem_cons.mp hm with e | hm
    · exact h.1 e
    · exact NeAll.out h.2 hm
theorem OffAll.out {A : List Nat} : ∀ {l : List (Addr × Obj)}, OffAll A l → ∀ q ∈ l, q.1 ∉ A
  | [], _, _, h => nomatch h
  | _ :: _, h, q, hq => by
    rcases List.mem_cons.mp hq with rfl | hq
    · exact h.1.out
    · exact OffAll.out h.2 q hq
theorem news_call {h₀ h' : Heap} {L : Addr} {news mine mine' : List (Addr × Obj)} (keepL : List (Addr × Obj)) (hN : ∀ news' : List (Addr × Obj), (∀ q ∈ news', q ∈ mine' ∨ (q ∈ news ∧ q.1 ∉ mine.map (·.1))) → News h₀ L h' news') (h1 : ∀ q ∈ keepL, q ∈ news) (h2 : OffAll (mine.map (·.1)) keepL) : News h₀ L h' (keepL ++ mine') :=
  hN _ fun q hq => by
    rcases List.mem_append.mp hq with hq | hq
    · exact .inr ⟨h1 q hq, h2.out q hq⟩
    · exact .inl hq
inductive FlushPost (w : World) (x dx kd ld ud : Addr) (ol : Obj) (nb wr fl : Int) (kk ps : List (Int × Value)) (r : Value) (mine' : List (Addr × Obj)) : Prop
  | mk (ud' : Addr) (od' ok' : Obj) (f1 : r = .none) (f2 : DiskD w.params od' nb kd ld ud' wr (fl + 1)) (f3 : IntDict w ok' (puts kk ps)) (f4 : DiskA x dx kd ld ud') (f5 : @Ne Nat ud' ud) (f6 : mine' = diskL x dx kd ld ud' od' ok' ol (W.listOf #[] 0))
set_option maxHeartbeats 1000000 in
theorem flush_call (w : World) (x dx kd ld ud : Addr) (od ok ol : Obj) (us : List Value) (nu : Nat) (nb wr fl : Int) (kk lk : List (Int × Value)) (ps : List (Int × Value))
    (hD : DiskD w.params od nb kd ld ud wr fl) (hk : IntDict w ok kk) (hl : IntDict w ol lk) (hA : DiskA x dx kd ld ud) (hw : 0 ≤ fl) (hw1 : fl < 1000) (hz : kk.length ≤ 1000) (hu : ps.length ≤ 1000) (hO : ∀ p ∈ ps, Oct p.2) :
    Call PySem.Challenge.rw_pf0215_01.row.prog w (hd.heap_1 w.params) (.ref 141) [.ref x] 10 140 (fun h => Tups h us ps) (diskL x dx kd ld ud od ok ol (W.listOf us.toArray nu))
      (fun _ r mine' => FlushPost w x dx kd ld ud ol nb wr fl kk ps r mine') := by
  k_fill
  refine call_of (by k_is) (by k_is) ?_ (fun _ => BindsTo.of_eq rfl) (locs rfl) ?_
  · exact fun h g ht hk' hm => ht.hide (diskL_noTup hD hk hl rfl) hk' hm
  intro p loose mean mg mb dp un gd outer A₀ base g L' gns dr os h₁ tk₁ hdp hun hlt hP B X T N F Qf hQf
  obtain ⟨i21, i22, i23, i24⟩ := hA.inner
  obtain ⟨a1, a2, a3, a4, a5, a6, a7, a8⟩ := hA
  dsimp only [diskL] at N
  replace hlt := allLt_of hlt
  simp only [AllLt, and_true] at hlt
  (try dsimp only)
  (try k_fold)
  k_steps
  refine For_L (h₀ := g) rfl ?_
  k_steps
  rename Fr _ _ _ _ => F1
  rename News _ _ _ _ => N1
  obtain ⟨od₁, hD₁, N2⟩ : ∃ od₁, DiskD w.params od₁ nb kd ld ud wr (fl + 1) ∧ News g L' _ [(x, instObj 177 dx), (dx, od₁), (kd, ok), (ld, ol), (ud, W.listOf us.toArray nu)] := ⟨_, by assumption, N1⟩
  clear N1
  refine ⟨ud, us.toArray, _, _, fun i m news => m "self" = some (.ref x) ∧ ∃ ok', IntDict w ok' (puts kk (ps.take i)) ∧ news = [(x, instObj 177 dx), (dx, od₁), (kd, ok'), (ld, ol), (ud, W.listOf us.toArray nu)], rfl, F1, N2, ⟨rfl, ok, hk, rfl⟩, ?_, ?_, ?_⟩
  · rintro i m' news' h' ⟨_, ok', _, rfl⟩ F N
    exact News.isList N (by k_mem)
  · rintro i v m₁ news₁ h tk I o hv ⟨hm, ok', hk', rfl⟩ hI hne F N Qt hQt
    obtain ⟨a, n, tn, v', rfl, ha, hu'⟩ := hP.get (by simpa using hv)
    obtain ⟨b, tb, rfl, hb⟩ := hO (n, v') (List.mem_of_getElem? hu')
    have F := fr_at1 F hm
    have hz' := puts_length (ps.take i) kk
    rw [List.length_take] at hz'
    replace hz' := Nat.le_trans hz' (Nat.add_le_add_left (Nat.min_le_right _ _) _)
    have hne' := allNe_of hne
    simp only [AllNe, and_true] at hne'
    repeat (have k_1 := And.left hne'; replace hne' := And.right hne')
    refine unpackN_ F N ⟨_, F.keep _ _ ha, rfl, _, rfl⟩ rfl rfl rfl fun h' F' N' => ?_
    k_steps
    refine TurnEnd.out hQt (by assumption) (by assumption) (by k_all) ⟨rfl, _, ?_, rfl⟩
    rw [puts_take hu']
    assumption
  · rintro m' news' h' tk ⟨hm, ok', hk', rfl⟩ F N
    have F := fr_at1 F hm
    k_steps
    rename Fr _ _ _ _ => F9
    rename News _ _ _ _ => N9
    refine' Ends.out hQf F9 (news_sub (new := diskL x dx kd ld _ _ ok' ol (W.listOf #[] 0)) N9 ?sub) ⟨_, _, ok', rfl, by assumption, ?_, ?_, ?_, rfl⟩
    case sub => k_allIn
    · have e := hP.length
      simpa [e] using hk'
    · constructor <;> first | assumption | omega
    · omega

theorem off_S06 : True := by
  w_top off
  trivial
section
variable {prog : Program} {w : World} {K : Frag} {mine : List (Addr × Obj)}
  {name qual : Str} {params : Arguments} {body : List Stmt} {scope : Scope} {dV kV doc pm cdv ct oc : Value} {an od : Option Addr} {osl : Array (Option Value)} {f : Addr} {args : List Value} {binds : List (Str × Value)}
  {P : Heap → Prop} {S : Heap → Value → List (Addr × Obj) → Prop} {d u : Nat}

theorem call_ofC
    (ho : K.lookup f = some ⟨oc, od, .func (fnOf name qual params body scope dV kV doc pm an cdv ct), osl⟩) (hcd : codeIn K cdv qual = true)
    (hst : ∀ h g : Heap, P h → (∀ b o, h.get? b = some o → b ∉ mine.map (·.1) → g.get? b = some o) → (∀ p ∈ mine, h.get? p.1 = some p.2) → P g)
    (hbind : ∀ s, BindsTo s (fnOf name qual params body scope dV kV doc pm an cdv ct) ⟨args, []⟩ binds)
    (hkind : (binds.all fun y => scope.names.lookup y.1 == some .local || scope.names.lookup y.1 == some .cell) = true) (hnd : ((cellsFrom 0 scope.names []).map (·.1)).Nodup)
    (h : ∀ (p : Program) (loose : List Str) (mean : ExcName → Option Value) (mg mb : Str → Option Value) (dp un : Nat) (gd : Option (List Code)) (outer : List Env) (A₀ : Around) (base g : Heap) (L' : Addr) (gns : Array GenState) (dr : Drawn) (os : OsState) (h₁ : Heap) (tk₁ : Nat) (cells : List (Addr × Obj)),
      dp + d < recursionLimit + 1 → un + u < cLine + 3 → (∀ p ∈ mine, p.1 < L') → P g → Below A₀ base outer g → K.In g → Top p loose mean mg mb g → News g L' h₁ (cells ++ mine) →
      CellsAre (bindC (envOfC qual scope L' f cdv).kindOf binds fun _ => none) (cellsFrom (L' + 1) scope.names []) cells → Fr g L' h₁ (bindL (envOfC qual scope L' f cdv).kindOf binds fun _ => none) →
      ∀ Qf : Value → Shared → Prop, (∀ v s', Ends { heap := h₁, gens := gns, drawn := dr, toks := tk₁, os := os } g S v s' → Qf v s') →
      wpAny (model prog w) (ktrTop dp un gd qual scope L' f cdv (cellsFrom (L' + 1) scope.names []) outer) (execs body (envOfC qual scope L' f cdv))
        (fun fl s' => Qf (match fl with | .ret v => v | _ => .none) s') (fun _ _ => False)
        { heap := h₁, gens := gns, drawn := dr, toks := tk₁, os := os })
    (hd : 1 ≤ d := by decide) (hu : 3 ≤ u := by decide)
    (hco : scope.isCoroutine = false := by rfl) (hgen : scope.isGenerator = false := by rfl) (hk : scope.kind = .function := by rfl) : Call prog w K (.ref f) args d u P mine S := by
  intro p loose mean mg mb dp un gd cn cs a ccd cl outer A₀ base h₀ L m s R C N hP hQ
  have hroom : (ktrTop dp un gd cn cs L a ccd cl outer).depth < recursionLimit := by have := C.dp; show dp < _; omega
  obtain ⟨FG, BG, st, -⟩ := groundX (R := fun _ _ => True) (A := ktrTop dp un gd cn cs L a ccd cl outer) (env := envX cn cs L a ccd cl) C.B C.F N rfl rfl C.kd
  have keep : ∀ b o, s.heap.get? b = some o → b ∉ mine.map (·.1) → (hideAll s.heap (mine.map (·.1))).get? b = some o := fun b o e n => hideAll_get _ e n
  obtain ⟨g, hg⟩ : ∃ g, g = hideAll s.heap (mine.map (·.1)) := ⟨_, rfl⟩
  have old : ∀ b o, g.get? b = some o → s.heap.get? b = some o := fun b o e => of_hideAll _ (hg ▸ e)
  have hsz : g.objs.size = s.heap.objs.size := by rw [hg]; exact hideAll_size _ _
  have hno : ∀ p ∈ mine, g.get? p.1 = none := fun p hp => by rw [hg]; exact hideAll_none _ (List.mem_map_of_mem hp)
  rw [← hg] at FG BG st keep
  refine codeAny_call_function (fd := fnOf name qual params body scope dV kV doc pm an cdv ct) hroom (C.X.keeps C.F.keep _ _ ho) rfl hco hgen rfl (codeRec_of (C.X.keeps C.F.keep) hcd) ((hbind s) _ _ _ _ ?_)
  refine wpAny_newFunctionEnv_cells hk (kindsX hkind _) fun env' he s' x => ?_
  subst he
  refine ⟨((C.T.nolimit.keeps C.F.keep)).keeps x.toInCall.keep, codeAny_func ?_⟩
  obtain ⟨h₁, tk, rfl, _⟩ := x.done
  have hk₁ := x.toInCall.keep
  obtain ⟨cells, NC, Y⟩ := Cl.news (h₀ := s.heap) (Nat.le_refl _) fun n c hm => ⟨x.cell n c (lookup_of_mem_nodup (cellsFrom_names scope.names 0 (s.heap.objs.size + 1) [] [] rfl ▸ hnd) hm), x.above n c hm⟩
  refine wpAny_mono (h p loose mean mg mb (dp + 1) (un + 3) gd (envX cn cs L a ccd cl :: outer) _ base g s.heap.objs.size s.gens s.drawn s.os h₁ tk cells
    (by have := C.dp; omega) (by have := C.un; omega) (fun p hp => Heap.lt_size (N p hp).1) (hst _ _ hP keep fun p hp => (N p hp).1) BG (C.X.keeps st) (C.T.keeps st)
    (fun p hp => ?_) Y ⟨x.toInCall.ns, fun b o e => hk₁ b o (old b o e), Nat.le_of_eq hsz⟩ _ fun _ _ e => e) (fun fl s' he => ?_) fun _ _ e => e.elim
  · rcases List.mem_append.mp hp with hp | hp
    · refine ⟨(NC p hp).1, (NC p hp).2.1, ?_⟩
      cases q : g.get? p.1 with
      | none => rfl
      | some o => have := old _ _ q; rw [(NC p hp).2.2] at this; cases this
    · exact ⟨hk₁ _ _ (N p hp).1, Nat.ne_of_lt (Heap.lt_size (N p hp).1), hno _ hp⟩
  obtain ⟨L'', m', mine', h', tk', rfl, F', N', hS⟩ := he
  obtain ⟨oL, es, ep, hL, hLd, hLk, hLf⟩ := FG.ns
  refine hQ _ mine' h' tk' ⟨⟨oL, es, ep, F'.keep L oL hL, hLd, hLk, hLf⟩, fun b o e => F'.keep b o (st b o e), C.F.above⟩ (fun q hq => ⟨(N' q hq).1, fun e => ?_, ?_⟩)
    (fun b o e n => F'.keep b o (keep b o e n)) (fun q hq => ?_) hS
  · have := (N' q hq).2.2; rw [e, hL] at this; cases this
  · cases e : h₀.get? q.1 with
    | none => rfl
    | some o => have := (N' q hq).2.2; rw [st _ _ e] at this; cases this
  · by_cases hm : q.1 ∈ mine.map (·.1)
    · exact .inl hm
    · cases e : s.heap.get? q.1 with
      | none => exact .inr rfl
      | some o => have := (N' q hq).2.2; rw [keep _ _ e hm] at this; cases this
end

theorem off_S07 : True := by
  w_top off
  trivial
theorem by_slot_join : Slot "bytes" "join" "bytes.join" :=
  .of (owner := "bytes") (n := "join") (by rw [typeLookup_type, builtinLookup_eq_fast]; kernel_rfl) (by decide +kernel) (by decide +kernel) (by decide +kernel)
    (by first | exact .inl (by decide +kernel) | exact .inr (by decide +kernel)) (by rw [isSubtype_type]; kernel_rfl)
theorem by_entry_join : entryFor table "bytes.join" = some Builtin.«bytes.join» := by first | exact entryFor_of_tree (by kernel_rfl) | exact entryFor_of_fast (by kernel_rfl)
theorem by_type_join : typeOf (.builtin "bytes.join") = pure (.type "method_descriptor") := by show builtinType _ = _; rw [builtinType_eq_fast]; kernel_rfl
theorem by_args_join (a b : Value) : argsOk "bytes.join" ⟨[a, b], []⟩ := by
  unfold argsOk; rw [signature?_of (id := "bytes.join") (n := ['n', 'i', 'o', 'j']) (o := ['s', 'e', 't', 'y', 'b']) (by kernel_rfl) FB.owner_bytes]; kernel_rfl

open Builtin in
theorem by_take {id : String} {b : Array UInt8} {t : Tok} : Bytes.takeBufferQuiet? id (.bytes b t) 0 = pure (some (b, none)) := by
  unfold Bytes.takeBufferQuiet? Bytes.takeBuffer?
  have e : (0 == Bytes.fullReadOnly) = false := by decide
  rw [KBy.special_eq KBy.look_buffer, KBy.own_buffer, e, KBy.buffer_eq]
  kernel_rfl

/-- octets put one behind the other -/
def cat (bs : List (Array UInt8)) : Array UInt8 := bs.foldl (· ++ ·) #[]
theorem by_joined (bs : List (Array UInt8)) : Builtin.Bytes.joined #[] bs = cat bs := by
  unfold Builtin.Bytes.joined cat
  have : ∀ (l : List (Array UInt8)) (n : Nat) (acc : Array UInt8), (l.zipIdx n).foldl (fun out (p, i) => (if i > 0 then out ++ #[] else out) ++ p) acc = l.foldl (· ++ ·) acc := by
    intro l
    induction l with
    | nil => intro n acc; rfl
    | cons x r ih =>
      intro n acc
      rw [List.zipIdx_cons, List.foldl_cons, List.foldl_cons, ih]
      congr 1
      simp
  exact this bs 0 #[]
abbrev bv (p : Array UInt8 × Tok) : Value := .bytes p.1 p.2

theorem by_m1 (p q : Value) (r : List Value) (h1 : Value → Sem PySem.Fin) (h2 : Array Value → Sem PySem.Fin) : Builtin.Bytes.joinM.match_1 (fun _ => Sem PySem.Fin) (p :: q :: r).toArray h1 h2 = h2 (p :: q :: r).toArray := by
  delta Builtin.Bytes.joinM.match_1
  exact rfl
section
variable {prog : Program} {w : World} {A : Around} {E : Value → Shared → Prop} {s : Shared}
open Builtin in
theorem by_letGo {bs : List (Array UInt8 × Tok)} {keep : List Value} : ∀ {s : Shared} {Q : Unit → Shared → Prop}, Q () s → wpAny (model prog w) A (Bytes.joinLetGo (bs.map fun p => (bv p, none)) keep) Q E s := by
  induction bs with
  | nil => intro s Q h; exact wpAny_pure h
  | cons p r ih =>
    intro s Q h
    rw [List.map_cons]
    unfold Bytes.joinLetGo
    exact wpAny_bind (wpAny_letGo (ih h))

open Builtin in
theorem by_join {l : Addr} {o : Obj} {n : Nat} {bs : List (Array UInt8 × Tok)} {t : Tok} {R : Result → Shared → Prop} (ho : s.heap.get? l = some o) (hc : o.cls = .type "list") (hd : o.data = .seq (bs.map bv).toArray n) (h1 : 2 ≤ bs.length)
    (hz : (bs.map fun p => p.1.size).sum ≤ 1000) (hR : ∀ t' k, R (.ok (.ret (.bytes (cat (bs.map (·.1))) t'))) { s with toks := k }) :
    wpAny (model prog w) A.in1 (Builtin.«bytes.join» ⟨[.bytes #[] t, .ref l], []⟩) (fun fin s' => match fin with | .done f => R (.ok f) s' | .again c' => c'.quiet = true ∧ codeAny (model prog w) A c' R s') (fun e s' => R (.error e) s') s := by
  show wpAny _ _ (Bytes.joinM .bytes ⟨[.bytes #[] t, .ref l], []⟩) _ _ s
  unfold Bytes.joinM
  refine wpAny_bind (wpAny_of_eq (a := (Value.bytes #[] t, Value.ref l)) rfl ?_)
  refine bm_if_true (by decide) ?_
  have hT : s.TypeIs (.ref l) "list" := ⟨o, ho, hc⟩
  refine wpAny_bind ?_
  unfold Bytes.joinItems
  refine wpAny_bind (wpAny_typeOf hT ?_)
  refine bm_if_true (by decide) (wpAny_pure ?_)
  obtain ⟨p, q, r, rfl⟩ : ∃ p q r, bs = p :: q :: r := by
    match bs, h1 with
    | p :: q :: r, _ => exact ⟨p, q, r, rfl⟩
  have hd' : o.data = .seq (bv p :: bv q :: r.map bv).toArray n := hd
  refine wpAny_bind (wpAny_seqItems ho hd' ?_)
  refine bm_if_true (by decide) ?_
  rw [by_m1]
  have hsz : (bv p :: bv q :: r.map bv).toArray.size = (p :: q :: r).length := by simp
  dsimp only
  rw [hsz]
  clear hd' hsz
  generalize p :: q :: r = bs at *
  refine wpAny_bind ?_
  rw [Std.Legacy.Range.forIn_eq_forIn_range']
  have hsz : ([:bs.length] : Std.Legacy.Range).size = bs.length := by simp [Std.Legacy.Range.size]
  show wpAny _ _ (forIn (List.range' 0 ([:bs.length] : Std.Legacy.Range).size 1) _ _) _ _ _
  rw [hsz]
  refine wpAny_forIn_list _ (fun (l : List Nat) (st : Array (Array UInt8) × List (Value × Option Value)) s' => s' = s ∧ ∃ i, i ≤ bs.length ∧ l = List.range' i (bs.length - i) 1 ∧ st = (((bs.take i).map (·.1)).toArray, (bs.take i).map fun p => (bv p, none))) _ ?_ ?_ _ _ ⟨rfl, 0, Nat.zero_le _, by simp, rfl⟩
  · rintro x rest st s' ⟨rfl, i, hi, hl, rfl⟩
    have hlt : i < bs.length := by
      rcases Nat.lt_or_ge i bs.length with h' | h'
      · exact h'
      · rw [show bs.length - i = 0 by omega] at hl; simp at hl
    obtain ⟨k, hk⟩ : ∃ k, bs.length - i = k + 1 := ⟨bs.length - i - 1, by omega⟩
    rw [hk, List.range'_succ] at hl
    obtain ⟨rfl, rfl⟩ := List.cons.inj hl
    have hx : ((bs.map bv).toArray).getD x Value.none = bv bs[x] := by simp [Array.getD, hlt]
    refine wpAny_bind (wpAny_seqItems ho hd ?_)
    dsimp only
    rw [hx]
    refine bm_if_false ?_ ?_
    · have : ∀ l : List (Array UInt8 × Tok), (l.map fun p => ((bv p, none) : Value × Option Value)).any (fun x => x.fst.onHeap) = false := by
        intro l
        induction l with
        | nil => rfl
        | cons a r ih => rw [List.map_cons, List.any_cons, ih]; rfl
      rw [this]
      decide
    refine wpAny_bind (wpAny_holding (wpAny_of_eq by_take ?_))
    dsimp only
    refine wpAny_bind (wpAny_seqItems ho hd ?_)
    refine bm_if_false (by simp) (wpAny_pure ?_)
    refine ⟨rfl, x + 1, hlt, by congr 1; omega, ?_⟩
    have e : bs.take (x + 1) = bs.take x ++ [bs[x]] := by rw [List.take_add_one, List.getElem?_eq_getElem hlt]; rfl
    rw [e, List.map_append, List.map_append]
    simp
  · rintro st s' ⟨rfl, i, hi, hl, rfl⟩
    have hin : i = bs.length := by
      have := congrArg List.length hl
      simp at this
      omega
    subst hin
    rw [List.take_length]
    have sum_eq : ∀ (l : List (Array UInt8 × Tok)) (a : Nat), (l.map (·.1)).toArray.foldl (fun x1 x2 => x1 + x2.size) a = a + (l.map fun p => p.1.size).sum := by
      intro l
      induction l with
      | nil => intro a; simp
      | cons p r ih => intro a; simp at ih ⊢; rw [ih]; omega
    have cat_size : ∀ (l : List (Array UInt8)) (a : Array UInt8), (l.foldl (· ++ ·) a).size = a.size + (l.map (·.size)).sum := by
      intro l
      induction l with
      | nil => intro a; simp
      | cons p r ih => intro a; simp only [List.foldl_cons, List.map_cons, List.sum_cons]; rw [ih, Array.size_append]; omega
    refine wpAny_bind (wpAny_of_eq (a := #[]) rfl ?_)
    dsimp only
    refine bm_if_false ?_ ?_
    · refine KBy.tooLong_not ?_
      rw [sum_eq]
      simp
      omega
    have hj : Bytes.joined #[] (bs.map (·.1)).toArray.toList = cat (bs.map (·.1)) := by_joined _
    rw [hj]
    refine wpAny_bind (wpAny_mkBytes ?_ ?_)
    · refine wpAny_bind (wpAny_holding (wpAny_point ?_))
      exact wpAny_bind (by_letGo (wpAny_pure (hR _ _)))
    · unfold cat
      rw [cat_size, List.map_map]
      have : (bs.map ((fun x => x.size) ∘ fun x => x.1)).sum = (bs.map fun p => p.1.size).sum := rfl
      rw [this, sizeLine_eq]
      simp
      omega
theorem call_join {l : Addr} {o : Obj} {n : Nat} {bs : List (Array UInt8 × Tok)} {t : Tok} {Q : Value → Shared → Prop} (ho : s.heap.get? l = some o) (hc : o.cls = .type "list") (hd : o.data = .seq (bs.map bv).toArray n) (h1 : 2 ≤ bs.length)
    (hz : (bs.map fun p => p.1.size).sum ≤ 1000) (hQ : ∀ t' k, Q (.bytes (cat (bs.map (·.1))) t') { s with toks := k }) :
    wpAny (model prog w) A (call (.builtin "bytes.join") [.bytes #[] t, .ref l]) Q E s :=
  call_meets by_slot_join (typeIs_bytes _ _ _) by_entry_join (by_args_join _ _) (S := fun A R s => ∃ o n, s.heap.get? l = some o ∧ o.cls = .type "list" ∧ o.data = .seq (bs.map bv).toArray n ∧ ∀ t' k, R (.ok (.ret (.bytes (cat (bs.map (·.1))) t'))) { s with toks := k })
    (fun prog w A R s ⟨o, n, a, b, c, d⟩ => by_join a b c h1 hz d) ⟨o, n, ho, hc, hd, hQ⟩
theorem method_join {M : Model} {b : Array UInt8} {t : Tok} {pl : Sem Bool} {Q : Value × List Value → Shared → Prop} (h : Q (.builtin "bytes.join", [.bytes b t]) s) : wpAny M A (getMethod (.bytes b t) "join" pl) Q E s := by
  with_reducible exact KBd.method_of (.bytes b t) (typeIs_bytes _ _ _) by_slot_join by_type_join KBd.noRef h
end
local macro_rules | `(tactic| walk_at "getMethod bytes") => `(tactic| (with_reducible refine method_join ?_))

theorem off_S08 : True := by
  w_top off
  trivial
/-- a mark: here the walk stands still -/
def Stop (P : Prop) : Prop := P
theorem stop_here {P : Prop} (h : Stop P) : P := h
local macro_rules | `(tactic| walk_at "call ref") => `(tactic| ((with_reducible show wpAny _ _ (call (Value.ref 177) _) _ _ _); (refine stop_here ?_)))
local macro_rules | `(tactic| walk_at "exec For Name Name cons nil") => `(tactic| (refine stop_here ?_))
local macro_rules | `(tactic| walk_at "exec For Name Call cons nil") => `(tactic| (refine stop_here ?_))
local macro_rules | `(tactic| walk_at "exec For Tuple Name cons nil") => `(tactic| (refine stop_here ?_))
local macro_rules | `(tactic| walk_at "exec For Tuple Call cons nil") => `(tactic| (refine stop_here ?_))
local macro_rules | `(tactic| walk_at "exec For Tuple Attribute cons nil") => `(tactic| (refine stop_here ?_))
local macro_rules | `(tactic| walk_at "CompSrc") => `(tactic| (refine stop_here ?_))

local macro_rules | `(tactic| walk_at "CompEnd") => `(tactic| (refine stop_here ?_))
section
variable {prog : Program} {w : World} {A : Around} {s : Shared} {h₀ : Heap} {L : Addr} {m : Str → Option Value} {env : Env}
open LCg
/-- a comprehension by an invariant over what it has made and the ledger -/
theorem comp_inv {elt : Expr} {x : Str} {scope : Scope} {cl : List (Str × Addr)} {S : List (Addr × Obj) → Prop} {P : Nat → Value → Prop} {Fin : List Value → List (Addr × Obj) → Prop} {n : Nat} {news : List (Addr × Obj)} (J : Nat → List Value → List (Addr × Obj) → Prop) (h0 : J 0 [] news)
    (step : ∀ i ys news v I oI C oC D m₂ h tk, i < n → J i ys news → P i v → NsObj oC m₂ → m₂ x = some v → Fr h₀ L h m → News h₀ L h ((I, oI) :: (C, oC) :: (D, lst ys) :: news) → Off3 I C D news → ((@Ne Nat I C) ∧ (@Ne Nat I D) ∧ (@Ne Nat C D)) →
      wpAny (model prog w) A (eval elt (compEnvC scope cl C env)) (CompEnd h₀ L m { s with heap := h, toks := tk } I oI C oC D (lst ys) S (fun y news' => J (i + 1) (ys ++ [y]) news')) (fun _ _ => False) { s with heap := h, toks := tk })
    (fin : ∀ ys news, J n ys news → Fin ys news) : CompRest prog w A h₀ L m env elt x scope cl s S P Fin n 0 [] news := by
  have key : ∀ k i ys news, i + k = n → J i ys news → CompRest prog w A h₀ L m env elt x scope cl s S P Fin k i ys news := by
    intro k
    induction k with
    | zero => intro i ys news hi hJ; exact .zero (fin _ _ (by rw [show n = i by omega]; exact hJ))
    | succ k ih =>
      intro i ys news hi hJ
      refine .succ fun v I oI C oC D m₂ h tk E' hP hC hx F N off ne => ?_
      refine wpAny_mono (step i ys news v I oI C oC D m₂ h tk (by omega) hJ hP hC hx F N off ne) (fun y s' hy => ?_) fun _ _ e => e.elim
      obtain ⟨h', tk', news', e, F', N', off', hS, hJ'⟩ := hy
      exact ⟨h', tk', news', e, F', N', off', hS, ih (i + 1) _ _ (by omega) hJ'⟩
  exact key n 0 [] news (by omega) h0
end
local macro_rules | `(tactic| walk_at "getMethod ref") => `(tactic| ((with_reducible show wpAny _ _ (getMethod (Value.ref _) (PySem.Str.ofString "get") _) _ _ _); k_dflt (refine' kdg_method (K := Int) (knd := intKind _ _) ?N ?m ?d ?_; (case N => k_asm); (case m => k_mem); (case d => assumption))))
local macro_rules | `(tactic| walk_at "call builtin:dict.get") => `(tactic| ((with_reducible show wpAny _ _ (call (Value.builtin "dict.get") [Value.ref _, Value.int _ _, _]) _ _ _); k_dflt (refine' kdg_get2 ?N ?m ?d ?lo (intKind_is _ _ _ _) _ rfl ?_; (case N => k_asm); (case m => k_mem); (case d => assumption); (case lo => assumption))))

def blk (kvs : List (Int × Value)) (i : Nat) : Array UInt8 := match valueAt kvs i with | some (.bytes b _) => b | _ => blank 4
def Octs (kvs : List (Int × Value)) : Prop := ∀ i v, valueAt kvs i = some v → Oct v
def pic (kvs : List (Int × Value)) (n : Nat) : Array UInt8 := cat ((List.range n).map (blk kvs))
theorem blk_size {kvs : List (Int × Value)} (hO : Octs kvs) (i : Nat) : (blk kvs i).size = 4 := by
  unfold blk
  split
  · rename_i b t e
    obtain ⟨b', t', e', hb⟩ := hO _ _ e
    cases e'
    exact hb
  · rfl
theorem sum4 (n : Nat) : ((List.range n).map fun _ => 4).sum = 4 * n := by
  induction n with
  | zero => rfl
  | succ n ih => rw [List.range_succ, List.map_append, List.sum_append, ih]; simp; omega
theorem blk_get {kvs : List (Int × Value)} (hO : Octs kvs) (i : Nat) (t : Tok) : ∃ t', (valueAt kvs (i : Int)).getD (.bytes (blank 4) t) = .bytes (blk kvs i) t' := by
  unfold blk
  cases e : valueAt kvs (i : Int) with
  | none => exact ⟨t, rfl⟩
  | some v =>
    obtain ⟨b, t', rfl, _⟩ := hO _ _ e
    exact ⟨t', rfl⟩

set_option maxHeartbeats 1000000 in
theorem image_call (w : World) (x dx kd ld ud : Addr) (od ok ol ou : Obj) (nb wr fl : Int) (lk : List (Int × Value)) 
    (hD : DiskD w.params od nb kd ld ud wr fl) (hl : IntDict w ol lk) (hA : DiskA x dx kd ld ud) (h0 : 2 ≤ nb) (h1 : nb < 100) (hO : Octs lk) :
    Call PySem.Challenge.rw_pf0215_01.row.prog w (hd.heap_1 w.params) (.ref 174) [.ref x] 10 140 (fun h => True) (diskL x dx kd ld ud od ok ol ou)
      (fun _ r mine' => (∃ t, r = .bytes (pic lk nb.toNat) t) ∧ mine' = diskL x dx kd ld ud od ok ol ou) := by
  k_fill
  refine call_ofC (by k_is) (by k_is) ?_ (fun _ => BindsTo.of_eq rfl) rfl (by decide +kernel) ?_
  · intros; trivial
  intro p loose mean mg mb dp un gd outer A₀ base g L' gns dr os h₁ tk₁ cells hdp hun hlt hP B X T N Y F Qf hQf
  k_cells Y
  obtain ⟨a1, a2, a3, a4, a5, a6, a7, a8⟩ := hA
  simp only [diskL, List.cons_append, List.nil_append] at N
  replace hlt := allLt_of hlt
  simp only [AllLt, and_true] at hlt
  (try dsimp only)
  (try k_fold)
  k_steps
  refine LCg.CompSrc.range (n := nb.toNat) (by rfl) (by k_asm) (by k_asm) (by assumption) (small_one (by omega) (by omega) (by omega) (by omega)) ?_ (by rw [sizeLine_eq]; omega) ?_
  · have e := rangeSize_nat 0 nb
    rwa [Int.sub_zero] at e
  intro g'
  rename News _ _ _ _ => N1
  obtain ⟨led, hled, N2⟩ : ∃ led, led = _ ∧ News _ _ _ led := ⟨_, rfl, N1⟩
  refine comp_inv (fun i ys news => Stop ((∃ bs, ys = bs.map bv ∧ bs.map (·.1) = (List.range i).map (blk lk)) ∧ news = led)) ⟨⟨[], rfl, rfl⟩, hled.symm⟩ ?_ ?_
  · rintro i ys news v I oI C oC D m₂ h tk hi ⟨⟨bs, rfl, hbs⟩, rfl⟩ ⟨tv, rfl⟩ hC hx F N off ne
    subst hled
    have key : ∀ v, (∃ t, v = (valueAt lk (0 + (i : Int))).getD (.bytes (blank 4) t)) → ∃ bs' : List (Array UInt8 × Tok), bs.map bv ++ [v] = bs'.map bv ∧ bs'.map (·.1) = (List.range (i + 1)).map (blk lk) := by
      rintro v ⟨t, rfl⟩
      obtain ⟨t', e⟩ := blk_get hO i t
      refine ⟨bs ++ [(blk lk i, t')], ?_, ?_⟩
      · rw [List.map_append, Int.zero_add, e]
        rfl
      · rw [List.map_append, hbs, List.range_succ, List.map_append]
        rfl
    k_steps
    exact LCg.CompEnd.intro (by assumption) (by assumption) _ (fun _ hp => hp) off trivial ⟨key _ ⟨_, rfl⟩, rfl⟩
  · rintro ys news ⟨⟨bs, rfl, hbs⟩, rfl⟩
    subst hled
    intro D h tk F N off
    k_steps
    have hlen : bs.length = nb.toNat := by
      have := congrArg List.length hbs
      simpa using this
    have hsum : (bs.map fun p => p.1.size).sum ≤ 1000 := by
      have e : (bs.map fun p => p.1.size) = (List.range nb.toNat).map fun _ => 4 := by
        have := congrArg (List.map Array.size) hbs
        rw [List.map_map, List.map_map] at this
        refine this.trans (List.map_congr_left fun i _ => blk_size hO i)
      rw [e, sum4]
      omega
    refine call_join (N _ (.head _)).1 rfl rfl (by omega) hsum fun t' k => ?_
    rw [hbs]
    refine Ends.out hQf F (news_sub (new := diskL x dx kd ld ud _ ok ol ou) N (by k_allIn)) ⟨⟨t', rfl⟩, rfl⟩

theorem off_S09 : True := by
  w_top off
  trivial
inductive TurnGo2 (h₀ : Heap) (L e it : Addr) (oe oi : Obj) (s : Shared) (J : (Str → Option Value) → List (Addr × Obj) → Prop) (s' : Shared) : Prop
  | mk (h' : Heap) (tk : Nat) (m' : Str → Option Value) (news' : List (Addr × Obj)) (q : s' = { s with heap := h', toks := tk }) (F : Fr h₀ L h' m') (N : News h₀ L h' ((e, oe) :: (it, oi) :: news')) (ne : ∀ p ∈ news', p.1 ≠ e ∧ p.1 ≠ it) (j : J m' news')
def TurnEnd2 (h₀ : Heap) (L : Addr) (e it : Addr) (oe oi : Obj) (s : Shared) (J : (Str → Option Value) → List (Addr × Obj) → Prop) (Q : Flow → Shared → Prop) (f : Flow) (s' : Shared) : Prop :=
  match f with
  | .ret v => Q (.ret v) s'
  | .brk => Q .next s'
  | _ => TurnGo2 h₀ L e it oe oi s J s'
theorem TurnEnd2.next {h₀ : Heap} {L e it : Addr} {oe oi : Obj} {s : Shared} {J : (Str → Option Value) → List (Addr × Obj) → Prop} {Q : Flow → Shared → Prop} {h' : Heap} {tk : Nat} {m' : Str → Option Value} {news' : List (Addr × Obj)}
    (F : Fr h₀ L h' m') (N : News h₀ L h' ((e, oe) :: (it, oi) :: news')) (hI : ∀ p ∈ news', p.1 ≠ e ∧ p.1 ≠ it) (hJ : J m' news') : TurnEnd2 h₀ L e it oe oi s J Q .next { s with heap := h', toks := tk } := ⟨_, _, _, _, rfl, F, N, hI, hJ⟩

theorem TurnEnd2.out {h₀ : Heap} {L e it : Addr} {oe oi : Obj} {s : Shared} {J : (Str → Option Value) → List (Addr × Obj) → Prop} {Q Qt : Flow → Shared → Prop} (hQt : ∀ f s', TurnEnd2 h₀ L e it oe oi s J Q f s' → Qt f s') {h' : Heap} {tk : Nat} {m' : Str → Option Value} {news' : List (Addr × Obj)}
    (F : Fr h₀ L h' m') (N : News h₀ L h' ((e, oe) :: (it, oi) :: news')) (hI : ∀ p ∈ news', p.1 ≠ e ∧ p.1 ≠ it) (hJ : J m' news') : Qt .next { s with heap := h', toks := tk } := hQt _ _ ⟨_, _, _, _, rfl, F, N, hI, hJ⟩
/-- a for over enumerate of a list, its invariant over the frame's names and the whole ledger -/
inductive LoopE (prog : Program) (w : World) (A : Around) (h₀ : Heap) (env : Env) (target : Expr) (body : List Stmt) (Q : Flow → Shared → Prop) (v : Value) (s : Shared) : Prop
  | mk (e it l : Addr) (vs : Array Value) (m : Str → Option Value) (news : List (Addr × Obj)) (J : Nat → (Str → Option Value) → List (Addr × Obj) → Prop) (f1 : v = .ref e) (f2 : IsEnum s.heap e it 0 .none) (f3 : s.heap.IsListIter it l 0) (f4 : it < e) (f5 : h₀.get? it = none) (f6 : h₀.get? e = none) (f7 : it ≠ env.locals) (f8 : e ≠ env.locals) (f9 : (∀ p ∈ news, p.1 < it)) (f10 : Fr h₀ env.locals s.heap m) (f11 : News h₀ env.locals s.heap news) (f12 : J 0 m news) (f13 : (∀ i m' news' h', J i m' news' → Fr h₀ env.locals h' m' → News h₀ env.locals h' news' → h'.IsList l vs)) (f14 : (∀ i x m₁ news₁ h tk T t oe oi, vs[i]? = some x → J i m₁ news₁ → (∀ p ∈ news₁, p.1 ≠ e ∧ p.1 ≠ it) → (∀ p ∈ news₁, p.1 < T) → e < T → it < T → Fr h₀ env.locals h m₁ → News h₀ env.locals h ((T, { cls := .type "tuple", data := .seq #[.int i t, x] }) :: (e, oe) :: (it, oi) :: news₁) → ∀ Qt : Flow → Shared → Prop, (∀ f s', TurnEnd2 h₀ env.locals e it oe oi s (J (i + 1)) Q f s' → Qt f s') → wpAny (model prog w) A (assign target env (.ref T)) (fun _ s₂ => wpAny (model prog w) A (execs body env) Qt (fun _ _ => False) s₂) (fun _ _ => False) { s with heap := h, toks := tk })) (f15 : (∀ m' news' h' tk, J vs.size m' news' → Fr h₀ env.locals h' m' → News h₀ env.locals h' news' → Q .next { s with heap := h', toks := tk }))

inductive InvE (h₀ : Heap) (L : Addr) (s₁ : Shared) (e it l : Addr) (n : Nat) (J : Nat → (Str → Option Value) → List (Addr × Obj) → Prop) (k : Nat) (s' : Shared) : Prop
  | mk (i : Nat) (h' : Heap) (tk : Nat) (m' : Str → Option Value) (news' : List (Addr × Obj)) (old : Value) (f1 : n - i = k) (f2 : s' = { s₁ with heap := h', toks := tk }) (f3 : IsEnum h' e it (i : Int) old) (f4 : h'.IsListIter it l i) (f5 : Fr h₀ L h' m') (f6 : News h₀ L h' news') (f7 : (∀ p ∈ news', p.1 ≠ e ∧ p.1 ≠ it)) (f8 : J i m' news') (f9 : i ≤ n)
section
variable {prog : Program} {w : World} {A : Around} {env : Env} {h₀ : Heap} {elts : List Expr} {kt : Nat} {pt : Pos} {iter : Expr} {body : List Stmt} {pos : Pos} {Q : Flow → Shared → Prop} {E : Value → Shared → Prop}

theorem For_E (hh : A.handled = none) {s : Shared} (h : wpAny (model prog w) A (eval iter env) (LoopE prog w A h₀ env (.Tuple elts kt pt) body Q) E s)
    (hs : ∀ x, foldedSetIterable iter env x = pure x := by intro _; rfl) :
    wpAny (model prog w) A (exec (.For (.Tuple elts kt pt) iter body [] pos) env) Q E s := by
  refine wpAny_For (wpAny_mono h (fun v s₁ h₁ => ?_) fun _ _ e => e) hs
  obtain ⟨e, it, l, vs, m, news, J, rfl, he0, hi0, lt, n1, n2, n3, n4, hlt, F, N, h0, hl, turn, done⟩ := h₁
  refine wpAny_pyIter_enum he0 ?_
  have hei : e ≠ it := Nat.ne_of_gt lt
  have ne0 : ∀ p ∈ news, p.1 ≠ e ∧ p.1 ≠ it := fun p hp => ⟨Nat.ne_of_lt (Nat.lt_trans (hlt p hp) lt), Nat.ne_of_lt (hlt p hp)⟩
  refine codeAny_loop' rfl (InvE h₀ env.locals s₁ e it l vs.size J) ?_ (vs.size - 0)
    ⟨0, _, _, m, news, _, rfl, rfl, he0, hi0, F, N, ne0, h0, Nat.zero_le _⟩
  rintro k s' ⟨i, h', tk, m', news', old, rfl, rfl, he, hit, F', N', hne, hJ, hi⟩
  show wpAny _ _ ((forTurn (.Tuple elts kt pt) (.ref e) body [] env).onRaise (fun x => do noteFrame x env; theTreesLotGoes x)) _ _ _
  refine wpAny_noted ?_
  simp only [forTurn]
  have hl' := hl _ _ _ _ hJ F' N'
  refine wpAny_bind (wpAny_standAt (wpAny_bind (wpAny_onRaise ?_)))
  have ndiff : ∀ (h₂ : Heap), (∀ b o, b ≠ e → b ≠ it → h'.get? b = some o → h₂.get? b = some o) → Fr h₀ env.locals h₂ m' ∧ News h₀ env.locals h₂ news' := fun h₂ k₂ =>
    ⟨⟨F'.ns.at' fun o x => k₂ _ o (Ne.symm n4) (Ne.symm n3) x, fun b o x => k₂ b o (fun q => by rw [q, n2] at x; cases x) (fun q => by rw [q, n1] at x; cases x) (F'.keep b o x), F'.above⟩, fun p hp => ⟨k₂ _ _ (hne p hp).1 (hne p hp).2 (N' p hp).1, (N' p hp).2⟩⟩
  by_cases hlt : i < vs.size
  · refine wpAny_pyNext_enum_item he hit hl' (x := vs[i]) (by simp [hlt]) hei fun h₂ ho₂ hit₂ hT hsz k₂ => ?_
    dsimp only
    refine wpAny_bind (wpAny_letOwnedTupleGo_enum ho₂ fun h₃ he₃ hs₃ => ?_)
    have k₃ : ∀ b o, b ≠ e → b ≠ it → h'.get? b = some o → h₃.get? b = some o := fun b o b1 b2 x => (hs₃.2 b b1).trans (k₂ b o b1 b2 x)
    obtain ⟨F₃, N₃⟩ := ndiff h₃ k₃
    obtain ⟨oe, hoe, hen⟩ : ∃ oe, h₃.get? e = some oe ∧ ∀ h : Heap, h.get? e = some oe → IsEnum h e it ((i : Int) + 1) vs[i] := ⟨_, he₃, fun _ q => q⟩
    have hit₃ : h₃.IsListIter it l (i + 1) := hit₂.at fun o y => (hs₃.2 it (Ne.symm hei)).trans y
    obtain ⟨oi, hoi, hci, hdi⟩ := id hit₃
    have lte : e < h'.objs.size := Heap.lt_size he
    have lti : it < h'.objs.size := by obtain ⟨_, x, _⟩ := hit; exact Heap.lt_size x
    have hT₃ : h₃.get? h'.objs.size = some _ := (hs₃.2 _ (Nat.ne_of_gt lte)).trans hT
    have nT : h₀.get? h'.objs.size = none := by
      cases q : h₀.get? h'.objs.size with
      | none => rfl
      | some o => exact absurd (Heap.lt_size (F'.keep _ _ q)) (Nat.lt_irrefl _)
    have nTL : h'.objs.size ≠ env.locals := fun q => by
      obtain ⟨oL, _, _, hL, _⟩ := F'.ns
      exact absurd (Heap.lt_size hL) (by rw [q]; exact Nat.lt_irrefl _)
    have N₄ : News h₀ env.locals h₃ ((h'.objs.size, { cls := .type "tuple", data := .seq #[.int i tk, vs[i]] }) :: (e, oe) :: (it, oi) :: news') := fun p hp => by
      rcases List.mem_cons.mp hp with rfl | hp
      · exact ⟨hT₃, nTL, nT⟩
      rcases List.mem_cons.mp hp with rfl | hp
      · exact ⟨hoe, n4, n2⟩
      rcases List.mem_cons.mp hp with rfl | hp
      · exact ⟨hoi, n3, n1⟩
      · exact N₃ p hp
    refine wpAny_bind (wpAny_mono (turn i vs[i] m' news' h₃ (tk + 1) h'.objs.size tk oe oi (by simp [hlt]) hJ hne (fun p hp => Heap.lt_size (N' p hp).1) lte lti F₃ N₄ _ fun _ _ e => e) (fun _ s₂ h₂' => wpAny_bind (wpAny_mono h₂' (fun f s₃ hf => ?_) fun _ _ e => e.elim)) fun _ _ e => e.elim)
    have fin : TurnGo2 h₀ env.locals e it oe oi s₁ (J (i + 1)) s₃ →
        ∃ m, m < vs.size - i ∧ InvE h₀ env.locals s₁ e it l vs.size J m s₃ := by
      rintro ⟨h3, tk3, m3, news3, e3, F3, N3, ne3, J3⟩
      exact ⟨vs.size - (i + 1), by omega, i + 1, h3, tk3, m3, news3, _, rfl, e3, by have := hen _ (N3 _ (.head _)).1; simpa using this, ⟨oi, (N3 _ (.tail _ (.head _))).1, hci, hdi⟩, F3, fun p hp => N3 p (.tail _ (.tail _ hp)), ne3, J3, hlt⟩
    cases f with
    | next => exact wpAny_pure (.inl ⟨rfl, fin hf⟩)
    | cont => exact wpAny_pure (.inl ⟨rfl, fin hf⟩)
    | brk => exact wpAny_pure hf
    | ret v => exact wpAny_pure hf
  · have hin : i = vs.size := by omega
    subst hin
    refine wpAny_pyNext_enum_end hh he hit hl' (by simp) fun h₂ hx => ?_
    refine wpAny_pure (.inr ⟨rfl, codeAny_block (wpAny_execs_nil ?_)⟩)
    obtain ⟨F₂, N₂⟩ := ndiff h₂ fun b o _ b2 x => hx b o b2 x
    exact done m' news' h₂ tk hJ F₂ N₂

theorem enum_K {s : Shared} {L l : Addr} {m : Str → Option Value} {news : List (Addr × Obj)} {vs : Array Value} {n : Nat} {Q : Value → Shared → Prop} (F : Fr h₀ L s.heap m) (N : News h₀ L s.heap news) (hm : (l, W.listOf vs n) ∈ news)
    (h : ∀ e it h', Fr h₀ L h' m → News h₀ L h' news → IsEnum h' e it 0 .none → h'.IsListIter it l 0 → it < e → h₀.get? it = none → h₀.get? e = none → it ≠ L → e ≠ L → (∀ p ∈ news, p.1 < it) → Q (.ref e) { s with heap := h' }) :
    wpAny (model prog w) A (call (.type "enumerate") [.ref l]) Q E s := by
  refine call_enumerate_list (News.isList N hm) fun h' he hi hsz hk => ?_
  have fresh : ∀ a, s.heap.objs.size ≤ a → h₀.get? a = none := fun a ha => by
    cases q : h₀.get? a with
    | none => rfl
    | some o => exact absurd (Heap.lt_size (F.keep _ _ q)) (Nat.not_lt.mpr ha)
  have hL : L < s.heap.objs.size := F.ns.lt
  exact h _ _ h' (F.keeps hk) (N.grown hk) he hi (Nat.lt_succ_self _) (fresh _ (Nat.le_refl _)) (fresh _ (Nat.le_succ _)) (Nat.ne_of_gt hL) (Nat.ne_of_gt (Nat.lt_succ_of_lt hL)) fun p hp => Heap.lt_size (N p hp).1
end
local macro_rules | `(tactic| walk_at "call type:enumerate") => `(tactic| ((with_reducible show wpAny _ _ (call (Value.type "enumerate") [Value.ref _]) _ _ _); k_dflt (refine' enum_K ?F ?N ?m ?_; (case F => k_asm); (case N => k_asm); (case m => k_mem)); intro e' it' h' F' N' hE' hI' lt' n1' n2' n3' n4' l1; (have ltc := ltN lt'); (have l1c := l1); (try k_lt l1c)))
theorem dict_K {prog : Program} {w : World} {A : Around} {E : Value → Shared → Prop} {s : Shared} {h₀ : Heap} {L src : Addr} {m : Str → Option Value} {news : List (Addr × Obj)} {o : Obj} {kvs : List (Int × Value)} {Q : Value → Shared → Prop}
    (F : Fr h₀ L s.heap m) (N : News h₀ L s.heap news) (hbig : h₀.NoLimit) (hm : (src, o) ∈ news) (hd : o.IsDictOf (intKind prog w) kvs) (lo : (src == sysModules) = false) (hsz : kvs.length ≤ sizeLine)
    (k : ∀ d h' o', Fr h₀ L h' m → News h₀ L h' ((d, o') :: news) → (∀ p ∈ news, p.1 < d) → (d == sysModules) = false → o'.IsDictOf (intKind prog w) kvs → Q (.ref d) { s with heap := h' }) :
    wpAny (model prog w) A (call (.type "dict") [.ref src]) Q E s := by
  refine kt_call_dict lo (Heap.dictOf_iff.mpr ⟨o, (N _ hm).1, hd⟩) hsz fun h' hmm hs => ?_
  obtain ⟨o', ho', hd'⟩ := Heap.dictOf_iff.mp hmm
  have N1 := News.push F N { cls := .type "dict", data := .dict #[] }
  exact k _ h' o' ((F.push _).change hs (N1 _ (.head _)).2.1 (N1.fresh (.head _))) (N1.setHead N.apart hs ho') (fun p hp => Heap.lt_size (N p hp).1) (F.notModules (modules_low hbig)) hd'
local macro_rules | `(tactic| walk_at "call type:dict") => `(tactic| ((with_reducible show wpAny _ _ (call (Value.type "dict") [Value.ref _]) _ _ _); k_dflt (refine' dict_K ?F ?N (Top.nolimit (by k_asm)) ?m ?d ?lo ?z ?_; (case F => k_asm); (case N => k_asm); (case m => k_mem); (case d => assumption); (case lo => assumption); (case z => (rw [sizeLine_eq]; omega))); intro d' h' o' F' N' l1 lo' hd'; (try k_lt l1)))
theorem len_K {prog : Program} {w : World} {A : Around} {E : Value → Shared → Prop} {s : Shared} {h₀ : Heap} {L l : Addr} {news : List (Addr × Obj)} {vs : List Value} {n : Nat} {Q : Value → Shared → Prop}
    (N : News h₀ L s.heap news) (hm : (l, W.listOf vs.toArray n) ∈ news) (hz : vs.length ≤ 1000000) (h : Q (.int (vs.length : Int) (s.toks + 1)) { s with toks := s.toks + 1 + 1 }) :
    wpAny (model prog w) A (call (.builtin "len") [.ref l]) Q E s :=
  call_len_list (News.isList N hm) (by simp; omega) (by simpa using h)
local macro_rules | `(tactic| walk_at "call builtin:len") => `(tactic| ((with_reducible show wpAny _ _ (call (Value.builtin "len") [Value.ref _]) _ _ _); k_dflt (refine' len_K ?N ?m ?z ?_; (case N => k_asm); (case m => k_mem); (case z => omega))))
theorem setI_K {prog : Program} {w : World} {A : Around} {E : Value → Shared → Prop} {s : Shared} {h₀ : Heap} {L D : Addr} {m : Str → Option Value} {news : List (Addr × Obj)} {g : Obj → List (Addr × Obj)} {vs : List Value} {n : Nat} {k : Int} {t : Tok} {v : Value} {Q : Unit → Shared → Prop}
    (F : Fr h₀ L s.heap m) (N : News h₀ L s.heap news) (U : UpdF D (W.listOf vs.toArray n) news g) (h0 : 0 ≤ k) (h1 : k < vs.length) (hz : vs.length ≤ 1000000)
    (h : ∀ h', Fr h₀ L h' m → News h₀ L h' (g (W.listOf (vs.set k.toNat v).toArray n)) → Q () { s with heap := h' }) : wpAny (model prog w) A (setItem (.ref D) (.int k t) v) Q E s := by
  obtain ⟨pre, post, rfl, hg, a, b⟩ := U.split
  have z := N (D, W.listOf vs.toArray n) (List.mem_append.mpr (.inr (.head _)))
  refine ki_setAt z.1 h0 (by omega) (by simpa using h1) (h _ (F.change (Heap.SameBut.update ..) z.2.1 z.2.2) (hg _ ▸ ki_turn _ N a b ?_ ?_))
  · show vs.toArray.setIfInBounds k.toNat v = (vs.set k.toNat v).toArray
    apply Array.toList_inj.mp
    simp
  · simp
theorem clear_K {prog : Program} {w : World} {A : Around} {E : Value → Shared → Prop} {s : Shared} {h₀ : Heap} {L D : Addr} {m : Str → Option Value} {news : List (Addr × Obj)} {g : Obj → List (Addr × Obj)} {vs : List Value} {n : Nat} {Q : Value → Shared → Prop}
    (F : Fr h₀ L s.heap m) (N : News h₀ L s.heap news) (U : UpdF D (W.listOf vs.toArray n) news g) (hz : vs.length ≤ 1000000)
    (h : ∀ h' n', Fr h₀ L h' m → News h₀ L h' (g (W.listOf #[] n')) → Q .none { s with heap := h' }) : wpAny (model prog w) A (call (.builtin "list.clear") [.ref D]) Q E s := by
  obtain ⟨pre, post, rfl, hg, a, b⟩ := U.split
  have z := N (D, W.listOf vs.toArray n) (List.mem_append.mpr (.inr (.head _)))
  exact call_meets PySem.F.slot_list_clear ⟨_, z.1, rfl⟩ PySem.F.entry_list_clear (PySem.F.args_list_clear_1 _) (PySem.AutoSeq1.list_clear_list_0 D vs.toArray n (by rw [sizeLine_eq]; simp; omega)) ⟨z.1, h _ _ (F.change (Heap.SameBut.update ..) z.2.1 z.2.2) (hg _ ▸ ki_turn (fun _ => #[]) N a b rfl rfl)⟩
local macro_rules | `(tactic| walk_at "call builtin:list.clear") => `(tactic| ((with_reducible show wpAny _ _ (call (Value.builtin _) [Value.ref _]) _ _ _); k_dflt (refine' clear_K ?F ?N ?U ?z ?_; (case F => k_asm); (case N => k_asm); (case U => k_updF); (case z => omega)); intro h' n' F' N'; (try k_sweep)))
local macro_rules | `(tactic| walk_at "setItem ref int") => `(tactic| ((with_reducible show wpAny _ _ (setItem (Value.ref _) (Value.int _ _) _) _ _ _); k_dflt (refine' setI_K ?F ?N ?U ?z0 ?z1 ?z ?_; (case F => k_asm); (case N => k_asm); (case U => k_updF); (case z0 => omega); (case z1 => omega); (case z => omega)); intro h' F' N'; (try k_sweep)))

theorem off_S10 : True := by
  w_top off
  trivial
/-- those of the writes whose places are chosen -/
def pick (ns : List Int) (ps : List (Int × Value)) : List (Int × Value) := (ps.zipIdx.filter fun p => ns.any fun x => x == (p.2 : Int)).map (·.1)
theorem pick_take {ns : List Int} {ps : List (Int × Value)} {i : Nat} {p : Int × Value} (h : ps[i]? = some p) : pick ns (ps.take (i + 1)) = if (ns.any fun x => x == (i : Int)) = true then pick ns (ps.take i) ++ [p] else pick ns (ps.take i) := by
  obtain ⟨hlt, e⟩ := List.getElem?_eq_some_iff.mp h
  have q : ps.take (i + 1) = ps.take i ++ [p] := by rw [List.take_add_one, h]; rfl
  unfold pick
  rw [q, List.zipIdx_append, List.filter_append, List.map_append]
  have hl : (ps.take i).length = i := by rw [List.length_take]; omega
  rw [hl]
  have e2 : ([p].zipIdx (0 + i)) = [(p, i)] := by simp
  rw [e2, List.filter_cons, List.filter_nil]
  dsimp only
  cases c : (ns.any fun x => x == (i : Int)) with
  | true => simp
  | false => simp
theorem puts_snoc (kvs l : List (Int × Value)) (n : Int) (v : Value) : puts kvs (l ++ [(n, v)]) = stored (puts kvs l) n v := by
  unfold puts
  rw [List.foldl_append]
  rfl
theorem news_tl {h₀ h : Heap} {L : Addr} {p : Addr × Obj} {l : List (Addr × Obj)} (N : News h₀ L h (p :: l)) : News h₀ L h l := fun q hq => N q (.tail _ hq)
theorem pick_length (ns : List Int) (ps : List (Int × Value)) : (pick ns ps).length ≤ ps.length := by
  unfold pick
  rw [List.length_map]
  have := List.length_filter_le (fun p : (Int × Value) × Nat => ns.any fun x => x == (p.2 : Int)) ps.zipIdx
  simpa using this

inductive AfterPost (w : World) (x dx kd ld ud : Addr) (ok ol : Obj) (us : List Value) (ns : List Int) (nu : Nat) (nb wr fl : Int) (kk ps : List (Int × Value)) (r : Value) (mine' : List (Addr × Obj)) : Prop
  | mk (x2 dx2 kd2 ld2 ud2 : Addr) (od' od2 ok2 ol2 : Obj) (f1 : r = .ref x2) (f2 : DiskD w.params od' nb kd ld ud wr fl) (f3 : DiskD w.params od2 nb kd2 ld2 ud2 0 0) (f4 : IntDict w ok2 (puts kk (pick ns ps))) (f5 : IntDict w ol2 (puts kk (pick ns ps))) (f6 : DiskA x2 dx2 kd2 ld2 ud2) (f7 : (∀ a ∈ [x2, dx2, kd2, ld2, ud2], ∀ b ∈ [x, dx, kd, ld, ud], @LT.lt Nat _ b a)) (f8 : mine' = diskL x2 dx2 kd2 ld2 ud2 od2 ok2 ol2 (W.listOf #[] 0) ++ diskL x dx kd ld ud od' ok ol (W.listOf us.toArray nu))
set_option maxHeartbeats 1000000 in
theorem after_call (w : World) (x dx kd ld ud ch : Addr) (od ok ol : Obj) (us cs : List Value) (ns : List Int) (nu : Nat) (nb wr fl : Int) (kk : List (Int × Value)) (ps : List (Int × Value))
    {lk : List (Int × Value)} (hD : DiskD w.params od nb kd ld ud wr fl) (hk : IntDict w ok kk) (hl : IntDict w ol lk) (hA : DiskA x dx kd ld ud) (h0 : 0 < nb) (h1 : nb < 100) (hz : kk.length ≤ 1000) (hu : ps.length ≤ 1000) (hO : ∀ p ∈ ps, Oct p.2)
    (hch : ch ∉ [x, dx, kd, ld, ud]) (hns : IntsAre cs ns) (hin : ∀ n ∈ ns, 0 ≤ n ∧ n < (ps.length : Int)) :
    Call PySem.Challenge.rw_pf0215_01.row.prog w (hd.heap_1 w.params) (.ref 162) [.ref x, .ref ch] 20 200 (fun h => Tups h us ps ∧ h.IsList ch cs.toArray) (diskL x dx kd ld ud od ok ol (W.listOf us.toArray nu))
      (fun _ r mine' => AfterPost w x dx kd ld ud ok ol us ns nu nb wr fl kk ps r mine') := by
  k_fill
  refine call_of (by k_is) (by k_is) ?_ (fun _ => BindsTo.of_eq rfl) (locs rfl) ?_
  · exact fun h g ht hk' hm => ⟨ht.1.hide (diskL_noTup hD hk hl rfl) hk' hm, isList_rest ht.2 hk' hch⟩
  rintro p loose mean mg mb dp un gd outer A₀ base g L' gns dr os h₁ tk₁ hdp hun hlt ⟨hP, hC⟩ B X T N F Qf hQf
  have hlen := hP.length
  obtain ⟨i31, i32, i33, i34⟩ := hA.inner
  obtain ⟨a1, a2, a3, a4, a5, a6, a7, a8⟩ := hA
  dsimp only [diskL] at N
  replace hlt := allLt_of hlt
  simp only [AllLt, and_true] at hlt
  (try dsimp only)
  (try k_fold)
  k_steps
  rename Fr _ _ _ _ => F1
  refine (cls_call w nb _ _ [x, dx, kd, ld, ud] h0 h1).use B F1 X T N rfl (by omega) (by omega) (fun _ h => nomatch h) (fun b hb => ?_) ?_
  · simp only [List.mem_cons, List.not_mem_nil, or_false] at hb
    rcases hb with rfl | rfl | rfl | rfl | rfl
    · exact ⟨_, (N _ (.head _)).1⟩
    · exact ⟨_, (N _ (.tail _ (.head _))).1⟩
    · exact ⟨_, (N _ (.tail _ (.tail _ (.head _)))).1⟩
    · exact ⟨_, (N _ (.tail _ (.tail _ (.tail _ (.head _))))).1⟩
    · exact ⟨_, (N _ (.tail _ (.tail _ (.tail _ (.tail _ (.head _)))))).1⟩
  rintro r mine' h' tk' F2 hN hfr hR ⟨x2, dx2, k2, ld2, ud2, od2, ok2, ol2, rfl, hold, hD2, hk2, hl2, hA2, rfl⟩
  have N2 := news_call [(x, instObj 177 dx), (dx, od), (kd, ok), (ld, ol), (ud, W.listOf us.toArray nu)] hN (fun q hq => hq) (by simp only [OffAll, NeAll, List.map_nil, and_true])
  clear hN hfr hR F1 N
  obtain ⟨o51, o52, o53, o54, o55⟩ := hA2.over (hold x (.head _))
  obtain ⟨o61, o62, o63, o64, o65⟩ := hA2.over (hold dx (.tail _ (.head _)))
  obtain ⟨o71, o72, o73, o74, o75⟩ := hA2.over (hold kd (.tail _ (.tail _ (.head _))))
  obtain ⟨o81, o82, o83, o84, o85⟩ := hA2.over (hold ld (.tail _ (.tail _ (.tail _ (.head _)))))
  obtain ⟨o91, o92, o93, o94, o95⟩ := hA2.over (hold ud (.tail _ (.tail _ (.tail _ (.tail _ (.head _))))))
  obtain ⟨i41, i42, i43, i44⟩ := hA2.inner
  obtain ⟨c1, c2, c3, c4, c5, c6, c7, c8⟩ := id hA2
  simp only [diskL, List.cons_append, List.nil_append] at N2
  dsimp only
  k_steps
  rename_i k3 h3 o3 lo3 hk3 l3 h4 od3 hD3 F3 N3
  have l3c := l3
  repeat (have k_1 := And.left l3; replace l3 := And.right l3)
  replace N3 := news_sub (new := [(k3, o3), (ud2, W.listOf #[] 0), (x2, instObj 177 dx2), (dx2, od3), (x, instObj 177 dx), (dx, od), (kd, ok), (ld, ol), (ud, W.listOf us.toArray nu)]) N3 (by k_allIn)
  clear hD2 hk2 hl2 hA2 c3 c5 c6 c7 c8 hold
  refine For_L (h₀ := g) rfl ?_
  k_steps
  refine ⟨ch, cs.toArray, _, _, fun i m news => m "self" = some (.ref x) ∧ m "chosen" = some (.ref ch) ∧ m "found" = some (.ref x2) ∧ news = [(k3, o3), (ud2, W.listOf #[] 0), (x2, instObj 177 dx2), (dx2, od3), (x, instObj 177 dx), (dx, od), (kd, ok), (ld, ol), (ud, W.listOf us.toArray nu)], rfl, F3, N3, ⟨rfl, rfl, rfl, rfl⟩, ?_, ?_, ?_⟩
  · rintro i m' news' h' ⟨_, _, _, rfl⟩ F N
    exact hC.at fun o e => F.keep _ o e
  · rintro i v m₁ news₁ h tk I o hv ⟨hm, hm', hm'', rfl⟩ hI hne F N Qt hQt
    obtain ⟨n, tn, rfl, hn⟩ := IntsAre.at hns i v (by simpa using hv)
    obtain ⟨hn0, hn1⟩ := hin n (List.mem_of_getElem? hn)
    have F := fr_at3 F hm hm' hm''
    k_steps
    exact TurnEnd.out hQt (by assumption) (by assumption) hne ⟨rfl, rfl, rfl, rfl⟩
  rintro m' news' h' tk ⟨hm, hm', hm'', rfl⟩ F N
  have F4 := fr_at3 F hm hm' hm''
  clear F3 N3
  k_steps
  refine For_E (h₀ := g) rfl ?_
  k_steps
  rename IsEnum _ _ _ _ _ => hE
  rename Heap.IsListIter _ _ _ _ => hLI
  refine ⟨_, _, ud, us.toArray, _, _, fun i m news => m "self" = some (.ref x) ∧ m "chosen" = some (.ref ch) ∧ m "found" = some (.ref x2) ∧ ∃ o3', IntDict w o3' (puts kk (pick ns (ps.take i))) ∧ news = [(k3, o3'), (ud2, W.listOf #[] 0), (x2, instObj 177 dx2), (dx2, od3), (x, instObj 177 dx), (dx, od), (kd, ok), (ld, ol), (ud, W.listOf us.toArray nu)], rfl, hE, hLI, by assumption, by assumption, by assumption, by assumption, by assumption, by assumption, by assumption, by assumption, ⟨rfl, rfl, rfl, o3, hk3, rfl⟩, ?_, ?_, ?_⟩
  · rintro i m' news' h' ⟨_, _, _, _, _, rfl⟩ F N
    exact News.isList N (by k_mem)
  · rintro i v m₁ news₁ h tk T t oe oi hv ⟨hm, hm', hm'', o3', hk3', rfl⟩ hne hlt' h8 h9 F N Qt hQt
    obtain ⟨a, n, tn, v', rfl, ha, hu'⟩ := hP.get (by simpa using hv)
    obtain ⟨b, tb, rfl, hb⟩ := hO (n, v') (List.mem_of_getElem? hu')
    have F := fr_at3 F hm hm' hm''
    refine unpackN_ F N (News.isTup N (by k_mem)) rfl rfl rfl fun h' F' N' => ?_
    k_steps
    rename Fr _ _ _ _ => F5
    rename News _ _ _ _ => N5
    replace h8 := ltN h8
    replace h9 := ltN h9
    dsimp only
    refine unpackN_ F5 N5 ⟨_, F5.keep _ _ ha, rfl, _, rfl⟩ rfl rfl rfl fun h' F' N' => ?_
    have hz' := puts_length (pick ns (ps.take i)) kk
    have hz2 := pick_length ns (ps.take i)
    rw [List.length_take] at hz2
    replace hz2 := Nat.le_trans hz2 (Nat.min_le_right _ _)
    have hT1 := allLt_of hlt'
    have hn1 := allNe_of (fun p hp => (hne p hp).1)
    have hn2 := allNe_of (fun p hp => (hne p hp).2)
    simp only [AllLt, AllNe, and_true] at hT1 hn1 hn2
    repeat (have k_1 := And.left hT1; replace hT1 := And.right hT1)
    repeat (have k_1 := And.left hn1; replace hn1 := And.right hn1)
    repeat (have k_1 := And.left hn2; replace hn2 := And.right hn2)
    k_steps
    all_goals (
      refine TurnEnd2.out hQt (by assumption) (news_tl (by assumption)) ?_ ⟨rfl, rfl, rfl, _, ?_, rfl⟩
      · intro p hp
        have q : p.1 ∈ [k3, ud2, x2, dx2, x, dx, kd, ld, ud] := List.mem_map_of_mem (f := Prod.fst) hp
        obtain ⟨p', hp', e⟩ := List.mem_map.mp (show p.1 ∈ ([(k3, o3'), (ud2, W.listOf #[] 0), (x2, instObj 177 dx2), (dx2, od3), (x, instObj 177 dx), (dx, od), (kd, ok), (ld, ol), (ud, W.listOf us.toArray nu)] : List (Addr × Obj)).map Prod.fst from q)
        rw [← e]
        exact hne p' hp'
      · rw [pick_take hu']
        first
          | (rw [if_pos (by assumption), puts_snoc]; assumption)
          | (rw [if_neg (by rename (_ = false) => hf; rw [hf]; exact Bool.false_ne_true)]; assumption))
  rintro m' news' h' tk ⟨hm, hm', hm'', o3', hk3', rfl⟩ F N
  have F5 := fr_at3 F hm hm' hm''
  clear F4
  have hfin : ps.take us.toArray.size = ps := by rw [List.size_toArray, hlen, List.take_length]
  rw [hfin] at hk3'
  have hz' := puts_length (pick ns ps) kk
  have hz2 := pick_length ns ps
  k_steps
  dsimp only
  rename Fr _ _ _ _ => F9
  rename News _ _ _ _ => N9
  rename (_ < _) ∧ _ => l9
  refine' Ends.out hQf F9 (news_sub (new := diskL x2 dx2 k3 _ ud2 _ o3' _ (W.listOf #[] 0) ++ diskL x dx kd ld ud od ok ol (W.listOf us.toArray nu)) N9 ?sub) ⟨_, _, _, _, _, _, _, _, _, rfl, hD, by assumption, hk3', by assumption, ?a, ?b, rfl⟩
  case sub =>
    simp only [List.cons_append, List.nil_append]
    k_allIn
  case a => constructor <;> first | assumption | omega
  case b =>
    simp only [List.mem_cons, List.not_mem_nil, or_false, forall_eq_or_imp, forall_eq]
    repeat' apply And.intro
    all_goals omega

theorem off_S11 : True := by
  w_top off
  trivial
/-- the pen -/
abbrev penOf (i j : Int) (ti tj : Tok) (S : Addr) (n : Nat) : Obj := W.listOf #[.int i ti, .int j tj, .ref S] n

set_option maxHeartbeats 1000000 in
theorem drawn_call (w : World) (pen S : Addr) (vs : List Value) (ns : List Int) (i j k : Int) (ti tj tk : Tok) (n : Nat)
    (hi : IntsAre vs ns) (h0 : 0 ≤ i) (h1 : i < 1000) (h2 : 0 ≤ j) (h3 : j < 1000) (hk : 0 < k) (hk2 : k < 100) (hlen : ns.length ≤ 40) (hpS : S ≠ pen) :
    Call PySem.Challenge.rw_pf0215_01.row.prog w (hd.heap_1 w.params) (.ref 195) [.ref pen, .int k tk] 5 100 (fun h => h.IsList S vs.toArray) [(pen, penOf i j ti tj S n)]
      (fun _ r mine' => ∃ x t ti' tj' j' n', r = .int x t ∧ 0 ≤ x ∧ x < k ∧ j ≤ j' ∧ j' ≤ j + 1 ∧ mine' = [(pen, penOf (i + 1) j' ti' tj' S n')]) := by
  k_fill
  refine call_of (by k_is) (by k_is) ?_ (fun _ => BindsTo.of_eq rfl) (locs rfl) ?_
  · intro h g hl hk _
    exact isList_rest hl hk (by simpa using hpS)
  intro p loose mean mg mb dp un gd outer A₀ base g L' gns dr os h₁ tk₁ hdp hun hlt hP B X T N F Qf hQf
  (try dsimp only at hP)
  (try dsimp only)
  (try k_fold)
  k_steps
  all_goals (
    try dsimp only
    refine Ends.out hQf (by assumption) (by assumption) ⟨_, _, _, _, _, _, rfl, ?_, ?_, ?_, ?_, rfl⟩
    · rw [Int.fmod_eq_emod_of_nonneg _ (by omega)]; exact Int.emod_nonneg _ (by omega)
    · rw [Int.fmod_eq_emod_of_nonneg _ (by omega)]; exact Int.emod_lt_of_pos _ (by omega)
    · omega
    · omega)

theorem drawn_use {w : World} {p : Program} {loose : List Str} {mean : ExcName → Option Value} {mg mb : Str → Option Value} {dp un : Nat} {gd : Option (List Code)} {cn : Str} {cs : Scope} {a : Addr} {ccd : Value} {cl : List (Str × Addr)} {outer : List Env} {A₀ : Around} {base h₀ : Heap} {L : Addr} {m : Str → Option Value} {s : Shared} {Q E : Value → Shared → Prop} {news : List (Addr × Obj)} {g : Obj → List (Addr × Obj)}
    {pen S : Addr} {vs : List Value} {ns : List Int} {i j k : Int} {ti tj tk : Tok} {n : Nat}
    (B : Below A₀ base outer h₀) (F : Fr h₀ L s.heap m) (X : (hd.heap_1 w.params).In h₀) (T : Top p loose mean mg mb h₀) (N : News h₀ L s.heap news) (hkd : cs.kind = .function) (hd : dp + 5 < recursionLimit) (hu : un + 100 < cLine)
    (U : UpdF pen (penOf i j ti tj S n) news g) (hS : s.heap.IsList S vs.toArray) (hi : IntsAre vs ns) (hlen : ns.length ≤ 40) (h0 : 0 ≤ i) (h1 : i < 1000) (h2 : 0 ≤ j) (h3 : j < 1000) (hk : 0 < k) (hk2 : k < 100)  (hpS : S ≠ pen)
    (hQ : ∀ x t ti' tj' j' n' h' tk', 0 ≤ x → x < k → j ≤ j' → j' ≤ j + 1 → Fr h₀ L h' m → News h₀ L h' (g (penOf (i + 1) j' ti' tj' S n')) → Q (.int x t) { s with heap := h', toks := tk' }) :
    wpAny (model PySem.Challenge.rw_pf0215_01.row.prog w) (ktrTop dp un gd cn cs L a ccd cl outer) (call (.ref 195) [.ref pen, .int k tk]) Q E s := by
  obtain ⟨pre, post, rfl, hg, c1, c2⟩ := U.split
  refine (drawn_call w pen S vs ns i j k ti tj tk n hi h0 h1 h2 h3 hk hk2 hlen hpS).use B F X T N hkd hd hu (fun q hq => ?_) hS fun r mine' h' tk' F' hN _ _ hR => ?_
  · rw [List.mem_singleton.mp hq]
    exact List.mem_append_right _ (.head _)
  · obtain ⟨x, t, ti', tj', j', n', rfl, x0, x1, j0, j1, rfl⟩ := hR
    refine hQ x t ti' tj' j' n' h' tk' x0 x1 j0 j1 F' (hN _ fun q hq => ?_)
    rw [hg] at hq
    rcases List.mem_append.mp hq with hq | hq
    · exact .inr ⟨List.mem_append_left _ hq, by simpa using c1 q hq⟩
    · rcases List.mem_cons.mp hq with rfl | hq
      · exact .inl (.head _)
      · exact .inr ⟨List.mem_append_right _ (.tail _ hq), by simpa using c2 q hq⟩
local macro_rules | `(tactic| walk_at "call ref") => `(tactic| ((first | (with_reducible show wpAny _ _ (call (Value.ref 195) _) _ _ _) | (with_reducible show wpAny _ _ (call (Value.ref 141) _) _ _ _) | (with_reducible show wpAny _ _ (call (Value.ref 127) _) _ _ _) | (with_reducible show wpAny _ _ (call (Value.ref 162) _) _ _ _) | (with_reducible show wpAny _ _ (call (Value.ref 174) _) _ _ _) | (with_reducible show wpAny _ _ (call (Value.ref 188) _) _ _ _) | (with_reducible show wpAny _ _ (call (Value.ref 202) _) _ _ _) | (with_reducible show wpAny _ _ (call (Value.ref 207) _) _ _ _) | (with_reducible show wpAny _ _ (call (Value.ref 212) _) _ _ _) | (with_reducible show wpAny _ _ (call (Value.ref 219) _) _ _ _)); (refine stop_here ?_)))
local macro_rules | `(tactic| walk_at "call ref") => `(tactic| ((with_reducible show wpAny _ _ (call (Value.ref 195) _) _ _ _); k_dflt (refine' drawn_use ?B ?F ?X ?T ?N ?kd ?d ?u ?U ?S ?i ?len ?h0 ?h1 ?h2 ?h3 ?k ?k2 ?pS ?_; (case kd => exact rfl); (case B => k_asm); (case F => k_asm); (case X => k_asm); (case T => k_asm); (case N => k_asm); (case d => omega); (case u => omega); (case U => k_updF); (case i => assumption); (case S => is_list); (case len => omega); (case h0 => omega); (case h1 => omega); (case h2 => omega); (case h3 => omega); (case k => omega); (case k2 => omega); (case pS => k_ne)); intro x' t' ti' tj' j' n' h' tk' x0' x1' j0' j1' F' N'; (try k_sweep); (try dsimp only)))
/-- the pen within bounds -/
def PenB (o : Obj) (I J : Int) (S : Addr) : Prop := ∃ i j ti tj n, o = penOf i j ti tj S n ∧ 0 ≤ i ∧ i ≤ I ∧ 0 ≤ j ∧ j ≤ J

theorem off_S12 : True := by
  w_top off
  trivial
def setsL (ss : List Value) (ps : List (Int × Value)) : List Value := ps.foldl (fun l p => l.set p.1.toNat p.2) ss
theorem setsL_length (ss : List Value) (ps : List (Int × Value)) : (setsL ss ps).length = ss.length := by
  induction ps generalizing ss with
  | nil => rfl
  | cons p r ih => exact (ih _).trans (by simp)
theorem setsL_take {ss : List Value} {ps : List (Int × Value)} {i : Nat} {n : Int} {v : Value} (h : ps[i]? = some (n, v)) : setsL ss (ps.take (i + 1)) = (setsL ss (ps.take i)).set n.toNat v := by
  unfold setsL
  rw [List.take_add_one, h, Option.toList_some, List.foldl_append]
  rfl
theorem noTup_app {a b : List (Addr × Obj)} (ha : NoTup a) (hb : NoTup b) : NoTup (a ++ b) := fun p hp => (List.mem_append.mp hp).elim (ha p) (hb p)
theorem noTup_three {pen su un S : Addr} {po : Obj} {I J : Int} {a b : Array Value} {m n : Nat} (h : PenB po I J S) : NoTup [(pen, po), (su, W.listOf a m), (un, W.listOf b n)] := by
  obtain ⟨_, _, _, _, _, rfl, _⟩ := h
  intro p hp
  simp only [List.mem_cons, List.not_mem_nil, or_false] at hp
  rcases hp with rfl | rfl | rfl <;> exact fun e => absurd (Value.type.inj e) (by decide)
inductive DeedFlushed (w : World) (pen x dx kd ld su un : Addr) (ol po' : Obj) (ss : List Value) (nb wr fl : Int) (kk ps : List (Int × Value)) (mine' : List (Addr × Obj)) : Prop
  | mk (ud' : Addr) (od' ok' : Obj) (nsu' nun' : Nat) (f1 : DiskD w.params od' nb kd ld ud' wr (fl + 1)) (f2 : IntDict w ok' (puts kk ps)) (f3 : DiskA x dx kd ld ud') (f4 : @Ne Nat ud' un) (f5 : mine' = [(pen, po'), (su, W.listOf (setsL ss ps).toArray nsu'), (un, W.listOf #[] nun')] ++ diskL x dx kd ld ud' od' ok' ol (W.listOf #[] 0))
inductive DeedWrote (w : World) (pen x dx kd ld ud su un : Addr) (ok po' : Obj) (us us2 ss : List Value) (nsu : Nat) (nb wr fl : Int) (lk : List (Int × Value)) (mine' : List (Addr × Obj)) : Prop
  | mk (y : Int) (v : Value) (od' ol' : Obj) (nu' nun' : Nat) (D1 D2 : Addr) (t1 t2 : Tok) (f1 : @Ne Nat D1 D2) (f2 : 0 ≤ y) (f3 : y < nb) (f4 : Oct v) (f5 : DiskD w.params od' nb kd ld ud (wr + 1) fl) (f6 : IntDict w ol' (stored lk y v)) (f7 : D1 ∉ [pen, su, un, x, dx, kd, ld, ud]) (f8 : D2 ∉ [pen, su, un, x, dx, kd, ld, ud]) (f9 : mine' = (D1, tupV y t1 v) :: (D2, tupV y t2 v) :: ([(pen, po'), (su, W.listOf ss.toArray nsu), (un, W.listOf (us2 ++ [Value.ref D2]).toArray nun')] ++ diskL x dx kd ld ud od' ok ol' (W.listOf (us ++ [Value.ref D1]).toArray nu')))
/-- a step's result told: what the walk needs of it stands once, not for each of its cases -/
theorem via {M : Model} {A : Around} {α : Type} {t : Sem α} {Q : α → Shared → Prop} {E : Value → Shared → Prop} {s : Shared} (R : α → Prop) (h : wpAny M A t (fun v s' => R v ∧ s' = s) E s) (k : ∀ v, R v → Q v s) : wpAny M A t Q E s := wpAny_mono h (fun v _ x => x.2 ▸ k v x.1) fun _ _ x => x
/-- a mark in the context: the walk stands still at the menu -/
inductive OneMenu : Prop | mk
 local macro_rules | `(tactic| walk_at "subscriptTail") => `(tactic| ((with_reducible show wpAny _ _ (subscriptTail _ _ (Value.ref _) (Value.int _ _)) _ _ _); (with_reducible rename OneMenu => kcsG); refine stop_here ?_))
set_option maxHeartbeats 2000000 in
theorem deed_call (w : World) (pen S x dx kd ld ud su un : Addr) (po od ok ol : Obj) (vs us us2 ss : List Value) (ns : List Int) (I J : Int) (nu nsu nun : Nat) (nb wr fl : Int) (kk lk ps : List (Int × Value))
    (hi : IntsAre vs ns) (hlen : ns.length ≤ 40) (hI : I < 900) (hJ : J < 900) (hpo : PenB po I J S)
    (hD : DiskD w.params od nb kd ld ud wr fl) (hk : IntDict w ok kk) (hl : IntDict w ol lk) (hA : DiskA x dx kd ld ud) (hw : 0 ≤ wr) (hw1 : wr < 900) (hf : 0 ≤ fl) (hf1 : fl < 900) (hz : kk.length ≤ 900) (hz' : lk.length ≤ 900) (hu : ps.length ≤ 900) (hO : ∀ p ∈ ps, Oct p.2) 
    (hb : 2 ≤ nb) (hb' : nb < 100) (hss : (ss.length : Int) = nb) (hin : ∀ p ∈ ps, 0 ≤ p.1 ∧ p.1 < nb)
    (hS : S ∉ [pen, su, un, x, dx, kd, ld, ud]) (d1 : @LT.lt Nat _ pen dx) (d2 : @LT.lt Nat _ su dx) (d3 : @Ne Nat pen su) (d4 : @LT.lt Nat _ x un) (d5 : @Ne Nat kd un) (d6 : @Ne Nat ld un) (d7 : @Ne Nat ud un) :
    Call PySem.Challenge.rw_pf0215_01.row.prog w (hd.heap_1 w.params) (.ref 202) [.ref pen, .ref x, .ref su, .ref un] 30 300 (fun h => Tups h us ps ∧ Tups h us2 ps ∧ h.IsList S vs.toArray)
      ([(pen, po), (su, W.listOf ss.toArray nsu), (un, W.listOf us2.toArray nun)] ++ diskL x dx kd ld ud od ok ol (W.listOf us.toArray nu))
      (fun h r mine' => r = .none ∧ ∃ po', PenB po' (I + 3) (J + 3) S ∧
        (DeedFlushed w pen x dx kd ld su un ol po' ss nb wr fl kk ps mine' ∨
         DeedWrote w pen x dx kd ld ud su un ok po' us us2 ss nsu nb wr fl lk mine')) := by
  k_fill
  refine call_of (by k_is) (by k_is) ?_ (fun _ => BindsTo.of_eq rfl) (locs rfl) ?_
  · refine fun h g ht hk' hm => ⟨ht.1.hide ?_ hk' hm, ht.2.1.hide ?_ hk' hm, isList_rest ht.2.2 hk' hS⟩ <;>
    exact noTup_app (noTup_three hpo) (diskL_noTup hD hk hl rfl)
  rintro p loose mean mg mb dp un' gd outer A₀ base g L' gns dr os h₁ tk₁ hdp hun hlt ⟨hP, hP2, hC⟩ B X T N F Qf hQf
  have hlen2 := hP.length
  have hlen3 := hP2.length
  obtain ⟨i, j, ti, tj, n, rfl, i0, i1, j0, j1⟩ := hpo
  have hDc := hD
  have hAc := hA
  obtain ⟨i101, i102, i103, i104⟩ := hA.inner
  obtain ⟨o111, o112, o113, o114, o115⟩ := hA.over d1
  obtain ⟨o121, o122, o123, o124, o125⟩ := hA.over d2
  obtain ⟨a1, a2, a3, a4, a5, a6, a7, a8⟩ := hA
  have d0 : @LT.lt Nat _ dx un := by omega
  have d8 : @LT.lt Nat _ pen un := by omega
  have d9 : @LT.lt Nat _ su un := by omega
  simp only [diskL, List.cons_append, List.nil_append] at N hlt
  replace hlt := allLt_of hlt
  simp only [AllLt, and_true] at hlt
  (try dsimp only)
  (try k_fold)
  have s1 : @Ne Nat S pen := fun e => hS (by simp [e])
  have menu : OneMenu := .mk
  k_steps
  · rename Fr _ _ _ _ => F1
    rename News _ _ _ _ => N1
    obtain ⟨po', hpo', N2⟩ : ∃ po', PenB po' (I + 3) (J + 3) S ∧ News g L' _ [(pen, po'), (su, W.listOf ss.toArray nsu), (un, W.listOf us2.toArray nun), (x, instObj 177 dx), (dx, _), (kd, ok), (ld, ol), (ud, W.listOf us.toArray nu)] := ⟨_, ⟨_, _, _, _, _, rfl, by omega, by omega, by omega, by omega⟩, N1⟩
    refine (flush_call w x dx kd ld ud _ ok ol us nu nb wr fl kk lk ps hDc hk hl hAc hf (by omega) (by omega) (by omega) hO).use B F1 X T N2 rfl (by omega) (by omega) ?_ (hP.keeps fun b o e _ => F1.keep b o e) ?_
    · simp only [diskL]
      k_allIn
    rintro r mine' h' tk' F2 hN hfr hR ⟨ud', od', ok', rfl, hD', hk', hA', hud, rfl⟩
    have N3 := news_call [(pen, po'), (su, W.listOf ss.toArray nsu), (un, W.listOf us2.toArray nun)] hN (by k_allIn) (by
      simp only [OffAll, NeAll, List.map_cons, List.map_nil, and_true]
      repeat' apply And.intro
      all_goals (first | k_ne | omega))
    have f1 : @Ne Nat ud' pen := fun e => absurd (hfr (ud', W.listOf #[] 0) (by k_memK) (pen, po') (by k_memK) e) (ud_new hA' hud)
    have f2 : @Ne Nat ud' su := fun e => absurd (hfr (ud', W.listOf #[] 0) (by k_memK) (su, W.listOf ss.toArray nsu) (by k_memK) e) (ud_new hA' hud)
    have f3 : @Ne Nat ud' un := fun e => absurd (hfr (ud', W.listOf #[] 0) (by k_memK) (un, W.listOf us2.toArray nun) (by k_memK) e) (ud_new hA' hud)
    clear N1 N2 hfr hN F1
    obtain ⟨b1, b2, b3, b4, b5, b6, b7, b8⟩ := id hA'
    simp only [diskL, List.cons_append, List.nil_append] at N3
    dsimp only
    k_steps
    refine For_L (h₀ := g) rfl ?_
    k_steps
    refine ⟨un, us2.toArray, _, _, fun i m news => m "sure" = some (.ref su) ∧ m "unsure" = some (.ref un) ∧ ∃ nsu', news = [(pen, po'), (su, W.listOf (setsL ss (ps.take i)).toArray nsu'), (un, W.listOf us2.toArray nun), (x, instObj 177 dx), (dx, od'), (kd, ok'), (ld, ol), (ud', W.listOf #[] 0)], rfl, F2, N3, ⟨rfl, rfl, nsu, rfl⟩, ?_, ?_, ?_⟩
    · rintro i m' news' h' ⟨_, _, _, rfl⟩ F N
      exact News.isList N (by k_mem)
    · rintro i v m₁ news₁ h tk I o hv ⟨hm, hm', nsu', rfl⟩ hI hne F N Qt hQt
      obtain ⟨a, n, tn, v', rfl, ha, hu'⟩ := hP2.get (by simpa using hv)
      obtain ⟨b, tb, rfl, hb⟩ := hO (n, v') (List.mem_of_getElem? hu')
      obtain ⟨hn0, hn1⟩ := hin (n, _) (List.mem_of_getElem? hu')
      have hsl := setsL_length ss (ps.take i)
      have F := fr_at2 F hm hm'
      have hne' := allNe_of hne
      simp only [AllNe, and_true] at hne'
      repeat (have k_1 := And.left hne'; replace hne' := And.right hne')
      refine unpackN_ F N ⟨_, F.keep _ _ ha, rfl, _, rfl⟩ rfl rfl rfl fun h' F' N' => ?_
      k_steps
      refine TurnEnd.out hQt (by assumption) (by assumption) (by k_all) ⟨rfl, rfl, nsu', ?_⟩
      rw [setsL_take hu']
    rintro m' news' h' tk ⟨hm, hm', nsu', rfl⟩ F N
    have F5 := fr_at2 F hm hm'
    have hfin : ps.take us2.toArray.size = ps := by rw [List.size_toArray, hlen3, List.take_length]
    rw [hfin] at N
    k_steps
    dsimp only
    rename Fr _ _ _ _ => F9
    rename News _ _ _ _ => N9
    refine' Ends.out hQf F9 (news_sub (new := [(pen, po'), (su, W.listOf (setsL ss ps).toArray nsu'), (un, W.listOf #[] _)] ++ diskL x dx kd ld ud' od' ok' ol (W.listOf #[] 0)) N9 ?sub) ⟨rfl, po', hpo', .inl ⟨_, _, _, _, _, hD', hk', hA', f3, rfl⟩⟩
    case sub =>
      simp only [List.cons_append, List.nil_append]
      k_allIn
  · rename OneMenu => menu
    clear menu
    refine via Oct ?_ ?_
    · kcs_split <;> (k_steps; first | exact ⟨_, _, rfl, rfl⟩ | exact ⟨⟨_, _, rfl, rfl⟩, rfl⟩)
    rintro v ⟨b, tb, rfl, hb4⟩
    k_steps
    rename Fr _ _ _ _ => F1
    rename News _ _ _ _ => N1
    obtain ⟨po', N2, hpo'⟩ : ∃ po', News g L' _ [(pen, po'), (su, W.listOf ss.toArray nsu), (un, W.listOf us2.toArray nun), (x, instObj 177 dx), (dx, _), (kd, ok), (ld, ol), (ud, W.listOf us.toArray nu)] ∧ PenB po' (I + 3) (J + 3) S := ⟨_, news_tl N1, ⟨_, _, _, _, _, rfl, by omega, by omega, by omega, by omega⟩⟩
    clear N1
    refine' (write_call w x dx kd ld ud _ ok ol us.toArray nu nb wr fl _ _ _ _ kk lk hDc hk hl hAc ?h0 ?h1 hb' ?hb hw ?hw1 ?hz ?hu).use B F1 X T N2 rfl ?d ?u ?m trivial ?_
    case h0 => omega
    case h1 => omega
    case hb => exact hb4
    case hw1 => omega
    case hz => omega
    case hu => simp only [List.size_toArray]; omega
    case d => omega
    case u => omega
    case m => (simp only [diskL]; k_allIn)
    rintro r mine' h' tk' F2 hN hfr hR ⟨D, od', ol', nu', rfl, hD', hl', hDn, rfl⟩
    have N3 := news_call [(pen, po'), (su, W.listOf ss.toArray nsu), (un, W.listOf us2.toArray nun)] hN (by k_allIn) (by
      simp only [OffAll, NeAll, List.map_cons, List.map_nil, and_true]
      repeat' apply And.intro
      all_goals (first | k_ne | omega))
    have hDm : ∀ q' : Addr × Obj, q' ∈ [(pen, po'), (su, W.listOf ss.toArray nsu), (un, W.listOf us2.toArray nun), (x, instObj 177 dx), (dx, _), (kd, ok), (ld, ol), (ud, W.listOf us.toArray nu)] → D ≠ q'.1 := fun q' hq e => hDn (hfr (D, _) (.head _) q' hq e)
    have f1 : @Ne Nat D pen := hDm (pen, po') (by k_memK)
    have f2 : @Ne Nat D su := hDm (su, W.listOf ss.toArray nsu) (by k_memK)
    have f3 : @Ne Nat D un := hDm (un, W.listOf us2.toArray nun) (by k_memK)
    clear N2 hfr hN F1 hDm
    simp only [diskL, List.cons_append, List.nil_append] at N3
    dsimp only
    have hDn' : NeAll D [x, dx, kd, ld, ud] := by
      simp only [List.mem_cons, List.not_mem_nil, or_false, not_or] at hDn
      simp only [NeAll, and_true]
      exact hDn
    simp only [NeAll, and_true] at hDn'
    have n1 := hDn'.1
    have n2 := hDn'.2.1
    have n3 := hDn'.2.2.1
    have n4 := hDn'.2.2.2.1
    have n5 := hDn'.2.2.2.2
    clear hDn'
    k_steps
    dsimp only
    rename Fr _ _ _ _ => F9
    rename News _ _ _ _ => N9
    simp only [List.push_toArray] at N9
    refine' Ends.out hQf F9 (news_sub (new := (D, tupV _ _ _) :: (_, tupV _ _ _) :: ([(pen, po'), (su, W.listOf ss.toArray nsu), (un, W.listOf (us2 ++ [Value.ref _]).toArray _)] ++ diskL x dx kd ld ud od' ok ol' (W.listOf (us ++ [Value.ref D]).toArray nu'))) N9 ?sub) ⟨rfl, po', hpo', .inr ⟨_, _, od', ol', nu', _, D, _, _, _, ?ne, ?y0, ?y1, ⟨_, _, rfl, hb4⟩, hD', hl', ?d1, ?d2, rfl⟩⟩
    case sub =>
      simp only [List.cons_append, List.nil_append]
      k_allIn
    case ne => omega
    case y0 => omega
    case y1 => omega
    case d1 =>
      refine NeAll.out ?_
      simp only [NeAll, and_true]
      repeat' apply And.intro
      all_goals (first | k_ne | omega)
    case d2 =>
      refine NeAll.out ?_
      simp only [NeAll, and_true]
      repeat' apply And.intro
      all_goals (first | k_ne | omega)

theorem off_S13 : True := by
  w_top off
  trivial
/-- a for over a range, its invariant over the frame's names and the whole ledger -/
inductive LoopR (prog : Program) (w : World) (A : Around) (h₀ : Heap) (env : Env) (x : Str) (body : List Stmt) (Q : Flow → Shared → Prop) (v : Value) (s : Shared) : Prop
  | mk (r : Addr) (a b : Int) (t u t' : Tok) (n : Nat) (m : Str → Option Value) (news : List (Addr × Obj)) (J : Nat → (Str → Option Value) → List (Addr × Obj) → Prop) (f1 : v = .ref r) (f2 : IsRange s.heap r a b 1 t u t') (f3 : Builtin.Range.small a b 1 = true) (f4 : Builtin.Range.rangeSize a b 1 = ((n : Nat) : Int)) (f5 : Fr h₀ env.locals s.heap m) (f6 : News h₀ env.locals s.heap news) (f7 : J 0 m news) (f8 : (∀ i tv m₁ news₁ h tk I o, i < n → J i m₁ news₁ → (∀ p ∈ news, p.1 < I) → (∀ p ∈ news₁, p.1 ≠ I) → Fr h₀ env.locals h (fun y => if y = x then some (.int (a + (i : Int)) tv) else m₁ y) → News h₀ env.locals h ((I, o) :: news₁) → ∀ Qt : Flow → Shared → Prop, (∀ f s', TurnEnd h₀ env.locals I o s (J (i + 1)) Q f s' → Qt f s') → wpAny (model prog w) A (execs body env) Qt (fun _ _ => False) { s with heap := h, toks := tk })) (f9 : (∀ m' news' h' tk, J n m' news' → Fr h₀ env.locals h' m' → News h₀ env.locals h' news' → Q .next { s with heap := h', toks := tk }))

inductive InvR (h₀ : Heap) (L : Addr) (s₁ : Shared) (I : Addr) (a : Int) (n : Nat) (J : Nat → (Str → Option Value) → List (Addr × Obj) → Prop) (k : Nat) (s' : Shared) : Prop
  | mk (i : Nat) (h' : Heap) (tk : Nat) (m' : Str → Option Value) (news' : List (Addr × Obj)) (f1 : n - i = k) (f2 : s' = { s₁ with heap := h', toks := tk }) (f3 : IsRangeIter h' I (a + (i : Nat) * 1) ((n : Int) - (i : Nat)) 1) (f4 : Fr h₀ L h' m') (f5 : News h₀ L h' news') (f6 : (∀ p ∈ news', p.1 ≠ I)) (f7 : J i m' news') (f8 : i ≤ n)
section
variable {prog : Program} {w : World} {A : Around} {env : Env} {h₀ : Heap} {x : Str} {px : Pos} {iter : Expr} {body : List Stmt} {pos : Pos} {Q : Flow → Shared → Prop} {E : Value → Shared → Prop}
theorem For_R (hh : A.handled = none) {s : Shared} (h : wpAny (model prog w) A (eval iter env) (LoopR prog w A h₀ env x body Q) E s) (hx : env.kindOf x = some .local)
    (hp : (env.scope.kind == .class || (env.scope.kind == .module && env.locals != env.globals)) = false)
    (hs : ∀ x, foldedSetIterable iter env x = pure x := by intro _; rfl) :
    wpAny (model prog w) A (exec (.For (.Name x px) iter body [] pos) env) Q E s := by
  refine wpAny_For (wpAny_mono h (fun v s₁ h₁ => ?_) fun _ _ e => e) hs
  obtain ⟨r, a, b, t, u, t', n, m, news, J, rfl, hr, hsm, hn, F, N, h0, turn, done⟩ := h₁
  refine wpAny_pyIter_range hr hsm ?_
  rw [hn]
  have ltI : ∀ p ∈ news, p.1 < s₁.heap.objs.size := fun p hp => Heap.lt_size (N p hp).1
  have nI : h₀.get? s₁.heap.objs.size = none := by
    cases e : h₀.get? s₁.heap.objs.size with
    | none => rfl
    | some o => exact absurd (Heap.lt_size (F.keep _ _ e)) (Nat.lt_irrefl _)
  have nL : s₁.heap.objs.size ≠ env.locals := fun e => by
    obtain ⟨oL, _, _, hL, _⟩ := F.ns
    exact absurd (Heap.lt_size hL) (by rw [e]; exact Nat.lt_irrefl _)
  have W := LCg.range_walks (prog := prog) (w := w) (A := A) (I := s₁.heap.objs.size) hh a n
  refine codeAny_forLoop (InvR h₀ env.locals s₁ s₁.heap.objs.size a n J) ?_ (n - 0)
    ⟨0, _, _, m, news, rfl, rfl, by show IsRangeIter _ _ _ _ _; simpa using Heap.get?_push_size _ rfl, F.push _, fun p hp => ⟨Heap.get?_push_of_some _ (N p hp).1, (N p hp).2⟩, fun p hp => Nat.ne_of_lt (ltI p hp), h0, Nat.zero_le _⟩
  generalize s₁.heap.objs.size = I at *
  rintro k s' ⟨i, h', tk, m', news', rfl, rfl, hit, F', N', hne, hJ, hi⟩
  have next : ∀ h₂ : Heap, (∀ b o, b ∉ [I] → h'.get? b = some o → h₂.get? b = some o) → Fr h₀ env.locals h₂ m' ∧ News h₀ env.locals h₂ news' := fun h₂ k₂ =>
    ⟨⟨F'.ns.at' fun o e => k₂ _ o (by simpa using Ne.symm nL) e, fun b o e => k₂ b o (fun hm => by rw [List.mem_singleton.mp hm, nI] at e; cases e) (F'.keep b o e), F'.above⟩, fun p hp => ⟨k₂ _ _ (by simpa using hne p hp) (N' p hp).1, (N' p hp).2⟩⟩
  by_cases hlt : i < n
  · refine W.item i _ _ _ hlt hit fun v h₁ tk₁ hP hst₁ hk₁ => ?_
    obtain ⟨tv, rfl⟩ := hP
    obtain ⟨F₁, N₁⟩ := next h₁ hk₁
    dsimp only
    refine wpAny_assign_Name (wpAny_storeName_local hx F₁.ns (fun h₂ hn₂ hs₂ => ?_) hp)
    have F₂ := F₁.set hn₂ hs₂
    have hst₂ : IsRangeIter h₂ I (a + ((i + 1 : Nat) : Int) * 1) ((n : Int) - ((i + 1 : Nat) : Int)) 1 := (hs₂.2 I nL).trans hst₁
    obtain ⟨oI, hoI, hre⟩ : ∃ oI, h₂.get? I = some oI ∧ ∀ h : Heap, h.get? I = some oI → IsRangeIter h I (a + ((i + 1 : Nat) : Int) * 1) ((n : Int) - ((i + 1 : Nat) : Int)) 1 := ⟨_, hst₂, fun _ q => q⟩
    have N₂ : News h₀ env.locals h₂ ((I, oI) :: news') := fun p hp => by
      rcases List.mem_cons.mp hp with rfl | hp
      · exact ⟨hoI, nL, nI⟩
      · exact N₁.set hs₂ p hp
    refine wpAny_mono (turn i tv m' news' h₂ _ I oI hlt hJ ltI hne F₂ N₂ _ fun _ _ e => e) (fun f s₃ hf => ?_) fun _ _ e => e.elim
    have fin : TurnGo h₀ env.locals I oI s₁ (J (i + 1)) s₃ →
        ∃ m, m < n - i ∧ InvR h₀ env.locals s₁ I a n J m s₃ := by
      rintro ⟨h3, tk3, m3, news3, e3, F3, N3, ne3, J3⟩
      exact ⟨n - (i + 1), by omega, i + 1, h3, tk3, m3, news3, rfl, e3, hre _ (N3 _ (.head _)).1, F3, fun p hp => N3 p (.tail _ hp), ne3, J3, hlt⟩
    cases f with
    | next => exact fin hf
    | cont => exact fin hf
    | brk => exact hf
    | ret v => exact hf
  · have hin : i = n := by omega
    subst hin
    refine W.done _ _ _ hit fun h₁ tk₁ hk₁ => wpAny_execs_nil ?_
    obtain ⟨F₁, N₁⟩ := next h₁ hk₁
    exact done m' news' h₁ tk₁ hJ F₁ N₁
end
theorem m_at2 {m : Str → Option Value} {a b : Str} {v u : Value} (e : m a = some v) (e' : m b = some u) : m = fun y => if y = a then some v else if y = b then some u else m y := by
  funext y
  by_cases h1 : y = a
  · rw [if_pos h1, h1, e]
  · rw [if_neg h1]
    by_cases h2 : y = b
    · rw [if_pos h2, h2, e']
    · rw [if_neg h2]
theorem m_at3 {m : Str → Option Value} {a b c : Str} {v u x : Value} (e : m a = some v) (e' : m b = some u) (e'' : m c = some x) : m = fun y => if y = a then some v else if y = b then some u else if y = c then some x else m y := by
  refine (m_at2 e e').trans (funext fun y => ?_)
  by_cases h1 : y = a
  · rw [if_pos h1, if_pos h1]
  · rw [if_neg h1, if_neg h1]
    by_cases h2 : y = b
    · rw [if_pos h2, if_pos h2]
    · rw [if_neg h2, if_neg h2]
      exact congrFun (m_at e'') y
/-- tuples that the ledger bears -/
def TupsL (tl : List (Addr × Obj)) (us : List Value) (ps : List (Int × Value)) : Prop := ∀ h : Heap, (∀ q ∈ tl, h.get? q.1 = some q.2) → Tups h us ps
theorem off_cls {h₀ h : Heap} {L : Addr} {news mine : List (Addr × Obj)} {q : Addr × Obj} (N : News h₀ L h news) (hq : q ∈ news) (hc : q.2.cls = .type "tuple") (hm : ∀ p ∈ mine, p ∈ news) (hn : NoTup mine) : q.1 ∉ mine.map (·.1) := fun h => by
  obtain ⟨p, hp, e⟩ := List.mem_map.mp h
  have h1 := (N p (hm p hp)).1
  rw [e, (N q hq).1] at h1
  exact hn p hp (Option.some.inj h1 ▸ hc)

theorem off_S14 : True := by
  w_top off
  trivial
theorem valueAt_cons (k : Int) (x : Value) (r : List (Int × Value)) (m : Int) : valueAt ((k, x) :: r) m = if k = m then some x else valueAt r m := by
  unfold valueAt
  rw [List.find?_cons]
  by_cases c : k = m
  · simp [c]
  · simp [c]
theorem valueAt_map (kvs : List (Int × Value)) (n : Int) (v : Value) (m : Int) : valueAt (kvs.map fun kv => if kv.1 = n then (kv.1, v) else kv) m = if m = n then (if kvs.any (fun kv => decide (kv.1 = n)) = true then some v else none) else valueAt kvs m := by
  induction kvs with
  | nil => by_cases c : m = n <;> simp [valueAt, c]
  | cons kv r ih =>
    obtain ⟨k, x⟩ := kv
    rw [List.map_cons, List.any_cons, valueAt_cons]
    dsimp only
    by_cases c : k = n
    · rw [if_pos c, valueAt_cons, ih]
      by_cases d : m = n
      · rw [if_pos d, if_pos (c.trans d.symm)]
        simp [c, d]
      · rw [if_neg d, if_neg d, if_neg (fun q => d (q.symm.trans c))]
        rw [if_neg (fun q => d (q.symm.trans c))]
    · rw [if_neg c, valueAt_cons, ih]
      by_cases d : m = n
      · rw [if_pos d, if_pos d, if_neg (fun q => c (q.trans d)), decide_eq_false c, Bool.false_or]
      · rw [if_neg d, if_neg d]
theorem valueAt_app (kvs : List (Int × Value)) (n : Int) (v : Value) (m : Int) : valueAt (kvs ++ [(n, v)]) m = match valueAt kvs m with | some x => some x | none => if m = n then some v else none := by
  induction kvs with
  | nil =>
    rw [List.nil_append, valueAt_cons]
    by_cases d : m = n
    · rw [if_pos d.symm]
      show _ = if m = n then some v else none
      rw [if_pos d]
    · rw [if_neg (fun q => d q.symm)]
      show _ = if m = n then some v else none
      rw [if_neg d]
      rfl
  | cons kv r ih =>
    obtain ⟨k, x⟩ := kv
    rw [List.cons_append, valueAt_cons, valueAt_cons]
    by_cases c : k = m
    · rw [if_pos c, if_pos c]
    · rw [if_neg c, if_neg c]
      exact ih
theorem valueAt_stored (kvs : List (Int × Value)) (n : Int) (v : Value) (m : Int) : valueAt (stored kvs n v) m = if m = n then some v else valueAt kvs m := by
  unfold stored
  by_cases c : kvs.any (fun kv => decide (kv.1 = n)) = true
  · rw [if_pos c, valueAt_map, if_pos c]
  · rw [if_neg c, valueAt_app]
    by_cases d : m = n
    · subst d
      have e : valueAt kvs m = none := by
        unfold valueAt
        rw [Option.map_eq_none_iff, List.find?_eq_none]
        intro kv hkv q
        exact c (List.any_eq_true.mpr ⟨kv, hkv, q⟩)
      rw [e]
    · rw [if_neg d]
      cases valueAt kvs m <;> simp [d]

theorem octs_stored {kvs : List (Int × Value)} (h : Octs kvs) {n : Int} {v : Value} (hv : Oct v) : Octs (stored kvs n v) := fun i x e => by
  rw [valueAt_stored] at e
  by_cases c : i = n
  · rw [if_pos c] at e
    rw [← Option.some.inj e]
    exact hv
  · rw [if_neg c] at e
    exact h i x e
/-- the octets of a value -/
def octOf (v : Value) : Array UInt8 := match v with | .bytes b _ => b | _ => blank 4
theorem blk_stored (kvs : List (Int × Value)) {n : Nat} {v : Value} (hv : Oct v) (m : Nat) : blk (stored kvs (n : Int) v) m = if m = n then octOf v else blk kvs m := by
  obtain ⟨b, t, rfl, _⟩ := hv
  unfold blk
  rw [valueAt_stored]
  by_cases c : m = n
  · rw [if_pos c, if_pos (by omega)]
    rfl
  · rw [if_neg c, if_neg (by omega)]
theorem octs_nil : Octs [] := fun i v e => by simp [valueAt] at e
theorem blk_nil (i : Nat) : blk [] i = blank 4 := rfl
local macro_rules | `(tactic| walk_at "subscriptTail") => `(tactic| ((with_reducible show wpAny _ _ (subscriptTail _ (Expr.Slice _ _ none _) (Value.bytes _ _) (Value.ref _)) _ _ _); (with_reducible rename Fr _ _ _ _ => F'); (with_reducible rename News _ _ _ _ => N'); (refine KBc.slice_K (s := ⟨_, _, _, _, _⟩) F' N' rfl (by constructor) (by constructor) (by rw [KBw.ints_length]; omega) ?_); intro _ _ _ _ _ _))
def part (B : Array UInt8) (i : Nat) : Array UInt8 := B.extract (i * 4) (i * 4 + 4)
theorem picked_part {B : Array UInt8} {i n : Nat} (hB : B.size = 4 * n) (hi : i < n) : KBy.picked B (some ((0 + (i : Int)) * 4)) (some ((0 + (i : Int) + 1) * 4)) = part B i := by
  have e1 : (0 + (i : Int)) * 4 = ((i * 4 : Nat) : Int) := by omega
  have e2 : (0 + (i : Int) + 1) * 4 = ((i * 4 + 4 : Nat) : Int) := by omega
  rw [e1, e2, KBc.picked_eq]
  simp only [Option.elim, clipAt_nat]
  have m1 : min (i * 4) B.size = i * 4 := by omega
  have m2 : min (i * 4 + 4) B.size = i * 4 + 4 := by omega
  rw [m1, m2]
  unfold part
  apply Array.toList_inj.mp
  simp [Array.toList_extract]
theorem part_size {B : Array UInt8} {i n : Nat} (hB : B.size = 4 * n) (hi : i < n) : (part B i).size = 4 := by
  unfold part
  rw [Array.size_extract]
  omega

theorem off_S15 : True := by
  w_top off
  trivial
set_option pp.deepTerms false
set_option pp.deepTerms.threshold 6
theorem octs_puts {kvs ps : List (Int × Value)} (hO : ∀ p ∈ ps, Oct p.2) (h : Octs kvs) : Octs (puts kvs ps) := by
  induction ps generalizing kvs with
  | nil => exact h
  | cons p r ih => exact ih (fun q hq => hO q (.tail _ hq)) (octs_stored h (hO p (.head _)))
inductive InvD (w : World) (x dx kd ld ud : Addr) (ok : Obj) (im : Array UInt8) (tB ts : Tok) (nb : Nat) (i : Nat) (m : Str → Option Value) (news : List (Addr × Obj)) : Prop
  | mk (h1 : m "image" = some (.bytes im tB)) (h2 : m "size" = some (.int 4 ts)) (h3 : m "found" = some (.ref x)) (od ol : Obj) (us : List Value) (nu : Nat) (ps : List (Int × Value)) (tl : List (Addr × Obj)) (wr : Int) (f1 : DiskD w.params od nb kd ld ud wr 0) (f2 : 0 ≤ wr) (f3 : wr ≤ i) (f4 : IntDict w ol (puts [] ps)) (f5 : ps.length ≤ i) (f6 : (∀ p ∈ ps, Oct p.2)) (f7 : (∀ j, blk (puts [] ps) j = if j < i then part im j else blank 4)) (f8 : TupsL tl us ps) (f9 : (∀ q ∈ tl, q.2.cls = .type "tuple")) (f10 : news = diskL x dx kd ld ud od ok ol (W.listOf us.toArray nu) ++ tl)
inductive DiskofPost (w : World) (im : Array UInt8) (nb : Nat) (olds : List Nat) (r : Value) (mine' : List (Addr × Obj)) : Prop
  | mk (x dx kd ld ud : Addr) (od ok ol : Obj) (kv : List (Int × Value)) (f1 : r = .ref x) (f2 : (∀ b ∈ olds, @LT.lt Nat _ b dx)) (f3 : DiskD w.params od nb kd ld ud 0 0) (f4 : IntDict w ok kv) (f5 : IntDict w ol kv) (f6 : Octs kv) (f7 : kv.length ≤ nb) (f8 : (∀ j, blk kv j = if j < nb then part im j else blank 4)) (f9 : DiskA x dx kd ld ud) (f10 : mine' = diskL x dx kd ld ud od ok ol (W.listOf #[] 0))
set_option maxHeartbeats 1000000 in
theorem diskof_call (w : World) (im : Array UInt8) (tB ts : Tok) (nb : Nat) (olds : List Nat) (hB : im.size = 4 * nb) (hb : 1 ≤ nb) (hb' : nb < 100) :
    Call PySem.Challenge.rw_pf0215_01.row.prog w (hd.heap_1 w.params) (.ref 188) [.bytes im tB, .int 4 ts] 40 400 (Alive olds) []
      (fun _ r mine' => DiskofPost w im nb olds r mine') := by
  k_fill
  refine call_of (by k_is) (by k_is) ?_ (fun _ => BindsTo.of_eq rfl) (locs rfl) ?_
  · exact fun h g hP hk _ b hb => by
      obtain ⟨o, ho⟩ := hP b hb
      exact ⟨o, hk b o ho (by simp)⟩
  rintro p loose mean mg mb dp un gd outer A₀ base g L' gns dr os h₁ tk₁ hdp hun hlt hP B X T N F Qf hQf
  (try dsimp only)
  (try k_fold)
  have hmod : Int.fmod (im.size : Int) 4 = 0 := by
    rw [Int.fmod_eq_emod_of_nonneg _ (by decide)]
    omega
  have hdiv : Int.fdiv (im.size : Int) 4 = nb := by
    rw [Int.fdiv_eq_ediv_of_nonneg _ (by decide)]
    omega
  k_steps
  rw [hdiv]
  rename Fr _ _ _ _ => F1
  refine (cls_call w nb _ _ olds (by omega) (by omega)).use B F1 X T N rfl (by omega) (by omega) (fun _ h => h) (fun b hb => by obtain ⟨o, ho⟩ := hP b hb; exact ⟨o, F1.keep _ _ ho⟩) ?_
  rintro r mine' h' tk' F2 hN hfr hR ⟨x, dx, kd, ld, ud, od, ok, ol, rfl, hold, hD, hk, hl, hA, rfl⟩
  have N2 := hN (diskL x dx kd ld ud od ok ol (W.listOf #[] 0)) (fun q hq => .inl hq)
  clear hN hfr hR F1 N
  have hDc := hD
  have hAc := hA
  obtain ⟨i201, i202, i203, i204⟩ := hA.inner
  obtain ⟨a1, a2, a3, a4, a5, a6, a7, a8⟩ := hA
  simp only [diskL] at N2
  k_steps
  refine For_R (h₀ := g) rfl ?_ rfl rfl
  k_steps
  rename IsRange _ _ _ _ _ _ _ _ => hR
  rename Fr _ _ _ _ => F3
  rename News _ _ _ _ => N3
  refine ⟨_, 0, nb, _, _, _, nb, _, _, InvD w x dx kd ld ud ok im tB ts nb,
    rfl, hR, small_one (by omega) (by omega) (by omega) (by omega), by have e := rangeSize_nat 0 nb; rw [Int.sub_zero] at e; exact e, F3, N3, ⟨rfl, rfl, rfl, _, ol, [], 0, [], [], 0, hDc, by omega, by omega, hl, Nat.zero_le _, by simp, by intro j; rw [if_neg (by omega)]; rfl, fun _ _ => .nil, by simp, rfl⟩, ?_, ?_⟩
  · rintro i tv m₁ news₁ h tk I o hi ⟨hm, hm', hm'', od, ol, us, nu, ps, tl, wr, hD, w0, w1, hl, hpl, hO, hblk, hT, htl, rfl⟩ hI hne F N Qt hQt
    rw [m_at3 hm hm' hm''] at F
    simp only [diskL, List.cons_append, List.nil_append] at N
    have hpk := picked_part hB hi
    have hT0 : ∀ h : Heap, News g L' h ((I, o) :: (diskL x dx kd ld ud od ok ol (W.listOf us.toArray nu) ++ tl)) → Tups h us ps := fun h N => hT h fun q hq => (N q (.tail _ (List.mem_append_right _ hq))).1
    k_steps
    · rename Fr _ _ _ _ => F1
      rename News _ _ _ _ => N1
      replace N1 : News g L' _ ((I, o) :: (diskL x dx kd ld ud od ok ol (W.listOf us.toArray nu) ++ tl)) := N1
      have htm : ∀ q ∈ tl, q ∈ (I, o) :: (diskL x dx kd ld ud od ok ol (W.listOf us.toArray nu) ++ tl) := fun q hq => .tail _ (List.mem_append_right _ hq)
      rw [hpk] at F1 ⊢
      have hsz := part_size hB hi
      have hmem : ∀ q ∈ diskL x dx kd ld ud od ok ol (W.listOf us.toArray nu), q ∈ (I, o) :: (diskL x dx kd ld ud od ok ol (W.listOf us.toArray nu) ++ tl) := fun q hq => .tail _ (List.mem_append_left _ hq)
      have huz := (hT0 _ N1).length
      refine' (write_call w x dx kd ld ud od ok ol us.toArray nu nb wr 0 _ _ _ _ [] (puts [] ps) hD hk hl hAc ?h0 ?h1 ?nb hsz w0 ?hw1 ?hz ?hu).use B F1 X T N1 rfl ?d ?u hmem trivial ?_
      case h0 => omega
      case h1 => omega
      case nb => omega
      case hw1 => omega
      case hz =>
        have := puts_length ps []
        simp only [List.length_nil] at this
        omega
      case hu => simp only [List.size_toArray]; omega
      case d => omega
      case u => omega
      rintro r mine' h' tk' F2 hN hfr hR ⟨D, od', ol', nu', rfl, hD', hl', hDn, rfl⟩
      have N2 := hN ((I, o) :: (diskL x dx kd ld ud od' ok ol' (W.listOf (us.toArray.push (.ref D)) nu') ++ ((D, tupO (0 + (i : Int)) (part im i) tv _) :: tl))) (by
        intro q hq
        rcases List.mem_cons.mp hq with rfl | hq
        · refine .inr ⟨.head _, fun hq => ?_⟩
          obtain ⟨p', hp', e⟩ := List.mem_map.mp hq
          exact hne p' (List.mem_append_left _ hp') e
        rcases List.mem_append.mp hq with hq | hq
        · exact .inl (.tail _ hq)
        rcases List.mem_cons.mp hq with rfl | hq
        · exact .inl (.head _)
        · exact .inr ⟨htm q hq, off_cls N1 (htm q hq) (htl q hq) hmem (diskL_noTup hD hk hl rfl)⟩)
      obtain ⟨tt, hl', N2⟩ : ∃ tt, IntDict w ol' (stored (puts [] ps) (0 + (i:Int)) (.bytes (part im i) tt)) ∧ News g L' h' ((I, o) :: (diskL x dx kd ld ud od' ok ol' (W.listOf (us.toArray.push (.ref D)) nu') ++ ((D, tupO (0 + (i : Int)) (part im i) tv tt) :: tl))) := ⟨_, hl', N2⟩
      rw [List.push_toArray] at N2
      have hDI : D ≠ I := fun e => hDn (hfr (D, _) (.head _) (I, o) (.head _) e)
      k_steps
      refine TurnEnd.out hQt F2 N2 ?_ ⟨rfl, rfl, rfl, od', ol', us ++ [.ref D], nu', ps ++ [(0 + (i : Int), .bytes (part im i) tt)], (D, tupO (0 + (i : Int)) (part im i) tv tt) :: tl, wr + 1, hD', by omega, by omega, ?_, ?_, ?_, ?_, ?_, ?_, rfl⟩
      · intro q hq
        rcases List.mem_append.mp hq with hq | hq
        · have hq1 := List.mem_map_of_mem (f := Prod.fst) hq
          have : q.1 ∈ ((diskL x dx kd ld ud od ok ol (W.listOf us.toArray nu)).map (·.1)) := hq1
          obtain ⟨p', hp', e⟩ := List.mem_map.mp this
          rw [← e]
          exact hne p' (List.mem_append_left _ hp')
        rcases List.mem_cons.mp hq with rfl | hq
        · exact hDI
        · exact hne q (List.mem_append_right _ hq)
      · rw [puts_snoc]
        exact hl'
      · rw [List.length_append]
        simp only [List.length_cons, List.length_nil]
        omega
      · intro p hp
        rcases List.mem_append.mp hp with hp | hp
        · exact hO p hp
        · rw [List.mem_singleton.mp hp]
          exact ⟨_, _, rfl, hsz⟩
      · intro j
        have e0 : (0 + (i : Int)) = (i : Int) := by omega
        rw [puts_snoc, e0, blk_stored _ ⟨_, _, rfl, hsz⟩, hblk]
        by_cases c : j = i
        · rw [if_pos c, if_pos (by omega), c]
          rfl
        · rw [if_neg c]
          by_cases c2 : j < i
          · rw [if_pos c2, if_pos (by omega)]
          · rw [if_neg c2, if_neg (by omega)]
      · exact fun h hh => (hT h fun q hq => hh q (.tail _ hq)).snoc (hh (D, _) (.head _))
      · intro q hq
        rcases List.mem_cons.mp hq with rfl | hq
        · rfl
        · exact htl q hq
    · rename Fr _ _ _ _ => F1
      rename News _ _ _ _ => N1
      rename ((_ != _) = false) => hq
      rw [hpk] at F1 hq
      have hpb : part im i = blank 4 := by
        have := of_decide_eq_true (show decide _ = true from by simpa [bne] using hq)
        exact this
      refine TurnEnd.out hQt F1 N1 hne ⟨rfl, rfl, rfl, od, ol, us, nu, ps, tl, wr, hD, w0, by omega, hl, by omega, hO, ?_, hT, htl, rfl⟩
      intro j
      rw [hblk]
      by_cases c : j = i
      · rw [if_neg (by omega), if_pos (by omega), c, hpb]
      · by_cases c2 : j < i
        · rw [if_pos c2, if_pos (by omega)]
        · rw [if_neg c2, if_neg (by omega)]
  rintro m' news' h' tk ⟨hm, hm', hm'', od, ol, us, nu, ps, tl, wr, hD, w0, w1, hl, hpl, hO, hblk, hT, htl, rfl⟩ F N
  rw [m_at3 hm hm' hm''] at F
  simp only [diskL, List.cons_append, List.nil_append] at N
  have hT0 := hT h' fun q hq => (N q (by simp only [List.mem_cons]; exact .inr (.inr (.inr (.inr (.inr hq)))))).1
  k_steps
  rename Fr _ _ _ _ => F4
  rename News _ _ _ _ => N4
  replace N4 := news_sub (new := diskL x dx kd ld ud od ok ol (W.listOf us.toArray nu)) N4 (by
    intro q hq
    simp only [diskL, List.mem_cons, List.not_mem_nil, or_false] at hq ⊢
    rcases hq with h | h | h | h | h <;> simp only [h, true_or, or_true])
  refine' (flush_call w x dx kd ld ud od ok ol us nu nb wr 0 [] (puts [] ps) ps hD hk hl hAc (by omega) (by omega) ?h1 ?h2 hO).use B F4 X T N4 rfl ?d ?u (fun _ h => h) (by first | exact hT0 | exact hT0.keeps fun b o e _ => F4.keep b o e) ?_
  case h1 => exact Nat.zero_le _
  case h2 => omega
  case d => omega
  case u => omega
  rintro r mine' h' tk' F5 hN hfr hR ⟨ud', od', ok', rfl, hD', hk', hA', hud, rfl⟩
  have N5 := hN (diskL x dx kd ld ud' od' ok' ol (W.listOf #[] 0)) (fun q hq => .inl hq)
  clear hN hfr hR N4 F4
  obtain ⟨b1, b2, b3, b4, b5, b6, b7, b8⟩ := id hA'
  obtain ⟨i211, i212, i213, i214⟩ := hA'.inner
  simp only [diskL] at N5
  k_steps
  dsimp only
  rename Fr _ _ _ _ => F9
  rename News _ _ _ _ => N9
  refine' Ends.out hQf F9 (news_sub (new := diskL x dx kd ld ud' _ ok' ol (W.listOf #[] 0)) N9 ?sub) ⟨x, dx, kd, ld, ud', _, ok', ol, puts [] ps, rfl, hold, by assumption, hk', hl, octs_puts hO octs_nil, Nat.le_trans (by have := puts_length ps []; simp only [List.length_nil] at this; omega) hpl, hblk, hA', rfl⟩
  case sub =>
    simp only [diskL]
    k_allIn
  all_goals first | exact rfl | assumption

theorem off_S16 : True := by
  w_top off
  trivial
set_option pp.deepTerms false
set_option pp.deepTerms.threshold 6
/-- values of octets as pairs -/
theorem octs_bv {l : List Value} (h : ∀ v ∈ l, Oct v) : ∃ bs : List (Array UInt8 × Tok), l = bs.map bv ∧ bs.map (·.1) = l.map octOf ∧ (bs.map fun p => p.1.size).sum = 4 * l.length := by
  induction l with
  | nil => exact ⟨[], rfl, rfl, rfl⟩
  | cons v r ih =>
    obtain ⟨b, t, rfl, hb⟩ := h v (.head _)
    obtain ⟨bs, e1, e2, e3⟩ := ih fun v hv => h v (.tail _ hv)
    refine ⟨(b, t) :: bs, ?_, ?_, ?_⟩
    · rw [List.map_cons, ← e1]
    · rw [List.map_cons, List.map_cons, e2]
      rfl
    · rw [List.map_cons, List.sum_cons, e3, List.length_cons]
      dsimp only
      omega
theorem setsL_octs {ss : List Value} {ps : List (Int × Value)} (hO : ∀ p ∈ ps, Oct p.2) (hS : ∀ v ∈ ss, Oct v) : ∀ v ∈ setsL ss ps, Oct v := by
  induction ps generalizing ss with
  | nil => exact hS
  | cons p r ih =>
    refine ih (fun q hq => hO q (.tail _ hq)) fun v hv => ?_
    rcases List.mem_or_eq_of_mem_set hv with h | rfl
    · exact hS v h
    · exact hO p (.head _)
set_option maxHeartbeats 1000000 in
theorem shown_call (w : World) (su un : Addr) (ss us : List Value) (ns nu : Nat) (ps : List (Int × Value))
    (hss : ss.length ≤ 100) (h2 : 2 ≤ ss.length) (hu : ps.length ≤ 1000) (hO : ∀ p ∈ ps, Oct p.2) (hS : ∀ v ∈ ss, Oct v) (hin : ∀ p ∈ ps, 0 ≤ p.1 ∧ p.1 < ss.length) (hne : @Ne Nat su un) :
    Call PySem.Challenge.rw_pf0215_01.row.prog w (hd.heap_1 w.params) (.ref 219) [.ref su, .ref un] 10 140 (fun h => Tups h us ps) [(su, W.listOf ss.toArray ns), (un, W.listOf us.toArray nu)]
      (fun _ r mine' => (∃ t, r = .bytes (cat ((setsL ss ps).map octOf)) t) ∧ mine' = [(su, W.listOf ss.toArray ns), (un, W.listOf us.toArray nu)]) := by
  k_fill
  refine call_of (by k_is) (by k_is) ?_ (fun _ => BindsTo.of_eq rfl) (locs rfl) ?_
  · refine fun h g ht hk' hm => ht.hide ?_ hk' hm
    intro p hp
    simp only [List.mem_cons, List.not_mem_nil, or_false] at hp
    rcases hp with rfl | rfl <;> exact fun e => absurd (Value.type.inj e) (by decide)
  rintro p loose mean mg mb dp un' gd outer A₀ base g L' gns dr os h₁ tk₁ hdp hun hlt hP B X T N F Qf hQf
  have hlen := hP.length
  replace hlt := allLt_of hlt
  simp only [AllLt, and_true] at hlt
  (try dsimp only)
  (try k_fold)
  k_steps
  rename_i D nD h9 l9 h8 F2 N2
  refine For_L (h₀ := g) rfl ?_
  k_steps
  refine ⟨un, us.toArray, _, _, fun i m news => m "blocks" = some (.ref D) ∧ ∃ nd, news = [(D, W.listOf (setsL ss (ps.take i)).toArray nd), (su, W.listOf ss.toArray ns), (un, W.listOf us.toArray nu)], rfl, F2, N2, ⟨rfl, _, rfl⟩, ?_, ?_, ?_⟩
  · rintro i m' news' h' ⟨_, _, rfl⟩ F N
    exact News.isList N (by k_mem)
  · rintro i v m₁ news₁ h tk I o hv ⟨hm, nd, rfl⟩ hI hne F N Qt hQt
    obtain ⟨a, n, tn, v', rfl, ha, hu'⟩ := hP.get (by simpa using hv)
    obtain ⟨b, tb, rfl, hb⟩ := hO (n, v') (List.mem_of_getElem? hu')
    obtain ⟨hn0, hn1⟩ := hin (n, _) (List.mem_of_getElem? hu')
    have hsl := setsL_length ss (ps.take i)
    have F := fr_at1 F hm
    have hne' := allNe_of hne
    simp only [AllNe, and_true] at hne'
    repeat (have k_1 := And.left hne'; replace hne' := And.right hne')
    refine unpackN_ F N ⟨_, F.keep _ _ ha, rfl, _, rfl⟩ rfl rfl rfl fun h' F' N' => ?_
    k_steps
    refine TurnEnd.out hQt (by assumption) (by assumption) (by k_all) ⟨rfl, nd, ?_⟩
    rw [setsL_take hu']
  rintro m' news' h' tk ⟨hm, nd, rfl⟩ F N
  have F5 := fr_at1 F hm
  have hfin : ps.take us.toArray.size = ps := by rw [List.size_toArray, hlen, List.take_length]
  rw [hfin] at N
  k_steps
  obtain ⟨bs, e1, e2, e3⟩ := octs_bv (setsL_octs hO hS)
  have hlb : bs.length = ss.length := by rw [← List.length_map (f := bv) (as := bs), ← e1, setsL_length]
  rename News _ _ _ _ => N9
  rename Fr _ _ _ _ => F9
  rw [e1] at N9
  refine call_join (N9 _ (.head _)).1 rfl rfl (by omega) (by rw [e3, setsL_length]; omega) fun t' k => ?_
  rw [e2]
  refine Ends.out hQf F9 (news_sub (new := [(su, W.listOf ss.toArray ns), (un, W.listOf us.toArray nu)]) N9 (by k_allIn)) ⟨⟨t', rfl⟩, rfl⟩

theorem off_S17 : True := by
  w_top off
  trivial
set_option pp.deepTerms false
set_option pp.deepTerms.threshold 6
theorem bs_orStandIn_led (t : SetTable) (n : Nat) : (t.orStandIn n).led = t.led := by
  unfold SetTable.orStandIn
  split <;> rfl
theorem bs_orStandIn_plain (t : SetTable) (n : Nat) (h : t.plain = false) : (t.orStandIn n).plain = false := by
  unfold SetTable.orStandIn
  split
  · exact h
  · rfl
theorem bs_layNew_led (t : SetTable) (es : Array (Int × Value)) (h : Int) (x : Value) : (layNew t es h x).2.1.led = t.led := by
  unfold layNew
  split
  · exact bs_orStandIn_led _ _
  · rfl
theorem bs_layNew_plain (t : SetTable) (es : Array (Int × Value)) (h : Int) (x : Value) (hp : t.plain = false) : (layNew t es h x).2.1.plain = false := by
  unfold layNew
  split
  · exact bs_orStandIn_plain _ _ hp
  · rfl
theorem bs_relaid {t t' : SetTable} {hs : Array Int} {n : Nat} {o : Array Nat} (h : t.relaid hs n = some (t', o)) : t'.led = t.led ∧ t'.plain = t.plain := by
  unfold SetTable.relaid SetTable.laid at h
  cases e : SetTable.layClean (SetTable.sizeAbove n - 1) hs with
  | none => rw [e] at h; cases h
  | some w =>
    rw [e] at h
    cases h
    exact ⟨rfl, rfl⟩
theorem bs_relayAll (t : SetTable) (es : Array (Int × Value)) (n : Nat) : (relayAll t es n).2.1.led = t.led ∧ (t.plain = false → (relayAll t es n).2.1.plain = false) := by
  unfold relayAll
  split
  · rename_i t' o e
    obtain ⟨h1, h2⟩ := bs_relaid e
    dsimp only
    split
    · exact ⟨h1, fun h => h2.trans h⟩
    · exact ⟨rfl, fun _ => rfl⟩
  · exact ⟨rfl, fun _ => rfl⟩

/-- a set of octets -/
def BSetAt (prog : Program) (w : World) (h : Heap) (a : Addr) (S : List (Array UInt8)) : Prop :=
  ∃ es ep t, h.get? a = some { cls := .type "set", dict := none, data := .set es ep t } ∧ ElemsOf (PySem.W.bytesKind prog w) es.toList ∧ (es.toList.map fun e => octOf e.2).Nodup ∧
    (∀ b, b ∈ (es.toList.map fun e => octOf e.2) ↔ b ∈ S) ∧ es.size ≤ S.length ∧ t.fits es.size = true ∧ t.led = !(w.params.followText "set-order") ∧ (es.size ≠ 0 → t.plain = false)

section
variable {prog : Program} {w : World} {A : Around} {E : Value → Shared → Prop} {s : Shared}
theorem bs_is (b : Array UInt8) (tk : Tok) : (PySem.W.bytesKind prog w).is b.toList (.bytes b tk) = true := by
  show (b.toList == b.toList) = true
  exact beq_self_eq_true _
theorem bs_isOf {k : List UInt8} {v : Value} (h : (PySem.W.bytesKind prog w).is k v = true) : octOf v = k.toArray := by
  obtain ⟨t, rfl⟩ := PySem.W.isBytes_shape h
  rfl
theorem bs_none {es : List (Int × Value)} {b : Array UInt8} (hel : ElemsOf (PySem.W.bytesKind prog w) es) (hr : es.findIdx? (fun e => (PySem.W.bytesKind prog w).is b.toList e.2) = none) : b ∉ es.map fun e => octOf e.2 := fun h => by
  obtain ⟨e, he, rfl⟩ := List.mem_map.mp h
  obtain ⟨⟨k, hk, _⟩, _⟩ := hel e he
  have h1 := List.findIdx?_eq_none_iff.mp hr e he
  rw [bs_isOf hk] at h1
  exact absurd (hk.symm.trans h1) (by decide)
theorem bs_store {a : Addr} {es es' : Array (Int × Value)} {ep : Nat} {t t' : SetTable} {Q : Unit → Shared → Prop} (ho : s.heap.get? a = some { cls := .type "set", dict := none, data := .set es ep t }) (hz : es'.size ≤ sizeLine)
    (h : ∀ h', Heap.SameBut a s.heap h' → h'.get? a = some { cls := .type "set", dict := none, data := .set es' (ep + 1) t' } → Q () { s with heap := h' }) : wpAny (model prog w) A (storeSet a es' t') Q E s := by
  refine wpAny_storeSet_of ho rfl (h _ (Heap.SameBut.update s.heap a (Obj.putSet es' t')) ?_) hz
  have := Heap.get?_update_self (Obj.putSet es' t') ho (by rw [putSet_of es' t' rfl]; rfl)
  rw [putSet_of es' t' rfl] at this
  exact this

theorem bs_addHashed {a : Addr} {S : List (Array UInt8)} {b : Array UInt8} {tk : Tok} {Q : Bool → Shared → Prop} (hS : BSetAt prog w s.heap a S) (hroom : S.length + 1 < 4096)
    (h : ∀ r h', Heap.SameBut a s.heap h' → BSetAt prog w h' a (S ++ [b]) → Q r { s with heap := h' }) :
    wpAny (model prog w) A (setAddHashed a (.bytes b tk) ((PySem.W.bytesKind prog w).hash b.toList)) Q E s := by
  obtain ⟨es, ep, t, ho, hel, hnd, hmem, hsz, hf, hled, hpl⟩ := hS
  have hkey := bs_is (prog := prog) (w := w) b tk
  have hsb : scanBound = 4096 := rfl
  unfold setAddHashed setAddHashedIn
  refine wpAny_holding (wpAny_bind (wpAny_setState_of ho rfl hf ?_))
  dsimp only
  rw [byScan_of (knd := PySem.W.bytesKind prog w) rfl (by omega) hel]
  simp only [↓reduceIte]
  unfold setAddByScan
  refine wpAny_bind ?_
  refine wpAny_bind (wpAny_rule ?_)
  refine wpAny_bind (wpAny_setScan_of (knd := PySem.W.bytesKind prog w) hkey ho rfl hf hel ?_)
  cases hr : es.toList.findIdx? (fun e => (PySem.W.bytesKind prog w).is b.toList e.2) with
  | some j =>
    dsimp only
    obtain ⟨hj, hpj, _⟩ := List.findIdx?_eq_some_iff_getElem.mp hr
    have hin : b ∈ es.toList.map fun e => octOf e.2 := List.mem_map.mpr ⟨es.toList[j], List.getElem_mem hj, bs_isOf hpj⟩
    refine wpAny_pure (wpAny_pure ?_)
    refine h false s.heap (Heap.SameBut.refl a s.heap) ⟨es, ep, t, ho, hel, hnd, fun c => ?_, by rw [List.length_append]; omega, hf, hled, hpl⟩
    rw [hmem c, List.mem_append, List.mem_singleton]
    refine ⟨.inl, fun q => q.elim id fun q => ?_⟩
    rw [q]
    exact (hmem b).mp hin
  | none =>
    dsimp only
    have hno := bs_none hel hr
    have hgw : ∀ (b : Bool) {s₁ : Shared} {Q' : Unit → Shared → Prop}, Q' () s₁ → wpAny (model prog w) A (match b with | true => rule "set.scan.the-table-gave-way" | false => pure ()) Q' E s₁ :=
      fun b s₁ Q' hq => by cases b <;> first | exact wpAny_pure hq | exact wpAny_rule hq
    have hperm := layNew_perm t es ((PySem.W.bytesKind prog w).hash b.toList) (.bytes b tk)
    have hfits := layNew_fits t es ((PySem.W.bytesKind prog w).hash b.toList) (.bytes b tk)
    have hled1 := bs_layNew_led t es ((PySem.W.bytesKind prog w).hash b.toList) (.bytes b tk)
    have hpl1 := bs_layNew_plain t es ((PySem.W.bytesKind prog w).hash b.toList) (.bytes b tk)
    generalize layNew t es ((PySem.W.bytesKind prog w).hash b.toList) (.bytes b tk) = L at hperm hfits hled1 hpl1 ⊢
    obtain ⟨es1, t1, wasDummy, gave⟩ := L
    dsimp only at hperm hfits hled1 hpl1 ⊢
    rw [Array.toList_push] at hperm
    have hel1 : ElemsOf (PySem.W.bytesKind prog w) es1.toList := (hel.push hkey rfl).perm hperm
    have hsz1 : es1.size = es.size + 1 := by rw [← Array.length_toList, hperm.length_eq, List.length_append, Array.length_toList]; rfl
    have fin : ∀ (es2 : Array (Int × Value)) (ep2 : Nat) (t2 : SetTable) (h2 : Heap), es2.toList.Perm (es.toList ++ [((PySem.W.bytesKind prog w).hash b.toList, .bytes b tk)]) → h2.get? a = some { cls := .type "set", dict := none, data := .set es2 ep2 t2 } → t2.fits es2.size = true → t2.led = t.led → t2.plain = false → BSetAt prog w h2 a (S ++ [b]) := by
      intro es2 ep2 t2 h2 hp ho2 hf2 hl2 hp2
      have hm := hp.map fun e : Int × Value => octOf e.2
      rw [List.map_append] at hm
      refine ⟨es2, ep2, t2, ho2, (hel.push hkey rfl).perm hp, hm.nodup_iff.mpr ?_, fun c => ?_, ?_, hf2, hl2.trans hled, fun _ => hp2⟩
      · rw [List.nodup_append]
        refine ⟨hnd, by simp, fun x hx y hy e => hno ?_⟩
        rw [List.map_singleton, List.mem_singleton] at hy
        rw [e, hy] at hx
        exact hx
      · rw [hm.mem_iff, List.mem_append, List.mem_append, hmem c]
        rfl
      · rw [← Array.length_toList, hp.length_eq, List.length_append, List.length_append, Array.length_toList]
        exact Nat.succ_le_succ hsz
    refine wpAny_bind (hgw _ ?_)
    have tail : ∀ t2 : SetTable, t2.fits es1.size = true → t2.led = t.led → t2.plain = false → wpAny (model prog w) A (do
        storeSet a es1 t2
        if (!wasDummy && t2.tooFull) = true then do
            (match (relayAll t2 es1 (SetTable.grown es1.size)).2.2 with | true => rule "set.scan.the-table-gave-way" | false => pure ())
            storeSet a (relayAll t2 es1 (SetTable.grown es1.size)).1 (relayAll t2 es1 (SetTable.grown es1.size)).2.1
            pure (some true)
          else pure (some true)) (fun r s' => ∃ h', r = some true ∧ s' = { s with heap := h' } ∧ Heap.SameBut a s.heap h' ∧ BSetAt prog w h' a (S ++ [b])) E s := by
      intro t2 hf2 hl2 hp2
      refine wpAny_bind (bs_store ho (fits_of_scanBound (by omega)) fun h1 hs1 ho1 => ?_)
      split
      · have hp := relayAll_perm t2 es1 (SetTable.grown es1.size)
        have hfr := relayAll_fits t2 es1 (SetTable.grown es1.size)
        have hlp := bs_relayAll t2 es1 (SetTable.grown es1.size)
        generalize relayAll t2 es1 (SetTable.grown es1.size) = Rl at hp hfr hlp ⊢
        obtain ⟨es2, t3, gave2⟩ := Rl
        dsimp only at hp hfr hlp ⊢
        have hsz : es2.size = es1.size := by rw [← Array.length_toList, hp.length_eq, Array.length_toList]
        refine wpAny_bind (hgw _ ?_)
        refine wpAny_bind (bs_store (s := { s with heap := h1 }) ho1 (fits_of_scanBound (by omega)) fun h2 hs2 ho2 => wpAny_pure ⟨h2, rfl, rfl, hs1.trans hs2, fin _ _ _ _ (hp.trans hperm) ho2 hfr (hlp.1.trans hl2) (hlp.2 hp2)⟩)
      · exact wpAny_pure ⟨h1, rfl, rfl, hs1, fin _ _ _ _ hperm ho1 hf2 hl2 hp2⟩
    have last : ∀ r s', (∃ h', r = some true ∧ s' = { s with heap := h' } ∧ Heap.SameBut a s.heap h' ∧ BSetAt prog w h' a (S ++ [b])) → wpAny (model prog w) A (match r with | some added => pure added | none => setAddHashedIn a (.bytes b tk) ((PySem.W.bytesKind prog w).hash b.toList) 99999) Q E s' := by
      rintro r s' ⟨h', rfl, rfl, hs, hb⟩
      exact wpAny_pure (h true h' hs hb)
    split
    · refine wpAny_bind ?_
      rw [hashByValue_scannable 8 rfl]
      refine wpAny_pure ?_
      exact wpAny_mono (tail { t1 with plain := false } (SetTable.fits_plain_off hfits) hled1 rfl) last fun _ _ e => e
    · rename_i hnp
      refine wpAny_bind (wpAny_pure ?_)
      exact wpAny_mono (tail t1 hfits hled1 (by simpa using hnp)) last fun _ _ e => e
end
section
open PySem.F
variable {prog : Program} {w : World} {A : Around} {R : Result → Shared → Prop} {I : Addr} {fp wr : List Addr} {G : Array GenState → Array GenState → Prop} {n : Nat} {P : Nat → Value → Prop} {St : Nat → Shared → Prop}
theorem bs_moved {h h' : Heap} {a : Addr} {S : List (Array UInt8)} (hS : BSetAt prog w h a S) (k : ∀ o, h.get? a = some o → h'.get? a = some o) : BSetAt prog w h' a S := by
  obtain ⟨es, ep, t, ho, rest⟩ := hS
  exact ⟨es, ep, t, k _ ho, rest⟩
theorem bs_loop (W : WalksS prog w A.in1 I fp wr G n P St) (S : Addr) (hSf : S ∉ fp) (val : Nat → Array UInt8) (hval : ∀ i v, P i v → ∃ t, v = .bytes (val i) t) (hb : n + 1 < 4096) :
    ∀ (k i : Nat) (s : Shared), n - i = k → i ≤ n → St i s → BSetAt prog w s.heap S ((List.range i).map val) →
      (∀ s', Moved (S :: wr) G s s' → BSetAt prog w s'.heap S ((List.range n).map val) → R (.ok (.ret .none)) s') →
      codeAny (model prog w) A (.builtin "set.update.loop" ⟨[.ref S, .ref I], []⟩) R s := by
  have hSw : S ∉ wr := fun h => hSf (W.sub _ h)
  have hsub : ∀ b ∈ wr, b ∈ S :: wr := fun b hb => List.mem_cons_of_mem _ hb
  intro k
  induction k with
  | zero =>
    intro i s hk hi hst hS hR
    have hin : i = n := by omega
    subst hin
    refine codeAny_builtin PyProof.Rows.F.entry_set_update_loop ?_
    rw [Around.under_plainId PyProof.Rows.F.plain_set_update_loop _]
    show wpAny _ A.in1 (pyNext (.ref I) >>= _) _ _ s
    refine wpAny_bind (W.done s _ _ hst fun s' hm => ?_)
    show wpAny _ A.in1 (ret Value.none) _ _ s'
    exact wpAny_pure (hR s' (hm.mono hsub) (bs_moved hS fun o => hm.heap S o hSw))
  | succ k ih =>
    intro i s hk hi hst hS hR
    have hlt : i < n := by omega
    refine codeAny_builtin PyProof.Rows.F.entry_set_update_loop ?_
    rw [Around.under_plainId PyProof.Rows.F.plain_set_update_loop _]
    show wpAny _ A.in1 (pyNext (.ref I) >>= _) _ _ s
    refine wpAny_bind (W.item i s _ _ hlt hst fun v s' hP hst' hm => ?_)
    obtain ⟨t, rfl⟩ := hval i v hP
    have hS' := bs_moved hS fun o => hm.heap S o hSw
    show wpAny _ A.in1 (holding [Value.bytes (val i) t] (setAdd S (.bytes (val i) t)) >>= _) _ _ s'
    refine wpAny_bind (wpAny_holding ?_)
    unfold setAdd
    refine wpAny_holding ?_
    refine wpAny_bind ((PySem.W.bytesKind prog w).pyHash (k := (val i).toList) (bs_is _ _) ?_)
    refine bs_addHashed (s := { s' with toks := s'.toks + 1 }) hS' (by rw [List.length_map, List.length_range]; omega) fun r h' hsb hS2 => ?_
    have hSi : BSetAt prog w h' S ((List.range (i + 1)).map val) := by
      rw [List.range_succ, List.map_append]
      exact hS2
    refine wpAny_pure ⟨plainId_quiet PyProof.Rows.F.plain_set_update_loop _, ih (i + 1) _ (by omega) hlt (W.frame _ s' _ _ hst' (Nat.le_succ _) fun b hb o e => ?_) hSi fun s'' hm'' hS'' => ?_⟩
    · rw [hsb.2 b (fun h : b = S => hSf (by rw [← h]; exact hb))]; exact e
    · refine hR s'' (Moved.trans W.gtrans ((hm.mono hsub).then_heap (Nat.le_succ _) fun b o hb e => ?_) hm'') hS''
      rw [hsb.2 b (fun h : b = S => hb (by rw [h]; exact List.mem_cons_self))]; exact e
end
section
variable {prog : Program} {w : World} {A : Around} {E : Value → Shared → Prop} {s : Shared}
local macro_rules | `(tactic| wp_step) => `(tactic| (first | with_reducible (first | refine wpAny_pure ?_ | refine wpAny_bind ?_ | refine wpAny_holding ?_ | refine wpAny_standAt ?_ | refine wpAny_point ?_ | refine wpAny_rule ?_ | refine wpAny_letGo ?_ | refine wpAny_mkInt' ?_ | refine wpAny_fresh' ?_ | refine wpAny_alloc' ?_ | refine wpAny_attempt ?_ | refine wpAny_throw ?_ | refine wpAny_of_eq (by assumption) ?_ | refine wpAny_typeOf (by assumption) ?_ | refine wpAny_specialOf_val (by assumption) (by assumption) ?_ | refine wpAny_specialOf (by assumption) (by assumption) ?_ | refine wpAny_isInstance_val (by assumption) (by assumption) ?_ | refine wpAny_isInstance (by assumption) (by assumption) ?_ | refine wpAny_call ?_ | refine wpAny_runValue ?_ | refine wpAny_run ?_) | ((with_reducible apply wpAny_load'); focus (heap_get; done)) | ((with_reducible apply wpAny_update'); focus (heap_get; done)) | ((with_reducible apply wpAny_loadPart'); focus (heap_get; done)) | ((with_reducible apply wpAny_updatePart'); focus (heap_get; done)) | ((with_reducible apply wpAny_handled_none); focus (assumption; done)) | ((with_reducible apply wpAny_ite_false); focus (rfl; done)) | ((with_reducible apply wpAny_ite_true); focus (rfl; done)) | ((with_reducible apply wpAny_ite_false); focus (simp [*]; done)) | ((with_reducible apply wpAny_ite_true); focus (simp [*]; done)) | wp_delta | with_reducible_and_instances refine wpAny_pure ?_ | with_reducible_and_instances refine wpAny_bind ?_))
theorem bs_new {a : Value} {Q₁ : Value → Shared → Prop}
    (h : ∀ led : Bool, (led = !(w.params.followText "set-order")) → Q₁ (.ref s.heap.objs.size) { s with heap := s.heap.push { cls := .type "set", dict := none, data := .set #[] 0 (.fresh 0 0 led) } }) :
    codeAny (model prog w) A (.call (.builtin "set.__new__") ⟨[.type "set", a], []⟩) (wants Q₁ E) s := by
  refine codeAny_of_tree ?_
  show wpAny _ A.in1 (do checkBuiltinCall "set.__new__" ⟨[.type "set", a], []⟩; again (.builtin "set.__new__" ⟨[.type "set", a], []⟩)) _ _ s
  refine wpAny_bind (wpAny_of_eq (PySem.F.newCall_set_1 a) (wpAny_pure ⟨plainId_quiet PySem.F.plain_set_new _, codeAny_builtin PySem.F.entry_set_new ?_⟩))
  rw [Around.under_plainId PySem.F.plain_set_new _]
  unfold Builtin.«set.__new__» Builtin.Frozenset.newClass
  have hsub := sub_set_self
  obtain ⟨hp, g, d, tk, os⟩ := s
  dsimp only
  wp_walk
  refine wpAny_askSetting (wpAny_pure ?_)
  dsimp only
  simp only [newObj]
  refine wpAny_bind (wpAny_alloc (wpAny_pure ?_))
  exact wpAny_pure (h _ rfl)

set_option maxHeartbeats 3200000 in
theorem bs_call {l : Addr} {items : Array Value} {bs : List (Array UInt8)} {Q : Value → Shared → Prop}
    (hh : A.handled = none) (hl : s.heap.IsList l items) (hi : ∀ (i : Nat) (v : Value), items[i]? = some v → ∃ t, v = Value.bytes (bs.getD i #[]) t) (hlen : bs.length = items.size) (hb : items.size + 1 < 4096)
    (h : ∀ (h' : Heap) (tk : Nat), BSetAt prog w h' s.heap.objs.size bs → (∀ b o, b < s.heap.objs.size → s.heap.get? b = some o → h'.get? b = some o) → Q (.ref s.heap.objs.size) { s with heap := h', toks := tk }) :
    wpAny (model prog w) A (call (.type "set") [.ref l]) Q E s := by
  have hbs : (List.range items.size).map (fun i => bs.getD i #[]) = bs := by
    refine List.ext_getElem (by simp [hlen]) fun i h1 h2 => ?_
    rw [List.getElem_map, List.getElem_range, List.getD_eq_getElem?_getD, List.getElem?_eq_getElem h2]
    rfl
  obtain ⟨c, tl, hmro⟩ := PySem.F.called_set.mro
  have hmade := PySem.F.called_set.made
  have hsub := PySem.F.called_set.sub
  refine wpAny_call (codeAny_of_tree ?_)
  show wpAny _ _ (callAny (.type "set") _) _ _ _
  refine wpAny_pure ⟨Code.quiet_builtin _ (by decide +kernel), codeAny_builtin PySem.F.entry_type_call ?_⟩
  rw [Around.under_plain (weight_type_call_type "set" [.ref l] []) rfl]
  have h1 := PySem.F.called_set.notType
  have h2 := PySem.F.called_set.canCreate
  have hct := PySem.F.typeCall_set_1 (.ref l)
  repeat (any_goals (first | assumption | wp_step))
  refine codeAny_mono (bs_new (a := .ref l) (E := E) (Q₁ := fun obj s₁ => ∃ led : Bool, (led = !(w.params.followText "set-order")) ∧ obj = .ref s.heap.objs.size ∧ s₁ = { s with heap := s.heap.push { cls := .type "set", dict := none, data := .set #[] 0 (.fresh 0 0 led) } }) fun led e => ⟨led, e, rfl, rfl⟩) fun r s₁ hr => ?_
  cases r with
  | error e => exact hr
  | ok fl =>
    cases fl with
    | ret obj =>
      obtain ⟨led, hled, rfl, rfl⟩ := hr
      have hS : (s.heap.push { cls := .type "set", dict := none, data := .set #[] 0 (.fresh 0 0 led) }).get? s.heap.objs.size = some { cls := .type "set", dict := none, data := .set #[] 0 (.fresh 0 0 led) } := Heap.get?_push_size _ rfl
      have hT : Shared.TypeIs { s with heap := s.heap.push { cls := .type "set", dict := none, data := .set #[] 0 (.fresh 0 0 led) } } (.ref s.heap.objs.size) "set" := ⟨_, hS, rfl⟩
      have hli := PySem.F.called_set.init.lookup
      have hbi := PySem.F.called_set.init.bind (.ref s.heap.objs.size)
      repeat (any_goals (first | assumption | wp_step))
      refine codeAny_mono (codeAny_call_builtin (R := wants (fun r s₂ => r = .none ∧ ∃ h' tk, s₂ = { s with heap := h', toks := tk } ∧ BSetAt prog w h' s.heap.objs.size bs ∧ (∀ b o, b < s.heap.objs.size → s.heap.get? b = some o → h'.get? b = some o)) E) PySem.F.called_set.init.plain PySem.F.entry_set_init (check_set_init_1 hT ?_)) fun r₂ s₂ hr₂ => ?_
      · obtain ⟨ol, hol, hcl, nl, hdl⟩ := hl
        obtain ⟨ocls, odict, odata, oslots⟩ := ol
        simp only at hcl hdl
        subst hcl; subst hdl
        have hol' : (s.heap.push { cls := .type "set", dict := none, data := .set #[] 0 (.fresh 0 0 led) }).get? l = some { cls := .type "list", dict := odict, data := .seq items nl, slots := oslots } := Heap.get?_push_of_some _ hol
        have hsls := PySem.F.sub_list_set
        have hslf := PySem.F.sub_list_frozenset
        have hne : (Value.type "list" == Value.type "dict") = false := by decide
        have hl1 : (s.heap.push { cls := .type "set", dict := none, data := .set #[] 0 (.fresh 0 0 led) }).IsList l items := ⟨_, hol', rfl, nl, rfl⟩
        unfold Builtin.«set.__init__» noKeywords Builtin.Frozenset.updateFrom
        generalize hPI : pyIter = PI
        wp_walk
        subst hPI
        refine wpAny_pyIter_list hl1 ?_
        refine wpAny_bind (wpAny_runValue ?_)
        have hlS : l < s.heap.objs.size := Heap.lt_size hol
        have hh3 : A.in1.in1.in1.handled = none := by simp [hh]
        have hneI : l ≠ (s.heap.push { cls := .type "set", dict := none, data := .set #[] 0 (.fresh 0 0 led) }).objs.size := by
          rw [Heap.size_push]; exact Nat.ne_of_lt (Nat.lt_succ_of_lt hlS)
        have hSf : s.heap.objs.size ∉ [(s.heap.push { cls := .type "set", dict := none, data := .set #[] 0 (.fresh 0 0 led) }).objs.size, l] := by
          rw [Heap.size_push]; simp only [List.mem_cons, List.mem_singleton, List.not_mem_nil, or_false, not_or]
          exact ⟨Nat.ne_of_lt (Nat.lt_succ_self _), Nat.ne_of_gt hlS⟩
        refine bs_loop ((Walks.list hh3 _ l hneI items).toS) s.heap.objs.size hSf (fun i => bs.getD i #[]) hi hb (items.size - 0) 0 _ (by omega) (Nat.zero_le _) ⟨⟨_, Heap.get?_push_size _ rfl, rfl, rfl⟩, (hl1.push _)⟩ ?hS0 ?hR
        case hS0 =>
          exact ⟨#[], 0, _, Heap.get?_push_of_some _ hS, fun e he => by simp at he, by simp, fun b => by simp, Nat.zero_le _, rfl, hled, fun q => absurd rfl q⟩
        case hR =>
          intro s' hm hS'
          rw [hbs] at hS'
          obtain ⟨h', g', d', tk', os'⟩ := s'
          have eg : g' = s.gens := hm.gens
          have ed : d' = s.drawn := hm.drawn
          have eo : os' = s.os := hm.os
          subst eg; subst ed; subst eo
          show wpAny _ _ _ _ _ _
          refine wpAny_pure ?_
          show wpAny _ _ (ret Value.none) _ _ _
          refine wpAny_pure ⟨rfl, h', tk', rfl, hS', fun b o hb e => ?_⟩
          have hb1 : b ≠ s.heap.objs.size := Nat.ne_of_lt hb
          have hb2 : b ≠ (s.heap.push { cls := .type "set", dict := none, data := .set #[] 0 (.fresh 0 0 led) }).objs.size := by
            rw [Heap.size_push]; exact Nat.ne_of_lt (Nat.lt_succ_of_lt hb)
          exact hm.heap b o (by simp only [List.mem_cons, List.mem_singleton, List.not_mem_nil, or_false, not_or]; exact ⟨hb1, hb2⟩) (Heap.get?_push_of_some _ (Heap.get?_push_of_some _ e))
      · cases r₂ with
        | error e => exact hr₂
        | ok fl₂ =>
          cases fl₂ with
          | ret r =>
            obtain ⟨rfl, h', tk, rfl, hS', hk'⟩ := hr₂
            repeat (any_goals (first | assumption | wp_step))
            exact h _ _ hS' hk'
          | _ => exact hr₂.elim
    | _ => exact hr.elim
end

theorem off_S18 : True := by
  w_top off
  trivial
set_option pp.deepTerms false
set_option pp.deepTerms.threshold 6
theorem bs_erase {α : Type} : ∀ (l : List α) (i : Nat) (h : i < l.length), (l[i] :: l.eraseIdx i).Perm l
  | x :: r, 0, _ => List.Perm.refl _
  | x :: r, i + 1, h => by
    rw [List.getElem_cons_succ, List.eraseIdx_cons_succ]
    exact (List.Perm.swap _ _ _).trans (List.Perm.cons _ (bs_erase r i (by simpa using h)))
section
variable {prog : Program} {w : World} {A : Around} {E : Value → Shared → Prop}
theorem bs_choose {s : Shared} {src : Source} {n : Nat} {Q : Nat → Shared → Prop} (hn : n ≠ 0) (h : ∀ i d, i < n → Q i { s with drawn := d }) : wpAny (model prog w) A (choose src n) Q E s :=
  fun _ _ _ => ⟨hn, h _ _ (Nat.mod_lt _ (Nat.pos_of_ne_zero hn))⟩
theorem bs_drawOrder {α : Type} : ∀ (n : Nat) (xs : List α) (s : Shared) {Q : List α → Shared → Prop}, xs.length = n → (∀ ys d, ys.Perm xs → Q ys { s with drawn := d }) → wpAny (model prog w) A (drawOrder n xs) Q E s := by
  intro n
  induction n with
  | zero =>
    intro xs s Q hl h
    have e : xs = [] := List.eq_nil_of_length_eq_zero hl
    subst e
    unfold drawOrder
    exact wpAny_pure (h [] s.drawn (List.Perm.refl _))
  | succ n ih =>
    intro xs s Q hl h
    match xs, hl with
    | x :: r, hl =>
      unfold drawOrder
      refine wpAny_bind (bs_choose (by simp) fun i d hi => ?_)
      rw [List.getElem?_eq_getElem hi]
      dsimp only
      refine wpAny_bind (ih _ _ (by rw [List.length_eraseIdx_of_lt hi]; omega) fun ys d' hp => ?_)
      refine wpAny_pure (h _ d' ?_)
      exact (List.Perm.cons _ hp).trans (bs_erase _ i hi)
end
theorem bs_pickGo {α : Type} (next : Nat → Nat) : ∀ (n k : Nat) (left : List α) (out : Array α), left.length = n → (pickOrder.go next n k left out).toList.Perm (out.toList ++ left) := by
  intro n
  induction n with
  | zero =>
    intro k left out hl
    rw [List.eq_nil_of_length_eq_zero hl, List.append_nil]
    exact List.Perm.refl _
  | succ n ih =>
    intro k left out hl
    have hlt : next k % left.length < left.length := Nat.mod_lt _ (by omega)
    unfold pickOrder.go
    rw [List.getElem?_eq_getElem hlt]
    dsimp only
    refine (ih _ _ _ (by rw [List.length_eraseIdx_of_lt hlt]; omega)).trans ?_
    rw [Array.toList_push, List.append_assoc]
    exact List.Perm.append_left _ (bs_erase _ _ hlt)
theorem bs_pick {α : Type} (next : Nat → Nat) (xs : Array α) : (pickOrder next xs).toList.Perm xs.toList := by
  have := bs_pickGo next xs.size 0 xs.toList #[] (by simp)
  simpa [pickOrder] using this

theorem bs_slot_next : Slot "set_iterator" "__next__" "set_iterator.__next__" :=
  .of (owner := "set_iterator") (n := "__next__") (by rw [typeLookup_type, builtinLookup_eq_fast]; kernel_rfl) (by decide +kernel) (by decide +kernel) (by decide +kernel)
    (by first | exact .inl (by decide +kernel) | exact .inr (by decide +kernel)) (by rw [isSubtype_type]; kernel_rfl)
theorem bs_entry_next : entryFor table "set_iterator.__next__" = some Builtin.«set_iterator.__next__» := by first | exact entryFor_of_tree (by kernel_rfl) | exact entryFor_of_fast (by kernel_rfl)
theorem bs_entry_iter : entryFor table "set.__iter__" = some Builtin.«frozenset.__iter__» := entryFor_alias (id' := "frozenset.__iter__") (by kernel_rfl) rfl (by decide +kernel) (by kernel_rfl)
theorem bs_owner_iter : Manifest.owners.lookup (String.ofList ['r', 'o', 't', 'a', 'r', 'e', 't', 'i', '_', 't', 'e', 's'].reverse) = some Manifest.sig_set_iterator := by kernel_rfl
theorem bs_args_next (a : Value) : argsOk "set_iterator.__next__" ⟨[a], []⟩ := by
  unfold argsOk; rw [signature?_of (id := "set_iterator.__next__") (n := ['_', '_', 't', 'x', 'e', 'n', '_', '_']) (o := ['r', 'o', 't', 'a', 'r', 'e', 't', 'i', '_', 't', 'e', 's']) (by kernel_rfl) bs_owner_iter]; kernel_rfl

/-- the iterator of a set -/
abbrev bIter (first : Value) (i : Nat) (a : Addr) (n ep : Nat) : Obj := { cls := .type "set_iterator", data := .fields #[first, .int i 0, .ref a, .int n 0, .int ep 0] }
abbrev bSet (es : Array (Int × Value)) (ep : Nat) (t : SetTable) : Obj := { cls := .type "set", data := .set es ep t }
section
variable {prog : Program} {w : World} {A : Around} {E : Value → Shared → Prop} {s : Shared} {I a T : Addr} {i n ep f nx : Nat} {es : Array (Int × Value)} {t : SetTable} {v : Value} {places : Array Value}
theorem bs_next_int {Q : Option Value → Shared → Prop} (hI : s.heap.get? I = some (bIter (.int f 0) i a n ep)) (ho : s.heap.get? a = some (bSet es ep t)) (hf : t.fits es.size = true) (hn : es.size = n)
    (hs : ∀ (A : Around) (E : Value → Shared → Prop) (Q : Option (Value × Nat) → Shared → Prop), Q (some (v, nx)) s → wpAny (model prog w) A (setNext a f i ep) Q E s)
    (hQ : ∀ h', h'.get? I = some (bIter (.int nx 0) (i + 1) a n ep) → Heap.SameBut I s.heap h' → Q (some v) { s with heap := h' }) : wpAny (model prog w) A (pyNext (.ref I)) Q E s := by
  have hT : s.TypeIs (.ref I) "set_iterator" := ⟨_, hI, rfl⟩
  unfold pyNext
  refine wpAny_bind (wpAny_attempt (wpAny_callSpecial?_slot (name := Str.ofString "__next__") hT bs_slot_next (wpAny_call_entry bs_slot_next hT bs_entry_next ?_ (bs_args_next _))))
  unfold Builtin.«set_iterator.__next__»
  refine wpAny_bind (wpAny_of_eq (a := (Value.ref I, [])) rfl ?_)
  dsimp only
  refine wpAny_bind (wpAny_fieldsOf hI rfl ?_)
  dsimp only
  refine wpAny_bind (wpAny_setEntries_of ho rfl hf ?_)
  rw [hn]
  simp only [bne_self_eq_false, Bool.false_eq_true, ↓reduceIte, Int.toNat_natCast]
  refine wpAny_bind (hs _ _ _ ?_)
  dsimp only
  refine wpAny_bind (wpAny_setField_rec hI (by simp) fun h1 g1 s1 => ?_)
  refine wpAny_bind (wpAny_setField_rec (s := { s with heap := h1 }) g1 (by simp) fun h2 g2 s2 => ?_)
  exact wpAny_pure ⟨_, rfl, wpAny_pure (hQ h2 g2 (s1.trans s2))⟩
theorem bs_next_tup {Q : Option Value → Shared → Prop} {p : Nat} {tb : SetTable} {hv : Int} (hI : s.heap.get? I = some (bIter (.ref T) i a n ep)) (ho : s.heap.get? a = some (bSet es ep tb)) (hf : tb.fits es.size = true) (hn : es.size = n)
    (hT' : s.heap.get? T = some { cls := .type "tuple", data := .seq places 0 }) (hp : places[i]? = some (rawInt p)) (hv' : es[p]? = some (hv, v))
    (hQ : ∀ h', h'.get? I = some (bIter (.ref T) (i + 1) a n ep) → Heap.SameBut I s.heap h' → Q (some v) { s with heap := h' }) : wpAny (model prog w) A (pyNext (.ref I)) Q E s := by
  have hT : s.TypeIs (.ref I) "set_iterator" := ⟨_, hI, rfl⟩
  unfold pyNext
  refine wpAny_bind (wpAny_attempt (wpAny_callSpecial?_slot (name := Str.ofString "__next__") hT bs_slot_next (wpAny_call_entry bs_slot_next hT bs_entry_next ?_ (bs_args_next _))))
  unfold Builtin.«set_iterator.__next__»
  refine wpAny_bind (wpAny_of_eq (a := (Value.ref I, [])) rfl ?_)
  dsimp only
  refine wpAny_bind (wpAny_fieldsOf hI rfl ?_)
  dsimp only
  refine wpAny_bind (wpAny_setEntries_of ho rfl hf ?_)
  rw [hn]
  simp only [bne_self_eq_false, Bool.false_eq_true, ↓reduceIte, Int.toNat_natCast]
  refine wpAny_bind (wpAny_seqItems hT' rfl ?_)
  dsimp only
  rw [hp]
  unfold rawInt
  dsimp only
  refine wpAny_bind ?_
  unfold setNextDrawn
  refine wpAny_bind (wpAny_setState_of ho rfl hf ?_)
  simp only [Int.toNat_natCast, bne_self_eq_false, Bool.false_eq_true, ↓reduceIte]
  rw [hv']
  refine wpAny_pure ?_
  refine wpAny_bind (wpAny_setField_rec hI (by simp) fun h1 g1 s1 => ?_)
  exact wpAny_pure ⟨_, rfl, wpAny_pure (hQ h1 g1 s1)⟩
theorem bs_stop {h : Heap} {Q : Option Value → Shared → Prop} (hh : A.handled = none) (hQ : ∀ h', (∀ b o, h.get? b = some o → h'.get? b = some o) → Q none { s with heap := h' }) :
    wpAny (model prog w) A.in1 (newExc (.type "StopIteration") [] >>= raiseNew) (fun (fin : Fin) s' => ∃ v, fin = Fin.done (.ret v) ∧ wpAny (model prog w) A (pure (some v)) Q E s')
      (fun e s' => wpAny (model prog w) A (do if (← isInstance e (.type "StopIteration")) = true then pure none else throw e) Q E s') { s with heap := h } := by
  refine wpAny_bind ?_
  simp only [newExc, newTuple]
  refine wpAny_bind (wpAny_newObj_type ?_ (by size_fits))
  refine wpAny_bind (m := firstArgMember _ _) (wpAny_of_eq (a := Value.none) (by first | rfl | (simp only [firstArgMember]; rfl)) ?_)
  refine wpAny_newObj_type ?_ (by size_fits)
  simp only [raiseNew]
  refine wpAny_bind (wpAny_handled ?_)
  rw [show A.in1.handled = none from hh]
  refine wpAny_bind (wpAny_pure (wpAny_throw ?_))
  refine wpAny_bind (wpAny_isInstance (T := "StopIteration") (b := true) ⟨_, Heap.get?_push_size _ rfl, rfl⟩ isSubtype_stop ?_)
  exact wpAny_pure (hQ _ fun b o e => Heap.get?_push_of_some _ (Heap.get?_push_of_some _ e))
theorem bs_end_int {Q : Option Value → Shared → Prop} (hh : A.handled = none) (hI : s.heap.get? I = some (bIter (.int f 0) i a n ep)) (ho : s.heap.get? a = some (bSet es ep t)) (hf : t.fits es.size = true) (hn : es.size = n)
    (hs : ∀ (A : Around) (E : Value → Shared → Prop) (Q : Option (Value × Nat) → Shared → Prop), Q none s → wpAny (model prog w) A (setNext a f i ep) Q E s)
    (hQ : ∀ h', (∀ b o, b ≠ I → s.heap.get? b = some o → h'.get? b = some o) → Q none { s with heap := h' }) : wpAny (model prog w) A (pyNext (.ref I)) Q E s := by
  have hT : s.TypeIs (.ref I) "set_iterator" := ⟨_, hI, rfl⟩
  unfold pyNext
  refine wpAny_bind (wpAny_attempt (wpAny_callSpecial?_slot (name := Str.ofString "__next__") hT bs_slot_next (wpAny_call_entry bs_slot_next hT bs_entry_next ?_ (bs_args_next _))))
  unfold Builtin.«set_iterator.__next__»
  refine wpAny_bind (wpAny_of_eq (a := (Value.ref I, [])) rfl ?_)
  dsimp only
  refine wpAny_bind (wpAny_fieldsOf hI rfl ?_)
  dsimp only
  refine wpAny_bind (wpAny_setEntries_of ho rfl hf ?_)
  rw [hn]
  simp only [bne_self_eq_false, Bool.false_eq_true, ↓reduceIte, Int.toNat_natCast]
  refine wpAny_bind (hs _ _ _ ?_)
  dsimp only
  refine wpAny_bind (wpAny_setField_rec hI (by simp) fun h1 g1 s1 => ?_)
  exact bs_stop hh fun h' k => hQ h' fun b o hb e => k b o ((s1.2 b hb).trans e)
theorem bs_end_tup {Q : Option Value → Shared → Prop} {tb : SetTable} (hh : A.handled = none) (hI : s.heap.get? I = some (bIter (.ref T) i a n ep)) (ho : s.heap.get? a = some (bSet es ep tb)) (hf : tb.fits es.size = true) (hn : es.size = n)
    (hT' : s.heap.get? T = some { cls := .type "tuple", data := .seq places 0 }) (hp : places[i]? = none)
    (hQ : ∀ h', (∀ b o, b ≠ I → s.heap.get? b = some o → h'.get? b = some o) → Q none { s with heap := h' }) : wpAny (model prog w) A (pyNext (.ref I)) Q E s := by
  have hT : s.TypeIs (.ref I) "set_iterator" := ⟨_, hI, rfl⟩
  unfold pyNext
  refine wpAny_bind (wpAny_attempt (wpAny_callSpecial?_slot (name := Str.ofString "__next__") hT bs_slot_next (wpAny_call_entry bs_slot_next hT bs_entry_next ?_ (bs_args_next _))))
  unfold Builtin.«set_iterator.__next__»
  refine wpAny_bind (wpAny_of_eq (a := (Value.ref I, [])) rfl ?_)
  dsimp only
  refine wpAny_bind (wpAny_fieldsOf hI rfl ?_)
  dsimp only
  refine wpAny_bind (wpAny_setEntries_of ho rfl hf ?_)
  rw [hn]
  simp only [bne_self_eq_false, Bool.false_eq_true, ↓reduceIte, Int.toNat_natCast]
  refine wpAny_bind (wpAny_seqItems hT' rfl ?_)
  dsimp only
  rw [hp]
  dsimp only
  refine wpAny_bind (wpAny_setField_rec hI (by simp) fun h1 g1 s1 => ?_)
  refine wpAny_bind (wpAny_setField_rec (s := { s with heap := h1 }) g1 (by simp) fun h2 g2 s2 => ?_)
  exact bs_stop hh fun h' k => hQ h' fun b o hb e => k b o ((s2.2 b hb).trans ((s1.2 b hb).trans e))
end

theorem off_S19 : True := by
  w_top off
  trivial
set_option pp.deepTerms false
set_option pp.deepTerms.threshold 6
theorem bs_slot_self : Slot "set_iterator" "__iter__" "set_iterator.__iter__" :=
  .of (owner := "set_iterator") (n := "__iter__") (by rw [typeLookup_type, builtinLookup_eq_fast]; kernel_rfl) (by decide +kernel) (by decide +kernel) (by decide +kernel)
    (by first | exact .inl (by decide +kernel) | exact .inr (by decide +kernel)) (by rw [isSubtype_type]; kernel_rfl)
theorem bs_entry_self : entryFor table "set_iterator.__iter__" = some Builtin.«dict_keyiterator.__iter__» := entryFor_alias (id' := "dict_keyiterator.__iter__") (by kernel_rfl) rfl (by decide +kernel) (by kernel_rfl)
theorem bs_args_self (a : Value) : argsOk "set_iterator.__iter__" ⟨[a], []⟩ := by
  unfold argsOk; rw [signature?_of (id := "set_iterator.__iter__") (n := ['_', '_', 'r', 'e', 't', 'i', '_', '_']) (o := ['r', 'o', 't', 'a', 'r', 'e', 't', 'i', '_', 't', 'e', 's']) (by kernel_rfl) bs_owner_iter]; kernel_rfl
/-- what is drawn of a set of octets -/
def BOut (vs : List Value) (S : List (Array UInt8)) : Prop := (∀ v ∈ vs, ∃ b t, v = .bytes b t) ∧ (vs.map octOf).Nodup ∧ ∀ b, b ∈ vs.map octOf ↔ b ∈ S
section
variable {prog : Program} {w : World} {A : Around} {E : Value → Shared → Prop} {s : Shared} {I a T : Addr} {n ep : Nat} {es : Array (Int × Value)} {t : SetTable} {vs : List Value}
theorem bs_self {i : Nat} {first : Value} {Q : Value → Shared → Prop} (hI : s.heap.get? I = some (bIter first i a n ep)) (h : Q (.ref I) s) : wpAny (model prog w) A (pyIter (.ref I)) Q E s := by
  have hT : s.TypeIs (.ref I) "set_iterator" := ⟨_, hI, rfl⟩
  refine wpAny_pyIter_slot hT bs_slot_self (wpAny_call_entry bs_slot_self hT bs_entry_self ?_ (bs_args_self _))
  show wpAny _ _ (ret (.ref I)) _ _ s
  exact wpAny_pure ⟨_, rfl, "set_iterator", _, hT, bs_slot_next.lookup, h⟩
theorem bs_walks_int (hh : A.handled = none) (hIa : I ≠ a) (hf : t.fits es.size = true) (hn : es.size = vs.length) (f : Nat → Nat)
    (hs : ∀ (i : Nat) (s : Shared) (A : Around) (E : Value → Shared → Prop) (Q : Option (Value × Nat) → Shared → Prop) (hi : i < vs.length), s.heap.get? a = some (bSet es ep t) → Q (some (vs[i], f (i + 1))) s → wpAny (model prog w) A (setNext a (f i) i ep) Q E s)
    (he : ∀ (s : Shared) (A : Around) (E : Value → Shared → Prop) (Q : Option (Value × Nat) → Shared → Prop), s.heap.get? a = some (bSet es ep t) → Q none s → wpAny (model prog w) A (setNext a (f vs.length) vs.length ep) Q E s) :
    Walks prog w A I [I, a] [I] vs.length (fun i v => vs[i]? = some v) (fun i h => h.get? I = some (bIter (.int (f i) 0) i a vs.length ep) ∧ h.get? a = some (bSet es ep t)) where
  sub := fun b hb => List.mem_of_mem_head? (by rw [List.mem_singleton.mp hb]; rfl)
  frame := fun i h h' ⟨h1, h2⟩ k => ⟨k I (.head _) _ h1, k a (.tail _ (.head _)) _ h2⟩
  item := fun i s Q E hi ⟨h1, h2⟩ hQ => bs_next_int h1 h2 hf hn (fun A E Q q => hs i s A E Q hi h2 q) fun h' g1 sb => by
    have := hQ vs[i] h' s.toks (List.getElem?_eq_getElem hi) ⟨g1, (sb.2 a (Ne.symm hIa)).trans h2⟩ fun b o hb e => (sb.2 b (fun q => hb (List.mem_singleton.mpr q))).trans e
    exact this
  done := fun s Q E ⟨h1, h2⟩ hQ => bs_end_int hh h1 h2 hf hn (fun A E Q q => he s A E Q h2 q) fun h' k => hQ h' s.toks fun b o hb e => k b o (fun q => hb (List.mem_singleton.mpr q)) e
  self := fun i s Q E ⟨h1, _⟩ h => bs_self h1 h
theorem bs_walks_tup {ys : List Nat} (hh : A.handled = none) (hIa : I ≠ a) (hIT : I ≠ T) (hf : t.fits es.size = true) (hn : es.size = vs.length) (hy : ys.length = vs.length)
    (hv : ∀ i, i < vs.length → ∃ p hv, ys[i]? = some p ∧ es[p]? = some (hv, vs.getD i .none)) :
    Walks prog w A I [I, a, T] [I] vs.length (fun i v => vs[i]? = some v) (fun i h => h.get? I = some (bIter (.ref T) i a vs.length ep) ∧ h.get? a = some (bSet es ep t) ∧ h.get? T = some { cls := .type "tuple", data := .seq (ys.map fun i : Nat => rawInt i).toArray 0 }) where
  sub := fun b hb => List.mem_of_mem_head? (by rw [List.mem_singleton.mp hb]; rfl)
  frame := fun i h h' ⟨h1, h2, h3⟩ k => ⟨k I (.head _) _ h1, k a (.tail _ (.head _)) _ h2, k T (.tail _ (.tail _ (.head _))) _ h3⟩
  item := fun i s Q E hi ⟨h1, h2, h3⟩ hQ => by
    obtain ⟨p, hash, e1, e2⟩ := hv i hi
    refine bs_next_tup (p := p) (hv := hash) h1 h2 hf hn h3 (by simp [e1]) e2 fun h' g1 sb => ?_
    exact hQ _ h' s.toks (by rw [List.getD_eq_getElem?_getD, List.getElem?_eq_getElem hi]; rfl) ⟨g1, (sb.2 a (Ne.symm hIa)).trans h2, (sb.2 T (Ne.symm hIT)).trans h3⟩ fun b o hb e => (sb.2 b (fun q => hb (List.mem_singleton.mpr q))).trans e
  done := fun s Q E ⟨h1, h2, h3⟩ hQ => bs_end_tup hh h1 h2 hf hn h3 (by simp [hy]) fun h' k => hQ h' s.toks fun b o hb e => k b o (fun q => hb (List.mem_singleton.mpr q)) e
  self := fun i s Q E ⟨h1, _⟩ h => bs_self h1 h
theorem bs_out {S : List (Array UInt8)} (hel : ElemsOf (PySem.W.bytesKind prog w) es.toList) (hnd : (es.toList.map fun e => octOf e.2).Nodup) (hmem : ∀ b, b ∈ (es.toList.map fun e => octOf e.2) ↔ b ∈ S) {es' : List (Int × Value)} (hp : es'.Perm es.toList) : BOut (es'.map (·.2)) S := by
  have hm : ((es'.map (·.2)).map octOf).Perm (es.toList.map fun e => octOf e.2) := by
    rw [List.map_map]
    exact hp.map _
  refine ⟨fun v hv => ?_, hm.nodup_iff.mpr hnd, fun b => by rw [hm.mem_iff, hmem b]⟩
  obtain ⟨e, he, rfl⟩ := List.mem_map.mp hv
  obtain ⟨⟨k, hk, _⟩, _⟩ := hel e (hp.mem_iff.mp he)
  obtain ⟨t, ht⟩ := PySem.W.isBytes_shape hk
  exact ⟨_, t, ht⟩
end

theorem off_S20 : True := by
  w_top off
  trivial
set_option pp.deepTerms false
set_option pp.deepTerms.threshold 6
section
variable {prog : Program} {w : World} {A : Around} {E : Value → Shared → Prop} {s : Shared} {a : Addr} {S : List (Array UInt8)}
theorem bs_drawnIs (es : Array (Int × Value)) (ep : Nat) (t : SetTable) {Q : Bool → Shared → Prop} (ho : s.heap.get? a = some (bSet es ep t)) (hf : t.fits es.size = true) (hQ : Q (!(w.params.followText "set-order") && (!t.plain && decide (es.size > 1))) s) :
    wpAny (model prog w) A (setDrawn a) Q E s := by
  unfold setDrawn setsByText
  refine wpAny_bind (wpAny_setState_of ho rfl hf ?_)
  dsimp only
  refine wpAny_bind (wpAny_bind (wpAny_askSetting (wpAny_pure ?_)))
  exact wpAny_pure hQ
theorem bs_byText {Q : Bool → Shared → Prop} (hQ : Q (w.params.followText "set-order") s) : wpAny (model prog w) A setsByText Q E s := by
  unfold setsByText
  exact wpAny_bind (wpAny_askSetting (wpAny_pure hQ))
theorem bs_next_text {es : Array (Int × Value)} {ep : Nat} {t : SetTable} {vs : List Value} {i : Nat} {Q : Option (Value × Nat) → Shared → Prop} (hb : w.params.followText "set-order" = true) (hf : t.fits es.size = true) (ho : s.heap.get? a = some (bSet es ep t))
    (hvs : (pickOrder (w.params.setOrder a ep) es).toList.map (·.2) = vs) (hQ : Q (vs[i]?.map fun v => (v, 0)) s) : wpAny (model prog w) A (setNext a 0 i ep) Q E s := by
  unfold setNext
  refine wpAny_bind (wpAny_setState_of ho rfl hf ?_)
  dsimp only
  refine wpAny_bind (bs_byText ?_)
  rw [hb]
  simp only [↓reduceIte, bne_self_eq_false, Bool.false_eq_true]
  refine wpAny_bind ?_
  unfold setWalk
  refine wpAny_bind (wpAny_setState_of ho rfl hf ?_)
  dsimp only
  refine wpAny_bind (bs_byText ?_)
  rw [hb]
  simp only [↓reduceIte]
  refine wpAny_bind (wpAny_askSetting (wpAny_pure (wpAny_pure ?_)))
  have e : ((pickOrder (w.params.setOrder a ep) es)[i]?).map (fun e => (e.2, 0)) = vs[i]?.map fun v => (v, 0) := by
    rw [← hvs, List.getElem?_map, Array.getElem?_toList, Option.map_map]
    rfl
  show Q (((pickOrder (w.params.setOrder a ep) es)[i]?).map (fun e => (e.2, 0))) s
  rw [e]
  exact hQ
theorem bs_next_one {es : Array (Int × Value)} {ep : Nat} {t : SetTable} {f i : Nat} {Q : Option (Value × Nat) → Shared → Prop} (hb : w.params.followText "set-order" = false) (hf : t.fits es.size = true) (ho : s.heap.get? a = some (bSet es ep t))
    (h1 : ¬ es.size > 1) (hl : t.led = true) (hQ : Q (match es[SetTable.below t.place f]?, t.place[SetTable.below t.place f]? with | some (_, x), some j => some (x, j + 1) | _, _ => none) s) : wpAny (model prog w) A (setNext a f i ep) Q E s := by
  unfold setNext
  refine wpAny_bind (wpAny_setState_of ho rfl hf ?_)
  dsimp only
  refine wpAny_bind (bs_byText ?_)
  rw [hb]
  simp only [Bool.false_eq_true, ↓reduceIte]
  have hd : (!t.plain && decide (es.size > 1)) = false := by rw [decide_eq_false h1, Bool.and_false]
  refine wpAny_ite_split (fun q => absurd (hd.symm.trans q) (by decide)) (fun _ => ?_)
  refine wpAny_bind (m := _) (wpAny_ite_split (fun q => ?_) (fun _ => wpAny_pure ?_))
  · rw [hl] at q
    exact absurd q (by simp)
  · exact wpAny_pure hQ
theorem bs_iter {Q : Value → Shared → Prop} (hS : BSetAt prog w s.heap a S) (hne : S ≠ []) (hz : S.length ≤ 4096)
    (h : ∀ (vs : List Value) (I : Addr) (h' : Heap) (d : Drawn) (fp : List Addr) (St : Nat → Heap → Prop), BOut vs S → (∀ A : Around, A.handled = none → Walks prog w A I fp [I] vs.length (fun i v => vs[i]? = some v) St) → St 0 h' →
      (∀ b o, s.heap.get? b = some o → h'.get? b = some o) → s.heap.get? I = none → (∀ b ∈ fp, b = a ∨ s.heap.get? b = none) → vs.length ≤ S.length → Q (.ref I) { s with heap := h', drawn := d }) :
    wpAny (model prog w) A (pyIter (.ref a)) Q E s := by
  obtain ⟨es, ep, t, ho, hel, hnd, hmem, hsz, hf, hled, hpl⟩ := hS
  have hT : s.TypeIs (.ref a) "set" := ⟨_, ho, rfl⟩
  have ha : a < s.heap.objs.size := Heap.lt_size ho
  have h1 : 1 ≤ es.size := by
    cases S with
    | nil => exact absurd rfl hne
    | cons b r =>
      have := List.length_pos_of_mem ((hmem b).mpr (.head _))
      rw [List.length_map, Array.length_toList] at this
      exact this
  have h1' := Nat.le_trans h1 hsz
  have big : ∀ b, s.heap.objs.size ≤ b → s.heap.get? b = none := fun b hb => by
    cases q : s.heap.get? b with
    | none => rfl
    | some o => exact absurd (Heap.lt_size q) (Nat.not_lt.mpr hb)
  refine wpAny_pyIter_slot hT PySem.F.slot_set_iter (wpAny_call_entry PySem.F.slot_set_iter hT bs_entry_iter ?_ (PySem.F.args_set_iter_1 _))
  unfold Builtin.«frozenset.__iter__»
  refine wpAny_bind (wpAny_of_eq (a := a) rfl ?_)
  refine wpAny_bind ?_
  unfold Builtin.Frozenset.sizeOf
  refine wpAny_bind (wpAny_setEntries_of ho rfl hf (wpAny_pure ?_))
  refine wpAny_bind (bs_drawnIs es ep t ho hf ?_)
  cases hb : w.params.followText "set-order" with
  | true =>
    have hd : (!true && (!t.plain && decide (es.size > 1))) = false := rfl
    rw [hd]
    simp only [Bool.false_eq_true, ↓reduceIte]
    refine wpAny_bind (wpAny_pure ?_)
    refine wpAny_bind ?_
    unfold setEpoch
    refine wpAny_bind (wpAny_setState_of ho rfl hf (wpAny_pure ?_))
    obtain ⟨vs, hvs⟩ : ∃ vs, (pickOrder (w.params.setOrder a ep) es).toList.map (·.2) = vs := ⟨_, rfl⟩
    have hp := bs_pick (w.params.setOrder a ep) es
    have hl : es.size = vs.length := by rw [← hvs, List.length_map, hp.length_eq, Array.length_toList]
    refine wpAny_bind (wpAny_newObj_type (wpAny_pure ⟨_, rfl, "set_iterator", _, ⟨_, Heap.get?_push_size _ rfl, rfl⟩, bs_slot_next.lookup, ?_⟩))
    refine h vs _ _ s.drawn [s.heap.objs.size, a] _ ?_ (fun A hh => bs_walks_int (es := es) (ep := ep) (t := t) hh (Nat.ne_of_gt ha) hf hl (fun _ => 0) (fun i s A E Q hi h2 q => bs_next_text hb hf h2 hvs ?_) fun s A E Q h2 q => bs_next_text hb hf h2 hvs ?_) ⟨?_, ?_⟩ (fun b o e => Heap.get?_push_of_some _ e) (big _ (Nat.le_refl _)) ?_ (by omega)
    · rw [← hvs]
      exact bs_out hel hnd hmem hp
    · rw [List.getElem?_eq_getElem hi]
      exact q
    · rw [List.getElem?_eq_none (Nat.le_refl _)]
      exact q
    · rw [← hl]
      exact Heap.get?_push_size _ rfl
    · exact Heap.get?_push_of_some _ ho
    · intro b hm
      rcases List.mem_cons.mp hm with rfl | hm
      · exact .inr (big _ (Nat.le_refl _))
      · exact .inl (List.mem_singleton.mp hm)
  | false =>
    have hled' : t.led = true := by rw [hled, hb]; rfl
    by_cases hgt : es.size > 1
    · have hpl' : t.plain = false := hpl (by omega)
      have hd : (!false && (!t.plain && decide (es.size > 1))) = true := by rw [hpl', decide_eq_true hgt]; rfl
      rw [hd]
      simp only [↓reduceIte]
      refine wpAny_bind (bs_drawOrder es.size (List.range es.size) _ List.length_range fun ys d hy => ?_)
      have hyl : ys.length = es.size := by rw [hy.length_eq, List.length_range]
      refine wpAny_bind (wpAny_newTuple ?_ (by rw [List.length_map, hyl]; have := sizeLine_eq; omega))
      refine wpAny_bind ?_
      unfold setEpoch
      refine wpAny_bind (wpAny_setState_of (Heap.get?_push_of_some _ ho) rfl hf (wpAny_pure ?_))
      refine wpAny_bind (wpAny_newObj_type (wpAny_pure ⟨_, rfl, "set_iterator", _, ⟨_, Heap.get?_push_size _ rfl, rfl⟩, bs_slot_next.lookup, ?_⟩))
      have hpm : (ys.map fun p => es.toList.getD p (0, .none)).Perm es.toList := by
        refine (hy.map _).trans (List.Perm.of_eq ?_)
        refine List.ext_getElem (by simp) fun i h1 h2 => ?_
        rw [List.getElem_map, List.getElem_range, List.getD_eq_getElem?_getD, List.getElem?_eq_getElem h2]
        rfl
      obtain ⟨vs, hvs⟩ : ∃ vs, (ys.map fun p => es.toList.getD p (0, .none)).map (·.2) = vs := ⟨_, rfl⟩
      have hl : es.size = vs.length := by rw [← hvs, List.length_map, List.length_map, hyl]
      have hz1 : (s.heap.push { cls := Value.type "tuple", data := Data.seq (List.map (fun i : Nat => rawInt ↑i) ys).toArray }).objs.size = s.heap.objs.size + 1 := Heap.size_push ..
      refine h vs _ _ d [_, a, s.heap.objs.size] _ ?_ (fun A hh => bs_walks_tup (T := s.heap.objs.size) (ys := ys) (es := es) (ep := ep) (t := t) hh (by rw [hz1]; exact Nat.ne_of_gt (Nat.lt_succ_of_lt ha)) (by rw [hz1]; exact Nat.succ_ne_self _) hf hl (by rw [hyl, hl]) fun i hi => ?_) ⟨?_, ?_, ?_⟩ (fun b o e => Heap.get?_push_of_some _ (Heap.get?_push_of_some _ e)) (big _ (by rw [hz1]; omega)) ?_ (by omega)
      · rw [← hvs]
        exact bs_out hel hnd hmem hpm
      · have hiy : i < ys.length := by omega
        have hpl : ys[i] < es.size := by
          have := hy.mem_iff.mp (List.getElem_mem hiy)
          simpa using this
        refine ⟨ys[i], es[ys[i]].1, List.getElem?_eq_getElem hiy, ?_⟩
        rw [Array.getElem?_eq_getElem hpl, ← hvs, List.getD_eq_getElem?_getD, List.getElem?_map, List.getElem?_map, List.getElem?_eq_getElem hiy]
        simp only [Option.map_some, Option.getD_some]
        rw [List.getD_eq_getElem?_getD, Array.getElem?_toList, Array.getElem?_eq_getElem hpl]
        rfl
      · rw [← hl]
        exact Heap.get?_push_size _ rfl
      · exact Heap.get?_push_of_some _ (Heap.get?_push_of_some _ ho)
      · exact Heap.get?_push_of_some _ (Heap.get?_push_size _ rfl)
      · intro b hm
        rcases List.mem_cons.mp hm with rfl | hm
        · exact .inr (big _ (by rw [hz1]; omega))
        rcases List.mem_cons.mp hm with rfl | hm
        · exact .inl rfl
        · rw [List.mem_singleton.mp hm]
          exact .inr (big _ (Nat.le_refl _))
    · have hd : (!false && (!t.plain && decide (es.size > 1))) = false := by rw [decide_eq_false hgt, Bool.and_false]; rfl
      rw [hd]
      simp only [Bool.false_eq_true, ↓reduceIte]
      have hes : es.size = 1 := by omega
      have hpz : t.place.size = 1 := by
        have := hf
        simp only [SetTable.fits, Bool.and_eq_true, beq_iff_eq, decide_eq_true_eq] at this
        rw [this.1, hes]
      obtain ⟨e, rfl⟩ : ∃ e, es = #[e] := ⟨es[0], by
        apply Array.ext
        · simp [hes]
        · intro i h1 h2
          have : i = 0 := by simp at h2; omega
          subst this
          rfl⟩
      obtain ⟨j, hj⟩ : ∃ j, t.place = #[j] := ⟨t.place[0], by
        apply Array.ext
        · simp [hpz]
        · intro i h1 h2
          have : i = 0 := by simp at h2; omega
          subst this
          rfl⟩
      have b0 : SetTable.below #[j] 0 = 0 := rfl
      have b1 : SetTable.below #[j] (j + 1) = 1 := by
        unfold SetTable.below SetTable.below.go
        simp [SetTable.below.go]
      refine wpAny_bind (wpAny_pure ?_)
      refine wpAny_bind ?_
      unfold setEpoch
      refine wpAny_bind (wpAny_setState_of ho rfl hf (wpAny_pure ?_))
      refine wpAny_bind (wpAny_newObj_type (wpAny_pure ⟨_, rfl, "set_iterator", _, ⟨_, Heap.get?_push_size _ rfl, rfl⟩, bs_slot_next.lookup, ?_⟩))
      refine h [e.2] _ _ s.drawn [s.heap.objs.size, a] _ ?_ (fun A hh => bs_walks_int (vs := [e.2]) (es := #[e]) (ep := ep) (t := t) hh (Nat.ne_of_gt ha) hf rfl (fun i => if i = 0 then 0 else j + 1) (fun i s A E Q hi h2 q => bs_next_one hb hf h2 (by simp) hled' ?_) fun s A E Q h2 q => bs_next_one hb hf h2 (by simp) hled' ?_) ⟨?_, ?_⟩ (fun b o e => Heap.get?_push_of_some _ e) (big _ (Nat.le_refl _)) ?_ h1'
      · exact bs_out hel hnd hmem (List.Perm.refl _)
      · have hi0 : i = 0 := by simp at hi; omega
        subst hi0
        simp only [↓reduceIte, hj, b0]
        exact q
      · simp only [List.length_singleton, Nat.succ_ne_zero, ↓reduceIte, hj, b1]
        exact q
      · exact Heap.get?_push_size _ rfl
      · exact Heap.get?_push_of_some _ ho
      · intro b hm
        rcases List.mem_cons.mp hm with rfl | hm
        · exact .inr (big _ (Nat.le_refl _))
        · exact .inl (List.mem_singleton.mp hm)
end

theorem off_S21 : True := by
  w_top off
  trivial
set_option pp.deepTerms false
set_option pp.deepTerms.threshold 6
/-- the order of octets -/
def ordB (b : Array UInt8) : List Nat := b.toList.map (·.toNat)
theorem ordB_inj {a b : Array UInt8} (h : ordB a = ordB b) : a = b := by
  apply Array.toList_inj.mp
  exact (List.map_inj_right (f := UInt8.toNat) (fun x y e => UInt8.toNat_inj.mp e)).mp h
open Builtin in
theorem order_lt : ∀ a b : List UInt8, (Bytes.order a b == .lt) = decide (a.map (·.toNat) < b.map (·.toNat))
  | [], [] => by simp [Bytes.order]
  | [], _ :: _ => by simp [Bytes.order]
  | _ :: _, [] => by simp [Bytes.order]
  | x :: a, y :: b => by
    have ih := order_lt a b
    simp only [Bytes.order, List.map_cons, List.cons_lt_cons_iff]
    by_cases h1 : x < y
    · have h1' : x.toNat < y.toNat := h1
      simp [h1, h1']
    · have h1' : ¬ x.toNat < y.toNat := h1
      by_cases h2 : x > y
      · have h2' : y.toNat < x.toNat := h2
        have : ¬ x.toNat = y.toNat := by omega
        simp [h1, h2, h1', this]
      · have h2' : ¬ y.toNat < x.toNat := h2
        have : x.toNat = y.toNat := by omega
        simp [h1, h2, this, ih]
@[reducible] def bytesSort : PyProof.Rows.KeyKind where
  α := List Nat
  blt a b := decide (a < b)
  irrefl a := by simpa using List.lt_irrefl a
  trans a b c h1 h2 := by simp only [decide_eq_true_eq] at *; exact List.lt_trans h1 h2
  negTrans a b c h := by
    simp only [decide_eq_true_eq] at *
    by_cases hab : a < b
    · exact .inl hab
    · exact .inr (List.lt_of_le_of_lt (List.not_lt.mp hab) h)
  total a b h1 h2 := by simp only [decide_eq_false_iff_not] at *; exact List.le_antisymm (List.not_lt.mp h2) (List.not_lt.mp h1)
  keyOf v := match v with | .bytes x _ => some (ordB x) | _ => none
  dflt := []
theorem bs_slot_lt : Slot "bytes" "__lt__" "bytes.__lt__" :=
  .of (owner := "bytes") (n := "__lt__") (by rw [typeLookup_type, builtinLookup_eq_fast]; kernel_rfl) (by decide +kernel) (by decide +kernel) (by decide +kernel)
    (by first | exact .inl (by decide +kernel) | exact .inr (by decide +kernel)) (by rw [isSubtype_type]; kernel_rfl)
theorem bs_entry_lt : entryFor table "bytes.__lt__" = some Builtin.«bytes.__lt__» := by first | exact entryFor_of_tree (by kernel_rfl) | exact entryFor_of_fast (by kernel_rfl)
theorem bs_args_lt (a b : Value) : argsOk "bytes.__lt__" ⟨[a, b], []⟩ := by
  unfold argsOk; rw [signature?_of (id := "bytes.__lt__") (n := ['_', '_', 't', 'l', '_', '_']) (o := ['s', 'e', 't', 'y', 'b']) (by kernel_rfl) FB.owner_bytes]; kernel_rfl
section
variable {prog : Program} {w : World} {A : Around} {E : Value → Shared → Prop} {s : Shared}
theorem bs_call_lt {a b : Array UInt8} {t u : Tok} {Q : Value → Shared → Prop} (h : Q (.bool (decide (ordB a < ordB b))) s) : wpAny (model prog w) A (call (.builtin "bytes.__lt__") [.bytes a t, .bytes b u]) Q E s := by
  refine wpAny_call_entry bs_slot_lt (typeIs_bytes s a t) bs_entry_lt ?_ (bs_args_lt _ _)
  show wpAny _ _ (isInstance (.bytes b u) (.type "bytes") >>= fun r => _) _ _ s
  refine wpAny_bind (wpAny_isInstance (typeIs_bytes s b u) F.sub_bytes_bytes ?_)
  refine wpAny_pure ⟨_, rfl, ?_⟩
  show Q (.bool (Builtin.Bytes.order a.toList b.toList == .lt)) s
  rw [order_lt]
  exact h
theorem bs_oneLt : bytesSort.OneLt := by
  intro prog w A E s x y a b Q ha hb h
  cases x <;> simp only [bytesSort, reduceCtorEq, Option.some.injEq] at ha
  cases y <;> simp only [bytesSort, reduceCtorEq, Option.some.injEq] at hb
  cases ha; cases hb
  rw [oneLt'_eq]
  simp only [if_true]
  refine wpAny_bind (wpAny_cRoomFor_byValue rfl ?_)
  refine wpAny_bind (wpAny_callSpecialIfBound?_slot (typeIs_bytes s _ _) bs_slot_lt (bs_call_lt ?_))
  exact wpAny_truthy_bool h
end
theorem bs_mapM_first : ∀ {vs : List Value}, (∀ v ∈ vs, ∃ b t, v = .bytes b t) → vs.mapM firstOfTuple' = pure (vs.map fun _ => none)
  | [], _ => by simp
  | v :: r, h => by
    obtain ⟨b, t, rfl⟩ := h v (.head _)
    have e : firstOfTuple' (.bytes b t) = pure none := rfl
    rw [List.mapM_cons, e, bs_mapM_first fun v hv => h v (.tail _ hv)]
    simp
theorem bs_mapM_type : ∀ {vs : List Value}, (∀ v ∈ vs, ∃ b t, v = .bytes b t) → vs.mapM typeOf = pure (vs.map fun _ => Value.type "bytes")
  | [], _ => by simp
  | v :: r, h => by
    obtain ⟨b, t, rfl⟩ := h v (.head _)
    rw [List.mapM_cons, bs_mapM_type fun v hv => h v (.tail _ hv)]
    show (pure (Value.type "bytes") >>= fun b => pure _ >>= fun bs => pure (b :: bs)) = _
    simp
theorem bs_keyKind {v₁ v₂ : Value} {vs : List Value} (hS : ∀ v ∈ v₁ :: v₂ :: vs, ∃ b t, v = .bytes b t) : keyKind' (v₁ :: v₂ :: vs).toArray = pure oneType' := by
  rw [keyKind'_eq, List.mapM_toArray, bs_mapM_first hS]
  simp only [map_pure, pure_bind]
  rw [if_neg (by simp), if_neg (by simp)]
  rw [oneTypeOnly'_eq, List.mapM_toArray, bs_mapM_type hS]
  simp only [map_pure, pure_bind]
  have hall : ((List.map (fun _ => Value.type "bytes") (v₁ :: v₂ :: vs)).toArray.all fun x => x == Value.type "bytes") = true := by
    simp only [List.all_toArray, List.all_map, List.all_eq_true]
    intro _ _
    rfl
  have h0 : (List.map (fun _ => Value.type "bytes") (v₁ :: v₂ :: vs)).toArray[0]? = some (Value.type "bytes") := by simp
  rw [h0]
  simp only [hall, if_true, pure_bind, Option.isSome_some]
/-- octets in rising order -/
def Rising (bs : List (Array UInt8)) : Prop := bs.Pairwise fun a b => ¬ ordB b < ordB a
theorem rising_eq : ∀ {as bs : List (Array UInt8)}, Rising as → Rising bs → as.Perm bs → as = bs
  | [], bs, _, _, hp => (List.nil_perm.mp hp).symm
  | a :: r, bs, h1, h2, hp => by
    match bs, h2, hp with
    | [], _, hp => exact absurd hp.length_eq (by simp)
    | b :: q, h2, hp =>
      obtain ⟨h1a, h1r⟩ := List.pairwise_cons.mp h1
      obtain ⟨h2b, h2q⟩ := List.pairwise_cons.mp h2
      have hab : a = b := by
        rcases List.mem_cons.mp (hp.mem_iff.mp (.head _ : a ∈ a :: r)) with e | ha
        · exact e
        rcases List.mem_cons.mp (hp.mem_iff.mpr (.head _ : b ∈ b :: q)) with e | hb
        · exact e.symm
        exact ordB_inj (List.le_antisymm (List.not_lt.mp (h1a b hb)) (List.not_lt.mp (h2b a ha)))
      subst hab
      rw [rising_eq h1r h2q (List.Perm.cons_inv hp)]

theorem off_S22 : True := by
  w_top off
  trivial
set_option pp.deepTerms false
set_option pp.deepTerms.threshold 6
section
variable {prog : Program} {w : World} {A : Around} {E : Value → Shared → Prop} {s : Shared} {a : Addr} {S : List (Array UInt8)}
theorem bs_hint {Q : Bool → Shared → Prop} (hT : s.TypeIs (.ref a) "set") (h : Q false s) : wpAny (model prog w) A (Builtin.List.listLengthHint (.ref a)) Q E s := by
  unfold Builtin.List.listLengthHint
  refine wpAny_bind (wpAny_specialOf hT PySem.F.slot_set_len.lookup ?_)
  generalize hid : ("set.__len__" : String) = id0
  wp_delta
  rw [show splitId id0 = some ("set", "__len__") from by subst hid; decide +kernel]
  subst hid
  refine wpAny_bind (wpAny_isInstance (T := "set") (b := true) hT (by rw [isSubtype_type]; kernel_rfl) ?_)
  refine wpAny_ite_split (fun hab => absurd hab (by decide)) (fun _ => ?_)
  refine wpAny_ite_split (fun _ => ?_) (fun hab => absurd (by decide +kernel) hab)
  refine wpAny_bind (wpAny_typeOf hT ?_)
  exact wpAny_pure h
theorem bs_items {vs : List Value} {acc : Array Value} (h : ItemsOf (fun i v => vs[i]? = some v) acc vs.length) : acc.toList = vs := by
  refine List.ext_getElem (by rw [Array.length_toList]; exact h.1) fun i h1 h2 => ?_
  have e : vs[i]? = some acc.toList[i] := h.2 i acc.toList[i] (by rw [← Array.getElem?_toList]; exact List.getElem?_eq_getElem h1)
  rw [List.getElem?_eq_getElem h2] at e
  exact (Option.some.inj e).symm
theorem bs_typed {h : Heap} (hS : BSetAt prog w h a S) : ∃ es ep t, h.get? a = some (bSet es ep t) := by
  obtain ⟨es, ep, t, ho, _⟩ := hS
  exact ⟨es, ep, t, ho⟩
theorem bs_extend {R : Result → Shared → Prop} (hh : A.handled = none) (hS : BSetAt prog w s.heap a S) (hne : S ≠ []) (hz : S.length ≤ 4096) (D : Addr) (hDa : D ≠ a) (res : Value) (c₀ : Nat) (hD : s.heap.get? D = some { cls := .type "list", data := .seq #[] c₀ })
    (hR : ∀ h' tk d vs c', (∀ b o, b ≠ D → s.heap.get? b = some o → h'.get? b = some o) → h'.get? D = some { cls := .type "list", dict := none, data := .seq vs.toArray c', slots := #[] } → BOut vs S → vs.length ≤ S.length → R (.ok (.ret res)) { s with heap := h', toks := tk, drawn := d }) :
    wpAny (model prog w) A.in1 (Builtin.List.listExtendWith (.ref D) (.ref a) res)
      (fun fin s' => match fin with | .done f => R (.ok f) s' | .again c' => c'.quiet = true ∧ codeAny (model prog w) A c' R s') (fun e s' => R (.error e) s') s := by
  obtain ⟨es, ep, t, ho⟩ := bs_typed hS
  have hT : s.TypeIs (.ref a) "set" := ⟨_, ho, rfl⟩
  unfold Builtin.List.listExtendWith
  refine wpAny_bind (wpAny_typeOf hT ?_)
  have h1 : Builtin.List.listSameRef (.ref D) (.ref a) = false := by simp [Builtin.List.listSameRef, hDa]
  have h2 : (Value.type "set" == Value.type "list") = false := by decide
  have h3 : (Value.type "set" == Value.type "tuple") = false := by decide
  simp only [h1, h2, h3, Bool.or_false, Bool.false_eq_true, if_false]
  refine wpAny_bind (bs_iter hS hne hz fun vs I h' d fp St hout W hst hk hI hfp hvs => ?_)
  have hDf : D ∉ fp := fun hm => by
    rcases hfp D hm with e | e
    · exact hDa e
    · rw [e] at hD
      cases hD
  have hI' : I ∈ fp := (W A.in1 (by simp [hh])).sub I (.head _)
  have key : ∀ (h : Heap) (c₁ tk : Nat), St 0 h → (∀ b o, b ≠ D → s.heap.get? b = some o → h.get? b = some o) →
      h.get? D = some { cls := .type "list", data := .seq #[] c₁ } → codeAny (model prog w) A (.builtin "list.extend.loop" ⟨[.ref D, .ref I, res], []⟩) R { s with heap := h, toks := tk, drawn := d } := by
    intro h c₁ tk hst hk hS₁
    refine codeAny_extend_loopS (W A.in1 (by simp [hh])).toS (by rw [sizeLine_eq]; omega) D hDf res vs.length 0 _ #[] c₁ rfl (Nat.zero_le _) hst hS₁ (ItemsOf.nil _) fun s' acc' c' hm hS' hacc => ?_
    rw [Moved.eq_with hm]
    have e := bs_items hacc
    refine hR s'.heap s'.toks d vs c' (fun b o hb e => hm.heap b o (fun hmem => ?_) (hk b o hb e)) ?_ hout hvs
    · rcases List.mem_cons.mp hmem with e' | hmem
      · exact hb e'
      · rw [List.mem_singleton.mp hmem, hI] at e
        cases e
    · rw [← e]
      exact hS'
  have hD' := hk _ _ hD
  refine wpAny_bind (wpAny_holding (bs_hint ⟨_, hk _ _ ho, rfl⟩ ?_))
  refine wpAny_ite_split (fun _ => ?_) (fun _ => wpAny_pure ⟨plainId_quiet PySem.F.plain_extend_loop _, key _ c₀ _ hst (fun b o _ e => hk b o e) hD'⟩)
  refine wpAny_bind (wpAny_rule ?_)
  refine wpAny_bind ?_
  show wpAny _ _ (updateSeq D (·.push .none) >>= fun _ => updateSeq D (·.pop)) _ _ _
  refine wpAny_bind (wpAny_updateSeq hD' rfl ?_)
  have hS₂ := Heap.get?_update_self (Obj.mapSeq (·.push Value.none)) hD' rfl
  refine wpAny_updateSeq (hz := by seq_fits) hS₂ rfl ?_
  have hS₃ := Heap.get?_update_self (Obj.mapSeq (·.pop)) hS₂ rfl
  refine wpAny_pure ⟨plainId_quiet PySem.F.plain_extend_loop _, key _ _ _ ?_ (fun b o hb e => ?_) hS₃⟩
  · refine (W A.in1 (by simp [hh])).frame 0 _ _ hst fun b hb o e => ?_
    have hbS : b ≠ D := fun h => hDf (h ▸ hb)
    exact (Heap.get?_update_other _ _ (Ne.symm hbS)).trans ((Heap.get?_update_other _ _ (Ne.symm hbS)).trans e)
  · exact (Heap.get?_update_other _ _ (Ne.symm hb)).trans ((Heap.get?_update_other _ _ (Ne.symm hb)).trans (hk _ _ e))
theorem bs_collect {R : List Value → Shared → Prop} (hh : A.handled = none) (hS : BSetAt prog w s.heap a S) (hne : S ≠ []) (hz : S.length ≤ 4096)
    (h : ∀ (h' : Heap) (tk : Nat) (d : Drawn) (vs : List Value), (∀ b o, s.heap.get? b = some o → h'.get? b = some o) → BOut vs S → vs.length ≤ S.length → R vs { s with heap := h', toks := tk, drawn := d }) :
    wpAny (model prog w) A (collect (.ref a)) R E s := by
  obtain ⟨es, ep, t, ho⟩ := bs_typed hS
  unfold collect
  refine wpAny_bind (wpAny_runValue (codeAny_builtin entry_proto_collect' ?_))
  rw [Around.under_plainId PySem.F.plain_proto_collect _]
  show wpAny _ A.in1 (newList [] >>= fun l => again (.builtin "list.__iadd__" ⟨[l, .ref a], []⟩)) _ _ s
  refine wpAny_bind (wpAny_newObj_type ?_)
  refine wpAny_pure ⟨plainId_quiet PySem.F.plain_list_iadd _, codeAny_builtin entry_list_iadd' ?_⟩
  rw [Around.under_plainId PySem.F.plain_list_iadd _]
  have hS₁ : (s.heap.push { cls := .type "list", data := .seq ([] : List Value).toArray }).get? s.heap.objs.size = some { cls := .type "list", data := .seq #[] } := Heap.get?_push_size _ rfl
  show wpAny _ A.in1 (Builtin.List.listExtendWith (.ref s.heap.objs.size) (.ref a) (.ref s.heap.objs.size)) _ _ _
  have key := bs_extend (A := A) (s := { s with heap := s.heap.push { cls := .type "list", data := .seq ([] : List Value).toArray } })
    (R := fun (q : Result) (s' : Shared) => ∃ (h' : Heap) (tk : Nat) (d : Drawn) (vs : List Value) (c' : Nat), q = .ok (.ret (.ref s.heap.objs.size)) ∧ s' = { s with heap := h', toks := tk, drawn := d } ∧
      (∀ b o, s.heap.get? b = some o → h'.get? b = some o) ∧ h'.get? s.heap.objs.size = some { cls := .type "list", dict := none, data := .seq vs.toArray c', slots := #[] } ∧ BOut vs S ∧ vs.length ≤ S.length)
    hh (bs_moved hS fun o e => Heap.get?_push_of_some _ e) hne hz s.heap.objs.size (Nat.ne_of_gt (Heap.lt_size ho)) (.ref s.heap.objs.size) 0 hS₁
    (fun h' tk d vs c' hk hS' hout hvs => ⟨h', tk, d, vs, c', rfl, rfl, fun b o e => hk b o (Nat.ne_of_lt (Heap.lt_size e)) (Heap.get?_push_of_some _ e), hS', hout, hvs⟩)
  refine wpAny_mono key (fun fin s' x => ?_) fun e s' x => ?_
  · cases fin with
    | done f =>
      obtain ⟨h', tk, d, vs, c', e, rfl, hk, hS', hout, hvs⟩ := x
      cases e
      show wpAny _ A (load s.heap.objs.size >>= _) _ _ _
      refine wpAny_bind (wpAny_load hS' ?_)
      exact wpAny_pure (h h' tk d vs hk hout hvs)
    | again c₁ =>
      refine ⟨x.1, codeAny_mono x.2 fun q s₂ y => ?_⟩
      obtain ⟨h', tk, d, vs, c', rfl, rfl, hk, hS', hout, hvs⟩ := y
      show wpAny _ A (load s.heap.objs.size >>= _) _ _ _
      refine wpAny_bind (wpAny_load hS' ?_)
      exact wpAny_pure (h h' tk d vs hk hout hvs)
  · obtain ⟨_, _, _, _, _, e', _⟩ := x
    cases e'
theorem bs_sortedOut {vs : List Value} (hb : ∀ v ∈ vs, ∃ b t, v = .bytes b t) {xs : Array Keyed} (hp : xs.Perm (pairsOf vs)) (hs : SortedToK bytesSort xs (pairsOf vs).size) :
    (xs.map (·.2)).toList.Perm vs ∧ Rising ((xs.map (·.2)).toList.map octOf) := by
  have hl : xs.toList.Perm (vs.zip vs) := by rw [← pairsOf_toList]; exact Array.perm_iff_toList_perm.mp hp
  have hmem : ∀ p, p ∈ xs.toList → p.1 = p.2 ∧ p.1 ∈ vs := fun p hp' => mem_zip_self (hl.mem_iff.mp hp')
  refine ⟨?_, ?_⟩
  · rw [Array.toList_map]
    have h1 := hl.map (fun p => p.2)
    rwa [List.map_snd_zip (Nat.le_refl _)] at h1
  · rw [Array.toList_map, List.map_map]
    unfold Rising
    rw [List.pairwise_iff_getElem]
    intro i j hi hj hij
    have hi' : i < xs.size := by simpa using hi
    have hj' : j < xs.size := by simpa using hj
    have h1 := hs i j (Nat.le_of_lt hij) (by rw [← hp.size_eq]; exact hj')
    have kk : ∀ k (hk : k < xs.size), KK bytesSort xs k = ordB (octOf xs[k].2) := by
      intro k hk
      obtain ⟨e1, e2⟩ := hmem xs[k] (by simp)
      obtain ⟨b, t, e⟩ := hb _ e2
      rw [← e1, e]
      unfold KK
      rw [Array.getElem?_eq_getElem hk]
      show (bytesSort.keyOf xs[k].1).getD bytesSort.dflt = _
      rw [e]
      rfl
    rw [kk i hi', kk j hj'] at h1
    change decide (ordB (octOf xs[j].2) < ordB (octOf xs[i].2)) = false at h1
    simpa using h1
theorem bs_sorted {h₀ : Heap} {L : Addr} {m : Str → Option Value} {news : List (Addr × Obj)} {Q : Value → Shared → Prop} (F : Fr h₀ L s.heap m) (N : News h₀ L s.heap news) (hh : A.handled = none) (hS : BSetAt prog w s.heap a S) (hne : S ≠ []) (hz : S.length ≤ 4096)
    (hc : ∀ vs, BOut vs S → vs.length < 64)
    (h : ∀ (D : Addr) (h' : Heap) (tk : Nat) (d : Drawn) (vs : List Value) (n : Nat), Fr h₀ L h' m → News h₀ L h' ((D, W.listOf vs.toArray n) :: news) → (∀ q ∈ news, q.1 < D) → BOut vs S → Rising (vs.map octOf) → Q (.ref D) { s with heap := h', toks := tk, drawn := d }) :
    wpAny (model prog w) A (call (.builtin "sorted") [.ref a]) Q E s := by
  refine call_function_entry kind_sorted plain_sorted entry_sorted (args_sorted1 _) ?_
  unfold Builtin.«sorted»
  refine wpAny_bind (m := checkCount "sorted" 1 1 _) (wpAny_pure ?_)
  refine wpAny_bind (bs_collect (A := A.in1) (by simp [hh]) hS hne hz fun h' tk d vs hk hout hvs => ?_)
  refine wpAny_bind (wpAny_newList ?_ (by rw [sizeLine_eq]; omega))
  have hoL : (h'.push (seqObj "list" vs.toArray 0)).get? h'.objs.size = some (seqObj "list" vs.toArray 0) := Heap.get?_push_size _ rfl
  have h0 : KeysOf bytesSort (pairsOf vs) := by
    intro p hp
    rw [pairsOf_toList] at hp
    obtain ⟨b, t, e⟩ := hout.1 _ (mem_zip_self hp).2
    exact ⟨ordB b, by rw [e]⟩
  refine wpAny_bind (wpAny_holding (wpAny_call_entry (s := { s with heap := h'.push (seqObj "list" vs.toArray 0), toks := tk, drawn := d }) slot_list_sort ⟨_, hoL, rfl⟩ entry_list_sort (list_sort_treeK (κ := bytesSort) bs_oneLt hoL h0 (fun v₁ v₂ rest e => bs_keyKind (by rw [← e]; exact hout.1)) (hc vs hout) fun st' a1 a2 => ⟨_, rfl, ?_⟩) (args_list_sort _)))
  obtain ⟨hperm, hrise⟩ := bs_sortedOut hout.1 a1 a2
  obtain ⟨e, he⟩ := sortedHeap_at (h := h'.push (seqObj "list" vs.toArray 0)) (n := 0) (vs := vs) (out := (arrOf st').map (·.2)) hoL
  have hold : ∀ b o, s.heap.get? b = some o → (sortedHeap (h'.push (seqObj "list" vs.toArray 0)) h'.objs.size vs ((arrOf st').map (·.2))).get? b = some o := by
    intro b o eb
    have hb := Heap.lt_size (hk b o eb)
    rw [sortedHeap_old (Nat.ne_of_lt hb) (by rw [Heap.size_push]; exact Nat.lt_succ_of_lt hb)]
    exact Heap.get?_push_of_some _ (hk b o eb)
  refine wpAny_pure ⟨_, rfl, ?_⟩
  refine h h'.objs.size _ tk d ((arrOf st').map (·.2)).toList e (F.kept hold) ?_ (fun q hq => Heap.lt_size (hk _ _ (N q hq).1)) ⟨fun v hv => hout.1 v (hperm.mem_iff.mp hv), (hperm.map octOf).nodup_iff.mpr hout.2.1, fun b => by rw [(hperm.map octOf).mem_iff]; exact hout.2.2 b⟩ hrise
  intro p hp
  rcases List.mem_cons.mp hp with rfl | hp
  · refine ⟨he, fun q => ?_, ?_⟩
    · obtain ⟨oL, _, _, hL, _⟩ := F.ns
      have := Heap.lt_size (hk _ _ hL)
      rw [← q] at this
      exact Nat.lt_irrefl _ this
    · cases q : h₀.get? h'.objs.size with
      | none => rfl
      | some o => exact absurd (Heap.lt_size (hk _ _ (F.keep _ _ q))) (Nat.lt_irrefl _)
  · exact ⟨hold _ _ (N p hp).1, (N p hp).2⟩
end

theorem off_S23 : True := by
  w_top off
  trivial
set_option pp.deepTerms false
set_option pp.deepTerms.threshold 6
/-- the ledger behind the loop's cell -/
inductive JC (c : Addr) (J : Nat → (Str → Option Value) → List (Addr × Obj) → Prop) (i : Nat) (m : Str → Option Value) (news : List (Addr × Obj)) : Prop
  | mk (oc : Obj) (v₀ : Option Value) (rest : List (Addr × Obj)) (f1 : news = (c, oc) :: rest) (f2 : oc.data = .cell v₀) (f3 : (∀ p ∈ rest, p.1 ≠ c)) (f4 : J i m rest)
/-- a for over a range whose variable lives in a cell -/
inductive LoopRC (prog : Program) (w : World) (A : Around) (h₀ : Heap) (env : Env) (c : Addr) (body : List Stmt) (Q : Flow → Shared → Prop) (v : Value) (s : Shared) : Prop
  | mk (r : Addr) (a b : Int) (t u t' : Tok) (n : Nat) (m : Str → Option Value) (news : List (Addr × Obj)) (J : Nat → (Str → Option Value) → List (Addr × Obj) → Prop) (f1 : v = .ref r) (f2 : IsRange s.heap r a b 1 t u t') (f3 : Builtin.Range.small a b 1 = true) (f4 : Builtin.Range.rangeSize a b 1 = ((n : Nat) : Int)) (f5 : Fr h₀ env.locals s.heap m) (f6 : News h₀ env.locals s.heap news) (f7 : JC c J 0 m news) (f8 : (∀ i tv m₁ rest oc h tk I o, i < n → J i m₁ rest → (∀ p ∈ news, p.1 < I) → (∀ p ∈ (c, oc) :: rest, p.1 ≠ I) → (∀ p ∈ rest, p.1 ≠ c) → oc.data = .cell (some (.int (a + (i : Int)) tv)) → Fr h₀ env.locals h m₁ → News h₀ env.locals h ((I, o) :: (c, oc) :: rest) → ∀ Qt : Flow → Shared → Prop, (∀ f s', TurnEnd h₀ env.locals I o s (JC c J (i + 1)) Q f s' → Qt f s') → wpAny (model prog w) A (execs body env) Qt (fun _ _ => False) { s with heap := h, toks := tk })) (f9 : (∀ m' news' h' tk, JC c J n m' news' → Fr h₀ env.locals h' m' → News h₀ env.locals h' news' → Q .next { s with heap := h', toks := tk }))

section
variable {prog : Program} {w : World} {A : Around} {env : Env} {h₀ : Heap} {x : Str} {px : Pos} {iter : Expr} {body : List Stmt} {pos : Pos} {Q : Flow → Shared → Prop} {E : Value → Shared → Prop}
theorem For_RC {c : Addr} (hh : A.handled = none) {s : Shared} (h : wpAny (model prog w) A (eval iter env) (LoopRC prog w A h₀ env c body Q) E s) (hx : env.kindOf x = some .cell) (hc : env.cells.lookup x = some c) (hk : env.scope.kind = .function)
    (hs : ∀ x, foldedSetIterable iter env x = pure x := by intro _; rfl) :
    wpAny (model prog w) A (exec (.For (.Name x px) iter body [] pos) env) Q E s := by
  refine wpAny_For (wpAny_mono h (fun v s₁ h₁ => ?_) fun _ _ e => e) hs
  obtain ⟨r, a, b, t, u, t', n, m, news, J, rfl, hr, hsm, hn, F, N, h0, turn, done⟩ := h₁
  refine wpAny_pyIter_range hr hsm ?_
  rw [hn]
  have ltI : ∀ p ∈ news, p.1 < s₁.heap.objs.size := fun p hp => Heap.lt_size (N p hp).1
  have nI : h₀.get? s₁.heap.objs.size = none := by
    cases e : h₀.get? s₁.heap.objs.size with
    | none => rfl
    | some o => exact absurd (Heap.lt_size (F.keep _ _ e)) (Nat.lt_irrefl _)
  have nL : s₁.heap.objs.size ≠ env.locals := fun e => by
    obtain ⟨oL, _, _, hL, _⟩ := F.ns
    exact absurd (Heap.lt_size hL) (by rw [e]; exact Nat.lt_irrefl _)
  have W := LCg.range_walks (prog := prog) (w := w) (A := A) (I := s₁.heap.objs.size) hh a n
  refine codeAny_forLoop (InvR h₀ env.locals s₁ s₁.heap.objs.size a n (JC c J)) ?_ (n - 0)
    ⟨0, _, _, m, news, rfl, rfl, by show IsRangeIter _ _ _ _ _; simpa using Heap.get?_push_size _ rfl, F.push _, fun p hp => ⟨Heap.get?_push_of_some _ (N p hp).1, (N p hp).2⟩, fun p hp => Nat.ne_of_lt (ltI p hp), h0, Nat.zero_le _⟩
  generalize s₁.heap.objs.size = I at *
  rintro k s' ⟨i, h', tk, m', news', rfl, rfl, hit, F', N', hne, hJ, hi⟩
  have next : ∀ h₂ : Heap, (∀ b o, b ∉ [I] → h'.get? b = some o → h₂.get? b = some o) → Fr h₀ env.locals h₂ m' ∧ News h₀ env.locals h₂ news' := fun h₂ k₂ =>
    ⟨⟨F'.ns.at' fun o e => k₂ _ o (by simpa using Ne.symm nL) e, fun b o e => k₂ b o (fun hm => by rw [List.mem_singleton.mp hm, nI] at e; cases e) (F'.keep b o e), F'.above⟩, fun p hp => ⟨k₂ _ _ (by simpa using hne p hp) (N' p hp).1, (N' p hp).2⟩⟩
  by_cases hlt : i < n
  · refine W.item i _ _ _ hlt hit fun v h₁ tk₁ hP hst₁ hk₁ => ?_
    obtain ⟨tv, rfl⟩ := hP
    obtain ⟨F₁, N₁⟩ := next h₁ hk₁
    dsimp only
    obtain ⟨oc, v₀, rest, rfl, hoc, hrc, hJ'⟩ := hJ
    have hcN := N₁ (c, oc) (.head _)
    have hcI : I ≠ c := fun e => hne (c, oc) (.head _) e.symm
    refine wpAny_assign_Name (wpAny_storeName_cell hk hx hc ⟨oc, hcN.1, hoc⟩ fun h₂ hv₂ hs₂ => ?_)
    obtain ⟨oc', hoc', hd'⟩ := hv₂
    have F₂ : Fr h₀ env.locals h₂ m' := ⟨F₁.ns.sameBut hs₂ (Ne.symm hcN.2.1), fun b ob e => (hs₂.2 b (fun q => by rw [q, hcN.2.2] at e; cases e)).trans (F₁.keep b ob e), F₁.above⟩
    have hst₂ : IsRangeIter h₂ I (a + ((i + 1 : Nat) : Int) * 1) ((n : Int) - ((i + 1 : Nat) : Int)) 1 := (hs₂.2 I hcI).trans hst₁
    obtain ⟨oI, hoI, hre⟩ : ∃ oI, h₂.get? I = some oI ∧ ∀ h : Heap, h.get? I = some oI → IsRangeIter h I (a + ((i + 1 : Nat) : Int) * 1) ((n : Int) - ((i + 1 : Nat) : Int)) 1 := ⟨_, hst₂, fun _ q => q⟩
    have N₂ : News h₀ env.locals h₂ ((I, oI) :: (c, oc') :: rest) := fun p hp => by
      rcases List.mem_cons.mp hp with rfl | hp
      · exact ⟨hoI, nL, nI⟩
      rcases List.mem_cons.mp hp with rfl | hp
      · exact ⟨hoc', hcN.2⟩
      · have := N₁ p (.tail _ hp)
        exact ⟨(hs₂.2 p.1 (hrc p hp)).trans this.1, this.2⟩
    have hne' : ∀ p ∈ (c, oc') :: rest, p.1 ≠ I := fun p hp => by
      rcases List.mem_cons.mp hp with rfl | hp
      · exact Ne.symm hcI
      · exact hne p (.tail _ hp)
    refine wpAny_mono (turn i tv m' rest oc' h₂ _ I oI hlt hJ' ltI hne' hrc hd' F₂ N₂ _ fun _ _ e => e) (fun f s₃ hf => ?_) fun _ _ e => e.elim
    have fin : TurnGo h₀ env.locals I oI s₁ (JC c J (i + 1)) s₃ →
        ∃ m, m < n - i ∧ InvR h₀ env.locals s₁ I a n (JC c J) m s₃ := by
      rintro ⟨h3, tk3, m3, news3, e3, F3, N3, ne3, J3⟩
      exact ⟨n - (i + 1), by omega, i + 1, h3, tk3, m3, news3, rfl, e3, hre _ (N3 _ (.head _)).1, F3, fun p hp => N3 p (.tail _ hp), ne3, J3, hlt⟩
    cases f with
    | next => exact fin hf
    | cont => exact fin hf
    | brk => exact hf
    | ret v => exact hf
  · have hin : i = n := by omega
    subst hin
    refine W.done _ _ _ hit fun h₁ tk₁ hk₁ => wpAny_execs_nil ?_
    obtain ⟨F₁, N₁⟩ := next h₁ hk₁
    exact done m' news' h₁ tk₁ hJ F₁ N₁
end

theorem off_S24 : True := by
  w_top off
  trivial
set_option pp.deepTerms false
set_option pp.deepTerms.threshold 6
/-- lists of ints that the ledger bears -/
inductive ILists (cl : List (Addr × Obj)) : List Value → List (List Int) → Prop
  | nil : ILists cl [] []
  | cons {a : Addr} {vs : List Value} {n : Nat} {ns : List Int} {us : List Value} {css : List (List Int)} : (a, W.listOf vs.toArray n) ∈ cl → IntsAre vs ns → ILists cl us css → ILists cl (.ref a :: us) (ns :: css)
theorem ILists.mono {cl cl' : List (Addr × Obj)} {us : List Value} {css : List (List Int)} (h : ILists cl us css) (s : ∀ q ∈ cl, q ∈ cl') : ILists cl' us css := by
  induction h with
  | nil => exact .nil
  | cons a b _ ih => exact .cons (s _ a) b ih
theorem ILists.app {cl : List (Addr × Obj)} {us us' : List Value} {css css' : List (List Int)} (h : ILists cl us css) (h' : ILists cl us' css') : ILists cl (us ++ us') (css ++ css') := by
  induction h with
  | nil => exact h'
  | cons a b _ ih => exact .cons a b ih
theorem ILists.length {cl : List (Addr × Obj)} {us : List Value} {css : List (List Int)} (h : ILists cl us css) : us.length = css.length := by
  induction h with
  | nil => rfl
  | cons _ _ _ ih => simp [ih]
theorem ILists.get {cl : List (Addr × Obj)} {us : List Value} {css : List (List Int)} (h : ILists cl us css) : ∀ {i : Nat} {v : Value}, us[i]? = some v → ∃ a vs n ns, v = .ref a ∧ (a, W.listOf vs.toArray n) ∈ cl ∧ IntsAre vs ns ∧ css[i]? = some ns := by
  induction h with
  | nil => intro i v e; simp at e
  | cons a b _ ih =>
    intro i v e
    cases i with
    | zero => simp at e; exact ⟨_, _, _, _, e.symm, a, b, rfl⟩
    | succ i => exact ih (by simpa using e)
/-- all choices among so many writes -/
def chs : Nat → List (List Int)
  | 0 => [[]]
  | n + 1 => chs n ++ (chs n).map (· ++ [(n : Int)])
theorem chs_length (n : Nat) : (chs n).length = 2 ^ n := by
  induction n with
  | zero => rfl
  | succ n ih => rw [chs, List.length_append, List.length_map, ih, Nat.pow_succ]; omega
theorem chs_small {n : Nat} (h : n ≤ 6) : (chs n).length ≤ 64 := by
  rw [chs_length]
  exact Nat.pow_le_pow_right (by omega) h
theorem chs_bound {n : Nat} : ∀ c ∈ chs n, c.length ≤ n := by
  induction n with
  | zero => intro c hc; simp [chs] at hc; simp [hc]
  | succ n ih =>
    intro c hc
    rcases List.mem_append.mp hc with h | h
    · exact Nat.le_succ_of_le (ih c h)
    · obtain ⟨d, hd, rfl⟩ := List.mem_map.mp h
      have := ih d hd
      rw [List.length_append]
      exact Nat.succ_le_succ this
open LCg in
theorem off3_of {I C D : Addr} : ∀ {l : List (Addr × Obj)}, (∀ p ∈ l, (@Ne Nat p.1 I) ∧ (@Ne Nat p.1 C) ∧ (@Ne Nat p.1 D)) → Off3 I C D l
  | [], _ => trivial
  | p :: r, h => ⟨h p (.head _), off3_of fun q hq => h q (.tail _ hq)⟩
set_option maxHeartbeats 1000000 in
theorem choices_call (w : World) (many : Nat) (tk : Tok) (h6 : many ≤ 6) :
    Call PySem.Challenge.rw_pf0215_01.row.prog w (hd.heap_1 w.params) (.ref 207) [.int many tk] 10 140 (fun h => True) []
      (fun _ r mine' => ∃ D us n cl, r = .ref D ∧ ILists cl us (chs many) ∧ mine' = (D, W.listOf us.toArray n) :: cl) := by
  k_fill
  refine call_ofC (by k_is) (by k_is) ?_ (fun _ => BindsTo.of_eq rfl) rfl (by decide +kernel) ?_
  · intros; trivial
  intro p loose mean mg mb dp un gd outer A₀ base g L' gns dr os h₁ tk₁ cells hdp hun hlt hP B X T N Y F Qf hQf
  k_cells Y
  (try dsimp only)
  (try k_fold)
  k_steps
  rename_i o' d1' l2 h3 l3 l1 h4 l4 h5 F2 N2
  refine For_RC (h₀ := g) (c := L' + 1) rfl ?_ rfl rfl rfl
  k_steps
  rename IsRange _ _ _ _ _ _ _ _ => hR
  rename Fr _ _ _ _ => F3
  rename News _ _ _ _ => N3
  replace l3 := allLt_of l3
  simp only [AllLt, List.cons_append, List.nil_append, and_true] at l3 l4
  refine ⟨_, 0, many, _, _, _, many, _, _, fun i m rest => ∃ D us nD cl, m "found" = some (.ref D) ∧ ILists cl us (chs i) ∧ rest = (D, W.listOf us.toArray nD) :: cl,
    rfl, hR, small_one (by omega) (by omega) (by omega) (by omega), by have e := rangeSize_nat 0 many; rw [Int.sub_zero] at e; exact e, F3, news_sub (new := [(L' + 1, o'), (l1, _), (l2, _)]) N3 (by k_allIn), ⟨o', _, _, rfl, d1', ?_, l1, _, _, _, rfl, ?_, rfl⟩, ?_, ?_⟩
  · intro p hp
    simp only [List.mem_cons, List.not_mem_nil, or_false] at hp
    rcases hp with rfl | rfl
    · exact Nat.ne_of_gt l4.2
    · exact Nat.ne_of_gt l3
  · exact .cons (vs := []) (.head _) .nil .nil
  · rintro i tv m₁ rest oc h tk I o hi ⟨D, us, nD, cl, hm, hI, rfl⟩ hlt1 hne hrc hoc F N Qt hQt
    rw [m_at hm] at F
    have hul := hI.length
    have hcl := chs_small (n := i) (by omega)
    k_steps
    rename Fr _ _ _ _ => F4
    rename News _ _ _ _ => N4
    refine LCg.CompSrc.ledger (by rfl) F4 N4 (ax := D) (its := us.toArray) (k := nD) (by k_memK) (by rw [sizeLine_eq]; simp only [List.size_toArray]; omega) ?_
    intro g'
    refine comp_inv (fun j ys news => Stop (∃ cl', ILists cl' ys (((chs i).take j).map (· ++ [(i : Int)])) ∧ (∀ p ∈ cl', (@Ne Nat p.1 I) ∧ (@Ne Nat p.1 (L' + 1))) ∧ news = (I, o) :: (L' + 1, oc) :: (D, W.listOf us.toArray nD) :: (cl ++ cl'))) ⟨[], .nil, (fun p hp => nomatch hp), by rw [List.append_nil]⟩ ?_ ?_
    · rintro j ys news v I2 oI C oC D2 m₂ h tk hj ⟨cl', hI', hcl', rfl⟩ hv hC hx F N off ne
      obtain ⟨a, vs, na, ns, rfl, hal, hvs, hcs⟩ := hI.get (by simpa using hv)
      have hvl := IntsAre.length hvs
      have hnl := chs_bound _ (List.mem_of_getElem? hcs)
      replace N : News g L' h ((a, W.listOf vs.toArray na) :: (I2, oI) :: (C, oC) :: (D2, LCg.lst ys) :: (I, o) :: (L' + 1, oc) :: (D, W.listOf us.toArray nD) :: (cl ++ cl')) := by
        intro q hq
        rcases List.mem_cons.mp hq with rfl | hq
        · exact N _ (.tail _ (.tail _ (.tail _ (.tail _ (.tail _ (.tail _ (List.mem_append_left _ hal)))))))
        · exact N q hq
      k_steps
      rename_i l9 h9 q9 D3 ws h8 F5 N5 hI5 l5
      delta Stop
      refine' LCg.CompEnd.intro F5 N5 ((I, o) :: (L' + 1, oc) :: (D, W.listOf us.toArray nD) :: (cl ++ (cl' ++ [(D3, W.listOf ws.toArray 0)]))) ?_ (off3_of ?_) ?_ ?_
      · intro p hp
        simp only [List.mem_cons, List.mem_append, List.not_mem_nil, or_false] at hp ⊢
        rcases hp with h | h | h | h | h | h | h | h | h <;> simp [h]
      · intro p hp
        have hold : ∀ q ∈ (I, o) :: (L' + 1, oc) :: (D, W.listOf us.toArray nD) :: (cl ++ cl'), (@Ne Nat q.1 I2) ∧ (@Ne Nat q.1 C) ∧ (@Ne Nat q.1 D2) := fun q hq => off.mem q hq
        simp only [List.mem_cons, List.mem_append, List.not_mem_nil, or_false] at hp
        rcases hp with h | h | h | h | h | h
        · exact hold p (by simp [h])
        · exact hold p (by simp [h])
        · exact hold p (by simp [h])
        · exact hold p (by simp [h])
        · exact hold p (by simp [h])
        · rw [h]
          exact ⟨Nat.ne_of_gt l5.2.2.1, Nat.ne_of_gt l5.2.2.2.1, Nat.ne_of_gt l5.2.2.2.2.1⟩
      · exact .inr ⟨_, .tail _ (.tail _ (.head _)), rfl, _, rfl⟩
      refine ⟨cl' ++ [(D3, W.listOf ws.toArray 0)], ?_, ?_, rfl⟩
      · rw [List.take_add_one, hcs, List.map_append]
        refine (hI'.mono fun q hq => List.mem_append_left _ hq).app (.cons (List.mem_append_right _ (.head _)) ?_ .nil)
        rw [Int.zero_add] at hI5
        exact hI5
      · intro p hp
        rcases List.mem_append.mp hp with h | h
        · exact hcl' p h
        · rw [List.mem_singleton.mp h]
          exact ⟨Nat.ne_of_gt l5.2.2.2.2.2.1, Nat.ne_of_gt l5.2.2.2.2.2.2.1⟩
    · rintro ys news ⟨cl', hI', hcl', rfl⟩
      intro D2 h tk F N off
      have hys := hI'.length
      have hut : us.toArray.size = (chs i).length := by rw [List.size_toArray, hul]
      rw [hut, List.take_length] at hI' hys
      rw [List.length_map] at hys
      replace N : News g L' h ((D2, W.listOf ys.toArray ys.length) :: (I, o) :: (L' + 1, oc) :: (D, W.listOf us.toArray nD) :: (cl ++ cl')) := N
      have e1 : @LT.lt Nat _ I h.objs.size := Heap.lt_size (N (I, o) (.tail _ (.head _))).1
      have e2 : @LT.lt Nat _ (L' + 1) h.objs.size := Heap.lt_size (N (L' + 1, oc) (.tail _ (.tail _ (.head _)))).1
      k_steps
      rename Fr _ _ _ _ => F6
      rename News _ _ _ _ => N6
      refine TurnEnd.out hQt F6 (news' := (L' + 1, oc) :: (h.objs.size, W.listOf (us ++ ys).toArray 0) :: (cl ++ cl')) (news_sub N6 ?_) ?_ ⟨oc, _, _, rfl, hoc, ?_, h.objs.size, us ++ ys, 0, cl ++ cl', rfl, ?_, rfl⟩
      · intro q hq
        simp only [List.mem_cons] at hq ⊢
        rcases hq with h | h | h | h
        · exact .inr (.inr (.inl h))
        · exact .inr (.inr (.inr (.inl h)))
        · exact .inl h
        · exact .inr (.inr (.inr (.inr (.inr h))))
      · intro q hq
        rcases List.mem_cons.mp hq with rfl | hq
        · exact hne _ (.head _)
        rcases List.mem_cons.mp hq with rfl | hq
        · exact Nat.ne_of_gt e1
        rcases List.mem_append.mp hq with hq | hq
        · exact hne q (.tail _ (.tail _ hq))
        · exact (hcl' q hq).1
      · intro q hq
        rcases List.mem_cons.mp hq with rfl | hq
        · exact Nat.ne_of_gt e2
        rcases List.mem_append.mp hq with hq | hq
        · exact hrc q (.tail _ hq)
        · exact (hcl' q hq).2
      · exact (hI.mono fun q hq => List.mem_append_left _ hq).app (hI'.mono fun q hq => List.mem_append_right _ hq)
  · rintro m' news' h' tk ⟨oc, v₀, rest, rfl, hoc, hrc, D, us, nD, cl, hm, hI, rfl⟩ F N
    rw [m_at hm] at F
    k_steps
    dsimp only
    exact Ends.out hQf (by assumption) (news_sub (new := (D, W.listOf us.toArray nD) :: cl) (by assumption) fun q hq => .tail _ hq) ⟨D, us, nD, cl, rfl, hI, rfl⟩

theorem off_S25 : True := by
  w_top off
  trivial
set_option pp.deepTerms false
set_option pp.deepTerms.threshold 6
section
open LCg
variable {prog : Program} {w : World} {A : Around} {E : Value → Shared → Prop} {s : Shared} {h₀ : Heap} {L : Addr} {m : Str → Option Value} {env : Env}
theorem turn_in (elt iter : Expr) (g₁ : Comprehension) (x : Str) (px : Pos) (scope : Scope) (pos : Pos) (it acc : Value) (env : Env) :
    compTurn (.ListComp elt [g₁, ⟨.Name x px, iter, [], 0⟩] scope pos) 1 it acc env = (standAt iter.pos >>= fun _ => pyNext it >>= fun r => match r with
      | none => pure (.done .next)
      | some v => letOwnedTupleGo (.Name x px) it v >>= fun _ => assign (.Name x px) env v >>= fun _ =>
        (eval elt env >>= fun x => call (.builtin "list.append") [acc, x] >>= fun _ => pure ()) >>= fun _ =>
          again (.compLoop (.ListComp elt [g₁, ⟨.Name x px, iter, [], 0⟩] scope pos) 1 it acc env)) := by rfl
inductive InvIn (h₀ : Heap) (L : Addr) (s : Shared) (m : Str → Option Value) (K : (Str → Option Value) → Prop) (J : Nat → List Value → List (Addr × Obj) → Prop) (I ax C D : Addr) (its : Array Value) (k : Nat) (s' : Shared) : Prop
  | mk (i : Nat) (h' : Heap) (tk : Nat) (ys : List Value) (news : List (Addr × Obj)) (oC : Obj) (m₂ : Str → Option Value) (f1 : its.size + 1 - i = k) (f2 : i ≤ its.size) (f3 : s' = { s with heap := h', toks := tk }) (f4 : J i ys news) (f5 : NsObj oC m₂) (f6 : K m₂) (f7 : Fr h₀ L h' m) (f8 : h'.IsListIter I ax i) (f9 : News h₀ L h' ((C, oC) :: (D, lst ys) :: news)) (f10 : SrcAt h₀ ax its news) (f11 : Off3 I C D news)
inductive InvOut (h₀ : Heap) (L : Addr) (s : Shared) (m : Str → Option Value) (J : Nat → List Value → Prop) (I ax C D : Addr) (its : Array Value) (news : List (Addr × Obj)) (k : Nat) (s' : Shared) : Prop
  | mk (i : Nat) (h' : Heap) (tk : Nat) (ys : List Value) (oC : Obj) (m₂ : Str → Option Value) (f1 : its.size + 1 - i = k) (f2 : i ≤ its.size) (f3 : s' = { s with heap := h', toks := tk }) (f4 : J i ys) (f5 : NsObj oC m₂) (f6 : Fr h₀ L h' m) (f7 : h'.IsListIter I ax i) (f8 : News h₀ L h' ((C, oC) :: (D, lst ys) :: news))
theorem loop_in {elt iter : Expr} {g₁ : Comprehension} {x : Str} {px : Pos} {scope : Scope} {pos : Pos} {cl : List (Str × Addr)} {I ax C D : Addr} {its : Array Value} {R : Result → Shared → Prop}
    (hkind : scope.kind = .function) (hx : scope.names.lookup x = some .local) (hh : A.handled = none)
    (K : (Str → Option Value) → Prop) (hK : ∀ m v, K m → K (fun y => if y = x then some v else m y)) (J : Nat → List Value → List (Addr × Obj) → Prop) (hb : ∀ j ys news, J j ys news → ys.length ≤ sizeLine)
    (hIC : (@Ne Nat I C)) (hID : (@Ne Nat I D)) (hCD : (@Ne Nat C D)) (hIL : I ≠ L) (hI₀ : h₀.get? I = none) (hCL : C ≠ L) (hC₀ : h₀.get? C = none) (hDL : D ≠ L) (hD₀ : h₀.get? D = none)
    (step : ∀ j ys news v oI oC m₂ h tk, j < its.size → J j ys news → its[j]? = some v → NsObj oC m₂ → K m₂ → m₂ x = some v → Fr h₀ L h m → News h₀ L h ((I, oI) :: (C, oC) :: (D, lst ys) :: news) → Off3 I C D news →
      wpAny (model prog w) A (eval elt (compEnvC scope cl C env)) (CompEnd h₀ L m { s with heap := h, toks := tk } I oI C oC D (lst ys) (SrcAt h₀ ax its) (fun y news' => J (j + 1) (ys ++ [y]) news')) (fun _ _ => False) { s with heap := h, toks := tk })
    (done : ∀ h tk ys news oC m₂, J its.size ys news → NsObj oC m₂ → K m₂ → Fr h₀ L h m → News h₀ L h ((C, oC) :: (D, lst ys) :: news) → Off3 I C D news → R (.ok .next) { s with heap := h, toks := tk })
    {ys : List Value} {news : List (Addr × Obj)} {oC : Obj} {m₂ : Str → Option Value} {h : Heap} {tk : Nat} (h0 : J 0 ys news) (hC : NsObj oC m₂) (hKm : K m₂) (F : Fr h₀ L h m) (hI : h.IsListIter I ax 0) (N : News h₀ L h ((C, oC) :: (D, lst ys) :: news)) (S : SrcAt h₀ ax its news) (off : Off3 I C D news) :
    codeAny (model prog w) A (.compLoop (.ListComp elt [g₁, ⟨.Name x px, iter, [], 0⟩] scope pos) 1 (.ref I) (.ref D) (compEnvC scope cl C env)) R { s with heap := h, toks := tk } := by
  refine codeAny_loop rfl (InvIn h₀ L s m K J I ax C D its) ?_ (its.size + 1)
    ⟨0, h, tk, ys, news, oC, m₂, rfl, Nat.zero_le _, rfl, h0, hC, hKm, F, hI, N, S, off⟩
  rintro k s' ⟨i, h', tk, ys, news, oC, m₂, rfl, hi, rfl, hJ, hC, hKm, F, hI, N, S, off⟩
  show wpAny _ A ((compTurn (.ListComp elt [g₁, ⟨.Name x px, iter, [], 0⟩] scope pos) 1 (.ref I) (.ref D) (compEnvC scope cl C env)).onRaise (fun x => do noteFrame x (compEnvC scope cl C env); theTreesLotGoes x)) _ _ _
  refine wpAny_noted ?_
  rw [turn_in]
  have hl := S.list F.keep fun p hp => N p (.tail _ (.tail _ hp))
  have off3 := off.mem
  refine wpAny_bind (wpAny_standAt (wpAny_bind ?_))
  by_cases hlt : i < its.size
  · refine wpAny_pyNext_list_item hI hl (Array.getElem?_eq_getElem hlt) fun h₁ hI₁ sb => ?_
    dsimp only
    refine wpAny_bind (wpAny_of_eq (a := ()) rfl ?_)
    have N₁ : News h₀ L h₁ ((C, oC) :: (D, lst ys) :: news) := fun p hp => by
      have z := N p hp
      refine ⟨(sb.2 p.1 ?_).trans z.1, z.2⟩
      rcases List.mem_cons.mp hp with rfl | hp
      · exact Ne.symm hIC
      rcases List.mem_cons.mp hp with rfl | hp
      · exact Ne.symm hID
      · exact (off3 p hp).1
    have F₁ : Fr h₀ L h₁ m := F.change sb hIL hI₀
    refine wpAny_bind (wpAny_assign_Name (wpAny_storeName_local (lookup_relabel_local hx) (hC.ns (N₁ (C, oC) (.head _)).1) (fun h₂ hn₂ hs₂ => ?_) (by simp [compEnvC, relabel, hkind])))
    obtain ⟨oC', heC, hoC⟩ := ns_obj hn₂
    have F₂ : Fr h₀ L h₂ m := F₁.change hs₂ hCL hC₀
    obtain ⟨oI, hoI, hre⟩ : ∃ oI, h₂.get? I = some oI ∧ ∀ h : Heap, h.get? I = some oI → h.IsListIter I ax (i + 1) := by
      obtain ⟨oI, e1, e2⟩ := hI₁
      exact ⟨oI, (hs₂.2 I hIC).trans e1, fun h e => ⟨oI, e, e2⟩⟩
    have N₂ : News h₀ L h₂ ((I, oI) :: (C, oC') :: (D, lst ys) :: news) := fun p hp => by
      rcases List.mem_cons.mp hp with rfl | hp
      · exact ⟨hoI, hIL, hI₀⟩
      rcases List.mem_cons.mp hp with rfl | hp
      · exact ⟨heC, hCL, hC₀⟩
      have z := N₁ p (.tail _ hp)
      refine ⟨(hs₂.2 p.1 ?_).trans z.1, z.2⟩
      rcases List.mem_cons.mp hp with rfl | hp
      · exact Ne.symm hCD
      · exact (off3 p hp).2.1
    refine wpAny_bind (wpAny_bind (wpAny_mono (step i ys news its[i] oI oC' _ h₂ _ hlt hJ (Array.getElem?_eq_getElem hlt) hoC (hK _ _ hKm) (by simp) F₂ N₂ off) (fun y s₄ h₄ => ?_) fun _ _ e => e.elim))
    obtain ⟨h₄, tk₄, news₄, rfl, F₄, N₄, off₄, hS₄, R₄⟩ := h₄
    have zI := (N₄ (I, oI) (.head _)).1
    have zC := (N₄ (C, oC') (.tail _ (.head _))).1
    have zD := (N₄ (D, lst ys) (.tail _ (.tail _ (.head _)))).1
    have off4 := off₄.mem
    have hyb := hb _ _ _ hJ
    refine wpAny_bind (append_at (hsz := by show ys.toArray.size ≤ sizeLine; rw [List.size_toArray]; exact hyb) zD fun h₅ hs₅ hD₅ => ?_)
    refine wpAny_pure (wpAny_pure ⟨rfl, its.size + 1 - (i + 1), by omega, i + 1, h₅, tk₄, ys ++ [y], news₄, oC', _, rfl, hlt, rfl, R₄, hoC, hK _ _ hKm, F₄.change hs₅ hDL hD₀, hre _ ((hs₅.2 I hID).trans zI), fun p hp => ?_, hS₄, off₄⟩)
    rcases List.mem_cons.mp hp with rfl | hp
    · exact ⟨(hs₅.2 C hCD).trans zC, hCL, hC₀⟩
    rcases List.mem_cons.mp hp with rfl | hp
    · exact ⟨hD₅.trans (congrArg some (lst_snoc ys y)), hDL, hD₀⟩
    · have z := N₄ p (.tail _ (.tail _ (.tail _ hp)))
      exact ⟨(hs₅.2 p.1 (off4 p hp).2.2).trans z.1, z.2⟩
  · obtain rfl : i = its.size := Nat.le_antisymm hi (Nat.not_lt.mp hlt)
    refine wpAny_pyNext_list_end hh hI hl (Array.getElem?_eq_none (Nat.le_refl _)) fun h₁ sb => ?_
    refine wpAny_pure (done h₁ _ ys news oC m₂ hJ hC hKm ⟨F.ns.at' fun o e => sb L o (Ne.symm hIL) e, fun b o e => sb b o (fun q => by rw [q, hI₀] at e; cases e) (F.keep b o e), F.above⟩ (fun p hp => ?_) off)
    have z := N p hp
    refine ⟨sb p.1 _ ?_ z.1, z.2⟩
    rcases List.mem_cons.mp hp with rfl | hp
    · exact Ne.symm hIC
    rcases List.mem_cons.mp hp with rfl | hp
    · exact Ne.symm hID
    · exact (off3 p hp).1
end

theorem off_S26 : True := by
  w_top off
  trivial
set_option pp.deepTerms false
set_option pp.deepTerms.threshold 6
section
open LCg
variable {prog : Program} {w : World} {A : Around} {E : Value → Shared → Prop} {s : Shared} {h₀ : Heap} {L : Addr} {m : Str → Option Value} {env : Env}
theorem turn_out (elt iter₁ iter₂ : Expr) (x₁ x₂ : Str) (px₁ px₂ : Pos) (scope : Scope) (pos : Pos) (it acc : Value) (env : Env) :
    compTurn (.ListComp elt [⟨.Name x₁ px₁, iter₁, [], 0⟩, ⟨.Name x₂ px₂, iter₂, [], 0⟩] scope pos) 0 it acc env = (standAt iter₁.pos >>= fun _ => pyNext it >>= fun r => match r with
      | none => pure (.done .next)
      | some v => letOwnedTupleGo (.Name x₁ px₁) it v >>= fun _ => assign (.Name x₁ px₁) env v >>= fun _ =>
        eval iter₂ env >>= fun x => standAt iter₂.pos >>= fun _ => foldedSetIterable iter₂ env x >>= fun x => holding [x] (pyIter x) >>= fun it₂ =>
          runOwn (.compStart (.ListComp elt [⟨.Name x₁ px₁, iter₁, [], 0⟩, ⟨.Name x₂ px₂, iter₂, [], 0⟩] scope pos) 1 it₂ acc env) env >>= fun _ =>
          again (.compLoop (.ListComp elt [⟨.Name x₁ px₁, iter₁, [], 0⟩, ⟨.Name x₂ px₂, iter₂, [], 0⟩] scope pos) 0 it acc env)) := by rfl
theorem start_in {elt iter : Expr} {g₁ : Comprehension} {x : Str} {px : Pos} {scope : Scope} {pos : Pos} {it acc : Value} {R : Result → Shared → Prop}
    (h0 : codeAny (model prog w) A (.compLoop (.ListComp elt [g₁, ⟨.Name x px, iter, [], 0⟩] scope pos) 1 it acc env) R s)
    (h : wpAny (model prog w) A (pyIter it) (fun it' s' => codeAny (model prog w) A (.compLoop (.ListComp elt [g₁, ⟨.Name x px, iter, [], 0⟩] scope pos) 1 it' acc env) R s') (notedBy (model prog w) A env fun x s' => R (.error x) s') s) :
    codeAny (model prog w) A (.compStart (.ListComp elt [g₁, ⟨.Name x px, iter, [], 0⟩] scope pos) 1 it acc env) R s := by
  refine codeAny_of_tree ?_
  show wpAny _ _ ((compStart (.ListComp elt [g₁, ⟨.Name x px, iter, [], 0⟩] scope pos) 1 it acc env).onRaise (fun x => do noteFrame x env; standAt theWindowsPlace)) _ _ s
  refine wpAny_notedAt ?_
  unfold compStart
  show wpAny _ _ (ask >>= _) _ _ s
  refine wpAny_bind (wpAny_askSetting (wpAny_ite ?_))
  split
  · first
      | exact wpAny_bind (wpAny_pure (wpAny_pure (And.intro rfl h0)))
      | exact wpAny_pure (And.intro rfl h0)
  · first
      | exact wpAny_bind (wpAny_rule (wpAny_bind (wpAny_standAt (wpAny_bind (wpAny_mono h (fun it' s' h' => wpAny_pure (And.intro rfl h')) fun _ _ x => x)))))
      | (refine wpAny_bind (wpAny_rule ?_); show wpAny _ _ (standAt iter.pos >>= _) _ _ s; exact wpAny_bind (wpAny_standAt (wpAny_bind (wpAny_mono h (fun it' s' h' => wpAny_pure (And.intro rfl h')) fun _ _ x => x))))
/-- the list and the frame of a comprehension -/
theorem comp_open {scope : Scope} {cl : List (Str × Addr)} {e : Expr} {s₂ : Shared} {I : Addr} {news : List (Addr × Obj)} {RR : Value → Addr → Result → Shared → Prop} (hcell : ∀ y ∈ scope.names, y.2 ≠ .cell) (hkind : scope.kind = .function)
    (hIlt : I < s₂.heap.objs.size) (F : Fr h₀ L s₂.heap m) (N : News h₀ L s₂.heap news)
    (h : ∀ D C h tk m', Fr h₀ L h m → h.Ns C m' → News h₀ L h ((D, lst []) :: news) → (∀ b o, s₂.heap.get? b = some o → h.get? b = some o) → D ≠ L → C ≠ L → h₀.get? D = none → h₀.get? C = none → (@Ne Nat C D) → (@Ne Nat I C) → (@Ne Nat I D) →
      (∀ p ∈ news, (@Ne Nat p.1 C) ∧ (@Ne Nat p.1 D)) → (∀ p ∈ news, @LT.lt Nat _ p.1 D) → codeAny (model prog w) A (.compStart e 0 (.ref I) (.ref D) (compEnvC scope cl C env)) (RR (.ref D) C) { s₂ with heap := h, toks := tk }) :
    wpAny (model prog w) A (newList []) (fun acc s₃ => wpAny (model prog w) A (newFunctionEnv scope env.globals cl [] env.qual none .none (some env)) (fun cenv s₄ =>
      codeAny (model prog w) A (.compStart e 0 (.ref I) acc { cenv with scope := relabel scope env }) (RR acc cenv.locals) s₄) E s₃) E s₂ := by
  refine wpAny_newObj_type (wpAny_newFunctionEnv hcell (by intro y hy; simp at hy) (fun h₁ hns₁ hsb₁ => ?_) hkind)
  dsimp only at hns₁ hsb₁ ⊢
  generalize hH2 : s₂.heap.push { cls := .type "list", dict := none, data := .seq ([] : List Value).toArray } = H2 at hns₁ hsb₁ ⊢
  have hC : H2.objs.size = s₂.heap.objs.size + 1 := by rw [← hH2, Heap.size_push]
  have hDC : s₂.heap.objs.size ≠ H2.objs.size := by rw [hC]; exact Nat.ne_of_lt (Nat.lt_succ_self _)
  have below : ∀ b, b < s₂.heap.objs.size → b ≠ H2.objs.size ∧ b ≠ s₂.heap.objs.size := fun b hb => ⟨by rw [hC]; exact Nat.ne_of_lt (Nat.lt_succ_of_lt hb), Nat.ne_of_lt hb⟩
  have old : ∀ b o, s₂.heap.get? b = some o → h₁.get? b = some o := fun b o e => hsb₁.extBut b o (below b (Heap.lt_size e)).1 (Heap.get?_push_of_some _ (hH2 ▸ Heap.get?_push_of_some _ e))
  have hacc : h₁.get? s₂.heap.objs.size = some (lst []) := hsb₁.extBut _ _ hDC (Heap.get?_push_of_some _ (hH2 ▸ Heap.get?_push_size _ rfl))
  have fresh₀ : ∀ a, s₂.heap.objs.size ≤ a → h₀.get? a = none := fun a ha => by
    cases e : h₀.get? a with
    | none => rfl
    | some o' => exact absurd (Heap.lt_size (F.keep a o' e)) (Nat.not_lt.mpr ha)
  have hLlt : L < s₂.heap.objs.size := F.ns.lt
  have hD₀ := fresh₀ _ (Nat.le_refl _)
  refine h _ _ h₁ _ _ (F.keeps old) hns₁ (fun p hp => ?_) old (Ne.symm (below L hLlt).2) (Ne.symm (below L hLlt).1) hD₀ (fresh₀ _ (by rw [hC]; exact Nat.le_succ _)) (Ne.symm hDC) (below I hIlt).1 (below I hIlt).2 (fun p hp => below _ (Heap.lt_size (N p hp).1)) fun p hp => Heap.lt_size (N p hp).1
  rcases List.mem_cons.mp hp with rfl | hp
  · exact ⟨hacc, Ne.symm (below L hLlt).2, hD₀⟩
  · exact ⟨old _ _ (N p hp).1, (N p hp).2⟩
end

theorem off_S27 : True := by
  w_top off
  trivial
set_option pp.deepTerms false
set_option pp.deepTerms.threshold 6
section
open LCg
variable {prog : Program} {w : World} {A : Around} {E : Value → Shared → Prop} {s : Shared} {h₀ : Heap} {L : Addr} {m : Str → Option Value} {env : Env}
theorem srcAt_cons {ax : Addr} {its : Array Value} {news : List (Addr × Obj)} (p : Addr × Obj) (S : SrcAt h₀ ax its news) : SrcAt h₀ ax its (p :: news) := by
  rcases S with S | ⟨o, hm, r⟩
  · exact .inl S
  · exact .inr ⟨o, .tail _ hm, r⟩
theorem loop_out {elt iter₁ iter₂ : Expr} {x₁ x₂ : Str} {px₁ px₂ : Pos} {scope : Scope} {pos : Pos} {cl : List (Str × Addr)} {I ax ax₂ C D : Addr} {its its₂ : Array Value} {news : List (Addr × Obj)} {R : Result → Shared → Prop}
    (hkind : scope.kind = .function) (hx₁ : scope.names.lookup x₁ = some .local) (hx₂ : scope.names.lookup x₂ = some .local) (hxx : x₁ ≠ x₂) (hh : A.handled = none)
    (J : Nat → Nat → List Value → Prop) (hb : ∀ i j ys, J i j ys → ys.length ≤ sizeLine)
    (hIC : (@Ne Nat I C)) (hID : (@Ne Nat I D)) (hCD : (@Ne Nat C D)) (hIL : I ≠ L) (hI₀ : h₀.get? I = none) (hCL : C ≠ L) (hC₀ : h₀.get? C = none) (hDL : D ≠ L) (hD₀ : h₀.get? D = none)
    (S₁ : SrcAt h₀ ax its news) (S₂ : SrcAt h₀ ax₂ its₂ news) (off : Off3 I C D news)
    (hnext : ∀ i ys, i < its.size → J i its₂.size ys → J (i + 1) 0 ys) (hs₂ : ∀ x, foldedSetIterable iter₂ (compEnvC scope cl C env) x = pure x)
    (ev : ∀ h tk oC m₂ oI ys, NsObj oC m₂ → Fr h₀ L h m → News h₀ L h ((I, oI) :: (C, oC) :: (D, lst ys) :: news) → wpAny (model prog w) A (eval iter₂ (compEnvC scope cl C env)) (fun v s' => v = .ref ax₂ ∧ s' = { s with heap := h, toks := tk }) (fun _ _ => False) { s with heap := h, toks := tk })
    (step : ∀ i j ys v₁ v₂ oI I₂ oI₂ oC m₂ h tk, i < its.size → j < its₂.size → J i j ys → its[i]? = some v₁ → its₂[j]? = some v₂ → NsObj oC m₂ → m₂ x₁ = some v₁ → m₂ x₂ = some v₂ → Fr h₀ L h m → News h₀ L h ((I₂, oI₂) :: (C, oC) :: (D, lst ys) :: (I, oI) :: news) → Off3 I₂ C D ((I, oI) :: news) →
      wpAny (model prog w) A (eval elt (compEnvC scope cl C env)) (CompEnd h₀ L m { s with heap := h, toks := tk } I₂ oI₂ C oC D (lst ys) (SrcAt h₀ ax₂ its₂) (fun y news' => news' = (I, oI) :: news ∧ J i (j + 1) (ys ++ [y]))) (fun _ _ => False) { s with heap := h, toks := tk })
    (done : ∀ h tk ys oC m₂, J its.size 0 ys → NsObj oC m₂ → Fr h₀ L h m → News h₀ L h ((C, oC) :: (D, lst ys) :: news) → R (.ok .next) { s with heap := h, toks := tk })
    {oC : Obj} {m₂ : Str → Option Value} {h : Heap} {tk : Nat} (h0 : J 0 0 []) (hC : NsObj oC m₂) (F : Fr h₀ L h m) (hI : h.IsListIter I ax 0) (N : News h₀ L h ((C, oC) :: (D, lst []) :: news)) :
    codeAny (model prog w) A (.compLoop (.ListComp elt [⟨.Name x₁ px₁, iter₁, [], 0⟩, ⟨.Name x₂ px₂, iter₂, [], 0⟩] scope pos) 0 (.ref I) (.ref D) (compEnvC scope cl C env)) R { s with heap := h, toks := tk } := by
  refine codeAny_loop rfl (InvOut h₀ L s m (fun i ys => J i 0 ys) I ax C D its news) ?_ (its.size + 1)
    ⟨0, h, tk, [], oC, m₂, rfl, Nat.zero_le _, rfl, h0, hC, F, hI, N⟩
  rintro k s' ⟨i, h', tk, ys, oC, m₂, rfl, hi, rfl, hJ, hC, F, hI, N⟩
  show wpAny _ A ((compTurn (.ListComp elt [⟨.Name x₁ px₁, iter₁, [], 0⟩, ⟨.Name x₂ px₂, iter₂, [], 0⟩] scope pos) 0 (.ref I) (.ref D) (compEnvC scope cl C env)).onRaise (fun x => do noteFrame x (compEnvC scope cl C env); theTreesLotGoes x)) _ _ _
  refine wpAny_noted ?_
  rw [turn_out]
  have hl := S₁.list F.keep fun p hp => N p (.tail _ (.tail _ hp))
  have off3 := off.mem
  refine wpAny_bind (wpAny_standAt (wpAny_bind ?_))
  by_cases hlt : i < its.size
  · refine wpAny_pyNext_list_item hI hl (Array.getElem?_eq_getElem hlt) fun h₁ hI₁ sb => ?_
    dsimp only
    refine wpAny_bind (wpAny_of_eq (a := ()) rfl ?_)
    have N₁ : News h₀ L h₁ ((C, oC) :: (D, lst ys) :: news) := fun p hp => by
      have z := N p hp
      refine ⟨(sb.2 p.1 ?_).trans z.1, z.2⟩
      rcases List.mem_cons.mp hp with rfl | hp
      · exact Ne.symm hIC
      rcases List.mem_cons.mp hp with rfl | hp
      · exact Ne.symm hID
      · exact (off3 p hp).1
    have F₁ : Fr h₀ L h₁ m := F.change sb hIL hI₀
    refine wpAny_bind (wpAny_assign_Name (wpAny_storeName_local (lookup_relabel_local hx₁) (hC.ns (N₁ (C, oC) (.head _)).1) (fun h₂ hn₂ hs₂' => ?_) (by simp [compEnvC, relabel, hkind])))
    obtain ⟨oC', heC, hoC⟩ := ns_obj hn₂
    have F₂ : Fr h₀ L h₂ m := F₁.change hs₂' hCL hC₀
    obtain ⟨oI, hoI, hre⟩ : ∃ oI, h₂.get? I = some oI ∧ ∀ h : Heap, h.get? I = some oI → h.IsListIter I ax (i + 1) := by
      obtain ⟨oI, e1, e2⟩ := hI₁
      exact ⟨oI, (hs₂'.2 I hIC).trans e1, fun h e => ⟨oI, e, e2⟩⟩
    have N₂ : News h₀ L h₂ ((I, oI) :: (C, oC') :: (D, lst ys) :: news) := fun p hp => by
      rcases List.mem_cons.mp hp with rfl | hp
      · exact ⟨hoI, hIL, hI₀⟩
      rcases List.mem_cons.mp hp with rfl | hp
      · exact ⟨heC, hCL, hC₀⟩
      have z := N₁ p (.tail _ hp)
      refine ⟨(hs₂'.2 p.1 ?_).trans z.1, z.2⟩
      rcases List.mem_cons.mp hp with rfl | hp
      · exact Ne.symm hCD
      · exact (off3 p hp).2.1
    refine wpAny_bind (wpAny_mono (ev h₂ _ oC' _ oI ys hoC F₂ N₂) ?_ fun _ _ e => e.elim)
    rintro v s' ⟨rfl, rfl⟩
    refine wpAny_bind (wpAny_standAt (wpAny_bind (wpAny_of_eq (hs₂ _) ?_)))
    have hl₂ : h₂.IsList ax₂ its₂ := S₂.list F₂.keep fun p hp => N₂ p (.tail _ (.tail _ (.tail _ hp)))
    refine wpAny_bind (wpAny_holding (wpAny_pyIter_list hl₂ ?_))
    have old : ∀ b o, h₂.get? b = some o → (h₂.push { cls := .type "list_iterator", data := .fields #[.ref ax₂, .int 0 0] }).get? b = some o := fun b o e => Heap.get?_push_of_some _ e
    have hit₀ : (h₂.push { cls := .type "list_iterator", data := .fields #[.ref ax₂, .int 0 0] }).IsListIter h₂.objs.size ax₂ 0 := ⟨_, Heap.get?_push_size _ rfl, rfl, rfl⟩
    have lt₂ : ∀ p ∈ (I, oI) :: (C, oC') :: (D, lst ys) :: news, @Ne Nat h₂.objs.size p.1 := fun p hp => Nat.ne_of_gt (Heap.lt_size (N₂ p hp).1)
    have hLlt : L < h₂.objs.size := F₂.ns.lt
    have hI₂₀ : h₀.get? h₂.objs.size = none := by
      cases e : h₀.get? h₂.objs.size with
      | none => rfl
      | some o => exact absurd (Heap.lt_size (F₂.keep _ _ e)) (Nat.lt_irrefl _)
    have loop : ∀ R : Result → Shared → Prop, (∀ h' tk' ys' oC₃ m₃, J i its₂.size ys' → NsObj oC₃ m₃ → Fr h₀ L h' m → News h₀ L h' ((C, oC₃) :: (D, lst ys') :: (I, oI) :: news) → R (.ok .next) { s with heap := h', toks := tk' }) → ∀ tk₂,
        codeAny (model prog w) A (.compLoop (.ListComp elt [⟨.Name x₁ px₁, iter₁, [], 0⟩, ⟨.Name x₂ px₂, iter₂, [], 0⟩] scope pos) 1 (.ref h₂.objs.size) (.ref D) (compEnvC scope cl C env)) R { s with heap := h₂.push { cls := .type "list_iterator", data := .fields #[.ref ax₂, .int 0 0] }, toks := tk₂ } := by
      intro R hR tk₂
      refine loop_in (s := s) (ax := ax₂) (its := its₂) hkind hx₂ hh (fun m₂ => m₂ x₁ = some its[i]) (fun m v h => by simp only [hxx, if_false]; exact h) (fun j ys newsin => newsin = (I, oI) :: news ∧ J i j ys) (fun j ys _ h => hb i j ys h.2)
        (lt₂ (C, oC') (.tail _ (.head _))) (lt₂ (D, lst ys) (.tail _ (.tail _ (.head _)))) hCD (Nat.ne_of_gt hLlt) hI₂₀ hCL hC₀ hDL hD₀ ?_ ?_ (ys := ys) (news := (I, oI) :: news) ⟨rfl, hJ⟩ hoC (by simp) (F₂.keeps old) hit₀ (fun p hp => ?_) (srcAt_cons _ S₂) ?_
      · rintro j ys news' v oI₂ oC m₂ h tk hj ⟨rfl, hJ⟩ hv hC hm₁ hm₂ F N off
        exact step i j ys _ v oI _ oI₂ oC m₂ h tk hlt hj hJ (Array.getElem?_eq_getElem hlt) hv hC hm₁ hm₂ F N off
      · rintro h tk ys' news' oC m₂ ⟨rfl, hJ⟩ hC _ F N _
        exact hR h tk ys' oC m₂ hJ hC F N
      · have hp' : p ∈ (I, oI) :: (C, oC') :: (D, lst ys) :: news := by
          simp only [List.mem_cons] at hp ⊢
          rcases hp with h | h | h | h
          · exact .inr (.inl h)
          · exact .inr (.inr (.inl h))
          · exact .inl h
          · exact .inr (.inr (.inr h))
        exact ⟨old _ _ (N₂ p hp').1, (N₂ p hp').2⟩
      · refine off3_of fun p hp => ?_
        rcases List.mem_cons.mp hp with rfl | hp
        · exact ⟨Ne.symm (lt₂ (I, oI) (.head _)), hIC, hID⟩
        · exact ⟨Ne.symm (lt₂ p (.tail _ (.tail _ (.tail _ hp)))), (off3 p hp).2⟩
    refine wpAny_bind (wpAny_runOwn ?_)
    rw [Around.mark_none]
    have fin : ∀ h' tk' ys' oC₃ m₃, J i its₂.size ys' → NsObj oC₃ m₃ → Fr h₀ L h' m → News h₀ L h' ((C, oC₃) :: (D, lst ys') :: (I, oI) :: news) →
        ∃ k', k' < its.size + 1 - i ∧ InvOut h₀ L s m (fun i ys => J i 0 ys) I ax C D its news k' { s with heap := h', toks := tk' } := by
      intro h' tk' ys' oC₃ m₃ hJ' hC' F' N'
      refine ⟨its.size + 1 - (i + 1), by omega, i + 1, h', tk', ys', oC₃, m₃, rfl, hlt, rfl, hnext i ys' hlt hJ', hC', F', hre _ (N' (I, oI) (.tail _ (.tail _ (.head _)))).1, fun p hp => N' p ?_⟩
      simp only [List.mem_cons] at hp ⊢
      rcases hp with h | h | h
      · exact .inl h
      · exact .inr (.inl h)
      · exact .inr (.inr (.inr h))
    refine start_in (loop _ (fun h' tk' ys' oC₃ m₃ a b c d => wpAny_pure ⟨rfl, fin h' tk' ys' oC₃ m₃ a b c d⟩) _) (wpAny_pyIter_listiter hit₀ (loop _ (fun h' tk' ys' oC₃ m₃ a b c d => wpAny_pure ⟨rfl, fin h' tk' ys' oC₃ m₃ a b c d⟩) _))
  · obtain rfl : i = its.size := Nat.le_antisymm hi (Nat.not_lt.mp hlt)
    refine wpAny_pyNext_list_end hh hI hl (Array.getElem?_eq_none (Nat.le_refl _)) fun h₁ sb => ?_
    refine wpAny_pure (done h₁ _ ys oC m₂ hJ hC ⟨F.ns.at' fun o e => sb L o (Ne.symm hIL) e, fun b o e => sb b o (fun q => by rw [q, hI₀] at e; cases e) (F.keep b o e), F.above⟩ (fun p hp => ?_))
    have z := N p hp
    refine ⟨sb p.1 _ ?_ z.1, z.2⟩
    rcases List.mem_cons.mp hp with rfl | hp
    · exact Ne.symm hIC
    rcases List.mem_cons.mp hp with rfl | hp
    · exact Ne.symm hID
    · exact (off3 p hp).1
end

theorem off_S28 : True := by
  w_top off
  trivial
set_option pp.deepTerms false
set_option pp.deepTerms.threshold 6
section
open LCg
variable {prog : Program} {w : World} {A : Around} {E : Value → Shared → Prop} {s : Shared} {h₀ : Heap} {L : Addr} {m : Str → Option Value} {env : Env}
/-- the turns of a comprehension of two clauses -/
def Src2 (prog : Program) (w : World) (A : Around) (h₀ : Heap) (L : Addr) (m : Str → Option Value) (env : Env) (elt iter₂ : Expr) (x₁ x₂ y : Str) (scope : Scope) (cl : List (Str × Addr)) (Q : Flow → Shared → Prop) (xv : Value) (s : Shared) : Prop :=
  ∃ (ax ax₂ : Addr) (its its₂ : Array Value) (news : List (Addr × Obj)) (J : Nat → Nat → List Value → Prop), xv = .ref ax ∧ A.handled = none ∧ Fr h₀ L s.heap m ∧ News h₀ L s.heap news ∧ SrcAt h₀ ax its news ∧ SrcAt h₀ ax₂ its₂ news ∧
    (∀ i j ys, J i j ys → ys.length ≤ sizeLine) ∧ J 0 0 [] ∧ (∀ i ys, i < its.size → J i its₂.size ys → J (i + 1) 0 ys) ∧
    (∀ I C D h tk oC m₂ oI ys, NsObj oC m₂ → Fr h₀ L h m → News h₀ L h ((I, oI) :: (C, oC) :: (D, lst ys) :: news) → wpAny (model prog w) A (eval iter₂ (compEnvC scope cl C env)) (fun v s' => v = .ref ax₂ ∧ s' = { s with heap := h, toks := tk }) (fun _ _ => False) { s with heap := h, toks := tk }) ∧
    (∀ I C D i j ys v₁ v₂ oI I₂ oI₂ oC m₂ h tk, i < its.size → j < its₂.size → J i j ys → its[i]? = some v₁ → its₂[j]? = some v₂ → NsObj oC m₂ → m₂ x₁ = some v₁ → m₂ x₂ = some v₂ → Fr h₀ L h m → News h₀ L h ((I₂, oI₂) :: (C, oC) :: (D, lst ys) :: (I, oI) :: news) → Off3 I₂ C D ((I, oI) :: news) →
      wpAny (model prog w) A (eval elt (compEnvC scope cl C env)) (CompEnd h₀ L m { s with heap := h, toks := tk } I₂ oI₂ C oC D (lst ys) (SrcAt h₀ ax₂ its₂) (fun y news' => news' = (I, oI) :: news ∧ J i (j + 1) (ys ++ [y]))) (fun _ _ => False) { s with heap := h, toks := tk }) ∧
    (∀ D h tk ys, J its.size 0 ys → Fr h₀ L h (fun z => if z = y then some (.ref D) else m z) → News h₀ L h ((D, lst ys) :: news) → (∀ p ∈ news, @Ne Nat p.1 D) → (∀ p ∈ news, @LT.lt Nat _ p.1 D) → Q .next { s with heap := h, toks := tk })
theorem Assign_ListComp_2 {elt iter₁ iter₂ : Expr} {x₁ x₂ y : Str} {px₁ px₂ py : Pos} {scope : Scope} {cl : List (Str × Addr)} {pos spos : Pos} {Q : Flow → Shared → Prop} (hLe : env.locals = L)
    (hsw : swapsWith (.ListComp elt [⟨.Name x₁ px₁, iter₁, [], 0⟩, ⟨.Name x₂ px₂, iter₂, [], 0⟩] scope pos) (some (.Name y py)) spos.line env = pure true)
    (hclos : closureFor scope env = pure cl) (hcell : ∀ z ∈ scope.names, z.2 ≠ .cell) (hkind : scope.kind = .function)
    (hnames : ∀ z ∈ scope.names, z.2 = .local → scope.names.lookup z.1 = some .local) (hx₁ : scope.names.lookup x₁ = some .local) (hx₂ : scope.names.lookup x₂ = some .local) (hxx : x₁ ≠ x₂)
    (hy : env.kindOf y = some .local) (hp : (env.scope.kind == .class || (env.scope.kind == .module && env.locals != env.globals)) = false)
    (h : wpAny (model prog w) A (eval iter₁ env) (Src2 prog w A h₀ L m env elt iter₂ x₁ x₂ y scope cl Q) E s)
    (hF₀ : Fr h₀ L s.heap m) (hs : ∀ x, foldedSetIterable iter₁ env x = pure x := by intro _; rfl) (hs₂ : ∀ C x, foldedSetIterable iter₂ (compEnvC scope cl C env) x = pure x := by intro _ _; rfl) :
    wpAny (model prog w) A (exec (.Assign [.Name y py] (.ListComp elt [⟨.Name x₁ px₁, iter₁, [], 0⟩, ⟨.Name x₂ px₂, iter₂, [], 0⟩] scope pos) spos) env) Q E s := by
  subst hLe
  rw [exec_Assign_Name_used _ _ _ _ hsw]
  refine wpAny_bind (wpAny_standAt (wpAny_bind ?_))
  show wpAny _ A (do let _ ← comprehension (.ListComp elt [⟨.Name x₁ px₁, iter₁, [], 0⟩, ⟨.Name x₂ px₂, iter₂, [], 0⟩] scope pos) scope env _ (newList []) false (eval iter₁ env) (some (assign (.Name y py) env))) _ _ s
  refine wpAny_bind (wpAny_mono (wpAny_comprehension_free (use := some (assign (.Name y py) env)) (Q := fun _ s' => Q .next s') rfl hs hclos hkind hnames
    (wpAny_mono h (fun xv s₁ h₁ => ?_) fun _ _ e => e)) (fun _ s' hq => wpAny_pure (wpAny_pure hq)) fun _ _ e => e)
  obtain ⟨ax, ax₂, its, its₂, news, J, rfl, hh, F, N, S₁, S₂, hb, h0, hnext, ev, step, fin⟩ := h₁
  have hl := S₁.list F.keep N
  have hlt : ax < s₁.heap.objs.size := by obtain ⟨_, e, _⟩ := hl; exact Heap.lt_size e
  refine wpAny_pyIter_list hl ?_
  have up : ∀ b o, s₁.heap.get? b = some o → (s₁.heap.push { cls := .type "list_iterator", data := .fields #[.ref ax, .int 0 0] }).get? b = some o := fun b o e => Heap.get?_push_of_some _ e
  have hit₀ : (s₁.heap.push { cls := .type "list_iterator", data := .fields #[.ref ax, .int 0 0] }).IsListIter s₁.heap.objs.size ax 0 := ⟨_, Heap.get?_push_size _ rfl, rfl, rfl⟩
  have hL₀ : h₀.get? env.locals = none := Heap.get?_none_of_le F.above
  refine comp_open (I := s₁.heap.objs.size) hcell hkind (by show _ < (s₁.heap.push _).objs.size; rw [Heap.size_push]; exact Nat.lt_succ_self _) (F.keeps up) (N.grown up) fun D C h tk m' F' hn N' old hDL hCL hD₀ hC₀ hCD hIC hID offN ltD => ?_
  obtain ⟨oC, heC, hoC⟩ := ns_obj hn
  have N₂ : News h₀ env.locals h ((C, oC) :: (D, lst []) :: news) := fun p hp => by
    rcases List.mem_cons.mp hp with rfl | hp
    · exact ⟨heC, hCL, hC₀⟩
    · exact N' p hp
  have hit : h.IsListIter s₁.heap.objs.size ax 0 := ⟨_, old _ _ (Heap.get?_push_size _ rfl), rfl, rfl⟩
  have loop_go := fun tk => loop_out (s := s₁) (A := A) (elt := elt) (iter₁ := iter₁) (iter₂ := iter₂) (x₁ := x₁) (x₂ := x₂) (px₁ := px₁) (px₂ := px₂) (scope := scope) (pos := pos) (cl := cl) (I := s₁.heap.objs.size) (C := C) (D := D) (its := its) (its₂ := its₂) (news := news) (env := env)
    (R := compPost (model prog w) A E (some (assign (.Name y py) env)) (fun _ s' => Q .next s') (.ref D) C)
    hkind hx₁ hx₂ hxx hh J hb hIC hID hCD (Ne.symm (Nat.ne_of_lt F.ns.lt)) (next_is_new F) hCL hC₀ hDL hD₀ S₁ S₂ (off3_of fun p hp => ⟨Nat.ne_of_lt (Heap.lt_size (N p hp).1), offN p hp⟩) hnext (hs₂ C) (fun h tk oC m₂ oI ys => ev _ C D h tk oC m₂ oI ys)
    (fun i j ys v₁ v₂ oI I₂ oI₂ oC m₂ h tk => step _ C D i j ys v₁ v₂ oI I₂ oI₂ oC m₂ h tk) (fun h tk ys oC m₂ hJ hC F N => by
      show wpAny _ A (assign (.Name y py) env (.ref D)) _ _ _
      refine wpAny_assign_Name (wpAny_storeName_local hy F.ns (fun h₂ hn₂ hs₂ => ?_) hp)
      have F₂ : Fr h₀ env.locals h₂ (fun z => if z = y then some (.ref D) else m z) := ⟨hn₂, fun b o e => hs₂.extBut b o (fun q => by rw [q, hL₀] at e; cases e) (F.keep b o e), F.above⟩
      refine ⟨m₂, (hC.ns (N (C, oC) (.head _)).1).sameBut hs₂ hCL, fun h'' hs'' => fin D h'' _ ys hJ (F₂.change hs'' hCL hC₀) (fun p hp => ?_) (fun p hp => (offN p hp).2) ltD⟩
      have z : h₂.get? p.1 = some p.2 := hs₂.extBut _ _ (N p (.tail _ hp)).2.1 (N p (.tail _ hp)).1
      refine ⟨hs''.extBut _ _ ?_ z, (N p (.tail _ hp)).2⟩
      rcases List.mem_cons.mp hp with rfl | hp
      · exact Ne.symm hCD
      · exact (offN p hp).1) h0 hoC F' hit (tk := tk) N₂
  refine codeAny_compStart_list (loop_go _) (wpAny_pyIter_listiter hit (loop_go _))
end

theorem off_S29 : True := by
  w_top off
  trivial
set_option pp.deepTerms false
set_option pp.deepTerms.threshold 6
section
open LCg
variable {prog : Program} {w : World} {A : Around} {E : Value → Shared → Prop} {s : Shared} {h₀ : Heap} {L : Addr} {m : Str → Option Value} {env : Env}
theorem loop_PT {elt iter ct : Expr} {x₁ x₂ : Str} {px₁ px₂ tp : Pos} {kt : Nat} {scope : Scope} {pos : Pos} {cl : List (Str × Addr)} {I ax C D : Addr} {its : Array Value} {news : List (Addr × Obj)} {R : Result → Shared → Prop}
    (hkind : scope.kind = .function) (hx₁ : scope.names.lookup x₁ = some .local) (hx₂ : scope.names.lookup x₂ = some .local) (hxx : x₁ ≠ x₂) (hh : A.handled = none) (tst : Nat → Bool) (v₁ v₂ : Nat → Value)
    (J : Nat → List Value → Prop) (hb : ∀ i ys, J i ys → ys.length ≤ sizeLine) (hJ1 : ∀ i ys, i < its.size → J i ys → tst i = true → J (i + 1) (ys ++ [v₂ i])) (hJ0 : ∀ i ys, i < its.size → J i ys → tst i = false → J (i + 1) ys)
    (tup : ∀ i, i < its.size → ∃ t, its[i]? = some (.ref t) ∧ IsTup h₀ t #[v₁ i, v₂ i])
    (hIC : (@Ne Nat I C)) (hID : (@Ne Nat I D)) (hCD : (@Ne Nat C D)) (hIL : I ≠ L) (hI₀ : h₀.get? I = none) (hCL : C ≠ L) (hC₀ : h₀.get? C = none) (hDL : D ≠ L) (hD₀ : h₀.get? D = none)
    (S₁ : SrcAt h₀ ax its news) (off : Off3 I C D news)
    (test : ∀ i oC m₂ oI ys h tk, i < its.size → NsObj oC m₂ → m₂ x₁ = some (v₁ i) → m₂ x₂ = some (v₂ i) → Fr h₀ L h m → News h₀ L h ((I, oI) :: (C, oC) :: (D, lst ys) :: news) →
      wpAny (model prog w) A (isTrue ct (compEnvC scope cl C env) (eval ct (compEnvC scope cl C env))) (fun ok s' => ok = tst i ∧ ∃ tk', s' = { s with heap := h, toks := tk' }) (fun _ _ => False) { s with heap := h, toks := tk })
    (val : ∀ i oC m₂ oI ys h tk, i < its.size → NsObj oC m₂ → m₂ x₁ = some (v₁ i) → m₂ x₂ = some (v₂ i) → Fr h₀ L h m → News h₀ L h ((I, oI) :: (C, oC) :: (D, lst ys) :: news) →
      wpAny (model prog w) A (eval elt (compEnvC scope cl C env)) (fun y s' => y = v₂ i ∧ ∃ tk', s' = { s with heap := h, toks := tk' }) (fun _ _ => False) { s with heap := h, toks := tk })
    (done : ∀ h tk ys oC m₂, J its.size ys → NsObj oC m₂ → Fr h₀ L h m → News h₀ L h ((C, oC) :: (D, lst ys) :: news) → R (.ok .next) { s with heap := h, toks := tk })
    {oC : Obj} {m₂ : Str → Option Value} {h : Heap} {tk : Nat} (h0 : J 0 []) (hC : NsObj oC m₂) (F : Fr h₀ L h m) (hI : h.IsListIter I ax 0) (N : News h₀ L h ((C, oC) :: (D, lst []) :: news)) :
    codeAny (model prog w) A (.compLoop (.ListComp elt [⟨.Tuple [.Name x₁ px₁, .Name x₂ px₂] kt tp, iter, [ct], 0⟩] scope pos) 0 (.ref I) (.ref D) (compEnvC scope cl C env)) R { s with heap := h, toks := tk } := by
  refine codeAny_loop rfl (InvOut h₀ L s m J I ax C D its news) ?_ (its.size + 1)
    ⟨0, h, tk, [], oC, m₂, rfl, Nat.zero_le _, rfl, h0, hC, F, hI, N⟩
  rintro k s' ⟨i, h', tk, ys, oC, m₂, rfl, hi, rfl, hJ, hC, F, hI, N⟩
  show wpAny _ A ((compTurn (.ListComp elt [⟨.Tuple [.Name x₁ px₁, .Name x₂ px₂] kt tp, iter, [ct], 0⟩] scope pos) 0 (.ref I) (.ref D) (compEnvC scope cl C env)).onRaise (fun x => do noteFrame x (compEnvC scope cl C env); theTreesLotGoes x)) _ _ _
  refine wpAny_noted ?_
  rw [compTurn_list]
  have hl := S₁.list F.keep fun p hp => N p (.tail _ (.tail _ hp))
  have off3 := off.mem
  refine wpAny_bind (wpAny_standAt (wpAny_bind ?_))
  by_cases hlt : i < its.size
  · obtain ⟨t, et, ht₀⟩ := tup i hlt
    refine wpAny_pyNext_list_item hI hl et fun h₁ hI₁ sb => ?_
    dsimp only
    refine wpAny_bind (wpAny_letOwnedTupleGo_listiter hI₁ ?_)
    have N₁ : News h₀ L h₁ ((C, oC) :: (D, lst ys) :: news) := fun p hp => by
      have z := N p hp
      refine ⟨(sb.2 p.1 ?_).trans z.1, z.2⟩
      rcases List.mem_cons.mp hp with rfl | hp
      · exact Ne.symm hIC
      rcases List.mem_cons.mp hp with rfl | hp
      · exact Ne.symm hID
      · exact (off3 p hp).1
    have F₁ : Fr h₀ L h₁ m := F.change sb hIL hI₀
    have ht : IsTup h₁ t #[v₁ i, v₂ i] := by
      obtain ⟨o, e, r⟩ := ht₀
      exact ⟨o, F₁.keep _ _ e, r⟩
    refine wpAny_bind (assign_Tuple_tuple hh ht rfl rfl fun h₅ he => ?_)
    have he' : ∀ b o, h₁.get? b = some o → h₅.get? b = some o := fun b o e => he b o (Nat.ne_of_lt (Heap.lt_size e)) e
    refine assignInOrder_cons (wpAny_assign_Name (wpAny_storeName_local (lookup_relabel_local hx₁) (hC.ns (he' _ _ (N₁ (C, oC) (.head _)).1)) (fun h₆ hn₆ hs₆ => ?_) (by simp [compEnvC, relabel, hkind])))
    refine assignInOrder_cons (wpAny_assign_Name (wpAny_storeName_local (lookup_relabel_local hx₂) hn₆ (fun h₂ hn₂ hs₂ => ?_) (by simp [compEnvC, relabel, hkind])))
    refine assignInOrder_nil ?_
    have old3 : ∀ b o, b ≠ C → h₁.get? b = some o → h₂.get? b = some o := fun b o hb e => hs₂.extBut b o hb (hs₆.extBut b o hb (he' b o e))
    obtain ⟨oC', heC, hoC⟩ := ns_obj hn₂
    have F₂ : Fr h₀ L h₂ m := ((F₁.keeps he').change hs₆ hCL hC₀).change hs₂ hCL hC₀
    obtain ⟨oI, hoI, hre⟩ : ∃ oI, h₂.get? I = some oI ∧ ∀ h : Heap, h.get? I = some oI → h.IsListIter I ax (i + 1) := by
      obtain ⟨oI, e1, e2⟩ := hI₁
      exact ⟨oI, old3 I _ hIC e1, fun h e => ⟨oI, e, e2⟩⟩
    have N₂ : News h₀ L h₂ ((I, oI) :: (C, oC') :: (D, lst ys) :: news) := fun p hp => by
      rcases List.mem_cons.mp hp with rfl | hp
      · exact ⟨hoI, hIL, hI₀⟩
      rcases List.mem_cons.mp hp with rfl | hp
      · exact ⟨heC, hCL, hC₀⟩
      have z := N₁ p (.tail _ hp)
      refine ⟨old3 p.1 _ ?_ z.1, z.2⟩
      rcases List.mem_cons.mp hp with rfl | hp
      · exact Ne.symm hCD
      · exact (off3 p hp).2.1
    have e1 : (fun y => if y = x₂ then some (v₂ i) else if y = x₁ then some (v₁ i) else m₂ y) x₁ = some (v₁ i) := by simp [hxx]
    have e2 : (fun y => if y = x₂ then some (v₂ i) else if y = x₁ then some (v₁ i) else m₂ y) x₂ = some (v₂ i) := by simp
    refine wpAny_bind (wpAny_mono (wpAny_tests_one (test i oC' _ oI ys h₂ _ hlt hoC e1 e2 F₂ N₂)) ?_ fun _ _ e => e.elim)
    rintro ok s' ⟨rfl, tk₂, rfl⟩
    have zD := (N₂ (D, lst ys) (.tail _ (.tail _ (.head _)))).1
    cases hok : tst i with
    | true =>
      simp only [if_true]
      refine wpAny_bind (wpAny_bind (wpAny_mono (val i oC' _ oI ys h₂ _ hlt hoC e1 e2 F₂ N₂) ?_ fun _ _ e => e.elim))
      rintro y s' ⟨rfl, tk₃, rfl⟩
      have hyb := hb _ _ hJ
      refine wpAny_bind (append_at (hsz := by show ys.toArray.size ≤ sizeLine; rw [List.size_toArray]; exact hyb) zD fun h₅ hs₅ hD₅ => ?_)
      refine wpAny_pure (wpAny_pure ⟨rfl, its.size + 1 - (i + 1), by omega, i + 1, h₅, tk₃, ys ++ [v₂ i], oC', _, rfl, hlt, rfl, hJ1 i ys hlt hJ hok, hoC, F₂.change hs₅ hDL hD₀, hre _ ((hs₅.2 I hID).trans hoI), fun p hp => ?_⟩)
      rcases List.mem_cons.mp hp with rfl | hp
      · exact ⟨(hs₅.2 C hCD).trans heC, hCL, hC₀⟩
      rcases List.mem_cons.mp hp with rfl | hp
      · exact ⟨hD₅.trans (congrArg some (lst_snoc ys (v₂ i))), hDL, hD₀⟩
      · have z := N₂ p (.tail _ (.tail _ (.tail _ hp)))
        exact ⟨(hs₅.2 p.1 (off3 p hp).2.2).trans z.1, z.2⟩
    | false =>
      simp only [Bool.false_eq_true, if_false]
      exact wpAny_pure ⟨rfl, its.size + 1 - (i + 1), by omega, i + 1, h₂, tk₂, ys, oC', _, rfl, hlt, rfl, hJ0 i ys hlt hJ hok, hoC, F₂, hre _ hoI, fun p hp => N₂ p (.tail _ hp)⟩
  · obtain rfl : i = its.size := Nat.le_antisymm hi (Nat.not_lt.mp hlt)
    refine wpAny_pyNext_list_end hh hI hl (Array.getElem?_eq_none (Nat.le_refl _)) fun h₁ sb => ?_
    refine wpAny_pure (done h₁ _ ys oC m₂ hJ hC ⟨F.ns.at' fun o e => sb L o (Ne.symm hIL) e, fun b o e => sb b o (fun q => by rw [q, hI₀] at e; cases e) (F.keep b o e), F.above⟩ (fun p hp => ?_))
    have z := N p hp
    refine ⟨sb p.1 _ ?_ z.1, z.2⟩
    rcases List.mem_cons.mp hp with rfl | hp
    · exact Ne.symm hIC
    rcases List.mem_cons.mp hp with rfl | hp
    · exact Ne.symm hID
    · exact (off3 p hp).1
end

theorem off_S30 : True := by
  w_top off
  trivial
set_option pp.deepTerms false
set_option pp.deepTerms.threshold 6
section
open LCg
variable {prog : Program} {w : World} {A : Around} {E : Value → Shared → Prop} {s : Shared} {h₀ : Heap} {L : Addr} {m : Str → Option Value} {env : Env}
/-- the turns of a comprehension over pairs with a test -/
def SrcPT (prog : Program) (w : World) (A : Around) (h₀ : Heap) (L : Addr) (m : Str → Option Value) (env : Env) (ct elt : Expr) (x₁ x₂ : Str) (scope : Scope) (cl : List (Str × Addr)) (Q : Value → Shared → Prop) (xv : Value) (s : Shared) : Prop :=
  ∃ (ax : Addr) (its : Array Value) (news : List (Addr × Obj)) (tst : Nat → Bool) (v₁ v₂ : Nat → Value) (J : Nat → List Value → Prop), xv = .ref ax ∧ A.handled = none ∧ Fr h₀ L s.heap m ∧ News h₀ L s.heap news ∧ SrcAt h₀ ax its news ∧
    (∀ i ys, J i ys → ys.length ≤ sizeLine) ∧ J 0 [] ∧ (∀ i ys, i < its.size → J i ys → tst i = true → J (i + 1) (ys ++ [v₂ i])) ∧ (∀ i ys, i < its.size → J i ys → tst i = false → J (i + 1) ys) ∧
    (∀ i, i < its.size → ∃ t, its[i]? = some (.ref t) ∧ IsTup h₀ t #[v₁ i, v₂ i]) ∧
    (∀ I C D i oC m₂ oI ys h tk, i < its.size → NsObj oC m₂ → m₂ x₁ = some (v₁ i) → m₂ x₂ = some (v₂ i) → Fr h₀ L h m → News h₀ L h ((I, oI) :: (C, oC) :: (D, lst ys) :: news) →
      wpAny (model prog w) A (isTrue ct (compEnvC scope cl C env) (eval ct (compEnvC scope cl C env))) (fun ok s' => ok = tst i ∧ ∃ tk', s' = { s with heap := h, toks := tk' }) (fun _ _ => False) { s with heap := h, toks := tk }) ∧
    (∀ I C D i oC m₂ oI ys h tk, i < its.size → NsObj oC m₂ → m₂ x₁ = some (v₁ i) → m₂ x₂ = some (v₂ i) → Fr h₀ L h m → News h₀ L h ((I, oI) :: (C, oC) :: (D, lst ys) :: news) →
      wpAny (model prog w) A (eval elt (compEnvC scope cl C env)) (fun y s' => y = v₂ i ∧ ∃ tk', s' = { s with heap := h, toks := tk' }) (fun _ _ => False) { s with heap := h, toks := tk }) ∧
    (∀ D h tk ys, J its.size ys → Fr h₀ L h m → News h₀ L h ((D, lst ys) :: news) → (∀ p ∈ news, @LT.lt Nat _ p.1 D) → Q (.ref D) { s with heap := h, toks := tk })
theorem ListComp_PT {elt iter ct : Expr} {x₁ x₂ : Str} {px₁ px₂ tp : Pos} {kt : Nat} {scope : Scope} {cl : List (Str × Addr)} {pos : Pos} {Q : Value → Shared → Prop}
    (hclos : closureFor scope env = pure cl) (hcell : ∀ z ∈ scope.names, z.2 ≠ .cell) (hkind : scope.kind = .function)
    (hnames : ∀ z ∈ scope.names, z.2 = .local → scope.names.lookup z.1 = some .local) (hx₁ : scope.names.lookup x₁ = some .local) (hx₂ : scope.names.lookup x₂ = some .local) (hxx : x₁ ≠ x₂)
    (h : wpAny (model prog w) A (eval iter env) (SrcPT prog w A h₀ L m env ct elt x₁ x₂ scope cl Q) E s)
    (hF₀ : Fr h₀ L s.heap m) (hs : ∀ x, foldedSetIterable iter env x = pure x := by intro _; rfl) :
    wpAny (model prog w) A (eval (.ListComp elt [⟨.Tuple [.Name x₁ px₁, .Name x₂ px₂] kt tp, iter, [ct], 0⟩] scope pos) env) Q E s := by
  rw [eval_ListComp]
  refine wpAny_comprehension_free (use := none) rfl hs hclos hkind hnames (wpAny_mono h (fun xv s₁ h₁ => ?_) fun _ _ e => e)
  obtain ⟨ax, its, news, tst, v₁, v₂, J, rfl, hh, F, N, S₁, hb, h0, hJ1, hJ0, tup, test, val, fin⟩ := h₁
  have hl := S₁.list F.keep N
  have hlt : ax < s₁.heap.objs.size := by obtain ⟨_, e, _⟩ := hl; exact Heap.lt_size e
  refine wpAny_pyIter_list hl ?_
  have up : ∀ b o, s₁.heap.get? b = some o → (s₁.heap.push { cls := .type "list_iterator", data := .fields #[.ref ax, .int 0 0] }).get? b = some o := fun b o e => Heap.get?_push_of_some _ e
  have hL₀ : h₀.get? L = none := Heap.get?_none_of_le F.above
  refine comp_open (I := s₁.heap.objs.size) hcell hkind (by show _ < (s₁.heap.push _).objs.size; rw [Heap.size_push]; exact Nat.lt_succ_self _) (F.keeps up) (N.grown up) fun D C h tk m' F' hn N' old hDL hCL hD₀ hC₀ hCD hIC hID offN ltD => ?_
  obtain ⟨oC, heC, hoC⟩ := ns_obj hn
  have N₂ : News h₀ L h ((C, oC) :: (D, lst []) :: news) := fun p hp => by
    rcases List.mem_cons.mp hp with rfl | hp
    · exact ⟨heC, hCL, hC₀⟩
    · exact N' p hp
  have hit : h.IsListIter s₁.heap.objs.size ax 0 := ⟨_, old _ _ (Heap.get?_push_size _ rfl), rfl, rfl⟩
  have loop_go := fun tk => loop_PT (s := s₁) (A := A) (elt := elt) (iter := iter) (ct := ct) (x₁ := x₁) (x₂ := x₂) (px₁ := px₁) (px₂ := px₂) (tp := tp) (kt := kt) (scope := scope) (pos := pos) (cl := cl) (I := s₁.heap.objs.size) (C := C) (D := D) (its := its) (news := news) (env := env)
    (R := compPost (model prog w) A E none Q (.ref D) C)
    hkind hx₁ hx₂ hxx hh tst v₁ v₂ J hb hJ1 hJ0 tup hIC hID hCD (Ne.symm (Nat.ne_of_lt F.ns.lt)) (next_is_new F) hCL hC₀ hDL hD₀ S₁ (off3_of fun p hp => ⟨Nat.ne_of_lt (Heap.lt_size (N p hp).1), offN p hp⟩)
    (fun i oC m₂ oI ys h tk => test _ C D i oC m₂ oI ys h tk) (fun i oC m₂ oI ys h tk => val _ C D i oC m₂ oI ys h tk) (fun h tk ys oC m₂ hJ hC F N => by
      refine ⟨m₂, hC.ns (N (C, oC) (.head _)).1, fun h'' hs'' => fin D h'' tk ys hJ (F.change hs'' hCL hC₀) (fun p hp => ?_) ltD⟩
      refine ⟨hs''.extBut _ _ ?_ (N p (.tail _ hp)).1, (N p (.tail _ hp)).2⟩
      rcases List.mem_cons.mp hp with rfl | hp
      · exact Ne.symm hCD
      · exact (offN p hp).1) h0 hoC F' hit (tk := tk) N₂
  refine codeAny_compStart_list (loop_go _) (wpAny_pyIter_listiter hit (loop_go _))
end

theorem off_S31 : True := by
  w_top off
  trivial
set_option pp.deepTerms false
set_option pp.deepTerms.threshold 6
/-- a call that may draw -/
def CallD (prog : Program) (w : World) (K : Frag) (f : Value) (args : List Value) (d u : Nat) (P : Heap → Prop) (mine : List (Addr × Obj)) (S : Heap → Value → List (Addr × Obj) → Prop) : Prop :=
  ∀ (p : Program) (loose : List Str) (mean : ExcName → Option Value) (mg mb : Str → Option Value) (dp un : Nat) (gd : Option (List Code)) (cn : Str) (cs : Scope) (a : Addr) (ccd : Value) (cl : List (Str × Addr)) (outer : List Env) (A₀ : Around) (base h₀ : Heap) (L : Addr) (m : Str → Option Value) (s : Shared) (R : Result → Shared → Prop),
    Ctx K p loose mean mg mb dp un cs outer A₀ base h₀ L m s d u → News h₀ L s.heap mine → P s.heap →
    (∀ r mine' h' tk' dd, Fr h₀ L h' m → News h₀ L h' mine' → Rest mine s.heap h' → Anew mine s.heap mine' → S h' r mine' → R (.ok (.ret r)) { s with heap := h', toks := tk', drawn := dd }) →
    codeAny (model prog w) (ktrTop dp un gd cn cs L a ccd cl outer) (.call f ⟨args, []⟩) R s

/-- how a way through the body of such a def ends -/
def EndsD (s : Shared) (g : Heap) (S : Heap → Value → List (Addr × Obj) → Prop) (r : Value) (s' : Shared) : Prop :=
  ∃ L' m' mine' h' tk' dd, s' = { s with heap := h', toks := tk', drawn := dd } ∧ Fr g L' h' m' ∧ News g L' h' mine' ∧ S h' r mine'
theorem EndsD.intro {s : Shared} {g : Heap} {S : Heap → Value → List (Addr × Obj) → Prop} {r : Value} {L' : Addr} {m' : Str → Option Value} {mine' : List (Addr × Obj)} {h' : Heap} {tk' : Nat} {dd : Drawn}
    (F : Fr g L' h' m') (N : News g L' h' mine') (hS : S h' r mine') : EndsD s g S r { s with heap := h', toks := tk', drawn := dd } := ⟨_, _, _, _, _, _, rfl, F, N, hS⟩
theorem EndsD.out {s : Shared} {g : Heap} {S : Heap → Value → List (Addr × Obj) → Prop} {Qf : Value → Shared → Prop} (hQf : ∀ v s', EndsD s g S v s' → Qf v s') {r : Value} {L' : Addr} {m' : Str → Option Value} {mine' : List (Addr × Obj)} {h' : Heap} {tk' : Nat} {dd : Drawn}
    (F : Fr g L' h' m') (N : News g L' h' mine') (hS : S h' r mine') : Qf r { s with heap := h', toks := tk', drawn := dd } := hQf _ _ ⟨_, _, _, _, _, _, rfl, F, N, hS⟩

section
variable {prog : Program} {w : World} {K : Frag} {mine : List (Addr × Obj)}
  {name qual : Str} {params : Arguments} {body : List Stmt} {scope : Scope} {dV kV doc pm cdv ct oc : Value} {an od : Option Addr} {osl : Array (Option Value)} {f : Addr} {args : List Value} {binds : List (Str × Value)}
  {P : Heap → Prop} {S : Heap → Value → List (Addr × Obj) → Prop} {d u : Nat}

theorem call_ofCD
    (ho : K.lookup f = some ⟨oc, od, .func (fnOf name qual params body scope dV kV doc pm an cdv ct), osl⟩) (hcd : codeIn K cdv qual = true)
    (hst : ∀ h g : Heap, P h → (∀ b o, h.get? b = some o → b ∉ mine.map (·.1) → g.get? b = some o) → (∀ p ∈ mine, h.get? p.1 = some p.2) → P g)
    (hbind : ∀ s, BindsTo s (fnOf name qual params body scope dV kV doc pm an cdv ct) ⟨args, []⟩ binds)
    (hkind : (binds.all fun y => scope.names.lookup y.1 == some .local || scope.names.lookup y.1 == some .cell) = true) (hnd : ((cellsFrom 0 scope.names []).map (·.1)).Nodup)
    (h : ∀ (p : Program) (loose : List Str) (mean : ExcName → Option Value) (mg mb : Str → Option Value) (dp un : Nat) (gd : Option (List Code)) (outer : List Env) (A₀ : Around) (base g : Heap) (L' : Addr) (gns : Array GenState) (dr : Drawn) (os : OsState) (h₁ : Heap) (tk₁ : Nat) (cells : List (Addr × Obj)),
      dp + d < recursionLimit + 1 → un + u < cLine + 3 → (∀ p ∈ mine, p.1 < L') → P g → Below A₀ base outer g → K.In g → Top p loose mean mg mb g → News g L' h₁ (cells ++ mine) →
      CellsAre (bindC (envOfC qual scope L' f cdv).kindOf binds fun _ => none) (cellsFrom (L' + 1) scope.names []) cells → Fr g L' h₁ (bindL (envOfC qual scope L' f cdv).kindOf binds fun _ => none) →
      ∀ Qf : Value → Shared → Prop, (∀ v s', EndsD { heap := h₁, gens := gns, drawn := dr, toks := tk₁, os := os } g S v s' → Qf v s') →
      wpAny (model prog w) (ktrTop dp un gd qual scope L' f cdv (cellsFrom (L' + 1) scope.names []) outer) (execs body (envOfC qual scope L' f cdv))
        (fun fl s' => Qf (match fl with | .ret v => v | _ => .none) s') (fun _ _ => False)
        { heap := h₁, gens := gns, drawn := dr, toks := tk₁, os := os })
    (hd : 1 ≤ d := by decide) (hu : 3 ≤ u := by decide)
    (hco : scope.isCoroutine = false := by rfl) (hgen : scope.isGenerator = false := by rfl) (hk : scope.kind = .function := by rfl) : CallD prog w K (.ref f) args d u P mine S := by
  intro p loose mean mg mb dp un gd cn cs a ccd cl outer A₀ base h₀ L m s R C N hP hQ
  have hroom : (ktrTop dp un gd cn cs L a ccd cl outer).depth < recursionLimit := by have := C.dp; show dp < _; omega
  obtain ⟨FG, BG, st, -⟩ := groundX (R := fun _ _ => True) (A := ktrTop dp un gd cn cs L a ccd cl outer) (env := envX cn cs L a ccd cl) C.B C.F N rfl rfl C.kd
  have keep : ∀ b o, s.heap.get? b = some o → b ∉ mine.map (·.1) → (hideAll s.heap (mine.map (·.1))).get? b = some o := fun b o e n => hideAll_get _ e n
  obtain ⟨g, hg⟩ : ∃ g, g = hideAll s.heap (mine.map (·.1)) := ⟨_, rfl⟩
  have old : ∀ b o, g.get? b = some o → s.heap.get? b = some o := fun b o e => of_hideAll _ (hg ▸ e)
  have hsz : g.objs.size = s.heap.objs.size := by rw [hg]; exact hideAll_size _ _
  have hno : ∀ p ∈ mine, g.get? p.1 = none := fun p hp => by rw [hg]; exact hideAll_none _ (List.mem_map_of_mem hp)
  rw [← hg] at FG BG st keep
  refine codeAny_call_function (fd := fnOf name qual params body scope dV kV doc pm an cdv ct) hroom (C.X.keeps C.F.keep _ _ ho) rfl hco hgen rfl (codeRec_of (C.X.keeps C.F.keep) hcd) ((hbind s) _ _ _ _ ?_)
  refine wpAny_newFunctionEnv_cells hk (kindsX hkind _) fun env' he s' x => ?_
  subst he
  refine ⟨((C.T.nolimit.keeps C.F.keep)).keeps x.toInCall.keep, codeAny_func ?_⟩
  obtain ⟨h₁, tk, rfl, _⟩ := x.done
  have hk₁ := x.toInCall.keep
  obtain ⟨cells, NC, Y⟩ := Cl.news (h₀ := s.heap) (Nat.le_refl _) fun n c hm => ⟨x.cell n c (lookup_of_mem_nodup (cellsFrom_names scope.names 0 (s.heap.objs.size + 1) [] [] rfl ▸ hnd) hm), x.above n c hm⟩
  refine wpAny_mono (h p loose mean mg mb (dp + 1) (un + 3) gd (envX cn cs L a ccd cl :: outer) _ base g s.heap.objs.size s.gens s.drawn s.os h₁ tk cells
    (by have := C.dp; omega) (by have := C.un; omega) (fun p hp => Heap.lt_size (N p hp).1) (hst _ _ hP keep fun p hp => (N p hp).1) BG (C.X.keeps st) (C.T.keeps st)
    (fun p hp => ?_) Y ⟨x.toInCall.ns, fun b o e => hk₁ b o (old b o e), Nat.le_of_eq hsz⟩ _ fun _ _ e => e) (fun fl s' he => ?_) fun _ _ e => e.elim
  · rcases List.mem_append.mp hp with hp | hp
    · refine ⟨(NC p hp).1, (NC p hp).2.1, ?_⟩
      cases q : g.get? p.1 with
      | none => rfl
      | some o => have := old _ _ q; rw [(NC p hp).2.2] at this; cases this
    · exact ⟨hk₁ _ _ (N p hp).1, Nat.ne_of_lt (Heap.lt_size (N p hp).1), hno _ hp⟩
  obtain ⟨L'', m', mine', h', tk', dd, rfl, F', N', hS⟩ := he
  obtain ⟨oL, es, ep, hL, hLd, hLk, hLf⟩ := FG.ns
  refine hQ _ mine' h' tk' dd ⟨⟨oL, es, ep, F'.keep L oL hL, hLd, hLk, hLf⟩, fun b o e => F'.keep b o (st b o e), C.F.above⟩ (fun q hq => ⟨(N' q hq).1, fun e => ?_, ?_⟩)
    (fun b o e n => F'.keep b o (keep b o e n)) (fun q hq => ?_) hS
  · have := (N' q hq).2.2; rw [e, hL] at this; cases this
  · cases e : h₀.get? q.1 with
    | none => rfl
    | some o => have := (N' q hq).2.2; rw [st _ _ e] at this; cases this
  · by_cases hm : q.1 ∈ mine.map (·.1)
    · exact .inl hm
    · cases e : s.heap.get? q.1 with
      | none => exact .inr rfl
      | some o => have := (N' q hq).2.2; rw [keep _ _ e hm] at this; cases this
end
section
variable {prog : Program} {w : World} {K : Frag} {mine : List (Addr × Obj)} {f : Value} {args : List Value} {P : Heap → Prop} {S : Heap → Value → List (Addr × Obj) → Prop} {d u : Nat}
theorem CallD.use {fv : Value} (H : CallD prog w K fv args d u P mine S) {p : Program} {loose : List Str} {mean : ExcName → Option Value} {mg mb : Str → Option Value} {dp un : Nat} {gd : Option (List Code)} {cn : Str} {cs : Scope} {a : Addr} {ccd : Value} {cl : List (Str × Addr)} {outer : List Env} {A₀ : Around} {base h₀ : Heap} {L : Addr} {m : Str → Option Value} {s : Shared} {Q E : Value → Shared → Prop} {news : List (Addr × Obj)}
    (B : Below A₀ base outer h₀) (F : Fr h₀ L s.heap m) (X : K.In h₀) (T : Top p loose mean mg mb h₀) (N : News h₀ L s.heap news) (hk : cs.kind = .function) (hd : dp + d < recursionLimit) (hu : un + u < cLine)
    (hm : ∀ q ∈ mine, q ∈ news) (hP : P s.heap)
    (hQ : ∀ r mine' h' tk' dd, Fr h₀ L h' m → (∀ news' : List (Addr × Obj), (∀ q ∈ news', q ∈ mine' ∨ (q ∈ news ∧ q.1 ∉ mine.map (·.1))) → News h₀ L h' news') → (∀ q ∈ mine', ∀ q' ∈ news, q.1 = q'.1 → q.1 ∈ mine.map (·.1)) → Rest mine s.heap h' → S h' r mine' → Q r { s with heap := h', toks := tk', drawn := dd }) :
    wpAny (model prog w) (ktrTop dp un gd cn cs L a ccd cl outer) (call fv args) Q E s := by
  refine wpAny_call (H p loose mean mg mb dp un gd cn cs a ccd cl outer A₀ base h₀ L m s _ ⟨B, F, X, T, hk, hd, hu⟩ (fun q hq => N q (hm q hq)) hP fun r mine' h' tk' dd F' N' R' A' hS => ?_)
  refine hQ r mine' h' tk' dd F' (fun news' hn q hq => ?_) (fun q hq q' hq' e => ?_) R' hS
  · rcases hn q hq with h | ⟨h, hno⟩
    · exact N' q h
    · exact ⟨R' _ _ (N q h).1 hno, (N q h).2⟩
  · rcases A' q hq with h | h
    · exact h
    · rw [e, (N q' hq').1] at h; cases h
end

theorem off_S33 : True := by
  w_top off
  trivial
set_option pp.deepTerms false
set_option pp.deepTerms.threshold 6
inductive TurnGoZ (h₀ : Heap) (L : Addr) (hid : List (Addr × Obj)) (s : Shared) (J : (Str → Option Value) → List (Addr × Obj) → Prop) (s' : Shared) : Prop
  | mk (h' : Heap) (tk : Nat) (m' : Str → Option Value) (news' : List (Addr × Obj)) (e : s' = { s with heap := h', toks := tk }) (F : Fr h₀ L h' m') (N : News h₀ L h' (hid ++ news')) (ne : ∀ p ∈ news', p.1 ∉ hid.map (·.1)) (j : J m' news')
def TurnEndZ (h₀ : Heap) (L : Addr) (hid : List (Addr × Obj)) (s : Shared) (J : (Str → Option Value) → List (Addr × Obj) → Prop) (Q : Flow → Shared → Prop) (f : Flow) (s' : Shared) : Prop :=
  match f with
  | .ret v => Q (.ret v) s'
  | .brk => Q .next s'
  | _ => TurnGoZ h₀ L hid s J s'
theorem TurnEndZ.next {h₀ : Heap} {L : Addr} {hid : List (Addr × Obj)} {s : Shared} {J : (Str → Option Value) → List (Addr × Obj) → Prop} {Q : Flow → Shared → Prop} {h' : Heap} {tk : Nat} {m' : Str → Option Value} {news' : List (Addr × Obj)}
    (F : Fr h₀ L h' m') (N : News h₀ L h' (hid ++ news')) (hI : ∀ p ∈ news', p.1 ∉ hid.map (·.1)) (hJ : J m' news') : TurnEndZ h₀ L hid s J Q .next { s with heap := h', toks := tk } := ⟨_, _, _, _, rfl, F, N, hI, hJ⟩

theorem TurnEndZ.out {h₀ : Heap} {L : Addr} {hid : List (Addr × Obj)} {s : Shared} {J : (Str → Option Value) → List (Addr × Obj) → Prop} {Q Qt : Flow → Shared → Prop} (hQt : ∀ f s', TurnEndZ h₀ L hid s J Q f s' → Qt f s') {h' : Heap} {tk : Nat} {m' : Str → Option Value} {news' : List (Addr × Obj)}
    (F : Fr h₀ L h' m') (N : News h₀ L h' (hid ++ news')) (hI : ∀ p ∈ news', p.1 ∉ hid.map (·.1)) (hJ : J m' news') : Qt .next { s with heap := h', toks := tk } := hQt _ _ ⟨_, _, _, _, rfl, F, N, hI, hJ⟩
abbrev pairO (x y : Value) : Obj := { cls := .type "tuple", data := .seq #[x, y] }
/-- a for over zip of two lists, its invariant over the frame's names and the whole ledger -/
inductive LoopZ (prog : Program) (w : World) (A : Around) (h₀ : Heap) (env : Env) (target : Expr) (body : List Stmt) (Q : Flow → Shared → Prop) (v : Value) (s : Shared) : Prop
  | mk (z TI TO i1 i2 l1 l2 : Addr) (xs ys : Array Value) (m : Str → Option Value) (news : List (Addr × Obj)) (J : Nat → (Str → Option Value) → List (Addr × Obj) → Prop) (f1 : v = .ref z) (f2 : ZipApart z TI TO i1 i2 l1 l2) (f3 : (IsZip s.heap z TI TO .none ∧ IsPair s.heap TI (.ref i1) (.ref i2) ∧ (∃ a b, IsPair s.heap TO a b) ∧ s.heap.IsListIter i1 l1 0 ∧ s.heap.IsListIter i2 l2 0)) (f4 : xs.size = ys.size) (f5 : (∀ a ∈ [z, TI, TO, i1, i2], h₀.get? a = none ∧ a ≠ env.locals)) (f6 : (∀ p ∈ news, p.1 ∉ [z, TI, TO, i1, i2])) (f7 : Fr h₀ env.locals s.heap m) (f8 : News h₀ env.locals s.heap news) (f9 : J 0 m news) (f10 : (∀ i m' news' h', J i m' news' → Fr h₀ env.locals h' m' → News h₀ env.locals h' news' → h'.IsList l1 xs ∧ h'.IsList l2 ys)) (f11 : (∀ i x y m₁ news₁ h tk T oz o1 o2 o3 o4, xs[i]? = some x → ys[i]? = some y → J i m₁ news₁ → (∀ p ∈ news₁, p.1 ∉ [z, TI, TO, i1, i2]) → (∀ p ∈ (z, oz) :: (TI, o1) :: (TO, o2) :: (i1, o3) :: (i2, o4) :: news₁, p.1 < T) → Fr h₀ env.locals h m₁ → News h₀ env.locals h ((T, pairO x y) :: (z, oz) :: (TI, o1) :: (TO, o2) :: (i1, o3) :: (i2, o4) :: news₁) → ∀ Qt : Flow → Shared → Prop, (∀ f s', TurnEndZ h₀ env.locals [(z, oz), (TI, o1), (TO, o2), (i1, o3), (i2, o4)] s (J (i + 1)) Q f s' → Qt f s') → wpAny (model prog w) A (assign target env (.ref T)) (fun _ s₂ => wpAny (model prog w) A (execs body env) Qt (fun _ _ => False) s₂) (fun _ _ => False) { s with heap := h, toks := tk })) (f12 : (∀ m' news' h' tk, J xs.size m' news' → Fr h₀ env.locals h' m' → News h₀ env.locals h' news' → Q .next { s with heap := h', toks := tk }))

inductive InvZ (h₀ : Heap) (L : Addr) (s₁ : Shared) (z TI TO i1 i2 l1 l2 : Addr) (n : Nat) (J : Nat → (Str → Option Value) → List (Addr × Obj) → Prop) (k : Nat) (s' : Shared) : Prop
  | mk (i : Nat) (h' : Heap) (tk : Nat) (m' : Str → Option Value) (news' : List (Addr × Obj)) (a b : Value) (f1 : n - i = k) (f2 : s' = { s₁ with heap := h', toks := tk }) (f3 : IsZip h' z TI TO .none) (f4 : IsPair h' TI (.ref i1) (.ref i2)) (f5 : IsPair h' TO a b) (f6 : h'.IsListIter i1 l1 i) (f7 : h'.IsListIter i2 l2 i) (f8 : Fr h₀ L h' m') (f9 : News h₀ L h' news') (f10 : (∀ p ∈ news', p.1 ∉ [z, TI, TO, i1, i2])) (f11 : J i m' news') (f12 : i ≤ n)
section
variable {prog : Program} {w : World} {A : Around} {env : Env} {h₀ : Heap} {elts : List Expr} {kt : Nat} {pt : Pos} {iter : Expr} {body : List Stmt} {pos : Pos} {Q : Flow → Shared → Prop} {E : Value → Shared → Prop}

theorem For_Z (hh : A.handled = none) {s : Shared} (h : wpAny (model prog w) A (eval iter env) (LoopZ prog w A h₀ env (.Tuple elts kt pt) body Q) E s)
    (hs : ∀ x, foldedSetIterable iter env x = pure x := by intro _; rfl) :
    wpAny (model prog w) A (exec (.For (.Tuple elts kt pt) iter body [] pos) env) Q E s := by
  refine wpAny_For (wpAny_mono h (fun v s₁ h₁ => ?_) fun _ _ e => e) hs
  obtain ⟨z, TI, TO, i1, i2, l1, l2, xs, ys, m, news, J, rfl, D, ⟨hz0, hTI0, ⟨ta, tb, hTO0⟩, hi10, hi20⟩, hsz, hnew, ne0, F, N, h0, hl, turn, done⟩ := h₁
  refine wpAny_pyIter_zip hz0 ?_
  have nz := hnew z (by simp)
  have nTI := hnew TI (by simp)
  have nTO := hnew TO (by simp)
  have n1 := hnew i1 (by simp)
  have n2 := hnew i2 (by simp)
  refine codeAny_loop' rfl (InvZ h₀ env.locals s₁ z TI TO i1 i2 l1 l2 xs.size J) ?_ (xs.size - 0)
    ⟨0, _, _, m, news, ta, tb, rfl, rfl, hz0, hTI0, hTO0, hi10, hi20, F, N, ne0, h0, Nat.zero_le _⟩
  rintro k s' ⟨i, h', tk, m', news', a, b, rfl, rfl, hz, hTI, hTO, hi1, hi2, F', N', hne, hJ, hi⟩
  show wpAny _ _ ((forTurn (.Tuple elts kt pt) (.ref z) body [] env).onRaise (fun x => do noteFrame x env; theTreesLotGoes x)) _ _ _
  refine wpAny_noted ?_
  simp only [forTurn]
  obtain ⟨hl1, hl2⟩ := hl _ _ _ _ hJ F' N'
  refine wpAny_bind (wpAny_standAt (wpAny_bind (wpAny_onRaise ?_)))
  have ndiff : ∀ (h₂ : Heap), (∀ c o, c ≠ z → c ≠ TO → c ≠ i1 → c ≠ i2 → h'.get? c = some o → h₂.get? c = some o) → Fr h₀ env.locals h₂ m' ∧ News h₀ env.locals h₂ news' := fun h₂ k₂ =>
    ⟨⟨F'.ns.at' fun o x => k₂ _ o (Ne.symm nz.2) (Ne.symm nTO.2) (Ne.symm n1.2) (Ne.symm n2.2) x, fun b o x => k₂ b o (fun q => by rw [q, nz.1] at x; cases x) (fun q => by rw [q, nTO.1] at x; cases x) (fun q => by rw [q, n1.1] at x; cases x) (fun q => by rw [q, n2.1] at x; cases x) (F'.keep b o x), F'.above⟩,
      fun p hp => ⟨k₂ _ _ (fun q => hne p hp (by rw [q]; simp)) (fun q => hne p hp (by rw [q]; simp)) (fun q => hne p hp (by rw [q]; simp)) (fun q => hne p hp (by rw [q]; simp)) (N' p hp).1, (N' p hp).2⟩⟩
  by_cases hlt : i < xs.size
  · have hx : xs[i]? = some xs[i] := Array.getElem?_eq_getElem hlt
    have hy : ys[i]? = some (ys[i]'(hsz ▸ hlt)) := Array.getElem?_eq_getElem (hsz ▸ hlt)
    generalize xs[i] = x at hx
    generalize ys[i]'(hsz ▸ hlt) = y at hy
    refine wpAny_pyNext_zip_item D hz hTI hTO hi1 hi2 hl1 hl2 hx hy fun h₂ hz₂ hTO₂ hi1₂ hi2₂ hT₂ hsz₂ k₂ => ?_
    dsimp only
    refine wpAny_bind (wpAny_letOwnedTupleGo_zip hz₂ fun h₃ hz₃ hs₃ => ?_)
    have k₃ : ∀ c o, c ≠ z → c ≠ TO → c ≠ i1 → c ≠ i2 → h'.get? c = some o → h₃.get? c = some o := fun c o c1 c2 c3 c4 x => (hs₃.2 c c1).trans (k₂ c o c1 c2 c3 c4 x)
    obtain ⟨F₃, N₃⟩ := ndiff h₃ k₃
    have ltz : z < h'.objs.size := Heap.lt_size hz
    have ltTI : TI < h'.objs.size := Heap.lt_size hTI
    have ltTO : TO < h'.objs.size := Heap.lt_size hTO
    have lt1 : i1 < h'.objs.size := by obtain ⟨_, x, _⟩ := hi1; exact Heap.lt_size x
    have lt2 : i2 < h'.objs.size := by obtain ⟨_, x, _⟩ := hi2; exact Heap.lt_size x
    have hT₃ : IsPair h₃ h'.objs.size x y := (hs₃.2 _ (Nat.ne_of_gt ltz)).trans hT₂
    have hTI₃ : IsPair h₃ TI (.ref i1) (.ref i2) := k₃ _ _ D.TIz D.TITO D.TIi1 D.TIi2 hTI
    have hTO₃ : IsPair h₃ TO x y := (hs₃.2 _ D.TOz).trans hTO₂
    have hi1₃ : h₃.IsListIter i1 l1 (i + 1) := hi1₂.at fun o e => (hs₃.2 _ D.i1z).trans e
    have hi2₃ : h₃.IsListIter i2 l2 (i + 1) := hi2₂.at fun o e => (hs₃.2 _ D.i2z).trans e
    obtain ⟨o3, ho3, hre1⟩ : ∃ o3, h₃.get? i1 = some o3 ∧ ∀ h : Heap, h.get? i1 = some o3 → h.IsListIter i1 l1 (i + 1) := by
      obtain ⟨o, e1, e2⟩ := hi1₃
      exact ⟨o, e1, fun h e => ⟨o, e, e2⟩⟩
    obtain ⟨o4, ho4, hre2⟩ : ∃ o4, h₃.get? i2 = some o4 ∧ ∀ h : Heap, h.get? i2 = some o4 → h.IsListIter i2 l2 (i + 1) := by
      obtain ⟨o, e1, e2⟩ := hi2₃
      exact ⟨o, e1, fun h e => ⟨o, e, e2⟩⟩
    obtain ⟨oz, hoz, hrez⟩ : ∃ oz, h₃.get? z = some oz ∧ ∀ h : Heap, h.get? z = some oz → IsZip h z TI TO .none := ⟨_, hz₃, fun _ q => q⟩
    have nT : h₀.get? h'.objs.size = none := by
      cases q : h₀.get? h'.objs.size with
      | none => rfl
      | some o => exact absurd (Heap.lt_size (F'.keep _ _ q)) (Nat.lt_irrefl _)
    have nTL : h'.objs.size ≠ env.locals := fun q => by
      obtain ⟨oL, _, _, hL, _⟩ := F'.ns
      exact absurd (Heap.lt_size hL) (by rw [q]; exact Nat.lt_irrefl _)
    have N₄ : News h₀ env.locals h₃ ((h'.objs.size, pairO x y) :: (z, oz) :: (TI, pairO (.ref i1) (.ref i2)) :: (TO, pairO x y) :: (i1, o3) :: (i2, o4) :: news') := fun p hp => by
      rcases List.mem_cons.mp hp with rfl | hp
      · exact ⟨hT₃, nTL, nT⟩
      rcases List.mem_cons.mp hp with rfl | hp
      · exact ⟨hoz, nz.2, nz.1⟩
      rcases List.mem_cons.mp hp with rfl | hp
      · exact ⟨hTI₃, nTI.2, nTI.1⟩
      rcases List.mem_cons.mp hp with rfl | hp
      · exact ⟨hTO₃, nTO.2, nTO.1⟩
      rcases List.mem_cons.mp hp with rfl | hp
      · exact ⟨ho3, n1.2, n1.1⟩
      rcases List.mem_cons.mp hp with rfl | hp
      · exact ⟨ho4, n2.2, n2.1⟩
      · exact N₃ p hp
    have ltT : ∀ p ∈ (z, oz) :: (TI, pairO (.ref i1) (.ref i2)) :: (TO, pairO x y) :: (i1, o3) :: (i2, o4) :: news', p.1 < h'.objs.size := fun p hp => by
      rcases List.mem_cons.mp hp with rfl | hp
      · exact ltz
      rcases List.mem_cons.mp hp with rfl | hp
      · exact ltTI
      rcases List.mem_cons.mp hp with rfl | hp
      · exact ltTO
      rcases List.mem_cons.mp hp with rfl | hp
      · exact lt1
      rcases List.mem_cons.mp hp with rfl | hp
      · exact lt2
      · exact Heap.lt_size (N' p hp).1
    refine wpAny_bind (wpAny_mono (turn i x y m' news' h₃ tk h'.objs.size oz _ _ o3 o4 hx hy hJ hne ltT F₃ N₄ _ fun _ _ e => e) (fun _ s₂ h₂' => wpAny_bind (wpAny_mono h₂' (fun f s₃ hf => ?_) fun _ _ e => e.elim)) fun _ _ e => e.elim)
    have fin : TurnGoZ h₀ env.locals [(z, oz), (TI, pairO (.ref i1) (.ref i2)), (TO, pairO x y), (i1, o3), (i2, o4)] s₁ (J (i + 1)) s₃ →
        ∃ m, m < xs.size - i ∧ InvZ h₀ env.locals s₁ z TI TO i1 i2 l1 l2 xs.size J m s₃ := by
      rintro ⟨h3, tk3, m3, news3, e3, F3, N3, ne3, J3⟩
      refine ⟨xs.size - (i + 1), by omega, i + 1, h3, tk3, m3, news3, x, y, rfl, e3, hrez _ (N3 _ (.head _)).1, (N3 _ (.tail _ (.head _))).1, (N3 _ (.tail _ (.tail _ (.head _)))).1, hre1 _ (N3 _ (.tail _ (.tail _ (.tail _ (.head _))))).1, hre2 _ (N3 _ (.tail _ (.tail _ (.tail _ (.tail _ (.head _)))))).1, F3, fun p hp => N3 p (List.mem_append_right _ hp), ne3, J3, hlt⟩
    cases f with
    | next => exact wpAny_pure (.inl ⟨rfl, fin hf⟩)
    | cont => exact wpAny_pure (.inl ⟨rfl, fin hf⟩)
    | brk => exact wpAny_pure hf
    | ret v => exact wpAny_pure hf
  · have hin : i = xs.size := by omega
    subst hin
    refine wpAny_pyNext_zip_end hh D hz hTI hTO hi1 hi2 hl1 hl2 (.inl (by simp)) fun h₂ k₂ => ?_
    refine wpAny_pure (.inr ⟨rfl, codeAny_block (wpAny_execs_nil ?_)⟩)
    obtain ⟨F₂, N₂⟩ := ndiff h₂ k₂
    exact done m' news' h₂ tk hJ F₂ N₂

theorem zip_K {s : Shared} {L l1 l2 : Addr} {m : Str → Option Value} {news : List (Addr × Obj)} {xs ys : Array Value} {n1 n2 : Nat} {Q : Value → Shared → Prop} (F : Fr h₀ L s.heap m) (N : News h₀ L s.heap news) (hm1 : (l1, W.listOf xs n1) ∈ news) (hm2 : (l2, W.listOf ys n2) ∈ news)
    (k : ∀ z TI TO i1 i2 h', Fr h₀ L h' m → News h₀ L h' news → ZipApart z TI TO i1 i2 l1 l2 → (IsZip h' z TI TO .none ∧ IsPair h' TI (.ref i1) (.ref i2) ∧ (∃ a b, IsPair h' TO a b) ∧ h'.IsListIter i1 l1 0 ∧ h'.IsListIter i2 l2 0) →
      (∀ a ∈ [z, TI, TO, i1, i2], h₀.get? a = none ∧ a ≠ L) → (∀ p ∈ news, p.1 ∉ [z, TI, TO, i1, i2]) → Q (.ref z) { s with heap := h' }) :
    wpAny (model prog w) A (call (.type "zip") [.ref l1, .ref l2]) Q E s := by
  have hl1 := News.isList N hm1
  have hl2 := News.isList N hm2
  have a1 : l1 < s.heap.objs.size := by obtain ⟨_, e, _⟩ := hl1; exact Heap.lt_size e
  have a2 : l2 < s.heap.objs.size := by obtain ⟨_, e, _⟩ := hl2; exact Heap.lt_size e
  have fresh : ∀ a, s.heap.objs.size ≤ a → h₀.get? a = none := fun a ha => by
    cases q : h₀.get? a with
    | none => rfl
    | some o => exact absurd (Heap.lt_size (F.keep _ _ q)) (Nat.not_lt.mpr ha)
  have hL : L < s.heap.objs.size := F.ns.lt
  refine call_zip_2 hl1 hl2 fun h' hz hTI hTO hi1 hi2 _ hk => k _ _ _ _ _ h' (F.keeps hk) (N.grown hk) (zipApart_new a1 a2) ⟨hz, hTI, ⟨_, _, hTO⟩, hi1, hi2⟩ (fun a ha => ?_) fun p hp => ?_
  · have : s.heap.objs.size ≤ a := by
      simp only [List.mem_cons, List.not_mem_nil, or_false] at ha
      rcases ha with rfl | rfl | rfl | rfl | rfl
      · exact Nat.le_add_right _ _
      · exact Nat.le_add_right _ _
      · exact Nat.le_add_right _ _
      · exact Nat.le_refl _
      · exact Nat.le_add_right _ _
    exact ⟨fresh a this, Nat.ne_of_gt (Nat.lt_of_lt_of_le hL this)⟩
  · have := Heap.lt_size (N p hp).1
    generalize p.1 = q at *
    replace this := ltN this
    simp only [List.mem_cons, List.not_mem_nil, or_false, not_or]
    exact ⟨Nat.ne_of_lt (Nat.lt_of_lt_of_le this (Nat.le_add_right _ _)), Nat.ne_of_lt (Nat.lt_of_lt_of_le this (Nat.le_add_right _ _)), Nat.ne_of_lt (Nat.lt_of_lt_of_le this (Nat.le_add_right _ _)), Nat.ne_of_lt this, Nat.ne_of_lt (Nat.lt_of_lt_of_le this (Nat.le_add_right _ _))⟩
end

theorem off_S34 : True := by
  w_top off
  trivial
set_option pp.deepTerms false
set_option pp.deepTerms.threshold 6
section
variable {prog : Program} {w : World} {A : Around} {E : Value → Shared → Prop} {s : Shared} {Q : Value → Shared → Prop}
/-- two lists of the same octets -/
theorem bs_ne {l b : Addr} {vs us : List Value} (hl : s.heap.IsList l vs.toArray) (hb : s.heap.IsList b us.toArray) (hv : ∀ v ∈ vs, ∃ b t, v = .bytes b t) (hu : ∀ v ∈ us, ∃ b t, v = .bytes b t) (e : vs.map octOf = us.map octOf) (hr : A.units < cLine) (h : Q (.bool false) s) :
    wpAny (model prog w) A (compareOp .NotEq (.ref l) (.ref b)) Q E s := by
  have hlen : vs.length = us.length := by
    have := congrArg List.length e
    simpa using this
  refine PySem.SeqAt.RcNeAt.lists (e := fun _ => true) hl hb (by simpa using hlen) hr (fun j h1 h2 => ?_) prog w E Q ?_
  · intro prog w E Q hq
    have h1' : j < vs.length := by simpa using h1
    have h2' : j < us.length := by simpa using h2
    have e1 : octOf vs[j] = octOf us[j] := by
      have := congrArg (fun l => l[j]?) e
      simpa [List.getElem?_map, List.getElem?_eq_getElem h1', List.getElem?_eq_getElem h2'] using this
    obtain ⟨b1, t1, q1⟩ := hv vs[j] (List.getElem_mem _)
    obtain ⟨b2, t2, q2⟩ := hu us[j] (List.getElem_mem _)
    rw [q1, q2] at e1
    change b1 = b2 at e1
    show wpAny _ _ (eqBool vs[j] us[j]) _ _ _
    rw [q1, q2, e1]
    exact eqBool_bytes (by simpa using hq)
  · have : (!(List.range vs.toArray.size).all fun _ => true) = false := by simp
    rw [this]
    exact h
theorem bytes_ne_same {b c : Array UInt8} {t u : Tok} (e : b = c) (h : Q (.bool false) s) : wpAny (model prog w) A (compareOp .NotEq (.bytes b t) (.bytes c u)) Q E s :=
  ne_bytes (by rw [e]; simpa using h)
end

theorem off_S32 : True := by
  w_top off
  trivial
set_option pp.deepTerms false
set_option pp.deepTerms.threshold 6
local macro_rules | `(tactic| walk_at "eval ListComp") => `(tactic| ((with_reducible show wpAny _ _ (eval (Expr.ListComp _ [Comprehension.mk (Expr.Tuple _ _ _) _ (_ :: _) _] _ _) _) _ _ _); (refine stop_here ?_)))
local macro_rules | `(tactic| walk_at "exec Assign cons ListComp") => `(tactic| ((with_reducible show wpAny _ _ (exec (Stmt.Assign _ (Expr.ListComp _ (_ :: _ :: _) _ _) _) _) _ _ _); (refine stop_here ?_)))
/-- the octets that a block may hold -/
def thingsL (ss : List Value) (ps : List (Int × Value)) (i : Nat) : List (Array UInt8) := octOf (ss.getD i .none) :: ((ps.filter fun p => p.1 == (i : Int)).map fun p => octOf p.2)
/-- the images that are due, of the first blocks -/
def dueL (ss : List Value) (ps : List (Int × Value)) : Nat → List (Array UInt8)
  | 0 => [#[]]
  | i + 1 => (dueL ss ps i).flatMap fun b => (thingsL ss ps i).map fun o => b ++ o
theorem thingsL_length (ss : List Value) (ps : List (Int × Value)) (i : Nat) : (thingsL ss ps i).length ≤ ps.length + 1 := by
  unfold thingsL
  rw [List.length_cons, List.length_map]
  exact Nat.succ_le_succ (List.length_filter_le _ _)
theorem flat_length {α β : Type} (f : α → List β) (k : Nat) : ∀ l : List α, (∀ a ∈ l, (f a).length = k) → (l.flatMap f).length = l.length * k
  | [], _ => by simp
  | a :: r, h => by
    rw [List.flatMap_cons, List.length_append, flat_length f k r fun b hb => h b (.tail _ hb), h a (.head _), List.length_cons, Nat.succ_mul]
    omega
theorem dueL_length (ss : List Value) (ps : List (Int × Value)) (i : Nat) : (dueL ss ps (i + 1)).length = (dueL ss ps i).length * (thingsL ss ps i).length :=
  flat_length _ _ _ fun b _ => List.length_map _
theorem thingsL_size {ss : List Value} {ps : List (Int × Value)} (hO : ∀ p ∈ ps, Oct p.2) (hS : ∀ v ∈ ss, Oct v) {i : Nat} (hi : i < ss.length) : ∀ o ∈ thingsL ss ps i, o.size = 4 := by
  intro o ho
  rcases List.mem_cons.mp ho with rfl | ho
  · rw [List.getD_eq_getElem?_getD, List.getElem?_eq_getElem hi]
    obtain ⟨b, t, e, hb⟩ := hS ss[i] (List.getElem_mem _)
    rw [Option.getD_some, e]
    exact hb
  · obtain ⟨p, hp, rfl⟩ := List.mem_map.mp ho
    obtain ⟨b, t, e, hb⟩ := hO p (List.mem_filter.mp hp).1
    rw [e]
    exact hb
theorem dueL_size {ss : List Value} {ps : List (Int × Value)} (hO : ∀ p ∈ ps, Oct p.2) (hS : ∀ v ∈ ss, Oct v) : ∀ {i : Nat}, i ≤ ss.length → ∀ b ∈ dueL ss ps i, b.size = 4 * i
  | 0, _, b, hb => by
    rw [List.mem_singleton.mp hb]
    rfl
  | i + 1, hi, b, hb => by
    obtain ⟨c, hc, hb⟩ := List.mem_flatMap.mp hb
    obtain ⟨o, ho, rfl⟩ := List.mem_map.mp hb
    rw [Array.size_append, dueL_size hO hS (by omega) c hc, thingsL_size hO hS (by omega) o ho]
    omega
theorem dueL_pow {ss : List Value} {ps : List (Int × Value)} (hu : ps.length ≤ 6) : ∀ i : Nat, (dueL ss ps i).length ≤ 7 ^ i
  | 0 => Nat.le_refl 1
  | i + 1 => by
    rw [dueL_length, Nat.pow_succ]
    exact Nat.mul_le_mul (dueL_pow hu i) (Nat.le_trans (thingsL_length ss ps i) (by omega))
theorem dueL_le {ss : List Value} {ps : List (Int × Value)} (hu : ps.length ≤ 6) {i : Nat} (hi : i ≤ 3) : (dueL ss ps i).length ≤ 343 :=
  Nat.le_trans (dueL_pow hu i) (Nat.pow_le_pow_right (n := 7) (by decide) hi)
/-- the pairs so far -/
def flatA (bs cs : List (Array UInt8)) (i j : Nat) : List (Array UInt8) := ((bs.take i).flatMap fun b => cs.map fun o => b ++ o) ++ (cs.take j).map fun o => bs.getD i #[] ++ o
theorem flatA_step {bs cs : List (Array UInt8)} {i j : Nat} {b c : Array UInt8} (hb : bs[i]? = some b) (hj : cs[j]? = some c) : flatA bs cs i (j + 1) = flatA bs cs i j ++ [b ++ c] := by
  unfold flatA
  rw [List.take_add_one, hj, List.map_append, List.append_assoc, List.getD_eq_getElem?_getD, hb]
  rfl
theorem flatA_next {bs cs : List (Array UInt8)} {i : Nat} (hi : i < bs.length) : flatA bs cs i cs.length = flatA bs cs (i + 1) 0 := by
  unfold flatA
  rw [List.take_length, List.take_zero, List.map_nil, List.append_nil, List.take_add_one, List.getElem?_eq_getElem hi, List.flatMap_append, List.getD_eq_getElem?_getD, List.getElem?_eq_getElem hi, Option.toList_some, List.flatMap_cons, List.flatMap_nil, List.append_nil]
  rfl
theorem flatA_full (bs cs : List (Array UInt8)) : flatA bs cs bs.length 0 = bs.flatMap fun b => cs.map fun o => b ++ o := by
  unfold flatA
  rw [List.take_length, List.take_zero, List.map_nil, List.append_nil]
theorem flatA_length (bs cs : List (Array UInt8)) (i j : Nat) : (flatA bs cs i j).length ≤ bs.length * cs.length + cs.length := by
  unfold flatA
  rw [List.length_append, List.length_map, flat_length _ cs.length _ fun _ _ => List.length_map _, List.length_take, List.length_take]
  exact Nat.add_le_add (Nat.mul_le_mul_right _ (Nat.min_le_right _ _)) (Nat.min_le_right _ _)
theorem three_counts : ∀ ps : List (Int × Value), (ps.filter fun p => p.1 == ((0 : Nat) : Int)).length + (ps.filter fun p => p.1 == ((1 : Nat) : Int)).length + (ps.filter fun p => p.1 == ((2 : Nat) : Int)).length ≤ ps.length
  | [] => by simp
  | p :: r => by
    have ih := three_counts r
    have e : ∀ k : Int, ((p :: r).filter fun p => p.1 == k).length = (r.filter fun p => p.1 == k).length + (if p.1 = k then 1 else 0) := fun k => by
      rw [List.filter_cons]
      by_cases c : p.1 = k
      · simp [c]
      · simp [c]
    rw [e, e, e, List.length_cons]
    by_cases c0 : p.1 = ((0 : Nat) : Int)
    · rw [if_pos c0, if_neg (by omega), if_neg (by omega)]
      omega
    · by_cases c1 : p.1 = ((1 : Nat) : Int)
      · rw [if_neg c0, if_pos c1, if_neg (by omega)]
        omega
      · rw [if_neg c0, if_neg c1]
        split <;> omega
theorem prod_small : ∀ a b c : Nat, a + b + c ≤ 6 → (a + 1) * (b + 1) * (c + 1) < 64 := by
  have h : ∀ a : Fin 7, ∀ b : Fin 7, ∀ c : Fin 7, a.val + b.val + c.val ≤ 6 → (a.val + 1) * (b.val + 1) * (c.val + 1) < 64 := by decide +kernel
  intro a b c hs
  exact h ⟨a, by omega⟩ ⟨b, by omega⟩ ⟨c, by omega⟩ hs
theorem nodup_le {α : Type} [DecidableEq α] : ∀ {l S : List α}, l.Nodup → (∀ a ∈ l, a ∈ S) → l.length ≤ S.length
  | [], _, _, _ => Nat.zero_le _
  | a :: r, S, hn, hs => by
    obtain ⟨h1, h2⟩ := List.nodup_cons.mp hn
    have hm := hs a (.head _)
    have := nodup_le (l := r) (S := S.erase a) h2 fun b hb => (List.mem_erase_of_ne (fun e => h1 (by rw [← e]; exact hb))).mpr (hs b (.tail _ hb))
    rw [List.length_erase_of_mem hm] at this
    have := List.length_pos_of_mem hm
    rw [List.length_cons]
    omega
theorem dueL_small {ss : List Value} {ps : List (Int × Value)} (hu : ps.length ≤ 6) : ∀ {i : Nat}, i ≤ 3 → (dueL ss ps i).length < 64 := by
  have h3 := three_counts ps
  have e : ∀ i, (thingsL ss ps i).length = (ps.filter fun p => p.1 == (i : Int)).length + 1 := fun i => by
    unfold thingsL
    rw [List.length_cons, List.length_map]
  have hp := prod_small _ _ _ (Nat.le_trans h3 hu)
  have q1 : (dueL ss ps 1).length = (thingsL ss ps 0).length := by
    rw [dueL_length]
    exact Nat.one_mul _
  have q2 : (dueL ss ps 2).length = (thingsL ss ps 0).length * (thingsL ss ps 1).length := by
    rw [dueL_length, q1]
  have q3 : (dueL ss ps 3).length = (thingsL ss ps 0).length * (thingsL ss ps 1).length * (thingsL ss ps 2).length := by
    rw [dueL_length, q2]
  rw [← e, ← e, ← e] at hp
  have p1 : 1 ≤ (thingsL ss ps 1).length := by rw [e]; exact Nat.le_add_left _ _
  have p2 : 1 ≤ (thingsL ss ps 2).length := by rw [e]; exact Nat.le_add_left _ _
  have m2 : (dueL ss ps 2).length < 64 := by
    rw [q2]
    exact Nat.lt_of_le_of_lt (Nat.le_mul_of_pos_right _ p2) hp
  intro i hi
  match i, hi with
  | 0, _ => exact (show (1 : Nat) < 64 by decide)
  | 1, _ =>
    rw [q1]
    rw [q2] at m2
    exact Nat.lt_of_le_of_lt (Nat.le_mul_of_pos_right _ p1) m2
  | 2, _ => exact m2
  | 3, _ =>
    rw [q3]
    exact hp
theorem dueL_ne (ss : List Value) (ps : List (Int × Value)) : ∀ i, dueL ss ps i ≠ []
  | 0 => by simp [dueL]
  | i + 1 => fun e => by
    have h := dueL_length ss ps i
    rw [e] at h
    have h1 := List.length_pos_iff.mpr (dueL_ne ss ps i)
    have h2 : 0 < (thingsL ss ps i).length := Nat.succ_pos _
    have := Nat.mul_pos h1 h2
    rw [← h] at this
    exact absurd this (by decide)
theorem bout_length {vs : List Value} {S : List (Array UInt8)} (h : BOut vs S) : vs.length ≤ S.length := by
  have := nodup_le h.2.1 fun a ha => (h.2.2 a).mp ha
  rwa [List.length_map] at this
theorem item_at {prog : Program} {w : World} {A : Around} {E : Value → Shared → Prop} {s : Shared} {value slice : PySem.Expr} {l : Addr} {vs : List Value} {k : Int} {u : Tok} {x : Value} {Q : Value → Shared → Prop} (hl : s.heap.IsList l vs.toArray)
    (h0 : 0 ≤ k) (hfit : k < 2 ^ 63) (hx : vs[k.toNat]? = some x) (h : Q x s)
    (hs : subscripted slice false (.ref l) (.int k u) = operate [.ref l, .int k u] (getItem (.ref l) (.int k u)) := by with_unfolding_all rfl) :
    wpAny (model prog w) A (subscriptTail value slice (.ref l) (.int k u)) Q E s :=
  tail_any hl.typeIs slot_list_getitem.lookup (getItem_listL hl h0 hfit hx h) hs
inductive InvDue (L' su un : Addr) (ss us : List Value) (ps : List (Int × Value)) (ns nu : Nat) (i : Nat) (m : Str → Option Value) (rest : List (Addr × Obj)) : Prop
  | mk (h1 : m "sure" = some (.ref su)) (h2 : m "unsure" = some (.ref un)) (li : Addr) (nl : Nat) (bs : List (Array UInt8 × Tok)) (ot : Obj) (v₀ : Option Value) (f1 : m "images" = some (.ref li)) (f2 : ot.data = .cell v₀) (f3 : @LT.lt Nat _ (L' + 1 + 1) li) (f4 : bs.map (·.1) = dueL ss ps i) (f5 : rest = (L' + 1 + 1, ot) :: (li, W.listOf (bs.map bv).toArray nl) :: [(su, W.listOf ss.toArray ns), (un, W.listOf us.toArray nu)])
set_option maxHeartbeats 1000000 in
theorem due_call (w : World) (su un : Addr) (ss us : List Value) (ns nu : Nat) (ps : List (Int × Value))
    (hss : ss.length ≤ 3) (h2 : 2 ≤ ss.length) (hu : ps.length ≤ 6) (hO : ∀ p ∈ ps, Oct p.2) (hS : ∀ v ∈ ss, Oct v) (hin : ∀ p ∈ ps, 0 ≤ p.1 ∧ p.1 < ss.length) (hne : @Ne Nat su un) :
    CallD PySem.Challenge.rw_pf0215_01.row.prog w (hd.heap_1 w.params) (.ref 212) [.ref su, .ref un] 10 140 (fun h => Tups h us ps) [(su, W.listOf ss.toArray ns), (un, W.listOf us.toArray nu)]
      (fun _ r mine' => ∃ D vs n, r = .ref D ∧ BOut vs (dueL ss ps ss.length) ∧ Rising (vs.map octOf) ∧ mine' = (D, W.listOf vs.toArray n) :: [(su, W.listOf ss.toArray ns), (un, W.listOf us.toArray nu)]) := by
  k_fill
  refine call_ofCD (by k_is) (by k_is) ?_ (fun _ => BindsTo.of_eq rfl) rfl (by decide +kernel) ?_
  · refine fun h g ht hk' hm => ht.hide ?_ hk' hm
    intro p hp
    simp only [List.mem_cons, List.not_mem_nil, or_false] at hp
    rcases hp with rfl | rfl <;> exact fun e => absurd (Value.type.inj e) (by decide)
  intro p loose mean mg mb dp un' gd outer A₀ base g L' gns dr os h₁ tk₁ cells hdp hun hlt hP B X T N Y F Qf hQf
  k_cells Y
  have hlen := hP.length
  replace hlt := allLt_of hlt
  simp only [AllLt, and_true] at hlt
  (try dsimp only)
  (try k_fold)
  k_steps
  rename_i ot on d1 d2 li h9 l9 h8 F2 N2
  refine For_RC (h₀ := g) (c := L' + 1) rfl ?_ rfl rfl rfl
  k_steps
  rename IsRange _ _ _ _ _ _ _ _ => hR
  rename Fr _ _ _ _ => F3
  rename News _ _ _ _ => N3
  refine ⟨_, 0, ss.length, _, _, _, ss.length, _, _, InvDue L' su un ss us ps ns nu,
    rfl, hR, small_one (by omega) (by omega) (by omega) (by omega), by have e := rangeSize_nat 0 ss.length; rw [Int.sub_zero] at e; exact e, F3, news_sub (new := [(L' + 1, on), (L' + 1 + 1, ot), (li, W.listOf #[.bytes #[] tk₁] 0), (su, W.listOf ss.toArray ns), (un, W.listOf us.toArray nu)]) N3 (by k_allIn), ⟨on, _, _, rfl, d2, ?_, rfl, rfl, li, 0, [(#[], tk₁)], ot, _, rfl, d1, l9 _ (.head _), rfl, rfl⟩, ?_, ?_⟩
  · have q := l9 (L' + 1, on) (.tail _ (.head _))
    replace q := ltN q
    intro r hr
    simp only [List.mem_cons, List.not_mem_nil, or_false] at hr
    rcases hr with rfl | rfl | rfl | rfl
    · exact neN (by omega)
    · exact neN (by dsimp only; omega)
    · exact neN (by dsimp only; omega)
    · exact neN (by dsimp only; omega)
  · rintro i tv m₁ rest oc h tk I o hi ⟨hm, hm', li, nl, bs, ot, v₀, hm'', hot, hli, hbs, rfl⟩ hlt1 hne hrc hoc F N Qt hQt
    rw [m_at3 hm hm' hm''] at F
    k_steps
    rename Fr _ _ _ _ => F4
    rename News _ _ _ _ => N4
    have hsi : ss[(0 + (i : Int)).toNat]? = some ss[i] := by
      have e : (0 + (i : Int)).toNat = i := by omega
      rw [e]
      exact List.getElem?_eq_getElem hi
    refine item_at (News.isList N4 (by k_mem)) (by omega) (by omega) hsi ?_
    k_steps
    rename_i li5 h5 F5 N5 l5
    delta Stop
    refine ListComp_PT (h₀ := g) (L := L') (by with_unfolding_all rfl) (by decide) (by rfl) (by decide) (by rfl) (by rfl) (by decide) ?_ (by exact F5)
    k_steps
    have hv : ∀ j, ∃ tn, j < us.toArray.size → ∃ t, us.toArray[j]? = some (.ref t) ∧ IsTup g t #[.int (ps.getD j (0, .none)).1 tn, (ps.getD j (0, .none)).2] := fun j => by
      by_cases hj : j < us.length
      · obtain ⟨a, n, tn, v', e, ha, hu'⟩ := hP.get (List.getElem?_eq_getElem hj)
        refine ⟨tn, fun _ => ⟨a, by rw [List.getElem?_toArray, List.getElem?_eq_getElem hj, e], ?_⟩⟩
        rw [List.getD_eq_getElem?_getD, hu']
        exact ⟨_, ha, rfl, _, rfl⟩
      · exact ⟨0, fun h => absurd (by simpa using h) hj⟩
    obtain ⟨tf, htf⟩ := Classical.axiomOfChoice hv
    refine ⟨un, us.toArray, _, fun j => (ps.getD j (0, .none)).1 == (i : Int), fun j => .int (ps.getD j (0, .none)).1 (tf j), fun j => (ps.getD j (0, .none)).2, fun j ys => ys = ((ps.take j).filter fun p => p.1 == (i : Int)).map (·.2), rfl, rfl, F5, N5, .inr ⟨_, by k_memK, rfl, _, rfl⟩, ?_, rfl, ?_, ?_, fun j hj => htf j hj, ?_, ?_, ?_⟩
    · rintro j ys rfl
      rw [List.length_map, sizeLine_eq]
      have h1 := List.length_filter_le (fun p => p.1 == (i : Int)) (ps.take j)
      rw [List.length_take] at h1
      replace h1 := Nat.le_trans h1 (Nat.min_le_right _ _)
      omega
    · rintro j ys hj rfl ht
      have hj' : j < ps.length := by rw [← hlen]; simpa using hj
      rw [List.take_add_one, List.getElem?_eq_getElem hj', Option.toList_some, List.filter_append, List.map_append]
      dsimp only at ht ⊢
      rw [List.getD_eq_getElem?_getD, List.getElem?_eq_getElem hj', Option.getD_some] at ht ⊢
      rw [List.filter_cons_of_pos (p := fun (p : Int × Value) => p.1 == (i : Int)) ht]
      rfl
    · rintro j ys hj rfl ht
      have hj' : j < ps.length := by rw [← hlen]; simpa using hj
      rw [List.take_add_one, List.getElem?_eq_getElem hj', Option.toList_some, List.filter_append, List.map_append]
      dsimp only at ht
      rw [List.getD_eq_getElem?_getD, List.getElem?_eq_getElem hj', Option.getD_some] at ht
      rw [List.filter_cons_of_neg (p := fun (p : Int × Value) => p.1 == (i : Int)) (by rw [ht]; decide)]
      exact (List.append_nil _).symm
    · rintro I2 C D2 j oC m₂ oI ys h7 tk7 hj hC hm1 hm2 F7 N7
      dsimp only at hm1 hm2
      k_steps
      rw [Int.zero_add]
    · rintro I2 C D2 j oC m₂ oI ys h7 tk7 hj hC hm1 hm2 F7 N7
      dsimp only at hm1 hm2
      k_steps
    · rintro D2 h7 tk7 ys hJ F7 N7 ltD
      replace N7 : News g L' h7 ((D2, W.listOf ys.toArray ys.length) :: (li5, W.listOf #[ss[i]] 0) :: (I, o) :: (L' + 1, oc) :: (L' + 1 + 1, ot) :: (li, W.listOf (bs.map bv).toArray nl) :: [(su, W.listOf ss.toArray ns), (un, W.listOf us.toArray nu)]) := N7
      have hyl : ys.length ≤ 6 := by
        rw [hJ, List.length_map]
        have h1 := List.length_filter_le (fun p : Int × Value => p.1 == (i : Int)) (ps.take us.toArray.size)
        rw [List.length_take] at h1
        replace h1 := Nat.le_trans h1 (Nat.min_le_right _ _)
        omega
      refine kmk_add_lit (zs := ss[i] :: ys) F7 N7 (News.isList N7 (by k_mem)) (News.isList N7 (by k_mem)) rfl ?_ (by rw [sizeLine_eq]; simp only [List.length_cons, List.length_nil]; omega)
      intro lt h8 F8 N8 l8
      replace ltD := allLt_of ltD
      replace l8 := allLt_of l8
      have hne' := allNe_of hne
      simp only [AllLt, AllNe, and_true] at ltD l8 hne'
      have ne1 := hne'.1
      have ne2 := hne'.2.1
      have ne3 := hne'.2.2.1
      have ne4 := hne'.2.2.2.1
      have ne5 := hne'.2.2.2.2
      k_steps
      rename Fr _ _ _ _ => F9
      rename News _ _ _ _ => N9
      obtain ⟨ot9, hot9, N9⟩ : ∃ ot9 : Obj, ot9.data = .cell (some (.ref lt)) ∧ News g L' _ [(lt, W.listOf (ss[i] :: ys).toArray 0), (I, o), (L' + 1, oc), (L' + 1 + 1, ot9), (li, W.listOf (bs.map bv).toArray nl), (su, W.listOf ss.toArray ns), (un, W.listOf us.toArray nu)] := ⟨_, by assumption, news_sub N9 (by k_allIn)⟩
      have hlenu : us.toArray.size = ps.length := by rw [List.size_toArray, hlen]
      rw [hlenu, List.take_length] at hJ
      obtain ⟨cs, hcs, hcf, -⟩ := octs_bv (l := ss[i] :: ys) fun v hv => by
        rcases List.mem_cons.mp hv with rfl | hv
        · exact hS _ (List.getElem_mem _)
        · rw [hJ] at hv
          obtain ⟨p, hp, rfl⟩ := List.mem_map.mp hv
          exact hO p (List.mem_filter.mp hp).1
      have hcf : cs.map (·.1) = thingsL ss ps i := by
        rw [hcf, List.map_cons, hJ, List.map_map]
        unfold thingsL
        rw [List.getD_eq_getElem?_getD, List.getElem?_eq_getElem hi]
        rfl
      rw [hcs] at N9
      delta Stop
      refine Assign_ListComp_2 (h₀ := g) (L := L') rfl (by with_unfolding_all rfl) (by with_unfolding_all rfl) (by decide) (by rfl) (by decide) (by rfl) (by rfl) (by decide) (by rfl) (by with_unfolding_all rfl) ?_ (by exact F9)
      k_steps
      have hbl : bs.length = (dueL ss ps i).length := by rw [← hbs, List.length_map]
      have hcl : cs.length = (thingsL ss ps i).length := by rw [← hcf, List.length_map]
      have hb343 := dueL_le (ss := ss) hu (show i ≤ 3 by omega)
      have ht7 := thingsL_length ss ps i
      refine ⟨li, lt, (bs.map bv).toArray, (cs.map bv).toArray, _, fun a b zs => ∃ ds : List (Array UInt8 × Tok), zs = ds.map bv ∧ ds.map (·.1) = flatA (dueL ss ps i) (thingsL ss ps i) a b, rfl, rfl, F9, N9, .inr ⟨_, by k_memK, rfl, _, rfl⟩, .inr ⟨_, by k_memK, rfl, _, rfl⟩, ?_, ⟨[], rfl, rfl⟩, ?_, ?_, ?_, ?_⟩
      · rintro a b zs ⟨ds, rfl, hds⟩
        have h1 := congrArg List.length hds
        rw [List.length_map] at h1
        have h2 := flatA_length (dueL ss ps i) (thingsL ss ps i) a b
        have h3 := Nat.mul_le_mul hb343 (show (thingsL ss ps i).length ≤ 7 by omega)
        rw [List.length_map, sizeLine_eq]
        omega
      · rintro a zs ha ⟨ds, rfl, hds⟩
        refine ⟨ds, rfl, ?_⟩
        rw [List.size_toArray, List.length_map, hcl] at hds
        rw [hds]
        exact flatA_next (by rw [← hbl]; simpa using ha)
      · rintro I2 C D3 h10 tk10 oC m₂ oI zs hC F10 N10
        k_steps
      · rintro I2 C D3 a b zs v₁ v₂ oI I3 oI3 oC m₂ h10 tk10 ha hb ⟨ds, rfl, hds⟩ hv1 hv2 hC hm1 hm2 F10 N10 off
        obtain ⟨⟨b1, t1⟩, hb1, rfl⟩ : ∃ q, bs[a]? = some q ∧ bv q = v₁ := by simpa using hv1
        obtain ⟨⟨c1, t2⟩, hc1, rfl⟩ : ∃ q, cs[b]? = some q ∧ bv q = v₂ := by simpa using hv2
        have hb2 : (dueL ss ps i)[a]? = some b1 := by rw [← hbs, List.getElem?_map, hb1]; rfl
        have hc2 : (thingsL ss ps i)[b]? = some c1 := by rw [← hcf, List.getElem?_map, hc1]; rfl
        have z1 := dueL_size hO hS (Nat.le_of_lt hi) b1 (List.mem_of_getElem? hb2)
        have z2 := thingsL_size hO hS hi c1 (List.mem_of_getElem? hc2)
        have key : ∀ t, ∃ es : List (Array UInt8 × Tok), ds.map bv ++ [.bytes (b1 ++ c1) t] = es.map bv ∧ es.map (·.1) = flatA (dueL ss ps i) (thingsL ss ps i) a (b + 1) := fun t =>
          ⟨ds ++ [(b1 ++ c1, t)], by rw [List.map_append]; rfl, by rw [List.map_append, hds, flatA_step hb2 hc2]; rfl⟩
        dsimp only [bv] at hm1 hm2 ⊢
        k_steps
        refine KBy.add_bytes (by omega) ?_
        intro t9 k9
        exact LCg.CompEnd.intro F10 N10 _ (fun _ hp => hp) off (.inr ⟨_, by k_memK, rfl, _, rfl⟩) ⟨rfl, key t9⟩
      · rintro D3 h10 tk10 zs ⟨ds, rfl, hds⟩ F10 N10 hneD hltD
        rw [List.size_toArray, List.length_map, hbl, flatA_full] at hds
        replace N10 : News g L' h10 ((D3, W.listOf (ds.map bv).toArray (ds.map bv).length) :: (lt, W.listOf (cs.map bv).toArray 0) :: (I, o) :: (L' + 1, oc) :: (L' + 1 + 1, ot9) :: (li, W.listOf (bs.map bv).toArray nl) :: [(su, W.listOf ss.toArray ns), (un, W.listOf us.toArray nu)]) := N10
        k_steps
        refine TurnEnd.out hQt F10 (news' := (L' + 1, oc) :: (L' + 1 + 1, ot9) :: (D3, W.listOf (ds.map bv).toArray (ds.map bv).length) :: [(su, W.listOf ss.toArray ns), (un, W.listOf us.toArray nu)]) (news_sub N10 ?_) ?_ ⟨oc, _, _, rfl, hoc, ?_, ?_, ?_, D3, _, ds, ot9, _, ?_, hot9, ?_, hds, rfl⟩
        · k_allIn
        · intro q hq
          simp only [List.mem_cons, List.not_mem_nil, or_false] at hq
          rcases hq with rfl | rfl | rfl | rfl | rfl
          · exact hne'.1
          · exact hne'.2.1
          · exact Nat.ne_of_gt (hltD (I, o) (.tail _ (.head _)))
          · exact hne'.2.2.2.1
          · exact hne'.2.2.2.2
        · intro q hq
          simp only [List.mem_cons, List.not_mem_nil, or_false] at hq
          rcases hq with rfl | rfl | rfl | rfl
          · exact hrc (L' + 1 + 1, ot) (.head _)
          · exact Nat.ne_of_gt (hltD (L' + 1, oc) (.tail _ (.tail _ (.head _))))
          · exact hrc (su, _) (.tail _ (.tail _ (.head _)))
          · exact hrc (un, _) (.tail _ (.tail _ (.tail _ (.head _))))
        · rfl
        · rfl
        · rfl
        · exact hltD (L' + 1 + 1, ot9) (.tail _ (.tail _ (.tail _ (.head _))))
  · rintro m' news' h' tk ⟨oc, v₀, rest, rfl, hoc, hrc, hm, hm', li, nl, bs, ot, v1, hm'', hot, hli, hbs, rfl⟩ F N
    rw [m_at hm''] at F
    have hbl : bs.length = (dueL ss ps ss.length).length := by rw [← hbs, List.length_map]
    have hsm := dueL_small (ss := ss) hu (show ss.length ≤ 3 by omega)
    k_steps
    refine bs_call (bs := bs.map (·.1)) rfl (News.isList N (by k_mem)) (fun j v hj => ?_) (by simp) (by simp; omega) fun h2 tk2 hB hk2 => ?_
    · obtain ⟨⟨b1, t1⟩, hb1, rfl⟩ : ∃ q, bs[j]? = some q ∧ bv q = v := by simpa using hj
      refine ⟨t1, ?_⟩
      rw [List.getD_eq_getElem?_getD, List.getElem?_map, hb1]
      rfl
    have kk2 : ∀ b o, h'.get? b = some o → h2.get? b = some o := fun b o e => hk2 b o (Heap.lt_size e) e
    have F2 := F.keeps kk2
    have N2 := N.grown kk2
    clear F N
    k_steps
    rw [hbs] at hB
    refine bs_sorted F2 N2 rfl hB (dueL_ne _ _ _) (by omega) (fun vs hvs => Nat.lt_of_le_of_lt (bout_length hvs) hsm) fun D h3 tk3 d vs n F3 N3 hD hout hris => ?_
    dsimp only
    exact EndsD.out hQf F3 (news_sub N3 (by k_allIn)) ⟨D, vs, n, rfl, hout, hris, rfl⟩

theorem off_S35 : True := by
  w_top off
  trivial
set_option pp.deepTerms false
set_option pp.deepTerms.threshold 8
/-- the body of the law -/
def lawBody : List Stmt := match PySem.Challenge.pw_pf0215_01.main.body.getLast? with
  | some (.FunctionDef _ _ body _ _ _ _ _ _ _) => body
  | _ => []
def lawScope : Scope := match PySem.Challenge.pw_pf0215_01.main.body.getLast? with
  | some (.FunctionDef _ _ _ _ _ _ scope _ _ _) => scope
  | _ => { kind := .function, names := [], isGenerator := false, isCoroutine := false }
/-- the law's end -/
def LawEnd (g : Heap) (L' : Addr) (gns : Array GenState) (os : OsState) (fl : Flow) (s' : Shared) : Prop :=
  fl = .ret (.bool true) ∧ ∃ h m tk dr, s' = { heap := h, gens := gns, drawn := dr, toks := tk, os := os } ∧ Fr g L' h m
/-- the law's run from its k-th statement on -/
def LawRun (k : Nat) (w : World) (dp un : Nat) (gd : Option (List Code)) (outer : List Env) (L' f : Addr) (cdv : Value) (g : Heap) (gns : Array GenState) (os : OsState) (h : Heap) (dr : Drawn) (tk : Nat) : Prop :=
  wpAny (model PySem.Challenge.rw_pf0215_01.row.prog w) (ktrTop dp un gd (Str.ofString "law") lawScope L' f cdv (cellsFrom (L' + 1) lawScope.names []) outer) (execs (lawBody.drop k) (envOfC (Str.ofString "law") lawScope L' f cdv)) (LawEnd g L' gns os) (fun _ _ => False) { heap := h, gens := gns, drawn := dr, toks := tk, os := os }

/-- how the law stands between its deeds -/
structure LawSt (w : World) (L' pen su un x dx kd ld ud S40 : Nat) (opc odc po od ok ol : Obj) (vs40 ss us us2 : List Value) (ns40 : List Int) (nb : Nat) (wr fl : Int) (kk lk ps : List (Int × Value)) (tl : List (Addr × Obj)) (t : Nat) : Prop where
  hopc : opc.data = .cell (some (.ref pen))
  hodc : odc.data = .cell (some (.ref x))
  hpo : PenB po (5 + 3 * (t : Int)) (5 + 3 * (t : Int)) S40
  hi : IntsAre vs40 ns40
  hlen : ns40.length ≤ 40
  nb2 : 2 ≤ nb
  nb3 : nb ≤ 3
  hss : ss.length = nb
  hS : ∀ v ∈ ss, Oct v
  hO : ∀ p ∈ ps, Oct p.2
  hin : ∀ p ∈ ps, 0 ≤ p.1 ∧ p.1 < (nb : Int)
  hps : ps.length ≤ t
  hD : DiskD w.params od nb kd ld ud wr fl
  hk : IntDict w ok kk
  hl : IntDict w ol lk
  hA : DiskA x dx kd ld ud
  wr0 : 0 ≤ wr
  wr1 : wr ≤ 10 + (t : Int)
  fl0 : 0 ≤ fl
  fl1 : fl ≤ (t : Int)
  kz : kk.length ≤ 3 + 6 * t
  lz : lk.length ≤ 3 + t
  kO : Octs kk
  lO : Octs lk
  bk : ∀ j, j < nb → blk kk j = octOf (ss.getD j .none)
  bl : ∀ j, j < nb → blk lk j = octOf ((setsL ss ps).getD j .none)
  hT : TupsL tl us ps
  hT2 : TupsL tl us2 ps
  htl : ∀ q ∈ tl, q.2.cls = .type "tuple"
  a1 : L' + 1 + 1 < S40
  a2 : S40 < pen
  a3 : pen ≠ su
  a4 : su < dx
  a9 : pen < dx
  a10 : S40 ≠ su
  a12 : L' + 1 ≠ su
  a13 : L' + 1 + 1 ≠ su
  a11 : S40 < dx
  a5 : x < un
  a6 : kd ≠ un
  a7 : ld ≠ un
  a8 : ud ≠ un
abbrev ledS (L' pen su un x dx kd ld ud S40 : Addr) (opc odc po od ok ol : Obj) (vs40 ss us us2 : List Value) (n40 nsu nun nu : Nat) (tl : List (Addr × Obj)) : List (Addr × Obj) :=
  [(L' + 1, opc), (L' + 1 + 1, odc), (S40, W.listOf vs40.toArray n40)] ++ (([(pen, po), (su, W.listOf ss.toArray nsu), (un, W.listOf us2.toArray nun)] ++ diskL x dx kd ld ud od ok ol (W.listOf us.toArray nu)) ++ tl)

theorem cat_toList (l : List (Array UInt8)) : (cat l).toList = (l.map (·.toList)).flatten := by
  have : ∀ (l : List (Array UInt8)) (a : Array UInt8), (l.foldl (· ++ ·) a).toList = a.toList ++ (l.map (·.toList)).flatten := by
    intro l
    induction l with
    | nil => intro a; simp
    | cons b r ih =>
      intro a
      rw [List.foldl_cons, ih, Array.toList_append, List.map_cons, List.flatten_cons, List.append_assoc]
  exact (this l #[]).trans (by simp)
theorem flat_cut : ∀ (l : List (List UInt8)) (j : Nat), (∀ b ∈ l, b.length = 4) → ∀ h : j < l.length, (l.flatten.drop (j * 4)).take 4 = l[j]
  | b :: r, 0, hs, _ => by
    rw [Nat.zero_mul, List.drop_zero, List.flatten_cons, List.getElem_cons_zero]
    have := hs b (.head _)
    rw [List.take_append_of_le_length (by omega), List.take_of_length_le (by omega)]
  | b :: r, j + 1, hs, h => by
    rw [List.flatten_cons, List.getElem_cons_succ, List.drop_append]
    have := hs b (.head _)
    rw [List.drop_of_length_le (by omega), List.nil_append, show (j + 1) * 4 - b.length = j * 4 by omega]
    exact flat_cut r j (fun c hc => hs c (.tail _ hc)) _
theorem part_cat {l : List (Array UInt8)} (hs : ∀ b ∈ l, b.size = 4) {j : Nat} (h : j < l.length) : part (cat l) j = l[j] := by
  apply Array.toList_inj.mp
  unfold part
  rw [Array.toList_extract, List.extract_eq_drop_take, cat_toList]
  have := flat_cut (l.map (·.toList)) j (fun b hb => by
    obtain ⟨c, hc, rfl⟩ := List.mem_map.mp hb
    rw [Array.length_toList]
    exact hs c hc) (by rw [List.length_map]; exact h)
  rw [List.getElem_map] at this
  rw [← this, show j * 4 + 4 - j * 4 = 4 by omega]
theorem cat_size4 {l : List (Array UInt8)} (hs : ∀ b ∈ l, b.size = 4) : (cat l).size = 4 * l.length := by
  rw [← Array.length_toList, cat_toList]
  induction l with
  | nil => rfl
  | cons b r ih =>
    rw [List.map_cons, List.flatten_cons, List.length_append, ih fun c hc => hs c (.tail _ hc), Array.length_toList, hs b (.head _), List.length_cons]
    omega
theorem part_blank {n j : Nat} (h : j < n) : part (blank (4 * n)) j = blank 4 := by
  unfold part blank
  rw [Array.extract_replicate]
  congr 1
  omega
theorem octOf_size {v : Value} (h : Oct v) : (octOf v).size = 4 := by
  obtain ⟨b, t, rfl, hb⟩ := h
  exact hb
theorem octs_sizes {l : List Value} (h : ∀ v ∈ l, Oct v) : ∀ b ∈ l.map octOf, b.size = 4 := fun b hb => by
  obtain ⟨v, hv, rfl⟩ := List.mem_map.mp hb
  exact octOf_size (h v hv)
theorem part_octs {l : List Value} (h : ∀ v ∈ l, Oct v) {j : Nat} (hj : j < l.length) : part (cat (l.map octOf)) j = octOf (l.getD j .none) := by
  rw [part_cat (octs_sizes h) (by rw [List.length_map]; exact hj), List.getElem_map, List.getD_eq_getElem?_getD, List.getElem?_eq_getElem hj]
  rfl

theorem off_S37 : True := by
  w_top off
  trivial
set_option pp.deepTerms false
set_option pp.deepTerms.threshold 8
/-- what a block holds behind the writes -/
def lastAt (qs : List (Int × Value)) (j : Nat) (d : Array UInt8) : Array UInt8 := qs.foldl (fun a p => if p.1 = (j : Int) then octOf p.2 else a) d
theorem lastAt_cons (p : Int × Value) (r : List (Int × Value)) (j : Nat) (d : Array UInt8) : lastAt (p :: r) j d = lastAt r j (if p.1 = (j : Int) then octOf p.2 else d) := rfl
theorem blk_puts {j : Nat} : ∀ {qs kk : List (Int × Value)}, (∀ p ∈ qs, Oct p.2) → (∀ p ∈ qs, 0 ≤ p.1) → blk (puts kk qs) j = lastAt qs j (blk kk j)
  | [], kk, _, _ => rfl
  | (k, v) :: r, kk, hO, hn => by
    obtain ⟨n, rfl⟩ := Int.eq_ofNat_of_zero_le (hn (k, v) (.head _))
    show blk (puts (stored kk (n : Int) v) r) j = _
    rw [blk_puts (fun q hq => hO q (.tail _ hq)) (fun q hq => hn q (.tail _ hq)), blk_stored _ (hO ((n : Int), v) (.head _)), lastAt_cons]
    by_cases c : j = n
    · rw [if_pos c, if_pos (by show (n : Int) = j; omega)]
    · rw [if_neg c, if_neg (by show ¬(n : Int) = j; omega)]
theorem sets_last {j : Nat} : ∀ {qs : List (Int × Value)} {ss : List Value}, j < ss.length → (∀ p ∈ qs, 0 ≤ p.1) → octOf ((setsL ss qs).getD j .none) = lastAt qs j (octOf (ss.getD j .none))
  | [], ss, _, _ => rfl
  | (k, v) :: r, ss, hj, hn => by
    obtain ⟨n, rfl⟩ := Int.eq_ofNat_of_zero_le (hn (k, v) (.head _))
    show octOf ((setsL (ss.set n v) r).getD j .none) = _
    rw [sets_last (by rw [List.length_set]; exact hj) (fun q hq => hn q (.tail _ hq)), lastAt_cons]
    congr 1
    rw [List.getD_eq_getElem?_getD, List.getElem?_set, List.getD_eq_getElem?_getD]
    by_cases c : n = j
    · rw [if_pos c, if_pos (by rw [c]; exact hj), if_pos (by show (n : Int) = j; omega)]
      rfl
    · rw [if_neg c, if_neg (by show ¬(n : Int) = j; omega)]
theorem lastAt_mem {j : Nat} : ∀ {qs : List (Int × Value)} {d : Array UInt8}, lastAt qs j d = d ∨ ∃ p ∈ qs, p.1 = (j : Int) ∧ lastAt qs j d = octOf p.2
  | [], d => .inl rfl
  | p :: r, d => by
    rw [lastAt_cons]
    rcases lastAt_mem (qs := r) (d := if p.1 = (j : Int) then octOf p.2 else d) (j := j) with h | ⟨q, hq, h1, h2⟩
    · by_cases c : p.1 = (j : Int)
      · rw [if_pos c] at h ⊢
        exact .inr ⟨p, .head _, c, h⟩
      · rw [if_neg c] at h ⊢
        exact .inl h
    · exact .inr ⟨q, .tail _ hq, h1, h2⟩
theorem lastAt_one {j : Nat} {b : Array UInt8} : ∀ {qs : List (Int × Value)} {d : Array UInt8}, (∀ p ∈ qs, p.1 = (j : Int) → octOf p.2 = b) → (d = b ∨ ∃ p ∈ qs, p.1 = (j : Int)) → lastAt qs j d = b
  | [], d, _, h => by
    rcases h with h | ⟨p, hp, _⟩
    · exact h
    · exact nomatch hp
  | p :: r, d, ha, h => by
    rw [lastAt_cons]
    refine lastAt_one (fun q hq => ha q (.tail _ hq)) ?_
    by_cases c : p.1 = (j : Int)
    · rw [if_pos c]
      exact .inl (ha p (.head _) c)
    · rw [if_neg c]
      rcases h with h | ⟨q, hq, e⟩
      · exact .inl h
      · rcases List.mem_cons.mp hq with rfl | hq
        · exact absurd e c
        · exact .inr ⟨q, hq, e⟩
theorem lastAt_none {j : Nat} {qs : List (Int × Value)} {d : Array UInt8} (h : ∀ p ∈ qs, p.1 ≠ (j : Int)) : lastAt qs j d = d := by
  rcases lastAt_mem (qs := qs) (d := d) (j := j) with e | ⟨p, hp, e, _⟩
  · exact e
  · exact absurd e (h p hp)
theorem cat_snoc (l : List (Array UInt8)) (a : Array UInt8) : cat (l ++ [a]) = cat l ++ a := by
  unfold cat
  rw [List.foldl_append]
  rfl
theorem mem_dueL {ss : List Value} {ps : List (Int × Value)} : ∀ {n : Nat} {b : Array UInt8}, b ∈ dueL ss ps n ↔ ∃ f : Nat → Array UInt8, (∀ j, j < n → f j ∈ thingsL ss ps j) ∧ b = cat ((List.range n).map f)
  | 0, b => by
    constructor
    · intro h
      exact ⟨fun _ => #[], fun j hj => absurd hj (Nat.not_lt_zero j), List.mem_singleton.mp h⟩
    · rintro ⟨f, _, rfl⟩
      exact .head _
  | n + 1, b => by
    have step : ∀ f : Nat → Array UInt8, cat ((List.range (n + 1)).map f) = cat ((List.range n).map f) ++ f n := fun f => by
      rw [List.range_succ, List.map_append, List.map_singleton, cat_snoc]
    constructor
    · intro h
      obtain ⟨a, ha, hb⟩ := List.mem_flatMap.mp h
      obtain ⟨o, ho, rfl⟩ := List.mem_map.mp hb
      obtain ⟨f, hf, rfl⟩ := mem_dueL.mp ha
      refine ⟨fun j => if j = n then o else f j, fun j hj => ?_, ?_⟩
      · dsimp only
        by_cases c : j = n
        · rw [if_pos c, c]
          exact ho
        · rw [if_neg c]
          exact hf j (by omega)
      · rw [step]
        rw [if_pos rfl]
        congr 2
        refine List.map_congr_left fun j hj => ?_
        have := List.mem_range.mp hj
        rw [if_neg (by omega)]
    · rintro ⟨f, hf, rfl⟩
      rw [step]
      exact List.mem_flatMap.mpr ⟨_, mem_dueL.mpr ⟨f, fun j hj => hf j (by omega), rfl⟩, List.mem_map.mpr ⟨f n, hf n (by omega), rfl⟩⟩
theorem chs_filter (p : Nat → Bool) : ∀ n, ((List.range n).filter p).map (fun (k : Nat) => (k : Int)) ∈ chs n
  | 0 => .head _
  | n + 1 => by
    have ih := chs_filter p n
    rw [List.range_succ, List.filter_append, List.map_append, chs]
    cases e : p n with
    | true =>
      rw [List.filter_cons_of_pos e]
      exact List.mem_append_right _ (List.mem_map.mpr ⟨_, ih, rfl⟩)
    | false =>
      rw [List.filter_cons_of_neg (by rw [e]; exact Bool.false_ne_true), List.filter_nil, List.map_nil, List.append_nil]
      exact List.mem_append_left _ ih
theorem mem_pick {c : List Int} {ps : List (Int × Value)} {q : Int × Value} : q ∈ pick c ps ↔ ∃ k : Nat, ps[k]? = some q ∧ (k : Int) ∈ c := by
  unfold pick
  rw [List.mem_map]
  constructor
  · rintro ⟨⟨q', k⟩, h, rfl⟩
    obtain ⟨h1, h2⟩ := List.mem_filter.mp h
    refine ⟨k, List.mem_zipIdx_iff_getElem?.mp h1, ?_⟩
    obtain ⟨x, hx, e⟩ := List.any_eq_true.mp h2
    rw [← eq_of_beq e]
    exact hx
  · rintro ⟨k, h, hk⟩
    exact ⟨(q, k), List.mem_filter.mpr ⟨List.mem_zipIdx_iff_getElem?.mpr h, List.any_eq_true.mpr ⟨_, hk, beq_self_eq_true _⟩⟩, rfl⟩
/-- the images that come of all choices are those that are due -/
theorem images_due {kk ps : List (Int × Value)} {ss : List Value} {n : Nat} (hO : ∀ p ∈ ps, Oct p.2) (hin : ∀ p ∈ ps, 0 ≤ p.1) (hkk : ∀ j, j < n → blk kk j = octOf (ss.getD j .none)) (b : Array UInt8) :
    b ∈ (chs ps.length).map (fun c => pic (puts kk (pick c ps)) n) ↔ b ∈ dueL ss ps n := by
  have sub : ∀ c, ∀ p ∈ pick c ps, p ∈ ps := fun c p hp => by
    obtain ⟨k, hk, _⟩ := mem_pick.mp hp
    exact List.mem_of_getElem? hk
  have hb : ∀ c j, blk (puts kk (pick c ps)) j = lastAt (pick c ps) j (blk kk j) := fun c j => blk_puts (fun p hp => hO p (sub c p hp)) fun p hp => hin p (sub c p hp)
  rw [mem_dueL, List.mem_map]
  constructor
  · rintro ⟨c, hc, rfl⟩
    refine ⟨blk (puts kk (pick c ps)), fun j hj => ?_, rfl⟩
    rw [hb]
    rcases lastAt_mem (qs := pick c ps) (d := blk kk j) (j := j) with e | ⟨p, hp, e1, e2⟩
    · rw [e, hkk j hj]
      exact .head _
    · rw [e2]
      exact .tail _ (List.mem_map.mpr ⟨p, List.mem_filter.mpr ⟨sub c p hp, by rw [e1]; exact beq_self_eq_true _⟩, rfl⟩)
  · rintro ⟨f, hf, rfl⟩
    have hs : ∀ j, ∃ o : Option Nat, j < n → (o = none ∧ f j = octOf (ss.getD j .none)) ∨ ∃ k q, o = some k ∧ ps[k]? = some q ∧ q.1 = (j : Int) ∧ octOf q.2 = f j := fun j => by
      by_cases hj : j < n
      · rcases List.mem_cons.mp (hf j hj) with e | hm
        · exact ⟨none, fun _ => .inl ⟨rfl, e⟩⟩
        · obtain ⟨q, hq, e⟩ := List.mem_map.mp hm
          obtain ⟨hq1, hq2⟩ := List.mem_filter.mp hq
          obtain ⟨k, hk⟩ := List.mem_iff_getElem?.mp hq1
          exact ⟨some k, fun _ => .inr ⟨k, q, rfl, hk, eq_of_beq hq2, e⟩⟩
      · exact ⟨none, fun h => absurd h hj⟩
    obtain ⟨sel, hsel⟩ := Classical.axiomOfChoice hs
    refine ⟨_, chs_filter (fun k => (List.range n).any fun j => sel j == some k) ps.length, ?_⟩
    unfold pic
    congr 1
    refine List.map_congr_left fun j hj => ?_
    have hj := List.mem_range.mp hj
    rw [hb]
    have back : ∀ p ∈ pick (((List.range ps.length).filter fun k => (List.range n).any fun j => sel j == some k).map fun (k : Nat) => (k : Int)) ps, p.1 = (j : Int) → ∃ k, sel j = some k ∧ ps[k]? = some p := fun p hp e => by
      obtain ⟨k, hk, hc⟩ := mem_pick.mp hp
      obtain ⟨k', hk', e'⟩ := List.mem_map.mp hc
      have ek : k' = k := by omega
      subst ek
      obtain ⟨j', hj', es⟩ := List.any_eq_true.mp (List.mem_filter.mp hk').2
      have es := eq_of_beq es
      rcases hsel j' (List.mem_range.mp hj') with ⟨h0, _⟩ | ⟨k2, q, h1, h2, h3, h4⟩
      · rw [h0] at es
        cases es
      · rw [h1] at es
        cases es
        rw [hk] at h2
        cases h2
        have : j' = j := by omega
        rw [← this]
        exact ⟨k', h1, hk⟩
    rcases hsel j hj with ⟨h0, h1⟩ | ⟨k, q, h1, h2, h3, h4⟩
    · rw [lastAt_none, hkk j hj, h1]
      intro p hp e
      obtain ⟨k, hk, _⟩ := back p hp e
      rw [h0] at hk
      cases hk
    · refine lastAt_one (fun p hp e => ?_) (.inr ⟨q, mem_pick.mpr ⟨k, h2, ?_⟩, h3⟩)
      · obtain ⟨k', hk', hp'⟩ := back p hp e
        rw [h1] at hk'
        cases hk'
        rw [h2] at hp'
        cases hp'
        exact h4
      · refine List.mem_map.mpr ⟨k, List.mem_filter.mpr ⟨List.mem_range.mpr ?_, List.any_eq_true.mpr ⟨j, List.mem_range.mpr hj, by rw [h1]; exact beq_self_eq_true _⟩⟩, rfl⟩
        exact (List.getElem?_eq_some_iff.mp h2).1
theorem chs_first (n : Nat) : ∃ r, chs n = [] :: r := by
  induction n with
  | zero => exact ⟨[], rfl⟩
  | succ n ih =>
    obtain ⟨r, e⟩ := ih
    exact ⟨_, by rw [chs, e]; rfl⟩
theorem chs_last (n : Nat) : ∃ r, chs n = r ++ [(List.range n).map fun (k : Nat) => (k : Int)] := by
  induction n with
  | zero => exact ⟨[], rfl⟩
  | succ n ih =>
    obtain ⟨r, e⟩ := ih
    refine ⟨chs n ++ r.map (· ++ [(n : Int)]), ?_⟩
    rw [chs]
    conv => lhs; rhs; rw [e]
    rw [List.map_append, List.append_assoc, List.range_succ, List.map_append]
    rfl
theorem pick_nil (ps : List (Int × Value)) : pick [] ps = [] := by
  unfold pick
  rw [List.filter_eq_nil_iff.mpr fun p _ => by simp]
  rfl
theorem pick_all (ps : List (Int × Value)) : pick ((List.range ps.length).map fun (k : Nat) => (k : Int)) ps = ps := by
  unfold pick
  rw [List.filter_eq_self.mpr fun p hp => ?_]
  · exact List.zipIdx_map_fst 0 ps
  · obtain ⟨q, k⟩ := p
    have h := List.mem_zipIdx_iff_getElem?.mp hp
    exact List.any_eq_true.mpr ⟨(k : Int), List.mem_map.mpr ⟨k, List.mem_range.mpr (List.getElem?_eq_some_iff.mp h).1, rfl⟩, beq_self_eq_true _⟩
theorem pic_eq {kv : List (Int × Value)} {n : Nat} {ss : List Value} (h : ∀ j, j < n → blk kv j = octOf (ss.getD j .none)) (hl : ss.length = n) : pic kv n = cat (ss.map octOf) := by
  unfold pic
  congr 1
  refine List.ext_getElem (by simp [hl]) fun j h1 h2 => ?_
  rw [List.getElem_map, List.getElem_map, List.getElem_range, h j (by simpa using h1), List.getD_eq_getElem?_getD, List.getElem?_eq_getElem (by simpa using h2)]
  rfl

theorem off_S36 : True := by
  w_top off
  trivial
set_option pp.deepTerms false
set_option pp.deepTerms.threshold 8
local macro_rules | `(tactic| walk_at "execs cons") => `(tactic| ((with_reducible show wpAny _ _ (execs (Stmt.For (Expr.Name _ _) _ _ _ _ :: _) _) _ _ _); (refine stop_here ?_)))
theorem lawSt_start {w : World} {L' pen su un x dx kd ld ud S40 : Nat} {opc odc po od ok ol : Obj} {vs40 ss : List Value} {ns40 : List Int} {nb : Nat} {kv : List (Int × Value)}
    (hopc : opc.data = .cell (some (.ref pen))) (hodc : odc.data = .cell (some (.ref x))) (hpo : PenB po (1 + (nb : Int)) (1 + (nb : Int)) S40) (hi : IntsAre vs40 ns40) (hlen : ns40.length ≤ 40) (nb2 : 2 ≤ nb) (nb3 : nb ≤ 3) (hss : ss.length = nb) (hS : ∀ v ∈ ss, Oct v)
    (hD : DiskD w.params od nb kd ld ud 0 0) (hk : IntDict w ok kv) (hl : IntDict w ol kv) (hA : DiskA x dx kd ld ud) (hkz : kv.length ≤ nb) (hO : Octs kv) (hb : ∀ j, j < nb → blk kv j = octOf (ss.getD j .none))
    (a1 : L' + 1 + 1 < S40) (a2 : S40 < pen) (a3 : pen ≠ su) (a4 : su < dx) (a9 : pen < dx) (a11 : S40 < dx) (a5 : x < un) (a6 : kd ≠ un) (a7 : ld ≠ un) (a8 : ud ≠ un) (a10 : S40 ≠ su) (a12 : L' + 1 ≠ su) (a13 : L' + 1 + 1 ≠ su) :
    LawSt w L' pen su un x dx kd ld ud S40 opc odc po od ok ol vs40 ss [] [] ns40 nb 0 0 kv kv [] [] 0 where
  hopc := hopc
  hodc := hodc
  hpo := by
    obtain ⟨i, j, ti, tj, n, rfl, i0, i1, j0, j1⟩ := hpo
    exact ⟨i, j, ti, tj, n, rfl, i0, by omega, j0, by omega⟩
  hi := hi
  hlen := hlen
  nb2 := nb2
  nb3 := nb3
  hss := hss
  hS := hS
  hO := fun p hp => nomatch hp
  hin := fun p hp => nomatch hp
  hps := Nat.zero_le _
  hD := hD
  hk := hk
  hl := hl
  hA := hA
  wr0 := Int.le_refl _
  wr1 := by decide
  fl0 := Int.le_refl _
  fl1 := Int.le_refl _
  kz := by omega
  lz := by omega
  kO := hO
  lO := hO
  bk := hb
  bl := fun j hj => hb j hj
  hT := fun _ _ => .nil
  hT2 := fun _ _ => .nil
  htl := fun q hq => nomatch hq
  a1 := a1
  a2 := a2
  a3 := a3
  a4 := a4
  a5 := a5
  a6 := a6
  a7 := a7
  a8 := a8
  a9 := a9
  a10 := a10
  a11 := a11
  a12 := a12
  a13 := a13
set_option maxHeartbeats 2000000 in
theorem segA (w : World) {p : Program} {loose : List Str} {mean : ExcName → Option Value} {mg mb : Str → Option Value} {dp un' : Nat} {gd : Option (List Code)} {outer : List Env} {A₀ : Around} {base g : Heap} {L' f : Addr} {cdv : Value} {gns : Array GenState} {os : OsState}
    (hdp : dp + 100 < recursionLimit + 1) (hun : un' + 600 < cLine + 3) (B : Below A₀ base outer g) (X : (hd.heap_1 w.params).In g) (T : Top p loose mean mg mb g)
    {S : Addr} {vs : List Value} {ns : List Int} (hS : g.IsList S vs.toArray) (hi : IntsAre vs ns) (hlen : ns.length ≤ 63)
    {h : Heap} {dr : Drawn} {tk : Nat} {m : Str → Option Value} {opc odc : Obj} {v1 v2 : Option Value} (F : Fr g L' h m) (hm : m (Str.ofString "script") = some (.ref S)) (N : News g L' h [(L' + 1, opc), (L' + 1 + 1, odc)]) (hopc : opc.data = .cell v1) (hodc : odc.data = .cell v2)
    (next : ∀ (h : Heap) (dr : Drawn) (tk : Nat) (m : Str → Option Value) (pen su un x dx kd ld ud S40 : Nat) (opc odc po od ok ol : Obj) (vs40 ss us us2 : List Value) (ns40 : List Int) (nb n40 nsu nun nu : Nat) (wr fl : Int) (kk lk ps : List (Int × Value)) (tl : List (Addr × Obj)),
      Fr g L' h m → m (Str.ofString "script") = some (.ref S) → m (Str.ofString "sure") = some (.ref su) → m (Str.ofString "unsure") = some (.ref un) → News g L' h (ledS L' pen su un x dx kd ld ud S40 opc odc po od ok ol vs40 ss us us2 n40 nsu nun nu tl) →
      LawSt w L' pen su un x dx kd ld ud S40 opc odc po od ok ol vs40 ss us us2 ns40 nb wr fl kk lk ps tl 0 → LawRun 6 w dp un' gd outer L' f cdv g gns os h dr tk) :
    LawRun 0 w dp un' gd outer L' f cdv g gns os h dr tk := by
  unfold LawRun
  revert X
  k_fill
  intro X
  show wpAny _ (ktrTop _ _ _ _ (Scope.mk _ _ _ _ _) _ _ _ (cellsFrom _ (_ :: _) _) _) (execs (_ :: _) (envOfC _ (Scope.mk _ _ _ _ _) _ _ _)) _ _ _
  rw [m_at hm] at F
  have hlI := IntsAre.length hi
  have hL40 : (List.take 40 ns).length ≤ 40 := List.length_take_le _ _
  (try dsimp only)
  (try k_fold)
  k_steps
  rename_i S40 ws h1 hws hC hL lS pen h2 lp h3 op dpn tk1 xv tx ti tj jj n' h4 tk2 x0 x1 j0 j1 h5 F5 N5 h6 tk3 t3 u3 v3 hR F6 N6 k6
  clear F5 N5 k6
  obtain ⟨lS1, lS2⟩ := lS
  obtain ⟨lp1, lp2, lp3⟩ := lp
  generalize hnb : 2 + xv = nbI at *
  obtain ⟨nb, rfl⟩ := Int.eq_ofNat_of_zero_le (show 0 ≤ nbI by omega)
  refine LCg.CompSrc.range (n := nb) (by rfl) F6 N6 hR (small_one (by omega) (by omega) (by omega) (by omega)) ?_ (by rw [sizeLine_eq]; omega) ?_
  · have e := rangeSize_nat 0 nb
    rwa [Int.sub_zero] at e
  intro g'
  refine comp_inv (fun i ys news => Stop ((∀ y ∈ ys, Oct y) ∧ ys.length = i ∧ ∃ po', PenB po' (1 + (i : Int)) (1 + (i : Int)) S40 ∧ news = [(pen, po'), (S40, W.listOf ws.toArray 0), (L' + 1, op), (L' + 1 + 1, odc)])) ⟨(fun y hy => nomatch hy), rfl, _, ⟨_, _, _, _, _, rfl, by omega, by omega, by omega, by omega⟩, rfl⟩ ?_ ?_
  · rintro i ys news v I oI C oC D m₂ h tk hi2 ⟨hys, hyl, po', hpo, rfl⟩ ⟨tv, rfl⟩ hCn hx F N off ne
    obtain ⟨ip, jp, tip, tjp, np, rfl, i0, i1, j2, j3⟩ := hpo
    obtain ⟨e1, e2, e3⟩ := (off.mem (pen, penOf ip jp tip tjp S40 np) (.head _))
    replace e1 : @Ne Nat pen I := e1
    replace e2 : @Ne Nat pen C := e2
    replace e3 : @Ne Nat pen D := e3
    k_steps
    all_goals (
      delta Stop
      rename Fr _ _ _ _ => F7
      rename News _ _ _ _ => N7
      refine LCg.CompEnd.intro (news' := [(pen, penOf _ _ _ _ S40 _), (S40, W.listOf ws.toArray 0), (L' + 1, op), (L' + 1 + 1, odc)]) F7 N7 (by k_allIn) ?_ trivial ⟨?_, ?_, _, ⟨_, _, _, _, _, rfl, ?_, ?_, ?_, ?_⟩, rfl⟩
      · exact ⟨⟨e1, e2, e3⟩, off.2⟩
      · intro y hy
        rcases List.mem_append.mp hy with hy | hy
        · exact hys y hy
        · rw [List.mem_singleton.mp hy]
          exact ⟨_, _, rfl, rfl⟩
      · rw [List.length_append, hyl]
        rfl
      all_goals omega)
  · rintro ys news ⟨hys, hyl, po', hpo, rfl⟩
    intro D h tk F N off
    obtain ⟨o1, o2, o3, o4, -⟩ := off
    replace o1 : @Ne Nat pen D := o1
    replace o2 : @Ne Nat S40 D := o2
    replace o3 : @Ne Nat (L' + 1) D := o3
    replace o4 : @Ne Nat (L' + 1 + 1) D := o4
    obtain ⟨bs, hbs, eb2, eb3⟩ := octs_bv hys
    have hbl : bs.length = nb := by rw [← hyl, hbs, List.length_map]
    have hcz := cat_size4 (octs_sizes hys)
    rw [List.length_map, hyl] at hcz
    replace N : News g L' h [(D, W.listOf ys.toArray ys.length), (pen, po'), (S40, W.listOf ws.toArray 0), (L' + 1, op), (L' + 1 + 1, odc)] := N
    k_steps
    refine call_join (bs := bs) (N _ (.head _)).1 rfl (by rw [hbs]) (by omega) (by omega) fun t' k => ?_
    rw [eb2]
    k_steps
    refine (diskof_call w (cat (ys.map octOf)) _ _ nb [pen, D, S40] hcz (by omega) (by omega)).use B F X T N rfl (by omega) (by omega) (fun _ h => nomatch h) (fun b hb => ?_) ?_
    · simp only [List.mem_cons, List.not_mem_nil, or_false] at hb
      rcases hb with rfl | rfl | rfl
      · exact ⟨_, (N _ (.tail _ (.head _))).1⟩
      · exact ⟨_, (N _ (.head _)).1⟩
      · exact ⟨_, (N _ (.tail _ (.tail _ (.head _)))).1⟩
    rintro r mine' h' tk' F2 hN hfr hR ⟨x, dx, kd, ld, ud, od, ok, ol, kv, rfl, hold, hD, hk, hl, hO, hkz, hblk, hA, rfl⟩
    have q1 : @LT.lt Nat _ pen dx := hold pen (.head _)
    have q2 : @LT.lt Nat _ D dx := hold D (.tail _ (.head _))
    have q3 : @LT.lt Nat _ S40 dx := hold S40 (.tail _ (.tail _ (.head _)))
    have N2 := news_call [(D, W.listOf ys.toArray ys.length), (pen, po'), (S40, W.listOf ws.toArray 0), (L' + 1, op), (L' + 1 + 1, odc)] hN (fun q hq => hq) (by simp only [OffAll, NeAll, List.map_nil, and_true])
    clear hN hfr hR N F
    obtain ⟨o301, o302, o303, o304, o305⟩ := hA.over q1
    obtain ⟨o311, o312, o313, o314, o315⟩ := hA.over q2
    obtain ⟨o321, o322, o323, o324, o325⟩ := hA.over q3
    obtain ⟨o331, o332, o333, o334, o335⟩ := hA.over (Nat.lt_trans lS1 q3)
    obtain ⟨o341, o342, o343, o344, o345⟩ := hA.over (Nat.lt_trans lS2 q3)
    obtain ⟨i351, i352, i353, i354⟩ := hA.inner
    obtain ⟨b1, b2, b3, b4, b5, b6, b7, b8⟩ := id hA
    simp only [diskL, List.cons_append, List.nil_append] at N2
    dsimp only
    k_steps
    rename Fr _ _ _ _ => F3
    rename News _ _ _ _ => N3
    refine call_join (bs := bs) (o := W.listOf ys.toArray ys.length) (n := ys.length) (N3 _ (by k_memK)).1 rfl (by rw [hbs]) (by omega) (by omega) fun t' k => ?_
    rw [eb2]
    k_steps
    · rename_i h3 od3 d3 tk4 k4 heq
      have him : cat (ys.map octOf) = blank (4 * nb) := by
        have e := Array.toList_inj.mp (eq_of_beq heq)
        rw [e]
        congr 1
      refine (cls_call w nb _ _ [pen, D, S40] (by omega) (by omega)).use B F3 X T N3 rfl (by omega) (by omega) (fun _ h => nomatch h) (fun b hb => ?_) ?_
      · simp only [List.mem_cons, List.not_mem_nil, or_false] at hb
        rcases hb with rfl | rfl | rfl
        · exact ⟨_, (N3 _ (.tail _ (.head _))).1⟩
        · exact ⟨_, (N3 _ (.head _)).1⟩
        · exact ⟨_, (N3 _ (.tail _ (.tail _ (.head _)))).1⟩
      rintro r mine' h' tk' F4 hN hfr hR ⟨x', dx', kd', ld', ud', od', ok', ol', rfl, hold', hD', hk', hl', hA', rfl⟩
      have q1 : @LT.lt Nat _ pen dx' := hold' pen (.head _)
      have q2 : @LT.lt Nat _ D dx' := hold' D (.tail _ (.head _))
      have q3 : @LT.lt Nat _ S40 dx' := hold' S40 (.tail _ (.tail _ (.head _)))
      have N4 := news_call [(D, W.listOf ys.toArray ys.length), (pen, po'), (S40, W.listOf ws.toArray 0), (L' + 1, op), (L' + 1 + 1, od3)] hN (by k_allIn) (by simp only [OffAll, NeAll, List.map_nil, and_true])
      clear hN hfr hR N3 F3 hold hD hk hl hA b1 b2 b3 b4 b5 b6 b7 b8
      clear o301 o302 o303 o304 o305 o311 o312 o313 o314 o315 o321 o322 o323 o324 o325 o331 o332 o333 o334 o335 o341 o342 o343 o344 o345 i351 i352 i353 i354
      obtain ⟨o301, o302, o303, o304, o305⟩ := hA'.over q1
      obtain ⟨o311, o312, o313, o314, o315⟩ := hA'.over q2
      obtain ⟨o321, o322, o323, o324, o325⟩ := hA'.over q3
      obtain ⟨o331, o332, o333, o334, o335⟩ := hA'.over (Nat.lt_trans lS1 q3)
      obtain ⟨o341, o342, o343, o344, o345⟩ := hA'.over (Nat.lt_trans lS2 q3)
      obtain ⟨i351, i352, i353, i354⟩ := hA'.inner
      obtain ⟨b1, b2, b3, b4, b5, b6, b7, b8⟩ := id hA'
      simp only [diskL, List.cons_append, List.nil_append] at N4
      dsimp only
      k_steps
      rename_i h5 o5 d5 un h6 l6 h7 F7 N7
      delta Stop
      have l7 := l6
      exact next _ _ _ _ pen D un x' dx' kd' ld' ud' S40 op o5 po' od' ok' ol' ws ys [] [] (List.take 40 ns) nb 0 _ 0 0 0 0 [] [] [] [] F7 rfl rfl rfl (news_sub N7 (by simp only [ledS, diskL, List.cons_append, List.nil_append, List.append_nil]; k_allIn))
        (lawSt_start dpn d5 hpo hws (by omega) (by omega) (by omega) hyl hys hD' hk' hl' hA' (Nat.zero_le _) octs_nil (fun j hj => by
          rw [← part_octs hys (by omega), him, part_blank hj]
          rfl) lS2 lp1 o1 q2 q1 q3 (by omega) (by omega) (by omega) (by omega) o2 o3 o4)
    · rename_i h5 o5 d5 tk4 k4 heq un h6 l6 h7 F7 N7
      delta Stop
      have l7 := l6
      exact next _ _ _ _ pen D un x dx kd ld ud S40 op o5 po' od ok ol ws ys [] [] (List.take 40 ns) nb 0 _ 0 0 0 0 kv kv [] [] F7 rfl rfl rfl (news_sub N7 (by simp only [ledS, diskL, List.cons_append, List.nil_append, List.append_nil]; k_allIn))
        (lawSt_start dpn d5 hpo hws (by omega) (by omega) (by omega) hyl hys hD hk hl hA hkz hO (fun j hj => by
          rw [← part_octs hys (by omega), hblk, if_pos hj]) lS2 lp1 o1 q2 q1 q3 (by omega) (by omega) (by omega) (by omega) o2 o3 o4)

theorem off_S38 : True := by
  w_top off
  trivial
set_option pp.deepTerms false
set_option pp.deepTerms.threshold 8
local macro_rules | `(tactic| walk_at "execs cons") => `(tactic| ((with_reducible show wpAny _ _ (execs (Stmt.Assign _ (Expr.ListComp _ _ _ _) _ :: _) _) _ _ _); (refine stop_here ?_)))
theorem not_at {I : Addr} {mine news : List (Addr × Obj)} (hm : ∀ q ∈ mine, q ∈ news) (hne : ∀ p ∈ news, p.1 ≠ I) : I ∉ mine.map (·.1) := fun h => by
  obtain ⟨p, hp, e⟩ := List.mem_map.mp h
  exact hne p (hm p hp) e
/-- the law's state through a deed -/
theorem LawSt.flush {w : World} {L' pen su un x dx kd ld ud S40 : Nat} {opc odc po od ok ol : Obj} {vs40 ss us us2 : List Value} {ns40 : List Int} {nb : Nat} {wr fl : Int} {kk lk ps : List (Int × Value)} {tl : List (Addr × Obj)} {t : Nat}
    (H : LawSt w L' pen su un x dx kd ld ud S40 opc odc po od ok ol vs40 ss us us2 ns40 nb wr fl kk lk ps tl t) (ht : t ≤ 6) {po' od' ok' : Obj} {ud' : Nat} (hpo : PenB po' (5 + 3 * (t : Int) + 3) (5 + 3 * (t : Int) + 3) S40)
    (hD : DiskD w.params od' nb kd ld ud' wr (fl + 1)) (hk : IntDict w ok' (puts kk ps)) (hA : DiskA x dx kd ld ud') (hu : ud' ≠ un) :
    LawSt w L' pen su un x dx kd ld ud' S40 opc odc po' od' ok' ol vs40 (setsL ss ps) [] [] ns40 nb wr (fl + 1) (puts kk ps) lk [] [] (t + 1) := by
  have hn : ∀ p ∈ ps, 0 ≤ p.1 := fun p hp => (H.hin p hp).1
  exact { H with
    hpo := by
      have e : (5 + 3 * ((t + 1 : Nat) : Int)) = 5 + 3 * (t : Int) + 3 := by omega
      rw [e]
      exact hpo
    hss := (setsL_length _ _).trans H.hss
    hS := setsL_octs H.hO H.hS
    hO := fun p hp => nomatch hp
    hin := fun p hp => nomatch hp
    hps := Nat.zero_le _
    hD := hD
    hk := hk
    hA := hA
    wr1 := by have := H.wr1; omega
    fl0 := by have := H.fl0; omega
    fl1 := by have := H.fl1; omega
    kz := by
      have h1 := puts_length ps kk
      have h2 := H.kz
      have h3 := H.hps
      omega
    lz := by have := H.lz; omega
    kO := octs_puts H.hO H.kO
    bk := fun j hj => by
      rw [blk_puts H.hO hn, sets_last (by rw [H.hss]; exact hj) hn, H.bk j hj]
    bl := fun j hj => H.bl j hj
    hT := fun _ _ => .nil
    hT2 := fun _ _ => .nil
    htl := fun q hq => nomatch hq
    a8 := hu }
theorem LawSt.write {w : World} {L' pen su un x dx kd ld ud S40 : Nat} {opc odc po od ok ol : Obj} {vs40 ss us us2 : List Value} {ns40 : List Int} {nb : Nat} {wr fl : Int} {kk lk ps : List (Int × Value)} {tl : List (Addr × Obj)} {t : Nat}
    (H : LawSt w L' pen su un x dx kd ld ud S40 opc odc po od ok ol vs40 ss us us2 ns40 nb wr fl kk lk ps tl t) {po' od' ol' : Obj} (hpo : PenB po' (5 + 3 * (t : Int) + 3) (5 + 3 * (t : Int) + 3) S40)
    {y : Int} {v : Value} {D1 D2 : Nat} {t1 t2 : Tok} (y0 : 0 ≤ y) (y1 : y < (nb : Int)) (hv : Oct v)
    (hD : DiskD w.params od' nb kd ld ud (wr + 1) fl) (hl : IntDict w ol' (stored lk y v)) :
    LawSt w L' pen su un x dx kd ld ud S40 opc odc po' od' ok ol' vs40 ss (us ++ [.ref D1]) (us2 ++ [.ref D2]) ns40 nb (wr + 1) fl kk (stored lk y v) (ps ++ [(y, v)]) ((D1, tupV y t1 v) :: (D2, tupV y t2 v) :: tl) (t + 1) := by
  have hn : ∀ p ∈ ps ++ [(y, v)], 0 ≤ p.1 ∧ p.1 < (nb : Int) := fun p hp => by
    rcases List.mem_append.mp hp with hp | hp
    · exact H.hin p hp
    · rw [List.mem_singleton.mp hp]
      exact ⟨y0, y1⟩
  exact { H with
    hpo := by
      have e : (5 + 3 * ((t + 1 : Nat) : Int)) = 5 + 3 * (t : Int) + 3 := by omega
      rw [e]
      exact hpo
    hO := fun p hp => by
      rcases List.mem_append.mp hp with hp | hp
      · exact H.hO p hp
      · rw [List.mem_singleton.mp hp]
        exact hv
    hin := hn
    hps := by
      have := H.hps
      rw [List.length_append]
      simp only [List.length_cons, List.length_nil]
      omega
    hD := hD
    hl := hl
    wr0 := by have := H.wr0; omega
    wr1 := by have := H.wr1; omega
    fl1 := by have := H.fl1; omega
    kz := by have := H.kz; omega
    lz := by
      have h1 := stored_length lk y v
      have h2 := H.lz
      omega
    lO := octs_stored H.lO hv
    bl := fun j hj => by
      obtain ⟨n, rfl⟩ := Int.eq_ofNat_of_zero_le y0
      rw [blk_stored _ hv, H.bl j hj, sets_last (by rw [H.hss]; exact hj) (fun p hp => (H.hin p hp).1), sets_last (by rw [H.hss]; exact hj) (fun p hp => (hn p hp).1)]
      unfold lastAt
      rw [List.foldl_append]
      show _ = if (n : Int) = (j : Int) then octOf v else _
      by_cases c : j = n
      · rw [if_pos c, if_pos (by omega)]
      · rw [if_neg c, if_neg (by omega)]
    hT := fun h hh => (H.hT h fun q hq => hh q (.tail _ (.tail _ hq))).snoc (hh (D1, _) (.head _))
    hT2 := fun h hh => (H.hT2 h fun q hq => hh q (.tail _ (.tail _ hq))).snoc (hh (D2, _) (.tail _ (.head _)))
    htl := fun q hq => by
      rcases List.mem_cons.mp hq with rfl | hq
      · rfl
      rcases List.mem_cons.mp hq with rfl | hq
      · rfl
      · exact H.htl q hq }

theorem off_S39 : True := by
  w_top off
  trivial
set_option pp.deepTerms false
set_option pp.deepTerms.threshold 8
/-- what holds between two deeds -/
inductive InvB (w : World) (L' pen su un x dx kd ld S40 : Nat) (opc odc : Obj) (vs40 : List Value) (ns40 : List Int) (nb n40 : Nat) (i : Nat) (m : Str → Option Value) (news : List (Addr × Obj)) : Prop
  | mk (h1 : m (Str.ofString "sure") = some (.ref su)) (h2 : m (Str.ofString "unsure") = some (.ref un)) (ud : Nat) (po od ok ol : Obj) (ss us us2 : List Value) (nsu nun nu : Nat) (wr fl : Int) (kk lk ps : List (Int × Value)) (tl : List (Addr × Obj))
      (H : LawSt w L' pen su un x dx kd ld ud S40 opc odc po od ok ol vs40 ss us us2 ns40 nb wr fl kk lk ps tl i) (e : news = ledS L' pen su un x dx kd ld ud S40 opc odc po od ok ol vs40 ss us us2 n40 nsu nun nu tl)
set_option maxHeartbeats 2000000 in
theorem segB (w : World) {p : Program} {loose : List Str} {mean : ExcName → Option Value} {mg mb : Str → Option Value} {dp un' : Nat} {gd : Option (List Code)} {outer : List Env} {A₀ : Around} {base g : Heap} {L' f : Addr} {cdv : Value} {gns : Array GenState} {os : OsState}
    (hdp : dp + 100 < recursionLimit + 1) (hun : un' + 600 < cLine + 3) (B : Below A₀ base outer g) (X : (hd.heap_1 w.params).In g) (T : Top p loose mean mg mb g)
    {S : Addr} {vs : List Value} {ns : List Int} (hS : g.IsList S vs.toArray) (hi : IntsAre vs ns) (hlen : ns.length ≤ 63)
    {h : Heap} {dr : Drawn} {tk : Nat} {m : Str → Option Value} {pen su un x dx kd ld ud S40 : Nat} {opc odc po od ok ol : Obj} {vs40 ss us us2 : List Value} {ns40 : List Int} {nb n40 nsu nun nu : Nat} {wr fl : Int} {kk lk ps : List (Int × Value)} {tl : List (Addr × Obj)}
    (F : Fr g L' h m) (hm : m (Str.ofString "script") = some (.ref S)) (hm' : m (Str.ofString "sure") = some (.ref su)) (hm'' : m (Str.ofString "unsure") = some (.ref un)) (N : News g L' h (ledS L' pen su un x dx kd ld ud S40 opc odc po od ok ol vs40 ss us us2 n40 nsu nun nu tl))
    (H : LawSt w L' pen su un x dx kd ld ud S40 opc odc po od ok ol vs40 ss us us2 ns40 nb wr fl kk lk ps tl 0)
    (next : ∀ (h : Heap) (dr : Drawn) (tk : Nat) (m : Str → Option Value) (ud : Nat) (po od ok ol : Obj) (ss us us2 : List Value) (nsu nun nu : Nat) (wr fl : Int) (kk lk ps : List (Int × Value)) (tl : List (Addr × Obj)) (t : Nat), t ≤ 6 →
      Fr g L' h m → m (Str.ofString "sure") = some (.ref su) → m (Str.ofString "unsure") = some (.ref un) → News g L' h (ledS L' pen su un x dx kd ld ud S40 opc odc po od ok ol vs40 ss us us2 n40 nsu nun nu tl) →
      LawSt w L' pen su un x dx kd ld ud S40 opc odc po od ok ol vs40 ss us us2 ns40 nb wr fl kk lk ps tl t → LawRun 7 w dp un' gd outer L' f cdv g gns os h dr tk) :
    LawRun 6 w dp un' gd outer L' f cdv g gns os h dr tk := by
  unfold LawRun
  revert X
  k_fill
  intro X
  show wpAny _ (ktrTop _ _ _ _ (Scope.mk _ _ _ _ _) _ _ _ (cellsFrom _ (_ :: _) _) _) (execs (_ :: _) (envOfC _ (Scope.mk _ _ _ _ _) _ _ _)) _ _ _
  rw [m_at3 hm hm' hm''] at F
  have hlI := IntsAre.length hi
  (try dsimp only)
  (try k_fold)
  refine wpAny_execs_cons ?_
  refine For_R (h₀ := g) rfl ?_ rfl rfl
  have hpc := H.hopc
  have hdc := H.hodc
  simp only [diskL, List.cons_append, List.nil_append] at N
  k_steps
  rename IsRange _ _ _ _ _ _ _ _ => hR
  rename Fr _ _ _ _ => F3
  rename News _ _ _ _ => N3
  have hfd : Int.fdiv ((List.take 40 ns).length : Int) 8 = ((List.take 40 ns).length : Int) / 8 := Int.fdiv_eq_ediv_of_nonneg _ (by decide)
  rw [hfd] at hR
  obtain ⟨n, hn, hn6⟩ : ∃ n : Nat, (3 + if ((List.take 40 ns).length : Int) / 8 < 3 then ((List.take 40 ns).length : Int) / 8 else 3) = (n : Int) ∧ n ≤ 6 := by
    have hL : (List.take 40 ns).length ≤ 40 := List.length_take_le _ _
    generalize (List.take 40 ns).length = q at *
    by_cases c : (q : Int) / 8 < 3
    · rw [if_pos c]
      exact ⟨3 + q / 8, by omega, by omega⟩
    · rw [if_neg c]
      exact ⟨6, by omega, by omega⟩
  rw [hn] at hR
  refine ⟨_, 0, n, _, _, _, n, _, _, InvB w L' pen su un x dx kd ld S40 opc odc vs40 ns40 nb n40,
    rfl, hR, small_one (by omega) (by omega) (by omega) (by omega), by have e := rangeSize_nat 0 n; rw [Int.sub_zero] at e; exact e, F3, news_tl N3, ⟨rfl, rfl, _, _, _, _, _, _, _, _, _, _, _, _, _, _, _, _, _, H, rfl⟩, ?_, ?_⟩
  · rintro i tv m₁ news₁ h tk I o hi2 ⟨hm, hm', ud, po, od, ok, ol, ss, us, us2, nsu, nun, nu, wr, fl, kk, lk, ps, tl, H, rfl⟩ hI hne F N Qt hQt
    rw [m_at2 hm hm'] at F
    have hpc := H.hopc
    have hdc := H.hodc
    have Nt := N
    simp only [ledS, diskL, List.cons_append, List.nil_append] at N
    k_steps
    obtain ⟨o131, o132, o133, o134, o135⟩ := H.hA.over (a := pen) H.a9
    obtain ⟨o141, o142, o143, o144, o145⟩ := H.hA.over (a := su) H.a4
    obtain ⟨o151, o152, o153, o154, o155⟩ := H.hA.over (a := S40) H.a11
    obtain ⟨o161, o162, o163, o164, o165⟩ := H.hA.over (a := L' + 1) (by have := H.a1; have := H.a11; omega)
    obtain ⟨o171, o172, o173, o174, o175⟩ := H.hA.over (a := L' + 1 + 1) (by have := H.a1; have := H.a11; omega)
    obtain ⟨b1, b2, b3, b4, b5, b6, b7, b8⟩ := id H.hA
    obtain ⟨d81, d82, d83, d84, d85, d86, d87, d88, d89⟩ : pen < un ∧ su < un ∧ S40 < un ∧ @LT.lt Nat _ (L' + 1) un ∧ @LT.lt Nat _ (L' + 1 + 1) un ∧ @LT.lt Nat _ (L' + 1) pen ∧ @LT.lt Nat _ (L' + 1 + 1) pen ∧ @LT.lt Nat _ (L' + 1) S40 ∧ S40 < pen := by
      have := H.a5; have := H.a2; have := H.a1
      refine ⟨?_, ?_, ?_, ?_, ?_, ?_, ?_, ?_, ?_⟩ <;> omega
    have a1 := H.a1
    have a2 := H.a2
    have a3 := H.a3
    have a4 := H.a4
    have a5 := H.a5
    have a6 := H.a6
    have a7 := H.a7
    have a8 := H.a8
    have a9 := H.a9
    have a10 := H.a10
    have a11 := H.a11
    have a12 := H.a12
    have a13 := H.a13
    have nb2 := H.nb2
    have nb3 := H.nb3
    have hss := H.hss
    have hps := H.hps
    have hkz := H.kz
    have hlz := H.lz
    have hmem : ∀ q ∈ ([(pen, po), (su, W.listOf ss.toArray nsu), (un, W.listOf us2.toArray nun)] ++ diskL x dx kd ld ud od ok ol (W.listOf us.toArray nu)), q ∈ (I, o) :: ledS L' pen su un x dx kd ld ud S40 opc odc po od ok ol vs40 ss us us2 n40 nsu nun nu tl := fun q hq => .tail _ (List.mem_append_right _ (List.mem_append_left _ hq))
    have hmem' : ∀ q ∈ ([(pen, po), (su, W.listOf ss.toArray nsu), (un, W.listOf us2.toArray nun)] ++ diskL x dx kd ld ud od ok ol (W.listOf us.toArray nu)), q ∈ ledS L' pen su un x dx kd ld ud S40 opc odc po od ok ol vs40 ss us us2 n40 nsu nun nu tl := fun q hq => List.mem_append_right _ (List.mem_append_left _ hq)
    have hIm : I ∉ ([(pen, po), (su, W.listOf ss.toArray nsu), (un, W.listOf us2.toArray nun)] ++ diskL x dx kd ld ud od ok ol (W.listOf us.toArray nu)).map (·.1) := not_at hmem' hne
    have htm : ∀ q ∈ tl, q ∈ (I, o) :: ledS L' pen su un x dx kd ld ud S40 opc odc po od ok ol vs40 ss us us2 n40 nsu nun nu tl := fun q hq => .tail _ (List.mem_append_right _ (List.mem_append_right _ hq))
    have hTt : Tups h us ps := H.hT h fun q hq => (Nt q (htm q hq)).1
    have hTt2 : Tups h us2 ps := H.hT2 h fun q hq => (Nt q (htm q hq)).1
    refine' (deed_call w pen S40 x dx kd ld ud su un po od ok ol vs40 us us2 ss ns40 (5 + 3 * (i : Int)) (5 + 3 * (i : Int)) nu nsu nun nb wr fl kk lk ps H.hi H.hlen ?zI ?zJ H.hpo H.hD H.hk H.hl H.hA H.wr0 ?zw H.fl0 ?zf ?zkz ?zlz ?zhu H.hO ?zhb ?zhb' ?zhss H.hin ?zhS a9 a4 a3 a5 a6 a7 a8).use B F X T Nt rfl ?zd ?zu hmem ?zP ?_
    case zI => omega
    case zJ => omega
    case zw => have := H.wr1; omega
    case zf => have := H.fl1; omega
    case zkz => omega
    case zlz => omega
    case zhu => omega
    case zhb => omega
    case zhb' => omega
    case zhss => omega
    case zhS =>
      refine NeAll.out ?_
      simp only [NeAll, and_true]
      repeat' apply And.intro
      all_goals (first | k_ne | omega)
    case zd => omega
    case zu => omega
    case zP => exact ⟨hTt, hTt2, News.isList Nt (.tail _ (.tail _ (.tail _ (.head _))))⟩
    rintro r mine' h' tk' F4 hN hfr hR ⟨rfl, po', hpo', hcase⟩
    have hnI : ∀ q ∈ mine', q.1 ≠ I := fun q hq e => hIm (e ▸ hfr q hq (I, o) (.head _) e)
    have hoff : OffAll (([(pen, po), (su, W.listOf ss.toArray nsu), (un, W.listOf us2.toArray nun)] ++ diskL x dx kd ld ud od ok ol (W.listOf us.toArray nu)).map (·.1)) [(L' + 1, opc), (L' + 1 + 1, odc), (S40, W.listOf vs40.toArray n40)] := by
      simp only [diskL, List.cons_append, List.nil_append, OffAll, NeAll, List.map_cons, List.map_nil, and_true]
      repeat' apply And.intro
      all_goals (first | k_ne | omega)
    have hkeep : ∀ q ∈ [(L' + 1, opc), (L' + 1 + 1, odc), (S40, W.listOf vs40.toArray n40)], q ∈ (I, o) :: ledS L' pen su un x dx kd ld ud S40 opc odc po od ok ol vs40 ss us us2 n40 nsu nun nu tl := fun q hq => .tail _ (List.mem_append_left _ hq)
    have hki : ∀ q ∈ [(L' + 1, opc), (L' + 1 + 1, odc), (S40, W.listOf vs40.toArray n40)], q.1 ≠ I := fun q hq => hne q (List.mem_append_left _ hq)
    rcases hcase with ⟨ud', od', ok', nsu', nun', hD', hk', hA', hun', rfl⟩ | ⟨y, v, od', ol', nu', nun', D1, D2, t1, t2, hDD, y0, y1, hv, hD', hl', hn1, hn2, rfl⟩
    · have mem : ∀ q ∈ ledS L' pen su un x dx kd ld ud' S40 opc odc po' od' ok' ol vs40 (setsL ss ps) [] [] n40 nsu' nun' 0 [], q ∈ [(L' + 1, opc), (L' + 1 + 1, odc), (S40, W.listOf vs40.toArray n40)] ∨ q ∈ [(pen, po'), (su, W.listOf (setsL ss ps).toArray nsu'), (un, W.listOf #[] nun')] ++ diskL x dx kd ld ud' od' ok' ol (W.listOf #[] 0) := by
        intro q hq
        rcases List.mem_append.mp hq with hq | hq
        · exact .inl hq
        · rcases List.mem_append.mp hq with hq | hq
          · exact .inr hq
          · exact absurd hq List.not_mem_nil
      have N5 := hN ((I, o) :: ledS L' pen su un x dx kd ld ud' S40 opc odc po' od' ok' ol vs40 (setsL ss ps) [] [] n40 nsu' nun' 0 []) (fun q hq => by
        rcases List.mem_cons.mp hq with rfl | hq
        · exact .inr ⟨.head _, hIm⟩
        · rcases mem q hq with hq | hq
          · exact .inr ⟨hkeep q hq, hoff.out q hq⟩
          · exact .inl hq)
      dsimp only
      k_steps
      refine TurnEnd.out hQt F4 N5 (fun q hq => ?_) ⟨rfl, rfl, _, _, _, _, _, _, _, _, _, _, _, _, _, _, _, _, _, H.flush (by omega) hpo' hD' hk' hA' hun', rfl⟩
      rcases mem q hq with hq | hq
      · exact hki q hq
      · exact hnI q hq
    · have mem : ∀ q ∈ ledS L' pen su un x dx kd ld ud S40 opc odc po' od' ok ol' vs40 ss (us ++ [.ref D1]) (us2 ++ [.ref D2]) n40 nsu nun' nu' ((D1, tupV y t1 v) :: (D2, tupV y t2 v) :: tl), q ∈ [(L' + 1, opc), (L' + 1 + 1, odc), (S40, W.listOf vs40.toArray n40)] ∨ q ∈ tl ∨ q ∈ (D1, tupV y t1 v) :: (D2, tupV y t2 v) :: ([(pen, po'), (su, W.listOf ss.toArray nsu), (un, W.listOf (us2 ++ [Value.ref D2]).toArray nun')] ++ diskL x dx kd ld ud od' ok ol' (W.listOf (us ++ [Value.ref D1]).toArray nu')) := by
        intro q hq
        rcases List.mem_append.mp hq with hq | hq
        · exact .inl hq
        rcases List.mem_append.mp hq with hq | hq
        · exact .inr (.inr (.tail _ (.tail _ hq)))
        rcases List.mem_cons.mp hq with rfl | hq
        · exact .inr (.inr (.head _))
        rcases List.mem_cons.mp hq with rfl | hq
        · exact .inr (.inr (.tail _ (.head _)))
        · exact .inr (.inl hq)
      have N5 := hN ((I, o) :: ledS L' pen su un x dx kd ld ud S40 opc odc po' od' ok ol' vs40 ss (us ++ [.ref D1]) (us2 ++ [.ref D2]) n40 nsu nun' nu' ((D1, tupV y t1 v) :: (D2, tupV y t2 v) :: tl)) (fun q hq => by
        rcases List.mem_cons.mp hq with rfl | hq
        · exact .inr ⟨.head _, hIm⟩
        · rcases mem q hq with hq | hq | hq
          · exact .inr ⟨hkeep q hq, hoff.out q hq⟩
          · exact .inr ⟨htm q hq, off_cls Nt (htm q hq) (H.htl q hq) hmem (noTup_app (noTup_three H.hpo) (diskL_noTup H.hD H.hk H.hl rfl))⟩
          · exact .inl hq)
      dsimp only
      k_steps
      refine TurnEnd.out hQt F4 N5 (fun q hq => ?_) ⟨rfl, rfl, _, _, _, _, _, _, _, _, _, _, _, _, _, _, _, _, _, H.write hpo' y0 y1 hv hD' hl', rfl⟩
      rcases mem q hq with hq | hq | hq
      · exact hki q hq
      · exact hne q (List.mem_append_right _ (List.mem_append_right _ hq))
      · exact hnI q hq
  · rintro m' news' h' tk ⟨hm, hm', ud, po, od, ok, ol, ss, us, us2, nsu, nun, nu, wr, fl, kk, lk, ps, tl, H, rfl⟩ F N
    dsimp only
    exact next _ _ _ _ _ _ _ _ _ _ _ _ _ _ _ _ _ _ _ _ _ n hn6 F hm hm' N H

theorem off_S40 : True := by
  w_top off
  trivial
set_option pp.deepTerms false
set_option pp.deepTerms.threshold 8
/-- disks that the ledger bears, what they keep -/
inductive Disks (w : World) (nb : Int) : List (Addr × Obj) → List Value → List (List (Int × Value)) → Prop
  | nil : Disks w nb [] [] []
  | cons {x dx kd ld ud : Addr} {od ok ol : Obj} {kv : List (Int × Value)} {dl : List (Addr × Obj)} {ys : List Value} {kvs : List (List (Int × Value))} : DiskD w.params od nb kd ld ud 0 0 → IntDict w ok kv → IntDict w ol kv → DiskA x dx kd ld ud → Octs kv → kv.length ≤ 50 →
      (∀ q ∈ dl, q.1 ∉ [x, dx, kd, ld, ud]) → Disks w nb dl ys kvs → Disks w nb (diskL x dx kd ld ud od ok ol (W.listOf #[] 0) ++ dl) (.ref x :: ys) (kv :: kvs)
theorem Disks.snoc {w : World} {nb : Int} {dl : List (Addr × Obj)} {ys : List Value} {kvs : List (List (Int × Value))} (H : Disks w nb dl ys kvs) {x dx kd ld ud : Addr} {od ok ol : Obj} {kv : List (Int × Value)} (hD : DiskD w.params od nb kd ld ud 0 0) (hk : IntDict w ok kv) (hl : IntDict w ol kv) (hA : DiskA x dx kd ld ud) (hO : Octs kv) (hz : kv.length ≤ 50)
    (hn : ∀ q ∈ dl, q.1 ∉ [x, dx, kd, ld, ud]) : Disks w nb (dl ++ diskL x dx kd ld ud od ok ol (W.listOf #[] 0)) (ys ++ [.ref x]) (kvs ++ [kv]) := by
  induction H with
  | nil =>
    have := Disks.cons hD hk hl hA hO hz (fun q hq => absurd hq List.not_mem_nil) .nil
    rwa [List.append_nil] at this
  | @cons x' dx' kd' ld' ud' od' ok' ol' kv' dl' ys' kvs' a b c d e f g _ ih =>
    rw [List.append_assoc]
    refine .cons a b c d e f (fun q hq => ?_) (ih fun q hq => hn q (List.mem_append_right _ hq))
    rcases List.mem_append.mp hq with hq | hq
    · exact g q hq
    · intro hm
      have hq' : q.1 ∈ [x, dx, kd, ld, ud] := List.mem_map_of_mem (f := Prod.fst) hq
      have hm' : q.1 ∈ (diskL x' dx' kd' ld' ud' od' ok' ol' (W.listOf #[] 0)).map (·.1) := hm
      obtain ⟨p, hp, e⟩ := List.mem_map.mp hm'
      exact hn p (List.mem_append_left _ hp) (e ▸ hq')
theorem Disks.length {w : World} {nb : Int} {dl : List (Addr × Obj)} {ys : List Value} {kvs : List (List (Int × Value))} (H : Disks w nb dl ys kvs) : ys.length = kvs.length := by
  induction H with
  | nil => rfl
  | cons _ _ _ _ _ _ _ _ ih => simp [ih]
theorem Disks.get {w : World} {nb : Int} {dl : List (Addr × Obj)} {ys : List Value} {kvs : List (List (Int × Value))} (H : Disks w nb dl ys kvs) : ∀ {i : Nat} {v : Value}, ys[i]? = some v → ∃ x dx kd ld ud od ok ol kv, v = .ref x ∧ kvs[i]? = some kv ∧ DiskD w.params od nb kd ld ud 0 0 ∧ IntDict w ok kv ∧ IntDict w ol kv ∧ DiskA x dx kd ld ud ∧ Octs kv ∧ ∀ q ∈ diskL x dx kd ld ud od ok ol (W.listOf #[] 0), q ∈ dl := by
  induction H with
  | nil => intro i v h; simp at h
  | @cons x' dx' kd' ld' ud' od' ok' ol' kv' dl' ys' kvs' a b c d e f g _ ih =>
    intro i v h
    cases i with
    | zero =>
      simp at h
      exact ⟨x', dx', kd', ld', ud', od', ok', ol', kv', h.symm, rfl, a, b, c, d, e, fun q hq => List.mem_append_left _ hq⟩
    | succ i =>
      obtain ⟨x, dx, kd, ld, ud, od, ok, ol, kv, h1, h2, h3, h4, h5, h6, h7, h8⟩ := ih (i := i) (v := v) (by simpa using h)
      exact ⟨x, dx, kd, ld, ud, od, ok, ol, kv, h1, by simpa using h2, h3, h4, h5, h6, h7, fun q hq => List.mem_append_right _ (h8 q hq)⟩
theorem chs_in {n : Nat} : ∀ c ∈ chs n, ∀ k ∈ c, 0 ≤ k ∧ k < (n : Int) := by
  induction n with
  | zero =>
    intro c hc k hk
    rw [List.mem_singleton.mp hc] at hk
    exact absurd hk List.not_mem_nil
  | succ n ih =>
    intro c hc k hk
    rcases List.mem_append.mp hc with h | h
    · have := ih c h k hk
      omega
    · obtain ⟨d, hd, rfl⟩ := List.mem_map.mp h
      rcases List.mem_append.mp hk with hk | hk
      · have := ih d hd k hk
        omega
      · rw [List.mem_singleton.mp hk]
        omega
/-- a call that leaves its own objects as they were -/
theorem news_same {h₀ h h' : Heap} {L : Addr} {news mine mine' : List (Addr × Obj)} (N : News h₀ L h news) (hm : ∀ q ∈ mine, q ∈ news) (hs : ∀ q ∈ mine, q ∈ mine')
    (hN : ∀ news' : List (Addr × Obj), (∀ q ∈ news', q ∈ mine' ∨ (q ∈ news ∧ q.1 ∉ mine.map (·.1))) → News h₀ L h' news') : News h₀ L h' news := hN news fun q hq => by
  by_cases c : q.1 ∈ mine.map (·.1)
  · obtain ⟨p, hp, e⟩ := List.mem_map.mp c
    have h1 := (N p (hm p hp)).1
    have h2 := (N q hq).1
    rw [e, h2] at h1
    have : q = p := Prod.ext e.symm (Option.some.inj h1)
    rw [this]
    exact .inl (hs p hp)
  · exact .inr ⟨hq, c⟩

theorem off_S41 : True := by
  w_top off
  trivial
set_option pp.deepTerms false
set_option pp.deepTerms.threshold 8
/-- what the law keeps of its ledger behind the deeds -/
abbrev ledM (L' su un x dx kd ld ud : Addr) (odc od ok ol : Obj) (ss us us2 : List Value) (nsu nun nu : Nat) (tl : List (Addr × Obj)) : List (Addr × Obj) :=
  (L' + 1 + 1, odc) :: (su, W.listOf ss.toArray nsu) :: (un, W.listOf us2.toArray nun) :: (diskL x dx kd ld ud od ok ol (W.listOf us.toArray nu) ++ tl)
theorem off1_mem {D : Addr} : ∀ {l : List (Addr × Obj)}, LCg.Off1 D l → ∀ p ∈ l, @Ne Nat p.1 D
  | [], _, _, hq => absurd hq List.not_mem_nil
  | p :: r, h, q, hq => by
    rcases List.mem_cons.mp hq with rfl | hq
    · exact h.1
    · exact off1_mem h.2 q hq
theorem pick_sub {c : List Int} {ps : List (Int × Value)} : ∀ p ∈ pick c ps, p ∈ ps := fun p hp => by
  obtain ⟨k, hk, _⟩ := mem_pick.mp hp
  exact List.mem_of_getElem? hk
set_option maxHeartbeats 2000000 in
theorem segC (w : World) {p : Program} {loose : List Str} {mean : ExcName → Option Value} {mg mb : Str → Option Value} {dp un' : Nat} {gd : Option (List Code)} {outer : List Env} {A₀ : Around} {base g : Heap} {L' f : Addr} {cdv : Value} {gns : Array GenState} {os : OsState}
    (hdp : dp + 100 < recursionLimit + 1) (hun : un' + 600 < cLine + 3) (B : Below A₀ base outer g) (X : (hd.heap_1 w.params).In g) (T : Top p loose mean mg mb g)
    {h : Heap} {dr : Drawn} {tk : Nat} {m : Str → Option Value} {pen su un x dx kd ld ud S40 : Nat} {opc odc po od ok ol : Obj} {vs40 ss us us2 : List Value} {ns40 : List Int} {nb n40 nsu nun nu t : Nat} {wr fl : Int} {kk lk ps : List (Int × Value)} {tl : List (Addr × Obj)}
    (ht : t ≤ 6) (F : Fr g L' h m) (hm : m (Str.ofString "sure") = some (.ref su)) (hm' : m (Str.ofString "unsure") = some (.ref un)) (N : News g L' h (ledS L' pen su un x dx kd ld ud S40 opc odc po od ok ol vs40 ss us us2 n40 nsu nun nu tl))
    (H : LawSt w L' pen su un x dx kd ld ud S40 opc odc po od ok ol vs40 ss us us2 ns40 nb wr fl kk lk ps tl t)
    (next : ∀ (h : Heap) (tk : Nat) (m : Str → Option Value) (od : Obj) (lm nlm : Nat) (dl : List (Addr × Obj)) (ym : List Value),
      Fr g L' h m → m (Str.ofString "sure") = some (.ref su) → m (Str.ofString "unsure") = some (.ref un) → m (Str.ofString "made") = some (.ref lm) → News g L' h ((lm, W.listOf ym.toArray nlm) :: (ledM L' su un x dx kd ld ud odc od ok ol ss us us2 nsu nun nu tl ++ dl)) →
      LawSt w L' pen su un x dx kd ld ud S40 opc odc po od ok ol vs40 ss us us2 ns40 nb wr fl kk lk ps tl t → Disks w nb dl ym ((chs ps.length).map fun c => puts kk (pick c ps)) → (∀ q ∈ dl, @Ne Nat q.1 lm) → LawRun 8 w dp un' gd outer L' f cdv g gns os h dr tk) :
    LawRun 7 w dp un' gd outer L' f cdv g gns os h dr tk := by
  unfold LawRun
  revert X
  k_fill
  intro X
  show wpAny _ (ktrTop _ _ _ _ (Scope.mk _ _ _ _ _) _ _ _ (cellsFrom _ (_ :: _) _) _) (execs (_ :: _) (envOfC _ (Scope.mk _ _ _ _ _) _ _ _)) _ _ _
  rw [m_at2 hm hm'] at F
  (try dsimp only)
  (try k_fold)
  refine wpAny_execs_cons ?_
  have hpc := H.hopc
  have hdc := H.hodc
  have hps := H.hps
  have htl2 : us2.length = ps.length := by
    refine (H.hT2 h fun q hq => (N q (List.mem_append_right _ (List.mem_append_right _ hq))).1).length
  replace N := news_sub (new := ledM L' su un x dx kd ld ud odc od ok ol ss us us2 nsu nun nu tl) N (fun q hq => by
    rcases List.mem_cons.mp hq with rfl | hq
    · exact .tail _ (.head _)
    rcases List.mem_cons.mp hq with rfl | hq
    · exact List.mem_append_right _ (List.mem_append_left _ (.tail _ (.head _)))
    rcases List.mem_cons.mp hq with rfl | hq
    · exact List.mem_append_right _ (List.mem_append_left _ (.tail _ (.tail _ (.head _))))
    rcases List.mem_append.mp hq with hq | hq
    · exact List.mem_append_right _ (List.mem_append_left _ (List.mem_append_right _ hq))
    · exact List.mem_append_right _ (List.mem_append_right _ hq))
  have Nt := N
  simp only [ledM, diskL, List.cons_append, List.nil_append] at N
  refine LCg.Assign_ListComp_U (F₀ := by exact F) (by rfl) (by with_unfolding_all rfl) (by with_unfolding_all rfl) (by decide) (by rfl) (by decide) (by rfl) (by rfl) (by rfl) ?_
  k_steps
  refine (choices_call w us2.length _ (by omega)).use B F X T Nt rfl (by omega) (by omega) (fun _ h => nomatch h) trivial ?_
  rintro r mine' h' tk' F2 hN hfr hR ⟨Dc, uc, nc, cl, rfl, hIL, rfl⟩
  have N2 := hN (ledM L' su un x dx kd ld ud odc od ok ol ss us us2 nsu nun nu tl ++ (Dc, W.listOf uc.toArray nc) :: cl) (fun q hq => by
    rcases List.mem_append.mp hq with hq | hq
    · exact .inr ⟨hq, fun h => nomatch h⟩
    · exact .inl hq)
  have hcl : ∀ q ∈ (Dc, W.listOf uc.toArray nc) :: cl, ∀ q' ∈ ledM L' su un x dx kd ld ud odc od ok ol ss us us2 nsu nun nu tl, q.1 ≠ q'.1 := fun q hq q' hq' e => nomatch hfr q hq q' hq' e
  have hclA : ∀ q ∈ (Dc, W.listOf uc.toArray nc) :: cl, ∀ a ∈ (ledM L' su un x dx kd ld ud odc od ok ol ss us us2 nsu nun nu tl).map (·.1), a ≠ q.1 := fun q hq a ha e => by
    obtain ⟨q', hq', e'⟩ := List.mem_map.mp ha
    exact hcl q hq q' hq' (e.symm.trans e'.symm)
  rw [htl2] at hIL
  have hul := hIL.length
  have hch := chs_small (n := ps.length) (by omega)
  clear hN hfr hR N Nt F
  dsimp only
  k_steps
  refine LCg.CompSrc.ledger (by rfl) F2 N2 (ax := Dc) (its := uc.toArray) (k := nc) (List.mem_append_right _ (.head _)) (by rw [sizeLine_eq]; simp only [List.size_toArray]; omega) ?_
  intro g'
  obtain ⟨i221, i222, i223, i224⟩ := H.hA.inner
  obtain ⟨o231, o232, o233, o234, o235⟩ := H.hA.over (a := su) H.a4
  obtain ⟨o241, o242, o243, o244, o245⟩ := H.hA.over (a := L' + 1 + 1) (by have := H.a1; have := H.a11; omega)
  obtain ⟨b1, b2, b3, b4, b5, b6, b7, b8⟩ := id H.hA
  have a1 := H.a1
  have a4 := H.a4
  have a5 := H.a5
  have a6 := H.a6
  have a7 := H.a7
  have a8 := H.a8
  have a11 := H.a11
  have nb2 := H.nb2
  have nb3 := H.nb3
  have hkz := H.kz
  refine comp_inv (fun i ys news => Stop (∃ od dl, DiskD w.params od nb kd ld ud wr fl ∧ Disks w nb dl ys (((chs ps.length).take i).map fun c => puts kk (pick c ps)) ∧ (∀ q ∈ dl, ∀ b ∈ [x, dx, kd, ld, ud], @LT.lt Nat _ b q.1) ∧
      (∀ q ∈ news, q ∈ (Dc, W.listOf uc.toArray nc) :: (ledM L' su un x dx kd ld ud odc od ok ol ss us us2 nsu nun nu tl ++ (cl ++ dl))) ∧ (∀ q ∈ (Dc, W.listOf uc.toArray nc) :: (ledM L' su un x dx kd ld ud odc od ok ol ss us us2 nsu nun nu tl ++ (cl ++ dl)), q ∈ news))) ⟨od, [], H.hD, .nil, (fun q hq => nomatch hq), ?_, ?_⟩ ?_ ?_
  · intro q hq
    rw [List.append_nil]
    rcases List.mem_append.mp hq with hq | hq
    · exact .tail _ (List.mem_append_left _ hq)
    · rcases List.mem_cons.mp hq with rfl | hq
      · exact .head _
      · exact .tail _ (List.mem_append_right _ hq)
  · intro q hq
    rw [List.append_nil] at hq
    rcases List.mem_cons.mp hq with rfl | hq
    · exact List.mem_append_right _ (.head _)
    · rcases List.mem_append.mp hq with hq | hq
      · exact List.mem_append_left _ hq
      · exact List.mem_append_right _ (.tail _ hq)
  · rintro i ys news v I oI C oC D m₂ h tk hi2 ⟨od, dl, hD, hDl, hdl, hn1, hn2⟩ hv hC hx F N off ne
    obtain ⟨a, vc, na, nsc, rfl, hal, hvs, hcs⟩ := hIL.get (by simpa using hv)
    have hvl := IntsAre.length hvs
    have Nt : News g L' h ((I, oI) :: (C, oC) :: (D, LCg.lst ys) :: (Dc, W.listOf uc.toArray nc) :: (ledM L' su un x dx kd ld ud odc od ok ol ss us us2 nsu nun nu tl ++ (cl ++ dl))) := fun q hq => by
      rcases List.mem_cons.mp hq with rfl | hq
      · exact N _ (.head _)
      rcases List.mem_cons.mp hq with rfl | hq
      · exact N _ (.tail _ (.head _))
      rcases List.mem_cons.mp hq with rfl | hq
      · exact N _ (.tail _ (.tail _ (.head _)))
      · exact N q (.tail _ (.tail _ (.tail _ (hn2 q hq))))
    have off' : ∀ q ∈ (Dc, W.listOf uc.toArray nc) :: (ledM L' su un x dx kd ld ud odc od ok ol ss us us2 nsu nun nu tl ++ (cl ++ dl)), (@Ne Nat q.1 I) ∧ (@Ne Nat q.1 C) ∧ (@Ne Nat q.1 D) := fun q hq => off.mem q (hn2 q hq)
    have htm : ∀ q ∈ tl, q ∈ (I, oI) :: (C, oC) :: (D, LCg.lst ys) :: (Dc, W.listOf uc.toArray nc) :: (ledM L' su un x dx kd ld ud odc od ok ol ss us us2 nsu nun nu tl ++ (cl ++ dl)) := fun q hq => .tail _ (.tail _ (.tail _ (.tail _ (List.mem_append_left _ (.tail _ (.tail _ (.tail _ (List.mem_append_right _ hq))))))))
    have hmm : ∀ q ∈ diskL x dx kd ld ud od ok ol (W.listOf us.toArray nu), q ∈ ledM L' su un x dx kd ld ud odc od ok ol ss us us2 nsu nun nu tl := fun q hq => .tail _ (.tail _ (.tail _ (List.mem_append_left _ hq)))
    have hmem : ∀ q ∈ diskL x dx kd ld ud od ok ol (W.listOf us.toArray nu), q ∈ (I, oI) :: (C, oC) :: (D, LCg.lst ys) :: (Dc, W.listOf uc.toArray nc) :: (ledM L' su un x dx kd ld ud odc od ok ol ss us us2 nsu nun nu tl ++ (cl ++ dl)) := fun q hq => .tail _ (.tail _ (.tail _ (.tail _ (List.mem_append_left _ (hmm q hq)))))
    have hTt : Tups h us ps := H.hT h fun q hq => (Nt q (htm q hq)).1
    replace N : News g L' h ((a, W.listOf vc.toArray na) :: (I, oI) :: (C, oC) :: (D, LCg.lst ys) :: (L' + 1 + 1, odc) :: (x, instObj 177 dx) :: [(dx, od)]) := by
      intro q hq
      simp only [List.mem_cons, List.not_mem_nil, or_false] at hq
      rcases hq with rfl | rfl | rfl | rfl | rfl | rfl | rfl
      · exact Nt _ (.tail _ (.tail _ (.tail _ (.tail _ (List.mem_append_right _ (List.mem_append_left _ hal))))))
      · exact Nt _ (.head _)
      · exact Nt _ (.tail _ (.head _))
      · exact Nt _ (.tail _ (.tail _ (.head _)))
      · exact Nt _ (.tail _ (.tail _ (.tail _ (.tail _ (.head _)))))
      · exact Nt _ (hmem _ (.head _))
      · exact Nt _ (hmem _ (.tail _ (.head _)))
    k_steps
    clear N
    have hne5 : ∀ q ∈ (Dc, W.listOf uc.toArray nc) :: (cl ++ dl), q.1 ∉ (diskL x dx kd ld ud od ok ol (W.listOf us.toArray nu)).map (·.1) := fun q hq hm => by
      obtain ⟨p, hp, e⟩ := List.mem_map.mp hm
      rcases List.mem_cons.mp hq with rfl | hq
      · have hp2 : (⟨p.1, p.2⟩ : Addr × Obj).1 ∈ (ledM L' su un x dx kd ld ud odc od ok ol ss us us2 nsu nun nu tl).map (·.1) := List.mem_map_of_mem (hmm p hp)
        exact hclA _ (.head _) _ hp2 e
      · rcases List.mem_append.mp hq with hq | hq
        · have hp2 : p.1 ∈ (ledM L' su un x dx kd ld ud odc od ok ol ss us us2 nsu nun nu tl).map (·.1) := List.mem_map_of_mem (f := Prod.fst) (hmm p hp)
          exact hclA q (.tail _ hq) _ hp2 e
        · have hb : p.1 ∈ [x, dx, kd, ld, ud] := List.mem_map_of_mem (f := Prod.fst) hp
          have := hdl q hq _ hb
          rw [e] at this
          exact Nat.lt_irrefl _ this
    have hcell : ∀ q ∈ [(L' + 1 + 1, odc), (su, W.listOf ss.toArray nsu), (un, W.listOf us2.toArray nun)], q.1 ∉ (diskL x dx kd ld ud od ok ol (W.listOf us.toArray nu)).map (·.1) := by
      refine OffAll.out ?_
      simp only [diskL, OffAll, NeAll, List.map_cons, List.map_nil, and_true]
      repeat' apply And.intro
      all_goals (first | k_ne | omega)
    have htup : ∀ q ∈ tl, q.1 ∉ (diskL x dx kd ld ud od ok ol (W.listOf us.toArray nu)).map (·.1) := fun q hq => off_cls Nt (htm q hq) (H.htl q hq) hmem (diskL_noTup hD H.hk H.hl rfl)
    have hICD : ∀ q ∈ [(I, oI), (C, oC), (D, LCg.lst ys)], q.1 ∉ (diskL x dx kd ld ud od ok ol (W.listOf us.toArray nu)).map (·.1) := fun q hq hm => by
      obtain ⟨p, hp, e⟩ := List.mem_map.mp hm
      have o := off' p (.tail _ (List.mem_append_left _ (hmm p hp)))
      simp only [List.mem_cons, List.not_mem_nil, or_false] at hq
      rcases hq with rfl | rfl | rfl
      · exact o.1 e
      · exact o.2.1 e
      · exact o.2.2 e
    refine' (after_call w x dx kd ld ud a od ok ol us vc nsc nu nb wr fl kk ps hD H.hk H.hl H.hA ?z0 ?z1 ?z2 ?z3 H.hO ?zch hvs (chs_in _ (List.mem_of_getElem? hcs))).use B F X T Nt rfl ?zd ?zu hmem ?zP ?_
    case z0 => omega
    case z1 => omega
    case z2 => omega
    case z3 => omega
    case zch => exact hne5 (a, W.listOf vc.toArray na) (.tail _ (List.mem_append_left _ hal))
    case zd => omega
    case zu => omega
    case zP => exact ⟨hTt, News.isList Nt (.tail _ (.tail _ (.tail _ (.tail _ (List.mem_append_right _ (List.mem_append_left _ hal))))))⟩
    rintro r mine' h' tk' F4 hN hfr hR ⟨x2, dx2, kd2, ld2, ud2, od', od2, ok2, ol2, rfl, hD', hD2, hk2, hl2, hA2, hlt, rfl⟩
    have hnew : ∀ q ∈ diskL x2 dx2 kd2 ld2 ud2 od2 ok2 ol2 (W.listOf #[] 0), ∀ q' ∈ (I, oI) :: (C, oC) :: (D, LCg.lst ys) :: (Dc, W.listOf uc.toArray nc) :: (ledM L' su un x dx kd ld ud odc od ok ol ss us us2 nsu nun nu tl ++ (cl ++ dl)), @Ne Nat q.1 q'.1 := fun q hq q' hq' e => by
      have h1 := hfr q (List.mem_append_left _ hq) q' hq' e
      have h2 : q.1 ∈ [x2, dx2, kd2, ld2, ud2] := List.mem_map_of_mem (f := Prod.fst) hq
      exact Nat.lt_irrefl _ (hlt _ h2 _ h1)
    have hbig : ∀ q ∈ diskL x2 dx2 kd2 ld2 ud2 od2 ok2 ol2 (W.listOf #[] 0), ∀ b ∈ [x, dx, kd, ld, ud], @LT.lt Nat _ b q.1 := fun q hq b hb => by
      have h2 : q.1 ∈ [x2, dx2, kd2, ld2, ud2] := List.mem_map_of_mem (f := Prod.fst) hq
      exact hlt _ h2 _ hb
    have N5 := hN ((I, oI) :: (C, oC) :: (D, LCg.lst ys) :: (Dc, W.listOf uc.toArray nc) :: (ledM L' su un x dx kd ld ud odc od' ok ol ss us us2 nsu nun nu tl ++ (cl ++ (dl ++ diskL x2 dx2 kd2 ld2 ud2 od2 ok2 ol2 (W.listOf #[] 0))))) (fun q hq => by
      rcases List.mem_cons.mp hq with rfl | hq
      · exact .inr ⟨.head _, hICD _ (.head _)⟩
      rcases List.mem_cons.mp hq with rfl | hq
      · exact .inr ⟨.tail _ (.head _), hICD _ (.tail _ (.head _))⟩
      rcases List.mem_cons.mp hq with rfl | hq
      · exact .inr ⟨.tail _ (.tail _ (.head _)), hICD _ (.tail _ (.tail _ (.head _)))⟩
      rcases List.mem_cons.mp hq with rfl | hq
      · exact .inr ⟨.tail _ (.tail _ (.tail _ (.head _))), hne5 _ (.head _)⟩
      rcases List.mem_append.mp hq with hq | hq
      · rcases List.mem_cons.mp hq with rfl | hq
        · exact .inr ⟨.tail _ (.tail _ (.tail _ (.tail _ (.head _)))), hcell _ (.head _)⟩
        rcases List.mem_cons.mp hq with rfl | hq
        · exact .inr ⟨.tail _ (.tail _ (.tail _ (.tail _ (.tail _ (.head _))))), hcell _ (.tail _ (.head _))⟩
        rcases List.mem_cons.mp hq with rfl | hq
        · exact .inr ⟨.tail _ (.tail _ (.tail _ (.tail _ (.tail _ (.tail _ (.head _)))))), hcell _ (.tail _ (.tail _ (.head _)))⟩
        rcases List.mem_append.mp hq with hq | hq
        · exact .inl (List.mem_append_right _ hq)
        · exact .inr ⟨htm q hq, htup q hq⟩
      rcases List.mem_append.mp hq with hq | hq
      · exact .inr ⟨.tail _ (.tail _ (.tail _ (.tail _ (List.mem_append_right _ (List.mem_append_left _ hq))))), hne5 q (.tail _ (List.mem_append_left _ hq))⟩
      rcases List.mem_append.mp hq with hq | hq
      · exact .inr ⟨.tail _ (.tail _ (.tail _ (.tail _ (List.mem_append_right _ (List.mem_append_right _ hq))))), hne5 q (.tail _ (List.mem_append_right _ hq))⟩
      · exact .inl (List.mem_append_left _ hq))
    dsimp only
    k_steps
    delta Stop
    refine LCg.CompEnd.intro F4 N5 _ (fun _ hp => hp) (off3_of fun q hq => ?_) (.inr ⟨_, .head _, rfl, _, rfl⟩) ⟨od', dl ++ diskL x2 dx2 kd2 ld2 ud2 od2 ok2 ol2 (W.listOf #[] 0), hD', ?_, ?_, fun q hq => hq, fun q hq => hq⟩
    · have old : ∀ q ∈ (Dc, W.listOf uc.toArray nc) :: (ledM L' su un x dx kd ld ud odc od' ok ol ss us us2 nsu nun nu tl ++ (cl ++ dl)), (@Ne Nat q.1 I) ∧ (@Ne Nat q.1 C) ∧ (@Ne Nat q.1 D) := fun q hq => by
        have hq1 : q.1 ∈ ((Dc, W.listOf uc.toArray nc) :: (ledM L' su un x dx kd ld ud odc od ok ol ss us us2 nsu nun nu tl ++ (cl ++ dl))).map (·.1) := by
          have := List.mem_map_of_mem (f := Prod.fst) hq
          simp only [ledM, diskL, List.map_cons, List.map_append, List.map_nil] at this ⊢
          exact this
        obtain ⟨p, hp, e⟩ := List.mem_map.mp hq1
        rw [← e]
        exact off' p hp
      rcases List.mem_cons.mp hq with rfl | hq
      · exact old _ (.head _)
      rcases List.mem_append.mp hq with hq | hq
      · exact old q (.tail _ (List.mem_append_left _ hq))
      rcases List.mem_append.mp hq with hq | hq
      · exact old q (.tail _ (List.mem_append_right _ (List.mem_append_left _ hq)))
      rcases List.mem_append.mp hq with hq | hq
      · exact old q (.tail _ (List.mem_append_right _ (List.mem_append_right _ hq)))
      · exact ⟨hnew q hq (I, oI) (.head _), hnew q hq (C, oC) (.tail _ (.head _)), hnew q hq (D, _) (.tail _ (.tail _ (.head _)))⟩
    · have e : (((chs ps.length).take (i + 1)).map fun c => puts kk (pick c ps)) = (((chs ps.length).take i).map fun c => puts kk (pick c ps)) ++ [puts kk (pick nsc ps)] := by
        rw [List.take_add_one, hcs, List.map_append]
        rfl
      rw [e]
      refine hDl.snoc hD2 hk2 hl2 hA2 (octs_puts (fun p hp => H.hO p (pick_sub p hp)) H.kO) ?_ fun q hq hm => ?_
      · have h1 := puts_length (pick nsc ps) kk
        have h2 := pick_length nsc ps
        omega
      · have hm' : q.1 ∈ (diskL x2 dx2 kd2 ld2 ud2 od2 ok2 ol2 (W.listOf #[] 0)).map (·.1) := hm
        obtain ⟨p, hp, e⟩ := List.mem_map.mp hm'
        exact hnew p hp q (.tail _ (.tail _ (.tail _ (.tail _ (List.mem_append_right _ (List.mem_append_right _ hq)))))) e
    · intro q hq
      rcases List.mem_append.mp hq with hq | hq
      · exact hdl q hq
      · exact hbig q hq
  · rintro ys news ⟨od, dl, hD, hDl, hdl, hn1, hn2⟩
    intro D h tk F N off
    have N9 : News g L' h ((D, W.listOf ys.toArray ys.length) :: (ledM L' su un x dx kd ld ud odc od ok ol ss us us2 nsu nun nu tl ++ dl)) := fun q hq => by
      rcases List.mem_cons.mp hq with rfl | hq
      · exact N _ (.head _)
      · refine N q (.tail _ (hn2 q (.tail _ ?_)))
        rcases List.mem_append.mp hq with hq | hq
        · exact List.mem_append_left _ hq
        · exact List.mem_append_right _ (List.mem_append_right _ hq)
    have ho : ∀ q ∈ dl, @Ne Nat q.1 D := fun q hq => off1_mem off q (hn2 q (.tail _ (List.mem_append_right _ (List.mem_append_right _ hq))))
    have hsz : uc.toArray.size = (chs ps.length).length := by rw [List.size_toArray, hul]
    rw [hsz, List.take_length] at hDl
    k_steps
    delta Stop
    exact next _ _ _ od D ys.length dl ys F rfl rfl rfl N9 { H with hD := hD } hDl ho

theorem off_S42 : True := by
  w_top off
  trivial
set_option pp.deepTerms false
set_option pp.deepTerms.threshold 8
local macro_rules | `(tactic| walk_at "execs cons") => `(tactic| ((with_reducible show wpAny _ _ (execs (Stmt.If (Expr.BoolOp _ _ _) _ _ _ :: _) _) _ _ _); (refine stop_here ?_)))
set_option maxHeartbeats 2000000 in
theorem segD (w : World) {p : Program} {loose : List Str} {mean : ExcName → Option Value} {mg mb : Str → Option Value} {dp un' : Nat} {gd : Option (List Code)} {outer : List Env} {A₀ : Around} {base g : Heap} {L' f : Addr} {cdv : Value} {gns : Array GenState} {os : OsState}
    (hdp : dp + 100 < recursionLimit + 1) (hun : un' + 600 < cLine + 3) (B : Below A₀ base outer g) (X : (hd.heap_1 w.params).In g) (T : Top p loose mean mg mb g)
    {h : Heap} {dr : Drawn} {tk : Nat} {m : Str → Option Value} {su un lm nlm : Nat} {nb : Nat} (nb2 : 2 ≤ nb) (nb3 : nb ≤ 3) {rest dl : List (Addr × Obj)} {ym : List Value} {kvs : List (List (Int × Value))}
    (F : Fr g L' h m) (hm : m (Str.ofString "sure") = some (.ref su)) (hm' : m (Str.ofString "unsure") = some (.ref un)) (hm'' : m (Str.ofString "made") = some (.ref lm)) (N : News g L' h ((lm, W.listOf ym.toArray nlm) :: (rest ++ dl)))
    (hDl : Disks w nb dl ym kvs) (hkn : kvs.length ≤ 64) (hlm : ∀ q ∈ dl, @Ne Nat q.1 lm)
    (next : ∀ (h : Heap) (tk : Nat) (m : Str → Option Value) (li nli : Nat) (bs : List (Array UInt8 × Tok)),
      Fr g L' h m → m (Str.ofString "sure") = some (.ref su) → m (Str.ofString "unsure") = some (.ref un) → m (Str.ofString "made") = some (.ref lm) → m (Str.ofString "images") = some (.ref li) →
      News g L' h ((li, W.listOf (bs.map bv).toArray nli) :: (lm, W.listOf ym.toArray nlm) :: (rest ++ dl)) → bs.map (·.1) = kvs.map (fun kv => pic kv nb) → (∀ q ∈ dl, @Ne Nat q.1 li) → @Ne Nat lm li → LawRun 9 w dp un' gd outer L' f cdv g gns os h dr tk) :
    LawRun 8 w dp un' gd outer L' f cdv g gns os h dr tk := by
  unfold LawRun
  revert X
  k_fill
  intro X
  show wpAny _ (ktrTop _ _ _ _ (Scope.mk _ _ _ _ _) _ _ _ (cellsFrom _ (_ :: _) _) _) (execs (_ :: _) (envOfC _ (Scope.mk _ _ _ _ _) _ _ _)) _ _ _
  rw [m_at3 hm hm' hm''] at F
  (try dsimp only)
  (try k_fold)
  refine wpAny_execs_cons ?_
  refine LCg.Assign_ListComp_U (F₀ := by exact F) (by rfl) (by with_unfolding_all rfl) (by with_unfolding_all rfl) (by decide) (by rfl) (by decide) (by rfl) (by rfl) (by rfl) ?_
  have hyl := hDl.length
  k_steps
  refine LCg.CompSrc.ledger (by rfl) F N (ax := lm) (its := ym.toArray) (k := nlm) (.head _) (by rw [sizeLine_eq]; simp only [List.size_toArray]; omega) ?_
  intro g'
  obtain ⟨led, hled⟩ : ∃ led, led = (lm, W.listOf ym.toArray nlm) :: (rest ++ dl) := ⟨_, rfl⟩
  rw [← hled]
  refine comp_inv (fun i ys news => Stop ((∃ bs : List (Array UInt8 × Tok), ys = bs.map bv ∧ bs.map (·.1) = (kvs.take i).map fun kv => pic kv nb) ∧ news = led)) ⟨⟨[], rfl, rfl⟩, rfl⟩ ?_ ?_
  · rintro i ys news v I oI C oC D m₂ h tk hi2 ⟨⟨bs, rfl, hbs⟩, rfl⟩ hv hC hx F N off ne
    obtain ⟨x, dx, kd, ld, ud, od, ok, ol, kv, rfl, hkv, hD, hk, hl, hA, hO, hmem⟩ := hDl.get (by simpa using hv)
    have hmem' : ∀ q ∈ diskL x dx kd ld ud od ok ol (W.listOf #[] 0), q ∈ (I, oI) :: (C, oC) :: (D, LCg.lst (bs.map bv)) :: news := fun q hq => by
      rw [hled]
      exact .tail _ (.tail _ (.tail _ (.tail _ (List.mem_append_right _ (hmem q hq)))))
    have Nt := N
    replace N : News g L' h ((I, oI) :: (C, oC) :: (D, LCg.lst (bs.map bv)) :: (x, instObj 177 dx) :: [(dx, od)]) := by
      intro q hq
      simp only [List.mem_cons, List.not_mem_nil, or_false] at hq
      rcases hq with rfl | rfl | rfl | rfl | rfl
      · exact Nt _ (.head _)
      · exact Nt _ (.tail _ (.head _))
      · exact Nt _ (.tail _ (.tail _ (.head _)))
      · exact Nt _ (hmem' _ (.head _))
      · exact Nt _ (hmem' _ (.tail _ (.head _)))
    k_steps
    clear N
    refine (image_call w x dx kd ld ud od ok ol (W.listOf #[] 0) nb 0 0 kv hD hl hA (by omega) (by omega) hO).use B F X T Nt rfl (by omega) (by omega) hmem' trivial ?_
    rintro r mine' h' tk' F4 hN hfr hR ⟨⟨t', rfl⟩, rfl⟩
    have N5 := news_same Nt hmem' (fun q hq => hq) hN
    dsimp only
    k_steps
    delta Stop
    refine LCg.CompEnd.intro F4 N5 _ (fun _ hp => hp) off (.inr ⟨_, by rw [hled]; exact .head _, rfl, _, rfl⟩) ⟨⟨bs ++ [(pic kv nb, t')], ?_, ?_⟩, rfl⟩
    · rw [List.map_append]
      rfl
    · rw [List.map_append, hbs, List.take_add_one, hkv, List.map_append]
      rfl
  · rintro ys news ⟨⟨bs, rfl, hbs⟩, rfl⟩
    intro D h tk F N off
    have hsz : ym.toArray.size = kvs.length := by rw [List.size_toArray, hyl]
    rw [hsz, List.take_length] at hbs
    rw [hled] at off N
    k_steps
    delta Stop
    exact next _ _ _ D (bs.map bv).length bs F rfl rfl rfl rfl N hbs (fun q hq => off1_mem off q (.tail _ (List.mem_append_right _ hq))) (off1_mem off _ (.head _))

theorem off_S43 : True := by
  w_top off
  trivial
set_option pp.deepTerms false
set_option pp.deepTerms.threshold 8
local macro_rules | `(tactic| walk_at "compareOp NotEq ref ref") => `(tactic| (refine stop_here ?_))
set_option maxHeartbeats 800000 in
theorem segE (w : World) {p : Program} {loose : List Str} {mean : ExcName → Option Value} {mg mb : Str → Option Value} {dp un' : Nat} {gd : Option (List Code)} {outer : List Env} {A₀ : Around} {base g : Heap} {L' f : Addr} {cdv : Value} {gns : Array GenState} {os : OsState}
    (hdp : dp + 100 < recursionLimit + 1) (hun : un' + 600 < cLine + 3) (B : Below A₀ base outer g) (X : (hd.heap_1 w.params).In g) (T : Top p loose mean mg mb g)
    {h : Heap} {dr : Drawn} {tk : Nat} {m : Str → Option Value} {pen su un x dx kd ld ud S40 lm nlm li nli : Nat} {opc odc po od ok ol : Obj} {vs40 ss us us2 ym : List Value} {ns40 : List Int} {nb n40 nsu nun nu t : Nat} {wr fl : Int} {kk lk ps : List (Int × Value)} {tl dl : List (Addr × Obj)} {bs : List (Array UInt8 × Tok)}
    (ht : t ≤ 6) (F : Fr g L' h m) (hm : m (Str.ofString "sure") = some (.ref su)) (hm' : m (Str.ofString "unsure") = some (.ref un)) (hm'' : m (Str.ofString "images") = some (.ref li))
    (N : News g L' h ((li, W.listOf (bs.map bv).toArray nli) :: (lm, W.listOf ym.toArray nlm) :: (ledM L' su un x dx kd ld ud odc od ok ol ss us us2 nsu nun nu tl ++ dl)))
    (H : LawSt w L' pen su un x dx kd ld ud S40 opc odc po od ok ol vs40 ss us us2 ns40 nb wr fl kk lk ps tl t) (hbs : bs.map (·.1) = (chs ps.length).map fun c => pic (puts kk (pick c ps)) nb)
    (next : ∀ (h : Heap) (dr : Drawn) (tk : Nat),
      Fr g L' h (fun y => if y = Str.ofString "sure" then some (.ref su) else if y = Str.ofString "unsure" then some (.ref un) else if y = Str.ofString "images" then some (.ref li) else m y) →
      News g L' h ((li, W.listOf (bs.map bv).toArray nli) :: (lm, W.listOf ym.toArray nlm) :: (ledM L' su un x dx kd ld ud odc od ok ol ss us us2 nsu nun nu tl ++ dl)) → LawRun 10 w dp un' gd outer L' f cdv g gns os h dr tk) :
    LawRun 9 w dp un' gd outer L' f cdv g gns os h dr tk := by
  unfold LawRun
  revert X
  k_fill
  intro X
  show wpAny _ (ktrTop _ _ _ _ (Scope.mk _ _ _ _ _) _ _ _ (cellsFrom _ (_ :: _) _) _) (execs (_ :: _) (envOfC _ (Scope.mk _ _ _ _ _) _ _ _)) _ _ _
  rw [m_at3 hm hm' hm''] at F
  (try dsimp only)
  (try k_fold)
  refine wpAny_execs_cons ?_
  have hps := H.hps
  have nb2 := H.nb2
  have nb3 := H.nb3
  have hss := H.hss
  have hbl : bs.length = 2 ^ ps.length := by
    have := congrArg List.length hbs
    rwa [List.length_map, List.length_map, chs_length] at this
  have hb64 : bs.length ≤ 64 := by
    have := chs_small (n := ps.length) (by omega)
    rwa [chs_length, ← hbl] at this
  have htm : ∀ q ∈ tl, q ∈ (li, W.listOf (bs.map bv).toArray nli) :: (lm, W.listOf ym.toArray nlm) :: (ledM L' su un x dx kd ld ud odc od ok ol ss us us2 nsu nun nu tl ++ dl) := fun q hq => .tail _ (.tail _ (List.mem_append_left _ (.tail _ (.tail _ (.tail _ (List.mem_append_right _ hq))))))
  have hTt2 : ∀ h, News g L' h ((li, W.listOf (bs.map bv).toArray nli) :: (lm, W.listOf ym.toArray nlm) :: (ledM L' su un x dx kd ld ud odc od ok ol ss us us2 nsu nun nu tl ++ dl)) → Tups h us2 ps := fun h N => H.hT2 h fun q hq => (N q (htm q hq)).1
  have hul2 : us2.length = ps.length := (hTt2 h N).length
  have hnn : ∀ p ∈ ps, 0 ≤ p.1 := fun p hp => (H.hin p hp).1
  have hdue : ∀ b, b ∈ bs.map (·.1) ↔ b ∈ dueL ss ps nb := fun b => by
    rw [hbs]
    exact images_due H.hO hnn H.bk b
  have hsm := dueL_small (ss := ss) (ps := ps) (i := nb) (by omega) nb3
  have hunne : @Ne Nat su un := by
    have a4 := H.a4
    have a5 := H.a5
    obtain ⟨b1, b2, b3, b4, b5, b6, b7, b8⟩ := id H.hA
    omega
  k_steps
  refine bs_call (bs := bs.map (·.1)) rfl (News.isList N (.head _)) (fun j v hj => ?_) (by simp) (by simp; omega) fun h2 tk2 hB hk2 => ?_
  · obtain ⟨⟨b1, t1⟩, hb1, rfl⟩ : ∃ q, bs[j]? = some q ∧ bv q = v := by simpa using hj
    refine ⟨t1, ?_⟩
    rw [List.getD_eq_getElem?_getD, List.getElem?_map, hb1]
    rfl
  have kk2 : ∀ b o, h.get? b = some o → h2.get? b = some o := fun b o e => hk2 b o (Heap.lt_size e) e
  have F2 := F.keeps kk2
  have N2 := N.grown kk2
  clear F N
  k_steps
  have hout2 : ∀ vs, BOut vs (bs.map (·.1)) → BOut vs (dueL ss ps nb) := fun vs hv => ⟨hv.1, hv.2.1, fun b => (hv.2.2 b).trans (hdue b)⟩
  refine bs_sorted F2 N2 rfl hB ?_ (by rw [List.length_map]; omega) (fun vs hvs => Nat.lt_of_le_of_lt (bout_length (hout2 vs hvs)) hsm) fun D1 h3 tk3 d3 vs1 n1 F3 N3 hD1 hout1 hris1 => ?_
  · intro e
    have := congrArg List.length e
    rw [List.length_map, hbl] at this
    have := Nat.two_pow_pos ps.length
    simp only [List.length_nil] at *
    omega
  dsimp only
  k_steps
  have hmem : ∀ q ∈ [(su, W.listOf ss.toArray nsu), (un, W.listOf us2.toArray nun)], q ∈ (D1, W.listOf vs1.toArray n1) :: (li, W.listOf (bs.map bv).toArray nli) :: (lm, W.listOf ym.toArray nlm) :: (ledM L' su un x dx kd ld ud odc od ok ol ss us us2 nsu nun nu tl ++ dl) := by
    simp only [ledM, List.cons_append, List.nil_append]
    k_allIn
  have hcall := due_call w su un ss us2 nsu nun ps (by omega) (by omega) (by omega) H.hO H.hS (by rw [hss]; exact H.hin) hunne
  have hblS : Stop (bs.length = 2 ^ ps.length) := hbl
  clear hbl
  refine hcall.use B F3 X T N3 rfl (by omega) (by omega) hmem (hTt2 h3 (news_tl N3)) ?_
  rintro r mine' h4 tk4 d4 F4 hN hfr hR ⟨D2, vs2, n2, rfl, hout, hris2, rfl⟩
  rw [hss] at hout
  have N4 := news_same N3 hmem (fun q hq => .tail _ hq) hN
  have N5 : News g L' h4 ((D2, W.listOf vs2.toArray n2) :: (D1, W.listOf vs1.toArray n1) :: (li, W.listOf (bs.map bv).toArray nli) :: (lm, W.listOf ym.toArray nlm) :: (ledM L' su un x dx kd ld ud odc od ok ol ss us us2 nsu nun nu tl ++ dl)) := fun q hq => by
    rcases List.mem_cons.mp hq with rfl | hq
    · exact hN [(D2, W.listOf vs2.toArray n2)] (fun q hq => .inl (by rw [List.mem_singleton.mp hq]; exact .head _)) _ (.head _)
    · exact N4 q hq
  clear F2 N2 N3 N4 F3 hN hfr hR hB
  have hperm : (vs1.map octOf).Perm (vs2.map octOf) := (List.perm_ext_iff_of_nodup hout1.2.1 hout.2.1).mpr fun b => ((hout2 vs1 hout1).2.2 b).trans (hout.2.2 b).symm
  have heq := rising_eq hris1 hris2 hperm
  dsimp only
  k_steps
  refine bs_ne (News.isList N5 (.tail _ (.head _))) (News.isList N5 (.head _)) hout1.1 hout.1 heq (by show un' < cLine; omega) ?_
  replace N5 := news_tl (news_tl N5)
  clear hout hout1 heq hperm hris1 hris2 hdue hsm hTt2
  k_steps
  have Nt := N5
  simp only [ledM, diskL, List.cons_append, List.nil_append] at N5
  refine len_K N5 (vs := bs.map bv) (.head _) (by rw [List.length_map]; omega) ?_
  have hlb : ((bs.map bv).length : Int) = (2 : Int) ^ ps.length := by
    rw [List.length_map, show bs.length = 2 ^ ps.length from hblS]
    exact Int.natCast_pow 2 ps.length
  rw [hlb]
  k_steps
  · rename (_ ≠ _) => hne
    exact absurd (by rw [hul2, Int.toNat_natCast]) hne
  · delta Stop
    exact next _ _ _ F4 Nt

theorem off_S44 : True := by
  w_top off
  trivial
set_option pp.deepTerms false
set_option pp.deepTerms.threshold 8
local macro_rules | `(tactic| walk_at "compareOp NotEq bytes bytes") => `(tactic| (refine stop_here ?_))
local macro_rules | `(tactic| walk_at "execs cons") => `(tactic| ((with_reducible show wpAny _ _ (execs (Stmt.For (Expr.Tuple _ _ _) _ _ _ _ :: _) _) _ _ _); (refine stop_here ?_)))
theorem item_last {prog : Program} {w : World} {A : Around} {E : Value → Shared → Prop} {s : Shared} {value slice : PySem.Expr} {l : Addr} {vs : List Value} {u : Tok} {x : Value} {Q : Value → Shared → Prop} (hl : s.heap.IsList l (vs ++ [x]).toArray)
    (h : Q x s)
    (hs : subscripted slice false (.ref l) (.int (-1) u) = operate [.ref l, .int (-1) u] (getItem (.ref l) (.int (-1) u)) := by with_unfolding_all rfl) :
    wpAny (model prog w) A (subscriptTail value slice (.ref l) (.int (-1) u)) Q E s :=
  tail_any hl.typeIs slot_list_getitem.lookup (wpAny_getItem_list_neg hl (by decide) (by simp; omega) (by decide) (by
    have e : (-1 + ((vs ++ [x]).toArray.size : Int)).toNat = vs.length := by simp; omega
    rw [e]
    simp) h) hs
set_option maxHeartbeats 800000 in
theorem segF (w : World) {p : Program} {loose : List Str} {mean : ExcName → Option Value} {mg mb : Str → Option Value} {dp un' : Nat} {gd : Option (List Code)} {outer : List Env} {A₀ : Around} {base g : Heap} {L' f : Addr} {cdv : Value} {gns : Array GenState} {os : OsState}
    (hdp : dp + 100 < recursionLimit + 1) (hun : un' + 600 < cLine + 3) (B : Below A₀ base outer g) (X : (hd.heap_1 w.params).In g) (T : Top p loose mean mg mb g)
    {h : Heap} {dr : Drawn} {tk : Nat} {m : Str → Option Value} {pen su un x dx kd ld ud S40 lm nlm li nli : Nat} {opc odc po od ok ol : Obj} {vs40 ss us us2 ym : List Value} {ns40 : List Int} {nb n40 nsu nun nu t : Nat} {wr fl : Int} {kk lk ps : List (Int × Value)} {tl dl : List (Addr × Obj)} {bs : List (Array UInt8 × Tok)}
    (ht : t ≤ 6) (F : Fr g L' h m) (hm : m (Str.ofString "sure") = some (.ref su)) (hm' : m (Str.ofString "unsure") = some (.ref un)) (hm'' : m (Str.ofString "images") = some (.ref li))
    (N : News g L' h ((li, W.listOf (bs.map bv).toArray nli) :: (lm, W.listOf ym.toArray nlm) :: (ledM L' su un x dx kd ld ud odc od ok ol ss us us2 nsu nun nu tl ++ dl)))
    (H : LawSt w L' pen su un x dx kd ld ud S40 opc odc po od ok ol vs40 ss us us2 ns40 nb wr fl kk lk ps tl t) (hbs : bs.map (·.1) = (chs ps.length).map fun c => pic (puts kk (pick c ps)) nb)
    (next : ∀ (h : Heap) (dr : Drawn) (tk : Nat),
      Fr g L' h (fun y => if y = Str.ofString "sure" then some (.ref su) else if y = Str.ofString "unsure" then some (.ref un) else if y = Str.ofString "images" then some (.ref li) else m y) →
      News g L' h ((li, W.listOf (bs.map bv).toArray nli) :: (lm, W.listOf ym.toArray nlm) :: (ledM L' su un x dx kd ld ud odc od ok ol ss us us2 nsu nun nu tl ++ dl)) → LawRun 11 w dp un' gd outer L' f cdv g gns os h dr tk) :
    LawRun 10 w dp un' gd outer L' f cdv g gns os h dr tk := by
  unfold LawRun
  revert X
  k_fill
  intro X
  show wpAny _ (ktrTop _ _ _ _ (Scope.mk _ _ _ _ _) _ _ _ (cellsFrom _ (_ :: _) _) _) (execs (_ :: _) (envOfC _ (Scope.mk _ _ _ _ _) _ _ _)) _ _ _
  rw [m_at3 hm hm' hm''] at F
  (try dsimp only)
  (try k_fold)
  refine wpAny_execs_cons ?_
  have hps := H.hps
  have nb2 := H.nb2
  have nb3 := H.nb3
  have hss := H.hss
  have hdc := H.hodc
  have hnn : ∀ p ∈ ps, 0 ≤ p.1 := fun p hp => (H.hin p hp).1
  have htm : ∀ q ∈ tl, q ∈ (li, W.listOf (bs.map bv).toArray nli) :: (lm, W.listOf ym.toArray nlm) :: (ledM L' su un x dx kd ld ud odc od ok ol ss us us2 nsu nun nu tl ++ dl) := fun q hq => .tail _ (.tail _ (List.mem_append_left _ (.tail _ (.tail _ (.tail _ (List.mem_append_right _ hq))))))
  have hunne : @Ne Nat su un := by
    have a4 := H.a4
    have a5 := H.a5
    obtain ⟨b1, b2, b3, b4, b5, b6, b7, b8⟩ := id H.hA
    omega
  -- the first and the last image
  obtain ⟨p0, r0, e0, q0⟩ : ∃ p0 r0, bs = p0 :: r0 ∧ p0.1 = cat (ss.map octOf) := by
    obtain ⟨r, e⟩ := chs_first ps.length
    rw [e] at hbs
    match bs, hbs with
    | p0 :: r0, hbs =>
      refine ⟨p0, r0, rfl, ?_⟩
      have := (List.cons.inj hbs).1
      dsimp only at this
      rw [this, pick_nil]
      exact pic_eq H.bk hss
  obtain ⟨r1, p1, e1, q1⟩ : ∃ r1 p1, bs = r1 ++ [p1] ∧ p1.1 = cat ((setsL ss ps).map octOf) := by
    obtain ⟨r, e⟩ := chs_last ps.length
    rw [e, List.map_append] at hbs
    obtain ⟨l1, l2, rfl, h1, h2⟩ := List.map_eq_append_iff.mp hbs
    obtain ⟨p1, l3, rfl, h3, h4⟩ := List.map_eq_cons_iff.mp h2
    rw [List.map_eq_nil_iff.mp h4]
    refine ⟨l1, p1, rfl, ?_⟩
    rw [h3]
    show pic (puts kk (pick _ ps)) nb = _
    rw [pick_all]
    refine pic_eq (fun j hj => ?_) ((setsL_length _ _).trans hss)
    rw [blk_puts H.hO hnn, sets_last (by rw [hss]; exact hj) hnn, H.bk j hj]
  have hlast : cat ((setsL ss ps).map octOf) = pic lk nb := (pic_eq (fun j hj => H.bl j hj) ((setsL_length _ _).trans hss)).symm
  obtain ⟨sb, hsb, hsb2, hsb3⟩ := octs_bv H.hS
  have hsbl : sb.length = nb := by rw [← hss, hsb, List.length_map]
  have hli : ∀ h : Heap, News g L' h ((li, W.listOf (bs.map bv).toArray nli) :: (lm, W.listOf ym.toArray nlm) :: (ledM L' su un x dx kd ld ud odc od ok ol ss us us2 nsu nun nu tl ++ dl)) → h.IsList li (r1.map bv ++ [bv p1]).toArray := fun h N => by
    have := News.isList N (.head _)
    rw [e1, List.map_append] at this
    exact this
  have hmem : ∀ q ∈ [(su, W.listOf ss.toArray nsu), (un, W.listOf us2.toArray nun)], q ∈ (li, W.listOf (bs.map bv).toArray nli) :: (lm, W.listOf ym.toArray nlm) :: (ledM L' su un x dx kd ld ud odc od ok ol ss us us2 nsu nun nu tl ++ dl) := by
    simp only [ledM, List.cons_append, List.nil_append]
    k_allIn
  have hmemD : ∀ q ∈ diskL x dx kd ld ud od ok ol (W.listOf us.toArray nu), q ∈ (li, W.listOf (bs.map bv).toArray nli) :: (lm, W.listOf ym.toArray nlm) :: (ledM L' su un x dx kd ld ud odc od ok ol ss us us2 nsu nun nu tl ++ dl) := fun q hq => .tail _ (.tail _ (List.mem_append_left _ (.tail _ (.tail _ (.tail _ (List.mem_append_left _ hq))))))
  have hD := H.hD
  have Nt := N
  simp only [ledM, diskL, List.cons_append, List.nil_append] at N
  k_steps
  refine item_at (x := bv p0) (vs := bs.map bv) (News.isList Nt (.head _)) (by omega) (by omega) (by rw [e0]; rfl) ?_
  k_steps
  refine call_join (o := W.listOf ss.toArray nsu) (n := nsu) (bs := sb) (N (su, W.listOf ss.toArray nsu) (by k_memK)).1 rfl (by rw [hsb]) (by omega) (by omega) fun t' k => ?_
  rw [hsb2]
  k_steps
  refine bytes_ne_same q0 ?_
  k_steps
  refine item_last (hli _ Nt) ?_
  k_steps
  have hTt2 : Tups h us2 ps := H.hT2 h fun q hq => (Nt q (htm q hq)).1
  refine (shown_call w su un ss us2 nsu nun ps (by omega) (by omega) (by omega) H.hO H.hS (by rw [hss]; exact H.hin) hunne).use B F X T Nt rfl (by omega) (by omega) hmem hTt2 ?_
  rintro r mine' h' tk' F4 hN hfr hR ⟨⟨t2', rfl⟩, rfl⟩
  replace Nt := news_same Nt hmem (fun q hq => hq) hN
  clear hN hfr hR N F hTt2
  have N := Nt
  simp only [ledM, diskL, List.cons_append, List.nil_append] at N
  dsimp only
  k_steps
  refine bytes_ne_same q1 ?_
  k_steps
  refine (image_call w x dx kd ld ud od ok ol (W.listOf us.toArray nu) nb wr fl lk hD H.hl H.hA (by omega) (by omega) H.lO).use B F4 X T Nt rfl (by omega) (by omega) hmemD trivial ?_
  rintro r mine' h' tk' F5 hN hfr hR ⟨⟨t3', rfl⟩, rfl⟩
  replace Nt := news_same Nt hmemD (fun q hq => hq) hN
  clear hN hfr hR N F4
  have N := Nt
  simp only [ledM, diskL, List.cons_append, List.nil_append] at N
  dsimp only
  k_steps
  refine item_last (hli _ Nt) ?_
  k_steps
  refine bytes_ne_same (hlast.symm.trans q1.symm) ?_
  k_steps
  delta Stop
  exact next _ _ _ F5 Nt

theorem off_S45 : True := by
  w_top off
  trivial
set_option pp.deepTerms false
set_option pp.deepTerms.threshold 8
local macro_rules | `(tactic| walk_at "call type:zip") => `(tactic| (refine stop_here ?_))
theorem Disks.uncons {w : World} {nb : Int} {dl : List (Addr × Obj)} {v : Value} {ys : List Value} {kvs : List (List (Int × Value))} (H : Disks w nb dl (v :: ys) kvs) : ∃ x dx kd ld ud od ok ol kv dl' kvs', v = .ref x ∧ kvs = kv :: kvs' ∧ dl = diskL x dx kd ld ud od ok ol (W.listOf #[] 0) ++ dl' ∧
    DiskD w.params od nb kd ld ud 0 0 ∧ IntDict w ok kv ∧ IntDict w ol kv ∧ DiskA x dx kd ld ud ∧ Octs kv ∧ kv.length ≤ 50 ∧ (∀ q ∈ dl', q.1 ∉ [x, dx, kd, ld, ud]) ∧ Disks w nb dl' ys kvs' := by
  cases H with
  | cons a b c d e f g h => exact ⟨_, _, _, _, _, _, _, _, _, _, _, rfl, rfl, rfl, a, b, c, d, e, f, g, h⟩
theorem keep_next {mine mine' keep news : List (Addr × Obj)} (hk : ∀ q ∈ keep, q.1 ∉ mine.map (·.1)) (hs : ∀ q ∈ keep, q ∈ news) (hfr : ∀ q ∈ mine', ∀ q' ∈ news, q.1 = q'.1 → q.1 ∈ mine.map (·.1)) : ∀ q ∈ keep, q.1 ∉ mine'.map (·.1) := fun q hq hm => by
  obtain ⟨p, hp, e⟩ := List.mem_map.mp hm
  exact hk q hq (e ▸ hfr p hp q (hs q hq) e)
theorem news_next {h₀ h' : Heap} {L : Addr} {mine mine' keep news : List (Addr × Obj)} (hk : ∀ q ∈ keep, q.1 ∉ mine.map (·.1)) (hs : ∀ q ∈ keep, q ∈ news)
    (hN : ∀ news' : List (Addr × Obj), (∀ q ∈ news', q ∈ mine' ∨ (q ∈ news ∧ q.1 ∉ mine.map (·.1))) → News h₀ L h' news') : News h₀ L h' (mine' ++ keep) := hN _ fun q hq => by
  rcases List.mem_append.mp hq with hq | hq
  · exact .inl hq
  · exact .inr ⟨hs q hq, hk q hq⟩
set_option maxHeartbeats 800000 in
theorem segG (w : World) {p : Program} {loose : List Str} {mean : ExcName → Option Value} {mg mb : Str → Option Value} {dp un' : Nat} {gd : Option (List Code)} {outer : List Env} {A₀ : Around} {base g : Heap} {L' f : Addr} {cdv : Value} {gns : Array GenState} {os : OsState}
    (hdp : dp + 100 < recursionLimit + 1) (hun : un' + 600 < cLine + 3) (B : Below A₀ base outer g) (X : (hd.heap_1 w.params).In g) (T : Top p loose mean mg mb g)
    {h : Heap} {dr : Drawn} {tk : Nat} {m : Str → Option Value} {lm nlm li nli nb : Nat} (nb2 : 2 ≤ nb) (nb3 : nb ≤ 3) {dl : List (Addr × Obj)} {ym : List Value} {kvs : List (List (Int × Value))} {bs : List (Array UInt8 × Tok)}
    (F : Fr g L' h m) (hm : m (Str.ofString "made") = some (.ref lm)) (hm' : m (Str.ofString "images") = some (.ref li)) (N : News g L' h ((li, W.listOf (bs.map bv).toArray nli) :: (lm, W.listOf ym.toArray nlm) :: dl))
    (hDl : Disks w nb dl ym kvs) (hbs : bs.map (·.1) = kvs.map fun kv => pic kv nb) (hlm : ∀ q ∈ dl, @Ne Nat q.1 lm) (hli : ∀ q ∈ dl, @Ne Nat q.1 li) (hll : @Ne Nat lm li) (hkn : kvs.length ≤ 64) :
    LawRun 11 w dp un' gd outer L' f cdv g gns os h dr tk := by
  unfold LawRun
  revert X
  k_fill
  intro X
  show wpAny _ (ktrTop _ _ _ _ (Scope.mk _ _ _ _ _) _ _ _ (cellsFrom _ (_ :: _) _) _) (execs (_ :: _) (envOfC _ (Scope.mk _ _ _ _ _) _ _ _)) _ _ _
  rw [m_at2 hm hm'] at F
  (try dsimp only)
  (try k_fold)
  refine wpAny_execs_cons ?_
  have hyl := hDl.length
  have hbl : bs.length = kvs.length := by
    have := congrArg List.length hbs
    rwa [List.length_map, List.length_map] at this
  refine For_Z (h₀ := g) rfl ?_
  k_steps
  refine zip_K F N (.tail _ (.head _)) (.head _) fun z TI TO i1 i2 h1 F1 N1 D st hnew hne0 => ?_
  refine ⟨z, TI, TO, i1, i2, lm, li, ym.toArray, (bs.map bv).toArray, _, _, fun i m news => ∃ dl', Disks w nb dl' (ym.drop i) (kvs.drop i) ∧ (∀ q ∈ dl', (@Ne Nat q.1 lm) ∧ @Ne Nat q.1 li) ∧ news = (li, W.listOf (bs.map bv).toArray nli) :: (lm, W.listOf ym.toArray nlm) :: dl',
    rfl, D, st, by simp; omega, hnew, hne0, F1, N1, ⟨dl, hDl, fun q hq => ⟨hlm q hq, hli q hq⟩, rfl⟩, ?_, ?_, ?_⟩
  · rintro i m' news' h' ⟨dl', _, _, rfl⟩ F N
    exact ⟨News.isList N (.tail _ (.head _)), News.isList N (.head _)⟩
  · rintro i xv yv m₁ news₁ h tk tT oz o1 o2 o3 o4 hx hy ⟨dl', hD', hap, rfl⟩ hne hT F N Qt hQt
    obtain ⟨hi, ex⟩ := List.getElem?_eq_some_iff.mp (show ym[i]? = some xv by simpa using hx)
    rw [List.drop_eq_getElem_cons hi, ex] at hD'
    obtain ⟨x, dx, kd, ld, ud, od, ok, ol, kv, dl2, kvs2, rfl, ekv, rfl, hDd, hk, hl, hA, hO, hkl, hdis, hrest⟩ := hD'.uncons
    obtain ⟨⟨b1, t1⟩, hb1, rfl⟩ : ∃ q, bs[i]? = some q ∧ bv q = yv := by simpa using hy
    have ekv2 : kvs[i]? = some kv ∧ kvs.drop (i + 1) = kvs2 := by
      have hi2 : i < kvs.length := by omega
      rw [List.drop_eq_getElem_cons hi2] at ekv
      obtain ⟨e1, e2⟩ := List.cons.inj ekv
      exact ⟨by rw [List.getElem?_eq_getElem hi2, e1], e2⟩
    have hpic : b1 = pic kv nb := by
      have := congrArg (fun l => l[i]?) hbs
      simp only [List.getElem?_map, hb1, ekv2.1, Option.map_some] at this
      exact Option.some.inj this
    rw [← ekv2.2] at hrest
    obtain ⟨i251, i252, i253, i254⟩ := hA.inner
    obtain ⟨a1, a2, a3, a4, a5, a6, a7, a8⟩ := id hA
    have hk0 : ∀ q ∈ [(z, oz), (TI, o1), (TO, o2), (i1, o3), (i2, o4), (li, W.listOf (bs.map bv).toArray nli), (lm, W.listOf ym.toArray nlm)] ++ dl2, q.1 ∉ (diskL x dx kd ld ud od ok ol (W.listOf #[] 0)).map (·.1) := fun q hq hm => by
      obtain ⟨p, hp, e⟩ := List.mem_map.mp hm
      rcases List.mem_append.mp hq with hq | hq
      · have hpn := hne p (.tail _ (.tail _ (List.mem_append_left _ hp)))
        have hpa := hap p (List.mem_append_left _ hp)
        simp only [List.mem_cons, List.not_mem_nil, or_false] at hq
        rcases hq with rfl | rfl | rfl | rfl | rfl | rfl | rfl
        · exact hpn (by rw [e]; simp)
        · exact hpn (by rw [e]; simp)
        · exact hpn (by rw [e]; simp)
        · exact hpn (by rw [e]; simp)
        · exact hpn (by rw [e]; simp)
        · exact hpa.2 e
        · exact hpa.1 e
      · exact hdis q hq hm
    simp only [diskL, List.cons_append, List.nil_append] at N
    refine unpackN_ F N (News.isTup N (by k_mem)) rfl rfl rfl fun h' F' N' => ?_
    clear F N
    k_steps
    rename Fr _ _ _ _ => F2
    rename News _ _ _ _ => N2
    obtain ⟨kp, hkp⟩ : ∃ kp, kp = [(z, oz), (TI, o1), (TO, o2), (i1, o3), (i2, o4), (li, W.listOf (bs.map bv).toArray nli), (lm, W.listOf ym.toArray nlm)] ++ dl2 := ⟨_, rfl⟩
    rw [← hkp] at hk0
    have Nt := news_sub (new := diskL x dx kd ld ud od ok ol (W.listOf #[] 0) ++ kp) N2 (fun q hq => by
      have hq : q ∈ diskL x dx kd ld ud od ok ol (W.listOf #[] 0) ++ ([(z, oz), (TI, o1), (TO, o2), (i1, o3), (i2, o4), (li, W.listOf (bs.map bv).toArray nli), (lm, W.listOf ym.toArray nlm)] ++ dl2) := by rw [← hkp]; exact hq
      show q ∈ (tT, _) :: ([(z, oz), (TI, o1), (TO, o2), (i1, o3), (i2, o4), (li, W.listOf (bs.map bv).toArray nli), (lm, W.listOf ym.toArray nlm)] ++ (diskL x dx kd ld ud od ok ol (W.listOf #[] 0) ++ dl2))
      rcases List.mem_append.mp hq with hq | hq
      · exact .tail _ (List.mem_append_right _ (List.mem_append_left _ hq))
      rcases List.mem_append.mp hq with hq | hq
      · exact .tail _ (List.mem_append_left _ hq)
      · exact .tail _ (List.mem_append_right _ (List.mem_append_right _ hq)))
    clear N2
    refine (flush_call w x dx kd ld ud od ok ol [] 0 nb 0 0 kv kv [] hDd hk hl hA (by omega) (by omega) (by omega) (Nat.zero_le _) (fun p hp => nomatch hp)).use B F2 X T Nt rfl (by omega) (by omega) (fun q hq => List.mem_append_left _ hq) .nil ?_
    rintro r mine' h3 tk3 F3 hN hfr hR ⟨ud', od', ok', rfl, hD3, hk3, hA3, hud, rfl⟩
    replace hk3 : IntDict w ok' kv := hk3
    have hk1 := keep_next hk0 (fun q hq => List.mem_append_right _ hq) hfr
    have N3 := news_next hk0 (fun q hq => List.mem_append_right _ hq) hN
    clear hN hfr hR Nt F2
    obtain ⟨c1, c2, c3, c4, c5, c6, c7, c8⟩ := id hA3
    have N := N3
    rw [hkp] at N
    simp only [diskL, List.cons_append, List.nil_append] at N
    clear N3
    dsimp only
    k_steps
    refine wpAny_execs_cons ?_
    k_steps
    rename Fr _ _ _ _ => F4
    rename News _ _ _ _ => N4
    rename_i E h4 lE
    have NE : h4.IsList E ([] : List Value).toArray := News.isList N4 (.head _)
    have hE : E ∉ [x, dx, kd, ld, ud'] := by
      refine NeAll.out ?_
      simp only [NeAll, and_true]
      repeat' apply And.intro
      all_goals (first | k_ne | omega)
    have Nt := news_sub (new := diskL x dx kd ld ud' od' ok' ol (W.listOf #[] 0) ++ kp) N4 (fun q hq => by
      have hq : q ∈ diskL x dx kd ld ud' od' ok' ol (W.listOf #[] 0) ++ ([(z, oz), (TI, o1), (TO, o2), (i1, o3), (i2, o4), (li, W.listOf (bs.map bv).toArray nli), (lm, W.listOf ym.toArray nlm)] ++ dl2) := by rw [← hkp]; exact hq
      exact .tail _ hq)
    clear N4
    try clear N
    try clear F3
    refine (after_call w x dx kd ld ud' E od' ok' ol [] [] [] 0 nb 0 (0 + 1) kv [] hD3 hk3 hl hA3 (by omega) (by omega) (by omega) (Nat.zero_le _) (fun p hp => absurd hp List.not_mem_nil) hE .nil (fun n hn => absurd hn List.not_mem_nil)).use B F4 X T Nt rfl (by omega) (by omega) (fun q hq => List.mem_append_left _ hq) ⟨.nil, NE⟩ ?_
    rintro r mine' h5 tk5 F5 hN hfr hR ⟨x2, dx2, kd2, ld2, ud2, od4, od2, ok2, ol2, rfl, hD4, hD2, hk2, hl2, hA2, hlt, rfl⟩
    have hk3' := keep_next hk1 (fun q hq => List.mem_append_right _ hq) hfr
    replace Nt := news_next hk1 (fun q hq => List.mem_append_right _ hq) hN
    clear hN hfr hR F4 NE
    rw [pick_nil] at hk2 hl2
    replace hl2 : IntDict w ol2 kv := hl2
    have hm2 : ∀ q ∈ diskL x2 dx2 kd2 ld2 ud2 od2 ok2 ol2 (W.listOf #[] 0), q ∈ (diskL x2 dx2 kd2 ld2 ud2 od2 ok2 ol2 (W.listOf #[] 0) ++ diskL x dx kd ld ud' od4 ok' ol (W.listOf ([] : List Value).toArray 0)) ++ kp := fun q hq => List.mem_append_left _ (List.mem_append_left _ hq)
    have hm1 : ∀ q ∈ diskL x dx kd ld ud' od4 ok' ol (W.listOf ([] : List Value).toArray 0), q ∈ (diskL x2 dx2 kd2 ld2 ud2 od2 ok2 ol2 (W.listOf #[] 0) ++ diskL x dx kd ld ud' od4 ok' ol (W.listOf ([] : List Value).toArray 0)) ++ kp := fun q hq => List.mem_append_left _ (List.mem_append_right _ hq)
    have N := news_sub (new := [(x2, instObj 177 dx2), (dx2, od2)]) Nt (fun q hq => hm2 q (by
      simp only [List.mem_cons, List.not_mem_nil, or_false] at hq
      rcases hq with rfl | rfl
      · exact .head _
      · exact .tail _ (.head _)))
    dsimp only
    k_steps
    try clear N
    refine (image_call w x2 dx2 kd2 ld2 ud2 od2 ok2 ol2 (W.listOf #[] 0) nb 0 0 kv hD2 hl2 hA2 (by omega) (by omega) hO).use B F5 X T Nt rfl (by omega) (by omega) hm2 trivial ?_
    rintro r mine' h6 tk6 F6 hN hfr hR ⟨⟨t6, rfl⟩, rfl⟩
    replace Nt := news_same Nt hm2 (fun q hq => hq) hN
    clear hN hfr hR F5
    have N := news_sub (new := [(x, instObj 177 dx), (dx, od4)]) Nt (fun q hq => hm1 q (by
      simp only [List.mem_cons, List.not_mem_nil, or_false] at hq
      rcases hq with rfl | rfl
      · exact .head _
      · exact .tail _ (.head _)))
    dsimp only
    k_steps
    refine bytes_ne_same hpic.symm ?_
    k_steps
    try clear N
    refine (image_call w x dx kd ld ud' od4 ok' ol (W.listOf ([] : List Value).toArray 0) nb 0 (0 + 1) kv hD4 hl hA3 (by omega) (by omega) hO).use B F6 X T Nt rfl (by omega) (by omega) hm1 trivial ?_
    rintro r mine' h7 tk7 F7 hN hfr hR ⟨⟨t7, rfl⟩, rfl⟩
    replace Nt := news_same Nt hm1 (fun q hq => hq) hN
    clear hN hfr hR F6
    have N := news_sub (new := kp) Nt (fun q hq => List.mem_append_right _ hq)
    dsimp only
    k_steps
    refine bytes_ne_same hpic.symm ?_
    k_steps
    rw [hkp] at N
    refine TurnEndZ.out hQt (news' := (li, W.listOf (bs.map bv).toArray nli) :: (lm, W.listOf ym.toArray nlm) :: dl2) F7 N (fun q hq => ?_) ⟨dl2, hrest, fun q hq => hap q (List.mem_append_right _ hq), rfl⟩
    refine hne q ?_
    rcases List.mem_cons.mp hq with rfl | hq
    · exact .head _
    rcases List.mem_cons.mp hq with rfl | hq
    · exact .tail _ (.head _)
    · exact .tail _ (.tail _ (List.mem_append_right _ hq))
  · rintro m' news' h' tk ⟨dl', _, _, rfl⟩ F N
    k_steps
    show LawEnd g L' gns os _ _
    exact ⟨rfl, _, _, _, _, rfl, F⟩

theorem off_S46 : True := by
  w_top off
  trivial
theorem law_run (w : World) {p : Program} {loose : List Str} {mean : ExcName → Option Value} {mg mb : Str → Option Value} {dp un' : Nat} {gd : Option (List Code)} {outer : List Env} {A₀ : Around} {base g : Heap} {L' f : Addr} {cdv : Value} {gns : Array GenState} {os : OsState}
    (hdp : dp + 100 < recursionLimit + 1) (hun : un' + 600 < cLine + 3) (B : Below A₀ base outer g) (X : (hd.heap_1 w.params).In g) (T : Top p loose mean mg mb g)
    {S : Addr} {vs : List Value} {ns : List Int} (hS : g.IsList S vs.toArray) (hi : IntsAre vs ns) (hlen : ns.length ≤ 63)
    {h : Heap} {dr : Drawn} {tk : Nat} {m : Str → Option Value} {opc odc : Obj} {v1 v2 : Option Value} (F : Fr g L' h m) (hm : m (Str.ofString "script") = some (.ref S)) (N : News g L' h [(L' + 1, opc), (L' + 1 + 1, odc)]) (hopc : opc.data = .cell v1) (hodc : odc.data = .cell v2) :
    LawRun 0 w dp un' gd outer L' f cdv g gns os h dr tk := by
  refine segA w hdp hun B X T hS hi hlen F hm N hopc hodc ?_
  intro h dr tk m pen su un x dx kd ld ud S40 opc odc po od ok ol vs40 ss us us2 ns40 nb n40 nsu nun nu wr fl kk lk ps tl F hm hm' hm'' N H
  refine segB w hdp hun B X T hS hi hlen F hm hm' hm'' N H ?_
  intro h dr tk m ud po od ok ol ss us us2 nsu nun nu wr fl kk lk ps tl t ht F hm hm' N H
  refine segC w hdp hun B X T ht F hm hm' N H ?_
  intro h tk m od lm nlm dl ym F hm hm' hm'' N H hD hlm
  have hkn : ((chs ps.length).map fun c => puts kk (pick c ps)).length ≤ 64 := by
    rw [List.length_map]
    have := H.hps
    exact chs_small (by omega)
  refine segD w hdp hun B X T H.nb2 H.nb3 F hm hm' hm'' N hD hkn hlm ?_
  intro h tk m li nli bs F hm hm' hmd hmi N hbs hli hll
  have hbs' : bs.map (·.1) = (chs ps.length).map fun c => pic (puts kk (pick c ps)) nb := by
    rw [hbs, List.map_map]
    rfl
  refine segE (n40 := n40) w hdp hun B X T ht F hm hm' hmi N H hbs' ?_
  intro h dr tk F N
  refine segF (n40 := n40) w hdp hun B X T ht F rfl rfl rfl N H hbs' ?_
  intro h dr tk F N
  refine segG (nlm := nlm) (nli := nli) w hdp hun B X T H.nb2 H.nb3 F hmd rfl (news_sub N fun q hq => ?_) hD hbs hlm hli hll hkn
  rcases List.mem_cons.mp hq with rfl | hq
  · exact .head _
  rcases List.mem_cons.mp hq with rfl | hq
  · exact .tail _ (.head _)
  · exact .tail _ (.tail _ (List.mem_append_right _ hq))

theorem off_S47 : True := by
  w_top off
  trivial
set_option pp.deepTerms false
set_option pp.deepTerms.threshold 6
theorem law_top (w : World) {p : Program} {loose : List Str} {mean : ExcName → Option Value} {mg mb : Str → Option Value} {g : Heap} {f : Addr} {cdv : Value} {gns : Array GenState} {os : OsState}
    (B : Below callerA g [] g) (X : (hd.heap_1 w.params).In g) (T : Top p loose mean mg mb g)
    {S : Addr} {vs : List Value} {ns : List Int} (hS : g.IsList S vs.toArray) (hi : IntsAre vs ns) (hlen : ns.length ≤ 63)
    {h : Heap} {dr : Drawn} {tk : Nat} {m : Str → Option Value} {opc odc : Obj} {v1 v2 : Option Value} (F : Fr g g.objs.size h m) (hm : m (Str.ofString "script") = some (.ref S)) (N : News g g.objs.size h [(g.objs.size + 1, opc), (g.objs.size + 1 + 1, odc)]) (hopc : opc.data = .cell v1) (hodc : odc.data = .cell v2) :
    wpAny (model PySem.Challenge.rw_pf0215_01.row.prog w) (callerA.deeper (envOfC (Str.ofString "law") lawScope g.objs.size f cdv)) (execs lawBody (envOfC (Str.ofString "law") lawScope g.objs.size f cdv)) (LawEnd g g.objs.size gns os) (fun _ _ => False) { heap := h, gens := gns, drawn := dr, toks := tk, os := os } := by
  have key : LawRun 0 w (1 + claimMargin + 1) (4 + 3) (some []) [] g.objs.size f cdv g gns os h dr tk := law_run w (by decide +kernel) (by have := cLine_is; omega) B X T hS hi hlen F hm N hopc hodc
  exact key
-- the kit's line would lay a twin of the whole program here
 local macro_rules | `(tactic| k_qdec) => `(tactic| decide +kernel)
set_option maxHeartbeats 4000000 in
theorem law_holds : PySem.Challenge.rw_pf0215_01.Holds := hd (by
  k_go0
  rename_i h₁ tk₁ F wd wp dpn dpd N Y
  rename IntsAre _ _ => hI
  rename Heap.IsList _ _ _ => hL
  rename Below _ _ _ _ => K0
  rename Frag.In _ _ => KX
  rename Top _ _ _ _ _ _ => T
  rename (¬ _ < _) => hc
  rename (_ = #[]) => hg
  rename World => w
  refine wpAny_mono (law_top w K0 KX T hL hI (by omega) F rfl (news_sub N (by k_allIn)) dpd dpn) (fun fl s' he => ?_) fun _ _ e => e.elim
  obtain ⟨rfl, h', m', tk', dr', rfl, F'⟩ := he
  refine goodW_bool F' hg (by intro _; rfl) ?_
  wrow_post)

end Mine
set_option maxRecDepth 100000 in
theorem PySem.Challenge.cw_pf0215_01_holds : PySem.Challenge.rw_pf0215_01.Holds :=
  Mine.law_holds
