import PyProof.Rows.All
import Wide.All
import OpenK.AllK
import Wide.FinOn
import PySem.Challenge.RW_or0054_01
open PySem PySem.Spec PySem.Calls PyProof.Rows PySem.W
set_option Elab.async false
set_option maxRecDepth 100000
set_option maxHeartbeats 4000000
set_option linter.all false
set_option compiler.extract_closed false
namespace Mine
/-- the top's run over the tree heap, by the library's quick twins of the step -/
noncomputable def runQ (p : Program) (w : World) (n₀ : Nat) (ann : Option Value) : Nat → SharedT → Thread → Option SharedT
  | 0, _, _ => none
  | n + 1, s, t => match through t with
    | true => some s
    | false => match PySem.W.Fast.tw6613529449190102663 n₀ ann t with
      | false => none
      | true => match PySem.W.Fast.tw10156331382660048174 (PySem.W.Fast.tw11892475500146522536 PySem.W.Fast.tw14364793385576792824) p w s t with
        | some (s', t') => runQ p w n₀ ann n s' t'
        | none => none
theorem runQ_step {p : Program} {w : World} {s : SharedT} {t : Thread} : PySem.W.Fast.tw10156331382660048174 (PySem.W.Fast.tw11892475500146522536 PySem.W.Fast.tw14364793385576792824) p w s t = stepT (denote treeTable) p w s t := by
  rw [← PySem.W.Fast.te10156331382660048174, ← PySem.W.Fast.te11892475500146522536, ← PySem.W.Fast.te14364793385576792824]
theorem runQ_top {p : Program} {w : World} {n₀ : Nat} {ann : Option Value} (n : Nat) : ∀ (s r : SharedT) (t : Thread), runQ p w n₀ ann n s t = some r → topRun treeTable p w n₀ ann n s.abs t = some r.abs := by
  induction n with
  | zero => intro s r t h; cases h
  | succ n ih =>
    intro s r t h
    rw [runQ, runQ_step, ← PySem.W.Fast.te6613529449190102663] at h
    rw [topRun]
    cases h1 : through t with
    | true => rw [h1] at h; exact congrArg (Option.map SharedT.abs) h
    | false =>
      cases h2 : stepOk n₀ ann t with
      | false => rw [h1, h2] at h; cases h
      | true =>
        rw [h1, h2] at h
        cases h3 : stepT (denote treeTable) p w s t with
        | none => rw [h3] at h; cases h
        | some x =>
          rw [h3] at h
          dsimp only
          rw [stepT_spec h3]
          exact ih _ _ _ h
def insAll : List Obj → Nat → BT → BT
  | [], _, t => t
  | o :: r, n, t => insAll r (n + 1) (t.ins n o)
noncomputable def bootT (P : Params) : BT := insAll (boot_heap P).objs.toList 0 BT.nil
theorem bootT_abs : ∀ P, absHeap (bootT P) 11 (boot_heap P).life = boot_heap P := fun P => by kernel_rfl
abbrev p9 : Program := PySem.Challenge.rw_or0054_01.row.toRowW.prog
theorem boot_ns (P : Params) : ((boot_heap P).isNs mainGlobals && (Array.mk [] : Array GenState).size == 0) = true := by kernel_rfl
theorem boot_ann (P : Params) : (boot_heap P).nsMap mainGlobals "__annotations__" = some (.ref 6) := by kernel_rfl
theorem ends_of {p : Program} {w : World} {N : Nat} {s₀ r : Shared} (e : fencedOpening treeTable p w N = some s₀) (h1 : (s₀.heap.isNs mainGlobals && s₀.gens.size == 0) = true)
    (t : topRun treeTable p w s₀.heap.objs.size (s₀.heap.nsMap mainGlobals "__annotations__") N s₀ (topStub p) = some r)
    (l : (staticsOk (importedModules p.main.body) s₀.heap r.heap && namesBound p r.heap && gensDone r && laidKept s₀.heap r.heap) = true) : openEnds treeTable p w N = some r := by
  unfold openEnds topFrom
  rw [e]
  simp only [Option.bind_some, h1, t, l]
/-- the state that the run starts in, behind the opening -/
noncomputable def s9 (w : World) (os : OsState) : SharedT := ⟨bootT w.params, 11, (boot_heap w.params).life, Array.mk [], boot_drawn, boot_toks, os⟩
theorem s9_abs (w : World) (os : OsState) : (s9 w os).abs = ⟨boot_heap w.params, Array.mk [], boot_drawn, boot_toks, os⟩ := by
  rw [s9, SharedT.abs, bootT_abs]
noncomputable def end9 (p : Program) (w : World) (N : Nat) (os : OsState) : Option SharedT := runQ p w 11 (some (.ref 6)) N (s9 w os) (topStub p)
theorem left_tree {p q : Program} {loose : List Str} {Xt : Shared → Bool} {α : Type} {Yf : Shared → α} {Ya : World → α} {N : Nat} (ho : opening p = plainProg p.main.scope.names) (hN : Nat.ble 600 N = true) (hf : ∀ s, fenceModules? p s = some s)
    (ra : ∀ w : World, (fun os => (end9 p w N os).map fun r => (staticsOk (importedModules p.main.body) (boot_heap w.params) r.abs.heap && namesBound p r.abs.heap && gensDone r.abs && laidKept (boot_heap w.params) r.abs.heap)) = fun _ => some true)
    (rb : ∀ w : World, (fun os => (end9 p w N os).map fun r => PySem.W.Fast.tw4187177175401517315 q loose (importedModules p.main.body) Xt true r.abs) = fun _ => some (openGood q loose))
    (rc : ∀ w : World, (fun os => (end9 p w N os).map fun r => Yf r.abs) = fun _ => some (Ya w)) : LeftO p q loose Xt Yf Ya N := by
  intro w
  obtain ⟨⟨hp, gs, dr, tk, os⟩, e, ev⟩ := Option.map_eq_some_iff.mp (boot_open ho hN hf w)
  simp only [Prod.mk.injEq] at ev
  obtain ⟨rfl, rfl, rfl, rfl⟩ := ev
  obtain ⟨r, hr, la⟩ := Option.map_eq_some_iff.mp (congrFun (ra w) os)
  have lb := congrFun (rb w) os
  have lc := congrFun (rc w) os
  rw [hr, Option.map_some, ← PySem.W.Fast.te4187177175401517315] at lb
  rw [hr, Option.map_some] at lc
  have t := runQ_top N _ _ _ hr
  rw [s9_abs, ← boot_ann w.params] at t
  rw [ends_of e (boot_ns w.params) t la, Option.map_some, Option.some.inj lb, Option.some.inj lc]
def view9 : Program := view PySem.Challenge.rw_or0054_01.row.toRowW.prog [1, 2, 4, 5, 6, 7, 8, 9, 10, 11, 12, 13, 14, 15, 16, 17, 18, 20, 21, 22, 23, 24, 25, 26, 27, 28, 29, 30, 32, 33, 34, 35, 36]
theorem law_said : PySem.Challenge.rw_or0054_01.wellSaid = true := by
  rw [PySem.W.Fast.te9446332074065402090]
  unfold PySem.W.Fast.tw9446332074065402090
  repeat' (with_reducible refine look_both ?_ ?_)
  all_goals (as_aux_lemma => kernel_rfl)
theorem run_a (w : World) : (fun os => (end9 p9 w 4670 os).map fun r => (staticsOk (importedModules p9.main.body) (boot_heap w.params) r.abs.heap && namesBound p9 r.abs.heap && gensDone r.abs && laidKept (boot_heap w.params) r.abs.heap)) = fun _ => some true := by kernel_rfl
theorem run_b (w : World) : (fun os => (end9 p9 w 4670 os).map fun r => PySem.W.Fast.tw4187177175401517315 view9 ["PostError"] (importedModules p9.main.body) (fun s => xlAt view9 [] s && recOk (RowW.records PySem.Challenge.rw_or0054_01.row.toRowW) s) true r.abs) = fun _ => some (openGood view9 ["PostError"]) := by kernel_rfl
local macro_rules | `(tactic| o_law) => `(tactic| refine holds_law law_said fun said => ?_)
local macro_rules | `(tactic| o_head $H) => `(tactic| (refine holds_open (q := view9) (loose := ["PostError"]) (Xt := fun s => xlAt view9 [] s && recOk (RowW.records PySem.Challenge.rw_or0054_01.row.toRowW) s) (XP := XL view9 []) (Yf := Hook.obs $H) (Ya := Hook.val $H) (YP := Hook.says $H) (N := 4670) (left_tree (p := p9) (by kernel_rfl) (by rfl) (fun _ => rfl) run_a run_b (fun w => by kernel_rfl)) (Hook.of $H) (Hook.keeps $H) (fun s e => xl_of s (Bool.and_eq_true_iff.mp e).1) XL.keeps (by rfl) (by rfl) (by rfl) (fun s e => recFacts_of (Bool.and_eq_true_iff.mp e).2) (by rfl) (by first | assumption | decide +kernel) (by decide +kernel) ⟨rfl, rfl, rfl, rfl, rfl, by decide +kernel⟩ ?hw ?hc))
set_option maxRecDepth 100000 in
set_option maxHeartbeats 8000000 in
open_top hd for PySem.Challenge.rw_or0054_01
theorem top_off : True := by
  w_top off
  trivial
local macro_rules | `(tactic| walk_at $s:str) => `(tactic| k_extra $s)
section part_Base

theorem enterG {prog : Program} {w : World} {A₀ A : Around} {s : Shared} {base h₀ : Heap} {outer : List Env} {L : Addr} {m mg mb : Str → Option Value} {news : List (Addr × Obj)} {K : Frag} {p : Program} {loose : List Str} {mean : ExcName → Option Value}
    {env : Env} {R : Result → Shared → Prop} {name qual : Str} {params : Arguments} {body : List Stmt} {scope : Scope} {dV kV doc pm cdv ct oc : Value} {an od : Option Addr} {osl : Array (Option Value)} {f : Addr} {args : Args} {binds : List (Str × Value)}
    (B : Below A₀ base outer h₀) (F : Fr h₀ L s.heap m) (X₀ : K.In h₀) (N : News h₀ L s.heap news) (T : Top p loose mean mg mb h₀) (hA : A.frames = some (env :: outer)) (hf : env.frame = some L) (hke : env.scope.kind = .function)
    (ho : K.lookup f = some ⟨oc, od, .func (fnOf name qual params body scope dV kV doc pm an cdv ct), osl⟩) (hcd : codeIn K cdv qual = true) (hroom : A.depth < recursionLimit)
    (hbind : BindsTo s (fnOf name qual params body scope dV kV doc pm an cdv ct) args binds) (hloc : ∀ y ∈ binds, scope.names.lookup y.1 = some .local)
    (h : ∀ g L' h₁, (∀ b o, s.heap.get? b = some o → b ∉ news.map (·.1) → g.get? b = some o) → Fr h₀ L g m → Fr g L' h₁ (fun y => binds.reverse.lookup y) → News g L' h₁ news → Below A base (env :: outer) g → K.In g → Top p loose mean mg mb g →
      wpAny (model prog w) (A.deeper (envOf qual scope L' f cdv)) (execs body (envOf qual scope L' f cdv))
        (fun fl s' => LeaveK h₀ L m g R (match fl with | .ret v => v | _ => .none) s')
        (fun e s' => wpAny (model prog w) (A.deeper (envOf qual scope L' f cdv)) (leaving (envOf qual scope L' f cdv) e) (fun _ s'' => R (.error e) s'') (fun e' s'' => R (.error e') s'') s')
        { s with heap := h₁, toks := s.toks + binds.length })
    (hco : scope.isCoroutine = false) (hgen : scope.isGenerator = false) (hk : scope.kind = .function)
    (hcell : ∀ x ∈ scope.names, x.2 ≠ .cell) : codeAny (model prog w) A (.call (.ref f) args) R s := by
  obtain ⟨FG, BG, st, lv⟩ := groundX (R := R) B F N hA hf hke
  have X := X₀.keeps F.keep
  refine codeAny_call_def (fd := fnOf name qual params body scope dV kV doc pm an cdv ct) (body := body) (binds := binds) hroom (X _ _ ho) rfl (T.nolimit.keeps F.keep) (codeRec_of X hcd) rfl hbind hcell hloc (fun h₁ hns hk₁ => ?_) hco hgen hk
  refine wpAny_mono (h _ s.heap.objs.size h₁ (fun b o e hn => hideAll_get _ e hn) FG ⟨hns, fun b o e => hk₁ b o (of_hideAll _ e), Nat.le_of_eq (hideAll_size _ _)⟩
    (fun q hq => ⟨hk₁ _ _ (N q hq).1, Nat.ne_of_lt (Heap.lt_size (N q hq).1), hideAll_none _ (List.mem_map_of_mem hq)⟩) BG (X₀.keeps st) (T.keeps st)) (fun fl s' hl => lv _ _ hl) fun _ _ y => y

abbrev Led := List (Addr × Obj)
/-- all of h but the frame L and the ledger's places stands in h' -/
def Keeps (L : Addr) (news : Led) (h h' : Heap) : Prop := ∀ b o, h.get? b = some o → b ≠ L → b ∉ news.map (·.1) → h'.get? b = some o

/-- what a call of f gives back, or how it raises -/
def Con (w : World) (K : Frag) (f : Addr) (args : List Value) (need : Nat) (h : Heap) (news : Led) (post : Value → Led → Heap → Prop) (rz : Prop) : Prop :=
  ∀ (prog : Program) (p : Program) (loose : List Str) (mean : ExcName → Option Value) (mg mb : Str → Option Value)
    (dp un : Nat) (gd : Option (List Code)) (cn : Str) (cs : Scope) (a : Addr) (ccd : Value) (cl : List (Str × Addr)) (outer : List Env) (A₀ : Around) (base h₀ : Heap) (L : Addr) (m : Str → Option Value) (s : Shared) (Q E : Value → Shared → Prop),
    s.heap = h → Below A₀ base outer h₀ → Fr h₀ L s.heap m → K.In h₀ → News h₀ L s.heap news → Top p loose mean mg mb h₀ → cs.kind = .function → dp + need < recursionLimit → un + 8 * need < cLine →
    (∀ v news' h' tk', Fr h₀ L h' m → News h₀ L h' news' → Keeps L news s.heap h' → (∀ q ∈ news', q.1 ∈ news.map (·.1) ∨ s.heap.get? q.1 = none) → post v news' h' → Q v { s with heap := h', toks := tk' }) →
    (∀ e t vs G h' tk', rz → Fr h₀ L G m → RaisedS base G (envX cn cs L a ccd cl :: outer) e (.ref 52) t vs [] h' → G.UpToSlots h' → E (.ref e) { s with heap := h', toks := tk' }) →
    wpAny (model prog w) (ktrTop dp un gd cn cs L a ccd cl outer) (call (.ref f) args) Q E s

/-- the contract at a call: the ledger is the callee's part and the rest, in any order -/
theorem Con.use {w : World} {K : Frag} {f : Addr} {args : List Value} {need : Nat} {nw : Led} {post : Value → Led → Heap → Prop} {rz : Prop}
    {prog : Program} {p : Program} {loose : List Str} {mean : ExcName → Option Value} {mg mb : Str → Option Value}
    {dp un : Nat} {gd : Option (List Code)} {cn : Str} {cs : Scope} {a : Addr} {ccd : Value} {cl : List (Str × Addr)} {outer : List Env} {A₀ : Around} {base h₀ : Heap} {L : Addr} {m : Str → Option Value} {s : Shared} {Q E : Value → Shared → Prop} {all : Led} (rest : Led)
    (C : Con w K f args need s.heap nw post rz) (B : Below A₀ base outer h₀) (F : Fr h₀ L s.heap m) (X : K.In h₀) (N : News h₀ L s.heap all) (T : Top p loose mean mg mb h₀) (hk : cs.kind = .function) (hd : dp + need < recursionLimit) (hu : un + 8 * need < cLine)
    (hsub : ∀ q ∈ nw, q ∈ all) (hrest : ∀ q ∈ rest, q ∈ all ∧ q.1 ∉ nw.map (·.1))
    (k : ∀ v news' h' tk', post v news' h' → (∀ q ∈ news', q.1 ∈ nw.map (·.1) ∨ s.heap.get? q.1 = none) → Fr h₀ L h' m → News h₀ L h' (news' ++ rest) → Q v { s with heap := h', toks := tk' })
    (e : ∀ e t vs G h' tk', rz → Fr h₀ L G m → RaisedS base G (envX cn cs L a ccd cl :: outer) e (.ref 52) t vs [] h' → G.UpToSlots h' → E (.ref e) { s with heap := h', toks := tk' }) :
    wpAny (model prog w) (ktrTop dp un gd cn cs L a ccd cl outer) (call (.ref f) args) Q E s := by
  refine C prog p loose mean mg mb dp un gd cn cs a ccd cl outer A₀ base h₀ L m s Q E rfl B F X (fun q hq => N q (hsub q hq)) T hk hd hu (fun v news' h' tk' F' N' kp fr hp => k v news' h' tk' hp fr F' fun q hq => ?_) e
  rcases List.mem_append.mp hq with hq | hq
  · exact N' q hq
  · obtain ⟨h1, h2⟩ := hrest q hq
    exact ⟨kp _ _ (N q h1).1 (N q h1).2.1 h2, (N q h1).2⟩

theorem Keeps.of {g : Heap} {L L' : Addr} {news : Led} {h h' : Heap} {m' : Str → Option Value} (hg : ∀ b o, h.get? b = some o → b ∉ news.map (·.1) → g.get? b = some o) (F : Fr g L' h' m') : Keeps L news h h' :=
  fun b o e _ hn => F.keep b o (hg b o e hn)
theorem Fresh.of {g : Heap} {L' : Addr} {news news' : Led} {h h' : Heap} (hg : ∀ b o, h.get? b = some o → b ∉ news.map (·.1) → g.get? b = some o) (N : News g L' h' news') : ∀ q ∈ news', q.1 ∈ news.map (·.1) ∨ h.get? q.1 = none := fun q hq => by
  by_cases hm : q.1 ∈ news.map (·.1)
  · exact .inl hm
  · cases e : h.get? q.1 with
    | none => exact .inr rfl
    | some o => have := hg _ _ e hm; rw [(N q hq).2.2] at this; cases this

def Hold (P : Prop) : Prop := P
theorem Hold.mk {P : Prop} (h : P) : Hold P := h
def Stop (P : Prop) : Prop := P
theorem Stop.out {P : Prop} (h : Stop P) : P := h
theorem Stop.mk {P : Prop} (h : P) : Stop P := h
/-- the way back: what is left is the contract's word -/
theorem leave_con {h₀ g : Heap} {L L' : Addr} {m m' : Str → Option Value} {news news' : Led} {Q E : Value → Shared → Prop} {post : Value → Led → Heap → Prop} {s : Shared} {v : Value} {h' : Heap} {tk' : Nat}
    (hg : ∀ b o, s.heap.get? b = some o → b ∉ news.map (·.1) → g.get? b = some o)
    (ret : ∀ v news' h' tk', Fr h₀ L h' m → News h₀ L h' news' → Keeps L news s.heap h' → (∀ q ∈ news', q.1 ∈ news.map (·.1) ∨ s.heap.get? q.1 = none) → post v news' h' → Q v { s with heap := h', toks := tk' })
    (F' : Fr g L' h' m') (N' : News g L' h' news') (hp : Hold (post v news' h')) :
    LeaveK h₀ L m g (fun r s' => match r with | .ok (.ret v) => Q v s' | .ok _ => False | .error e => E e s') v { s with heap := h', toks := tk' } :=
  leaveK_ F' N' fun kF kN => ret _ _ _ _ kF kN (Keeps.of hg F') (Fresh.of hg N') hp

theorem ne_of_news {h₀ h : Heap} {L : Addr} {news : Led} {b c : Addr} {o o' : Obj} (N : News h₀ L h news) (hb : (b, o) ∈ news) (hc : h.get? c = some o') (hne : o ≠ o') : c ≠ b := fun e => by
  subst e
  rw [(N _ hb).1] at hc
  exact hne (Option.some.inj hc)

/-- the reader: what stays of it -/
structure RdC where
  r : Addr
  d : Addr
  l : Addr
  n : Int
  t1 : Tok
  t2 : Tok
  t3 : Tok
  tn : Tok
abbrev rdDict (P : Params) (c : RdC) (pos : Nat) (tk : Tok) : Obj :=
  dictOf [⟨PyData.keyHash P "tokens", .str "tokens" c.t1, .ref c.l⟩, ⟨PyData.keyHash P "at", .str "at" c.t2, .int (pos : Int) tk⟩, ⟨PyData.keyHash P "length", .str "length" c.t3, .int c.n c.tn⟩] 3
abbrev rdL (P : Params) (c : RdC) (pos : Nat) (tk : Tok) : Led := [(c.r, instObj 262 c.d), (c.d, rdDict P c pos tk)]

inductive Kd | sign | atom | quoted | literal | comment deriving DecidableEq
def Kd.str : Kd → Str
  | .sign => "sign"
  | .atom => "atom"
  | .quoted => "quoted"
  | .literal => "literal"
  | .comment => "comment"
structure Tk where
  k : Kd
  w : List UInt8
deriving DecidableEq
def All2 {α β : Type} (R : α → β → Prop) : List α → List β → Prop
  | [], [] => True
  | a :: as, b :: bs => R a b ∧ All2 R as bs
  | _, _ => False
theorem All2.length {α β : Type} {R : α → β → Prop} : ∀ {as : List α} {bs : List β}, All2 R as bs → as.length = bs.length
  | [], [], _ => rfl
  | _ :: as, _ :: bs, h => by rw [List.length_cons, List.length_cons, All2.length h.2]
  | [], _ :: _, h => h.elim
  | _ :: _, [], h => h.elim
theorem All2.mono {α β : Type} {R S : α → β → Prop} (k : ∀ a b, R a b → S a b) : ∀ {as : List α} {bs : List β}, All2 R as bs → All2 S as bs
  | [], [], _ => trivial
  | _ :: as, _ :: bs, h => ⟨k _ _ h.1, All2.mono k h.2⟩
  | [], _ :: _, h => h.elim
  | _ :: _, [], h => h.elim
theorem All2.get {α β : Type} {R : α → β → Prop} : ∀ {as : List α} {bs : List β}, All2 R as bs → ∀ {i : Nat} {b : β} {r : List β}, bs.drop i = b :: r → ∃ a, as[i]? = some a ∧ R a b
  | [], [], _, i, _, _, e => by simp at e
  | a :: as, b :: bs, h, 0, b', r, e => by
    rw [List.drop_zero] at e
    cases e
    exact ⟨a, rfl, h.1⟩
  | a :: as, b :: bs, h, i + 1, b', r, e => by
    rw [List.drop_succ_cons] at e
    obtain ⟨a', ha, hR⟩ := All2.get h.2 e
    exact ⟨a', by simpa using ha, hR⟩
  | [], _ :: _, h, _, _, _, _ => h.elim
  | _ :: _, [], h, _, _, _, _ => h.elim

abbrev tokO (k : Str) (t1 : Tok) (w : List UInt8) (t2 : Tok) (i : Int) (t3 : Tok) (n : Nat) : Obj := { cls := .type "tuple", data := .seq #[.str k t1, .bytes ⟨w⟩ t2, .int i t3] n }
def TokIn (h : Heap) (v : Value) (t : Tk) : Prop :=
  ∃ a t1 t2 i t3 n, v = .ref a ∧ (0 : Int) ≤ i ∧ h.get? a = some (tokO t.k.str t1 t.w t2 i t3 n)
abbrev listO (its : Array Value) (ep : Nat) : Obj := { cls := .type "list", data := .seq its ep }
def wcat (ts : List Tk) : List UInt8 := (ts.map (·.w)).flatten
def TL (h : Heap) (l : Addr) (ts : List Tk) : Prop := ∃ its ep, h.get? l = some (listO its ep) ∧ (its.size < 2 ^ 16 ∧ (wcat ts).length < 2 ^ 16) ∧ All2 (TokIn h) its.toList ts
/-- v stands at the place i of the list -/
def TokAt (h : Heap) (l : Addr) (i : Nat) (v : Value) : Prop := ∃ its ep, h.get? l = some (listO its ep) ∧ its[i]? = some v
theorem TokAt.down {h g : Heap} {l : Addr} {i : Nat} {v : Value} {ts : List Tk} (H : TokAt h l i v) (hts : TL g l ts) (k : ∀ b o, g.get? b = some o → o.cls = .type "list" ∨ o.cls = .type "tuple" → h.get? b = some o) : TokAt g l i v := by
  obtain ⟨its, ep, hl, hv⟩ := H
  obtain ⟨its', ep', hl', _⟩ := hts
  have := k _ _ hl' (.inl rfl)
  rw [hl] at this
  cases this
  exact ⟨its, ep, hl', hv⟩
theorem TokAt.tok {g : Heap} {l : Addr} {i : Nat} {v : Value} {ts r : List Tk} {t : Tk} (H : TokAt g l i v) (hts : TL g l ts) (hs : ts.drop i = t :: r) : TokIn g v t := by
  obtain ⟨its, ep, hl, hv⟩ := H
  obtain ⟨its', ep', hl', hz, hA⟩ := hts
  rw [hl] at hl'
  cases hl'
  obtain ⟨v', hv', ht⟩ := hA.get hs
  rw [Array.getElem?_toList, hv] at hv'
  cases hv'
  exact ht
theorem TokIn.keep {h g : Heap} {v : Value} {t : Tk} (H : TokIn h v t) (k : ∀ b o, h.get? b = some o → o.cls = .type "list" ∨ o.cls = .type "tuple" → g.get? b = some o) : TokIn g v t :=
  let ⟨a, t1, t2, i, t3, n, e, hi, ho⟩ := H; ⟨a, t1, t2, i, t3, n, e, hi, k _ _ ho (.inr rfl)⟩
theorem TL.keep {h g : Heap} {l : Addr} {ts : List Tk} (H : TL h l ts) (k : ∀ b o, h.get? b = some o → o.cls = .type "list" ∨ o.cls = .type "tuple" → g.get? b = some o) : TL g l ts :=
  let ⟨its, ep, ho, hz, ha⟩ := H; ⟨its, ep, k _ _ ho (.inl rfl), hz, ha.mono fun _ _ q => q.keep k⟩
theorem TL.up {h g : Heap} {l : Addr} {ts : List Tk} (H : TL h l ts) (k : ∀ b o, h.get? b = some o → g.get? b = some o) : TL g l ts := H.keep fun b o e _ => k b o e
theorem TokIn.up {h g : Heap} {v : Value} {t : Tk} (H : TokIn h v t) (k : ∀ b o, h.get? b = some o → g.get? b = some o) : TokIn g v t := H.keep fun b o e _ => k b o e

/-- the tokens are no part of the reader -/
theorem rd_apart {P : Params} {c : RdC} {pos : Nat} {tk : Tok} {h₀ h : Heap} {L b : Addr} {o : Obj} (N : News h₀ L h (rdL P c pos tk)) (hb : h.get? b = some o) (ho : o.cls = .type "list" ∨ o.cls = .type "tuple") : b ∉ (rdL P c pos tk).map (·.1) := by
  intro hm
  simp only [rdL, List.map_cons, List.map_nil, List.mem_cons, List.not_mem_nil, or_false] at hm
  rcases hm with rfl | rfl
  · rw [(N _ (.head _)).1] at hb; cases hb; rcases ho with ho | ho <;> cases ho
  · rw [(N _ (.tail _ (.head _))).1] at hb; cases hb; rcases ho with ho | ho <;> simp at ho
theorem TL.ground {P : Params} {c : RdC} {pos : Nat} {tk : Tok} {h₀ h g : Heap} {L : Addr} {l : Addr} {ts : List Tk} (H : TL h l ts) (N : News h₀ L h (rdL P c pos tk)) (hg : ∀ b o, h.get? b = some o → b ∉ (rdL P c pos tk).map (·.1) → g.get? b = some o) : TL g l ts :=
  H.keep fun b o e q => hg b o e (rd_apart N e q)
end part_Base
section part_L1
theorem news_two {h₀ h : Heap} {L : Addr} {x y : Addr × Obj} {r : Led} (N : News h₀ L h (x :: y :: r)) : News h₀ L h [x, y] := fun q hq => by
  simp only [List.mem_cons, List.not_mem_nil, or_false] at hq
  rcases hq with rfl | rfl
  · exact N _ (.head _)
  · exact N _ (.tail _ (.head _))
theorem len_pool {prog : Program} {w : World} {A : Around} {E : Value → Shared → Prop} {s : Shared} {h₀ : Heap} {L : Addr} {all : Led} {fl : Addr} {ys : List Value} {ep : Nat} {Q : Value → Shared → Prop} (N : News h₀ L s.heap all) (hm : (fl, lo ys ep) ∈ all) (hz : ys.length < 2 ^ 20) (h : ∀ t', Q (.int (ys.length : Int) t') { s with toks := s.toks + 1 + 1 }) :
    wpAny (model prog w) A (call (.builtin "len") [.ref fl]) Q E s :=
  len_list ⟨_, (N _ hm).1, rfl, _, rfl⟩ (by simp only [List.size_toArray]; omega) (h _)
/-- the pool of draws -/
abbrev poolO (cl : Addr) (gr st pl : Int) (t1 t2 t3 : Tok) (ep : Nat) : Obj := listOf #[.ref cl, .int gr t1, .int st t2, .int pl t3] ep
def PoolIn (k : Nat) (news : Led) (pa cl : Addr) : Prop := ∃ gr st pl t1 t2 t3 ep ys ns ep2, news = [(pa, poolO cl gr st pl t1 t2 t3 ep), (cl, listOf (List.toArray ys) ep2)] ∧ 0 ≤ gr ∧ 0 ≤ pl ∧ pl ≤ (k : Int) ∧ @LT.lt Nat _ cl pa ∧ IntsAre ys ns ∧ ys.length < 2 ^ 16
theorem law_box_c (w : World) (h : Heap) (sc : Addr) (vs : List Value) (ns : List Int) (hL : h.IsList sc vs.toArray) (hI : IntsAre vs ns) (hz : ¬ (63 : Int) < (ns.length : Int)) :
    Con w (Mine.hd.heap_1 w.params) 320 [.ref sc] 6 h [] (fun v news' _ => ∃ pa cl, v = .ref pa ∧ PoolIn 0 news' pa cl) False := by
  intro prog p loose mean mg mb dp un gd cn cs a ccd cl outer A₀ base h₀ L m s Q E hh B F X N T hkf hd hu ret exc
  subst hh
  refine wpAny_call ?_
  refine' enterG (binds := [(("script" : Str), .ref sc)]) ?k1 ?k2 ?k3 ?k4 ?k5 ?kA ?kF ?kK ?k6 ?k7 ?k8 ?k9 ?kB ?_ ?c2 ?c3 ?c4 ?c5
  case kA => exact rfl
  case kF => exact rfl
  case kK => assumption
  case k1 => k_asm
  case k2 => k_asm
  case k3 => k_asm
  case k4 => k_asm
  case k5 => k_asm
  case k6 => k_is
  case k7 => k_is
  case k8 => ktr_room
  case k9 => first | exact BindsTo.of_eq rfl | exact binds_K (by k_in) rfl (by k_is) rfl rfl rfl
  case c5 => decide
  case kB => exact locs rfl
  case c2 => exact rfl
  case c3 => exact rfl
  case c4 => exact rfl
  k_whole
  intro g L' h' hg FG F' N' B' X' T'
  try dsimp only
  try k_fold
  have hLg : g.IsList sc vs.toArray := by
    obtain ⟨o, e1, e2⟩ := hL
    exact ⟨o, hg _ _ e1 (fun h => nomatch h), e2⟩
  k_steps
  all_goals
    rename News g _ _ _ => gN
    rename News h₀ _ _ _ => kN
    rename IntsAre _ (List.map _ _) => hI8
    have hl8 := IntsAre.length hI8
    rw [List.length_map, List.length_take] at hl8
    refine ret _ _ _ _ (by assumption) (news_two kN) (Keeps.of hg (by assumption)) (Fresh.of hg (news_two gN)) ⟨_, _, rfl, _, _, _, _, _, _, _, _, _, _, rfl, ?_, Int.le_refl 0, Int.le_refl 0, ?_, hI8, by omega⟩
    rotate_left
    · rename _ < _ ∧ _ < _ => l9
      exact l9.1
    first
      | exact Int.le_refl 0
      | exact Int.fmod_nonneg_of_pos _ (by decide)
      | exact Int.fmod_nonneg_of_pos _ (Int.pow_pos (by decide))
theorem mul_small {prog : Program} {w : World} {A : Around} {E : Value → Shared → Prop} {s : Shared} {a b : Int} {t u : Tok} {Q : Value → Shared → Prop} (h0 : 0 ≤ a) (h1 : a < 1000) (h : Q (.int (a * b) s.toks) { s with toks := s.toks + 1 }) :
    wpAny (model prog w) A (binaryOp .Mult (.int a t) (.int b u)) Q E s := by
  refine mul_int h (IntMulOk.of_left ?_)
  obtain ⟨n, rfl⟩ := Int.eq_ofNat_of_zero_le h0
  have : n < 1000 := by omega
  have h10 : Builtin.Int.intBits (n : Int) ≤ 10 := intBits_le_iff.mpr (by show n < 2 ^ 10; omega)
  omega
example : True := by
  k_with "binaryOp Mult int int" => (apply mul_small; (case h0 => assumption); (case h1 => omega); (case' h => skip))
  trivial
example : True := by
  k_with "call builtin:len" => (k_here; (with_reducible show wpAny _ _ (call (Value.builtin "len") [Value.ref _]) _ _ _); k_dflt (apply len_pool; (case N => k_asm); (case hm => exact .tail _ (.head _)); (case hz => omega); (case' h => skip)); intro _)
  trivial
theorem law_draw_c (w : World) (h : Heap) (pa ca : Addr) (k : Nat) (news : Led) (most : Int) (tm : Tok) (hP : PoolIn k news pa ca) (hk : k < 1000) (hm : 0 < most ∧ most ≤ 8) :
    Con w (Mine.hd.heap_1 w.params) 327 [.ref pa, .int most tm] 3 h news (fun v news' _ => (∃ d t, v = .int d t ∧ 0 ≤ d ∧ d < most) ∧ PoolIn (k + 1) news' pa ca) False := by
  obtain ⟨gr, st, pl, t1, t2, t3, ep, ys, ns, ep2, rfl, hgr, hpl, hpk, hlt, hI, hyz⟩ := hP
  obtain ⟨hm1, hm2⟩ := hm
  intro prog p loose mean mg mb dp un gd cn cs a ccd cl outer A₀ base h₀ L m s Q E hh B F X N T hkf hd hu ret exc
  subst hh
  refine wpAny_call ?_
  refine' enterG (binds := [(("pool" : Str), .ref pa), (("most" : Str), .int most tm)]) ?k1 ?k2 ?k3 ?k4 ?k5 ?kA ?kF ?kK ?k6 ?k7 ?k8 ?k9 ?kB ?_ ?c2 ?c3 ?c4 ?c5
  case kA => exact rfl
  case kF => exact rfl
  case kK => assumption
  case k1 => k_asm
  case k2 => k_asm
  case k3 => k_asm
  case k4 => k_asm
  case k5 => k_asm
  case k6 => k_is
  case k7 => k_is
  case k8 => ktr_room
  case k9 => first | exact BindsTo.of_eq rfl | exact binds_K (by k_in) rfl (by k_is) rfl rfl rfl
  case c5 => decide
  case kB => exact locs rfl
  case c2 => exact rfl
  case c3 => exact rfl
  case c4 => exact rfl
  k_whole
  intro g L' h' hg FG F' N' B' X' T'
  try dsimp only
  try k_fold
  k_steps
  all_goals
    rename News g _ _ _ => gN
    rename News h₀ _ _ _ => kN
    refine ret _ _ _ _ (by assumption) kN (Keeps.of hg (by assumption)) (Fresh.of hg gN) ⟨⟨_, _, rfl, Int.fmod_nonneg_of_pos _ hm1, Int.fmod_lt_of_pos _ hm1⟩, _, _, _, _, _, _, _, _, _, _, rfl, ?_, by omega, by omega, hlt, hI, hyz⟩
    first
      | exact hgr
      | exact Int.fdiv_nonneg hgr (by omega)
end part_L1
section part_X1
abbrev wfBm : List Value := [.ref 39, .type "Exception", .type "BaseException", .type "object"]
abbrev wfCls (k0 k1 k2 k3 k5 : Option Value) : Obj := excClassObj "WordFault" "WordFault" 52 51 [.ref 39] wfBm true [] [] false none none k0 k1 k2 k3 k5 "Exception.__new__"
theorem in_of {K : Frag} {h : Heap} {a : Addr} {o : Obj} (X : K.In h) (e : K.lookup a = some o) : h.get? a = some o := X a o e
theorem wf_cls {P : Params} {h : Heap} (X : (hd.heap_1 P).In h) : ∃ k0 k1 k2 k3 k5, h.get? 52 = some (wfCls k0 k1 k2 k3 k5) := by
  have q := in_of (a := 52) X (by k_dflt k_is)
  exact ⟨_, _, _, _, _, q⟩
section
variable {M : Model} {prog : Program} {w : World} {A : Around} {R : Result → Shared → Prop} {E : Value → Shared → Prop} {h : Heap} {g : Array GenState} {d : Drawn} {t : Nat} {os : OsState} {k0 k1 k2 k3 k5 : Option Value}
theorem wf_check_new {rest : List Value} {Q : Unit → Shared → Prop} (hC : h.get? 52 = some (wfCls k0 k1 k2 k3 k5)) (hq : Q () ⟨h, g, d, t, os⟩) : wpAny M A (checkBuiltinCall "Exception.__new__" ⟨.ref 52 :: rest, []⟩) Q E ⟨h, g, d, t, os⟩ := by
  have F := PySem.F.excBase_Exception
  have hcont : (Value.ref 52 :: wfBm).contains (.type "Exception") = true := by decide
  have hstar := F.noStar
  simp only [checkBuiltinCall, F.newKind, F.newSplit, F.newRow]
  repeat (first | refine wpAny_loadPart_at hC ?_ | (refine wpAny_isSubtype_exc hC ?_; rw [hcont]) | refine wpAny_staticBase_exc hC ?_ | refine wpAny_madeBy_exc hC ?_ | simp only [bne_self_eq_false, Bool.false_eq_true, if_false] | wp_step)
  exact hq

theorem wf_new {rest : List Value} (hC : h.get? 52 = some (wfCls k0 k1 k2 k3 k5))
    (hq : R (.ok (.ret (.ref (h.objs.size + 1)))) ⟨(h.push { cls := .type "tuple", data := .seq rest.toArray }).push
      { cls := .ref 52, data := .fields #[.ref h.objs.size, .none, .none, .none, .bool false, .none] }, g, d, t, os⟩) (hrest : rest.length ≤ sizeLine) :
    codeAny (model prog w) A (.builtin "Exception.__new__" ⟨.ref 52 :: rest, []⟩) R ⟨h, g, d, t, os⟩ := by
  have F := PySem.F.excBase_Exception
  have hends := F.ends
  have hcB : (Value.ref 52 :: wfBm).contains (.type "Exception") = true := by decide
  have hcA : (Value.ref 52 :: wfBm).contains (.type "AttributeError") = false := by decide
  have hcN : (Value.ref 52 :: wfBm).contains (.type "NameError") = false := by decide
  refine codeAny_builtinAt F.entry ?_
  unfold Builtin.«BaseException.__new__»
  refine PySem.wpAt_bind ?_
  show PySem.wpAt _ _ _ (stack >>= _) _ _ _
  refine PySem.wpAt_bind (PySem.wpAt_stack fun p below => PySem.wpAt_of_wpAny ?_)
  wp_walk
  refine PySem.wpAt_of_wpAny ?_
  rw [F.owner]
  repeat (first | with_reducible refine wpAny_madeHere_exc F.canon hC ?_ | with_reducible refine wpAny_loadPart_at hC ?_ | (with_reducible refine wpAny_isSubtype_exc hC ?_; first | rw [hcB] | rw [hcA] | rw [hcN]) | wp_step)
  show R _ _
  rw [Heap.size_push]
  exact hq

theorem wf_type_call {rest : List Value} {fI : Addr} {oI : Obj} {Q : Fin → Shared → Prop} (hC : h.get? 52 = some (wfCls k0 k1 k2 k3 k5))
    (hlook : ∀ h', (∀ b o, h.get? b = some o → h'.get? b = some o) → Looks (model prog w) h' (typeLookup (.ref 52) "__init__") (some (.ref fI)))
    (hfI : h.get? fI = some oI) (hfc : oI.cls = .type "function")
    (hq : ∀ h' e, Heap.MadeExcOf h h' e (.ref 52) rest →
      wpAny (model prog w) A (call (.ref fI) (.ref e :: rest)) (fun r s' => r = .none ∧ Q (.done (.ret (.ref e))) s') E ⟨h', g, d, t, os⟩) (hrest : rest.length ≤ sizeLine) :
    wpAny (model prog w) A (Builtin.«type.__call__» ⟨.ref 52 :: rest, []⟩) Q E ⟨h, g, d, t, os⟩ := by
  have F := PySem.F.excBase_Exception
  repeat (first | with_reducible refine wpAny_loadPart_at hC ?_ | with_reducible refine wpAny_madeBy_exc hC ?_ | wp_step)
  refine codeAny_call_builtin_code (Code.quiet_builtin _ F.quiet) (wf_check_new hC ?_)
  refine wf_new hC ?_ hrest
  show wpAny _ _ _ _ _ _
  have up : ∀ b o, h.get? b = some o → ((h.push { cls := .type "tuple", data := .seq rest.toArray }).push { cls := .ref 52, data := .fields #[.ref h.objs.size, .none, .none, .none, .bool false, .none] }).get? b = some o :=
    fun b o e => Heap.get?_push_of_some _ (Heap.get?_push_of_some _ e)
  have hC₁ := up _ _ hC
  have hfI₁ := up _ _ hfI
  have hl₁ := hlook _ up
  have hget : ((h.push { cls := .type "tuple", data := .seq rest.toArray }).push
      { cls := .ref 52, data := .fields #[.ref h.objs.size, .none, .none, .none, .bool false, .none] }).get? (h.objs.size + 1) = some
      { cls := .ref 52, data := .fields #[.ref h.objs.size, .none, .none, .none, .bool false, .none] } := by heap_get
  have hcC : (Value.ref 52 :: wfBm).contains (.ref 52) = true := by decide
  unfold isInstance
  repeat (first | with_reducible refine wpAny_loadPart_at hget ?_ | (with_reducible refine wpAny_isSubtype_exc hC₁ ?_; rw [hcC]) | wp_step)
  show wpAny _ _ (typeLookup (.ref 52) _) _ _ _
  refine hl₁.at ?_
  refine wpAny_holding (wpAny_bind ?_)
  unfold bindSpecial
  refine wpAny_bind (wpAny_typeOf (T := "function") ⟨_, hfI₁, hfc⟩ ?_)
  rw [if_pos (by decide)]
  refine wpAny_pure (wpAny_bind (wpAny_mono (hq _ (h.objs.size + 1) ⟨up, Heap.get?_none_of_le (Nat.le_succ _), h.objs.size, hget, Heap.get?_none_of_le (Nat.le_refl _), ?_⟩) (fun r s' hr => ?_) fun _ _ x => x))
  · exact Heap.get?_push_of_some _ (Heap.get?_push_at rfl rfl)
  · obtain ⟨rfl, hQ⟩ := hr
    wp_walk
    exact hQ

theorem wf_call {rest : List Value} {fI : Addr} {oI : Obj} {Q : Value → Shared → Prop} (hC : h.get? 52 = some (wfCls k0 k1 k2 k3 k5))
    (hlook : ∀ h', (∀ b o, h.get? b = some o → h'.get? b = some o) → Looks (model prog w) h' (typeLookup (.ref 52) "__init__") (some (.ref fI)))
    (hfI : h.get? fI = some oI) (hfc : oI.cls = .type "function")
    (hq : ∀ h' e, Heap.MadeExcOf h h' e (.ref 52) rest →
      wpAny (model prog w) (A.under (.builtin "type.__call__" ⟨.ref 52 :: rest, []⟩)) (call (.ref fI) (.ref e :: rest)) (fun r s' => r = .none ∧ Q (.ref e) s') E ⟨h', g, d, t, os⟩) (hrest : rest.length ≤ sizeLine) :
    wpAny (model prog w) A (call (.ref 52) rest) Q E ⟨h, g, d, t, os⟩ := by
  have f1 := tc_lookup
  have f2 := tc_bind (.ref 52)
  have hT : (⟨h, g, d, t, os⟩ : Shared).TypeIs (.ref 52) "type" := ⟨_, hC, rfl⟩
  refine wpAny_call (codeAny_of_tree ?_)
  show wpAny _ _ (callAny (.ref 52) _) _ _ _
  repeat (any_goals (first | assumption | with_reducible refine wpAny_loadPart_at hC ?_ | wp_step))
  refine ⟨rfl, ?_⟩
  refine codeAny_call_builtin_at (Code.quiet_builtin _ (by decide +kernel)) entry_typeCall (wpAny_check_type_call_sub hC (wf_type_call hC hlook hfI hfc (fun h' e hm => ?_) hrest))
  exact hq h' e hm
end
end part_X1
section part_X2
theorem meta_exc : typeOf (.type "Exception") = pure (.type "type") := by kernel_rfl
example : True := by
  k_with "getMethod type:Exception" => (k_here; apply method_type; (case hs => exact (by decide +kernel)); (case F => k_asm); (case X₀ => k_asm); (case ht => exact meta_exc); (case e => k_dflt k_is); (case hh => k_handed); (case' h => skip))
  trivial
abbrev excO (t : Addr) (d : Option Addr) : Obj := { cls := .ref 52, dict := d, data := .fields #[.ref t, .none, .none, .none, .bool false, .none] }
section
variable {prog : Program} {w : World} {M : Model} {A : Around} {E : Value → Shared → Prop} {h : Heap} {g : Array GenState} {d : Drawn} {tk : Nat} {os : OsState} {k0 k1 k2 k3 k5 : Option Value}
theorem wf_check_init {e : Addr} {oe : Obj} {rest : List Value} {Q : Unit → Shared → Prop}
    (hC : h.get? 52 = some (wfCls k0 k1 k2 k3 k5)) (he : h.get? e = some oe) (hcls : oe.cls = .ref 52) (hq : Q () ⟨h, g, d, tk, os⟩) :
    wpAny M A (checkBuiltinCall "Exception.__init__" ⟨.ref e :: rest, []⟩) Q E ⟨h, g, d, tk, os⟩ := by
  have F := PySem.F.excBase_Exception
  have hcB : (Value.ref 52 :: wfBm).contains (.type "Exception") = true := by decide
  have hshort := F.noStar
  simp only [checkBuiltinCall, F.initKind, F.initSplit, F.initRow]
  repeat (first | (with_reducible refine wpAny_loadPart_at he ?_; rw [hcls]) | with_reducible refine wpAny_loadPart_at hC ?_ | (with_reducible refine wpAny_isSubtype_exc hC ?_; rw [hcB]) | wp_step)
  refine wpAny_onRaise ?_
  rw [show ∀ (a b : String) (n : Nat), Bind.check ⟨.positional, "*", "Exception", .self, [⟨"args", .varPos, false⟩]⟩ a b n (List.map (fun x => x.fst) ({ pos := Value.ref e :: rest } : Args).kw) = pure () from
    fun a b n => check_star_args _ _ _ _ _ _]
  exact wpAny_pure hq
theorem wf_init {e t : Addr} {dd : Option Addr} {x : Value} {Q : Value → Shared → Prop} (hC : h.get? 52 = some (wfCls k0 k1 k2 k3 k5)) (he : h.get? e = some (excO t dd))
    (hq : Q .none ⟨(h.push { cls := .type "tuple", data := .seq #[x] }).update e (Obj.mapFields (·.setIfInBounds 0 (.ref h.objs.size))), g, d, tk, os⟩) :
    wpAny (model prog w) A (call (.builtin "Exception.__init__") [.ref e, x]) Q E ⟨h, g, d, tk, os⟩ := by
  have F := PySem.F.excBase_Exception
  refine wpAny_call (codeAny_call_builtin F.init.plain F.initEntry (wf_check_init hC he rfl ?_))
  wp_walk
  exact hq
end
section
variable {prog : Program} {w : World} {A : Around} {E : Value → Shared → Prop} {h : Heap} {g : Array GenState} {d : Drawn} {t : Nat} {os : OsState} {k0 k1 k2 k3 k5 : Option Value} {x : Addr} {mA : Str → Option Value} {name : Str} {v : Value}
open Builtin Builtin.ObjectAttr in
theorem wf_passes (self : Value) : refuseLoop self "__setattr__" wfBm = pure () := by
  unfold wfBm
  rw [refuseLoop_ref]
  kernel_rfl
theorem wf_check_sa {M : Model} {o : Obj} {nameV : Value} {Q : Unit → Shared → Prop}
    (hC : h.get? 52 = some (wfCls k0 k1 k2 k3 k5)) (hx : h.get? x = some o) (hc : o.cls = .ref 52) (hq : Q () ⟨h, g, d, t, os⟩) :
    wpAny M A (checkBuiltinCall "object.__setattr__" ⟨[.ref x, nameV, v], []⟩) Q E ⟨h, g, d, t, os⟩ := by
  have SF := PySem.F.store_object
  have hcB : (Value.ref 52 :: wfBm).contains (.type "object") = true := by decide
  have ha := SF.args (.ref x) nameV v
  simp only [checkBuiltinCall, SF.kind, SF.split]
  refine wpAny_bind ?_
  · unfold isInstance
    repeat (first | (with_reducible refine wpAny_loadPart_at hx ?_; rw [hc]) | (with_reducible refine wpAny_isSubtype_exc hC ?_; rw [hcB]) | wp_step)
    all_goals exact hq
open Builtin Builtin.ObjectAttr in
theorem wf_store_entry {tk : Tok} {Q : Fin → Shared → Prop} {ns : List Str} (hC : h.get? 52 = some (wfCls k0 k1 k2 k3 k5))
    (hl : Looks (model prog w) h (typeLookup (.ref 52) name) none) (I : h.Inst x 52 mA)
    (hq : ∀ h' tk', h'.Inst x 52 (fun y => if y = name then some v else mA y) →
      (∀ b o, b ≠ x → (∀ o₀ dx, h.get? x = some o₀ → o₀.dict = some dx → b ≠ dx) → h.get? b = some o → h'.get? b = some o) →
      (∀ o₀, h.get? x = some o₀ → ∃ o₁, h'.get? x = some o₁ ∧ o₁.cls = o₀.cls ∧ o₁.data = o₀.data ∧ o₁.slots = o₀.slots ∧ (∀ dx, o₀.dict = some dx → o₁.dict = some dx) ∧ ∀ dx, o₁.dict = some dx → o₀.dict = some dx ∨ h.get? dx = none) → Q (.done (.ret .none)) ⟨h', g, d, tk', os⟩) (hw : PySem.Within mA ns) (hsz : ns.length ≤ 100) :
    wpAny (model prog w) A (Builtin.«object.__setattr__» ⟨[.ref x, .str name tk, v], []⟩) Q E ⟨h, g, d, t, os⟩ := by
  obtain ⟨o, hx, hc, hnc, hd⟩ := I
  have hpass := wf_passes (.ref x)
  unfold Builtin.«object.__setattr__»
  repeat (first | rw [refuse_eq] | (rw [refuseLoop_ref, hpass]) | (with_reducible refine wpAny_loadPart_at hx ?_; rw [hc]) | with_reducible refine wpAny_mroOf_exc hC ?_ | with_reducible refine hl.at ?_ | wp_step)
  rcases hd with ⟨hdn, hmA⟩ | ⟨dx, hdx, hne, hns⟩
  · rw [hdn, if_neg (by simp [typeHasDict])]
    split
    · rename_i hcd
      cases hcd
    split
    · rename_i c hcd
      exact absurd hcd (hnc c)
    · have hx₁ : (h.push { cls := .type "dict", data := .dict #[] }).get? x = some o := Heap.get?_push_of_some _ hx
      have hxs : x ≠ h.objs.size := Nat.ne_of_lt (Heap.lt_size hx)
      refine wpAny_bind (wpAny_alloc' ?_)
      refine wpAny_bind (wpAny_update' hx₁ ?_)
      refine wpAny_pure ?_
      have hgd : ((h.push { cls := .type "dict", data := .dict #[] }).update x fun o => { cls := o.cls, dict := some h.objs.size, data := o.data, slots := o.slots }).get? h.objs.size
          = some { cls := .type "dict", data := .dict #[] } :=
        (Heap.get?_update_ne _ _ _ _ hxs.symm).trans (Heap.get?_push_at rfl rfl)
      have hnd : ((h.push { cls := .type "dict", data := .dict #[] }).update x fun o => { cls := o.cls, dict := some h.objs.size, data := o.data, slots := o.slots }).Ns h.objs.size (fun _ => none) :=
        ⟨_, #[], _, hgd, rfl, fun e he => absurd he (by simp), fun _ => rfl⟩
      show wpAny _ _ (storeInDict h.objs.size (.str name tk) name v) _ _ _
      unfold storeInDict newKeyGuard
      refine wpAny_bind (wpAny_pure (wpAny_bind (wpAny_nsSet1 (Heap.Ns1.of_empty hnd) fun h' hn' hs => ?_)))
      obtain ⟨oD, esD, epD, hoD, hdD, hcD⟩ := hn'.count (PySem.Within.cons name v PySem.Within.nil)
      refine wpAny_bind (wpAny_lookBehind hoD (by rw [hdD]; exact pastItsLine_dict (Nat.le_trans hcD (by rw [List.length_cons, List.length_nil, sizeLine_eq]; omega))) ?_)
      wp_walk
      have hx' : h'.get? x = some { cls := o.cls, dict := some h.objs.size, data := o.data, slots := o.slots } := ?_
      refine hq h' _ ⟨{ cls := o.cls, dict := some h.objs.size, data := o.data, slots := o.slots }, hx', hc, hnc, .inr ⟨h.objs.size, rfl, hxs.symm, ?_⟩⟩ (fun b ob hbx _ hb => ?_)
        (fun o₀ h₀ => by obtain rfl : o = o₀ := Option.some.inj (hx.symm.trans h₀); exact ⟨_, hx', rfl, rfl, rfl, (fun dx e => by rw [hdn] at e; cases e), fun dx e => .inr (by cases e; exact Heap.get?_none_of_le (Nat.le_refl _))⟩)
      · obtain ⟨o', es, ep, e1, e2, e3, eu, e4⟩ := hn'
        exact ⟨o', es, ep, e1, e2, e3, eu, fun y => by rw [e4 y]; by_cases hy : y = name <;> simp [hy, hmA]⟩
      · exact (hs.2 b (Nat.ne_of_lt (Heap.lt_size hb))).trans ((Heap.get?_update_ne _ _ _ _ hbx).trans (Heap.get?_push_of_some _ hb))
      · refine (hs.2 x hxs).trans (Heap.get?_update_self _ hx₁ ?_)
        have hfr := (Heap.get?_some_iff.mp hx).2
        obtain ⟨oc, od, odt, osl⟩ := o
        cases odt <;> first | rfl | exact hfr
  · rw [hdx]
    refine wpAny_pure ?_
    show wpAny _ _ (storeInDict dx (.str name tk) name v) _ _ _
    unfold storeInDict newKeyGuard
    refine wpAny_bind (wpAny_pure (wpAny_bind (wpAny_nsSet1 hns fun h' hn' hs => ?_)))
    obtain ⟨oD, esD, epD, hoD, hdD, hcD⟩ := hn'.count (PySem.Within.cons name v hw)
    refine wpAny_bind (wpAny_lookBehind hoD (by rw [hdD]; exact pastItsLine_dict (Nat.le_trans hcD (by rw [List.length_cons, sizeLine_eq]; omega))) ?_)
    wp_walk
    refine hq h' _ ⟨o, (hs.2 x hne.symm).trans hx, hc, hnc, .inr ⟨dx, hdx, hne, hn'⟩⟩ (fun b ob _ hbd hb => ?_)
      (fun o₀ h₀ => ⟨o₀, (hs.2 x hne.symm).trans h₀, rfl, rfl, rfl, (fun _ e => e), fun _ e => .inl e⟩)
    exact (hs.2 b (hbd o dx hx hdx)).trans hb

theorem wf_store {Q : Unit → Shared → Prop} {ns : List Str} (hC : h.get? 52 = some (wfCls k0 k1 k2 k3 k5))
    (hs : Looks (model prog w) h (typeLookup (.ref 52) "__setattr__") (some (.builtin "object.__setattr__"))) (hl : Looks (model prog w) h (typeLookup (.ref 52) name) none) (I : h.Inst x 52 mA)
    (hq : ∀ h' tk', h'.Inst x 52 (fun y => if y = name then some v else mA y) →
      (∀ b o, b ≠ x → (∀ o₀ dx, h.get? x = some o₀ → o₀.dict = some dx → b ≠ dx) → h.get? b = some o → h'.get? b = some o) →
      (∀ o₀, h.get? x = some o₀ → ∃ o₁, h'.get? x = some o₁ ∧ o₁.cls = o₀.cls ∧ o₁.data = o₀.data ∧ o₁.slots = o₀.slots ∧ (∀ dx, o₀.dict = some dx → o₁.dict = some dx) ∧ ∀ dx, o₁.dict = some dx → o₀.dict = some dx ∨ h.get? dx = none) → Q () ⟨h', g, d, tk', os⟩) (hw : PySem.Within mA ns) (hsz : ns.length ≤ 100) :
    wpAny (model prog w) A (setAttr (.ref x) name v) Q E ⟨h, g, d, t, os⟩ := by
  have SF := PySem.F.store_object
  obtain ⟨o, hx, hc, _⟩ := id I
  have f3 := SF.slot.bind (.ref x)
  unfold setAttr callSpecial? specialOf
  repeat (any_goals (first | assumption | (with_reducible refine wpAny_loadPart_at hx ?_; rw [hc]) | (show wpAny _ _ (typeLookup (.ref 52) _) _ _ _; with_reducible refine hs.at ?_) | wp_step))
  refine codeAny_call_builtin SF.slot.plain SF.entry (wf_check_sa hC hx hc (wf_store_entry hC hl I (fun h' tk' I' hk hsame => ?_) hw hsz))
  repeat (any_goals (first | assumption | wp_step))
  exact hq h' tk' I' hk hsame
end
abbrev tup1 (x : Value) : Obj := { cls := .type "tuple", data := .seq #[x] }
def ExcLed (e : Addr) (news : Led) : Prop := ∃ t d x, (e, excO t d) ∈ news ∧ (t, tup1 x) ∈ news
/-- where the attributes of an exception lie -/
def DxOk (h₀ : Heap) (L t : Addr) (d : Option Addr) : Prop := ∀ dx, d = some dx → h₀.get? dx = none ∧ dx ≠ L ∧ dx ≠ t
section
variable {prog : Program} {w : World} {A : Around} {E : Value → Shared → Prop} {s : Shared} {h₀ : Heap} {L e t : Addr} {m : Str → Option Value} {d : Option Addr} {mA : Str → Option Value} {name : Str} {v x : Value} {ns : List Str}
theorem wf_set_rule {Q : Unit → Shared → Prop} (F : Fr h₀ L s.heap m) (X₀ : (hd.heap_1 w.params).In h₀) (N : News h₀ L s.heap [(e, excO t d), (t, tup1 x)]) (I : s.heap.Inst e 52 mA) (D : DxOk h₀ L t d) (hw : PySem.Within mA ns)
    (hs : findIn (hd.heap_1 w.params) (.ref 52) "__setattr__" = some (some (.builtin "object.__setattr__"))) (hl : findIn (hd.heap_1 w.params) (.ref 52) name = some none) (hsz : ns.length ≤ 100)
    (k : ∀ h' d' tk', Fr h₀ L h' m → News h₀ L h' [(e, excO t d'), (t, tup1 x)] → h'.Inst e 52 (fun y => if y = name then some v else mA y) → DxOk h₀ L t d' → PySem.Within (fun y => if y = name then some v else mA y) (name :: ns) → Q () { s with heap := h', toks := tk' }) :
    wpAny (model prog w) A (setAttr (.ref e) name v) Q E s := by
  have X := X₀.keeps F.keep
  obtain ⟨k0, k1, k2, k3, k5, hC⟩ := wf_cls X
  obtain ⟨hp, gn, dr, tks, os⟩ := s
  refine wf_store hC (looks_findIn X hs) (looks_findIn X hl) I (fun h' tk' I' hk hsame => ?_) hw hsz
  have he := (N _ (.head _)).1
  have ht := (N _ (.tail _ (.head _))).1
  have hen : e ≠ L := (N _ (.head _)).2.1
  have he0 : h₀.get? e = none := (N _ (.head _)).2.2
  have htn : t ≠ L := (N _ (.tail _ (.head _))).2.1
  have ht0 : h₀.get? t = none := (N _ (.tail _ (.head _))).2.2
  have hte : t ≠ e := fun q => by
    rw [show ((t, tup1 x) : Addr × Obj).1 = ((e, excO t d) : Addr × Obj).1 from q, he] at ht
    cases ht
  obtain ⟨o₁, ho₁, hc₁, hd₁, hs₁, hdx₁, hfr⟩ := hsame _ he
  obtain ⟨oc, od, odt, osl⟩ := o₁
  dsimp only at hc₁ hd₁ hs₁ hdx₁ hfr
  subst hc₁ hd₁ hs₁
  have notdx : ∀ b o, hp.get? b = some o → (∀ dx, d = some dx → b ≠ dx) → ∀ o₀ dx, hp.get? e = some o₀ → o₀.dict = some dx → b ≠ dx := fun b o hb q o₀ dx h1 h2 => by
    rw [show hp.get? e = _ from he] at h1
    cases h1
    exact q dx h2
  have F' : Fr h₀ L h' m := by
    obtain ⟨oL, es, ep, hL, r⟩ := F.ns
    refine ⟨⟨oL, es, ep, hk L oL hen.symm (notdx _ _ hL fun dx q => (D dx q).2.1.symm) hL, r⟩, fun b o q => hk b o (fun z => ?_) (notdx _ _ (F.keep b o q) fun dx z y => ?_) (F.keep b o q), F.above⟩
    · subst z; rw [he0] at q; cases q
    · subst y; rw [(D _ z).1] at q; cases q
  refine k h' od tk' F' (fun q hq => ?_) I' (fun dx q => ?_) (PySem.Within.cons name v hw)
  · simp only [List.mem_cons, List.not_mem_nil, or_false] at hq
    rcases hq with rfl | rfl
    · exact ⟨ho₁, hen, he0⟩
    · exact ⟨hk t _ hte (notdx _ _ ht fun dx q => (D dx q).2.2.symm) ht, htn, ht0⟩
  · rcases hfr dx q with z | z
    · exact D dx z
    · refine ⟨?_, fun y => ?_, fun y => ?_⟩
      · cases q0 : h₀.get? dx with
        | none => rfl
        | some o => have := F.keep _ _ q0; rw [z] at this; cases this
      · subst y
        obtain ⟨oL, es, ep, hL, r⟩ := F.ns
        rw [z] at hL; cases hL
      · subst y; rw [ht] at z; cases z

theorem wf_init_rule {Q : Value → Shared → Prop} {t0 : Addr} {o0 : Obj} (F : Fr h₀ L s.heap m) (X₀ : (hd.heap_1 w.params).In h₀) (N : News h₀ L s.heap [(e, excO t0 none), (t0, o0)])
    (k : ∀ h' t, Fr h₀ L h' m → News h₀ L h' [(e, excO t none), (t, tup1 x)] → h'.Inst e 52 (fun _ => none) → Q .none { s with heap := h' }) :
    wpAny (model prog w) A (call (.builtin "Exception.__init__") [.ref e, x]) Q E s := by
  have X := X₀.keeps F.keep
  obtain ⟨k0, k1, k2, k3, k5, hC⟩ := wf_cls X
  obtain ⟨hp, gn, dr, tks, os⟩ := s
  have he := (N _ (.head _)).1
  have hen : e ≠ L := (N _ (.head _)).2.1
  have he0 : h₀.get? e = none := (N _ (.head _)).2.2
  refine wf_init hC he ?_
  have he1 : (hp.push (tup1 x)).get? e = some (excO t0 none) := Heap.get?_push_of_some _ he
  have hne : e ≠ hp.objs.size := Nat.ne_of_lt (Heap.lt_size he)
  have he2 : ((hp.push (tup1 x)).update e (Obj.mapFields (·.setIfInBounds 0 (.ref hp.objs.size)))).get? e = some (excO hp.objs.size none) :=
    Heap.get?_update_self _ he1 rfl
  have oth : ∀ b o, b ≠ e → hp.get? b = some o → ((hp.push (tup1 x)).update e (Obj.mapFields (·.setIfInBounds 0 (.ref hp.objs.size)))).get? b = some o := fun b o hb q =>
    (Heap.get?_update_other _ _ (Ne.symm hb)).trans (Heap.get?_push_of_some _ q)
  have F' : Fr h₀ L ((hp.push (tup1 x)).update e (Obj.mapFields (·.setIfInBounds 0 (.ref hp.objs.size)))) m := by
    obtain ⟨oL, es, ep, hL, r⟩ := F.ns
    refine ⟨⟨oL, es, ep, oth _ _ hen.symm hL, r⟩, fun b o q => oth _ _ (fun z => ?_) (F.keep b o q), F.above⟩
    subst z; rw [he0] at q; cases q
  refine k _ hp.objs.size F' (fun q hq => ?_) ⟨_, he2, rfl, (fun c q => by cases q), .inl ⟨rfl, fun _ => rfl⟩⟩
  simp only [List.mem_cons, List.not_mem_nil, or_false] at hq
  rcases hq with rfl | rfl
  · exact ⟨he2, hen, he0⟩
  · refine ⟨(Heap.get?_update_other _ _ hne).trans (Heap.get?_push_size _ rfl), Nat.ne_of_gt F.ns.lt, ?_⟩
    cases q0 : h₀.get? hp.objs.size with
    | none => rfl
    | some o => exact absurd (Heap.lt_size (F.keep _ _ q0)) (Nat.lt_irrefl _)
end
example : True := by
  k_with "call builtin:Exception.__init__" => (k_here; k_dflt (apply wf_init_rule; (case F => k_asm); (case X₀ => k_asm); (case N => k_asm); (case' k => skip); intro _ _ _ _ _; (try k_sweep)))
  trivial
example : True := by
  k_with "setAttr ref" => (k_here; k_dflt (apply wf_set_rule; (case F => k_asm); (case X₀ => k_asm); (case N => k_asm); (case I => k_asm); (case D => first | assumption | exact fun _ q => nomatch q); (case hw => first | assumption | exact PySem.Within.nil); (case hs => k_is); (case hl => k_is); (case hsz => decide); (case' k => skip); intro _ _ _ _ _ _ _ _; (try k_sweep)))
  trivial

theorem wf_end {h₀ g hp h1 h' : Heap} {L L' e t t' : Addr} {m m' : Str → Option Value} {d : Option Addr} {x : Value} {args : List Value} {o1 o2 : Obj} {Q : Value → Shared → Prop} {gn : Array GenState} {dr : Drawn} {os : OsState} {tk tk0 : Nat}
    (ret : ∀ v news' h' tk', Fr h₀ L h' m → News h₀ L h' news' → Keeps L [] (⟨hp, gn, dr, tk0, os⟩ : Shared).heap h' → (∀ q ∈ news', q.1 ∈ ([] : Led).map (·.1) ∨ (⟨hp, gn, dr, tk0, os⟩ : Shared).heap.get? q.1 = none) → (fun v news' _ => ∃ e, v = .ref e ∧ ExcLed e news') v news' h' → Q v ⟨h', gn, dr, tk', os⟩)
    (hm : hp.MadeExcOf h1 e (.ref 52) args) (htn : hp.get? t = none) (hg : ∀ b o, (⟨h1, gn, dr, tk0, os⟩ : Shared).heap.get? b = some o → b ∉ [(e, o1), (t, o2)].map (·.1) → g.get? b = some o)
    (kF : Fr h₀ L h' m) (kN : News h₀ L h' [(e, excO t' d), (t', tup1 x)]) (gF : Fr g L' h' m') (gN : News g L' h' [(e, excO t' d), (t', tup1 x)]) : Q (.ref e) ⟨h', gn, dr, tk, os⟩ := by
  have up : ∀ b o, hp.get? b = some o → g.get? b = some o := fun b o q => hg b o (hm.keeps b o q) fun hm' => by
    simp only [List.map_cons, List.map_nil, List.mem_cons, List.not_mem_nil, or_false] at hm'
    rcases hm' with z | z
    · subst z; have := hm.new; rw [q] at this; cases this
    · subst z; rw [q] at htn; cases htn
  refine ret _ _ _ _ kF kN (fun b o q _ _ => gF.keep b o (up b o q)) (fun q hq => .inr ?_) ⟨e, rfl, _, _, _, .head _, .tail _ (.head _)⟩
  have := (gN q hq).2.2
  cases z : hp.get? q.1 with
  | none => rfl
  | some o => rw [up _ _ z] at this; cases this

theorem wf_c (w : World) (h : Heap) (what : Str) (t1 : Tok) (i : Int) (t2 : Tok) :
    Con w (hd.heap_1 w.params) 52 [.str what t1, .int i t2] 3 h [] (fun v news' _ => ∃ e, v = .ref e ∧ ExcLed e news') False := by
  intro prog p loose mean mg mb dp un gd cn cs a ccd cl outer A₀ base h₀ L m s Q E hh B F X N T hkf hd hu ret exc
  subst hh
  have X1 := X.keeps F.keep
  obtain ⟨k0, k1, k2, k3, k5, hC⟩ := wf_cls X1
  have hfI := in_of (a := 29) X1 (by k_dflt k_is)
  obtain ⟨hp, gn, dr, tks, os⟩ := s
  refine wf_call (fI := 29) hC (fun h' up => looks_findIn (X1.keeps up) (by k_dflt k_is)) hfI rfl (fun h1 e hm => ?_) (by simp [sizeLine_eq])
  obtain ⟨t, he, htn, ht⟩ := hm.there
  have F1 : Fr h₀ L h1 m := F.keeps hm.keeps
  have N1 : News h₀ L h1 [(e, excO t none), (t, { cls := .type "tuple", data := .seq [Value.str what t1, .int i t2].toArray })] := by
    have up0 : ∀ b, hp.get? b = none → b ≠ L ∧ h₀.get? b = none := fun b hb => by
      refine ⟨fun z => ?_, ?_⟩
      · subst z
        obtain ⟨oL, es, ep, hL, r⟩ := F.ns
        rw [show hp.get? b = _ from hL] at hb; cases hb
      · cases q0 : h₀.get? b with
        | none => rfl
        | some o => have := F.keep _ _ q0; rw [show hp.get? b = _ from this] at hb; cases hb
    intro q hq
    simp only [List.mem_cons, List.not_mem_nil, or_false] at hq
    rcases hq with rfl | rfl
    · exact ⟨he, up0 _ hm.new⟩
    · exact ⟨ht, up0 _ htn⟩
  replace X1 := X1.keeps hm.keeps
  refine wpAny_call ?_
  refine' enterG (binds := [(("self" : Str), .ref e), (("what" : Str), .str what t1), (("at" : Str), .int i t2)]) ?k1 ?k2 ?k3 ?k4 ?k5 ?kA ?kF ?kK ?k6 ?k7 ?k8 ?k9 ?kB ?_ ?c2 ?c3 ?c4 ?c5
  case kA => exact rfl
  case kF => exact rfl
  case kK => assumption
  case k1 => k_asm
  case k2 => k_asm
  case k3 => k_asm
  case k4 => k_asm
  case k5 => k_asm
  case k6 => k_is
  case k7 => k_is
  case k8 => ktr_room
  case k9 => first | exact BindsTo.of_eq rfl | exact binds_K (by k_in) rfl (by k_is) rfl rfl rfl
  case c5 => decide
  case kB => exact locs rfl
  case c2 => exact rfl
  case c3 => exact rfl
  case c4 => exact rfl
  k_whole
  intro g L' h' hg FG F' N' B' X' T'
  try dsimp only
  try k_fold
  k_steps
  refine' wf_end ret hm htn hg ?kF ?kN ?gF ?gN
  case kF => k_asm
  case kN => k_asm
  case gF => k_asm
  case gN => k_asm
end part_X2

example : True := by
  k_with "LeaveK" => (k_here; k_dflt (apply leave_con; (case hg => assumption); (case ret => assumption); (case F' => k_asm); (case N' => k_asm); (case' hp => skip)))
  trivial
theorem is_done_c (w : World) (h : Heap) (c : RdC) (pos : Nat) (tk : Tok) (ts sfx : List Tk) (hts : TL h c.l ts) (hs : ts.drop pos = sfx) :
    Con w (hd.heap_1 w.params) 210 [.ref c.r] 1 h (rdL w.params c pos tk) (fun v news' _ => v = .bool sfx.isEmpty ∧ news' = rdL w.params c pos tk) False := by
  intro prog p loose mean mg mb dp un gd cn cs a ccd cl outer A₀ base h₀ L m s Q E hh B F X N T hkf hd hu ret exc
  subst hh
  refine wpAny_call ?_
  refine' enterG (binds := [(("self" : Str), .ref c.r)]) ?k1 ?k2 ?k3 ?k4 ?k5 ?kA ?kF ?kK ?k6 ?k7 ?k8 ?k9 ?kB ?_ ?c2 ?c3 ?c4 ?c5
  case kA => exact rfl
  case kF => exact rfl
  case kK => assumption
  case k1 => k_asm
  case k2 => k_asm
  case k3 => k_asm
  case k4 => k_asm
  case k5 => k_asm
  case k6 => k_is
  case k7 => k_is
  case k8 => ktr_room
  case k9 => first | exact BindsTo.of_eq rfl | exact binds_K (by k_in) rfl (by k_is) rfl rfl rfl
  case c5 => decide
  case kB => exact locs rfl
  case c2 => exact rfl
  case c3 => exact rfl
  case c4 => exact rfl
  k_whole
  intro g L' h' hg FG F' N' B' X' T'
  try dsimp only
  try k_fold
  have hT : TL g c.l ts := hts.ground N hg
  obtain ⟨its, ep, hl, hz, hA⟩ := hT
  have hL : g.IsList c.l its := ⟨_, hl, rfl, ep, rfl⟩
  have hsz := hA.length
  k_steps
  refine Hold.mk ⟨?_, rfl⟩
  subst hs
  rw [Array.length_toList] at hsz
  congr 1
  rw [Bool.eq_iff_iff, decide_eq_true_eq, List.isEmpty_iff, List.drop_eq_nil_iff]
  omega

section
variable {prog : Program} {w : World} {p : Program} {loose : List Str} {mean : ExcName → Option Value} {mg mb : Str → Option Value}
    {dp un : Nat} {gd : Option (List Code)} {cn : Str} {cs : Scope} {a : Addr} {ccd : Value} {cl : List (Str × Addr)} {outer : List Env} {A₀ : Around} {base h₀ : Heap} {L : Addr} {m : Str → Option Value} {s : Shared} {Q E : Value → Shared → Prop}
    {c : RdC} {pos : Nat} {tk : Tok} {rest : Led} {ts sfx : List Tk}
def Apart (c : RdC) (rest : Led) : Prop := ∀ q ∈ rest, q.1 ≠ c.r ∧ q.1 ≠ c.d
theorem Apart.nil : Apart c [] := fun _ h => nomatch h
theorem Apart.cons {q : Addr × Obj} (h1 : q.1 ≠ c.r) (h2 : q.1 ≠ c.d) (h : Apart c rest) : Apart c (q :: rest) := fun x hx => by
  rcases List.mem_cons.mp hx with rfl | hx
  · exact ⟨h1, h2⟩
  · exact h x hx
theorem rd_rest {P : Params} (ha : Apart c rest) : ∀ q ∈ rest, q ∈ (c.r, instObj 262 c.d) :: (c.d, rdDict P c pos tk) :: rest ∧ q.1 ∉ (rdL P c pos tk).map (·.1) := fun q hq => by
  refine ⟨.tail _ (.tail _ hq), fun hm => ?_⟩
  simp only [rdL, List.map_cons, List.map_nil, List.mem_cons, List.not_mem_nil, or_false] at hm
  rcases hm with e | e
  · exact (ha q hq).1 e
  · exact (ha q hq).2 e
theorem rd_sub {P : Params} : ∀ q ∈ rdL P c pos tk, q ∈ (c.r, instObj 262 c.d) :: (c.d, rdDict P c pos tk) :: rest := fun q hq => by
  simp only [rdL, List.mem_cons, List.not_mem_nil, or_false] at hq ⊢
  rcases hq with rfl | rfl
  · exact .inl rfl
  · exact .inr (.inl rfl)
theorem rd_ne {P : Params} {h : Heap} (N : News h₀ L h (rdL P c pos tk)) : c.r ≠ c.d := fun e => by
  have h1 := (N _ (.head _)).1
  have h2 := (N _ (.tail _ (.head _))).1
  rw [show ((c.r, instObj 262 c.d) : Addr × Obj).1 = ((c.d, rdDict P c pos tk) : Addr × Obj).1 from e] at h1
  rw [h1] at h2
  cases h2

def okCls (o : Obj) : Bool := o.cls != .ref 262 && o.cls != .type "dict"
/-- no entry of the rest is the reader's -/
def Off (c : RdC) (rest : Led) : Prop := ∀ q ∈ rest, (q.1 ≠ c.r ∧ q.1 ≠ c.d) ∨ okCls q.2 = true
theorem Off.nil : Off c [] := fun _ h => nomatch h
theorem Off.of (h : Apart c rest) : Off c rest := fun q hq => .inl (h q hq)
theorem Off.app {r1 r2 : Led} (h1 : Off c r1) (h2 : Off c r2) : Off c (r1 ++ r2) := fun q hq => (List.mem_append.mp hq).elim (h1 q) (h2 q)
theorem Off.cls {q : Addr × Obj} (h1 : okCls q.2 = true) (h : Off c rest) : Off c (q :: rest) := fun x hx => by
  rcases List.mem_cons.mp hx with rfl | hx
  · exact .inr h1
  · exact h x hx
theorem Off.cons {q : Addr × Obj} (h1 : q.1 ≠ c.r ∧ q.1 ≠ c.d) (h : Off c rest) : Off c (q :: rest) := fun x hx => by
  rcases List.mem_cons.mp hx with rfl | hx
  · exact .inl h1
  · exact h x hx
theorem Off.apart {P : Params} {h : Heap} {all : Led} (H : Off c rest) (N : News h₀ L h all) (hr : ∀ q ∈ rdL P c pos tk, q ∈ all) (hs : ∀ q ∈ rest, q ∈ all) : Apart c rest := fun q hq => by
  rcases H q hq with z | z
  · exact z
  · have n1 := (N _ (hr _ (.head _))).1
    have n2 := (N _ (hr _ (.tail _ (.head _)))).1
    have nq := (N q (hs q hq)).1
    refine ⟨fun e => ?_, fun e => ?_⟩
    · rw [e, n1] at nq
      rw [← Option.some.inj nq] at z
      exact Bool.noConfusion (z.symm.trans (show okCls (instObj 262 c.d) = false from rfl))
    · rw [e, n2] at nq
      rw [← Option.some.inj nq] at z
      exact Bool.noConfusion (z.symm.trans (show okCls (rdDict P c pos tk) = false from rfl))
theorem rd_useG {f : Addr} {args : List Value} {need : Nat} {post : Value → Led → Heap → Prop} {rz : Prop} {K : Frag} {all : Led}
    (B : Below A₀ base outer h₀) (F : Fr h₀ L s.heap m) (X : K.In h₀) (N : News h₀ L s.heap all) (hr : ∀ q ∈ rdL w.params c pos tk, q ∈ all) (hr2 : ∀ q ∈ rest, q ∈ all) (T : Top p loose mean mg mb h₀)
    (hts : TL h₀ c.l ts) (C : TL s.heap c.l ts → (∀ b o, h₀.get? b = some o → s.heap.get? b = some o) → Con w K f args need s.heap (rdL w.params c pos tk) post rz)
    (hk : cs.kind = .function) (hd : dp + need < recursionLimit) (hu : un + 8 * need < cLine) (ha : Off c rest)
    (k : ∀ v news' h' tk', post v news' h' → (∀ q ∈ news', q.1 ∈ (rdL w.params c pos tk).map (·.1) ∨ s.heap.get? q.1 = none) → Fr h₀ L h' m → News h₀ L h' (news' ++ rest) → Q v { s with heap := h', toks := tk' })
    (e : ∀ e t vs G h' tk', rz → Fr h₀ L G m → RaisedS base G (envX cn cs L a ccd cl :: outer) e (.ref 52) t vs [] h' → G.UpToSlots h' → E (.ref e) { s with heap := h', toks := tk' }) :
    wpAny (model prog w) (ktrTop dp un gd cn cs L a ccd cl outer) (call (.ref f) args) Q E s :=
  Con.use rest (C (hts.up F.keep) F.keep) B F X N T hk hd hu hr (fun q hq => ⟨hr2 q hq, (rd_rest (P := w.params) (pos := pos) (tk := tk) (ha.apart N hr hr2) q hq).2⟩) k e
theorem rd_use {f : Addr} {args : List Value} {need : Nat} {post : Value → Led → Heap → Prop} {rz : Prop} {K : Frag}
    (B : Below A₀ base outer h₀) (F : Fr h₀ L s.heap m) (X : K.In h₀) (N : News h₀ L s.heap ((c.r, instObj 262 c.d) :: (c.d, rdDict w.params c pos tk) :: rest)) (T : Top p loose mean mg mb h₀)
    (hts : TL h₀ c.l ts) (C : TL s.heap c.l ts → (∀ b o, h₀.get? b = some o → s.heap.get? b = some o) → Con w K f args need s.heap (rdL w.params c pos tk) post rz)
    (hk : cs.kind = .function) (hd : dp + need < recursionLimit) (hu : un + 8 * need < cLine) (ha : Off c rest)
    (k : ∀ v news' h' tk', post v news' h' → (∀ q ∈ news', q.1 ∈ (rdL w.params c pos tk).map (·.1) ∨ s.heap.get? q.1 = none) → Fr h₀ L h' m → News h₀ L h' (news' ++ rest) → Q v { s with heap := h', toks := tk' })
    (e : ∀ e t vs G h' tk', rz → Fr h₀ L G m → RaisedS base G (envX cn cs L a ccd cl :: outer) e (.ref 52) t vs [] h' → G.UpToSlots h' → E (.ref e) { s with heap := h', toks := tk' }) :
    wpAny (model prog w) (ktrTop dp un gd cn cs L a ccd cl outer) (call (.ref f) args) Q E s :=
  rd_useG B F X N (all := _) rd_sub (fun q hq => .tail _ (.tail _ hq)) T hts C hk hd hu ha k e
theorem rd_use1 {f : Addr} {args : List Value} {need : Nat} {post : Value → Led → Heap → Prop} {rz : Prop} {K : Frag} {x1 : Addr × Obj}
    (B : Below A₀ base outer h₀) (F : Fr h₀ L s.heap m) (X : K.In h₀) (N : News h₀ L s.heap (x1 :: (c.r, instObj 262 c.d) :: (c.d, rdDict w.params c pos tk) :: rest)) (T : Top p loose mean mg mb h₀)
    (hts : TL h₀ c.l ts) (C : TL s.heap c.l ts → (∀ b o, h₀.get? b = some o → s.heap.get? b = some o) → Con w K f args need s.heap (rdL w.params c pos tk) post rz)
    (hk : cs.kind = .function) (hd : dp + need < recursionLimit) (hu : un + 8 * need < cLine) (ha : Off c (x1 :: rest))
    (k : ∀ v news' h' tk', post v news' h' → (∀ q ∈ news', q.1 ∈ (rdL w.params c pos tk).map (·.1) ∨ s.heap.get? q.1 = none) → Fr h₀ L h' m → News h₀ L h' (news' ++ x1 :: rest) → Q v { s with heap := h', toks := tk' })
    (e : ∀ e t vs G h' tk', rz → Fr h₀ L G m → RaisedS base G (envX cn cs L a ccd cl :: outer) e (.ref 52) t vs [] h' → G.UpToSlots h' → E (.ref e) { s with heap := h', toks := tk' }) :
    wpAny (model prog w) (ktrTop dp un gd cn cs L a ccd cl outer) (call (.ref f) args) Q E s :=
  rd_useG B F X N (fun q hq => .tail _ (rd_sub q hq)) (fun q hq => by
    rcases List.mem_cons.mp hq with rfl | hq
    · exact .head _
    · exact .tail _ (.tail _ (.tail _ hq))) T hts C hk hd hu ha k e
theorem rd_use2 {f : Addr} {args : List Value} {need : Nat} {post : Value → Led → Heap → Prop} {rz : Prop} {K : Frag} {x1 x2 : Addr × Obj}
    (B : Below A₀ base outer h₀) (F : Fr h₀ L s.heap m) (X : K.In h₀) (N : News h₀ L s.heap (x1 :: x2 :: (c.r, instObj 262 c.d) :: (c.d, rdDict w.params c pos tk) :: rest)) (T : Top p loose mean mg mb h₀)
    (hts : TL h₀ c.l ts) (C : TL s.heap c.l ts → (∀ b o, h₀.get? b = some o → s.heap.get? b = some o) → Con w K f args need s.heap (rdL w.params c pos tk) post rz)
    (hk : cs.kind = .function) (hd : dp + need < recursionLimit) (hu : un + 8 * need < cLine) (ha : Off c (x1 :: x2 :: rest))
    (k : ∀ v news' h' tk', post v news' h' → (∀ q ∈ news', q.1 ∈ (rdL w.params c pos tk).map (·.1) ∨ s.heap.get? q.1 = none) → Fr h₀ L h' m → News h₀ L h' (news' ++ x1 :: x2 :: rest) → Q v { s with heap := h', toks := tk' })
    (e : ∀ e t vs G h' tk', rz → Fr h₀ L G m → RaisedS base G (envX cn cs L a ccd cl :: outer) e (.ref 52) t vs [] h' → G.UpToSlots h' → E (.ref e) { s with heap := h', toks := tk' }) :
    wpAny (model prog w) (ktrTop dp un gd cn cs L a ccd cl outer) (call (.ref f) args) Q E s :=
  rd_useG B F X N (fun q hq => .tail _ (.tail _ (rd_sub q hq))) (fun q hq => by
    rcases List.mem_cons.mp hq with rfl | hq
    · exact .head _
    rcases List.mem_cons.mp hq with rfl | hq
    · exact .tail _ (.head _)
    · exact .tail _ (.tail _ (.tail _ (.tail _ hq)))) T hts C hk hd hu ha k e
theorem no_raise {R : Addr → Addr → List Value → Heap → Heap → Nat → Prop} {S : Addr → Addr → List Value → Heap → Heap → Nat → Prop} {U : Addr → Addr → List Value → Heap → Heap → Nat → Prop} {V : Addr → Heap → Nat → Prop} :
    ∀ e t vs G h' tk', False → R e t vs G h' tk' → S e t vs G h' tk' → U e t vs G h' tk' → V e h' tk' := fun _ _ _ _ _ _ h => h.elim

theorem tok_item {l : Addr} {value slice : PySem.Expr} {u : Tok} {t : Tk} {r : List Tk} {A : Around} (F : Fr h₀ L s.heap m) (hts : TL h₀ l ts) (hs : ts.drop pos = t :: r) (h : ∀ v, TokIn h₀ v t → TokAt h₀ l pos v → Q v s)
    (hsb : subscripted slice false (.ref l) (.int pos u) = operate [.ref l, .int pos u] (getItem (.ref l) (.int pos u)) := by with_unfolding_all rfl) :
    wpAny (model prog w) A (subscriptTail value slice (.ref l) (.int pos u)) Q E s := by
  obtain ⟨its, ep, hl, hz, hA⟩ := hts
  have hL : s.heap.IsList l its := ⟨_, F.keep _ _ hl, rfl, ep, rfl⟩
  obtain ⟨v, hv, ht⟩ := hA.get hs
  have hlt : pos < its.size := by
    have := (List.getElem?_eq_some_iff.mp hv).1
    simpa using this
  exact tail_any hL.typeIs slot_list_getitem.lookup (wpAny_getItem_list hL (Int.natCast_nonneg _) (by omega) (by simpa using hv) (h v ht ⟨its, ep, hl, by simpa using hv⟩)) hsb
theorem tok_part {value slice : PySem.Expr} {u : Tok} {k : Int} {j : Nat} {x : Value} {t : Tk} {A : Around} (F : Fr h₀ L s.heap m) {ta : Addr} {t1 t2 t3 : Tok} {i : Int} {n : Nat} (ht : h₀.get? ta = some (tokO t.k.str t1 t.w t2 i t3 n))
    (hlo : -(2 ^ 63) ≤ k) (hhi : k < 2 ^ 63) (hj : seqIndex? k 3 = some j) (hx : [Value.str t.k.str t1, .bytes ⟨t.w⟩ t2, .int i t3][j]? = some x) (h : Q x s)
    (hsb : subscripted slice false (.ref ta) (.int k u) = operate [.ref ta, .int k u] (getItem (.ref ta) (.int k u)) := by with_unfolding_all rfl) :
    wpAny (model prog w) A (subscriptTail value slice (.ref ta) (.int k u)) Q E s :=
  item_tupleT (l := [Value.str t.k.str t1, .bytes ⟨t.w⟩ t2, .int i t3]) ⟨_, F.keep _ _ ht, rfl, _, rfl⟩ hlo hhi hj hx h hsb
end

theorem kEq {R : Value → Led → Heap → Nat → Prop} {V : Value} {N : Led} (k : ∀ h tk, R V N h tk) : ∀ v n h tk, (v = V ∧ n = N) → R v n h tk := fun _ _ h tk hp => by
  obtain ⟨rfl, rfl⟩ := hp; exact k h tk
theorem kTk {R : Value → Led → Heap → Nat → Prop} {V : Tok → Value} {N : Led} (k : ∀ t h tk, R (V t) N h tk) : ∀ v n h tk, ((∃ t, v = V t) ∧ n = N) → R v n h tk := fun _ _ h tk hp => by
  obtain ⟨⟨t, rfl⟩, rfl⟩ := hp; exact k t h tk
theorem kSkip {R : Value → Led → Heap → Nat → Prop} {A B C : Prop} {V W : Value} {M : Nat → Led} {N : Led} (k1 : ∀ t h tk, A → B → R V (M t) h tk) (k2 : ∀ h tk, C → R W N h tk) :
    ∀ v n h tk, ((A ∧ B ∧ v = V ∧ ∃ t, n = M t) ∨ (C ∧ v = W ∧ n = N)) → R v n h tk := fun _ _ h tk hp => by
  rcases hp with ⟨a, b, rfl, t, rfl⟩ | ⟨c, rfl, rfl⟩
  · exact k1 t h tk a b
  · exact k2 h tk c
section
variable {R : Value → Led → Heap → Nat → Prop} {α β γ δ ε : Type}
theorem kNeed {A B : Prop} {V : Value} {M : α → Led} (k : ∀ t h tk, A → B → R V (M t) h tk) : ∀ v n h tk, (A ∧ B ∧ v = V ∧ ∃ t, n = M t) → R v n h tk := fun _ _ h tk hp => by
  obtain ⟨a, b, rfl, t, rfl⟩ := hp; exact k t h tk a b
theorem kWords {V : α → β → γ → δ → ε → Value} {M : α → β → γ → δ → ε → Led} {C D : α → β → γ → δ → ε → Prop} (k : ∀ a b c d e h tk, C a b c d e → D a b c d e → R (V a b c d e) (M a b c d e) h tk) :
    ∀ v n h tk, (∃ a b c d e, v = V a b c d e ∧ n = M a b c d e ∧ C a b c d e ∧ D a b c d e) → R v n h tk := fun _ _ h tk hp => by
  obtain ⟨a, b, c, d, e, rfl, rfl, x, y⟩ := hp; exact k a b c d e h tk x y
theorem kDom {V : α → β → γ → δ → ε → Value} {M : α → β → γ → δ → ε → Led} {A D : α → β → γ → δ → ε → Prop} (k : ∀ a b c d e h tk, A a b c d e → D a b c d e → R (V a b c d e) (M a b c d e) h tk) :
    ∀ v n h tk, (∃ a b c d e, A a b c d e ∧ v = V a b c d e ∧ n = M a b c d e ∧ D a b c d e) → R v n h tk := fun _ _ h tk hp => by
  obtain ⟨a, b, c, d, e, x, rfl, rfl, y⟩ := hp; exact k a b c d e h tk x y
theorem kPass {V : α → β → γ → Value} {M : α → β → γ → Led} {A D : α → β → γ → Prop} (k : ∀ a b c h tk, A a b c → D a b c → R (V a b c) (M a b c) h tk) :
    ∀ v n h tk, (∃ a b c, A a b c ∧ v = V a b c ∧ n = M a b c ∧ D a b c) → R v n h tk := fun _ _ h tk hp => by
  obtain ⟨a, b, c, x, rfl, rfl, y⟩ := hp; exact k a b c h tk x y
theorem kLoc {A : Prop} {V : α → Value} {N : Led} (k : ∀ t h tk, A → R (V t) N h tk) : ∀ v n h tk, (A ∧ (∃ t, v = V t) ∧ n = N) → R v n h tk := fun _ _ h tk hp => by
  obtain ⟨a, ⟨t, rfl⟩, rfl⟩ := hp; exact k t h tk a
theorem kTake {A : Value → Prop} {C : Prop} {M : α → Led} {g : Heap} {t : Tk} (k : ∀ a t1 t2 i t3 n x h tk, A (.ref a) → (0 : Int) ≤ i → g.get? a = some (tokO t.k.str t1 t.w t2 i t3 n) → C → R (.ref a) (M x) h tk) :
    ∀ v n h tk, (A v ∧ TokIn g v t ∧ C ∧ ∃ x, n = M x) → R v n h tk := fun _ _ h tk hp => by
  obtain ⟨p, ⟨a, t1, t2, i, t3, n, rfl, hi, ho⟩, q, x, rfl⟩ := hp; exact k a t1 t2 i t3 n x h tk p hi ho q
end
example : True := by
  k_with "zz off" => (repeat (first | exact Off.nil | assumption | exact Off.of (by assumption) | exact AllTup.off (by assumption) | refine Off.cls rfl ?_ | refine Off.app (by assumption) ?_))
  k_with "zz end" => ((try dsimp only [List.isEmpty, List.cons_append, List.nil_append] at *); (try k_sweep))
  k_with "zz h5" => (case B | F | X | N | T => k_asm)
  k_with "zz rd" => ((first | (apply rd_use; walk_at "zz h5") | (apply rd_use1; walk_at "zz h5") | (apply rd_use2; walk_at "zz h5")); (case hts => k_asm); (case' C => skip))
  k_with "zz rd2" => (walk_at "zz u2"; (case ha => walk_at "zz off"); (try (case e => exact no_raise)); (case' k => skip))
  k_with "zz u2" => ((case hk => exact rfl); (case hd => ktr_room); (case hu => ktr_units); (case' k => skip))
  k_with "zz sb" => ((try (exact absurd ((by assumption : standsB _ _ = true).symm.trans (by assumption : standsB _ _ = false)) (by decide))); (try (exact absurd ((by assumption : standsB _ _ = false).symm.trans (by assumption : standsB _ _ = true)) (by decide))))
  trivial
example : True := by
  k_with "call ref" => (k_here; (with_reducible show wpAny _ _ (call (Value.ref 210) _) _ _ _); k_dflt (walk_at "zz rd"; (focus exact (fun q kp => is_done_c _ _ _ _ _ _ _ q (by k_asm))); walk_at "zz rd2"; (refine kEq ?_); intro _ _ _ _ _; walk_at "zz end"))
  trivial
example : True := by
  k_with "subscriptTail" => (k_here; (with_reducible show wpAny _ _ (subscriptTail _ _ (Value.ref _) (Value.int _ _)) _ _ _); k_dflt (apply tok_item; (case F => k_asm); (case hts => k_asm); (case hs => k_asm); (case hsb => with_unfolding_all rfl); (case' h => skip); intro _ zt1 _; (obtain ⟨_, _, _, _, _, _, rfl, _, _⟩ := zt1)))
  trivial
example : True := by
  k_with "subscriptTail" => (k_here; (with_reducible show wpAny _ _ (subscriptTail _ _ (Value.ref _) (Value.int _ _)) _ _ _); k_dflt (apply tok_part; (case F => k_asm); (case ht => k_asm); (case hlo => decide); (case hhi => decide); (case hj => exact rfl); (case hx => exact rfl); (case hsb => with_unfolding_all rfl); (case' h => skip)))
  trivial

def kindOf : List Tk → Str
  | [] => ""
  | t :: _ => t.k.str
theorem kind_c (w : World) (h : Heap) (c : RdC) (pos : Nat) (tk : Tok) (ts sfx : List Tk) (hts : TL h c.l ts) (hs : ts.drop pos = sfx) :
    Con w (hd.heap_1 w.params) 217 [.ref c.r] 2 h (rdL w.params c pos tk) (fun v news' _ => (∃ t, v = .str (kindOf sfx) t) ∧ news' = rdL w.params c pos tk) False := by
  intro prog p loose mean mg mb dp un gd cn cs a ccd cl outer A₀ base h₀ L m s Q E hh B F X N T hkf hd hu ret exc
  subst hh
  refine wpAny_call ?_
  refine' enterG (binds := [(("self" : Str), .ref c.r)]) ?k1 ?k2 ?k3 ?k4 ?k5 ?kA ?kF ?kK ?k6 ?k7 ?k8 ?k9 ?kB ?_ ?c2 ?c3 ?c4 ?c5
  case kA => exact rfl
  case kF => exact rfl
  case kK => assumption
  case k1 => k_asm
  case k2 => k_asm
  case k3 => k_asm
  case k4 => k_asm
  case k5 => k_asm
  case k6 => k_is
  case k7 => k_is
  case k8 => ktr_room
  case k9 => first | exact BindsTo.of_eq rfl | exact binds_K (by k_in) rfl (by k_is) rfl rfl rfl
  case c5 => decide
  case kB => exact locs rfl
  case c2 => exact rfl
  case c3 => exact rfl
  case c4 => exact rfl
  k_whole
  intro g L' h' hg FG F' N' B' X' T'
  try dsimp only
  try k_fold
  have hT : TL g c.l ts := hts.ground N hg
  cases sfx with
  | nil =>
    k_steps
    exact Hold.mk ⟨⟨_, rfl⟩, rfl⟩
  | cons t r =>
    k_steps
    exact Hold.mk ⟨⟨_, rfl⟩, rfl⟩

example : True := by
  k_with "call ref" => (k_here; (with_reducible show wpAny _ _ (call (Value.ref 217) _) _ _ _); k_dflt (walk_at "zz rd"; (focus exact (fun q kp => kind_c _ _ _ _ _ _ _ q (by k_asm))); walk_at "zz rd2"; (refine kTk ?_); intro _ _ _ _ _ _; walk_at "zz end"))
  trivial

def standsB (sfx : List Tk) (w : List UInt8) : Bool := match sfx with
  | [] => false
  | t :: _ => t.k == .sign && t.w == w
theorem kd_sign (k : Kd) : (k.str == ("sign" : Str)) = (k == .sign) := by
  cases k <;> decide
theorem stands_c (w : World) (h : Heap) (c : RdC) (pos : Nat) (tk : Tok) (ts sfx : List Tk) (b : Array UInt8) (tb : Tok) (hts : TL h c.l ts) (hs : ts.drop pos = sfx) :
    Con w (hd.heap_1 w.params) 224 [.ref c.r, .bytes b tb] 3 h (rdL w.params c pos tk) (fun v news' _ => v = .bool (standsB sfx b.toList) ∧ news' = rdL w.params c pos tk) False := by
  intro prog p loose mean mg mb dp un gd cn cs a ccd cl outer A₀ base h₀ L m s Q E hh B F X N T hkf hd hu ret exc
  subst hh
  refine wpAny_call ?_
  refine' enterG (binds := [(("self" : Str), .ref c.r), (("sign" : Str), .bytes b tb)]) ?k1 ?k2 ?k3 ?k4 ?k5 ?kA ?kF ?kK ?k6 ?k7 ?k8 ?k9 ?kB ?_ ?c2 ?c3 ?c4 ?c5
  case kA => exact rfl
  case kF => exact rfl
  case kK => assumption
  case k1 => k_asm
  case k2 => k_asm
  case k3 => k_asm
  case k4 => k_asm
  case k5 => k_asm
  case k6 => k_is
  case k7 => k_is
  case k8 => ktr_room
  case k9 => first | exact BindsTo.of_eq rfl | exact binds_K (by k_in) rfl (by k_is) rfl rfl rfl
  case c5 => decide
  case kB => exact locs rfl
  case c2 => exact rfl
  case c3 => exact rfl
  case c4 => exact rfl
  k_whole
  intro g L' h' hg FG F' N' B' X' T'
  try dsimp only
  try k_fold
  have hT : TL g c.l ts := hts.ground N hg
  cases sfx with
  | nil =>
    k_steps
    exact Hold.mk ⟨rfl, rfl⟩
  | cons t r =>
    k_steps
    · refine Hold.mk ⟨congrArg Value.bool ?_, rfl⟩
      have hq' : (kindOf (t :: r) == ("sign" : Str)) = true := by assumption
      replace hq' : (t.k.str == ("sign" : Str)) = true := hq'
      rw [kd_sign] at hq'
      simp only [standsB, hq', Bool.true_and]
    · refine Hold.mk ⟨congrArg Value.bool ?_, rfl⟩
      have hq' : (kindOf (t :: r) == ("sign" : Str)) = false := by assumption
      replace hq' : (t.k.str == ("sign" : Str)) = false := hq'
      show (t.k.str == ("sign" : Str)) = _
      rw [hq']
      rw [kd_sign] at hq'
      simp only [standsB, hq', Bool.false_and]
example : True := by
  k_with "call ref" => (k_here; (with_reducible show wpAny _ _ (call (Value.ref 224) _) _ _ _); k_dflt (walk_at "zz rd"; (focus exact (fun q kp => stands_c _ _ _ _ _ _ _ _ _ q (by k_asm))); walk_at "zz rd2"; (refine kEq ?_); intro _ _ _ _ _; walk_at "zz end"))
  trivial

/-- the token at the reader's place is handed out -/
theorem take_c (w : World) (h : Heap) (c : RdC) (pos : Nat) (tk : Tok) (ts : List Tk) (t : Tk) (r : List Tk) (hts : TL h c.l ts) (hs : ts.drop pos = t :: r) :
    Con w (hd.heap_1 w.params) 231 [.ref c.r] 1 h (rdL w.params c pos tk) (fun v news' _ => TokAt h c.l pos v ∧ ts.drop (pos + 1) = r ∧ ∃ tk', news' = rdL w.params c (pos + 1) tk') False := by
  intro prog p loose mean mg mb dp un gd cn cs a ccd cl outer A₀ base h₀ L m s Q E hh B F X N T hkf hd hu ret exc
  subst hh
  have hne := rd_ne N
  refine wpAny_call ?_
  refine' enterG (binds := [(("self" : Str), .ref c.r)]) ?k1 ?k2 ?k3 ?k4 ?k5 ?kA ?kF ?kK ?k6 ?k7 ?k8 ?k9 ?kB ?_ ?c2 ?c3 ?c4 ?c5
  case kA => exact rfl
  case kF => exact rfl
  case kK => assumption
  case k1 => k_asm
  case k2 => k_asm
  case k3 => k_asm
  case k4 => k_asm
  case k5 => k_asm
  case k6 => k_is
  case k7 => k_is
  case k8 => ktr_room
  case k9 => first | exact BindsTo.of_eq rfl | exact binds_K (by k_in) rfl (by k_is) rfl rfl rfl
  case c5 => decide
  case kB => exact locs rfl
  case c2 => exact rfl
  case c3 => exact rfl
  case c4 => exact rfl
  k_whole
  intro g L' h' hg FG F' N' B' X' T'
  try dsimp only
  try k_fold
  have hT : TL g c.l ts := hts.ground N hg
  k_steps
  refine Hold.mk ⟨TokAt.down (h := g) (by assumption) hts fun b o e q => hg b o e (rd_apart N e q), ?_, _, rfl⟩
  have := congrArg List.tail hs
  rwa [List.tail_drop] at this

theorem Con.mono {w : World} {K : Frag} {f : Addr} {args : List Value} {need : Nat} {h : Heap} {nw : Led} {post post' : Value → Led → Heap → Prop} {rz : Prop} (C : Con w K f args need h nw post rz) (k : ∀ v n h', post v n h' → post' v n h') : Con w K f args need h nw post' rz :=
  fun prog p loose mean mg mb dp un gd cn cs a ccd cl outer A₀ base h₀ L m s Q E hh B F X N T hkf hd hu ret exc =>
    C prog p loose mean mg mb dp un gd cn cs a ccd cl outer A₀ base h₀ L m s Q E hh B F X N T hkf hd hu (fun v n h' tk' a b c d e => ret v n h' tk' a b c d (k v n h' e)) exc
theorem take_at {w : World} {h₀ h : Heap} {c : RdC} {pos : Nat} {tk : Tok} {ts : List Tk} {t : Tk} {r : List Tk} (hts : TL h c.l ts) (ht0 : TL h₀ c.l ts) (kp : ∀ b o, h₀.get? b = some o → h.get? b = some o) (hs : ts.drop pos = t :: r) :
    Con w (hd.heap_1 w.params) 231 [.ref c.r] 1 h (rdL w.params c pos tk) (fun v news' _ => TokAt h₀ c.l pos v ∧ TokIn h₀ v t ∧ ts.drop (pos + 1) = r ∧ ∃ tk', news' = rdL w.params c (pos + 1) tk') False :=
  (take_c w h c pos tk ts t r hts hs).mono fun v n h' z => ⟨z.1.down ht0 fun b o e _ => kp b o e, (z.1.down ht0 fun b o e _ => kp b o e).tok ht0 hs, z.2⟩
theorem drop_tail {α : Type} {ts sfx : List α} {pos : Nat} (hs : ts.drop pos = sfx) : ts.drop (pos + 1) = sfx.tail := by
  rw [← hs, List.tail_drop]
/-- the reader goes on if the sign stands there -/
theorem skip_c (w : World) (h : Heap) (c : RdC) (pos : Nat) (tk : Tok) (ts sfx : List Tk) (b : Array UInt8) (tb : Tok) (hts : TL h c.l ts) (hs : ts.drop pos = sfx) :
    Con w (hd.heap_1 w.params) 238 [.ref c.r, .bytes b tb] 4 h (rdL w.params c pos tk) (fun v news' _ =>
      (standsB sfx b.toList = true ∧ ts.drop (pos + 1) = sfx.tail ∧ v = .bool true ∧ ∃ tk', news' = rdL w.params c (pos + 1) tk') ∨ (standsB sfx b.toList = false ∧ v = .bool false ∧ news' = rdL w.params c pos tk)) False := by
  intro prog p loose mean mg mb dp un gd cn cs a ccd cl outer A₀ base h₀ L m s Q E hh B F X N T hkf hd hu ret exc
  subst hh
  have hne := rd_ne N
  refine wpAny_call ?_
  refine' enterG (binds := [(("self" : Str), .ref c.r), (("sign" : Str), .bytes b tb)]) ?k1 ?k2 ?k3 ?k4 ?k5 ?kA ?kF ?kK ?k6 ?k7 ?k8 ?k9 ?kB ?_ ?c2 ?c3 ?c4 ?c5
  case kA => exact rfl
  case kF => exact rfl
  case kK => assumption
  case k1 => k_asm
  case k2 => k_asm
  case k3 => k_asm
  case k4 => k_asm
  case k5 => k_asm
  case k6 => k_is
  case k7 => k_is
  case k8 => ktr_room
  case k9 => first | exact BindsTo.of_eq rfl | exact binds_K (by k_in) rfl (by k_is) rfl rfl rfl
  case c5 => decide
  case kB => exact locs rfl
  case c2 => exact rfl
  case c3 => exact rfl
  case c4 => exact rfl
  k_whole
  intro g L' h' hg FG F' N' B' X' T'
  try dsimp only
  try k_fold
  have hT : TL g c.l ts := hts.ground N hg
  k_steps
  · have hq : standsB sfx b.toList = true := by assumption
    exact Hold.mk (.inl ⟨hq, drop_tail hs, rfl, _, rfl⟩)
  · have hq : standsB sfx b.toList = false := by assumption
    exact Hold.mk (.inr ⟨hq, rfl, rfl⟩)
example : True := by
  k_with "call ref" => (k_here; (with_reducible show wpAny _ _ (call (Value.ref 238) _) _ _ _); k_dflt (walk_at "zz rd"; (focus exact (fun q kp => skip_c _ _ _ _ _ _ _ _ _ q (by k_asm))); walk_at "zz rd2"; (first | (refine kSkip ?_ ?_)); (all_goals (intros; walk_at "zz sb"; walk_at "zz end"))))
  trivial
example : True := by
  k_with "call ref" => (k_here; (with_reducible show wpAny _ _ (call (Value.ref 231) _) _ _ _); k_dflt (walk_at "zz rd"; (focus exact (fun q kp => take_at q (by k_asm) kp (by k_asm))); walk_at "zz rd2"; (refine kTake ?_); iterate 16 (intro _); walk_at "zz end"))
  trivial
section
variable {M : Model} {A : Around} {E : Value → Shared → Prop} {s : Shared} {env : Env} {k0 k1 k2 k3 k5 : Option Value}
theorem wf_raiseStmt {x : Sem Value} {Q : Flow → Shared → Prop} (hh : A.handled = none)
    (h : wpAny M A x (fun v s₁ => ∃ e t d k0 k1 k2 k3 k5, v = .ref e ∧ s₁.heap.get? 52 = some (wfCls k0 k1 k2 k3 k5) ∧ s₁.heap.get? e = some (excO t d) ∧ E (.ref e) s₁) E s) :
    wpAny M A (raiseStmt env (some x) none) Q E s := by
  have hcB : (Value.ref 52 :: wfBm).contains (.type "BaseException") = true := by decide
  unfold raiseStmt
  refine wpAny_bind (wpAny_mono h (fun v s₁ h₁ => ?_) fun _ _ x => x)
  obtain ⟨e, t, d, k0, k1, k2, k3, k5, rfl, hC, he, hE⟩ := h₁
  obtain ⟨hp, g, dr, tk, os⟩ := s₁
  repeat (first | with_reducible refine wpAny_loadPart_at he ?_ | with_reducible refine wpAny_loadPart_at hC ?_ | (with_reducible refine wpAny_isSubtype_exc hC ?_; rw [hcB]) | wp_step)
  exact wpAny_raiseNew_none hh hE
theorem wf_Raise {x : PySem.Expr} {pos : Pos} {Q : Flow → Shared → Prop} (hh : A.handled = none)
    (h : wpAny M A (eval x env) (fun v s₁ => ∃ e t d k0 k1 k2 k3 k5, v = .ref e ∧ s₁.heap.get? 52 = some (wfCls k0 k1 k2 k3 k5) ∧ s₁.heap.get? e = some (excO t d) ∧ E (.ref e) s₁) E s) :
    wpAny M A (exec (.Raise (some x) none pos) env) Q E s := by
  show wpAny M A (standAt pos >>= fun _ => raiseStmt env (some (eval x env >>= fun v => standAt pos >>= fun _ => pure v)) none) Q E s
  refine wpAny_bind (wpAny_standAt (wf_raiseStmt hh (wpAny_bind (wpAny_mono h (fun v s₁ q => ?_) fun _ _ q => q))))
  exact wpAny_bind (wpAny_standAt (wpAny_pure q))
end
section
variable {prog : Program} {w : World} {A : Around} {E : Value → Shared → Prop} {s : Shared} {h₀ : Heap} {L e t : Addr} {m : Str → Option Value} {d : Option Addr} {x : Value} {rest : Led}
def RaisePost (h₀ : Heap) (L : Addr) (E : Value → Shared → Prop) (v : Value) (s₁ : Shared) : Prop :=
  ∃ e t d m x rest, v = .ref e ∧ Fr h₀ L s₁.heap m ∧ News h₀ L s₁.heap ((e, excO t d) :: (t, tup1 x) :: rest) ∧ E (.ref e) s₁
theorem raisePost_mk (F : Fr h₀ L s.heap m) (N : News h₀ L s.heap ((e, excO t d) :: (t, tup1 x) :: rest)) (h : E (.ref e) s) : RaisePost h₀ L E (.ref e) s := ⟨e, t, d, m, x, rest, rfl, F, N, h⟩
/-- a fault at hand is raised -/
theorem wf_Raise_K {env : Env} {ex : PySem.Expr} {pos : Pos} {Q : Flow → Shared → Prop} (hh : A.handled = none) (X₀ : (hd.heap_1 w.params).In h₀) (_F : Fr h₀ L s.heap m)
    (h : wpAny (model prog w) A (eval ex env) (fun v s₁ => RaisePost h₀ L E v s₁) E s) :
    wpAny (model prog w) A (exec (.Raise (some ex) none pos) env) Q E s := by
  refine wf_Raise hh (wpAny_mono h (fun v s₁ q => ?_) fun _ _ q => q)
  obtain ⟨e, t, d, m, x, rest, rfl, F, N, hE⟩ := q
  obtain ⟨k0, k1, k2, k3, k5, hC⟩ := wf_cls (X₀.keeps F.keep)
  exact ⟨e, t, d, _, _, _, _, _, rfl, hC, (N _ (.head _)).1, hE⟩
end

section
variable {M : Model} {A : Around} {E : Value → Shared → Prop} {s' : Shared} {base g : Heap} {outer : List Env} {L a e t : Addr} {m : Str → Option Value} {name : Str} {scope : Scope} {cd : Value} {Q : Unit → Shared → Prop} {rest : Led} {d : Option Addr} {x : Value}
/-- the frame in which the fault was raised is left -/
theorem leave_raise (K : Below A base outer g) (F : Fr g L s'.heap m) (N : News g L s'.heap ((e, excO t d) :: (t, tup1 x) :: rest))
    (hQ : ∀ h', RaisedS base g outer e (.ref 52) t [x] [] h' → g.UpToSlots h' → Q () { s' with heap := h' }) (hk : scope.kind = .function := by rfl) :
    wpAny M (A.deeper (envOf name scope L a cd)) (leaving (envOf name scope L a cd) (.ref e)) Q E s' := by
  have K' := K.push (name := name) (a := a) (cd := cd) F hk
  have he := (N _ (.head _)).1
  have hen : e ≠ L := (N _ (.head _)).2.1
  have he0 : g.get? e = none := (N _ (.head _)).2.2
  have ht := (N _ (.tail _ (.head _))).1
  have htn : t ≠ L := (N _ (.tail _ (.head _))).2.1
  have ht0 : g.get? t = none := (N _ (.tail _ (.head _))).2.2
  have hin : ∀ env ∈ (envOf name scope L a cd :: outer), ∀ b, env.frame = some b → b ∈ e :: t :: (envOf name scope L a cd :: outer).filterMap (·.frame) :=
    fun env he b hb => .tail _ (.tail _ (List.mem_filterMap.mpr ⟨env, he, hb⟩))
  have gone : ∀ b o, g.get? b = some o → b ≠ e ∧ b ≠ t := fun b o q => ⟨fun z => (by rw [z, he0] at q; cases q), fun z => (by rw [z, ht0] at q; cases q)⟩
  have st : base.StaysIn (hideAll s'.heap (e :: t :: (envOf name scope L a cd :: outer).filterMap (·.frame))) := fun b o q => hideAll_get _ (K'.stays b o q) fun hm => by
    rcases List.mem_cons.mp hm with z | hm
    · exact (gone b o (K.stays b o q)).1 z
    rcases List.mem_cons.mp hm with z | hm
    · exact (gone b o (K.stays b o q)).2 z
    rw [(K'.frames.mem hm).1] at q; cases q
  have sg : ∀ b o, g.get? b = some o → b ∉ outer.filterMap (·.frame) → (hideAll s'.heap (e :: t :: (envOf name scope L a cd :: outer).filterMap (·.frame))).get? b = some o := fun b o q nm => hideAll_get _ (F.keep b o q) fun hm => by
    rcases List.mem_cons.mp hm with z | hm
    · exact (gone b o q).1 z
    rcases List.mem_cons.mp hm with z | hm
    · exact (gone b o q).2 z
    rcases kts_mem hm with z | z
    · rw [z, kts_self F] at q
      cases q
    · exact nm z
  refine wpAny_leaving_firstW (a0 := .ref t) K'.stack (funFrames_hide K'.frames hin) rfl he (fun b o q => of_hideAll _ q) (hideAll_none _ (.head _)) rfl rfl rfl fun h' hL => ?_
  obtain ⟨k1, ⟨_, _, k2⟩, k3, k4⟩ := hL
  exact hQ h' ⟨⟨_, st, sg, (fun q hq => nomatch hq), ⟨k1, hideAll_none _ (.head _), k2, k3⟩, hideAll_none _ (.tail _ (.head _))⟩, Heap.TupAt.of_slots ⟨_, _, ht, rfl, rfl⟩ k4⟩ ((Heap.UpToSlots.of_keeps F.keep).trans k4)
end

section
variable {M : Model} {A : Around} {E E₂ : Value → Shared → Prop} {s : Shared} {base g h₀ : Heap} {outer : List Env} {L L' a f e t : Addr} {m m' : Str → Option Value} {name cn : Str} {scope cs : Scope} {cd ccd : Value} {cl : List (Str × Addr)} {rest : Led} {d : Option Addr} {x : Value} {rz : Prop} {h1 : Heap} {tk1 : Nat}
theorem raise_con (hk : scope.kind = .function) (B' : Below A base (envX cn cs L a ccd cl :: outer) g) (FG : Fr h₀ L g m)
    (exc : ∀ e t vs G h' tk', rz → Fr h₀ L G m → RaisedS base G (envX cn cs L a ccd cl :: outer) e (.ref 52) t vs [] h' → G.UpToSlots h' → E (.ref e) { s with heap := h', toks := tk' })
    (F' : Fr g L' h1 m') (N' : News g L' h1 ((e, excO t d) :: (t, tup1 x) :: rest)) (hz : Hold rz) :
    wpAny M (A.deeper (envOf name scope L' f cd)) (leaving (envOf name scope L' f cd) (.ref e)) (fun _ s'' => E (.ref e) s'') E₂ { s with heap := h1, toks := tk1 } :=
  leave_raise (s' := { s with heap := h1, toks := tk1 }) B' F' N' (fun h' R U => exc _ _ _ _ _ _ hz FG R U) hk
theorem pass_con {vs : List Value} {G : Heap} (hk : scope.kind = .function) (B' : Below A base (envX cn cs L a ccd cl :: outer) g) (FG : Fr h₀ L g m)
    (exc : ∀ e t vs G h' tk', rz → Fr h₀ L G m → RaisedS base G (envX cn cs L a ccd cl :: outer) e (.ref 52) t vs [] h' → G.UpToSlots h' → E (.ref e) { s with heap := h', toks := tk' })
    (F₂ : Fr g L' G m') (R : RaisedS base G (envOf name scope L' f cd :: envX cn cs L a ccd cl :: outer) e (.ref 52) t vs [] h1) (U : G.UpToSlots h1) (hz : Hold rz) :
    wpAny M (A.deeper (envOf name scope L' f cd)) (leaving (envOf name scope L' f cd) (.ref e)) (fun _ s'' => E (.ref e) s'') E₂ { s with heap := h1, toks := tk1 } :=
  leave_onS (s' := { s with heap := h1, toks := tk1 }) B' F₂ R U fun h' R' _ U' => exc _ _ _ _ _ _ hz FG R' U'
end
section
variable {prog : Program} {w : World} {p : Program} {loose : List Str} {mean : ExcName → Option Value} {mg mb : Str → Option Value}
    {dp un : Nat} {gd : Option (List Code)} {cn : Str} {cs : Scope} {a : Addr} {ccd : Value} {cl : List (Str × Addr)} {outer : List Env} {A₀ : Around} {base h₀ : Heap} {L : Addr} {m : Str → Option Value} {s : Shared} {Q E : Value → Shared → Prop} {all : Led}
theorem use_wf {what : Str} {t1 t2 : Tok} {i : Int} (B : Below A₀ base outer h₀) (F : Fr h₀ L s.heap m) (X : (hd.heap_1 w.params).In h₀) (N : News h₀ L s.heap all) (T : Top p loose mean mg mb h₀)
    (hk : cs.kind = .function) (hd : dp + 3 < recursionLimit) (hu : un + 8 * 3 < cLine)
    (k : ∀ e t d x h' tk', Fr h₀ L h' m → News h₀ L h' ((e, excO t d) :: (t, tup1 x) :: all) → (∀ q ∈ all, q.1 ≠ e ∧ q.1 ≠ t) → Q (.ref e) { s with heap := h', toks := tk' }) :
    wpAny (model prog w) (ktrTop dp un gd cn cs L a ccd cl outer) (call (.ref 52) [.str what t1, .int i t2]) Q E s :=
  Con.use all (wf_c w s.heap what t1 i t2) B F X N T hk hd hu (fun _ h => nomatch h) (fun q hq => ⟨hq, fun h => nomatch h⟩) (fun v news' h' tk' hp fr F' N' => by
    obtain ⟨e, rfl, t, d, x, he, ht⟩ := hp
    refine k e t d x h' tk' F' (fun q hq => ?_) fun q hq => ?_
    · rcases List.mem_cons.mp hq with rfl | hq
      · exact N' _ (List.mem_append_left _ he)
      rcases List.mem_cons.mp hq with rfl | hq
      · exact N' _ (List.mem_append_left _ ht)
      exact N' _ (List.mem_append_right _ hq)
    · have q0 := (N q hq).1
      refine ⟨fun z => ?_, fun z => ?_⟩
      · rcases fr _ he with y | y
        · exact nomatch y
        · rw [z] at q0; rw [q0] at y; cases y
      · rcases fr _ ht with y | y
        · exact nomatch y
        · rw [z] at q0; rw [q0] at y; cases y) fun _ _ _ _ _ _ hz => hz.elim
end
example : True := by
  k_with "call ref" => (k_here; (with_reducible show wpAny _ _ (call (Value.ref 52) _) _ _ _); k_dflt (apply use_wf; (case B => k_asm); (case F => k_asm); (case X => k_asm); (case N => k_asm); (case T => k_asm); (case hk => exact rfl); (case hd => ktr_room); (case hu => ktr_units); (case' k => skip); intro _ _ _ _ _ _ _ _ _; (try k_sweep)))
  trivial
example : True := by
  k_with "LeaveK" => (k_here; k_dflt (apply leave_con; (case hg => assumption); (case ret => assumption); (case F' => k_asm); (case N' => k_asm); (case' hp => skip)))
  trivial
example : True := by
  k_with "zz off" => (repeat (first | exact Off.nil | assumption | exact Off.of (by assumption) | exact AllTup.off (by assumption) | refine Off.cls rfl ?_ | refine Off.app (by assumption) ?_))
  k_with "zz end" => ((try dsimp only [List.isEmpty, List.cons_append, List.nil_append] at *); (try k_sweep))
  k_with "zz h5" => (case B | F | X | N | T => k_asm)
  k_with "zz rd" => ((first | (apply rd_use; walk_at "zz h5") | (apply rd_use1; walk_at "zz h5") | (apply rd_use2; walk_at "zz h5")); (case hts => k_asm); (case' C => skip))
  k_with "zz rd2" => (walk_at "zz u2"; (case ha => walk_at "zz off"); (try (case e => exact no_raise)); (case' k => skip))
  k_with "zz u2" => ((case hk => exact rfl); (case hd => ktr_room); (case hu => ktr_units); (case' k => skip))
  k_with "zz sb" => ((try (exact absurd ((by assumption : standsB _ _ = true).symm.trans (by assumption : standsB _ _ = false)) (by decide))); (try (exact absurd ((by assumption : standsB _ _ = false).symm.trans (by assumption : standsB _ _ = true)) (by decide))))
  trivial
example : True := by
  k_with "LeaveK" => (k_here; k_dflt (apply leave_con; (case hg => assumption); (case ret => assumption); (case F' => k_asm); (case N' => k_asm); (case' hp => skip)))
  trivial
example : True := by
  k_with "call ref" => (k_here; (with_reducible show wpAny _ _ (call (Value.ref 210) _) _ _ _); k_dflt (walk_at "zz rd"; (focus exact (fun q kp => is_done_c _ _ _ _ _ _ _ q (by k_asm))); walk_at "zz rd2"; (refine kEq ?_); intro _ _ _ _ _; walk_at "zz end"))
  trivial
example : True := by
  k_with "subscriptTail" => (k_here; (with_reducible show wpAny _ _ (subscriptTail _ _ (Value.ref _) (Value.int _ _)) _ _ _); k_dflt (apply tok_item; (case F => k_asm); (case hts => k_asm); (case hs => k_asm); (case hsb => with_unfolding_all rfl); (case' h => skip); intro _ zt1 _; (obtain ⟨_, _, _, _, _, _, rfl, _, _⟩ := zt1)))
  trivial
example : True := by
  k_with "subscriptTail" => (k_here; (with_reducible show wpAny _ _ (subscriptTail _ _ (Value.ref _) (Value.int _ _)) _ _ _); k_dflt (apply tok_part; (case F => k_asm); (case ht => k_asm); (case hlo => decide); (case hhi => decide); (case hj => exact rfl); (case hx => exact rfl); (case hsb => with_unfolding_all rfl); (case' h => skip)))
  trivial
example : True := by
  k_with "call ref" => (k_here; (with_reducible show wpAny _ _ (call (Value.ref 217) _) _ _ _); k_dflt (walk_at "zz rd"; (focus exact (fun q kp => kind_c _ _ _ _ _ _ _ q (by k_asm))); walk_at "zz rd2"; (refine kTk ?_); intro _ _ _ _ _ _; walk_at "zz end"))
  trivial
example : True := by
  k_with "call ref" => (k_here; (with_reducible show wpAny _ _ (call (Value.ref 224) _) _ _ _); k_dflt (walk_at "zz rd"; (focus exact (fun q kp => stands_c _ _ _ _ _ _ _ _ _ q (by k_asm))); walk_at "zz rd2"; (refine kEq ?_); intro _ _ _ _ _; walk_at "zz end"))
  trivial
example : True := by
  k_with "call ref" => (k_here; (with_reducible show wpAny _ _ (call (Value.ref 238) _) _ _ _); k_dflt (walk_at "zz rd"; (focus exact (fun q kp => skip_c _ _ _ _ _ _ _ _ _ q (by k_asm))); walk_at "zz rd2"; (first | (refine kSkip ?_ ?_)); (all_goals (intros; walk_at "zz sb"; walk_at "zz end"))))
  trivial
example : True := by
  k_with "call ref" => (k_here; (with_reducible show wpAny _ _ (call (Value.ref 231) _) _ _ _); k_dflt (walk_at "zz rd"; (focus exact (fun q kp => take_at q (by k_asm) kp (by k_asm))); walk_at "zz rd2"; (refine kTake ?_); iterate 16 (intro _); walk_at "zz end"))
  trivial
example : True := by
  k_with "call ref" => (k_here; (with_reducible show wpAny _ _ (call (Value.ref 52) _) _ _ _); k_dflt (apply use_wf; (case B => k_asm); (case F => k_asm); (case X => k_asm); (case N => k_asm); (case T => k_asm); (case hk => exact rfl); (case hd => ktr_room); (case hu => ktr_units); (case' k => skip); intro _ _ _ _ _ _ _ _ _; (try k_sweep)))
  trivial
example : True := by
  k_with "exec Raise some none" => (k_here; k_dflt (apply wf_Raise_K; (case hh => exact rfl); (case X₀ => k_asm); (case _F => k_asm); (case' h => skip)))
  trivial
example : True := by
  k_with "RaisePost" => (k_here; k_dflt (apply raisePost_mk; (case F => k_asm); (case N => k_asm); (case' h => skip)))
  trivial
example : True := by
  k_with "leaving ref" => (k_here; k_dflt (first | (apply raise_con; (case hk => exact rfl); (case B' => assumption); (case FG => assumption); (case exc => assumption); (case F' => k_asm); (case N' => k_asm); (case' hz => skip)) | (apply pass_con; (case hk => exact rfl); (case B' => assumption); (case FG => assumption); (case exc => assumption); (case F₂ => assumption); (case R => assumption); (case U => assumption); (case' hz => skip))))
  trivial
example : True := by
  k_with "call ref" => (k_here; (with_reducible show wpAny _ _ (call (Value.ref 252) _) _ _ _); k_dflt (walk_at "zz rd"; (focus exact (fun q kp => need_c _ _ _ _ _ _ _ _ _ q (by k_asm) (by first | assumption | decide))); walk_at "zz rd2"; (refine kNeed ?_); iterate 8 (intro _); walk_at "zz sb"; walk_at "zz end"))
  trivial
example : True := by
  k_with "exec While" => (k_here; refine' Stop.out ?_)
  trivial
example : True := by
  k_with "exec While BoolOp" => (k_here; refine' Stop.out ?_)
  trivial
example : True := by
  k_with "exec While Compare" => (k_here; refine' Stop.out ?_)
  trivial
example : True := by
  k_with "exec For" => (k_here; refine' Stop.out ?_)
  trivial
example : True := by
  k_with "exec For Name Call cons nil" => (k_here; refine' Stop.out ?_)
  trivial
example : True := by
  k_with "exec For Tuple Call cons nil" => (k_here; refine' Stop.out ?_)
  trivial
example : True := by
  k_with "pyIter ref" => (k_here; refine' Stop.out ?_)
  trivial
example : True := by
  k_with "call ref" => (k_here; (with_reducible show wpAny _ _ (call (Value.ref 259) _) _ _ _); k_dflt (walk_at "zz rd"; (focus exact (fun q kp => words_at q (by k_asm) kp (by k_asm))); walk_at "zz rd2"; (refine kWords ?_); iterate 12 (intro _); walk_at "zz end"))
  trivial
example : True := by
  k_with "exec While Constant" => (k_here; refine' Stop.out ?_)
  trivial
example : True := by
  k_with "exec While UnaryOp" => (k_here; refine' Stop.out ?_)
  trivial
example : True := by
  k_with "call ref" => (k_here; (with_reducible show wpAny _ _ (call (Value.ref 280) _) _ _ _); k_dflt (walk_at "zz rd"; (focus exact (fun q kp => domain_of_c _ _ _ _ _ _ _ q (by k_asm))); walk_at "zz rd2"; (refine kDom ?_); iterate 12 (intro _); walk_at "zz end"))
  trivial
example : True := by
  k_with "call ref" => (k_here; (with_reducible show wpAny _ _ (call (Value.ref 287) _) _ _ _); k_dflt (walk_at "zz rd"; (focus exact (fun q kp => pass_route_c _ _ _ _ _ _ _ _ q (by k_asm) (by k_asm))); walk_at "zz rd2"; (refine kPass ?_); iterate 10 (intro _); walk_at "zz end"))
  trivial
example : True := by
  k_with "call ref" => (k_here; (with_reducible show wpAny _ _ (call (Value.ref 273) _) _ _ _); k_dflt (walk_at "zz rd"; (focus exact (fun q kp => local_of_c _ _ _ _ _ _ _ _ _ q (by k_asm) (by first | exact TL.up (by with_reducible assumption) kp | exact TL.wordsN q (by k_asm) (by first | exact .head _ | exact .tail _ (.head _) | exact .tail _ (.tail _ (.head _)) | exact .tail _ (.tail _ (.tail _ (.head _)))) (by with_reducible assumption) (by with_reducible assumption) kp))); walk_at "zz rd2"; (refine kLoc ?_); iterate 7 (intro _); walk_at "zz end"))
  trivial
example : True := by
  k_with "call ref" => (k_here; k_dflt (apply call_cls; (case F => k_asm); (case X₀ => k_asm); (case N => k_asm); (case hm => k_is); (case hi => k_is); (case hf => k_is); (case' h => skip); k_whole; intro _ _ _ _ _ zl1 zl2; (try k_lt zl1); (try k_lt2 zl2); (try k_sweep); (apply code_def; (case hA => exact rfl); (case hf => exact rfl); (case hke => first | exact rfl | assumption); (case B => k_asm); (case F => k_asm); (case X₀ => k_asm); (case N => k_asm); (case T => k_asm); (case ho => k_is); (case hcd => k_is); (case hroom => ktr_room); (case hbind => first | exact BindsTo.of_eq rfl | exact binds_K (by k_in) rfl (by k_is) rfl rfl rfl); (case hcell => decide); (case hloc => exact locs rfl); (case hco => exact rfl); (case hgen => exact rfl); (case hk => exact rfl); (case' h => skip); k_whole; intro _ _ _ _ _ _ _ _ _; (try dsimp only); (try k_fold))))
  trivial
example : True := by
  k_with "call ref" => (k_here; (with_reducible show wpAny _ _ (call (Value.ref 224) _) _ _ _); k_dflt (walk_at "zz rd"; (focus exact (fun q kp => stands_b _ _ _ _ _ _ _ _ _ _ q (by k_asm) (by first | assumption | rfl))); walk_at "zz rd2"; (refine kEq ?_); intro _ _ _ _ _; walk_at "zz end"))
  trivial
section part_X3

def faultPost (P : Params) (c : RdC) (pos : Nat) (tk : Tok) (v : Value) (news' : Led) : Prop := ∃ e t d x, v = .ref e ∧ news' = (e, excO t d) :: (t, tup1 x) :: rdL P c pos tk
theorem fault_c (w : World) (h : Heap) (c : RdC) (pos : Nat) (tk : Tok) (ts sfx : List Tk) (what : Str) (tw : Tok) (hts : TL h c.l ts) (hs : ts.drop pos = sfx) :
    Con w (hd.heap_1 w.params) 245 [.ref c.r, .str what tw] 4 h (rdL w.params c pos tk) (fun v news' _ => faultPost w.params c pos tk v news') False := by
  intro prog p loose mean mg mb dp un gd cn cs a ccd cl outer A₀ base h₀ L m s Q E hh B F X N T hkf hd hu ret exc
  subst hh
  refine wpAny_call ?_
  refine' enterG (binds := [(("self" : Str), .ref c.r), (("what" : Str), .str what tw)]) ?k1 ?k2 ?k3 ?k4 ?k5 ?kA ?kF ?kK ?k6 ?k7 ?k8 ?k9 ?kB ?_ ?c2 ?c3 ?c4 ?c5
  case kA => exact rfl
  case kF => exact rfl
  case kK => assumption
  case k1 => k_asm
  case k2 => k_asm
  case k3 => k_asm
  case k4 => k_asm
  case k5 => k_asm
  case k6 => k_is
  case k7 => k_is
  case k8 => ktr_room
  case k9 => first | exact BindsTo.of_eq rfl | exact binds_K (by k_in) rfl (by k_is) rfl rfl rfl
  case c5 => decide
  case kB => exact locs rfl
  case c2 => exact rfl
  case c3 => exact rfl
  case c4 => exact rfl
  k_whole
  intro g L' h' hg FG F' N' B' X' T'
  try dsimp only
  try k_fold
  have hT : TL g c.l ts := hts.ground N hg
  cases sfx with
  | nil =>
    k_steps
    exact Hold.mk ⟨_, _, _, _, rfl, rfl⟩
  | cons t r =>
    k_steps
    exact Hold.mk ⟨_, _, _, _, rfl, rfl⟩
example : True := by
  k_with "call ref" => (k_here; (with_reducible show wpAny _ _ (call (Value.ref 245) _) _ _ _); k_dflt (walk_at "zz rd"; (focus exact (fun q kp => fault_c _ _ _ _ _ _ _ _ _ q (by k_asm))); walk_at "zz rd2"; intro _ _ _ _ hp' _ _ _; (obtain ⟨_, _, _, _, rfl, rfl⟩ := hp') <;> (walk_at "zz end")))
  trivial
end part_X3
section part_J1
namespace BJ
open Builtin Builtin.Bytes
theorem slot_join : Slot "bytes" "join" "bytes.join" :=
  .of (owner := "bytes") (n := "join") (by rw [typeLookup_type, builtinLookup_eq_fast]; kernel_rfl) (by decide +kernel) (by decide +kernel) (by decide +kernel)
    (by first | exact .inl (by decide +kernel) | exact .inr (by decide +kernel)) (by rw [isSubtype_type]; kernel_rfl)
theorem type_join : typeOf (.builtin "bytes.join") = pure (.type "method_descriptor") := by show builtinType _ = _; rw [builtinType_eq_fast]; kernel_rfl
theorem entry_join : entryFor table "bytes.join" = some Builtin.«bytes.join» := entryFor_of_tree (by kernel_rfl)
theorem args_join (a b : Value) : argsOk "bytes.join" ⟨[a, b], []⟩ := by
  unfold argsOk; rw [signature?_of (id := "bytes.join") (n := ['n', 'i', 'o', 'j']) (o := ['s', 'e', 't', 'y', 'b']) (by kernel_rfl) FB.owner_bytes]; kernel_rfl
theorem take_eq {id : String} {b : Array UInt8} {t : Tok} : takeBufferQuiet? id (.bytes b t) 0 = pure (some (b, none)) := by
  unfold takeBufferQuiet? takeBuffer?
  have hf : ((0 : Int) == fullReadOnly) = false := by decide
  rw [KBy.special_eq KBy.look_buffer, KBy.own_buffer, hf, KBy.buffer_eq]
  kernel_rfl
def bvals (l : List (List UInt8 × Tok)) : List Value := l.map fun p => .bytes ⟨p.1⟩ p.2
theorem takenHeap : ∀ (l : List (List UInt8 × Tok)), ((bvals l).map fun v => (v, (none : Option Value))).any (·.1.onHeap) = false
  | [] => rfl
  | p :: l => by
    show (false || _) = false
    rw [Bool.false_or]
    exact takenHeap l
theorem wpAny_letGoJ {M : Model} {A : Around} {E : Value → Shared → Prop} {s : Shared} {Q : Unit → Shared → Prop} {keep : List Value} : ∀ (l : List (List UInt8 × Tok)), Q () s → wpAny M A (joinLetGo ((bvals l).map fun v => (v, (none : Option Value))) keep) Q E s
  | [], h => wpAny_pure h
  | p :: l, h => by
    show wpAny M A (letGo _ _ >>= fun _ => joinLetGo _ _) Q E s
    exact wpAny_bind (wpAny_letGo (wpAny_letGoJ l h))
theorem forRange {M : Model} {A : Around} {E : Value → Shared → Prop} {s : Shared} {β : Type} {b : Nat} {f : Nat → β → Sem (ForInStep β)} (I : Nat → β → Prop) {Q : β → Shared → Prop}
    (hstep : ∀ i c, i < b → I i c → wpAny M A (f i c) (fun r st' => st' = s ∧ match r with | .done c' => False | .yield c' => I (i + 1) c') E s)
    (hend : ∀ c, I b c → Q c s) {c : β} (h : I 0 c) : wpAny M A (forIn [0:b] c f) Q E s := by
  rw [Std.Legacy.Range.forIn_eq_forIn_range']
  have hsz : ([0:b] : Std.Legacy.Range).size = b := by simp [Std.Legacy.Range.size]
  show wpAny M A (forIn (List.range' 0 ([0:b] : Std.Legacy.Range).size 1) c f) Q E s
  rw [hsz]
  refine wpAny_forIn_list f (fun l c s' => s' = s ∧ ∃ i, i ≤ b ∧ l = List.range' i (b - i) 1 ∧ I i c) Q ?_ ?_ _ c ⟨rfl, 0, Nat.zero_le _, rfl, h⟩
  · rintro x rest c s' ⟨rfl, i, hib, hl, hI⟩
    have hlt : i < b := by
      rcases Nat.lt_or_ge i b with h' | h'
      · exact h'
      · rw [show b - i = 0 by omega] at hl; simp at hl
    obtain ⟨n, hn⟩ : ∃ n, b - i = n + 1 := ⟨b - i - 1, by omega⟩
    rw [hn, List.range'_succ] at hl
    obtain ⟨rfl, rfl⟩ := List.cons.inj hl
    refine wpAny_mono (hstep x c hlt hI) (fun r st' h' => ?_) fun _ _ q => q
    obtain ⟨rfl, h'⟩ := h'
    cases r with
    | done c' => exact h'.elim
    | yield c' => exact ⟨rfl, x + 1, by omega, by congr 1; omega, h'⟩
  · rintro c s' ⟨rfl, i, hib, hl, hI⟩
    have : i = b := by
      rcases Nat.lt_or_ge i b with h' | h'
      · obtain ⟨n, hn⟩ : ∃ n, b - i = n + 1 := ⟨b - i - 1, by omega⟩
        rw [hn, List.range'_succ] at hl; simp at hl
      · omega
    subst this; exact hend _ hI
section
variable {M : Model} {A : Around} {E : Value → Shared → Prop} {s : Shared} {a : Addr} {sep : Array UInt8} {t : Tok} {l : List (List UInt8 × Tok)}
theorem join_raw {Q : Fin → Shared → Prop} (hL : s.heap.IsList a (bvals l).toArray) (hz : tooLong ((l.map fun p => (⟨p.1⟩ : Array UInt8)).toArray.foldl (· + ·.size) (sep.size * (l.length - 1))) = false)
    (hz2 : (joined sep (l.map fun p => ⟨p.1⟩)).size ≤ sizeLine) (h : ∀ t' k, Q (.done (.ret (.bytes (joined sep (l.map fun p => ⟨p.1⟩)) t'))) { s with toks := k }) :
    wpAny M A (joinM .bytes ⟨[.bytes sep t, .ref a], []⟩) Q E s := by
  unfold joinM
  refine wpAny_bind (wpAny_of_eq (show selfAndOne _ _ = pure (.bytes sep t, .ref a) from rfl) ?_)
  have hb : (Kind.bytes == Kind.bytes) = true := rfl
  dsimp only
  rw [if_pos hb]
  refine wpAny_bind (wpAny_bind (wpAny_typeOf hL.typeIs ?_))
  rw [if_pos (by decide)]
  refine wpAny_pure ?_
  obtain ⟨o, ho, hc, ep, hdt⟩ := hL
  refine wpAny_bind (wpAny_seqItems ho hdt ?_)
  dsimp only
  rw [if_pos hb]
  rcases l with _ | ⟨p, _ | ⟨q, r⟩⟩
  case cons.nil =>
    show wpAny M A (typeOf (.bytes ⟨p.1⟩ p.2) >>= _) Q E s
    refine wpAny_bind (wpAny_typeOf (typeIs_bytes s _ _) ?_)
    rw [if_pos (by decide)]
    refine wpAny_bind (wpAny_rule (wpAny_pure ?_))
    have := h p.2 s.toks
    have e : joined sep [(⟨p.1⟩ : Array UInt8)] = ⟨p.1⟩ := by
      simp [joined]
    rw [show List.map (fun p : List UInt8 × Tok => (⟨p.1⟩ : Array UInt8)) [p] = [⟨p.1⟩] from rfl, e] at this
    exact this
  case' cons.cons => show wpAny M A (forIn [0:(bvals (p :: q :: r)).toArray.size] ((#[], []) : Array (Array UInt8) × List (Value × Option Value)) _ >>= _) Q E s
  case' nil => show wpAny M A (forIn [0:(bvals []).toArray.size] ((#[], []) : Array (Array UInt8) × List (Value × Option Value)) _ >>= _) Q E s
  case' cons.cons => generalize hl : p :: q :: r = l at *
  case' nil => generalize hl : ([] : List (List UInt8 × Tok)) = l at *
  all_goals
    have hsz : (bvals l).toArray.size = l.length := by simp [bvals]
    rw [hsz]
    refine wpAny_bind (forRange (fun i c => c = (((l.take i).map fun p => (⟨p.1⟩ : Array UInt8)).toArray, (bvals (l.take i)).map fun v => (v, (none : Option Value)))) (fun i c hi hc => ?_) (fun c hc => ?_) rfl)
    · subst hc
      refine wpAny_bind (wpAny_seqItems ho hdt ?_)
      dsimp only
      rw [if_neg (by rw [takenHeap]; decide)]
      have hx : (bvals l).toArray.getD i .none = .bytes ⟨l[i].1⟩ l[i].2 := by
        simp [bvals, hi]
      rw [hx, take_eq]
      refine wpAny_bind (wpAny_holding (wpAny_pure ?_))
      dsimp only
      refine wpAny_bind (wpAny_seqItems ho hdt ?_)
      dsimp only
      rw [hsz, if_neg (by simp)]
      refine wpAny_pure ⟨rfl, ?_⟩
      have e : l.take (i + 1) = l.take i ++ [l[i]] := by rw [List.take_add_one, List.getElem?_eq_getElem hi]; rfl
      simp only [bvals, e, List.map_append, List.map_cons, List.map_nil, List.push_toArray]
    · subst hc
      rw [List.take_length]
      refine wpAny_bind (wpAny_pure ?_)
      dsimp only
      have hln : (l.map fun p => (⟨p.1⟩ : Array UInt8)).toArray.size = l.length := by simp
      rw [← hln] at hz
      rw [if_neg (by rw [hz]; decide)]
      refine wpAny_bind (wpAny_mkBytes ?_ hz2)
      refine wpAny_bind (wpAny_holding (wpAny_point ?_))
      refine wpAny_bind (wpAny_letGoJ l ?_)
      exact wpAny_pure (h _ _)
end
def catB (sep : List UInt8) : List (List UInt8) → List UInt8
  | [] => []
  | [x] => x
  | x :: y :: r => x ++ sep ++ catB sep (y :: r)
theorem joined_go (sep : List UInt8) : ∀ (parts : List (List UInt8)) (k : Nat) (acc : List UInt8),
    (((parts.map fun x => (⟨x⟩ : Array UInt8)).zipIdx (k + 1)).foldl (fun out (p, i) => (if i > 0 then out ++ (⟨sep⟩ : Array UInt8) else out) ++ p) ⟨acc⟩) = ⟨acc ++ (parts.map fun x => sep ++ x).flatten⟩
  | [], k, acc => by simp
  | x :: r, k, acc => by
    rw [List.map_cons, List.zipIdx_cons, List.foldl_cons]
    dsimp only
    rw [if_pos (by omega)]
    have := joined_go sep r (k + 1) (acc ++ sep ++ x)
    rw [show (⟨acc⟩ ++ ⟨sep⟩ ++ ⟨x⟩ : Array UInt8) = ⟨acc ++ sep ++ x⟩ by simp, this]
    simp
theorem catB_cons (sep : List UInt8) : ∀ (x : List UInt8) (r : List (List UInt8)), catB sep (x :: r) = x ++ (r.map fun x => sep ++ x).flatten
  | x, [] => by simp [catB]
  | x, y :: r => by
    rw [catB, catB_cons sep y r]
    simp
theorem joined_eq (sep : List UInt8) (parts : List (List UInt8)) : joined ⟨sep⟩ (parts.map fun x => ⟨x⟩) = ⟨catB sep parts⟩ := by
  cases parts with
  | nil => rfl
  | cons x r =>
    unfold joined
    rw [List.map_cons, List.zipIdx_cons, List.foldl_cons]
    dsimp only
    rw [if_neg (by omega), show ((#[] : Array UInt8) ++ ⟨x⟩) = ⟨x⟩ by simp, catB_cons]
    exact joined_go sep r 0 x
theorem total_go (sep : List UInt8) : ∀ (parts : List (List UInt8)) (k : Nat), (parts.map fun x => (⟨x⟩ : Array UInt8)).foldl (fun (n : Nat) (b : Array UInt8) => n + b.size) k + parts.length * sep.length = k + ((parts.map fun x => sep ++ x).flatten).length
  | [], k => by simp
  | x :: r, k => by
    rw [List.map_cons, List.foldl_cons, List.map_cons, List.flatten_cons, List.length_append, List.length_append, List.length_cons]
    have := total_go sep r (k + x.length)
    rw [Nat.succ_mul]
    simp only [List.size_toArray]
    omega
theorem total_eq (sep : List UInt8) (parts : List (List UInt8)) : (parts.map fun x => (⟨x⟩ : Array UInt8)).toArray.foldl (· + ·.size) (sep.length * (parts.length - 1)) = (catB sep parts).length := by
  rw [List.foldl_toArray]
  cases parts with
  | nil => simp [catB]
  | cons x r =>
    rw [catB_cons, List.length_append, List.map_cons, List.foldl_cons, List.length_cons]
    have := total_go sep r (x.length + sep.length * r.length)
    rw [Nat.mul_comm r.length] at this
    simp only [List.size_toArray, Nat.add_sub_cancel]
    rw [Nat.add_comm (sep.length * r.length)]
    omega
section
variable {prog : Program} {w : World} {A : Around} {E : Value → Shared → Prop} {s : Shared} {a : Addr} {sep : List UInt8} {t : Tok} {l : List (List UInt8 × Tok)}
theorem join {parts : List (List UInt8)} {Q : Value → Shared → Prop} (hL : s.heap.IsList a (bvals l).toArray) (hp : l.map (·.1) = parts) (hz : (catB sep parts).length ≤ 16777216) (h : ∀ t' k, Q (.bytes ⟨catB sep parts⟩ t') { s with toks := k }) :
    wpAny (model prog w) A (call (.builtin "bytes.join") [.bytes ⟨sep⟩ t, .ref a]) Q E s := by
  have hm : (l.map fun p => (⟨p.1⟩ : Array UInt8)) = parts.map fun x => ⟨x⟩ := by rw [← hp, List.map_map]; rfl
  have hl : l.length = parts.length := by rw [← hp, List.length_map]
  refine call_meets slot_join (typeIs_bytes _ _ _) entry_join (args_join _ _) (S := fun A R s => s.heap.IsList a (bvals l).toArray ∧ ∀ t' k, R (.ok (.ret (.bytes ⟨catB sep parts⟩ t'))) { s with toks := k }) (.of_wp fun prog w A R s hS => ?_) ⟨hL, h⟩
  obtain ⟨hL, h⟩ := hS
  refine join_raw hL ?_ ?_ fun t' k => ⟨_, rfl, ?_⟩
  · rw [hm, hl, show (⟨sep⟩ : Array UInt8).size = sep.length from rfl, total_eq]
    exact KBy.tooLong_not hz
  · rw [hm, joined_eq, sizeLine_eq]; exact hz
  · rw [hm, joined_eq]; exact h t' k
theorem method {M : Model} {b : Array UInt8} {pl : Sem Bool} {Q : Value × List Value → Shared → Prop} (h : Q (.builtin "bytes.join", [.bytes b t]) s) : wpAny M A (getMethod (.bytes b t) "join" pl) Q E s := by
  with_reducible exact KBd.method_of (.bytes b t) (typeIs_bytes _ _ _) slot_join type_join KBd.noRef h
end
end BJ
end part_J1

example : True := by
  k_with "call ref" => (k_here; (with_reducible show wpAny _ _ (call (Value.ref 245) _) _ _ _); k_dflt (walk_at "zz rd"; (focus exact (fun q kp => fault_c _ _ _ _ _ _ _ _ _ q (by k_asm))); walk_at "zz rd2"; intro _ _ _ _ hp' _ _ _; (obtain ⟨_, _, _, _, rfl, rfl⟩ := hp') <;> (walk_at "zz end")))
  trivial
example : True := by
  k_with "getMethod bytes" => (k_here; (with_reducible refine BJ.method ?_))
  trivial
section part_C1
section
open LCg
variable {prog : Program} {w : World} {A : Around} {E : Value → Shared → Prop} {s : Shared} {h₀ : Heap} {L : Addr} {m : Str → Option Value} {env : Env}
theorem compEnd_mono {I C D : Addr} {s₁ s₂ : Shared} {oI oC oD : Obj} {S : Led → Prop} {R R' : Value → Led → Prop} {y : Value} (k : ∀ nw, R y nw → R' y nw) (H : CompEnd h₀ L m s₁ I oI C oC D oD S R y s₂) : CompEnd h₀ L m s₁ I oI C oC D oD S R' y s₂ :=
  let ⟨h', tk, nw, e, F, N, off, hS, r⟩ := H; ⟨h', tk, nw, e, F, N, off, hS, k _ r⟩
/-- the turns of a comprehension by what holds between them -/
theorem rest_inv {elt : PySem.Expr} {x : Str} {scope : Scope} {cl : List (Str × Addr)} {S : Led → Prop} {P : Nat → Value → Prop} {Fin : List Value → Led → Prop} {n : Nat} (J : Nat → List Value → Led → Prop)
    (step : ∀ i ys nw v I oI C oC D m₂ h tk (E' : Value → Shared → Prop), i < n → J i ys nw → P i v → NsObj oC m₂ → m₂ x = some v → Fr h₀ L h m → News h₀ L h ((I, oI) :: (C, oC) :: (D, lst ys) :: nw) → Off3 I C D nw → ((@Ne Nat I C) ∧ (@Ne Nat I D) ∧ (@Ne Nat C D)) →
      wpAny (model prog w) A (eval elt (compEnvC scope cl C env)) (CompEnd h₀ L m { s with heap := h, toks := tk } I oI C oC D (lst ys) S (fun y nw' => J (i + 1) (ys ++ [y]) nw')) E' { s with heap := h, toks := tk })
    (fin : ∀ ys nw, J n ys nw → Fin ys nw) : ∀ k i ys nw, i + k = n → J i ys nw → CompRest prog w A h₀ L m env elt x scope cl s S P Fin k i ys nw
  | 0, i, ys, nw, e, hJ => fin ys nw (by rw [← show i = n by omega]; exact hJ)
  | k + 1, i, ys, nw, e, hJ => CompRest.succ fun v I oI C oC D m₂ h tk E' hP hC hx F N off ne =>
    wpAny_mono (step i ys nw v I oI C oC D m₂ h tk E' (by omega) hJ hP hC hx F N off ne) (fun y s₂ q => compEnd_mono (fun nw' r => rest_inv J step fin k (i + 1) _ nw' (by omega) r) q) fun _ _ q => q

/-- a comprehension over bytes -/
def SrcB (prog : Program) (w : World) (A : Around) (h₀ : Heap) (L : Addr) (m : Str → Option Value) (env : Env) (elt : PySem.Expr) (x : Str) (scope : Scope) (cl : List (Str × Addr)) (Fin : Shared → List Value → Led → Prop) (xv : Value) (s₁ : Shared) : Prop :=
  ∃ b tb news, xv = .bytes b tb ∧ A.handled = none ∧ Fr h₀ L s₁.heap m ∧ News h₀ L s₁.heap news ∧ b.size ≤ sizeLine ∧
    ∀ g, CompRest prog w A h₀ L m env elt x scope cl { s₁ with heap := g } (fun _ => True) (fun i v => ∃ (c : UInt8) (u : Tok), b[i]? = some c ∧ v = .int (c.toNat : Int) u) (Fin { s₁ with heap := g }) b.size 0 [] news
theorem ListComp_B {elt iter : PySem.Expr} {x : Str} {px : Pos} {scope : Scope} {cl : List (Str × Addr)} {pos : Pos} {Q : Value → Shared → Prop} (F₀ : Fr h₀ L s.heap m)
    (hclos : closureFor scope env = pure cl) (hcell : ∀ y ∈ scope.names, y.2 ≠ .cell) (hkind : scope.kind = .function)
    (hnames : ∀ y ∈ scope.names, y.2 = .local → scope.names.lookup y.1 = some .local) (hx : scope.names.lookup x = some .local)
    (h : wpAny (model prog w) A (eval iter env) (SrcB prog w A h₀ L m env elt x scope cl (fun s₂ => FinE h₀ L m s₂ Q)) E s)
    (hs : ∀ x, foldedSetIterable iter env x = pure x := by intro _; rfl) :
    wpAny (model prog w) A (eval (.ListComp elt [⟨.Name x px, iter, [], 0⟩] scope pos) env) Q E s := by
  rw [eval_ListComp]
  refine wpAny_comprehension_free (use := none) rfl hs hclos hkind hnames (wpAny_mono h (fun xv s₁ h₁ => ?_) fun _ _ e => e)
  obtain ⟨b, tb, news, rfl, hh, F, N, hsz, R⟩ := h₁
  refine KBw.pyIter_bytes ?_
  refine block_U (KBw.walks hh s₁.heap.objs.size b tb) hsz (fun i h st => by obtain ⟨o, e, _⟩ := st; exact ⟨o, e⟩) (fun i h h' o nw st e e' _ _ _ => by obtain ⟨o', q, r⟩ := st; rw [e] at q; cases q; exact ⟨o, e', r⟩) hcell hkind hx
    ⟨_, Heap.get?_push_size _ rfl, rfl, rfl⟩ (fun b' hb => ?_)
    (F.keeps fun _ _ e => Heap.get?_push_of_some _ e) (N.grown fun _ _ e => Heap.get?_push_of_some _ e) (Nat.ne_of_lt F.ns.lt) (next_is_new F) (fun p hp => Nat.ne_of_lt (Heap.lt_size (N p hp).1)) trivial (R _) ?_
  · rw [List.mem_singleton.mp hb]
    show s₁.heap.objs.size < (s₁.heap.push _).objs.size
    rw [Heap.size_push]; exact Nat.lt_succ_self _
  · intro D C h' tk m' ys news' F' N' o1 hn hC₀ hD₀ hCL hDL hCD offC fin
    refine ⟨m', hn, fun h'' hs'' => fin D h'' tk (F'.change hs'' hCL hC₀) (fun p hp => ?_) o1⟩
    refine ⟨hs''.extBut _ _ ?_ (N' p hp).1, (N' p hp).2⟩
    rcases List.mem_cons.mp hp with rfl | hp
    · exact Ne.symm hCD
    · exact offC p hp
end

def textOf (w : List UInt8) : Str := ⟨(w.map (·.toNat)).toArray⟩
def chrs (w : List UInt8) : List Str := w.map fun c => ⟨#[c.toNat]⟩
theorem isList_of {h : Heap} {D : Addr} {ys : List Value} (e : h.get? D = some (LCg.lst ys)) : h.IsList D ys.toArray := ⟨_, e, rfl, _, rfl⟩
theorem str_append (a b : List Nat) : (⟨a.toArray⟩ : Str) ++ ⟨b.toArray⟩ = ⟨(a ++ b).toArray⟩ := by
  show Str.append _ _ = _
  unfold Str.append
  simp
theorem join_empty : ∀ (l : List (List Nat)), Str.join (⟨#[]⟩ : Str) (l.map fun c => ⟨c.toArray⟩) = ⟨(l.flatten).toArray⟩
  | [] => rfl
  | [x] => by simp [Str.join]
  | x :: y :: r => by
    show (⟨x.toArray⟩ : Str) ++ ⟨#[]⟩ ++ Str.join ⟨#[]⟩ ((y :: r).map fun c => ⟨c.toArray⟩) = _
    rw [join_empty (y :: r)]
    rw [str_append, str_append]
    simp
theorem join_chrs (b : List UInt8) : Txt.join "" (chrs b) = textOf b := by
  unfold Txt.join
  rw [StrLaws.glued_eq_join]
  have h0 : (("" : String) : Str) = ⟨#[]⟩ := by decide
  have h1 : chrs b = (b.map fun c => [c.toNat]).map fun c => (⟨c.toArray⟩ : Str) := by simp [chrs]
  rw [h0, h1, join_empty]
  congr 1
  clear h1
  induction b with
  | nil => rfl
  | cons c r ih => simpa using ih
theorem sign_text_c (w : World) (h : Heap) (b : List UInt8) (tb : Tok) (hz : b.length < 2 ^ 16) :
    Con w (hd.heap_1 w.params) 189 [.bytes ⟨b⟩ tb] 2 h [] (fun v news' _ => (∃ t, v = .str (textOf b) t) ∧ news' = []) False := by
  intro prog p loose mean mg mb dp un gd cn cs a ccd cl outer A₀ base h₀ L m s Q E hh B F X N T hkf hd hu ret exc
  subst hh
  refine wpAny_call ?_
  refine' enterG (binds := [(("octets" : Str), .bytes ⟨b⟩ tb)]) ?k1 ?k2 ?k3 ?k4 ?k5 ?kA ?kF ?kK ?k6 ?k7 ?k8 ?k9 ?kB ?_ ?c2 ?c3 ?c4 ?c5
  case kA => exact rfl
  case kF => exact rfl
  case kK => assumption
  case k1 => k_asm
  case k2 => k_asm
  case k3 => k_asm
  case k4 => k_asm
  case k5 => k_asm
  case k6 => k_is
  case k7 => k_is
  case k8 => ktr_room
  case k9 => first | exact BindsTo.of_eq rfl | exact binds_K (by k_in) rfl (by k_is) rfl rfl rfl
  case c5 => decide
  case kB => exact locs rfl
  case c2 => exact rfl
  case c3 => exact rfl
  case c4 => exact rfl
  k_whole
  intro g L' h' hg FG F' N' B' X' T'
  try dsimp only
  try k_fold
  refine wpAny_execs_cons ?_
  refine wpAny_Return_some ?_
  walk1
  walk1
  walk1
  walk1
  walk1
  k_dflt (refine ListComp_B (F₀ := by k_asm) (by rfl) (by decide) (by rfl) (by decide) (by rfl) ?_)
  walk1
  refine ⟨⟨b⟩, tb, [], rfl, rfl, by k_asm, by k_asm, (by show b.length ≤ _; rw [sizeLine_eq]; omega), fun g' => ?_⟩
  refine rest_inv (n := b.length) (fun i ys nw => Hold (nw = [] ∧ ∃ l : List (Str × Tok), ys = strValues l ∧ l.map (·.1) = (chrs b).take i)) ?step ?fin b.length 0 [] [] (Nat.zero_add _) (Hold.mk ⟨rfl, [], rfl, rfl⟩)
  case step =>
    rintro i ys nw v I oI C oC D m₂ h tk E' hi ⟨rfl, l, rfl, hl⟩ ⟨c, u, hc, rfl⟩ hC hx F1 N1 off ne
    have hc9 := c.toNat_lt
    k_steps
    refine Hold.mk ⟨rfl, l ++ [(⟨#[c.toNat]⟩, tk)], ?_, ?_⟩
    · unfold strValues; rw [List.map_append]; exact rfl
    · rw [List.map_append, hl, chrs, List.take_add_one]
      congr 1
      rw [List.getElem?_map]
      have : b[i]? = some c := by simpa using hc
      rw [this]
      rfl
  case fin =>
    rintro ys nw ⟨rfl, l, rfl, hl⟩
    intro D h' tk F1 N1 o1
    try dsimp only
    have hl' : l.map (·.1) = chrs b := by
      rw [hl, List.take_of_length_le (by simp [chrs])]
    walk1
    refine SC.join (texts := chrs b) (l := l) (isList_of (N1 (D, LCg.lst (strValues l)) (.head _)).1) hl' ?_ fun t' k => ?_
    · unfold JoinOk
      rw [StrLaws.joinFits (B := 1) (fun y hy => by obtain ⟨c, _, rfl⟩ := List.mem_map.mp hy; exact Nat.le_refl _) (by simp only [chrs, List.length_map]; show b.length * 1 + b.length * 0 ≤ _; omega)]
      rfl
    have hj := join_chrs b
    rw [hj]
    replace N1 : News g L' h' [] := fun _ h => nomatch h
    try k_unfold
    try dsimp only
    refine' leave_con ?h1 ?h2 ?h3 ?h4 ?_
    case h1 => assumption
    case h2 => assumption
    case h3 => k_asm
    case h4 => k_asm
    exact Hold.mk ⟨⟨_, rfl⟩, rfl⟩
end part_C1
section
variable {prog : Program} {w : World} {p : Program} {loose : List Str} {mean : ExcName → Option Value} {mg mb : Str → Option Value}
    {dp un : Nat} {gd : Option (List Code)} {cn : Str} {cs : Scope} {a : Addr} {ccd : Value} {cl : List (Str × Addr)} {outer : List Env} {A₀ : Around} {base h₀ : Heap} {L : Addr} {m : Str → Option Value} {s : Shared} {Q E : Value → Shared → Prop} {all : Led}
theorem use_sign_text {b : List UInt8} {tb : Tok} (B : Below A₀ base outer h₀) (F : Fr h₀ L s.heap m) (X : (hd.heap_1 w.params).In h₀) (N : News h₀ L s.heap all) (T : Top p loose mean mg mb h₀)
    (hk : cs.kind = .function) (hd : dp + 2 < recursionLimit) (hu : un + 8 * 2 < cLine) (hz : b.length < 2 ^ 16)
    (k : ∀ t h' tk', Fr h₀ L h' m → News h₀ L h' all → Q (.str (textOf b) t) { s with heap := h', toks := tk' }) :
    wpAny (model prog w) (ktrTop dp un gd cn cs L a ccd cl outer) (call (.ref 189) [.bytes ⟨b⟩ tb]) Q E s :=
  Con.use all (sign_text_c w s.heap b tb hz) B F X N T hk hd hu (fun _ h => nomatch h) (fun q hq => ⟨hq, fun h => nomatch h⟩) (fun v news' h' tk' hp fr F' N' => by
    obtain ⟨⟨t, rfl⟩, rfl⟩ := hp
    exact k t h' tk' F' N') fun _ _ _ _ _ _ hz => hz.elim
end

theorem text_add {prog : Program} {w : World} {A : Around} {E : Value → Shared → Prop} {s : Shared} {b : List UInt8} {x : Str} {t u : Tok} {Q : Value → Shared → Prop} (hb : b.length < 2 ^ 16) (hx : x.length ≤ 100) (h : ∀ t' tk, Q (.str (textOf b ++ x) t') { s with toks := tk }) :
    wpAny (model prog w) A (binaryOp .Add (.str (textOf b) t) (.str x u)) Q E s := by
  refine add_str (fun t' tk => ?_) ?_
  · exact h t' tk
  · have h1 : (textOf b).length = b.length := by show (textOf b).cps.size = _; simp [textOf]
    rw [h1, sizeLine_eq]
    omega
example : True := by
  k_with "call ref" => (k_here; (with_reducible show wpAny _ _ (call (Value.ref 189) _) _ _ _); k_dflt (apply use_sign_text; (case B => k_asm); (case F => k_asm); (case X => k_asm); (case N => k_asm); (case T => k_asm); (case hk => exact rfl); (case hd => ktr_room); (case hu => ktr_units); (case hz => first | assumption | decide); (case' k => skip); intro _ _ _ _ _; (try k_sweep)))
  trivial
example : True := by
  k_with "binaryOp Add str str" => (k_here; with_reducible (first | (apply text_add; (case hb => assumption); (case hx => k_dflt decide); (case' h => skip)) | (apply text_add3; (case hb => assumption); (case hx => k_dflt decide); (case hy => k_dflt decide); (case' h => skip)) | (apply text_addL; (case hb => assumption); (case hx => k_dflt decide); (case' h => skip))); intro _ _)
  trivial
section part_C2
/-- the sign must stand there -/
theorem need_c (w : World) (h : Heap) (c : RdC) (pos : Nat) (tk : Tok) (ts sfx : List Tk) (b : List UInt8) (tb : Tok) (hts : TL h c.l ts) (hs : ts.drop pos = sfx) (hb : b.length < 2 ^ 16) :
    Con w (hd.heap_1 w.params) 252 [.ref c.r, .bytes ⟨b⟩ tb] 6 h (rdL w.params c pos tk) (fun v news' _ => standsB sfx b = true ∧ ts.drop (pos + 1) = sfx.tail ∧ v = .none ∧ ∃ tk', news' = rdL w.params c (pos + 1) tk') (standsB sfx b = false) := by
  intro prog p loose mean mg mb dp un gd cn cs a ccd cl outer A₀ base h₀ L m s Q E hh B F X N T hkf hd hu ret exc
  subst hh
  refine wpAny_call ?_
  refine' enterG (binds := [(("self" : Str), .ref c.r), (("sign" : Str), .bytes ⟨b⟩ tb)]) ?k1 ?k2 ?k3 ?k4 ?k5 ?kA ?kF ?kK ?k6 ?k7 ?k8 ?k9 ?kB ?_ ?c2 ?c3 ?c4 ?c5
  case kA => exact rfl
  case kF => exact rfl
  case kK => assumption
  case k1 => k_asm
  case k2 => k_asm
  case k3 => k_asm
  case k4 => k_asm
  case k5 => k_asm
  case k6 => k_is
  case k7 => k_is
  case k8 => ktr_room
  case k9 => first | exact BindsTo.of_eq rfl | exact binds_K (by k_in) rfl (by k_is) rfl rfl rfl
  case c5 => decide
  case kB => exact locs rfl
  case c2 => exact rfl
  case c3 => exact rfl
  case c4 => exact rfl
  k_whole
  intro g L' h' hg FG F' N' B' X' T'
  try dsimp only
  try k_fold
  have hT : TL g c.l ts := hts.ground N hg
  k_steps
  · have hq : standsB sfx b = true := by assumption
    exact Hold.mk ⟨hq, drop_tail hs, rfl, _, rfl⟩
  · exact Hold.mk (by assumption)
end part_C2
section
variable {prog : Program} {w : World} {A : Around} {E : Value → Shared → Prop} {s : Shared} {h₀ : Heap} {L : Addr} {m : Str → Option Value}
/-- no entry is the list at D -/
def OffL (D : Addr) (rest : Led) : Prop := ∀ q ∈ rest, q.1 ≠ D ∨ (q.2.cls != .type "list") = true
theorem OffL.nil {D : Addr} : OffL D [] := fun _ h => nomatch h
theorem OffL.cls {D : Addr} {rest : Led} {q : Addr × Obj} (h1 : (q.2.cls != .type "list") = true) (h : OffL D rest) : OffL D (q :: rest) := fun x hx => by
  rcases List.mem_cons.mp hx with rfl | hx
  · exact .inr h1
  · exact h x hx
theorem OffL.ne {D : Addr} {rest : Led} {q : Addr × Obj} (h1 : q.1 ≠ D) (h : OffL D rest) : OffL D (q :: rest) := fun x hx => by
  rcases List.mem_cons.mp hx with rfl | hx
  · exact .inl h1
  · exact h x hx
theorem OffL.app {D : Addr} {r1 r2 : Led} (h1 : OffL D r1) (h2 : OffL D r2) : OffL D (r1 ++ r2) := fun q hq => (List.mem_append.mp hq).elim (h1 q) (h2 q)
theorem append_my {D : Addr} {ys : List Value} {n : Nat} {x : Value} {pre post : Led} {Q : Value → Shared → Prop} (F : Fr h₀ L s.heap m) (N : News h₀ L s.heap (pre ++ (D, lo ys n) :: post)) (h1 : OffL D pre) (h2 : OffL D post) (hz : ys.length < 2 ^ 20)
    (h : ∀ h', Fr h₀ L h' m → News h₀ L h' (pre ++ (D, lo (ys ++ [x]) (n + 1)) :: post) → Q .none { s with heap := h' }) : wpAny (model prog w) A (call (.builtin "list.append") [.ref D, x]) Q E s := by
  have z := N (D, lo ys n) (List.mem_append.mpr (.inr (.head _)))
  have ne : ∀ q, (q.1 ≠ D ∨ (q.2.cls != .type "list") = true) → q ∈ pre ++ (D, lo ys n) :: post → q.1 ≠ D := fun q hq hm => by
    rcases hq with hq | hq
    · exact hq
    · intro e
      have e2 := (N q hm).1
      rw [e, z.1] at e2
      rw [← Option.some.inj e2] at hq
      exact absurd hq (by simp)
  have a : ∀ q ∈ pre, q.1 ≠ D := fun q hq => ne q (h1 q hq) (List.mem_append_left _ hq)
  have b : ∀ q ∈ post, q.1 ≠ D := fun q hq => ne q (h2 q hq) (List.mem_append_right _ (.tail _ hq))
  refine append_at (hsz := by rw [sizeLine_eq]; simp only [List.size_toArray]; omega) z.1 fun h' hs ho' => h h' (F.change hs z.2.1 z.2.2) ?_
  have := news_set N a b hs ho'
  rw [List.push_toArray] at this
  exact this
theorem append_rd {D D1 D2 : Addr} {o1 o2 : Obj} {ys : List Value} {n : Nat} {x : Value} {post : Led} {Q : Value → Shared → Prop} (F : Fr h₀ L s.heap m) (N : News h₀ L s.heap ((D1, o1) :: (D2, o2) :: (D, lo ys n) :: post)) (h1 : OffL D [(D1, o1), (D2, o2)]) (h2 : OffL D post) (hz : ys.length < 2 ^ 20)
    (h : ∀ h', Fr h₀ L h' m → News h₀ L h' ((D1, o1) :: (D2, o2) :: (D, lo (ys ++ [x]) (n + 1)) :: post) → Q .none { s with heap := h' }) : wpAny (model prog w) A (call (.builtin "list.append") [.ref D, x]) Q E s :=
  append_my (pre := [(D1, o1), (D2, o2)]) F N h1 h2 hz h
theorem append_hd {D : Addr} {ys : List Value} {n : Nat} {x : Value} {post : Led} {Q : Value → Shared → Prop} (F : Fr h₀ L s.heap m) (N : News h₀ L s.heap ((D, lo ys n) :: post)) (h2 : OffL D post) (hz : ys.length < 2 ^ 20)
    (h : ∀ h', Fr h₀ L h' m → News h₀ L h' ((D, lo (ys ++ [x]) (n + 1)) :: post) → Q .none { s with heap := h' }) : wpAny (model prog w) A (call (.builtin "list.append") [.ref D, x]) Q E s :=
  append_my (pre := []) F N OffL.nil h2 hz h
theorem append_2 {D D1 : Addr} {o1 : Obj} {ys : List Value} {n : Nat} {x : Value} {post : Led} {Q : Value → Shared → Prop} (F : Fr h₀ L s.heap m) (N : News h₀ L s.heap ((D1, o1) :: (D, lo ys n) :: post)) (h1 : OffL D [(D1, o1)]) (h2 : OffL D post) (hz : ys.length < 2 ^ 20)
    (h : ∀ h', Fr h₀ L h' m → News h₀ L h' ((D1, o1) :: (D, lo (ys ++ [x]) (n + 1)) :: post) → Q .none { s with heap := h' }) : wpAny (model prog w) A (call (.builtin "list.append") [.ref D, x]) Q E s :=
  append_my (pre := [(D1, o1)]) F N h1 h2 hz h
end
theorem TL.lt {h : Heap} {l : Addr} {ts : List Tk} (H : TL h l ts) : ts.length < 2 ^ 16 := by
  obtain ⟨its, ep, _, hz, hA⟩ := H
  rw [← hA.length, Array.length_toList]; exact hz.1
example : True := by
  k_with "call ref" => (k_here; (with_reducible show wpAny _ _ (call (Value.ref 252) _) _ _ _); k_dflt (walk_at "zz rd"; (focus exact (fun q kp => need_c _ _ _ _ _ _ _ _ _ q (by k_asm) (by first | assumption | decide))); walk_at "zz rd2"; (refine kNeed ?_); iterate 8 (intro _); walk_at "zz sb"; walk_at "zz end"))
  trivial
example : True := by
  k_with "call builtin:list.append" => (k_here; (with_reducible show wpAny _ _ (call (Value.builtin _) [Value.ref _, _]) _ _ _); k_dflt ((first | (apply append_hd; (case F => k_asm); (case N => k_asm); (case h2 => (repeat (first | exact OffL.nil | assumption | refine OffL.cls rfl ?_ | refine OffL.ne (by first | assumption | omega) ?_))); (case hz => first | assumption | decide | omega | (simp only [List.length_append, List.length_cons, List.length_nil] <;> omega)); (case' h => skip)) | (apply append_2; (case F => k_asm); (case N => k_asm); (case h1 => (repeat (first | exact OffL.nil | assumption | refine OffL.cls rfl ?_ | refine OffL.ne (by first | assumption | omega) ?_))); (case h2 => (repeat (first | exact OffL.nil | assumption | refine OffL.cls rfl ?_ | refine OffL.ne (by first | assumption | omega) ?_))); (case hz => first | assumption | decide | omega | (simp only [List.length_append, List.length_cons, List.length_nil] <;> omega)); (case' h => skip)) | (apply append_rd; (case F => k_asm); (case N => k_asm); (case h1 => (repeat (first | exact OffL.nil | assumption | refine OffL.cls rfl ?_ | refine OffL.ne (by first | assumption | omega) ?_))); (case h2 => (repeat (first | exact OffL.nil | assumption | refine OffL.cls rfl ?_ | refine OffL.ne (by first | assumption | omega) ?_))); (case hz => first | assumption | decide | omega | (simp only [List.length_append, List.length_cons, List.length_nil] <;> omega)); (case' h => skip))); intro _ _ _; (try k_sweep)))
  trivial
section part_C3
def isWord (t : Tk) : Bool := t.k != .sign || t.w == [46]
def Slice (h : Heap) (l : Addr) (pos : Nat) (ys : List Value) : Prop := ∀ j v, ys[j]? = some v → TokAt h l (pos + j) v
theorem tw_drop {α : Type} {p : α → Bool} : ∀ {l : List α} {k : Nat}, k ≤ (l.takeWhile p).length → (l.takeWhile p).length = k + ((l.drop k).takeWhile p).length ∧ l.dropWhile p = (l.drop k).dropWhile p
  | l, 0, _ => by simp
  | [], k + 1, h => by simp at h
  | x :: l, k + 1, h => by
    cases hx : p x with
    | false => simp [List.takeWhile_cons, hx] at h
    | true =>
      simp only [List.takeWhile_cons, hx, if_true, List.length_cons, List.dropWhile_cons, List.drop_succ_cons] at h ⊢
      obtain ⟨h1, h2⟩ := tw_drop (p := p) (l := l) (k := k) (by omega)
      exact ⟨by omega, h2⟩
theorem word_ns {t : Tk} {r : List Tk} (h : (kindOf (t :: r) != ("sign" : Str)) = true) : isWord t = true := by
  have : (t.k.str == ("sign" : Str)) = false := by
    change (!(t.k.str == ("sign" : Str))) = true at h
    simpa using h
  rw [kd_sign] at this
  unfold isWord bne
  rw [this]; rfl
theorem word_pt {t : Tk} {r : List Tk} (h : standsB (t :: r) [46] = true) : isWord t = true := by
  simp only [standsB, Bool.and_eq_true] at h
  unfold isWord
  rw [h.2, Bool.or_true]
theorem word_not {t : Tk} {r : List Tk} (h : (kindOf (t :: r) != ("sign" : Str)) = false) (h2 : standsB (t :: r) [46] = false) : isWord t = false := by
  have : (t.k.str == ("sign" : Str)) = true := by
    change (!(t.k.str == ("sign" : Str))) = false at h
    simpa using h
  rw [kd_sign] at this
  simp only [standsB, this, Bool.true_and] at h2
  unfold isWord bne
  rw [this, h2]; rfl
theorem ksw_endN {σ : Type} {h₀ : Heap} {L : Addr} {s : Shared} {Led : σ → List (Addr × Obj)} {ps : σ → List (Str × Value)} {Facts : σ → Prop} {stored : List Str} {m₀ m' : Str → Option Value} {P : σ → Prop} {μ : σ → Nat} {c : σ} {h' : Heap} {tk : Nat} (c' : σ)
    (F : Fr h₀ L h' m') (N : News h₀ L h' (Led c')) (hf : Facts c') (hk : ∀ p ∈ ps c', m' p.1 = some p.2) (hr : ∀ z, (∀ p ∈ ps c', z ≠ p.1) → stored.contains z = false → m' z = m₀ z) (hp : P c') (hm : μ c' < μ c) :
    KswEnd h₀ L s Led ps Facts stored m₀ P μ c { s with heap := h', toks := tk } := ksw_end c' F N (fun _ h => h) hf hk hr hp hm
theorem Slice.snoc {h : Heap} {l : Addr} {pos k : Nat} {ys : List Value} {v : Value} (H : Slice h l pos ys) (hk : ys.length = k) (hv : TokAt h l (pos + k) v) : Slice h l pos (ys ++ [v]) := fun j x e => by
  rcases Nat.lt_trichotomy j k with hj | hj | hj
  · rw [List.getElem?_append_left (by omega)] at e; exact H j x e
  · subst hj
    rw [List.getElem?_append_right (by omega), hk, Nat.sub_self] at e
    cases e; exact hv
  · rw [List.getElem?_eq_none (by simp; omega)] at e; cases e
/-- the words ahead -/
theorem words_c (w : World) (h : Heap) (c : RdC) (pos : Nat) (tk : Tok) (ts sfx : List Tk) (hts : TL h c.l ts) (hs : ts.drop pos = sfx) :
    Con w (hd.heap_1 w.params) 259 [.ref c.r] 4 h (rdL w.params c pos tk) (fun v news' _ =>
      ∃ lw ys ep pos' tk', v = .ref lw ∧ news' = rdL w.params c pos' tk' ++ [(lw, lo ys ep)] ∧ ts.drop pos' = sfx.dropWhile isWord ∧ ys.length = (sfx.takeWhile isWord).length ∧ Slice h c.l pos ys) False := by
  intro prog p loose mean mg mb dp un gd cn cs a ccd cl outer A₀ base h₀ L m s Q E hh B F X N T hkf hd hu ret exc
  subst hh
  have hne := rd_ne N
  refine wpAny_call ?_
  refine' enterG (binds := [(("self" : Str), .ref c.r)]) ?k1 ?k2 ?k3 ?k4 ?k5 ?kA ?kF ?kK ?k6 ?k7 ?k8 ?k9 ?kB ?_ ?c2 ?c3 ?c4 ?c5
  case kA => exact rfl
  case kF => exact rfl
  case kK => assumption
  case k1 => k_asm
  case k2 => k_asm
  case k3 => k_asm
  case k4 => k_asm
  case k5 => k_asm
  case k6 => k_is
  case k7 => k_is
  case k8 => ktr_room
  case k9 => first | exact BindsTo.of_eq rfl | exact binds_K (by k_in) rfl (by k_is) rfl rfl rfl
  case c5 => decide
  case kB => exact locs rfl
  case c2 => exact rfl
  case c3 => exact rfl
  case c4 => exact rfl
  k_whole
  intro g L' h' hg FG F' N' B' X' T'
  try dsimp only
  try k_fold
  have hT : TL g c.l ts := hts.ground N hg
  k_steps

  rename_i fl hq1 lq hq2 F1 N1
  refine Stop.mk ?_
  refine ksw_while (σ := Nat × Nat × Tok × List Value) (fun x => [(c.r, instObj 262 c.d), (c.d, rdDict w.params c (pos + x.1) x.2.2.1), (fl, lo x.2.2.2 x.2.1)]) (fun _ => [("self", .ref c.r), ("found", .ref fl)]) (fun _ => True) []
    (fun x => ts.drop (pos + x.1) = sfx.drop x.1 ∧ x.1 ≤ (sfx.takeWhile isWord).length ∧ x.2.2.2.length = x.1 ∧ Slice g c.l pos x.2.2.2) (fun x => (sfx.takeWhile isWord).length - x.1) (0, 0, _, []) F1 (by
      intro q hq
      simp only [List.mem_cons, List.not_mem_nil, or_false] at hq
      rcases hq with rfl | rfl | rfl
      · exact N1 _ (.tail _ (.head _))
      · exact N1 _ (.tail _ (.tail _ (.head _)))
      · exact N1 _ (.head _)) trivial ?hk ?hp ?turn
  case hk => intro p hp; simp at hp; rcases hp with rfl | rfl <;> rfl
  case hp => exact ⟨hs, Nat.zero_le _, rfl, fun j v e => by simp at e⟩
  case turn =>
    rintro ⟨k, ep, tk2, ys⟩ u h2 tk3 - ⟨hd1, hle, hly, hsl⟩ F2 N2
    dsimp only at hd1 hle hly hsl F2 N2 ⊢
    have hyz : ys.length < 2 ^ 20 := by
      have h1 := hT.lt
      have h2 : (sfx.takeWhile isWord).length ≤ sfx.length := (List.takeWhile_sublist _).length_le
      have h3 : sfx.length ≤ ts.length := by rw [← hs, List.length_drop]; omega
      omega
    cases hsx : sfx.drop k with
    | nil =>
      rw [hsx] at hd1
      k_steps
      · obtain ⟨q1, q2⟩ := tw_drop hle
        rw [hsx] at q1 q2
        refine Hold.mk ⟨_, _, _, _, _, rfl, rfl, hd1.trans q2.symm, by simp at q1; omega, fun j v e => TokAt.down (hsl j v e) hts fun b o e q => hg b o e (rd_apart N e q)⟩
    | cons t r =>
      rw [hsx] at hd1
      obtain ⟨q1, q2⟩ := tw_drop hle
      rw [hsx] at q1 q2
      k_steps
      case' hp =>
        have hw : isWord t = false := word_not (by assumption) (by assumption)
        rw [List.dropWhile_cons, hw] at q2
        rw [List.takeWhile_cons, hw] at q1
        refine Hold.mk ⟨_, _, _, _, _, rfl, rfl, hd1.trans q2.symm, by simp at q1; omega, fun j v e => TokAt.down (hsl j v e) hts fun b o e q => hg b o e (rd_apart N e q)⟩
      all_goals
        have hw : isWord t = true := by first | exact word_ns (by assumption) | exact word_pt (by assumption)
        rw [List.takeWhile_cons, hw] at q1
        simp only [if_true, List.length_cons] at q1
        refine' ksw_endN (k + 1, ep + 1, _, ys ++ [_]) ?F ?N trivial ?hk ?hr ?hp ?hm
        case F => k_asm
        case N => k_asm
        case hm => show _ - _ < _ - _; omega
        case hk => intro p hp; simp at hp; rcases hp with rfl | rfl <;> rfl
        case hr =>
          intro z hz _
          have z1 := hz _ (.head _)
          have z2 := hz _ (.tail _ (.head _))
          dsimp only at z1 z2
          simp [kstB, z1, z2]
        case hp => exact ⟨by show List.drop (pos + k + 1) ts = _; rw [drop_tail hsx]; assumption, by omega, by simp [hly], hsl.snoc hly (by assumption)⟩
end part_C3
theorem isList_lo {h : Heap} {D : Addr} {ys : List Value} {ep : Nat} (e : h.get? D = some (lo ys ep)) : h.IsList D ys.toArray := ⟨_, e, rfl, _, rfl⟩
theorem slice_all {h : Heap} {l : Addr} {ts : List Tk} (H : TL h l ts) : ∀ {ys : List Value} {pos : Nat} {sfx : List Tk}, Slice h l pos ys → ts.drop pos = sfx → ys.length ≤ sfx.length → All2 (TokIn h) ys (sfx.take ys.length)
  | [], _, _, _, _, _ => trivial
  | v :: ys, pos, [], _, _, hz => by simp at hz
  | v :: ys, pos, t :: r, hS, hs, hz => by
    refine ⟨(hS 0 v rfl).tok H hs, slice_all H (pos := pos + 1) (fun j x e => ?_) (drop_tail hs) (by simpa using hz)⟩
    have := hS (j + 1) x e
    rwa [show pos + (j + 1) = pos + 1 + j by omega] at this
theorem wcat_cons (t : Tk) (r : List Tk) : wcat (t :: r) = t.w ++ wcat r := rfl
theorem wcat_append (a b : List Tk) : wcat (a ++ b) = wcat a ++ wcat b := by
  unfold wcat; rw [List.map_append, List.flatten_append]
theorem wcat_take (l : List Tk) (n : Nat) : (wcat (l.take n)).length ≤ (wcat l).length := by
  have := congrArg (fun x => (wcat x).length) (List.take_append_drop n l)
  simp only [wcat_append, List.length_append] at this
  omega
theorem wcat_drop (l : List Tk) (n : Nat) : (wcat (l.drop n)).length ≤ (wcat l).length := by
  have := congrArg (fun x => (wcat x).length) (List.take_append_drop n l)
  simp only [wcat_append, List.length_append] at this
  omega
theorem takeWhile_take {α : Type} (p : α → Bool) (l : List α) : l.takeWhile p = l.take (l.takeWhile p).length := (List.prefix_iff_eq_take.mp (List.takeWhile_prefix p))
theorem TL.wz {h : Heap} {l : Addr} {ts : List Tk} (H : TL h l ts) : (wcat ts).length < 2 ^ 16 := by
  obtain ⟨its, ep, _, hz, hA⟩ := H; exact hz.2
theorem TL.words {h : Heap} {l lw : Addr} {ts sfx : List Tk} {pos : Nat} {ys : List Value} {ep : Nat} (H : TL h l ts) (hs : ts.drop pos = sfx) (hw : h.get? lw = some (lo ys ep)) (hA : All2 (TokIn h) ys (sfx.takeWhile isWord)) : TL h lw (sfx.takeWhile isWord) := by
  have h1 : (sfx.takeWhile isWord).length ≤ sfx.length := (List.takeWhile_sublist _).length_le
  have h2 : sfx.length ≤ ts.length := by rw [← hs, List.length_drop]; omega
  have h3 := H.lt
  have h4 := H.wz
  refine ⟨ys.toArray, ep, hw, ⟨?_, ?_⟩, hA⟩
  · have := hA.length
    show ys.length < _
    omega
  · rw [takeWhile_take]
    have h5 := wcat_take sfx (sfx.takeWhile isWord).length
    have h6 := wcat_drop ts pos
    rw [hs] at h6
    omega
theorem words_at {w : World} {h₀ h : Heap} {c : RdC} {pos : Nat} {tk : Tok} {ts sfx : List Tk} (hts : TL h c.l ts) (ht0 : TL h₀ c.l ts) (kp : ∀ b o, h₀.get? b = some o → h.get? b = some o) (hs : ts.drop pos = sfx) :
    Con w (hd.heap_1 w.params) 259 [.ref c.r] 4 h (rdL w.params c pos tk) (fun v news' _ =>
      ∃ lw ys ep pos' tk', v = .ref lw ∧ news' = rdL w.params c pos' tk' ++ [(lw, lo ys ep)] ∧ ts.drop pos' = sfx.dropWhile isWord ∧ All2 (TokIn h₀) ys (sfx.takeWhile isWord)) False :=
  (words_c w h c pos tk ts sfx hts hs).mono fun v n h' z => by
    obtain ⟨lw, ys, ep, pos', tk', e1, e2, e3, e4, e5⟩ := z
    refine ⟨lw, ys, ep, pos', tk', e1, e2, e3, ?_⟩
    rw [takeWhile_take, ← e4]
    refine slice_all ht0 (fun j v e => (e5 j v e).down ht0 fun b o e _ => kp b o e) hs ?_
    rw [e4]; exact (List.takeWhile_sublist _).length_le
section
variable {prog : Program} {w : World} {A : Around} {E : Value → Shared → Prop} {s : Shared} {h₀ : Heap} {L : Addr} {m : Str → Option Value} {env : Env} {news : Led}
theorem unpack_tok {elts : List PySem.Expr} {k} {pos : Pos} {ta : Addr} {kd : Str} {t1 t2 t3 : Tok} {b : List UInt8} {i : Int} {n : Nat} {Q : Unit → Shared → Prop} (F : Fr h₀ L s.heap m) (N : News h₀ L s.heap news) (ht : h₀.get? ta = some (tokO kd t1 b t2 i t3 n))
    (hh : A.handled = none) (hn : (assignEach elts env).length = 3) (hstar : (assignEach elts env).findIdx? (·.1) = none)
    (h : ∀ h', Fr h₀ L h' m → News h₀ L h' news → wpAny (model prog w) A (assignInOrder ((assignEach elts env).map (·.2)) [.str kd t1, .bytes ⟨b⟩ t2, .int i t3]) Q E { s with heap := h' }) :
    wpAny (model prog w) A (assign (.Tuple elts k pos) env (.ref ta)) Q E s :=
  unpackN_ F N ⟨_, F.keep _ _ ht, rfl, _, rfl⟩ hh hn hstar h
theorem join_rd {D1 D2 fl : Addr} {o1 o2 : Obj} {ep : Nat} {l : List (List UInt8 × Tok)} {rest : Led} {sep : List UInt8} {t : Tok} {parts : List (List UInt8)} {Q : Value → Shared → Prop} (N : News h₀ L s.heap ((D1, o1) :: (D2, o2) :: (fl, lo (BJ.bvals l) ep) :: rest)) (hp : l.map (·.1) = parts) (hz : (BJ.catB sep parts).length < 2 ^ 16) (h : ∀ t' k, Q (.bytes ⟨BJ.catB sep parts⟩ t') { s with toks := k }) :
    wpAny (model prog w) A (call (.builtin "bytes.join") [.bytes ⟨sep⟩ t, .ref fl]) Q E s :=
  BJ.join (isList_lo (N _ (.tail _ (.tail _ (.head _)))).1) hp (by omega) h
theorem join_hd {fl : Addr} {ep : Nat} {l : List (List UInt8 × Tok)} {rest : Led} {sep : List UInt8} {t : Tok} {parts : List (List UInt8)} {Q : Value → Shared → Prop} (N : News h₀ L s.heap ((fl, lo (BJ.bvals l) ep) :: rest)) (hp : l.map (·.1) = parts) (hz : (BJ.catB sep parts).length < 2 ^ 16) (h : ∀ t' k, Q (.bytes ⟨BJ.catB sep parts⟩ t') { s with toks := k }) :
    wpAny (model prog w) A (call (.builtin "bytes.join") [.bytes ⟨sep⟩ t, .ref fl]) Q E s :=
  BJ.join (isList_lo (N _ (.head _)).1) hp (by omega) h
end
theorem BJ.bvals_snoc (l : List (List UInt8 × Tok)) (b : List UInt8) (t : Tok) : BJ.bvals l ++ [.bytes ⟨b⟩ t] = BJ.bvals (l ++ [(b, t)]) := by
  unfold BJ.bvals; rw [List.map_append]; rfl
theorem kst_endN {h₀ : Heap} {x : Str} {σ : Type} {Led : σ → List (Addr × Obj)} {ps : σ → List (Str × Value)} {Facts : σ → Prop} {stored : List Str} {m₀ : Str → Option Value} {P : List Int → σ → Prop} {pre : List Int} (c : σ) {L : Addr} {m' : Str → Option Value} {own : List (Addr × Obj)} {adr : List Addr} {s₁ : Shared} {h' : Heap} {tk : Nat}
    (F : Fr h₀ L h' m') (N : News h₀ L h' (Led c ++ own)) (ha : (Led c).map (·.1) = adr) (hf : Facts c) (hk : ∀ p ∈ ps c, m' p.1 = some p.2) (hr : ∀ z, z ≠ x → (∀ p ∈ ps c, z ≠ p.1) → stored.contains z = false → m' z = m₀ z) (hp : P pre c) :
    InvEndN h₀ L (KstS Led ps Facts x stored m₀ P pre) own adr s₁ { s₁ with heap := h', toks := tk } :=
  kst_end c F N (fun _ h => List.mem_append_left _ h) (fun _ h => List.mem_append_right _ h) ha hf hk hr hp
theorem catB_nil : ∀ (l : List (List UInt8)), BJ.catB [] l = l.flatten
  | [] => rfl
  | [x] => by simp [BJ.catB]
  | x :: y :: r => by rw [BJ.catB, catB_nil (y :: r)]; simp
example : True := by
  k_with "call ref" => (k_here; (with_reducible show wpAny _ _ (call (Value.ref 259) _) _ _ _); k_dflt (walk_at "zz rd"; (focus exact (fun q kp => words_at q (by k_asm) kp (by k_asm))); walk_at "zz rd2"; (refine kWords ?_); iterate 12 (intro _); walk_at "zz end"))
  trivial
example : True := by
  k_with "assign Tuple" => (k_here; (with_reducible show wpAny _ _ (assign (Expr.Tuple _ _ _) _ (Value.ref _)) _ _ _); k_dflt (apply unpack_tok; (case F => k_asm); (case N => k_asm); (case ht => k_asm); (case hh => exact rfl); (case hn => exact rfl); (case hstar => exact rfl); (case' h => skip); k_whole); intro _ _ _; (try k_sweep))
  trivial
example : True := by
  k_with "call builtin:bytes.join" => (k_here; k_dflt (first | (apply join_hd; (case N => k_asm); (case hp => assumption); (case hz => assumption); (case' h => skip)) | (apply join_rd; (case N => k_asm); (case hp => assumption); (case hz => assumption); (case' h => skip))); intro _ _)
  trivial
section part_C4
def altB : Nat → List Tk → Bool
  | _, [] => true
  | i, t :: r => ((t.k == .sign) == (i % 2 == 1)) && t.k != .literal && altB (i + 1) r
def localB (ws : List Tk) : Bool := altB 0 ws && ws.length % 2 == 1
theorem kd_lit (k : Kd) : (k.str == ("literal" : Str)) = (k == .literal) := by cases k <;> decide
theorem nat_fmod2 (i : Nat) : ((i : Int)).fmod 2 = ((i % 2 : Nat) : Int) := by
  rw [Int.fmod_eq_emod_of_nonneg _ (by decide)]; rfl
theorem odd_eq (i : Nat) : (((i : Int)).fmod 2 == 1) = (i % 2 == 1) := by
  rw [nat_fmod2]
  rcases Nat.mod_two_eq_zero_or_one i with h | h <;> rw [h] <;> decide
theorem alt_bad1 {i : Nat} {t : Tk} {r : List Tk} (h : ((t.k.str == ("sign" : Str)) != (((i : Int)).fmod 2 == 1)) = true) : altB i (t :: r) = false := by
  rw [kd_sign, odd_eq] at h
  unfold altB
  rw [show ((t.k == Kd.sign) == (i % 2 == 1)) = false by simpa [bne] using h]
  rfl
theorem alt_bad2 {i : Nat} {t : Tk} {r : List Tk} (h : (t.k.str == ("literal" : Str)) = true) : altB i (t :: r) = false := by
  rw [kd_lit] at h
  unfold altB bne
  rw [h]
  simp
theorem alt_go {i : Nat} {t : Tk} {r : List Tk} (h : ((t.k.str == ("sign" : Str)) != (((i : Int)).fmod 2 == 1)) = false) (h2 : (t.k.str == ("literal" : Str)) = false) : altB i (t :: r) = altB (i + 1) r := by
  rw [kd_sign, odd_eq] at h
  rw [kd_lit] at h2
  show (((t.k == Kd.sign) == (i % 2 == 1)) && t.k != .literal && altB (i + 1) r) = _
  unfold bne
  rw [show ((t.k == Kd.sign) == (i % 2 == 1)) = true by simpa [bne] using h, h2]
  rfl
theorem leave_rd {h₀ g : Heap} {L L' : Addr} {m m' : Str → Option Value} {news rest : Led} {q1 q2 : Addr × Obj} {Q E : Value → Shared → Prop} {post : Value → Led → Heap → Prop} {s : Shared} {v : Value} {h' : Heap} {tk' : Nat}
    (hg : ∀ b o, s.heap.get? b = some o → b ∉ news.map (·.1) → g.get? b = some o)
    (ret : ∀ v news' h' tk', Fr h₀ L h' m → News h₀ L h' news' → Keeps L news s.heap h' → (∀ q ∈ news', q.1 ∈ news.map (·.1) ∨ s.heap.get? q.1 = none) → post v news' h' → Q v { s with heap := h', toks := tk' })
    (F' : Fr g L' h' m') (N' : News g L' h' (q1 :: q2 :: rest)) (hp : Hold (post v [q1, q2] h')) :
    LeaveK h₀ L m g (fun r s' => match r with | .ok (.ret v) => Q v s' | .ok _ => False | .error e => E e s') v { s with heap := h', toks := tk' } :=
  leave_con hg ret F' (fun q hq => N' q (by
    simp only [List.mem_cons, List.not_mem_nil, or_false] at hq
    rcases hq with rfl | rfl
    · exact .head _
    · exact .tail _ (.head _))) hp
example : True := by
  k_with "LeaveK" => (k_here; k_dflt (apply leave_rd; (case hg => assumption); (case ret => assumption); (case F' => k_asm); (case N' => k_asm); (case' hp => skip)))
  trivial
theorem local_of_c (w : World) (h : Heap) (c : RdC) (pos : Nat) (tkr : Tok) (ts sfx ws : List Tk) (lw : Addr) (hts : TL h c.l ts) (hs : ts.drop pos = sfx) (hws : TL h lw ws) :
    Con w (hd.heap_1 w.params) 273 [.ref c.r, .ref lw] 6 h (rdL w.params c pos tkr) (fun v news' _ => localB ws = true ∧ (∃ t, v = .str (textOf (wcat ws)) t) ∧ news' = rdL w.params c pos tkr) (localB ws = false) := by
  intro prog p loose mean mg mb dp un gd cn cs a ccd cl outer A₀ base h₀ L m s Q E hh B F X N T hkf hd hu ret exc
  subst hh
  have hne := rd_ne N
  refine wpAny_call ?_
  refine' enterG (binds := [(("reader" : Str), .ref c.r), (("words" : Str), .ref lw)]) ?k1 ?k2 ?k3 ?k4 ?k5 ?kA ?kF ?kK ?k6 ?k7 ?k8 ?k9 ?kB ?_ ?c2 ?c3 ?c4 ?c5
  case kA => exact rfl
  case kF => exact rfl
  case kK => assumption
  case k1 => k_asm
  case k2 => k_asm
  case k3 => k_asm
  case k4 => k_asm
  case k5 => k_asm
  case k6 => k_is
  case k7 => k_is
  case k8 => ktr_room
  case k9 => first | exact BindsTo.of_eq rfl | exact binds_K (by k_in) rfl (by k_is) rfl rfl rfl
  case c5 => decide
  case kB => exact locs rfl
  case c2 => exact rfl
  case c3 => exact rfl
  case c4 => exact rfl
  k_whole
  intro g L' h' hg FG F' N' B' X' T'
  try dsimp only
  try k_fold
  have hT : TL g c.l ts := hts.ground N hg
  have hW : TL g lw ws := hws.ground N hg
  obtain ⟨its, ep, hl, hz, hA⟩ := id hW
  have hL : g.IsList lw its := ⟨_, hl, rfl, ep, rfl⟩
  k_steps
  rename_i fl hq1 lq hq2 F1 N1
  refine Stop.mk ?_
  refine For_invVF F1 rfl rfl ?_
  k_steps
  rename_i hp' tq tt1 tt2 tt3 hrg F2 N2 kp2
  refine Stop.mk ?_
  have hn : its.size = ws.length := by have := hA.length; simpa using this
  have hz1 := hz.1
  have hz2 := hz.2
  refine kst_range (σ := Nat × List (List UInt8 × Tok)) (n := its.size) (fun x => [(c.r, instObj 262 c.d), (c.d, rdDict w.params c pos tkr), (fl, lo (BJ.bvals x.2) x.1)]) (fun _ => [("reader", .ref c.r), ("words", .ref lw), ("parts", .ref fl)]) (fun _ => True) ["kind", "worth", "at", "is_point"]
    (fun pre x => x.2.map (·.1) = (ws.take pre.length).map (·.w) ∧ altB 0 ws = altB pre.length (ws.drop pre.length)) (0, []) rfl hrg ?hsm ?hn F2 (by
      intro q hq
      simp only [List.mem_cons, List.not_mem_nil, or_false] at hq
      rcases hq with rfl | rfl | rfl
      · exact N2 _ (.tail _ (.head _))
      · exact N2 _ (.tail _ (.tail _ (.head _)))
      · exact N2 _ (.head _)) trivial ?hk ⟨rfl, rfl⟩ ?turn ?done
  case hk => intro p hp; simp at hp; rcases hp with rfl | rfl | rfl <;> rfl
  case hsm =>
    exact small_one (by decide) (by decide) (by omega) (by omega)
  case hn =>
    rw [rangeSize_nat]
    congr 1
  case turn =>
    rintro ⟨ep2, l⟩ pre k t u h2 tk2 own hk hlt hown - ⟨hl1, hl2⟩ F3 N3
    dsimp only at hl1 hl2 hown F3 N3 ⊢
    rw [Int.zero_add] at hk
    subst hk
    have hd0 : ws.drop pre.length = ws[pre.length]'(by omega) :: ws.drop (pre.length + 1) := List.drop_eq_getElem_cons (by omega)
    generalize ws[pre.length]'(by omega) = t0 at hd0
    have hoff : Off c own := fun q hq => .inl ⟨hown q hq _ (by simp), hown q hq _ (by simp)⟩
    have hoffl : OffL fl own := fun q hq => .inl (hown q hq _ (by simp))
    have hyz : (BJ.bvals l).length < 2 ^ 20 := by
      have := congrArg List.length hl1
      simp only [List.length_map, List.length_take] at this
      simp only [BJ.bvals, List.length_map]
      omega
    rw [hd0] at hl2
    k_steps
    · exact Hold.mk (by show (altB 0 ws && _) = false; rw [hl2, alt_bad1 (by assumption)]; rfl)
    · exact Hold.mk (by show (altB 0 ws && _) = false; rw [hl2, alt_bad2 (by assumption)]; rfl)
    · rename News _ _ _ _ => NX
      rw [BJ.bvals_snoc] at NX
      refine' kst_endN (ep2 + 1, l ++ [(t0.w, _)]) (by k_asm) NX rfl trivial ?hk ?hr ?hp
      case hk => intro p hp; simp at hp; rcases hp with rfl | rfl | rfl <;> rfl
      case hr =>
        intro z z0 hz hst
        have z1 := hz _ (.head _)
        have z2 := hz _ (.tail _ (.head _))
        have z3 := hz _ (.tail _ (.tail _ (.head _)))
        dsimp only at z1 z2 z3
        simp only [List.contains_cons, List.contains_nil, Bool.or_eq_false_iff, beq_eq_false_iff_ne, ne_eq] at hst
        simp [kstB, hst, z0, z1, z2, z3]
      case hp =>
        have e : (pre ++ [(pre.length : Int)]).length = pre.length + 1 := by simp
        rw [e]
        refine ⟨?_, by rw [hl2, alt_go (by assumption) (by assumption)]⟩
        rw [List.map_append, hl1, List.take_add_one]
        have : ws[pre.length]? = some t0 := by
          have := congrArg List.head? hd0
          rw [List.head?_drop] at this
          exact this
        rw [this]
        simp
  case done =>
    rintro ⟨ep2, l⟩ u h2 tk2 - ⟨hl1, hl2⟩ F3 N3
    dsimp only at hl1 hl2 F3 N3 ⊢
    have hlen : (rangeKs 0 its.size).length = ws.length := by rw [rangeKs_length, hn]
    rw [hlen] at hl1 hl2
    rw [List.take_length] at hl1
    rw [List.drop_length] at hl2
    have hzb : (BJ.catB [] (ws.map (·.w))).length < 2 ^ 16 := by rw [catB_nil]; exact hz2
    k_steps
    · refine Hold.mk ?_
      have he : (its.size : Int).fmod 2 = 0 := by assumption
      rw [nat_fmod2, hn] at he
      unfold localB
      rw [show ws.length % 2 = 0 by omega]
      simp
    · have he : (its.size : Int).fmod 2 ≠ 0 := by assumption
      rw [nat_fmod2, hn] at he
      refine Hold.mk ⟨?_, ⟨_, by rw [catB_nil]; rfl⟩, rfl⟩
      unfold localB
      rw [hl2, show ws.length % 2 = 1 by omega]
      rfl
end part_C4
section
variable {prog : Program} {w : World} {A : Around} {E : Value → Shared → Prop} {s : Shared} {h₀ : Heap} {L : Addr} {m : Str → Option Value} {env : Env} {news : Led}
theorem sjoin_rd {D1 D2 fl : Addr} {o1 o2 : Obj} {ep : Nat} {l : List (Str × Tok)} {rest : Led} {sep : Str} {t : Tok} {parts : List Str} {Q : Value → Shared → Prop} (N : News h₀ L s.heap ((D1, o1) :: (D2, o2) :: (fl, lo (strValues l) ep) :: rest)) (hp : l.map (·.1) = parts) (hz : JoinOk sep parts = true) (h : ∀ t' k, Q (.str (Txt.join sep parts) t') { s with toks := k }) :
    wpAny (model prog w) A (call (.builtin "str.join") [.str sep t, .ref fl]) Q E s :=
  SC.join (isList_lo (N _ (.tail _ (.tail _ (.head _)))).1) hp hz h
theorem textOf_len (b : List UInt8) : (textOf b).length = b.length := by show (textOf b).cps.size = _; simp [textOf]
theorem str_len_append (x y : Str) : (x ++ y).length = x.length + y.length := by
  show (Str.append x y).cps.size = x.cps.size + y.cps.size
  unfold Str.append
  simp
theorem text_addL {b : List UInt8} {x : Str} {t u : Tok} {Q : Value → Shared → Prop} (hb : b.length < 2 ^ 16) (hx : x.length ≤ 100) (h : ∀ t' tk, Q (.str (x ++ textOf b) t') { s with toks := tk }) :
    wpAny (model prog w) A (binaryOp .Add (.str x t) (.str (textOf b) u)) Q E s := by
  refine add_str (fun t' tk => h t' tk) ?_
  rw [textOf_len, sizeLine_eq]
  omega
theorem text_add3 {b : List UInt8} {x y : Str} {t u : Tok} {Q : Value → Shared → Prop} (hb : b.length < 2 ^ 16) (hx : x.length ≤ 100) (hy : y.length ≤ 100) (h : ∀ t' tk, Q (.str (x ++ textOf b ++ y) t') { s with toks := tk }) :
    wpAny (model prog w) A (binaryOp .Add (.str (x ++ textOf b) t) (.str y u)) Q E s := by
  refine add_str (fun t' tk => h t' tk) ?_
  rw [str_len_append, textOf_len, sizeLine_eq]
  omega
end
example : True := by
  k_with "binaryOp Add str str" => (k_here; with_reducible (first | (apply text_add; (case hb => assumption); (case hx => k_dflt decide); (case' h => skip)) | (apply text_add3; (case hb => assumption); (case hx => k_dflt decide); (case hy => k_dflt decide); (case' h => skip)) | (apply text_addL; (case hb => assumption); (case hx => k_dflt decide); (case' h => skip))); intro _ _)
  trivial
example : True := by
  k_with "call builtin:str.join" => (k_here; k_dflt (apply sjoin_rd; (case N => k_asm); (case hp => assumption); (case hz => assumption); (case' h => skip)); intro _ _)
  trivial
example : True := by
  k_with "call ref" => (k_here; (with_reducible show wpAny _ _ (call (Value.ref 273) _) _ _ _); k_dflt (walk_at "zz rd"; (focus exact (fun q kp => local_of_c _ _ _ _ _ _ _ _ _ q (by k_asm) (by first | exact TL.up (by with_reducible assumption) kp | exact TL.wordsN q (by k_asm) (by first | exact .head _ | exact .tail _ (.head _) | exact .tail _ (.tail _ (.head _)) | exact .tail _ (.tail _ (.tail _ (.head _)))) (by with_reducible assumption) (by with_reducible assumption) kp))); walk_at "zz rd2"; (refine kLoc ?_); iterate 7 (intro _); walk_at "zz end"))
  trivial
section part_C5
example : True := by
  k_with "LeaveK" => (k_here; k_dflt (apply leave_rd; (case hg => assumption); (case ret => assumption); (case F' => k_asm); (case N' => k_asm); (case' hp => skip)))
  trivial
def atomsA : List (List UInt8) → List Tk → Option (List (List UInt8) × List Tk)
  | acc, t :: s :: r => if t.k == .atom then if s.k == .sign && s.w == [46] then atomsA (acc ++ [t.w]) r else some (acc ++ [t.w], s :: r) else none
  | acc, [t] => if t.k == .atom then some (acc ++ [t.w], []) else none
  | _, [] => none
theorem atomsA_cons (acc : List (List UInt8)) (t : Tk) (r : List Tk) : atomsA acc (t :: r) = if t.k == .atom then (if standsB r [46] then atomsA (acc ++ [t.w]) r.tail else some (acc ++ [t.w], r)) else none := by
  cases r <;> rfl
def domP : List Tk → Option (Str × List Tk)
  | ⟨.literal, w⟩ :: r => some (("[" : Str) ++ textOf w ++ "]", r)
  | l => (atomsA [] l).map fun x => (Txt.join "." (x.1.map textOf), x.2)
theorem domP_lit {t : Tk} {r : List Tk} (h : (t.k == Kd.literal) = true) : domP (t :: r) = some (("[" : Str) ++ textOf t.w ++ "]", r) := by
  obtain ⟨k, w⟩ := t
  cases k <;> first | rfl | exact absurd (show (Kd.sign == Kd.literal) = true from h) (by decide) | exact absurd (show (Kd.atom == Kd.literal) = true from h) (by decide) | exact absurd (show (Kd.quoted == Kd.literal) = true from h) (by decide) | exact absurd (show (Kd.comment == Kd.literal) = true from h) (by decide)
theorem domP_not {l : List Tk} (h : (kindOf l == ("literal" : Str)) = false) : domP l = (atomsA [] l).map fun x => (Txt.join "." (x.1.map textOf), x.2) := by
  cases l with
  | nil => rfl
  | cons t r =>
    obtain ⟨k, w⟩ := t
    cases k <;> first | rfl | exact absurd h (by show ¬ ((Kd.literal.str == ("literal" : Str)) = false); decide)
theorem kd_atom (k : Kd) : (k.str == ("atom" : Str)) = (k == .atom) := by cases k <;> decide
theorem kd_atom_ne {t : Tk} {r : List Tk} (h : (kindOf (t :: r) != ("atom" : Str)) = true) : (t.k == Kd.atom) = false := by
  have : (t.k.str == ("atom" : Str)) = false := by
    change (!(t.k.str == ("atom" : Str))) = true at h
    simpa using h
  rwa [kd_atom] at this
theorem kd_atom_eq {t : Tk} {r : List Tk} (h : (kindOf (t :: r) != ("atom" : Str)) = false) : (t.k == Kd.atom) = true := by
  have : (t.k.str == ("atom" : Str)) = true := by
    change (!(t.k.str == ("atom" : Str))) = false at h
    simpa using h
  rwa [kd_atom] at this
theorem strV_snoc (l : List (Str × Tok)) (x : Str) (t : Tok) : strValues l ++ [.str x t] = strValues (l ++ [(x, t)]) := by
  unfold strValues; rw [List.map_append]; rfl
structure DomS where
  pos : Nat
  tk : Tok
  rem : List Tk
  acc : List (List UInt8)
  ep : Nat
  l : List (Str × Tok)
theorem domain_of_c (w : World) (h : Heap) (c : RdC) (pos : Nat) (tkr : Tok) (ts sfx : List Tk) (hts : TL h c.l ts) (hs : ts.drop pos = sfx) :
    Con w (hd.heap_1 w.params) 280 [.ref c.r] 6 h (rdL w.params c pos tkr) (fun v news' _ => ∃ x r t pos' tk', domP sfx = some (x, r) ∧ v = .str x t ∧ news' = rdL w.params c pos' tk' ∧ ts.drop pos' = r) (domP sfx = none) := by
  intro prog p loose mean mg mb dp un gd cn cs a ccd cl outer A₀ base h₀ L m s Q E hh B F X N T hkf hd hu ret exc
  subst hh
  have hne := rd_ne N
  refine wpAny_call ?_
  refine' enterG (binds := [(("reader" : Str), .ref c.r)]) ?k1 ?k2 ?k3 ?k4 ?k5 ?kA ?kF ?kK ?k6 ?k7 ?k8 ?k9 ?kB ?_ ?c2 ?c3 ?c4 ?c5
  case kA => exact rfl
  case kF => exact rfl
  case kK => assumption
  case k1 => k_asm
  case k2 => k_asm
  case k3 => k_asm
  case k4 => k_asm
  case k5 => k_asm
  case k6 => k_is
  case k7 => k_is
  case k8 => ktr_room
  case k9 => first | exact BindsTo.of_eq rfl | exact binds_K (by k_in) rfl (by k_is) rfl rfl rfl
  case c5 => decide
  case kB => exact locs rfl
  case c2 => exact rfl
  case c3 => exact rfl
  case c4 => exact rfl
  k_whole
  intro g L' h' hg FG F' N' B' X' T'
  try dsimp only
  try k_fold
  have hT : TL g c.l ts := hts.ground N hg
  have hT1 := hT.lt
  have hT2 := hT.wz
  have hsz : sfx.length ≤ ts.length ∧ (wcat sfx).length ≤ (wcat ts).length := by
    subst hs
    exact ⟨by rw [List.length_drop]; omega, wcat_drop ts pos⟩
  k_steps
  · cases sfx with
    | nil => exact absurd (show (kindOf [] == ("literal" : Str)) = true by assumption) (by decide)
    | cons t0 r0 =>
      have hzw : t0.w.length < 2 ^ 16 := by
        have := hsz.2
        rw [wcat_cons, List.length_append] at this
        omega
      k_steps
      refine Hold.mk ⟨_, _, _, _, _, ?_, rfl, rfl, by assumption⟩
      have hq : (t0.k.str == ("literal" : Str)) = true := by assumption
      rw [kd_lit] at hq
      exact domP_lit hq
  rename_i fl hq1 lq hq2 F1 N1
  have hnl : (kindOf sfx == ("literal" : Str)) = false := by assumption
  refine Stop.mk ?_
  refine ksw_while (σ := DomS) (fun x => [(c.r, instObj 262 c.d), (c.d, rdDict w.params c x.pos x.tk), (fl, lo (strValues x.l) x.ep)]) (fun _ => [("reader", .ref c.r), ("parts", .ref fl)]) (fun _ => True) []
    (fun x => ts.drop x.pos = x.rem ∧ atomsA [] sfx = atomsA x.acc x.rem ∧ x.l.map (·.1) = x.acc.map textOf ∧ x.rem.length + x.acc.length ≤ ts.length ∧ (wcat x.rem).length + x.acc.flatten.length ≤ (wcat ts).length) (fun x => x.rem.length) ⟨pos, tkr, sfx, [], 0, []⟩ F1 (by
      intro q hq
      simp only [List.mem_cons, List.not_mem_nil, or_false] at hq
      rcases hq with rfl | rfl | rfl
      · exact N1 _ (.tail _ (.head _))
      · exact N1 _ (.tail _ (.tail _ (.head _)))
      · exact N1 _ (.head _)) trivial ?hk ?hp ?turn
  case hk => intro p hp; simp at hp; rcases hp with rfl | rfl <;> rfl
  case hp => exact ⟨hs, rfl, rfl, by simpa using hsz.1, by simpa using hsz.2⟩
  case turn =>
    rintro ⟨p2, tk2, rem, acc, ep2, l⟩ u h2 tk3 - ⟨hd1, hat, hl, hz1, hz2⟩ F2 N2
    dsimp only at hd1 hat hl hz1 hz2 F2 N2 ⊢
    have hyz : (strValues l).length < 2 ^ 20 := by
      have := congrArg List.length hl
      simp only [List.length_map] at this
      simp only [strValues, List.length_map]
      omega
    cases rem with
    | nil =>
      k_steps
      exact Hold.mk (by rw [domP_not hnl, hat]; rfl)
    | cons t0 r0 =>
      have hzw : t0.w.length < 2 ^ 16 := by
        rw [wcat_cons, List.length_append] at hz2
        omega
      have hok : JoinOk "." ((acc ++ [t0.w]).map textOf) = true := by
        refine joinOk_of ?_
        have e : ∀ (a : List (List UInt8)), ((a.map textOf).map (·.length)).sum = a.flatten.length := fun a => by
          induction a with
          | nil => rfl
          | cons x r ih => simp only [List.map_cons, List.sum_cons, List.flatten_cons, List.length_append, textOf_len, ih]
        rw [e, List.length_map, show (("." : String) : Str).length = 1 by decide]
        simp only [List.flatten_append, List.length_append, List.flatten_cons, List.flatten_nil, List.append_nil, List.length_cons, List.length_nil] at *
        rw [wcat_cons, List.length_append] at hz2
        omega
      have hstep := atomsA_cons acc t0 r0
      k_steps
      · have hq : (kindOf (t0 :: r0) != ("atom" : Str)) = true := by assumption
        refine Hold.mk ?_
        rw [domP_not hnl, hat, hstep, if_neg (by rw [kd_atom_ne hq]; decide)]
        rfl
      · have hq : (kindOf (t0 :: r0) != ("atom" : Str)) = false := by assumption
        have hs1 : standsB r0 [46] = true := by assumption
        rename News _ _ _ _ => NX
        rw [strV_snoc] at NX
        rw [if_pos (kd_atom_eq hq), if_pos hs1] at hstep
        refine' ksw_endN (⟨p2 + 1 + 1, _, r0.tail, acc ++ [t0.w], ep2 + 1, l ++ [(textOf t0.w, _)]⟩ : DomS) (by k_asm) NX trivial ?hk ?hr ?hp ?hm
        case hm => show r0.tail.length < r0.length + 1; rw [List.length_tail]; omega
        case hk => intro p hp; simp at hp; rcases hp with rfl | rfl <;> rfl
        case hr =>
          intro z hz _
          have z1 := hz _ (.head _)
          have z2 := hz _ (.tail _ (.head _))
          dsimp only at z1 z2
          simp [kstB, z1, z2]
        case hp =>
          have hr0 : r0.tail.length + 1 ≤ r0.length ∧ (wcat r0.tail).length ≤ (wcat r0).length := by
            cases r0 with
            | nil => exact absurd hs1 (by decide)
            | cons a b => exact ⟨Nat.le_refl _, by rw [wcat_cons, List.length_append]; show (wcat b).length ≤ _; omega⟩
          refine ⟨by assumption, hat.trans hstep, by simp [hl], ?_, ?_⟩
          · simp only [List.length_append, List.length_cons, List.length_nil] at hz1 ⊢
            omega
          · rw [wcat_cons] at hz2
            simp only [List.flatten_append, List.length_append, List.flatten_cons, List.flatten_nil, List.append_nil] at hz2 ⊢
            omega
      · have hq : (kindOf (t0 :: r0) != ("atom" : Str)) = false := by assumption
        have hs1 : standsB r0 [46] = false := by assumption
        rename News _ _ _ _ => NX
        rw [strV_snoc] at NX
        rw [if_pos (kd_atom_eq hq), if_neg (by rw [hs1]; decide)] at hstep
        refine sjoin_rd NX (parts := (acc ++ [t0.w]).map textOf) (by simp [hl]) hok fun t' k => ?_
        k_steps
        exact Hold.mk ⟨_, _, _, _, _, by rw [domP_not hnl, hat, hstep]; rfl, rfl, rfl, by assumption⟩
end part_C5

example : True := by
  k_with "call ref" => (k_here; (with_reducible show wpAny _ _ (call (Value.ref 280) _) _ _ _); k_dflt (walk_at "zz rd"; (focus exact (fun q kp => domain_of_c _ _ _ _ _ _ _ q (by k_asm))); walk_at "zz rd2"; (refine kDom ?_); iterate 12 (intro _); walk_at "zz end"))
  trivial
section part_C6
example : True := by
  k_with "LeaveK" => (k_here; k_dflt (apply leave_rd; (case hg => assumption); (case ret => assumption); (case F' => k_asm); (case N' => k_asm); (case' hp => skip)))
  trivial
inductive RouteL : List Tk → Option (List Tk) → Prop
  | colon {s : List Tk} (h1 : standsB s [58] = true) : RouteL s (some s.tail)
  | comma {s : List Tk} {o : Option (List Tk)} (h1 : standsB s [58] = false) (h2 : standsB s [44] = true) (h : RouteL s.tail o) : RouteL s o
  | bad {s : List Tk} (h1 : standsB s [58] = false) (h2 : standsB s [44] = false) (h3 : standsB s [64] = false) : RouteL s none
  | badD {s : List Tk} (h1 : standsB s [58] = false) (h2 : standsB s [44] = false) (h3 : standsB s [64] = true) (h4 : domP s.tail = none) : RouteL s none
  | dom {s r : List Tk} {x : Str} {o : Option (List Tk)} (h1 : standsB s [58] = false) (h2 : standsB s [44] = false) (h3 : standsB s [64] = true) (h4 : domP s.tail = some (x, r)) (h : RouteL r o) : RouteL s o
theorem RouteL.inv1 {s : List Tk} {o : Option (List Tk)} (H : RouteL s o) (h : standsB s [58] = true) : o = some s.tail := by
  cases H with
  | colon => rfl
  | comma h1 | bad h1 | badD h1 | dom h1 => rw [h] at h1; cases h1
theorem RouteL.inv2 {s : List Tk} {o : Option (List Tk)} (H : RouteL s o) (h : standsB s [58] = false) (h' : standsB s [44] = true) : RouteL s.tail o := by
  cases H with
  | colon h1 => rw [h] at h1; cases h1
  | comma h1 h2 k => exact k
  | bad h1 h2 | badD h1 h2 | dom h1 h2 => rw [h'] at h2; cases h2
theorem RouteL.inv3 {s : List Tk} {o : Option (List Tk)} (H : RouteL s o) (h : standsB s [58] = false) (h' : standsB s [44] = false) (h3 : standsB s [64] = false) : o = none := by
  cases H with
  | colon h1 => rw [h] at h1; cases h1
  | comma h1 h2 => rw [h'] at h2; cases h2
  | bad | badD => rfl
  | dom h1 h2 h4 => rw [h3] at h4; cases h4
theorem RouteL.inv4 {s : List Tk} {o : Option (List Tk)} (H : RouteL s o) (h : standsB s [58] = false) (h' : standsB s [44] = false) (h3 : domP s.tail = none) : o = none := by
  cases H with
  | colon h1 => rw [h] at h1; cases h1
  | comma h1 h2 => rw [h'] at h2; cases h2
  | bad | badD => rfl
  | dom h1 h2 h4 h5 => rw [h3] at h5; cases h5
theorem RouteL.inv5 {s r : List Tk} {x : Str} {o : Option (List Tk)} (H : RouteL s o) (h : standsB s [58] = false) (h' : standsB s [44] = false) (h3 : standsB s [64] = true) (h4 : domP s.tail = some (x, r)) : RouteL r o := by
  cases H with
  | colon h1 => rw [h] at h1; cases h1
  | comma h1 h2 => rw [h'] at h2; cases h2
  | bad h1 h2 h5 => rw [h3] at h5; cases h5
  | badD h1 h2 h5 h6 => rw [h4] at h6; cases h6
  | dom h1 h2 h5 h6 k => rw [h4] at h6; cases h6; exact k
def RouteP (s : List Tk) (o : Option (List Tk)) : Prop := (standsB s [64] = false → standsB s [44] = false → o = some s) ∧ (standsB s [64] = true ∨ standsB s [44] = true → RouteL s o)
theorem stands_tail {s : List Tk} {b : List UInt8} (h : standsB s b = true) : s.tail.length + 1 = s.length := by
  cases s with
  | nil => cases h
  | cons a b => rfl
theorem atomsA_len : ∀ (s : List Tk) (acc ps : List (List UInt8)) (q : List Tk), atomsA acc s = some (ps, q) → q.length < s.length
  | [], _, _, _, h => by cases h
  | [t], acc, ps, q, h => by
    rw [atomsA] at h
    split at h
    · cases h; simp
    · cases h
  | t :: s :: r, acc, ps, q, h => by
    rw [atomsA] at h
    split at h
    · split at h
      · have := atomsA_len r _ _ _ h
        simp only [List.length_cons]
        omega
      · cases h; simp
    · cases h
theorem domP_len {s r : List Tk} {x : Str} (h : domP s = some (x, r)) : r.length < s.length := by
  cases hk : (kindOf s == ("literal" : Str)) with
  | false =>
    rw [domP_not hk] at h
    cases ha : atomsA [] s with
    | none => rw [ha] at h; cases h
    | some y =>
      rw [ha] at h
      cases h
      exact atomsA_len s [] _ _ ha
  | true =>
    cases s with
    | nil => exact absurd hk (by decide)
    | cons t q =>
      have hq : (t.k.str == ("literal" : Str)) = true := hk
      rw [kd_lit] at hq
      rw [domP_lit hq] at h
      cases h
      simp
structure RtS where
  pos : Nat
  tk : Tok
  rem : List Tk
theorem pass_route_c (w : World) (h : Heap) (c : RdC) (pos : Nat) (tkr : Tok) (ts sfx : List Tk) (out : Option (List Tk)) (hts : TL h c.l ts) (hs : ts.drop pos = sfx) (hr : RouteP sfx out) :
    Con w (hd.heap_1 w.params) 287 [.ref c.r] 8 h (rdL w.params c pos tkr) (fun v news' _ => ∃ r pos' tk', out = some r ∧ v = .none ∧ news' = rdL w.params c pos' tk' ∧ ts.drop pos' = r) (out = none) := by
  intro prog p loose mean mg mb dp un gd cn cs a ccd cl outer A₀ base h₀ L m s Q E hh B F X N T hkf hd hu ret exc
  subst hh
  have hne := rd_ne N
  refine wpAny_call ?_
  refine' enterG (binds := [(("reader" : Str), .ref c.r)]) ?k1 ?k2 ?k3 ?k4 ?k5 ?kA ?kF ?kK ?k6 ?k7 ?k8 ?k9 ?kB ?_ ?c2 ?c3 ?c4 ?c5
  case kA => exact rfl
  case kF => exact rfl
  case kK => assumption
  case k1 => k_asm
  case k2 => k_asm
  case k3 => k_asm
  case k4 => k_asm
  case k5 => k_asm
  case k6 => k_is
  case k7 => k_is
  case k8 => ktr_room
  case k9 => first | exact BindsTo.of_eq rfl | exact binds_K (by k_in) rfl (by k_is) rfl rfl rfl
  case c5 => decide
  case kB => exact locs rfl
  case c2 => exact rfl
  case c3 => exact rfl
  case c4 => exact rfl
  k_whole
  intro g L' h' hg FG F' N' B' X' T'
  try dsimp only
  try k_fold
  have hT : TL g c.l ts := hts.ground N hg
  k_steps
  rotate_left 2
  · exact Hold.mk ⟨_, _, _, hr.1 (by assumption) (by assumption), rfl, rfl, hs⟩
  all_goals
    have hRL : RouteL sfx out := by first | exact hr.2 (.inl (by assumption)) | exact hr.2 (.inr (by assumption))
    rename Fr g L' _ _ => F1
    rename News g L' _ _ => N1
    refine Stop.mk ?_
    refine ksw_while (σ := RtS) (fun x => [(c.r, instObj 262 c.d), (c.d, rdDict w.params c x.pos x.tk)]) (fun _ => [("reader", .ref c.r)]) (fun _ => True) []
      (fun x => ts.drop x.pos = x.rem ∧ RouteL x.rem out) (fun x => x.rem.length) ⟨pos, tkr, sfx⟩ F1 N1 trivial ?hk ?hp ?turn
    case hk => intro p hp; simp at hp; subst hp; rfl
    case hp => exact ⟨hs, hRL⟩
    case turn =>
      rintro ⟨p2, tk2, rem⟩ u h2 tk3 - ⟨hd1, hR⟩ F2 N2
      dsimp only at hd1 hR F2 N2 ⊢
      k_steps
      · have h1 : standsB rem [58] = true := by assumption
        exact Hold.mk ⟨_, _, _, hR.inv1 h1, rfl, rfl, by assumption⟩
      · have h1 : standsB rem [58] = false := by assumption
        have h2 : standsB rem [44] = true := by assumption
        refine' ksw_endN (⟨p2 + 1, _, rem.tail⟩ : RtS) (by k_asm) (by assumption) trivial ?hk ?hr ?hp ?hm
        case hm => have := stands_tail h2; show rem.tail.length < rem.length; omega
        case hk => intro p hp; simp at hp; subst hp; rfl
        case hr =>
          intro z hz _
          have z1 := hz _ (.head _)
          dsimp only at z1
          simp [kstB, z1]
        case hp => exact ⟨by assumption, hR.inv2 h1 h2⟩
      · have h1 : standsB rem [58] = false := by assumption
        have h2 : standsB rem [44] = false := by assumption
        have h3 : standsB rem [64] = true := by assumption
        rename domP _ = some _ => hdm
        refine' ksw_endN (⟨_, _, _⟩ : RtS) (by k_asm) (by assumption) trivial ?hk ?hr ?hp ?hm
        case hk => intro p hp; simp at hp; subst hp; rfl
        case hr =>
          intro z hz _
          have z1 := hz _ (.head _)
          dsimp only at z1
          simp [kstB, z1]
        case hp => exact ⟨by assumption, hR.inv5 h1 h2 h3 hdm⟩
        case hm => have h4 := stands_tail h3; have h5 := domP_len (s := rem.tail) hdm; dsimp only; omega
      · have h1 : standsB rem [58] = false := by assumption
        have h2 : standsB rem [44] = false := by assumption
        rename domP _ = none => hdm
        exact Hold.mk (hR.inv4 h1 h2 hdm)
      · have h1 : standsB rem [58] = false := by assumption
        have h2 : standsB rem [44] = false := by assumption
        exact Hold.mk (hR.inv3 h1 h2 (by assumption))
end part_C6

example : True := by
  k_with "call ref" => (k_here; (with_reducible show wpAny _ _ (call (Value.ref 287) _) _ _ _); k_dflt (walk_at "zz rd"; (focus exact (fun q kp => pass_route_c _ _ _ _ _ _ _ _ q (by k_asm) (by k_asm))); walk_at "zz rd2"; (refine kPass ?_); iterate 10 (intro _); walk_at "zz end"))
  trivial
section part_C7
section
open LCg LCt
variable {prog : Program} {w : World} {A : Around} {E : Value → Shared → Prop} {s : Shared} {h₀ : Heap} {L : Addr} {m : Str → Option Value} {env : Env}
theorem rest_invT {ct elt : PySem.Expr} {x : Str} {scope : Scope} {cl : List (Str × Addr)} {S : Led → Prop} {P : Nat → Value → Prop} {Fin : List Value → Led → Prop} {n : Nat} (J : Nat → List Value → Led → Prop)
    (step : ∀ i ys nw v I oI C oC D m₂ h tk (E' : Value → Shared → Prop), i < n → J i ys nw → P i v → NsObj oC m₂ → m₂ x = some v → Fr h₀ L h m → News h₀ L h ((I, oI) :: (C, oC) :: (D, lst ys) :: nw) → Off3 I C D nw → ((@Ne Nat I C) ∧ (@Ne Nat I D) ∧ (@Ne Nat C D)) →
      wpAny (model prog w) A (isTrue ct (compEnvC scope cl C env) (eval ct (compEnvC scope cl C env))) (fun ok s' => if ok = true then
        wpAny (model prog w) A (eval elt (compEnvC scope cl C env)) (CompEnd h₀ L m { s with heap := h, toks := tk } I oI C oC D (lst ys) S (fun y nw' => J (i + 1) (ys ++ [y]) nw')) E' s'
        else CompEnd h₀ L m { s with heap := h, toks := tk } I oI C oC D (lst ys) S (fun _ nw' => J (i + 1) ys nw') Value.none s') E' { s with heap := h, toks := tk })
    (fin : ∀ ys nw, J n ys nw → Fin ys nw) : ∀ k i ys nw, i + k = n → J i ys nw → CompRestT prog w A h₀ L m env ct elt x scope cl s S P Fin k i ys nw
  | 0, i, ys, nw, e, hJ => fin ys nw (by rw [← show i = n by omega]; exact hJ)
  | k + 1, i, ys, nw, e, hJ => CompRestT.succ fun v I oI C oC D m₂ h tk E' hP hC hx F N off ne =>
    wpAny_mono (step i ys nw v I oI C oC D m₂ h tk E' (by omega) hJ hP hC hx F N off ne) (fun ok s₂ q => by
      cases ok with
      | true =>
        simp only [if_true] at q ⊢
        exact wpAny_mono q (fun y s₃ r => compEnd_mono (fun nw' r => rest_invT J step fin k (i + 1) _ nw' (by omega) r) r) fun _ _ q => q
      | false =>
        simp only [Bool.false_eq_true, if_false] at q ⊢
        exact compEnd_mono (fun nw' r => rest_invT J step fin k (i + 1) _ nw' (by omega) r) q) fun _ _ q => q
end
def selBy : List Tk → List Value → List Value
  | t :: ts, v :: vs => if t.k == .comment then selBy ts vs else v :: selBy ts vs
  | _, _ => []
def noCom (ts : List Tk) : List Tk := ts.filter fun t => !(t.k == .comment)
def SelOf (h : Heap) (l : Addr) (ts : List Tk) (ys : List Value) : Prop := ∃ its ep, h.get? l = some (listO its ep) ∧ its.size = ts.length ∧ ys = selBy ts its.toList
theorem All2.sel {h : Heap} : ∀ {vs : List Value} {ts : List Tk}, All2 (TokIn h) vs ts → All2 (TokIn h) (selBy ts vs) (noCom ts)
  | [], [], _ => trivial
  | v :: vs, t :: ts, q => by
    unfold noCom
    rw [List.filter_cons, selBy]
    cases hk : t.k == .comment with
    | true => simp; exact All2.sel q.2
    | false => simp; exact ⟨q.1, All2.sel q.2⟩
  | [], _ :: _, q => q.elim
  | _ :: _, [], q => q.elim
theorem selBy_step : ∀ (ts : List Tk) (vs : List Value) (i : Nat) (t : Tk) (v : Value), ts[i]? = some t → vs[i]? = some v → selBy (ts.take (i + 1)) (vs.take (i + 1)) = if t.k == .comment then selBy (ts.take i) (vs.take i) else selBy (ts.take i) (vs.take i) ++ [v]
  | [], _, _, _, _, e, _ => by simp at e
  | _ :: _, [], _, _, _, _, e => by simp at e
  | t :: ts, v :: vs, 0, t', v', e, e' => by
    cases e; cases e'
    simp only [List.take_succ_cons, List.take_zero, selBy]
    split <;> rfl
  | t :: ts, v :: vs, i + 1, t', v', e, e' => by
    have ih := selBy_step ts vs i t' v' (by simpa using e) (by simpa using e')
    simp only [List.take_succ_cons, selBy] at ih ⊢
    rw [ih]
    split <;> split <;> simp
theorem kd_com (k : Kd) : (k.str != ("comment" : Str)) = !(k == .comment) := by cases k <;> decide
theorem without_comments_c (w : World) (h : Heap) (l : Addr) (ts : List Tk) (hts : TL h l ts) :
    Con w (hd.heap_1 w.params) 123 [.ref l] 2 h [] (fun v news' _ => ∃ lw ys ep, v = .ref lw ∧ news' = [(lw, lo ys ep)] ∧ SelOf h l ts ys) False := by
  intro prog p loose mean mg mb dp un gd cn cs a ccd cl outer A₀ base h₀ L m s Q E hh B F X N T hkf hd hu ret exc
  subst hh
  refine wpAny_call ?_
  refine' enterG (binds := [(("tokens" : Str), .ref l)]) ?k1 ?k2 ?k3 ?k4 ?k5 ?kA ?kF ?kK ?k6 ?k7 ?k8 ?k9 ?kB ?_ ?c2 ?c3 ?c4 ?c5
  case kA => exact rfl
  case kF => exact rfl
  case kK => assumption
  case k1 => k_asm
  case k2 => k_asm
  case k3 => k_asm
  case k4 => k_asm
  case k5 => k_asm
  case k6 => k_is
  case k7 => k_is
  case k8 => ktr_room
  case k9 => first | exact BindsTo.of_eq rfl | exact binds_K (by k_in) rfl (by k_is) rfl rfl rfl
  case c5 => decide
  case kB => exact locs rfl
  case c2 => exact rfl
  case c3 => exact rfl
  case c4 => exact rfl
  k_whole
  intro g L' h' hg FG F' N' B' X' T'
  try dsimp only
  try k_fold
  have hT : TL g l ts := hts.keep fun b o e _ => hg b o e (fun h => nomatch h)
  obtain ⟨its, ep, hl, hz, hA⟩ := id hT
  have hL : g.IsList l its := ⟨_, hl, rfl, ep, rfl⟩
  have hlen : its.size = ts.length := by have := hA.length; simpa using this
  have hls : s.heap.get? l = some (listO its ep) := by
    obtain ⟨its', ep', hl', _⟩ := hts
    have := hg _ _ hl' (fun h => nomatch h)
    rw [hl] at this
    cases this
    exact hl'
  refine wpAny_execs_cons ?_
  refine wpAny_Return_some ?_
  k_dflt (refine LCt.ListComp_T (F₀ := by k_asm) (by rfl) (by decide) (by rfl) (by decide) (by rfl) ?_)
  walk1
  refine LCt.CompSrcT.base (news := []) rfl (by k_asm) (by k_asm) hL (by rw [sizeLine_eq]; omega) fun g' => ?_
  refine rest_invT (n := its.size) (fun i ys nw => Hold (nw = [] ∧ ys = selBy (ts.take i) (its.toList.take i))) ?step ?fin its.size 0 [] [] (Nat.zero_add _) (Hold.mk ⟨rfl, by simp [selBy]⟩)
  case step =>
    rintro i ys nw v I oI C oC D m₂ h tk E' hi ⟨rfl, rfl⟩ hv hC hx F1 N1 off ne
    have hti : ∃ t, ts[i]? = some t := ⟨_, List.getElem?_eq_getElem (by omega)⟩
    obtain ⟨t, ht⟩ := hti
    have hd : ts.drop i = t :: ts.drop (i + 1) := by
      rw [List.drop_eq_getElem_cons (by omega)]
      congr 1
      rw [List.getElem?_eq_getElem (by omega)] at ht
      exact Option.some.inj ht
    have hstep := selBy_step ts its.toList i t v ht (by simpa using hv)
    obtain ⟨v', hv', hti⟩ := hA.get hd
    have : v' = v := by
      rw [Array.getElem?_toList, hv] at hv'
      exact (Option.some.inj hv').symm
    subst this
    obtain ⟨ta, t1, t2, ti, t3, tn, rfl, tp, tt⟩ := hti
    k_steps
    · have hk : (t.k.str != ("comment" : Str)) = true := by assumption
      rw [kd_com, Bool.not_eq_true'] at hk
      exact Hold.mk ⟨rfl, by rw [hstep, hk]; rfl⟩
    · have hk : (t.k.str != ("comment" : Str)) = false := by assumption
      rw [kd_com, Bool.not_eq_false'] at hk
      exact Hold.mk ⟨rfl, by rw [hstep, hk]; rfl⟩
  case fin =>
    rintro ys nw ⟨rfl, rfl⟩
    intro D h' tk F1 N1 o1
    try dsimp only
    try k_unfold
    try dsimp only
    refine' leave_con ?h1 ?h2 ?h3 ?h4 ?_
    case h1 => assumption
    case h2 => assumption
    case h3 => k_asm
    case h4 => k_asm
    refine Hold.mk ⟨D, _, _, rfl, rfl, its, ep, hls, hlen, ?_⟩
    rw [List.take_of_length_le (by omega), List.take_of_length_le (by simp)]
section
variable {prog : Program} {w : World} {p : Program} {loose : List Str} {mean : ExcName → Option Value} {mg mb : Str → Option Value}
    {dp un : Nat} {gd : Option (List Code)} {cn : Str} {cs : Scope} {a : Addr} {ccd : Value} {cl : List (Str × Addr)} {outer : List Env} {A₀ : Around} {base h₀ : Heap} {L : Addr} {m : Str → Option Value} {s : Shared} {Q E : Value → Shared → Prop} {all : Led}
theorem SelOf.toks {h h₀ : Heap} {l : Addr} {ts : List Tk} {ys : List Value} (H : SelOf h l ts ys) (hts : TL h₀ l ts) (k : ∀ b o, h₀.get? b = some o → h.get? b = some o) : All2 (TokIn h₀) ys (noCom ts) := by
  obtain ⟨its, ep, e1, e2, rfl⟩ := H
  obtain ⟨its', ep', hl', hz, hA⟩ := hts
  have := k _ _ hl'
  rw [e1] at this
  cases this
  exact hA.sel
theorem use_wc {l : Addr} {ts : List Tk} (B : Below A₀ base outer h₀) (F : Fr h₀ L s.heap m) (X : (hd.heap_1 w.params).In h₀) (N : News h₀ L s.heap all) (T : Top p loose mean mg mb h₀)
    (hk : cs.kind = .function) (hd : dp + 2 < recursionLimit) (hu : un + 8 * 2 < cLine) (hts : TL h₀ l ts)
    (k : ∀ lw ys ep h' tk', All2 (TokIn h₀) ys (noCom ts) → Fr h₀ L h' m → News h₀ L h' ((lw, lo ys ep) :: all) → (∀ q ∈ all, q.1 ≠ lw) → Q (.ref lw) { s with heap := h', toks := tk' }) :
    wpAny (model prog w) (ktrTop dp un gd cn cs L a ccd cl outer) (call (.ref 123) [.ref l]) Q E s :=
  Con.use all (without_comments_c w s.heap l ts (hts.up F.keep)) B F X N T hk hd hu (fun _ h => nomatch h) (fun q hq => ⟨hq, fun h => nomatch h⟩) (fun v news' h' tk' hp fr F' N' => by
    obtain ⟨lw, ys, ep, rfl, rfl, hs⟩ := hp
    refine k lw ys ep h' tk' (hs.toks hts F.keep) F' N' (fun q hq e => ?_)
    rcases fr _ (.head _) with y | y
    · exact nomatch y
    · have q0 := (N q hq).1
      rw [e] at q0
      rw [y] at q0
      cases q0) fun _ _ _ _ _ _ hz => hz.elim
end
example : True := by
  k_with "call ref" => (k_here; (with_reducible show wpAny _ _ (call (Value.ref 123) _) _ _ _); k_dflt (apply use_wc; (case B => k_asm); (case F => k_asm); (case X => k_asm); (case N => k_asm); (case T => k_asm); (case hk => exact rfl); (case hd => ktr_room); (case hu => ktr_units); (case hts => k_asm); (case' k => skip); intro _ _ _ _ _ _ _ _ _; (try k_sweep)))
  trivial
def TurnEnd (h₀ : Heap) (L : Addr) (own : Led) (adr : List Addr) (Jn : (Str → Option Value) → Led → Prop) (s₁ : Shared) (f : Flow) (s₂ : Shared) : Prop :=
  f = .next ∧ ∃ h' tk m' nx', s₂ = { s₁ with heap := h', toks := tk } ∧ Fr h₀ L h' m' ∧ News h₀ L h' (nx' ++ own) ∧ nx'.map (·.1) = adr ∧ Jn m' nx'
section
variable {prog : Program} {w : World} {A : Around} {E : Value → Shared → Prop} {s : Shared} {env : Env} {h₀ : Heap} {target : PySem.Expr} {body : List Stmt} {Q : Flow → Shared → Prop}
theorem iter_my {lw : Addr} {ys : List Value} {ep : Nat} {m : Str → Option Value} {nx : Led} (J : Nat → (Str → Option Value) → Led → Prop) (hh : A.handled = none) (F : Fr h₀ env.locals s.heap m) (N : News h₀ env.locals s.heap ((lw, lo ys ep) :: nx)) (hne : ∀ q ∈ nx, q.1 ≠ lw) (h0 : J 0 m nx)
    (step : ∀ i v m₁ nx₁ s₁ own, ys[i]? = some v → J i m₁ nx₁ → OwnOff own (nx.map (·.1)) → nx₁.map (·.1) = nx.map (·.1) → Fr h₀ env.locals s₁.heap m₁ → News h₀ env.locals s₁.heap (nx₁ ++ own) →
      wpAny (model prog w) A (assign target env v) (fun _ s₃ => wpAny (model prog w) A (execs body env) (TurnEnd h₀ env.locals own (nx.map (·.1)) (J (i + 1)) s₁) E s₃) E s₁)
    (done : ∀ h' tk m' nx', Fr h₀ env.locals h' m' → News h₀ env.locals h' nx' → nx'.map (·.1) = nx.map (·.1) → J ys.length m' nx' → Q .next { s with heap := h', toks := tk }) :
    wpAny (model prog w) A (pyIter (.ref lw)) (fun it s₂ => LoopAtT prog w A h₀ env target body Q E it s₂) E s := by
  have nlw := N _ (.head _)
  have hIlt : ∀ {b : Addr} {o : Obj}, s.heap.get? b = some o → b ≠ s.heap.objs.size := fun e => Nat.ne_of_lt (Heap.lt_size e)
  have Nx : News h₀ env.locals s.heap nx := fun q hq => N q (.tail _ hq)
  have hadr : ∀ (nx₁ : Led), nx₁.map (·.1) = nx.map (·.1) → ∀ q ∈ nx₁, ∃ q' ∈ nx, q'.1 = q.1 := fun nx₁ e q hq => by
    have : q.1 ∈ nx.map (·.1) := e ▸ List.mem_map.mpr ⟨q, hq, rfl⟩
    obtain ⟨q', h1, h2⟩ := List.mem_map.mp this
    exact ⟨q', h1, h2⟩
  refine wpAny_pyIter_list (isList_lo nlw.1) ?_
  refine ⟨s.heap.objs.size, [s.heap.objs.size, lw], [s.heap.objs.size], ys.toArray.size, _, _, m, nx, fun i m₁ nx₁ => nx₁.map (·.1) = nx.map (·.1) ∧ J i m₁ nx₁, rfl, Walks.list hh s.heap.objs.size lw (hIlt nlw.1) ys.toArray, ?_, ?_, ?_, ?_, F.push _, ?_, (fun i s' v Q' st hQ' => letGo_listiter st.1 hQ'), ⟨rfl, h0⟩, ?_, ?_⟩
  · intro hm
    rcases List.mem_cons.mp hm with e | hm
    · exact absurd F.ns.lt (e ▸ Nat.lt_irrefl _)
    · exact nlw.2.1 (List.mem_singleton.mp hm).symm
  · intro b hb
    rw [List.mem_singleton.mp hb]
    exact next_is_new F
  · intro p hp hI
    exact hIlt (Nx p hp).1 (List.mem_singleton.mp hI)
  · exact ⟨⟨_, Heap.get?_push_size _ rfl, rfl, rfl⟩, (isList_lo nlw.1).at fun o e => Heap.get?_push_of_some _ e⟩
  · exact fun p hp => ⟨Heap.get?_push_of_some _ (Nx p hp).1, (Nx p hp).2⟩
  · rintro i v m₁ nx₁ s₁ own hi hv ⟨ha, hJ⟩ hoff hsub hget hall hst F₁ N₁
    have hown : OwnOff own (nx.map (·.1)) := fun q hq b hb e => by
      obtain ⟨q', h1, h2⟩ := List.mem_map.mp hb
      rcases List.mem_cons.mp (hsub q hq) with z | z
      · exact hIlt (Nx q' h1).1 (by rw [h2, ← e, z])
      · exact hne q' h1 (by rw [h2, ← e, List.mem_singleton.mp z])
    refine wpAny_mono (step i v m₁ nx₁ s₁ own (by simpa using hv) hJ hown ha F₁ fun q hq => N₁ q (List.mem_append.mpr (List.mem_append.mp hq).symm)) (fun _ s₂ h₂ => wpAny_mono h₂ (fun f s₃ h₃ => ?_) fun _ _ e => e) fun _ _ e => e
    obtain ⟨rfl, h', tk, m', nx', rfl, F', N', ha', hJ'⟩ := h₃
    refine ⟨rfl, h', tk, m', nx', rfl, F', fun q hq => N' q (List.mem_append.mpr (List.mem_append.mp hq).symm), fun p hp hI => ?_, ha', hJ'⟩
    obtain ⟨q', h1, h2⟩ := hadr nx' ha' p hp
    exact hIlt (Nx q' h1).1 (h2.trans (List.mem_singleton.mp hI))
  · rintro h' tk m' nx' F' N' hoff ⟨ha, hJ⟩
    have : ys.toArray.size = ys.length := rfl
    exact done h' tk m' nx' F' N' ha hJ
end
def phr : List (List UInt8) → List (List UInt8)
  | [] => []
  | w :: r => w :: (r.map fun x => [[32], x]).flatten
def allAtoms (ws : List Tk) : Bool := ws.all fun t => t.k == .atom
theorem phr_len : ∀ (l : List (List UInt8)), (phr l).length ≤ 2 * l.length
  | [] => Nat.le_refl _
  | w :: r => by
    have : ∀ (r : List (List UInt8)), ((r.map fun x => [[32], x]).flatten).length = 2 * r.length := fun r => by
      induction r with
      | nil => rfl
      | cons a r ih => simp only [List.map_cons, List.flatten_cons, List.length_append, List.length_cons, List.length_nil, ih]; omega
    simp only [phr, List.length_cons, this]
    omega
theorem phr_pos {l : List (List UInt8)} (h : l ≠ []) : 0 < (phr l).length := by
  cases l with
  | nil => exact absurd rfl h
  | cons => simp [phr]
theorem phr_snoc {l : List (List UInt8)} (h : l ≠ []) (w : List UInt8) : phr (l ++ [w]) = phr l ++ [[32], w] := by
  cases l with
  | nil => exact absurd rfl h
  | cons a r => simp [phr]
theorem phr_cat (l : List (List UInt8)) : BJ.catB [] (phr l) = BJ.catB [32] l := by
  rw [catB_nil]
  cases l with
  | nil => rfl
  | cons w r =>
    rw [BJ.catB_cons]
    simp only [phr, List.flatten_cons]
    congr 1
    induction r with
    | nil => rfl
    | cons a r ih => simp only [List.map_cons, List.flatten_cons, List.flatten_append, List.flatten_nil, List.append_nil, ih, List.append_assoc]
theorem turn_end {h₀ h' : Heap} {L : Addr} {own all : Led} {adr : List Addr} {Jn : (Str → Option Value) → Led → Prop} {s₁ : Shared} {m' : Str → Option Value} {tk : Nat} (F : Fr h₀ L h' m') (N : News h₀ L h' all) (nx' : Led) (hs : ∀ q ∈ nx' ++ own, q ∈ all) (ha : nx'.map (·.1) = adr) (hJ : Jn m' nx') :
    TurnEnd h₀ L own adr Jn s₁ .next { s₁ with heap := h', toks := tk } := ⟨rfl, h', tk, m', nx', rfl, F, fun q hq => N q (hs q hq), ha, hJ⟩
theorem turn_end1 {h₀ h' : Heap} {L : Addr} {own : Led} {x q1 : Addr × Obj} {adr : List Addr} {Jn : (Str → Option Value) → Led → Prop} {s₁ : Shared} {m' : Str → Option Value} {tk : Nat} (N : News h₀ L h' (x :: q1 :: own)) (F : Fr h₀ L h' m') (ha : q1.1 :: [] = adr) (hJ : Jn m' [q1]) :
    TurnEnd h₀ L own adr Jn s₁ .next { s₁ with heap := h', toks := tk } := turn_end F N [q1] (fun q hq => .tail _ hq) ha hJ
section
variable {prog : Program} {w : World} {A : Around} {E : Value → Shared → Prop} {s : Shared} {h₀ : Heap} {L : Addr} {all : Led}
theorem len_led {fl : Addr} {ys : List Value} {ep : Nat} {Q : Value → Shared → Prop} (N : News h₀ L s.heap all) (hm : (fl, lo ys ep) ∈ all) (hz : ys.length < 2 ^ 20) (h : ∀ t', Q (.int (ys.length : Int) t') { s with toks := s.toks + 1 + 1 }) :
    wpAny (model prog w) A (call (.builtin "len") [.ref fl]) Q E s :=
  len_list (isList_lo (N _ hm).1) (by simp only [List.size_toArray]; omega) (h _)
end
example : True := by
  k_with "call builtin:len" => (k_here; (with_reducible show wpAny _ _ (call (Value.builtin "len") [Value.ref _]) _ _ _); k_dflt (apply len_led; (case N => k_asm); (case hm => first | exact .head _ | exact .tail _ (.head _) | exact .tail _ (.tail _ (.head _))); (case hz => assumption); (case' h => skip)); intro _)
  trivial
abbrev phPs (l fl : Addr) (gl : Int) (tg : Tok) : List (Str × Value) := [("tokens", .ref l), ("parts", .ref fl), ("glued", .int gl tg)]
def PhJ (l fl : Addr) (ws : List Tk) (i : Nat) (m₁ : Str → Option Value) (nx₁ : Led) : Prop := ∃ l2 ep2 gl tg, nx₁ = [(fl, lo (BJ.bvals l2) ep2)] ∧ l2.map (·.1) = phr ((ws.take i).map (·.w)) ∧ (i = 0 ∧ gl = 0 ∨ 0 < i ∧ gl = -1) ∧
  (∀ p ∈ phPs l fl gl tg, m₁ p.1 = some p.2) ∧ (∀ z : Str, (∀ p ∈ phPs l fl gl tg, z ≠ p.1) → (["kind", "worth", "at", "is_point"] : List Str).contains z = false → m₁ z = none)
theorem leave_none {h₀ g : Heap} {L L' : Addr} {m m' : Str → Option Value} {news : Led} {Q E : Value → Shared → Prop} {post : Value → Led → Heap → Prop} {s : Shared} {v : Value} {h' : Heap} {tk' : Nat}
    (hg : ∀ b o, s.heap.get? b = some o → b ∉ news.map (·.1) → g.get? b = some o)
    (ret : ∀ v news' h' tk', Fr h₀ L h' m → News h₀ L h' news' → Keeps L news s.heap h' → (∀ q ∈ news', q.1 ∈ news.map (·.1) ∨ s.heap.get? q.1 = none) → post v news' h' → Q v { s with heap := h', toks := tk' })
    (F' : Fr g L' h' m') (hp : Hold (post v [] h')) :
    LeaveK h₀ L m g (fun r s' => match r with | .ok (.ret v) => Q v s' | .ok _ => False | .error e => E e s') v { s with heap := h', toks := tk' } :=
  leave_con (news' := []) hg ret F' (fun q hq => nomatch hq) hp
example : True := by
  k_with "LeaveK" => (k_here; k_dflt (apply leave_none; (case hg => assumption); (case ret => assumption); (case F' => k_asm); (case' hp => skip)))
  trivial
theorem phrase_of_c (w : World) (h : Heap) (l : Addr) (ws : List Tk) (hts : TL h l ws) (ha : allAtoms ws = true) (hzp : (BJ.catB [32] (ws.map (·.w))).length < 2 ^ 16) :
    Con w (hd.heap_1 w.params) 130 [.ref l] 4 h [] (fun v news' _ => (∃ t, v = .bytes ⟨BJ.catB [32] (ws.map (·.w))⟩ t) ∧ news' = []) False := by
  intro prog p loose mean mg mb dp un gd cn cs a ccd cl outer A₀ base h₀ L m s Q E hh B F X N T hkf hd hu ret exc
  subst hh
  refine wpAny_call ?_
  refine' enterG (binds := [(("tokens" : Str), .ref l)]) ?k1 ?k2 ?k3 ?k4 ?k5 ?kA ?kF ?kK ?k6 ?k7 ?k8 ?k9 ?kB ?_ ?c2 ?c3 ?c4 ?c5
  case kA => exact rfl
  case kF => exact rfl
  case kK => assumption
  case k1 => k_asm
  case k2 => k_asm
  case k3 => k_asm
  case k4 => k_asm
  case k5 => k_asm
  case k6 => k_is
  case k7 => k_is
  case k8 => ktr_room
  case k9 => first | exact BindsTo.of_eq rfl | exact binds_K (by k_in) rfl (by k_is) rfl rfl rfl
  case c5 => decide
  case kB => exact locs rfl
  case c2 => exact rfl
  case c3 => exact rfl
  case c4 => exact rfl
  k_whole
  intro g L' h' hg FG F' N' B' X' T'
  try dsimp only
  try k_fold
  have hT : TL g l ws := hts.keep fun b o e _ => hg b o e (fun h => nomatch h)
  have hA2 : ∀ t ∈ ws, t.k = Kd.atom := fun t h => by
    have := List.all_eq_true.mp ha t h
    simpa using this
  have hnc : noCom ws = ws := List.filter_eq_self.mpr fun t h => by rw [hA2 t h]; rfl
  have hz1 := hT.lt
  have hz2 := hT.wz
  k_steps
  rename_i fl hq1 lq hq2 hq3 F1 N1
  refine Stop.mk ?_
  refine For_invTF F1 ?_ (by intro _; rfl)
  k_steps
  rename_i lw ys ep hq4 tq4 hal F2 N2 ne4
  rw [hnc] at hal
  have hlen := hal.length
  refine Stop.mk ?_
  refine iter_my (PhJ l fl ws) rfl F2 N2 ne4 ⟨[], 0, 0, tk, rfl, rfl, .inl ⟨rfl, rfl⟩, ?hk, ?hr⟩ ?step ?done
  case hk => intro p hp; simp at hp; rcases hp with rfl | rfl | rfl <;> rfl
  case hr =>
    intro z hz _
    have z1 := hz _ (.head _)
    have z2 := hz _ (.tail _ (.head _))
    have z3 := hz _ (.tail _ (.tail _ (.head _)))
    try dsimp only at z1 z2 z3
    simp [z1, z2, z3]
  case step =>
    rintro i v m₁ nx₁ s₁ own hv ⟨l2, ep2, gl, tg, rfl, hl2, hgl, hk, hr⟩ hown ha F3 N3
    try dsimp only at hown N3 ⊢
    have F3' := ksw_fr (m₀ := fun _ => none) hk hr F3
    have hi : i < ws.length := by
      have := (List.getElem?_eq_some_iff.mp hv).1
      omega
    have hd0 : ws.drop i = ws[i] :: ws.drop (i + 1) := List.drop_eq_getElem_cons hi
    obtain ⟨v', hv', hti⟩ := hal.get hd0
    have hwa : ws[i].k = Kd.atom := hA2 _ (List.getElem_mem hi)
    have hwi : ws[i]? = some ws[i] := List.getElem?_eq_getElem hi
    generalize ws[i] = t0 at *
    have : v' = v := by rw [hv] at hv'; exact (Option.some.inj hv').symm
    subst this
    obtain ⟨k0, w0⟩ := t0
    cases hwa
    obtain ⟨ta, t1, t2, ti, t3, tn, rfl, tp, tt⟩ := hti
    change g.get? ta = some (tokO "atom" t1 w0 t2 ti t3 tn) at tt
    have hoffl : OffL fl own := fun q hq => .inl (hown q hq _ (by simp))
    clear F3 hk hr
    have hzm : (BJ.bvals l2).length < 2 ^ 19 := by
      have h1 := congrArg List.length hl2
      rw [List.length_map] at h1
      have h2 := phr_len ((ws.take i).map (·.w))
      simp only [List.length_map, List.length_take] at h2
      simp only [BJ.bvals, List.length_map]
      omega
    have hzl : (BJ.bvals l2).length < 2 ^ 20 := by omega
    have htk : (ws.take (i + 1)).map (·.w) = (ws.take i).map (·.w) ++ [w0] := by
      rw [List.take_add_one, hwi, List.map_append]; rfl
    have hlb : (BJ.bvals l2).length = (phr ((ws.take i).map (·.w))).length := by rw [← hl2]; simp [BJ.bvals]
    have hr : ∀ (gl' : Int) (tg' : Tok) (z : Str), (∀ p ∈ phPs l fl gl' tg', z ≠ p.1) → (["kind", "worth", "at", "is_point"] : List Str).contains z = false → z ≠ ("kind" : Str) ∧ z ≠ ("worth" : Str) ∧ z ≠ ("at" : Str) ∧ z ≠ ("is_point" : Str) ∧ z ≠ ("tokens" : Str) ∧ z ≠ ("parts" : Str) ∧ z ≠ ("glued" : Str) := by
      intro gl' tg' z hz hst
      have z1 := hz _ (.head _)
      have z2 := hz _ (.tail _ (.head _))
      have z3 := hz _ (.tail _ (.tail _ (.head _)))
      simp only [List.contains_cons, List.contains_nil, Bool.or_eq_false_iff, beq_eq_false_iff_ne, ne_eq] at hst
      exact ⟨hst.1, hst.2.1, hst.2.2.1, hst.2.2.2.1, z1, z2, z3⟩
    rcases hgl with ⟨rfl, rfl⟩ | ⟨hi0, rfl⟩
    · have hl20 : (BJ.bvals l2).length = 0 := by rw [hlb]; rfl
      k_steps
      · rename News _ _ _ _ => NX
        rw [BJ.bvals_snoc] at NX
        refine' turn_end1 NX (by k_asm) rfl ⟨_, _, -1, _, rfl, ?k2, .inr ⟨Nat.succ_pos _, rfl⟩, ?k3, ?k4⟩
        case k2 => rw [htk, List.map_append, hl2]; rfl
        case k3 => intro p hp; simp at hp; rcases hp with rfl | rfl | rfl <;> rfl
        case k4 =>
          intro z hz hst
          obtain ⟨a1, a2, a3, a4, a5, a6, a7⟩ := hr _ _ z hz hst
          simp [kstB, a1, a2, a3, a4, a5, a6, a7]
    · have hne0 : (ws.take i).map (·.w) ≠ [] := by
        intro e
        have := congrArg List.length e
        simp only [List.length_map, List.length_take, List.length_nil] at this
        omega
      have hl21 : 0 < (BJ.bvals l2).length := by rw [hlb]; exact phr_pos hne0
      k_steps
      · rename News _ _ _ _ => NX
        rw [BJ.bvals_snoc, BJ.bvals_snoc] at NX
        refine' turn_end1 NX (by k_asm) rfl ⟨_, _, -1, _, rfl, ?k2, .inr ⟨Nat.succ_pos _, rfl⟩, ?k3, ?k4⟩
        case k2 => rw [htk, phr_snoc hne0, List.map_append, List.map_append, hl2]; simp
        case k3 => intro p hp; simp at hp; rcases hp with rfl | rfl | rfl <;> rfl
        case k4 =>
          intro z hz hst
          obtain ⟨a1, a2, a3, a4, a5, a6, a7⟩ := hr _ _ z hz hst
          simp [kstB, a1, a2, a3, a4, a5, a6, a7]
      · exfalso; omega
  case done =>
    rintro h' tk m' nx' F' N' ha ⟨l2, ep2, gl, tg, rfl, hl2, hgl, hk, hr⟩
    have F3 := ksw_fr (m₀ := fun _ => none) hk hr F'
    rw [hlen, List.take_length] at hl2
    have hpc : BJ.catB [] (phr (ws.map (·.w))) = BJ.catB [32] (ws.map (·.w)) := phr_cat _
    have hzb : (BJ.catB [] (phr (ws.map (·.w)))).length < 2 ^ 16 := by rw [hpc]; exact hzp
    k_steps
    all_goals try (exact Hold.mk ⟨⟨_, by rw [hpc]⟩, rfl⟩)
end part_C7
theorem TL.wordsN {h₀ h : Heap} {L l lw : Addr} {ts sfx : List Tk} {pos : Nat} {ys : List Value} {ep : Nat} {all : Led} (H : TL h l ts) (N : News h₀ L h all) (hm : (lw, lo ys ep) ∈ all) (hA : All2 (TokIn h₀) ys (sfx.takeWhile isWord))
    (hs : ts.drop pos = sfx) (kp : ∀ b o, h₀.get? b = some o → h.get? b = some o) : TL h lw (sfx.takeWhile isWord) :=
  H.words hs (N _ hm).1 (hA.mono fun _ _ z => z.up kp)
section
variable {prog : Program} {w : World} {p : Program} {loose : List Str} {mean : ExcName → Option Value} {mg mb : Str → Option Value}
    {dp un : Nat} {gd : Option (List Code)} {cn : Str} {cs : Scope} {a : Addr} {ccd : Value} {cl : List (Str × Addr)} {outer : List Env} {A₀ : Around} {base h₀ : Heap} {L : Addr} {m : Str → Option Value} {s : Shared} {Q E : Value → Shared → Prop} {all : Led}
theorem use_phraseS {l : Addr} {ws : List Tk} (B : Below A₀ base outer h₀) (F : Fr h₀ L s.heap m) (X : (hd.heap_1 w.params).In h₀) (N : News h₀ L s.heap all) (T : Top p loose mean mg mb h₀)
    (hk : cs.kind = .function) (hd : dp + 4 < recursionLimit) (hu : un + 8 * 4 < cLine) (hts : TL s.heap l ws) (hA : allAtoms ws = true) (hZ : (BJ.catB [32] (ws.map (·.w))).length < 2 ^ 16)
    (k : ∀ t h' tk', Fr h₀ L h' m → News h₀ L h' all → Q (.bytes ⟨BJ.catB [32] (ws.map (·.w))⟩ t) { s with heap := h', toks := tk' }) :
    wpAny (model prog w) (ktrTop dp un gd cn cs L a ccd cl outer) (call (.ref 130) [.ref l]) Q E s :=
  Con.use all (phrase_of_c w s.heap l ws hts hA hZ) B F X N T hk hd hu (fun _ h => nomatch h) (fun q hq => ⟨hq, fun h => nomatch h⟩) (fun v news' h' tk' hp fr F' N' => by
    obtain ⟨⟨t, rfl⟩, rfl⟩ := hp
    exact k t h' tk' F' N') fun _ _ _ _ _ _ hz => hz.elim
/-- the list: in the ground, or in the ledger -/
theorem use_phrase {l : Addr} {ws : List Tk} (B : Below A₀ base outer h₀) (F : Fr h₀ L s.heap m) (X : (hd.heap_1 w.params).In h₀) (N : News h₀ L s.heap all) (T : Top p loose mean mg mb h₀)
    (hk : cs.kind = .function) (hd : dp + 4 < recursionLimit) (hu : un + 8 * 4 < cLine) (hts : TL h₀ l ws) (hA : allAtoms ws = true) (hZ : (BJ.catB [32] (ws.map (·.w))).length < 2 ^ 16)
    (k : ∀ t h' tk', Fr h₀ L h' m → News h₀ L h' all → Q (.bytes ⟨BJ.catB [32] (ws.map (·.w))⟩ t) { s with heap := h', toks := tk' }) :
    wpAny (model prog w) (ktrTop dp un gd cn cs L a ccd cl outer) (call (.ref 130) [.ref l]) Q E s :=
  use_phraseS B F X N T hk hd hu (hts.up F.keep) hA hZ k
end
example : True := by
  k_with "call ref" => (k_here; (with_reducible show wpAny _ _ (call (Value.ref 123) _) _ _ _); k_dflt (apply use_wc; (case B => k_asm); (case F => k_asm); (case X => k_asm); (case N => k_asm); (case T => k_asm); (case hk => exact rfl); (case hd => ktr_room); (case hu => ktr_units); (case hts => k_asm); (case' k => skip); intro _ _ _ _ _ _ _ _ _; (try k_sweep)))
  trivial
example : True := by
  k_with "call builtin:len" => (k_here; (with_reducible show wpAny _ _ (call (Value.builtin "len") [Value.ref _]) _ _ _); k_dflt (apply len_led; (case N => k_asm); (case hm => first | exact .head _ | exact .tail _ (.head _) | exact .tail _ (.tail _ (.head _))); (case hz => assumption); (case' h => skip)); intro _)
  trivial
example : True := by
  k_with "call ref" => (k_here; (with_reducible show wpAny _ _ (call (Value.ref 273) _) _ _ _); k_dflt (walk_at "zz rd"; (focus exact (fun q kp => local_of_c _ _ _ _ _ _ _ _ _ q (by k_asm) (by first | exact TL.up (by with_reducible assumption) kp | exact TL.wordsN q (by k_asm) (by first | exact .head _ | exact .tail _ (.head _) | exact .tail _ (.tail _ (.head _)) | exact .tail _ (.tail _ (.tail _ (.head _)))) (by with_reducible assumption) (by with_reducible assumption) kp))); walk_at "zz rd2"; (refine kLoc ?_); iterate 7 (intro _); walk_at "zz end"))
  trivial
example : True := by
  k_with "call ref" => (k_here; (with_reducible show wpAny _ _ (call (Value.ref 130) _) _ _ _); k_dflt (apply use_phrase; (case B => k_asm); (case F => k_asm); (case X => k_asm); (case N => k_asm); (case T => k_asm); (case hk => exact rfl); (case hd => ktr_room); (case hu => ktr_units); (case hts => k_asm); (case hA => assumption); (case hZ => assumption); (case' k => skip); intro _ _ _ _ _; (try k_sweep)))
  trivial
section part_C8
theorem leave_4 {h₀ g : Heap} {L L' : Addr} {m m' : Str → Option Value} {news rest : Led} {x1 x2 r1 r2 : Addr × Obj} {Q E : Value → Shared → Prop} {post : Value → Led → Heap → Prop} {s : Shared} {v : Value} {h' : Heap} {tk' : Nat}
    (hg : ∀ b o, s.heap.get? b = some o → b ∉ news.map (·.1) → g.get? b = some o)
    (ret : ∀ v news' h' tk', Fr h₀ L h' m → News h₀ L h' news' → Keeps L news s.heap h' → (∀ q ∈ news', q.1 ∈ news.map (·.1) ∨ s.heap.get? q.1 = none) → post v news' h' → Q v { s with heap := h', toks := tk' })
    (F' : Fr g L' h' m') (N' : News g L' h' (x1 :: x2 :: r1 :: r2 :: rest)) (hp : Hold (post v [r1, r2, x1, x2] h')) :
    LeaveK h₀ L m g (fun r s' => match r with | .ok (.ret v) => Q v s' | .ok _ => False | .error e => E e s') v { s with heap := h', toks := tk' } :=
  leave_con hg ret F' (fun q hq => N' q (by
    simp only [List.mem_cons, List.not_mem_nil, or_false] at hq
    rcases hq with rfl | rfl | rfl | rfl
    · exact .tail _ (.tail _ (.head _))
    · exact .tail _ (.tail _ (.tail _ (.head _)))
    · exact .head _
    · exact .tail _ (.head _))) hp
example : True := by
  k_with "LeaveK" => (k_here; k_dflt (apply leave_4; (case hg => assumption); (case ret => assumption); (case F' => k_asm); (case N' => k_asm); (case' hp => skip)))
  trivial
structure Mb where
  name : Str
  loc : Str
  dom : Str
deriving DecidableEq
def mailTail (angle : Bool) (name : Str) (ws s : List Tk) : Option (Mb × List Tk) :=
  if localB ws then
    if standsB s [64] then
      match domP s.tail with
      | none => none
      | some (x, r) => if angle then (if standsB r [62] then some (⟨name, textOf (wcat ws), x⟩, r.tail) else none) else some (⟨name, textOf (wcat ws), x⟩, r)
    else none
  else none
def mailP (o1 : Option (List Tk)) (ws sfx : List Tk) : Option (Mb × List Tk) :=
  if standsB sfx [60] then o1.bind fun s1 => mailTail true (textOf (BJ.catB [32] (ws.map (·.w)))) (s1.takeWhile isWord) (s1.dropWhile isWord)
  else mailTail false "" ws sfx
abbrev mbDict (P : Params) (mb : Mb) (t1 t2 t3 u1 u2 u3 : Tok) : Obj :=
  dictOf [⟨PyData.keyHash P "name", .str "name" t1, .str mb.name u1⟩, ⟨PyData.keyHash P "local", .str "local" t2, .str mb.loc u2⟩, ⟨PyData.keyHash P "domain", .str "domain" t3, .str mb.dom u3⟩] 3
def MbV (P : Params) (led : Led) (v : Value) (mb : Mb) : Prop := ∃ x dx t1 t2 t3 u1 u2 u3, v = .ref x ∧ (x, instObj 154 dx) ∈ led ∧ (dx, mbDict P mb t1 t2 t3 u1 u2 u3) ∈ led
theorem read_mailbox_c (w : World) (h : Heap) (c : RdC) (pos : Nat) (tkr : Tok) (ts sfx ws : List Tk) (lw : Addr) (o1 : Option (List Tk)) (hts : TL h c.l ts) (hs : ts.drop pos = sfx) (hws : TL h lw ws) (ha : allAtoms ws = true) (hz : (BJ.catB [32] (ws.map (·.w))).length < 2 ^ 16) (hr : standsB sfx [60] = true → RouteP sfx.tail o1) :
    Con w (hd.heap_1 w.params) 294 [.ref c.r, .ref lw] 10 h (rdL w.params c pos tkr) (fun v news' _ => ∃ mb r pos' tk' mbs, mailP o1 ws sfx = some (mb, r) ∧ news' = rdL w.params c pos' tk' ++ mbs ∧ ts.drop pos' = r ∧ Off c mbs ∧ MbV w.params mbs v mb) (mailP o1 ws sfx = none) := by
  intro prog p loose mean mg mb dp un gd cn cs a ccd cl outer A₀ base h₀ L m s Q E hh B F X N T hkf hd hu ret exc
  subst hh
  have hne := rd_ne N
  refine wpAny_call ?_
  refine' enterG (binds := [(("reader" : Str), .ref c.r), (("words" : Str), .ref lw)]) ?k1 ?k2 ?k3 ?k4 ?k5 ?kA ?kF ?kK ?k6 ?k7 ?k8 ?k9 ?kB ?_ ?c2 ?c3 ?c4 ?c5
  case kA => exact rfl
  case kF => exact rfl
  case kK => assumption
  case k1 => k_asm
  case k2 => k_asm
  case k3 => k_asm
  case k4 => k_asm
  case k5 => k_asm
  case k6 => k_is
  case k7 => k_is
  case k8 => ktr_room
  case k9 => first | exact BindsTo.of_eq rfl | exact binds_K (by k_in) rfl (by k_is) rfl rfl rfl
  case c5 => decide
  case kB => exact locs rfl
  case c2 => exact rfl
  case c3 => exact rfl
  case c4 => exact rfl
  k_whole
  intro g L' h' hg FG F' N' B' X' T'
  try dsimp only
  try k_fold
  have hT : TL g c.l ts := hts.ground N hg
  have hW : TL g lw ws := hws.ground N hg
  have hT1 := hT.lt
  have hT2 := hT.wz
  have hW2 := hW.wz
  by_cases hb : standsB sfx [60] = true
  · have hr' := hr hb
    have hM : ∀ s1, o1 = some s1 → mailP o1 ws sfx = mailTail true (textOf (BJ.catB [32] (ws.map (·.w)))) (s1.takeWhile isWord) (s1.dropWhile isWord) := fun s1 e => by
      unfold mailP; rw [if_pos hb, e]; rfl
    have hM0 : o1 = none → mailP o1 ws sfx = none := fun e => by unfold mailP; rw [if_pos hb, e]; rfl
    k_steps
    · rename o1 = some _ => ho
      rename domP _ = some _ => hdm
      refine Hold.mk ⟨⟨_, _, _⟩, _, _, _, [_, _], ?_, rfl, by assumption, ?_, ⟨_, _, _, _, _, _, _, _, rfl, .head _, .tail _ (.head _)⟩⟩
      · rw [hM _ ho]; unfold mailTail
        rw [if_pos (by assumption), if_pos (by assumption), hdm]
        dsimp only
        rw [if_pos rfl, if_pos (by assumption)]
        rfl
      · rename c.r < _ ∧ _ => l1
        rename _ < _ => l2
        exact .cons ⟨Nat.ne_of_gt (by dsimp only; omega), Nat.ne_of_gt (by dsimp only; omega)⟩ (.cons ⟨Nat.ne_of_gt (by dsimp only; omega), Nat.ne_of_gt (by dsimp only; omega)⟩ .nil)
    · refine Hold.mk ?_
      rename o1 = some _ => ho
      rename domP _ = some _ => hdm
      rename standsB _ [62] = false => h6
      rw [hM _ ho]; unfold mailTail
      rw [if_pos (by assumption), if_pos (by assumption), hdm]
      dsimp only
      rw [if_pos rfl, if_neg (by rw [h6]; decide)]
    · refine Hold.mk ?_
      rename o1 = some _ => ho
      rename domP _ = none => hdm
      rw [hM _ ho]; unfold mailTail
      rw [if_pos (by assumption), if_pos (by assumption), hdm]
    · refine Hold.mk ?_
      rename o1 = some _ => ho
      rename standsB _ [64] = false => h4
      rw [hM _ ho]; unfold mailTail
      rw [h4]; split <;> rfl
    · refine Hold.mk ?_
      rename o1 = some _ => ho
      rename localB _ = false => h4
      rw [hM _ ho]; unfold mailTail
      rw [h4]; rfl
    · exact Hold.mk (hM0 (by assumption))
  · replace hb : standsB sfx [60] = false := by simpa using hb
    have hM : mailP o1 ws sfx = mailTail false "" ws sfx := by unfold mailP; rw [if_neg (by rw [hb]; decide)]
    k_steps
    · refine Hold.mk ⟨⟨_, _, _⟩, _, _, _, [_, _], ?_, rfl, by assumption, ?_, ⟨_, _, _, _, _, _, _, _, rfl, .head _, .tail _ (.head _)⟩⟩
      · rw [hM]; unfold mailTail
        rw [if_pos (by assumption), if_pos (by assumption)]
        rename domP _ = some _ => hdm
        rw [hdm]
        rfl
      · rename c.r < _ ∧ _ => l1
        rename _ < _ => l2
        exact .cons ⟨Nat.ne_of_gt (by dsimp only; omega), Nat.ne_of_gt (by dsimp only; omega)⟩ (.cons ⟨Nat.ne_of_gt (by dsimp only; omega), Nat.ne_of_gt (by dsimp only; omega)⟩ .nil)
    · refine Hold.mk ?_
      have hdm : domP sfx.tail = none := by assumption
      rw [hM]; unfold mailTail
      rw [if_pos (by assumption), if_pos (by assumption), hdm]
    · refine Hold.mk ?_
      have h4 : standsB sfx [64] = false := by assumption
      rw [hM]; unfold mailTail
      rw [h4]; split <;> rfl
    · refine Hold.mk ?_
      have h4 : localB ws = false := by assumption
      rw [hM]; unfold mailTail
      rw [h4]; rfl
end part_C8
theorem stands_b (w : World) (h : Heap) (c : RdC) (pos : Nat) (tk : Tok) (ts sfx : List Tk) (b : Array UInt8) (tb : Tok) (x : Bool) (hts : TL h c.l ts) (hs : ts.drop pos = sfx) (hx : standsB sfx b.toList = x) :
    Con w (hd.heap_1 w.params) 224 [.ref c.r, .bytes b tb] 3 h (rdL w.params c pos tk) (fun v news' _ => v = .bool x ∧ news' = rdL w.params c pos tk) False :=
  hx ▸ stands_c w h c pos tk ts sfx b tb hts hs
example : True := by
  k_with "call ref" => (k_here; (with_reducible show wpAny _ _ (call (Value.ref 294) _) _ _ _); k_dflt (walk_at "zz rd"; (focus exact (fun q kp => read_mailbox_c _ _ _ _ _ _ _ _ _ _ q (by k_asm) (by first | exact TL.up (by with_reducible assumption) kp | exact TL.wordsN q (by k_asm) (by first | exact .head _ | exact .tail _ (.head _) | exact .tail _ (.tail _ (.head _)) | exact .tail _ (.tail _ (.tail _ (.head _)))) (by with_reducible assumption) (by with_reducible assumption) kp) (by assumption) (by assumption) (by assumption))); walk_at "zz rd2"; intro _ _ _ _ hp' _ _ _; (obtain ⟨_, _, _, _, _, _, rfl, _, _, _⟩ := hp') <;> (walk_at "zz end")))
  trivial
example : True := by
  k_with "call ref" => (k_here; (with_reducible show wpAny _ _ (call (Value.ref 224) _) _ _ _); k_dflt (walk_at "zz rd"; (focus exact (fun q kp => stands_b _ _ _ _ _ _ _ _ _ _ q (by k_asm) (by first | assumption | rfl))); walk_at "zz rd2"; (refine kEq ?_); intro _ _ _ _ _; walk_at "zz end"))
  trivial
section part_C9
theorem leave_mb {h₀ g : Heap} {L L' : Addr} {m m' : Str → Option Value} {news mbs rest : Led} {r1 r2 : Addr × Obj} {Q E : Value → Shared → Prop} {post : Value → Led → Heap → Prop} {s : Shared} {v : Value} {h' : Heap} {tk' : Nat}
    (hg : ∀ b o, s.heap.get? b = some o → b ∉ news.map (·.1) → g.get? b = some o)
    (ret : ∀ v news' h' tk', Fr h₀ L h' m → News h₀ L h' news' → Keeps L news s.heap h' → (∀ q ∈ news', q.1 ∈ news.map (·.1) ∨ s.heap.get? q.1 = none) → post v news' h' → Q v { s with heap := h', toks := tk' })
    (F' : Fr g L' h' m') (N' : News g L' h' (r1 :: r2 :: (mbs ++ rest))) (hp : Hold (post v (r1 :: r2 :: mbs) h')) :
    LeaveK h₀ L m g (fun r s' => match r with | .ok (.ret v) => Q v s' | .ok _ => False | .error e => E e s') v { s with heap := h', toks := tk' } :=
  leave_con hg ret F' (fun q hq => N' q (by
    simp only [List.mem_cons, List.mem_append] at hq ⊢
    rcases hq with h | h | h
    · exact .inl h
    · exact .inr (.inl h)
    · exact .inr (.inr (.inl h)))) hp
theorem leave_gp {h₀ g : Heap} {L L' : Addr} {m m' : Str → Option Value} {news mbs rest : Led} {x1 x2 y r1 r2 : Addr × Obj} {Q E : Value → Shared → Prop} {post : Value → Led → Heap → Prop} {s : Shared} {v : Value} {h' : Heap} {tk' : Nat}
    (hg : ∀ b o, s.heap.get? b = some o → b ∉ news.map (·.1) → g.get? b = some o)
    (ret : ∀ v news' h' tk', Fr h₀ L h' m → News h₀ L h' news' → Keeps L news s.heap h' → (∀ q ∈ news', q.1 ∈ news.map (·.1) ∨ s.heap.get? q.1 = none) → post v news' h' → Q v { s with heap := h', toks := tk' })
    (F' : Fr g L' h' m') (N' : News g L' h' (x1 :: x2 :: r1 :: r2 :: y :: (mbs ++ rest))) (hp : Hold (post v (r1 :: r2 :: x1 :: x2 :: y :: mbs) h')) :
    LeaveK h₀ L m g (fun r s' => match r with | .ok (.ret v) => Q v s' | .ok _ => False | .error e => E e s') v { s with heap := h', toks := tk' } :=
  leave_con hg ret F' (fun q hq => N' q (by
    simp only [List.mem_cons, List.mem_append] at hq ⊢
    rcases hq with h | h | h | h | h | h
    · exact .inr (.inr (.inl h))
    · exact .inr (.inr (.inr (.inl h)))
    · exact .inl h
    · exact .inr (.inl h)
    · exact .inr (.inr (.inr (.inr (.inl h))))
    · exact .inr (.inr (.inr (.inr (.inr (.inl h))))))) hp
example : True := by
  k_with "LeaveK" => (k_here; k_dflt (first | (apply leave_gp; (case hg => assumption); (case ret => assumption); (case F' => k_asm); (case N' => k_asm); (case' hp => skip)) | (apply leave_mb; (case hg => assumption); (case ret => assumption); (case F' => k_asm); (case N' => k_asm); (case' hp => skip))))
  trivial
def PlaceT (sfx : List Tk) (out : Option (Mb × List Tk)) : Prop :=
  allAtoms (sfx.takeWhile isWord) = true ∧ (BJ.catB [32] ((sfx.takeWhile isWord).map (·.w))).length < 2 ^ 16 ∧
  ∃ o1, (standsB (sfx.dropWhile isWord) [60] = true → RouteP (sfx.dropWhile isWord).tail o1) ∧ out = if standsB (sfx.dropWhile isWord) [58] then none else mailP o1 (sfx.takeWhile isWord) (sfx.dropWhile isWord)
/-- a place read: its value stands in the ledger -/
def PlaceC (w : World) (inner : Bool) (need : Nat) {α : Type} (V : Led → Value → α → Prop) (R : List Tk → Option (α × List Tk) → Prop) : Prop :=
  ∀ (h : Heap) (c : RdC) (pos : Nat) (tkr : Tok) (ts sfx : List Tk) (out : Option (α × List Tk)), TL h c.l ts → ts.drop pos = sfx → R sfx out →
    Con w (hd.heap_1 w.params) 301 [.ref c.r, .bool inner] need h (rdL w.params c pos tkr) (fun v news' _ => ∃ x r pos' tk' mbs, out = some (x, r) ∧ news' = rdL w.params c pos' tk' ++ mbs ∧ ts.drop pos' = r ∧ Off c mbs ∧ V mbs v x) (out = none)
theorem read_place_t (w : World) : PlaceC w true 12 (MbV w.params) PlaceT := by
  intro h c pos tkr ts sfx out hts hs ⟨ha, hz, o1, hr, ho⟩
  intro prog p loose mean mg mb dp un gd cn cs a ccd cl outer A₀ base h₀ L m s Q E hh B F X N T hkf hd hu ret exc
  subst hh
  have hne := rd_ne N
  refine wpAny_call ?_
  refine' enterG (binds := [(("reader" : Str), .ref c.r), (("is_inner" : Str), .bool true)]) ?k1 ?k2 ?k3 ?k4 ?k5 ?kA ?kF ?kK ?k6 ?k7 ?k8 ?k9 ?kB ?_ ?c2 ?c3 ?c4 ?c5
  case kA => exact rfl
  case kF => exact rfl
  case kK => assumption
  case k1 => k_asm
  case k2 => k_asm
  case k3 => k_asm
  case k4 => k_asm
  case k5 => k_asm
  case k6 => k_is
  case k7 => k_is
  case k8 => ktr_room
  case k9 => first | exact BindsTo.of_eq rfl | exact binds_K (by k_in) rfl (by k_is) rfl rfl rfl
  case c5 => decide
  case kB => exact locs rfl
  case c2 => exact rfl
  case c3 => exact rfl
  case c4 => exact rfl
  k_whole
  intro g L' h' hg FG F' N' B' X' T'
  try dsimp only
  try k_fold
  have hT : TL g c.l ts := hts.ground N hg
  have hT1 := hT.lt
  have hT2 := hT.wz
  cases hb : standsB (sfx.dropWhile isWord) [58] with
  | false =>
    rw [if_neg (by rw [hb]; decide)] at ho
    k_steps
    · exact Hold.mk ⟨_, _, _, _, _, ho.trans (by assumption), rfl, by assumption, by assumption, by assumption⟩
    · exact Hold.mk (ho.trans (by assumption))
  | true =>
    rw [if_pos hb] at ho
    k_steps
    · exact Hold.mk ho
end part_C9
def ListR {α : Type} (R : List Tk → Option (α × List Tk) → Prop) : Nat → List Tk → Option (List α × List Tk) → Prop
  | 0, s, o => (s.isEmpty || standsB s [59]) = true ∧ o = some ([], s)
  | n + 1, s, o => if s.isEmpty || standsB s [59] then o = some ([], s) else if standsB s [44] then ListR R n s.tail o else
    ∃ o1, R s o1 ∧ match o1 with
      | none => o = none
      | some (x, s1) => if s1.isEmpty || standsB s1 [44] || standsB s1 [59] then ∃ o2, ListR R n s1 o2 ∧ o = o2.map (fun z => (x :: z.1, z.2)) else o = none
theorem ListR.stop {α : Type} {R : List Tk → Option (α × List Tk) → Prop} {n : Nat} {s : List Tk} {o : Option (List α × List Tk)} (H : ListR R n s o) (h : (s.isEmpty || standsB s [59]) = true) : o = some ([], s) := by
  cases n with
  | zero => exact H.2
  | succ n => unfold ListR at H; rwa [if_pos h] at H
theorem ListR.go {α : Type} {R : List Tk → Option (α × List Tk) → Prop} {n : Nat} {s : List Tk} {o : Option (List α × List Tk)} (H : ListR R n s o) (h : (s.isEmpty || standsB s [59]) = false) :
    ∃ k, n = k + 1 ∧ (standsB s [44] = true → ListR R k s.tail o) ∧ (standsB s [44] = false → ∃ o1, R s o1 ∧ (o1 = none → o = none) ∧ ∀ x s1, o1 = some (x, s1) → ((s1.isEmpty || standsB s1 [44] || standsB s1 [59]) = true → ∃ o2, ListR R k s1 o2 ∧ o = o2.map (fun z => (x :: z.1, z.2))) ∧ ((s1.isEmpty || standsB s1 [44] || standsB s1 [59]) = false → o = none)) := by
  cases n with
  | zero => exact absurd (H.1.symm.trans h) (by decide)
  | succ n =>
    unfold ListR at H
    rw [if_neg (by rw [h]; decide)] at H
    refine ⟨n, rfl, fun h4 => by rwa [if_pos h4] at H, fun h4 => ?_⟩
    rw [if_neg (by rw [h4]; decide)] at H
    obtain ⟨o1, h1, h2⟩ := H
    refine ⟨o1, h1, fun e => by subst e; exact h2, fun x s1 e => ?_⟩
    subst e
    dsimp only at h2
    refine ⟨fun q => by rwa [if_pos q] at h2, fun q => by rwa [if_neg (by rw [q]; decide)] at h2⟩
theorem All2.snoc {α β : Type} {R : α → β → Prop} {a : α} {b : β} (h : R a b) : ∀ {as : List α} {bs : List β}, All2 R as bs → All2 R (as ++ [a]) (bs ++ [b])
  | [], [], _ => ⟨h, trivial⟩
  | _ :: _, _ :: _, q => ⟨q.1, All2.snoc h q.2⟩
  | [], _ :: _, q => q.elim
  | _ :: _, [], q => q.elim
def VMono {α : Type} (V : Led → Value → α → Prop) : Prop := ∀ l1 l2 v x, (∀ q ∈ l1, q ∈ l2) → V l1 v x → V l2 v x
section
variable {prog : Program} {w : World} {p : Program} {loose : List Str} {mean : ExcName → Option Value} {mg mb : Str → Option Value}
    {dp un : Nat} {gd : Option (List Code)} {cn : Str} {cs : Scope} {a : Addr} {ccd : Value} {cl : List (Str × Addr)} {outer : List Env} {A₀ : Around} {base h₀ : Heap} {L : Addr} {m : Str → Option Value} {s : Shared} {Q E : Value → Shared → Prop}
theorem use_place {inner : Bool} {need : Nat} {α : Type} {V : Led → Value → α → Prop} {R : List Tk → Option (α × List Tk) → Prop} {c : RdC} {pos ep : Nat} {tkr : Tok} {ts sfx : List Tk} {out : Option (α × List Tk)} {fl : Addr} {ys : List Value} {mbs : Led} {xs : List α} (C : PlaceC w inner need V R) (Vm : VMono V)
    (B : Below A₀ base outer h₀) (F : Fr h₀ L s.heap m) (X : (hd.heap_1 w.params).In h₀) (N : News h₀ L s.heap ((c.r, instObj 262 c.d) :: (c.d, rdDict w.params c pos tkr) :: (fl, lo ys ep) :: mbs)) (T : Top p loose mean mg mb h₀)
    (hts : TL h₀ c.l ts) (hs : ts.drop pos = sfx) (hR : R sfx out) (hk : cs.kind = .function) (hd : dp + need < recursionLimit) (hu : un + 8 * need < cLine) (ha : Off c mbs) (hb : OffL fl mbs) (hA : All2 (V mbs) ys xs)
    (k : ∀ v x r pos' tk1 mbs' h' tk', out = some (x, r) → ts.drop pos' = r → Fr h₀ L h' m → News h₀ L h' ((c.r, instObj 262 c.d) :: (c.d, rdDict w.params c pos' tk1) :: (fl, lo ys ep) :: mbs') → Off c mbs' → OffL fl mbs' → All2 (V mbs') ys xs → V mbs' v x → Q v { s with heap := h', toks := tk' })
    (e : ∀ e t vs G h' tk', out = none → Fr h₀ L G m → RaisedS base G (envX cn cs L a ccd cl :: outer) e (.ref 52) t vs [] h' → G.UpToSlots h' → E (.ref e) { s with heap := h', toks := tk' }) :
    wpAny (model prog w) (ktrTop dp un gd cn cs L a ccd cl outer) (call (.ref 301) [.ref c.r, .bool inner]) Q E s := by
  have n1 := (N _ (.head _)).1
  have n2 := (N _ (.tail _ (.head _))).1
  have n3 := (N _ (.tail _ (.tail _ (.head _)))).1
  refine rd_use (rest := (fl, lo ys ep) :: mbs) B F X N T hts (fun q _ => C s.heap c pos tkr ts sfx out q hs hR) hk hd hu (.cls rfl ha) (fun v news' h' tk' hp fr F' N' => ?_) e
  obtain ⟨x, r, pos', tk1, mb1, ho, rfl, hd1, hO, hV⟩ := hp
  refine k v x r pos' tk1 (mb1 ++ mbs) h' tk' ho hd1 F' (fun q hq => N' q ?_) (hO.app ha) (OffL.app (fun q hq => .inl ?_) hb) (hA.mono fun _ _ z => Vm _ _ _ _ (fun q hq => List.mem_append_right _ hq) z) (Vm _ _ _ _ (fun q hq => List.mem_append_left _ hq) hV)
  · simp only [rdL, List.cons_append, List.nil_append, List.mem_cons, List.mem_append] at hq ⊢
    rcases hq with h | h | h | h | h
    · exact .inl h
    · exact .inr (.inl h)
    · exact .inr (.inr (.inr (.inl h)))
    · exact .inr (.inr (.inl h))
    · exact .inr (.inr (.inr (.inr h)))
  · intro z
    rcases fr q (List.mem_append_right _ hq) with y | y
    · simp only [rdL, List.map_cons, List.map_nil, List.mem_cons, List.not_mem_nil, or_false] at y
      rcases y with y | y
      · rw [← y, z, n3] at n1
        exact absurd (congrArg Obj.cls (Option.some.inj n1)) (by simp)
      · rw [← y, z, n3] at n2
        exact absurd (congrArg Obj.cls (Option.some.inj n2)) (by simp)
    · rw [z, n3] at y; cases y
end
section part_D1
example : True := by
  k_with "call ref" => (k_here; (with_reducible show wpAny _ _ (call (Value.ref 301) _) _ _ _); k_dflt (apply use_place; (case C => assumption); (case Vm => assumption); (case B => k_asm); (case F => k_asm); (case X => k_asm); (case N => k_asm); (case T => k_asm); (case hts => k_asm); (case hs => assumption); (case hR => assumption); (case hk => exact rfl); (case hd => ktr_room); (case hu => ktr_units); (case ha => assumption); (case hb => assumption); (case hA => assumption); (case' e => skip); (case' k => skip); intro _ _ _ _ _ _ _ _ _ _ _ _ _ _ _ _; (try k_sweep)))
  trivial
example : True := by
  k_with "LeaveK" => (k_here; k_dflt (apply leave_con; (case hg => assumption); (case ret => assumption); (case F' => k_asm); (case N' => k_asm); (case' hp => skip)))
  trivial
def ListC (w : World) (inner : Bool) (need : Nat) {α : Type} (V : Led → Value → α → Prop) (R : List Tk → Option (α × List Tk) → Prop) : Prop :=
  ∀ (h : Heap) (c : RdC) (pos : Nat) (tkr : Tok) (ts sfx : List Tk) (n : Nat) (out : Option (List α × List Tk)), TL h c.l ts → ts.drop pos = sfx → n < 2 ^ 16 → ListR R n sfx out →
    Con w (hd.heap_1 w.params) 308 [.ref c.r, .bool inner] need h (rdL w.params c pos tkr) (fun v news' _ => ∃ xs r pos' tk' fl ys ep mbs, out = some (xs, r) ∧ v = .ref fl ∧ news' = rdL w.params c pos' tk' ++ (fl, lo ys ep) :: mbs ∧ ts.drop pos' = r ∧ Off c mbs ∧ OffL fl mbs ∧ All2 (V mbs) ys xs) (out = none)
structure LsS (α : Type) where
  pos : Nat
  tk : Tok
  rem : List Tk
  n : Nat
  o : Option (List α × List Tk)
  ys : List Value
  ep : Nat
  mbs : Led
  acc : List α
theorem read_list_c (w : World) (inner : Bool) (need : Nat) {α : Type} {V : Led → Value → α → Prop} {R : List Tk → Option (α × List Tk) → Prop} (hn5 : 5 ≤ need) (hP : PlaceC w inner need V R) (Vm : VMono V) : ListC w inner (need + 1) V R := by
  intro h c pos tkr ts sfx n0 out hts hs hn0 hR0
  intro prog p loose mean mg mb dp un gd cn cs a ccd cl outer A₀ base h₀ L m s Q E hh B F X N T hkf hd hu ret exc
  subst hh
  have hne := rd_ne N
  refine wpAny_call ?_
  refine' enterG (binds := [(("reader" : Str), .ref c.r), (("is_inner" : Str), .bool inner)]) ?k1 ?k2 ?k3 ?k4 ?k5 ?kA ?kF ?kK ?k6 ?k7 ?k8 ?k9 ?kB ?_ ?c2 ?c3 ?c4 ?c5
  case kA => exact rfl
  case kF => exact rfl
  case kK => assumption
  case k1 => k_asm
  case k2 => k_asm
  case k3 => k_asm
  case k4 => k_asm
  case k5 => k_asm
  case k6 => k_is
  case k7 => k_is
  case k8 => ktr_room
  case k9 => first | exact BindsTo.of_eq rfl | exact binds_K (by k_in) rfl (by k_is) rfl rfl rfl
  case c5 => decide
  case kB => exact locs rfl
  case c2 => exact rfl
  case c3 => exact rfl
  case c4 => exact rfl
  k_whole
  intro g L' h' hg FG F' N' B' X' T'
  try dsimp only
  try k_fold
  have hT : TL g c.l ts := hts.ground N hg
  have hT1 := hT.lt
  have hT2 := hT.wz
  k_steps
  rename_i fl hq1 lq hq2 F1 N1
  refine Stop.mk ?_
  refine ksw_while (σ := LsS α) (fun x => (c.r, instObj 262 c.d) :: (c.d, rdDict w.params c x.pos x.tk) :: (fl, lo x.ys x.ep) :: x.mbs) (fun _ => [("reader", .ref c.r), ("is_inner", .bool inner), ("found", .ref fl)]) (fun _ => True) []
    (fun x => ts.drop x.pos = x.rem ∧ ListR R x.n x.rem x.o ∧ out = x.o.map (fun z => (x.acc ++ z.1, z.2)) ∧ All2 (V x.mbs) x.ys x.acc ∧ x.ys.length + x.n ≤ n0 ∧ Off c x.mbs ∧ OffL fl x.mbs) (fun x => x.n) ⟨pos, tkr, sfx, n0, out, [], 0, [], []⟩ F1 (by
      intro q hq
      simp only [List.mem_cons, List.not_mem_nil, or_false] at hq
      rcases hq with rfl | rfl | rfl
      · exact N1 _ (.tail _ (.head _))
      · exact N1 _ (.tail _ (.tail _ (.head _)))
      · exact N1 _ (.head _)) trivial ?hk ?hp ?turn
  case hk => intro p hp; simp at hp; rcases hp with rfl | rfl | rfl <;> rfl
  case hp => exact ⟨hs, hR0, by cases out <;> rfl, trivial, by simp, .nil, .nil⟩
  case turn =>
    rintro ⟨p2, tk2, rem, n2, o2, ys, ep2, mbs, acc⟩ u h2 tk3 - ⟨hd1, hR1, ho1, hA1, hz1, hO1, hL1⟩ F2 N2
    dsimp only at hd1 hR1 ho1 hA1 hz1 hO1 hL1 F2 N2 ⊢
    have hyz : ys.length < 2 ^ 20 := by omega
    have hout : ∀ s : List Tk, o2 = some ([], s) → out = some (acc, s) := fun s e => by rw [ho1, e]; simp
    cases rem with
    | nil =>
      have ho := hout _ (hR1.stop rfl)
      k_steps
      · exact Hold.mk ⟨_, _, _, _, _, _, _, _, ho, rfl, rfl, by assumption, by assumption, by assumption, by assumption⟩
    | cons t0 r0 =>
      cases h59 : standsB (t0 :: r0) [59] with
      | true =>
        have ho := hout _ (hR1.stop (by rw [h59]; rfl))
        k_steps
        · exact Hold.mk ⟨_, _, _, _, _, _, _, _, ho, rfl, rfl, by assumption, by assumption, by assumption, by assumption⟩
      | false =>
        obtain ⟨n3, rfl, hc1, hc2⟩ := hR1.go (by rw [h59]; rfl)
        cases h44 : standsB (t0 :: r0) [44] with
        | true =>
          have hc3 := hc1 h44
          k_steps
          refine' ksw_endN (⟨p2 + 1, _, r0, n3, o2, ys, ep2, mbs, acc⟩ : LsS α) (by k_asm) (by assumption) trivial ?hk ?hr ?hp ?hm
          case hm => exact Nat.lt_succ_self _
          case hk => intro p hp; simp at hp; rcases hp with rfl | rfl | rfl <;> rfl
          case hr =>
            intro z hz _
            have z1 := hz _ (.head _)
            have z2 := hz _ (.tail _ (.head _))
            have z3 := hz _ (.tail _ (.tail _ (.head _)))
            dsimp only at z1 z2 z3
            simp [kstB, z1, z2, z3]
          case hp => exact ⟨by assumption, hc3, ho1, by assumption, by dsimp only; omega, by assumption, by assumption⟩
        | false =>
          obtain ⟨o3, hR3, hc3, hc4⟩ := hc2 h44
          k_steps
          rotate_left 3
          · rename o3 = some _ => ho9
            rename List Tk => r9
            obtain ⟨hz3, hz4⟩ := hc4 _ _ ho9
            have hn : o2 = none := by
              apply hz4
              rename standsB r9 [44] = false => k1
              rename standsB r9 [59] = false => k2
              rw [k1, k2]
              have k3 : r9.isEmpty = false := by assumption
              show (r9.isEmpty || false || false) = false
              rw [k3]
              rfl
            exact Hold.mk (by rw [ho1, hn]; rfl)
          · exact Hold.mk (by rw [ho1, hc3 (by assumption)]; rfl)
          all_goals
            rename o3 = some _ => ho9
            rename List Tk => r9
            obtain ⟨hz3, hz4⟩ := hc4 _ _ ho9
            have hor : (r9.isEmpty || standsB r9 [44] || standsB r9 [59]) = true := by
              first
                | (rename standsB r9 [59] = true => k1; rw [k1, Bool.or_true])
                | (rename standsB r9 [44] = true => k1; rw [k1, Bool.or_true, Bool.true_or])
                | (have k3 : r9.isEmpty = true := by assumption
                   rw [k3]; rfl)
            obtain ⟨o4, hR4, ho4⟩ := hz3 hor
            rename V _ _ _ => hV9
            rename α => x9
            refine' ksw_endN (⟨_, _, r9, n3, o4, ys ++ [_], ep2 + 1, _, acc ++ [x9]⟩ : LsS α) (by k_asm) (by assumption) trivial ?hk ?hr ?hp ?hm
            case hm => exact Nat.lt_succ_self _
            case hk => intro p hp; simp at hp; rcases hp with rfl | rfl | rfl <;> rfl
            case hr =>
              intro z hz _
              have z1 := hz _ (.head _)
              have z2 := hz _ (.tail _ (.head _))
              have z3 := hz _ (.tail _ (.tail _ (.head _)))
              dsimp only at z1 z2 z3
              simp [kstB, z1, z2, z3]
            case hp => exact ⟨by assumption, hR4, by rw [ho1, ho4]; cases o4 <;> simp, All2.snoc hV9 (by assumption), by simp only [List.length_append, List.length_cons, List.length_nil]; omega, by assumption, by assumption⟩
end part_D1
theorem MbV.mono {P : Params} : VMono (MbV P) := fun l1 l2 v x h H => by
  obtain ⟨a, dx, t1, t2, t3, u1, u2, u3, e, h1, h2⟩ := H
  exact ⟨a, dx, t1, t2, t3, u1, u2, u3, e, h _ h1, h _ h2⟩
inductive Pl where
  | mb (m : Mb)
  | gp (name : Str) (ms : List Mb)
abbrev grDict (P : Params) (name : Str) (fl : Addr) (t1 t2 u1 : Tok) : Obj :=
  dictOf [⟨PyData.keyHash P "name", .str "name" t1, .str name u1⟩, ⟨PyData.keyHash P "members", .str "members" t2, .ref fl⟩] 2
def PlV (P : Params) (led : Led) (v : Value) : Pl → Prop
  | .mb m => MbV P led v m
  | .gp name ms => ∃ x dx fl ys ep t1 t2 u1, v = .ref x ∧ (x, instObj 180 dx) ∈ led ∧ (dx, grDict P name fl t1 t2 u1) ∈ led ∧ (fl, lo ys ep) ∈ led ∧ All2 (MbV P led) ys ms
theorem PlV.mono {P : Params} : VMono (PlV P) := fun l1 l2 v x h H => by
  cases x with
  | mb m => exact MbV.mono _ _ _ _ h H
  | gp name ms =>
    obtain ⟨x, dx, fl, ys, ep, t1, t2, u1, e, h1, h2, h3, h4⟩ := H
    exact ⟨x, dx, fl, ys, ep, t1, t2, u1, e, h _ h1, h _ h2, h _ h3, h4.mono fun _ _ z => MbV.mono _ _ _ _ h z⟩
def PlaceF (sfx : List Tk) (out : Option (Pl × List Tk)) : Prop :=
  allAtoms (sfx.takeWhile isWord) = true ∧ (BJ.catB [32] ((sfx.takeWhile isWord).map (·.w))).length < 2 ^ 16 ∧
  ∃ o1 o2 n, (standsB (sfx.dropWhile isWord) [60] = true → RouteP (sfx.dropWhile isWord).tail o1) ∧
    (standsB (sfx.dropWhile isWord) [58] = true → sfx.takeWhile isWord ≠ [] → n < 2 ^ 16 ∧ ListR PlaceT n (sfx.dropWhile isWord).tail o2) ∧
    out = if standsB (sfx.dropWhile isWord) [58] then (if (sfx.takeWhile isWord).isEmpty then none else o2.bind fun z => if standsB z.2 [59] then some (Pl.gp (textOf (BJ.catB [32] ((sfx.takeWhile isWord).map (·.w)))) z.1, z.2.tail) else none)
      else (mailP o1 (sfx.takeWhile isWord) (sfx.dropWhile isWord)).map fun z => (Pl.mb z.1, z.2)
section
variable {prog : Program} {w : World} {A : Around} {E : Value → Shared → Prop} {s : Shared} {h₀ g : Heap} {L : Addr} {all : Led}
theorem use_phraseL {prog : Program} {w : World} {p : Program} {loose : List Str} {mean : ExcName → Option Value} {mg mb : Str → Option Value}
    {dp un : Nat} {gd : Option (List Code)} {cn : Str} {cs : Scope} {a : Addr} {ccd : Value} {cl : List (Str × Addr)} {outer : List Env} {A₀ : Around} {base h₀ : Heap} {L : Addr} {m : Str → Option Value} {s : Shared} {Q E : Value → Shared → Prop} {all : Led}
    {lw l : Addr} {ts sfx : List Tk} {pos ep : Nat} {ys : List Value} (B : Below A₀ base outer h₀) (F : Fr h₀ L s.heap m) (X : (hd.heap_1 w.params).In h₀) (N : News h₀ L s.heap all) (T : Top p loose mean mg mb h₀)
    (hk : cs.kind = .function) (hd : dp + 4 < recursionLimit) (hu : un + 8 * 4 < cLine) (hm : (lw, lo ys ep) ∈ all) (hW : All2 (TokIn h₀) ys (sfx.takeWhile isWord)) (hT : TL h₀ l ts) (hs : ts.drop pos = sfx) (hA : allAtoms (sfx.takeWhile isWord) = true) (hZ : (BJ.catB [32] ((sfx.takeWhile isWord).map (·.w))).length < 2 ^ 16)
    (k : ∀ t h' tk', Fr h₀ L h' m → News h₀ L h' all → Q (.bytes ⟨BJ.catB [32] ((sfx.takeWhile isWord).map (·.w))⟩ t) { s with heap := h', toks := tk' }) :
    wpAny (model prog w) (ktrTop dp un gd cn cs L a ccd cl outer) (call (.ref 130) [.ref lw]) Q E s :=
  use_phraseS B F X N T hk hd hu (TL.wordsN (hT.up F.keep) N hm hW hs F.keep) hA hZ k
theorem eq_nil {D1 D2 : Addr} {ys : List Value} {ep : Nat} {ws : List Tk} {x : Bool} {Q : Value → Shared → Prop} (N : News h₀ L s.heap all) (m1 : (D1, lo ys ep) ∈ all) (m2 : (D2, listOf #[] 0) ∈ all) (hA : All2 (TokIn g) ys ws) (hx : ws.isEmpty = x) (hu : A.units < cLine) (h : Q (.bool x) s) :
    wpAny (model prog w) A (compareOp .Eq (.ref D1) (.ref D2)) Q E s := by
  have i1 := isList_lo (N _ m1).1
  have i2 : s.heap.IsList D2 #[] := ⟨_, (N _ m2).1, rfl, _, rfl⟩
  cases ys with
  | nil =>
    cases ws with
    | nil => subst hx; exact SeqAt.eq_listAt (e := fun _ => true) i1 i2 rfl hu (fun j h1 => absurd h1 (Nat.not_lt_zero _)) h
    | cons => exact hA.elim
  | cons a as =>
    cases ws with
    | nil => exact hA.elim
    | cons => subst hx; exact SeqAt.eq_list_lengthsAt i1 i2 (by simp) hu h
end
example : True := by
  k_with "call ref" => (k_here; (with_reducible show wpAny _ _ (call (Value.ref 308) _) _ _ _); k_dflt (walk_at "zz rd"; (focus exact (fun q kp => (by assumption : ListC _ _ _ _ _) _ _ _ _ _ _ _ _ q (by k_asm) (by assumption) (by assumption))); walk_at "zz rd2"; intro _ _ _ _ hp' _ _ _; (obtain ⟨_, _, _, _, _, _, _, _, _, rfl, rfl, _, _, _, _⟩ := hp') <;> (walk_at "zz end")))
  trivial
example : True := by
  k_with "compareOp Eq ref ref" => (k_here; (with_reducible show wpAny _ _ (compareOp CmpOp.Eq (Value.ref _) (Value.ref _)) _ _ _); k_dflt (apply eq_nil; (case N => k_asm); (case m2 => exact .head _); (case m1 => first | exact .tail _ (.head _) | exact .tail _ (.tail _ (.head _)) | exact .tail _ (.tail _ (.tail _ (.head _)))); (case hA => assumption); (case hx => first | assumption | exact rfl); (case hu => ktr_units); (case' h => skip)))
  trivial
example : True := by
  k_with "call ref" => (k_here; (with_reducible show wpAny _ _ (call (Value.ref 130) _) _ _ _); k_dflt (apply use_phraseL; (case B => k_asm); (case F => k_asm); (case X => k_asm); (case N => k_asm); (case T => k_asm); (case hk => exact rfl); (case hd => ktr_room); (case hu => ktr_units); (case hm => first | exact .head _ | exact .tail _ (.head _) | exact .tail _ (.tail _ (.head _)) | exact .tail _ (.tail _ (.tail _ (.head _)))); (case hW => with_reducible assumption); (case hT => with_reducible assumption); (case hs => with_reducible assumption); (case hA => assumption); (case hZ => assumption); (case' k => skip); intro _ _ _ _ _; (try k_sweep)))
  trivial
section part_D2
example : True := by
  k_with "LeaveK" => (k_here; k_dflt (first | (apply leave_gp; (case hg => assumption); (case ret => assumption); (case F' => k_asm); (case N' => k_asm); (case' hp => skip)) | (apply leave_mb; (case hg => assumption); (case ret => assumption); (case F' => k_asm); (case N' => k_asm); (case' hp => skip))))
  trivial
theorem read_place_f (w : World) : PlaceC w false 16 (PlV w.params) PlaceF := by
  intro h c pos tkr ts sfx out hts hs ⟨ha, hz, o1, o2, n, hr, hl, ho⟩
  intro prog p loose mean mg mb dp un gd cn cs a ccd cl outer A₀ base h₀ L m s Q E hh B F X N T hkf hd hu ret exc
  subst hh
  have hne := rd_ne N
  have hLC : ListC w true (12 + 1) (MbV w.params) PlaceT := read_list_c w true 12 (by omega) (read_place_t w) MbV.mono
  refine wpAny_call ?_
  refine' enterG (binds := [(("reader" : Str), .ref c.r), (("is_inner" : Str), .bool false)]) ?k1 ?k2 ?k3 ?k4 ?k5 ?kA ?kF ?kK ?k6 ?k7 ?k8 ?k9 ?kB ?_ ?c2 ?c3 ?c4 ?c5
  case kA => exact rfl
  case kF => exact rfl
  case kK => assumption
  case k1 => k_asm
  case k2 => k_asm
  case k3 => k_asm
  case k4 => k_asm
  case k5 => k_asm
  case k6 => k_is
  case k7 => k_is
  case k8 => ktr_room
  case k9 => first | exact BindsTo.of_eq rfl | exact binds_K (by k_in) rfl (by k_is) rfl rfl rfl
  case c5 => decide
  case kB => exact locs rfl
  case c2 => exact rfl
  case c3 => exact rfl
  case c4 => exact rfl
  k_whole
  intro g L' h' hg FG F' N' B' X' T'
  try dsimp only
  try k_fold
  have hT : TL g c.l ts := hts.ground N hg
  have hT1 := hT.lt
  have hT2 := hT.wz
  cases hb : standsB (sfx.dropWhile isWord) [58] with
  | false =>
    rw [if_neg (by rw [hb]; decide)] at ho
    k_steps
    · rename mailP _ _ _ = some _ => hm
      rename MbV _ _ _ _ => hV9
      exact Hold.mk ⟨.mb _, _, _, _, _, by rw [ho, hm]; rfl, rfl, by assumption, by assumption, hV9⟩
    · rename mailP _ _ _ = none => hm
      exact Hold.mk (by rw [ho, hm]; rfl)
  | true =>
    rw [if_pos hb] at ho
    cases hw : (sfx.takeWhile isWord).isEmpty with
    | true =>
      rw [if_pos hw] at ho
      k_steps
      · exact Hold.mk ho
    | false =>
      rw [if_neg (by rw [hw]; decide)] at ho
      obtain ⟨hn, hl'⟩ := hl hb (by intro e; rw [e] at hw; cases hw)
      k_steps
      · rename o2 = some _ => h2
        rename All2 (MbV _ _) _ _ => la9
        rename Off c _ => lo9
        rename standsB _ [59] = true => h59
        rename c.r < _ ∧ c.d < _ ∧ _ < _ ∧ _ => l1
        rename _ < _ => l2
        refine Hold.mk ⟨.gp _ _, _, _, _, _ :: _ :: _ :: _, ?_, rfl, by assumption, ?_, ⟨_, _, _, _, _, _, _, _, rfl, .head _, .tail _ (.head _), .tail _ (.tail _ (.head _)), la9.mono fun _ _ z => MbV.mono _ _ _ _ (fun q hq => .tail _ (.tail _ (.tail _ hq))) z⟩⟩
        · rw [ho, h2, Option.bind_some, if_pos h59]
        · exact .cons ⟨Nat.ne_of_gt (by dsimp only; omega), Nat.ne_of_gt (by dsimp only; omega)⟩ (.cons ⟨Nat.ne_of_gt (by dsimp only; omega), Nat.ne_of_gt (by dsimp only; omega)⟩ (.cls rfl lo9))
      · rename o2 = some _ => h2
        rename standsB _ [59] = false => h59
        refine Hold.mk ?_
        rw [ho, h2, Option.bind_some, if_neg (by rw [h59]; decide)]
      · rename o2 = none => h2
        exact Hold.mk (by rw [ho, h2]; rfl)
      · rename standsB _ [58] = false => h58
        exact absurd (hb.symm.trans h58) (by decide)
theorem read_list_f (w : World) : ListC w false 17 (PlV w.params) PlaceF := read_list_c w false 16 (by omega) (read_place_f w) PlV.mono
end part_D2
section part_B1
namespace BC
open Builtin
theorem noIdx : typeLookup (.type "bytes") "__index__" = pure none := by rw [typeLookup_type, builtinLookup_eq_fast]; kernel_rfl
theorem typeName_bytes : typeName (.type "bytes") = pure "bytes" := by first | rfl | kernel_rfl
theorem cut_bytes {prog : Program} {w : World} {A : Around} {E : Value → Shared → Prop} {s : Shared} {n : Nat} {b : Array UInt8} {t : Tok} {Q : String → Shared → Prop} (h : Q "bytes" s) : wpAny (model prog w) A (typeNameOfCut n (.bytes b t)) Q E s := by
  unfold typeNameOfCut shownTypeOf
  refine wpAny_bind (wpAny_bind (wpAny_typeOf (typeIs_bytes _ b t) ?_))
  simp only [show (Value.type "bytes" == Value.type "builtin_function_or_method") = false by decide, Bool.false_eq_true, if_false]
  refine wpAny_pure ?_
  rw [show typeNameCut n (.type "bytes") = typeName (.type "bytes") from rfl, typeName_bytes]
  exact wpAny_pure h
theorem gives_in_int (b : Array UInt8) (t : Tok) (i : Int) (u : Tok) (h0 : 0 ≤ i) (h1 : i < 256) : Gives («bytes.__contains__» ⟨[.bytes b t, .int i u], []⟩) (.val (.bool (b.contains i.toNat.toUInt8))) := by
  refine .of_wp fun M A E s Q hq => ?_
  show wpAny M A (Bytes.containsIn "bytes.__contains__" (.bytes b t) (.int i u) >>= fun r => ret (.bool r)) _ E s
  refine wpAny_bind ?_
  unfold Bytes.containsIn
  refine wpAny_bind (wpAny_attempt (wpAny_of_eq (a := i) rfl ?_))
  refine wpAny_bind (wpAny_of_eq KBy.buffer_eq ?_)
  dsimp only
  rw [if_neg (by simp only [Bool.or_eq_true, decide_eq_true_eq]; omega)]
  exact wpAny_pure (wpAny_pure ⟨_, rfl, hq⟩)
theorem meets_in_run (b c : Array UInt8) (t u : Tok) : Meets («bytes.__contains__» ⟨[.bytes b t, .bytes c u], []⟩)
    (fun A R s => A.handled = none ∧ ∀ h' tk, (∀ a o, s.heap.get? a = some o → h'.get? a = some o) → R (.ok (.ret (.bool (Bytes.find? b c 0 b.size).isSome))) { s with heap := h', toks := tk }) := by
  refine .of_wp fun prog w A R s hS => ?_
  obtain ⟨hh, h⟩ := hS
  show wpAny _ _ (Bytes.containsIn "bytes.__contains__" (.bytes b t) (.bytes c u) >>= fun r => ret (.bool r)) _ _ s
  refine wpAny_bind ?_
  unfold Bytes.containsIn
  refine wpAny_bind (wpAny_attempt ?_)
  unfold asIndex
  refine wpAny_bind (wpAny_of_eq (a := none) rfl ?_)
  dsimp only
  refine wpAny_bind (wpAny_callSpecial?_none (typeIs_bytes _ c u) noIdx ?_)
  dsimp only
  refine wpAny_bind (cut_bytes ?_)
  refine raiseError_exc excClass_TypeError (by exact hh) (fun h' tk e hx => ?_)
  refine wpAny_bind (wpAny_of_eq KBy.buffer_eq ?_)
  refine wpAny_bind (wpAny_of_eq KBy.buffer_eq ?_)
  dsimp only
  refine wpAny_bind (wpAny_rule ?_)
  refine wpAny_pure (wpAny_pure ?_)
  exact ⟨_, rfl, h _ _ hx.keeps⟩
section
variable {prog : Program} {w : World} {A : Around} {E : Value → Shared → Prop} {s : Shared} {h₀ : Heap} {L : Addr} {m : PySem.Str → Option Value} {news : Led} {b c : Array UInt8} {t u : Tok} {Q : Value → Shared → Prop}
theorem in_int {i : Int} {x : Bool} (h0 : 0 ≤ i) (h1 : i < 256) (hx : b.contains i.toNat.toUInt8 = x) (h : Q (.bool x) s) : wpAny (model prog w) A (compareOp .In (.int i u) (.bytes b t)) Q E s :=
  in_gives (typeIs_bytes _ b t) FB.slot_bytes_contains FB.entry_bytes_contains (FB.args_bytes_contains_2 _ _) (gives_in_int b t i u h0 h1) (hx ▸ h)
theorem in_run {x : Bool} (hh : A.handled = none) (F : Fr h₀ L s.heap m) (N : News h₀ L s.heap news) (hx : (Bytes.find? b c 0 b.size).isSome = x) (h : ∀ h' tk, Fr h₀ L h' m → News h₀ L h' news → Q (.bool x) { s with heap := h', toks := tk }) : wpAny (model prog w) A (compareOp .In (.bytes c u) (.bytes b t)) Q E s :=
  SeqRoads2.in_meets (typeIs_bytes _ b t) FB.slot_bytes_contains FB.entry_bytes_contains (FB.args_bytes_contains_2 _ _) (meets_in_run b c t u)
    ⟨hh, fun h' tk k => ⟨_, rfl, hx ▸ h h' tk (F.keeps k) fun q hq => ⟨k _ _ (N q hq).1, (N q hq).2⟩⟩⟩
theorem eq_b {x : Bool} (hx : (b.toList == c.toList) = x) (h : Q (.bool x) s) : wpAny (model prog w) A (compareOp .Eq (.bytes b t) (.bytes c u)) Q E s := eq_bytes (hx ▸ h)
theorem ne_b {x : Bool} (hx : (b.toList != c.toList) = x) (h : Q (.bool x) s) : wpAny (model prog w) A (compareOp .NotEq (.bytes b t) (.bytes c u)) Q E s := ne_bytes (hx ▸ h)
theorem len_b {d : List UInt8} (hz : d.length < 2 ^ 16) (h : ∀ t', Q (.int (d.length : Int) t') { s with toks := s.toks + 1 + 1 }) : wpAny (model prog w) A (call (.builtin "len") [.bytes ⟨d⟩ t]) Q E s :=
  len_bytes (b := ⟨d⟩) (by show d.length ≤ _; omega) (h _)
theorem item_at {value slice : PySem.Expr} {d r : List UInt8} {y : UInt8} {i : Int} {ui : Tok} {n : Nat} (hd : d.drop n = y :: r) (hi : i = (n : Int)) (hz : d.length < 2 ^ 16)
    (h : ∀ t' tk, Q (.int (y.toNat : Int) t') { s with toks := tk })
    (hs : subscripted slice false (.bytes ⟨d⟩ t) (.int i ui) = operate [.bytes ⟨d⟩ t, .int i ui] (getItem (.bytes ⟨d⟩ t) (.int i ui)) := by with_unfolding_all rfl)
    (ht : ∀ r, letTemporaryGo value (.bytes ⟨d⟩ t) r = pure () := by intro _; with_unfolding_all rfl) :
    wpAny (model prog w) A (subscriptTail value slice (.bytes ⟨d⟩ t) (.int i ui)) Q E s := by
  subst hi
  have hl : n < d.length := by
    have := congrArg List.length hd
    rw [List.length_drop, List.length_cons] at this
    omega
  have hy : d.getD n 0 = y := by
    have := congrArg List.head? hd
    rw [List.head?_drop] at this
    rw [List.getD_eq_getElem?_getD, this]; rfl
  refine tail_of_ItemOn ⟨"bytes", _, FB.slot_bytes_getitem.lookup, typeIs_bytes _ _ _, getItem_bytes (l := d) (by omega) (Int.natCast_nonneg _) (by omega) ?_⟩ hs ht
  rw [Int.toNat_natCast, hy]
  exact h _ _
theorem slice_at {value slice : PySem.Expr} {d r : List UInt8} {i j : Int} {ui uj : Tok} {n k : Nat} (F : Fr h₀ L s.heap m) (N : News h₀ L s.heap news) (hd : d.drop n = r) (hi : i = (n : Int)) (hj : j = ((n + k : Nat) : Int)) (hz : d.length < 2 ^ 16)
    (h : ∀ h' t' tk, Fr h₀ L h' m → News h₀ L h' news → Q (.bytes ⟨r.take k⟩ t') { s with heap := h', toks := tk })
    (hs : subscripted slice false (.bytes ⟨d⟩ t) (.ref s.heap.objs.size) = operate [.ref s.heap.objs.size, .bytes ⟨d⟩ t] (getItem (.bytes ⟨d⟩ t) (.ref s.heap.objs.size)) := by with_unfolding_all rfl)
    (ht : ∀ r, letTemporaryGo value (.bytes ⟨d⟩ t) r = pure () := by intro _; with_unfolding_all rfl) :
    wpAny (model prog w) A (subscriptTail value slice (.bytes ⟨d⟩ t) (.ref s.heap.objs.size)) Q E { s with heap := s.heap.push { cls := .type "slice", data := .fields #[.int i ui, .int j uj, .none] } } := by
  refine KBc.slice_K (b := ⟨d⟩) F N rfl (.int i ui) (.int j uj) (by rw [KBw.ints_length]; show d.length ≤ _; omega) (fun h' t' tk F' N' _ => ?_) hs ht
  have e : KBy.picked ⟨d⟩ (some i) (some j) = ⟨r.take k⟩ := by
    subst hi hj hd
    rw [KBc.picked_eq]
    simp only [Option.elim, clipAt_nat]
    show (List.take (min (n + k) d.length - min n d.length) (List.drop (min n d.length) d)).toArray = _
    congr 1
    rcases Nat.le_total n d.length with q | q
    · rw [Nat.min_eq_left q]
      rcases Nat.le_total (n + k) d.length with q2 | q2
      · rw [Nat.min_eq_left q2]; congr 1; omega
      · rw [Nat.min_eq_right q2, List.take_of_length_le (by simp), List.take_of_length_le (by simp; omega)]
    · rw [Nat.min_eq_right q]
      rw [List.drop_of_length_le q, List.drop_of_length_le (Nat.le_refl _)]
      simp
  rw [e]
  exact h h' t' tk F' N'
end
end BC
end part_B1

example : True := by
  k_with "compareOp In" => (k_here; (with_reducible show wpAny _ _ (compareOp CmpOp.In (Value.int _ _) (Value.bytes _ _)) _ _ _); k_dflt (apply BC.in_int; (case h0 => omega); (case h1 => first | omega | (have := UInt8.toNat_lt (by assumption); omega)); (case hx => first | assumption | exact rfl); (case' h => skip)))
  trivial
example : True := by
  k_with "compareOp In" => (k_here; (with_reducible show wpAny _ _ (compareOp CmpOp.In (Value.bytes _ _) (Value.bytes _ _)) _ _ _); k_dflt (apply BC.in_run; (case hh => exact rfl); (case F => k_asm); (case N => k_asm); (case hx => first | assumption | exact rfl); (case' h => skip)); intro _ _ _ _; (try k_sweep))
  trivial
example : True := by
  k_with "compareOp Eq bytes bytes" => (k_here; k_dflt (apply BC.eq_b; (case hx => first | assumption | exact rfl); (case' h => skip)))
  trivial
example : True := by
  k_with "compareOp NotEq bytes bytes" => (k_here; k_dflt (apply BC.ne_b; (case hx => first | assumption | exact rfl); (case' h => skip)))
  trivial
example : True := by
  k_with "call builtin:len" => (k_here; (with_reducible show wpAny _ _ (call (Value.builtin "len") [Value.bytes _ _]) _ _ _); k_dflt (apply BC.len_b; (case hz => assumption); (case' h => skip)); intro _)
  trivial
example : True := by
  k_with "subscriptTail" => (k_here; (with_reducible show wpAny _ _ (subscriptTail _ _ (Value.bytes _ _) (Value.int _ _)) _ _ _); k_dflt (apply BC.item_at; (case hd => assumption); (case hi => first | exact rfl | omega); (case hz => assumption); (case hs => with_unfolding_all rfl); (case ht => (intro _; with_unfolding_all rfl)); (case' h => skip)); intro _ _)
  trivial
example : True := by
  k_with "subscriptTail" => (k_here; (with_reducible show wpAny _ _ (subscriptTail _ (Expr.Slice _ _ none _) (Value.bytes _ _) (Value.ref _)) _ _ _); (with_reducible rename Fr _ _ _ _ => zF1); (with_reducible rename News _ _ _ _ => zN1); k_dflt (first | (apply BC.slice_at (k := 1) (s := ⟨_, _, _, _, _⟩); (case F => exact zF1); (case N => exact zN1); (case hd => assumption); (case hi => first | exact rfl | omega); (case hj => first | exact rfl | omega); (case hz => assumption); (case' h => skip)) | (apply BC.slice_at (k := 2) (s := ⟨_, _, _, _, _⟩); (case F => exact zF1); (case N => exact zN1); (case hd => assumption); (case hi => first | exact rfl | omega); (case hj => first | exact rfl | omega); (case hz => assumption); (case' h => skip)) | (apply BC.slice_at (s := ⟨_, _, _, _, _⟩); (case F => exact zF1); (case N => exact zN1); (case hi => exact rfl); (case hd => assumption); (case hj => exact rfl); (case hz => assumption); (case' h => skip))); intro _ _ _ _ _; (try k_sweep))
  trivial
example : True := by
  k_with "eval ListComp" => (k_here; refine' Stop.out ?_)
  trivial
section part_T1
example : True := by
  k_with "LeaveK" => (k_here; k_dflt (apply leave_none; (case hg => assumption); (case ret => assumption); (case F' => k_asm); (case' hp => skip)))
  trivial
def atomU (c : UInt8) : Bool := (48 ≤ c.toNat && c.toNat ≤ 57) || (65 ≤ c.toNat && c.toNat ≤ 90) || (97 ≤ c.toNat && c.toNat ≤ 122) || 127 < c.toNat || (#[33, 35, 36, 37, 38, 39, 42, 43, 45, 47, 61, 63, 94, 95, 96, 123, 124, 125, 126] : Array UInt8).contains c
theorem is_atom_c (w : World) (h : Heap) (x : UInt8) (t : Tok) :
    Con w (Mine.hd.heap_1 w.params) 62 [.int (x.toNat : Int) t] 2 h [] (fun v news' _ => v = .bool (atomU x) ∧ news' = []) False := by
  intro prog p loose mean mg mb dp un gd cn cs a ccd cl outer A₀ base h₀ L m s Q E hh B F X N T hkf hd hu ret exc
  subst hh
  refine wpAny_call ?_
  refine' enterG (binds := [(("code" : Str), .int (x.toNat : Int) t)]) ?k1 ?k2 ?k3 ?k4 ?k5 ?kA ?kF ?kK ?k6 ?k7 ?k8 ?k9 ?kB ?_ ?c2 ?c3 ?c4 ?c5
  case kA => exact rfl
  case kF => exact rfl
  case kK => assumption
  case k1 => k_asm
  case k2 => k_asm
  case k3 => k_asm
  case k4 => k_asm
  case k5 => k_asm
  case k6 => k_is
  case k7 => k_is
  case k8 => ktr_room
  case k9 => first | exact BindsTo.of_eq rfl | exact binds_K (by k_in) rfl (by k_is) rfl rfl rfl
  case c5 => decide
  case kB => exact locs rfl
  case c2 => exact rfl
  case c3 => exact rfl
  case c4 => exact rfl
  k_whole
  intro g L' h' hg FG F' N' B' X' T'
  try dsimp only
  try k_fold
  have hx9 := x.toNat_lt
  have hxx : ((x.toNat : Int)).toNat.toUInt8 = x := by rw [Int.toNat_natCast]; exact UInt8.ofNat_toNat
  k_steps
  all_goals
    refine ret _ [] _ _ (by assumption) (by assumption) (Keeps.of hg (by assumption)) (fun q hq => nomatch hq) ⟨congrArg Value.bool ?_, rfl⟩
    try rw [hxx]
    unfold atomU
    generalize Array.contains _ x = b
    clear hxx hg
    rw [Bool.eq_iff_iff]
    cases b <;> simp only [decide_eq_true_eq, Bool.or_eq_true, Bool.and_eq_true, Bool.false_eq_true, or_false, or_true, iff_true, true_iff, false_iff, decide_eq_false_iff_not] at * <;> omega
def okB (c : UInt8) : Bool := c != 0 && c != 9 && c != 10 && c != 13 && c != 92
theorem okB_hd {d r : List UInt8} {n : Nat} {c : UInt8} (hok : d.all okB = true) (h : d.drop n = c :: r) : okB c = true := by
  have hm : c ∈ d := List.mem_of_mem_drop (i := n) (by rw [h]; exact .head _)
  exact List.all_eq_true.mp hok c hm
theorem okB_ne {c : UInt8} (h : okB c = true) : c ≠ 0 ∧ c ≠ 9 ∧ c ≠ 10 ∧ c ≠ 13 ∧ c ≠ 92 := by
  simpa [okB, bne_iff_ne, and_assoc] using h
theorem drop_lt {d r : List UInt8} {n : Nat} {c : UInt8} (h : d.drop n = c :: r) : n < d.length := by
  have := congrArg List.length h
  rw [List.length_drop, List.length_cons] at this
  omega
theorem line_end_c (w : World) (h : Heap) (d r : List UInt8) (t : Tok) (i : Int) (n : Nat) (tn : Tok) (hdz : d.length < 2 ^ 16) (hok : d.all okB = true) (hi : i = (n : Int)) (hdr : d.drop n = r) :
    Con w (Mine.hd.heap_1 w.params) 69 [.bytes ⟨d⟩ t, .int i tn] 2 h [] (fun v news' _ => (∃ t, v = .int (-1) t) ∧ news' = []) False := by
  intro prog p loose mean mg mb dp un gd cn cs a ccd cl outer A₀ base h₀ L m s Q E hh B F X N T hkf hd hu ret exc
  subst hh
  refine wpAny_call ?_
  refine' enterG (binds := [(("data" : Str), .bytes ⟨d⟩ t), (("at" : Str), .int i tn)]) ?k1 ?k2 ?k3 ?k4 ?k5 ?kA ?kF ?kK ?k6 ?k7 ?k8 ?k9 ?kB ?_ ?c2 ?c3 ?c4 ?c5
  case kA => exact rfl
  case kF => exact rfl
  case kK => assumption
  case k1 => k_asm
  case k2 => k_asm
  case k3 => k_asm
  case k4 => k_asm
  case k5 => k_asm
  case k6 => k_is
  case k7 => k_is
  case k8 => ktr_room
  case k9 => first | exact BindsTo.of_eq rfl | exact binds_K (by k_in) rfl (by k_is) rfl rfl rfl
  case c5 => decide
  case kB => exact locs rfl
  case c2 => exact rfl
  case c3 => exact rfl
  case c4 => exact rfl
  k_whole
  intro g L' h' hg FG F' N' B' X' T'
  try dsimp only
  try k_fold
  have h1 : (r.take 1 == [10]) = false := by
    cases r with
    | nil => rfl
    | cons c r => have := okB_ne (okB_hd hok hdr); simp [this]
  have h2 : (r.take 2 == [13, 10]) = false := by
    cases r with
    | nil => rfl
    | cons c r => have := okB_ne (okB_hd hok hdr); simp [this]
  k_steps
  exact ret _ [] _ _ (by assumption) (by assumption) (Keeps.of hg (by assumption)) (fun q hq => nomatch hq) ⟨⟨_, rfl⟩, rfl⟩
end part_T1
section
variable {prog : Program} {w : World} {p : Program} {loose : List Str} {mean : ExcName → Option Value} {mg mb : Str → Option Value}
    {dp un : Nat} {gd : Option (List Code)} {cn : Str} {cs : Scope} {a : Addr} {ccd : Value} {cl : List (Str × Addr)} {outer : List Env} {A₀ : Around} {base h₀ : Heap} {L : Addr} {m : Str → Option Value} {s : Shared} {Q E : Value → Shared → Prop} {all : Led} {K : Frag}
theorem use0 {f : Addr} {args : List Value} {need : Nat} {post : Value → Led → Heap → Prop} (C : Con w K f args need s.heap [] post False) (B : Below A₀ base outer h₀) (F : Fr h₀ L s.heap m) (X : K.In h₀) (N : News h₀ L s.heap all) (T : Top p loose mean mg mb h₀)
    (hk : cs.kind = .function) (hd : dp + need < recursionLimit) (hu : un + 8 * need < cLine)
    (k : ∀ v news' h' tk', post v news' h' → (∀ q ∈ news', s.heap.get? q.1 = none) → Fr h₀ L h' m → News h₀ L h' (news' ++ all) → Q v { s with heap := h', toks := tk' }) :
    wpAny (model prog w) (ktrTop dp un gd cn cs L a ccd cl outer) (call (.ref f) args) Q E s :=
  Con.use all C B F X N T hk hd hu (fun _ h => nomatch h) (fun q hq => ⟨hq, fun h => nomatch h⟩) (fun v news' h' tk' hp fr F' N' => k v news' h' tk' hp (fun q hq => (fr q hq).elim (fun h => nomatch h) id) F' N') fun _ _ _ _ _ _ hz => hz.elim
end
example : True := by
  k_with "zz u0" => (apply use0; walk_at "zz h5"; (case' C => skip))
  trivial
example : True := by
  k_with "call ref" => (k_here; (with_reducible show wpAny _ _ (call (Value.ref 62) _) _ _ _); k_dflt (walk_at "zz u0"; (focus exact (is_atom_c _ _ _ _)); walk_at "zz u2"; intro _ _ _ _ hp' _ _ N'; (obtain ⟨rfl, rfl⟩ := hp') <;> ((try simp only [List.append_nil] at N'); revert N'; intro _; walk_at "zz end")))
  trivial
example : True := by
  k_with "call ref" => (k_here; (with_reducible show wpAny _ _ (call (Value.ref 69) _) _ _ _); k_dflt (walk_at "zz u0"; (focus exact (line_end_c _ _ _ _ _ _ _ _ (by assumption) (by assumption) (by first | exact rfl | omega) rfl)); walk_at "zz u2"; intro _ _ _ _ hp' _ _ N'; (obtain ⟨⟨_, rfl⟩, rfl⟩ := hp') <;> ((try simp only [List.append_nil] at N'); revert N'; intro _; walk_at "zz end")))
  trivial
section part_T2
theorem in_never {prog : Program} {w : World} {A : Around} {E : Value → Shared → Prop} {s : Shared} {h₀ : Heap} {L : Addr} {m : Str → Option Value} {Q : Value → Shared → Prop} {i : Int} {u : Tok} (F : Fr h₀ L s.heap m) (X : (Mine.hd.heap_1 w.params).In h₀) (hx : i ≠ 0 ∧ i ≠ 10 ∧ i ≠ 13) (h : Q (.bool false) s) :
    wpAny (model prog w) A (compareOp .In (.int i u) (.ref 55)) Q E s := by
  have X1 := X.keeps F.keep
  have h55 := in_of (a := 55) X1 (by k_dflt k_is)
  have hT : s.heap.IsTuple 55 #[.int 0 253, .int 10 254, .int 13 255] := ⟨_, h55, rfl, _, rfl⟩
  refine SeqAt.in_tupleAt (fun v => match v with | .int k _ => k == i | _ => false) hT (fun y hy => ?_) ?_
  · simp only [List.mem_toArray, List.mem_cons, List.not_mem_nil, or_false] at hy
    rcases hy with rfl | rfl | rfl <;> exact SeqAt.EqAt.int_int _ _ _ _
  · have e : ((#[.int 0 253, .int 10 254, .int 13 255] : Array Value).any fun v => match v with | .int k _ => k == i | _ => false) = false := by
      simp [Ne.symm hx.1, Ne.symm hx.2.1, Ne.symm hx.2.2]
    rw [e]; exact h
example : True := by
  k_with "compareOp In" => (k_here; (with_reducible show wpAny _ _ (compareOp CmpOp.In (Value.int _ _) (Value.ref 55)) _ _ _); k_dflt (apply in_never; (case F => k_asm); (case X => k_asm); (case hx => assumption); (case' h => skip)))
  trivial
abbrev tup2 (x y : Value) (n : Nat) : Obj := { cls := .type "tuple", data := .seq #[x, y] n }
theorem inside_at_c (w : World) (h : Heap) (d r : List UInt8) (x : UInt8) (t : Tok) (i : Int) (n : Nat) (tn : Tok) (bg : Value) (hdz : d.length < 2 ^ 16) (hok : d.all okB = true) (hdr : d.drop n = x :: r) (hi : i = (n : Int)) :
    Con w (Mine.hd.heap_1 w.params) 76 [.bytes ⟨d⟩ t, .int i tn, bg] 3 h [] (fun v news' _ => ∃ a n0 t1 t2, v = .ref a ∧ news' = [(a, tup2 (.bytes ⟨[x]⟩ t1) (.int (i + 1) t2) n0)]) False := by
  intro prog p loose mean mg mb dp un gd cn cs a ccd cl outer A₀ base h₀ L m s Q E hh B F X N T hkf hd hu ret exc
  subst hh
  refine wpAny_call ?_
  refine' enterG (binds := [(("data" : Str), .bytes ⟨d⟩ t), (("at" : Str), .int i tn), (("begun" : Str), bg)]) ?k1 ?k2 ?k3 ?k4 ?k5 ?kA ?kF ?kK ?k6 ?k7 ?k8 ?k9 ?kB ?_ ?c2 ?c3 ?c4 ?c5
  case kA => exact rfl
  case kF => exact rfl
  case kK => assumption
  case k1 => k_asm
  case k2 => k_asm
  case k3 => k_asm
  case k4 => k_asm
  case k5 => k_asm
  case k6 => k_is
  case k7 => k_is
  case k8 => ktr_room
  case k9 => first | exact BindsTo.of_eq rfl | exact binds_K (by k_in) rfl (by k_is) rfl rfl rfl
  case c5 => decide
  case kB => exact locs rfl
  case c2 => exact rfl
  case c3 => exact rfl
  case c4 => exact rfl
  k_whole
  intro g L' h' hg FG F' N' B' X' T'
  try dsimp only
  try k_fold
  have hlt := drop_lt hdr
  have hx := okB_ne (okB_hd hok hdr)
  have hx9 := x.toNat_lt
  have h92 : (x.toNat : Int) ≠ 92 := by
    intro e; exact hx.2.2.2.2 (by apply UInt8.toNat.inj; show x.toNat = 92; omega)
  have hnv : (x.toNat : Int) ≠ 0 ∧ (x.toNat : Int) ≠ 10 ∧ (x.toNat : Int) ≠ 13 := by
    refine ⟨fun e => hx.1 ?_, fun e => hx.2.2.1 ?_, fun e => hx.2.2.2.1 ?_⟩ <;> apply UInt8.toNat.inj
    · show x.toNat = 0; omega
    · show x.toNat = 10; omega
    · show x.toNat = 13; omega
  k_steps
  · exfalso; omega
  · exfalso; omega
  · rename News g _ _ _ => gN
    rename News h₀ _ _ _ => kN
    exact ret _ _ _ _ (by assumption) kN (Keeps.of hg (by assumption)) (Fresh.of hg gN) ⟨_, _, _, _, rfl, rfl⟩
end part_T2

example : True := by
  k_with "call ref" => (k_here; (with_reducible show wpAny _ _ (call (Value.ref 76) _) _ _ _); k_dflt (walk_at "zz u0"; (focus exact (inside_at_c _ _ _ _ _ _ _ _ _ _ (by assumption) (by assumption) (by assumption) (by first | exact rfl | omega))); walk_at "zz u2"; intro _ _ _ _ hp' _ _ N'; (obtain ⟨_, _, _, _, rfl, rfl⟩ := hp') <;> ((try simp only [List.append_nil] at N'); revert N'; intro _; walk_at "zz end")))
  trivial
section part_T3
theorem drop_step {α : Type} {d : List α} {n : Nat} {x : α} {r : List α} (h : d.drop n = x :: r) : d.drop (n + 1) = r := drop_tail h
theorem cat_single : ∀ (w : List UInt8), BJ.catB [] (w.map fun x => [x]) = w := fun w => by
  rw [catB_nil]; induction w with
  | nil => rfl
  | cons a r ih => simp only [List.map_cons, List.flatten_cons, ih, List.cons_append, List.nil_append]
theorem at_tok {h₀ h : Heap} {L : Addr} {m : Str → Option Value} {i : Int} (_F : Fr h₀ L h m) (h : ∃ t, m "at" = some (.int i t)) : ∃ t, m "at" = some (.int i t) := h
theorem news_hd1 {h₀ h : Heap} {L : Addr} {x : Addr × Obj} {r : Led} (N : News h₀ L h (x :: r)) : News h₀ L h [x] := fun q hq => by
  rw [List.mem_singleton.mp hq]; exact N _ (.head _)
theorem news_tl1 {h₀ h : Heap} {L : Addr} {x : Addr × Obj} {r : Led} (N : News h₀ L h (x :: r)) : News h₀ L h r := fun q hq => N q (.tail _ hq)
structure CaS where
  k : Nat
  tk : Tok
  ep : Nat
  l : List (List UInt8 × Tok)
theorem closed_at_c (w : World) (h : Heap) (d r q bar : List UInt8) (cl0 : UInt8) (t : Tok) (i : Int) (n : Nat) (tn tc tb : Tok) (hdz : d.length < 2 ^ 16) (hok : d.all okB = true) (hdr : d.drop (n + 1) = q ++ cl0 :: r) (hi : i = (n : Int))
    (hw : q.all (fun x => x != cl0 && !bar.contains x) = true) :
    Con w (Mine.hd.heap_1 w.params) 83 [.bytes ⟨d⟩ t, .int i tn, .bytes ⟨[cl0]⟩ tc, .bytes ⟨bar⟩ tb] 5 h [] (fun v news' _ => ∃ a n0 t1 t2, v = .ref a ∧ news' = [(a, tup2 (.bytes ⟨q⟩ t1) (.int ((n + 1 + q.length + 1 : Nat) : Int) t2) n0)]) False := by
  subst hi
  intro prog p loose mean mg mb dp un gd cn cs a ccd cl outer A₀ base h₀ L m s Q E hh B F X N T hkf hd hu ret exc
  subst hh
  refine wpAny_call ?_
  refine' enterG (binds := [(("data" : Str), .bytes ⟨d⟩ t), (("begun" : Str), .int (n : Int) tn), (("closing" : Str), .bytes ⟨[cl0]⟩ tc), (("barred" : Str), .bytes ⟨bar⟩ tb)]) ?k1 ?k2 ?k3 ?k4 ?k5 ?kA ?kF ?kK ?k6 ?k7 ?k8 ?k9 ?kB ?_ ?c2 ?c3 ?c4 ?c5
  case kA => exact rfl
  case kF => exact rfl
  case kK => assumption
  case k1 => k_asm
  case k2 => k_asm
  case k3 => k_asm
  case k4 => k_asm
  case k5 => k_asm
  case k6 => k_is
  case k7 => k_is
  case k8 => ktr_room
  case k9 => first | exact BindsTo.of_eq rfl | exact binds_K (by k_in) rfl (by k_is) rfl rfl rfl
  case c5 => decide
  case kB => exact locs rfl
  case c2 => exact rfl
  case c3 => exact rfl
  case c4 => exact rfl
  k_whole
  intro g L' h' hg FG F' N' B' X' T'
  try dsimp only
  try k_fold
  have hqz : q.length < 2 ^ 16 := by
    have := congrArg List.length hdr
    simp only [List.length_drop, List.length_append, List.length_cons] at this
    omega
  k_steps
  rename_i fl hq1 lq hq2 hq3 F1 N1
  obtain ⟨tk0, ht0⟩ := at_tok (i := ((n + 1 + 0 : Nat) : Int)) F1 ⟨_, rfl⟩
  refine Stop.mk ?_
  refine ksw_while (σ := CaS) (fun x => [(fl, lo (BJ.bvals x.l) x.ep)]) (fun x => [("data", .bytes ⟨d⟩ t), ("begun", .int (n : Int) tn), ("closing", .bytes ⟨[cl0]⟩ tc), ("barred", .bytes ⟨bar⟩ tb), ("parts", .ref fl), ("at", .int ((n + 1 + x.k : Nat) : Int) x.tk)]) (fun _ => True) ["octets"]
    (fun x => x.k ≤ q.length ∧ x.l.map (·.1) = (q.take x.k).map fun y => [y]) (fun x => q.length - x.k) ⟨0, tk0, 0, []⟩ F1 (by assumption) trivial ?hk ?hp ?turn
  case hk => intro p hp; simp only [List.mem_cons, List.not_mem_nil, or_false] at hp; rcases hp with rfl | rfl | rfl | rfl | rfl | rfl <;> first | rfl | exact ht0
  case hp => exact ⟨Nat.zero_le _, rfl⟩
  case turn =>
    rintro ⟨k, tk2, ep2, l⟩ u h2 tk3 - ⟨hk1, hl1⟩ F2 N2
    dsimp only at hk1 hl1 F2 N2 ⊢
    have hyz : (BJ.bvals l).length < 2 ^ 20 := by
      have := congrArg List.length hl1
      simp only [List.length_map, List.length_take] at this
      simp only [BJ.bvals, List.length_map]
      omega
    have hcur : d.drop (n + 1 + k) = q.drop k ++ cl0 :: r := by
      rw [← List.drop_drop, hdr, List.drop_append_of_le_length hk1]
    clear hdr
    cases hqk : q.drop k with
    | nil =>
      have hkq : k = q.length := by
        have := congrArg List.length hqk
        rw [List.length_drop, List.length_nil] at this; omega
      rw [hqk, List.nil_append] at hcur
      have hne : ([cl0] != [cl0]) = false := by simp
      have hzb : (BJ.catB [] (q.map fun y => [y])).length < 2 ^ 16 := by rw [cat_single]; exact hqz
      rw [hkq, List.take_length] at hl1
      k_steps
      rename News g _ _ _ => gN
      rename News h₀ _ _ _ => kN
      rw [cat_single] at gN kN
      subst hkq
      exact ret _ _ _ _ (by assumption) (news_hd1 kN) (Keeps.of hg (by assumption)) (Fresh.of hg (news_hd1 gN)) ⟨_, _, _, _, rfl, rfl⟩
    | cons x q2 =>
      rw [hqk, List.cons_append] at hcur
      have hlt := drop_lt hcur
      have hx9 := x.toNat_lt
      have hxm : x ∈ q := List.mem_of_mem_drop (i := k) (by rw [hqk]; exact .head _)
      have hx := List.all_eq_true.mp hw x hxm
      simp only [Bool.and_eq_true, bne_iff_ne, Bool.not_eq_true'] at hx
      have hne : ([x] != [cl0]) = true := by simp [hx.1]
      have hbar : (⟨bar⟩ : Array UInt8).contains ((x.toNat : Int)).toNat.toUInt8 = false := by
        rw [Int.toNat_natCast, show x.toNat.toUInt8 = x from UInt8.ofNat_toNat]
        simpa using hx.2
      have htk : (q.take (k + 1)).map (fun y => [y]) = (q.take k).map (fun y => [y]) ++ [[x]] := by
        rw [List.take_add_one]
        have : q[k]? = some x := by
          have := congrArg List.head? hqk
          rwa [List.head?_drop] at this
        rw [this]; simp
      have hk2 : k + 1 ≤ q.length := by
        have := congrArg List.length hqk
        rw [List.length_drop, List.length_cons] at this; omega
      k_steps
      rename News g _ _ _ => gN
      rw [BJ.bvals_snoc] at gN
      refine' ksw_endN (⟨k + 1, _, ep2 + 1, l ++ [([x], _)]⟩ : CaS) (by k_asm) (news_tl1 gN) trivial ?hk ?hr ?hp ?hm
      case hm => dsimp only; omega
      case hk => intro p hp; simp only [List.mem_cons, List.not_mem_nil, or_false] at hp; rcases hp with rfl | rfl | rfl | rfl | rfl | rfl <;> rfl
      case hr =>
        intro z hz hst
        have z1 := hz _ (.head _)
        have z2 := hz _ (.tail _ (.head _))
        have z3 := hz _ (.tail _ (.tail _ (.head _)))
        have z4 := hz _ (.tail _ (.tail _ (.tail _ (.head _))))
        have z5 := hz _ (.tail _ (.tail _ (.tail _ (.tail _ (.head _)))))
        have z6 := hz _ (.tail _ (.tail _ (.tail _ (.tail _ (.tail _ (.head _))))))
        dsimp only at z1 z2 z3 z4 z5 z6
        simp only [List.contains_cons, List.contains_nil, Bool.or_eq_false_iff, beq_eq_false_iff_ne, ne_eq] at hst
        simp [kstB, hst, z1, z2, z3, z4, z5, z6]
      case hp => exact ⟨hk2, by rw [htk, List.map_append, hl1]; rfl⟩
end part_T3

example : True := by
  k_with "call ref" => (k_here; (with_reducible show wpAny _ _ (call (Value.ref 83) _) _ _ _); k_dflt (walk_at "zz u0"; (focus exact (closed_at_c _ _ _ _ _ _ _ _ _ _ _ _ _ (by assumption) (by assumption) (by assumption) (by first | exact rfl | omega) (by assumption))); walk_at "zz u2"; intro _ _ _ _ hp' _ _ N'; (obtain ⟨_, _, _, _, rfl, rfl⟩ := hp') <;> ((try simp only [List.append_nil] at N'); revert N'; intro _; walk_at "zz end")))
  trivial
section part_T4
structure CmS where
  k : Nat
  dep : Int
  td : Tok
  tk : Tok
  ep : Nat
  l : List (List UInt8 × Tok)
theorem dep_tok {h₀ h : Heap} {L : Addr} {m : Str → Option Value} {i : Int} (_F : Fr h₀ L h m) (h : ∃ t, m "depth" = some (.int i t)) : ∃ t, m "depth" = some (.int i t) := h
theorem comment_at_c (w : World) (h : Heap) (d r q : List UInt8) (t : Tok) (i : Int) (n : Nat) (tn : Tok) (hdz : d.length < 2 ^ 16) (hok : d.all okB = true) (hdr : d.drop (n + 1) = q ++ 41 :: r) (hi : i = (n : Int))
    (hw : q.all (fun x => x != 40 && x != 41) = true) :
    Con w (Mine.hd.heap_1 w.params) 90 [.bytes ⟨d⟩ t, .int i tn] 5 h [] (fun v news' _ => ∃ a n0 t1 t2, v = .ref a ∧ news' = [(a, tup2 (.bytes ⟨q⟩ t1) (.int ((n + 1 + q.length + 1 : Nat) : Int) t2) n0)]) False := by
  subst hi
  intro prog p loose mean mg mb dp un gd cn cs a ccd cl outer A₀ base h₀ L m s Q E hh B F X N T hkf hd hu ret exc
  subst hh
  refine wpAny_call ?_
  refine' enterG (binds := [(("data" : Str), .bytes ⟨d⟩ t), (("begun" : Str), .int (n : Int) tn)]) ?k1 ?k2 ?k3 ?k4 ?k5 ?kA ?kF ?kK ?k6 ?k7 ?k8 ?k9 ?kB ?_ ?c2 ?c3 ?c4 ?c5
  case kA => exact rfl
  case kF => exact rfl
  case kK => assumption
  case k1 => k_asm
  case k2 => k_asm
  case k3 => k_asm
  case k4 => k_asm
  case k5 => k_asm
  case k6 => k_is
  case k7 => k_is
  case k8 => ktr_room
  case k9 => first | exact BindsTo.of_eq rfl | exact binds_K (by k_in) rfl (by k_is) rfl rfl rfl
  case c5 => decide
  case kB => exact locs rfl
  case c2 => exact rfl
  case c3 => exact rfl
  case c4 => exact rfl
  k_whole
  intro g L' h' hg FG F' N' B' X' T'
  try dsimp only
  try k_fold
  have hqz : q.length + 1 < 2 ^ 16 := by
    have := congrArg List.length hdr
    simp only [List.length_drop, List.length_append, List.length_cons] at this
    omega
  k_steps
  rename_i fl hq1 lq hq2 hq3 hq4 F1 N1
  obtain ⟨tk0, ht0⟩ := at_tok (i := ((n + 1 + 0 : Nat) : Int)) F1 ⟨_, rfl⟩
  obtain ⟨td0, hd0⟩ := dep_tok (i := 1) F1 ⟨_, rfl⟩
  refine Stop.mk ?_
  refine ksw_while (σ := CmS) (fun x => [(fl, lo (BJ.bvals x.l) x.ep)]) (fun x => [("data", .bytes ⟨d⟩ t), ("begun", .int (n : Int) tn), ("parts", .ref fl), ("depth", .int x.dep x.td), ("at", .int ((n + 1 + x.k : Nat) : Int) x.tk)]) (fun _ => True) ["sign", "octets"]
    (fun x => (x.k ≤ q.length ∧ x.dep = 1 ∨ x.k = q.length + 1 ∧ x.dep = 0) ∧ x.l.map (·.1) = ((q ++ [41]).take x.k).map fun y => [y]) (fun x => q.length + 1 - x.k) ⟨0, 1, td0, tk0, 0, []⟩ F1 (by assumption) trivial ?hk ?hp ?turn
  case hk => intro p hp; simp only [List.mem_cons, List.not_mem_nil, or_false] at hp; rcases hp with rfl | rfl | rfl | rfl | rfl <;> first | rfl | exact ht0 | exact hd0
  case hp => exact ⟨.inl ⟨Nat.zero_le _, rfl⟩, rfl⟩
  case turn =>
    rintro ⟨k, dep, td2, tk2, ep2, l⟩ u h2 tk3 - ⟨hk1, hl1⟩ F2 N2
    dsimp only at hk1 hl1 F2 N2 ⊢
    have hyz : (BJ.bvals l).length < 2 ^ 20 := by
      have := congrArg List.length hl1
      simp only [List.length_map, List.length_take, List.length_append, List.length_cons, List.length_nil] at this
      simp only [BJ.bvals, List.length_map]
      omega
    rcases hk1 with ⟨hk1, rfl⟩ | ⟨hk1, rfl⟩
    · have hcur : d.drop (n + 1 + k) = q.drop k ++ 41 :: r := by
        rw [← List.drop_drop, hdr, List.drop_append_of_le_length hk1]
      clear hdr
      cases hqk : q.drop k with
      | nil =>
        have hkq : k = q.length := by
          have := congrArg List.length hqk
          rw [List.length_drop, List.length_nil] at this; omega
        rw [hqk, List.nil_append] at hcur
        have hne1 : (([41] : List UInt8) == [40]) = false := by decide
        have hne2 : (([41] : List UInt8) == [41]) = true := by decide
        have htk : ((q ++ [41]).take (k + 1)).map (fun y => [y]) = ((q ++ [41]).take k).map (fun y => [y]) ++ [[41]] := by
          rw [List.take_add_one]
          have : (q ++ [41])[k]? = some 41 := by
            have := congrArg List.head? (show (q ++ [41]).drop k = _ from by rw [List.drop_append_of_le_length hk1, hqk])
            rw [List.head?_drop] at this
            rw [this]; rfl
          rw [this]; simp
        k_steps
        rename News g _ _ _ => gN
        rw [BJ.bvals_snoc] at gN
        refine' ksw_endN (⟨k + 1, 0, _, _, ep2 + 1, l ++ [([41], _)]⟩ : CmS) (by k_asm) (news_tl1 gN) trivial ?hk ?hr ?hp ?hm
        case hm => dsimp only; omega
        case hk => intro p hp; simp only [List.mem_cons, List.not_mem_nil, or_false] at hp; rcases hp with rfl | rfl | rfl | rfl | rfl <;> rfl
        case hr =>
          intro z hz hst
          have z1 := hz _ (.head _)
          have z2 := hz _ (.tail _ (.head _))
          have z3 := hz _ (.tail _ (.tail _ (.head _)))
          have z4 := hz _ (.tail _ (.tail _ (.tail _ (.head _))))
          have z5 := hz _ (.tail _ (.tail _ (.tail _ (.tail _ (.head _)))))
          dsimp only at z1 z2 z3 z4 z5
          simp only [List.contains_cons, List.contains_nil, Bool.or_eq_false_iff, beq_eq_false_iff_ne, ne_eq] at hst
          simp [kstB, hst, z1, z2, z3, z4, z5]
        case hp => exact ⟨.inr ⟨by dsimp only; omega, rfl⟩, by rw [htk, List.map_append, hl1]; rfl⟩
      | cons x q2 =>
        rw [hqk, List.cons_append] at hcur
        have hlt := drop_lt hcur
        have hx9 := x.toNat_lt
        have hxm : x ∈ q := List.mem_of_mem_drop (i := k) (by rw [hqk]; exact .head _)
        have hx := List.all_eq_true.mp hw x hxm
        simp only [Bool.and_eq_true, bne_iff_ne] at hx
        have hne1 : ([x] == [40]) = false := by simp [hx.1]
        have hne2 : ([x] == [41]) = false := by simp [hx.2]
        have hk2 : k + 1 ≤ q.length := by
          have := congrArg List.length hqk
          rw [List.length_drop, List.length_cons] at this; omega
        have htk : ((q ++ [41]).take (k + 1)).map (fun y => [y]) = ((q ++ [41]).take k).map (fun y => [y]) ++ [[x]] := by
          rw [List.take_add_one]
          have : (q ++ [41])[k]? = some x := by
            have := congrArg List.head? (show (q ++ [41]).drop k = _ from by rw [List.drop_append_of_le_length hk1, hqk])
            rw [List.head?_drop] at this
            rw [this]; rfl
          rw [this]; simp
        k_steps
        rename News g _ _ _ => gN
        rw [BJ.bvals_snoc] at gN
        refine' ksw_endN (⟨k + 1, 1, _, _, ep2 + 1, l ++ [([x], _)]⟩ : CmS) (by k_asm) (news_tl1 gN) trivial ?hk ?hr ?hp ?hm
        case hm => dsimp only; omega
        case hk => intro p hp; simp only [List.mem_cons, List.not_mem_nil, or_false] at hp; rcases hp with rfl | rfl | rfl | rfl | rfl <;> rfl
        case hr =>
          intro z hz hst
          have z1 := hz _ (.head _)
          have z2 := hz _ (.tail _ (.head _))
          have z3 := hz _ (.tail _ (.tail _ (.head _)))
          have z4 := hz _ (.tail _ (.tail _ (.tail _ (.head _))))
          have z5 := hz _ (.tail _ (.tail _ (.tail _ (.tail _ (.head _)))))
          dsimp only at z1 z2 z3 z4 z5
          simp only [List.contains_cons, List.contains_nil, Bool.or_eq_false_iff, beq_eq_false_iff_ne, ne_eq] at hst
          simp [kstB, hst, z1, z2, z3, z4, z5]
        case hp => exact ⟨.inl ⟨hk2, rfl⟩, by rw [htk, List.map_append, hl1]; rfl⟩
    · k_steps
      rename News g _ _ _ => NX
      dsimp only at NX
      rw [show ((-1 : Int)) = -((1 : Nat) : Int) from rfl, slicePick_butLast _ 1 (Nat.le_refl 1)] at NX
      have hlen : l.length = q.length + 1 := by
        have := congrArg List.length hl1
        simp only [List.length_map, List.length_take, List.length_append, List.length_cons, List.length_nil] at this
        omega
      have hz : (BJ.catB [] (q.map fun y => [y])).length ≤ 16777216 := by rw [cat_single]; omega
      have hl3 : (l.take q.length).map (·.1) = q.map fun y => [y] := by
        rw [List.map_take, hl1, hk1, ← List.map_take, List.take_take, Nat.min_eq_left (Nat.le_succ _), List.take_append_of_le_length (Nat.le_refl _), List.take_length]
      have hv : ((BJ.bvals l).toArray.toList.take ((BJ.bvals l).toArray.size - 1)).toArray = (BJ.bvals (l.take q.length)).toArray := by
        show (List.take ((BJ.bvals l).length - 1) (BJ.bvals l)).toArray = _
        congr 1
        simp only [BJ.bvals, List.length_map, hlen, Nat.add_sub_cancel, List.map_take]
      rw [hv] at NX
      refine BJ.join ⟨_, (NX _ (.head _)).1, rfl, _, rfl⟩ hl3 hz fun t' k' => ?_
      k_steps
      rename News g _ _ _ => gN
      rename News h₀ _ _ _ => kN
      rw [cat_single] at gN kN
      subst hk1
      exact ret _ _ _ _ (by assumption) (news_hd1 kN) (Keeps.of hg (by assumption)) (Fresh.of hg (news_hd1 gN)) ⟨_, _, _, _, rfl, rfl⟩
end part_T4
theorem is_atom_b (w : World) (h : Heap) (x : UInt8) (t : Tok) (b : Bool) (hb : atomU x = b) :
    Con w (Mine.hd.heap_1 w.params) 62 [.int (x.toNat : Int) t] 2 h [] (fun v news' _ => v = .bool b ∧ news' = []) False := hb ▸ is_atom_c w h x t
example : True := by
  k_with "call ref" => (k_here; (with_reducible show wpAny _ _ (call (Value.ref 62) _) _ _ _); k_dflt (walk_at "zz u0"; (focus exact (is_atom_b _ _ _ _ _ (by first | assumption | exact rfl))); walk_at "zz u2"; intro _ _ _ _ hp' _ _ N'; (obtain ⟨rfl, rfl⟩ := hp') <;> ((try simp only [List.append_nil] at N'); revert N'; intro _; walk_at "zz end")))
  trivial
example : True := by
  k_with "call ref" => (k_here; (with_reducible show wpAny _ _ (call (Value.ref 90) _) _ _ _); k_dflt (walk_at "zz u0"; (focus exact (comment_at_c _ _ _ _ _ _ _ _ _ (by assumption) (by assumption) (by assumption) (by first | exact rfl | omega) (by assumption))); walk_at "zz u2"; intro _ _ _ _ hp' _ _ N'; (obtain ⟨_, _, _, _, rfl, rfl⟩ := hp') <;> ((try simp only [List.append_nil] at N'); revert N'; intro _; walk_at "zz end")))
  trivial
section part_T5
structure AaS where
  k : Nat
  tk : Tok
theorem end_tok {h₀ h : Heap} {L : Addr} {m : Str → Option Value} {i : Int} (_F : Fr h₀ L h m) (h : ∃ t, m "end" = some (.int i t)) : ∃ t, m "end" = some (.int i t) := h
def notHd (p : UInt8 → Bool) : List UInt8 → Bool
  | [] => true
  | c :: _ => !p c
theorem atom_at_c (w : World) (h : Heap) (d r q : List UInt8) (t : Tok) (i : Int) (n : Nat) (tn : Tok) (hdz : d.length < 2 ^ 16) (hdr : d.drop n = q ++ r) (hi : i = (n : Int)) (hw : q.all atomU = true) (hr : notHd atomU r = true) :
    Con w (Mine.hd.heap_1 w.params) 97 [.bytes ⟨d⟩ t, .int i tn] 5 h [] (fun v news' _ => ∃ a n0 t1 t2, v = .ref a ∧ news' = [(a, tup2 (.bytes ⟨q⟩ t1) (.int ((n + q.length : Nat) : Int) t2) n0)]) False := by
  subst hi
  intro prog p loose mean mg mb dp un gd cn cs a ccd cl outer A₀ base h₀ L m s Q E hh B F X N T hkf hd hu ret exc
  subst hh
  refine wpAny_call ?_
  refine' enterG (binds := [(("data" : Str), .bytes ⟨d⟩ t), (("at" : Str), .int (n : Int) tn)]) ?k1 ?k2 ?k3 ?k4 ?k5 ?kA ?kF ?kK ?k6 ?k7 ?k8 ?k9 ?kB ?_ ?c2 ?c3 ?c4 ?c5
  case kA => exact rfl
  case kF => exact rfl
  case kK => assumption
  case k1 => k_asm
  case k2 => k_asm
  case k3 => k_asm
  case k4 => k_asm
  case k5 => k_asm
  case k6 => k_is
  case k7 => k_is
  case k8 => ktr_room
  case k9 => first | exact BindsTo.of_eq rfl | exact binds_K (by k_in) rfl (by k_is) rfl rfl rfl
  case c5 => decide
  case kB => exact locs rfl
  case c2 => exact rfl
  case c3 => exact rfl
  case c4 => exact rfl
  k_whole
  intro g L' h' hg FG F' N' B' X' T'
  try dsimp only
  try k_fold
  have hdl : d.length - n = q.length + r.length := by
    have := congrArg List.length hdr
    simpa only [List.length_drop, List.length_append] using this
  k_steps
  rename Fr g L' _ _ => F1
  rename News g L' _ _ => N1
  refine Stop.mk ?_
  refine ksw_while (σ := AaS) (fun x => []) (fun x => [("data", .bytes ⟨d⟩ t), ("at", .int (n : Int) tn), ("end", .int ((n + x.k : Nat) : Int) x.tk)]) (fun _ => True) []
    (fun x => x.k ≤ q.length) (fun x => q.length - x.k) ⟨0, tn⟩ F1 (by assumption) trivial ?hk ?hp ?turn
  case hk => intro p hp; simp only [List.mem_cons, List.not_mem_nil, or_false] at hp; rcases hp with rfl | rfl | rfl <;> rfl
  case hp => exact Nat.zero_le _
  case turn =>
    rintro ⟨k, tk2⟩ u h2 tk3 - hk1 F2 N2
    dsimp only at hk1 F2 N2 ⊢
    have hcur : d.drop (n + k) = q.drop k ++ r := by
      rw [← List.drop_drop, hdr, List.drop_append_of_le_length hk1]
    cases hqk : q.drop k with
    | nil =>
      have hkq : k = q.length := by
        have := congrArg List.length hqk
        rw [List.length_drop, List.length_nil] at this; omega
      rw [hqk, List.nil_append] at hcur
      subst hkq
      have htq : (q ++ r).take q.length = q := by rw [List.take_append_of_le_length (Nat.le_refl _), List.take_length]
      cases r with
      | nil =>
        have hge : ¬ (n + q.length < d.length) := by rw [List.length_nil] at hdl; omega
        clear hcur
        k_steps
        rename News g _ _ _ => gN
        rename News h₀ _ _ _ => kN
        rw [htq] at gN kN
        exact ret _ _ _ _ (by assumption) (news_hd1 kN) (Keeps.of hg (by assumption)) (Fresh.of hg (news_hd1 gN)) ⟨_, _, _, _, rfl, rfl⟩
      | cons x r2 =>
        have hlt := drop_lt hcur
        have hx9 := x.toNat_lt
        have hx : atomU x = false := by simpa [notHd] using hr
        k_steps
        rename News g _ _ _ => gN
        rename News h₀ _ _ _ => kN
        rw [htq] at gN kN
        exact ret _ _ _ _ (by assumption) (news_hd1 kN) (Keeps.of hg (by assumption)) (Fresh.of hg (news_hd1 gN)) ⟨_, _, _, _, rfl, rfl⟩
    | cons x q2 =>
      rw [hqk, List.cons_append] at hcur
      have hlt := drop_lt hcur
      have hx9 := x.toNat_lt
      have hxm : x ∈ q := List.mem_of_mem_drop (i := k) (by rw [hqk]; exact .head _)
      have hx := List.all_eq_true.mp hw x hxm
      have hk2 : k + 1 ≤ q.length := by
        have := congrArg List.length hqk
        rw [List.length_drop, List.length_cons] at this; omega
      k_steps
      refine' ksw_endN (⟨k + 1, _⟩ : AaS) (by k_asm) (by assumption) trivial ?hk ?hr ?hp ?hm
      case hm => dsimp only; omega
      case hk => intro p hp; simp only [List.mem_cons, List.not_mem_nil, or_false] at hp; rcases hp with rfl | rfl | rfl <;> rfl
      case hr =>
        intro z hz hst
        have z1 := hz _ (.head _)
        have z2 := hz _ (.tail _ (.head _))
        have z3 := hz _ (.tail _ (.tail _ (.head _)))
        dsimp only at z1 z2 z3
        simp [kstB, z1, z2, z3]
      case hp => exact hk2
example : True := by
  k_with "LeaveK" => (k_here; k_dflt (apply leave_none; (case hg => assumption); (case ret => assumption); (case F' => k_asm); (case' hp => skip)))
  trivial
theorem past_white_c (w : World) (h : Heap) (d r q : List UInt8) (t : Tok) (i : Int) (n : Nat) (tn : Tok) (hdz : d.length < 2 ^ 16) (hok : d.all okB = true) (hdr : d.drop n = q ++ r) (hi : i = (n : Int)) (hw : q.all (· == 32) = true) (hr : notHd (· == 32) r = true) :
    Con w (Mine.hd.heap_1 w.params) 111 [.bytes ⟨d⟩ t, .int i tn] 5 h [] (fun v news' _ => (∃ t2, v = .int ((n + q.length : Nat) : Int) t2) ∧ news' = []) False := by
  subst hi
  intro prog p loose mean mg mb dp un gd cn cs a ccd cl outer A₀ base h₀ L m s Q E hh B F X N T hkf hd hu ret exc
  subst hh
  refine wpAny_call ?_
  refine' enterG (binds := [(("data" : Str), .bytes ⟨d⟩ t), (("at" : Str), .int (n : Int) tn)]) ?k1 ?k2 ?k3 ?k4 ?k5 ?kA ?kF ?kK ?k6 ?k7 ?k8 ?k9 ?kB ?_ ?c2 ?c3 ?c4 ?c5
  case kA => exact rfl
  case kF => exact rfl
  case kK => assumption
  case k1 => k_asm
  case k2 => k_asm
  case k3 => k_asm
  case k4 => k_asm
  case k5 => k_asm
  case k6 => k_is
  case k7 => k_is
  case k8 => ktr_room
  case k9 => first | exact BindsTo.of_eq rfl | exact binds_K (by k_in) rfl (by k_is) rfl rfl rfl
  case c5 => decide
  case kB => exact locs rfl
  case c2 => exact rfl
  case c3 => exact rfl
  case c4 => exact rfl
  k_whole
  intro g L' h' hg FG F' N' B' X' T'
  try dsimp only
  try k_fold
  have hdl : d.length - n = q.length + r.length := by
    have := congrArg List.length hdr
    simpa only [List.length_drop, List.length_append] using this
  refine Stop.mk ?_
  refine wpAny_execs_cons ?_
  refine ksw_while (σ := AaS) (fun x => []) (fun x => [("data", .bytes ⟨d⟩ t), ("at", .int ((n + x.k : Nat) : Int) x.tk)]) (fun _ => True) ["behind"]
    (fun x => x.k ≤ q.length) (fun x => q.length - x.k) ⟨0, tn⟩ F' (by assumption) trivial ?hk ?hp ?turn
  case hk => intro p hp; simp only [List.mem_cons, List.not_mem_nil, or_false] at hp; rcases hp with rfl | rfl <;> rfl
  case hp => exact Nat.zero_le _
  case turn =>
    rintro ⟨k, tk2⟩ u h2 tk3 - hk1 F2 N2
    dsimp only at hk1 F2 N2 ⊢
    have hcur : d.drop (n + k) = q.drop k ++ r := by
      rw [← List.drop_drop, hdr, List.drop_append_of_le_length hk1]
    cases hqk : q.drop k with
    | nil =>
      have hkq : k = q.length := by
        have := congrArg List.length hqk
        rw [List.length_drop, List.length_nil] at this; omega
      rw [hqk, List.nil_append] at hcur
      subst hkq
      cases r with
      | nil =>
        have hge : ¬ (n + q.length < d.length) := by rw [List.length_nil] at hdl; omega
        clear hcur
        k_steps
        exact Hold.mk ⟨⟨_, rfl⟩, rfl⟩
      | cons x r2 =>
        have hlt := drop_lt hcur
        have hx9 := x.toNat_lt
        have hx : x ≠ 32 := by simpa [notHd] using hr
        have hx2 := (okB_ne (okB_hd hok hcur)).2.1
        have hxn : (x.toNat : Int) ≠ 32 ∧ (x.toNat : Int) ≠ 9 := by
          refine ⟨fun e => hx ?_, fun e => hx2 ?_⟩ <;> apply UInt8.toNat.inj
          · show x.toNat = 32; omega
          · show x.toNat = 9; omega
        k_steps
        · exfalso
          first | omega | (simp only [List.any_cons, List.any_nil, Bool.or_false, Bool.or_eq_true, decide_eq_true_eq, beq_iff_eq] at *; omega)
        · exact Hold.mk ⟨⟨_, rfl⟩, rfl⟩
    | cons x q2 =>
      rw [hqk, List.cons_append] at hcur
      have hlt := drop_lt hcur
      have hxm : x ∈ q := List.mem_of_mem_drop (i := k) (by rw [hqk]; exact .head _)
      have hx := List.all_eq_true.mp hw x hxm
      have hx : x = 32 := by simpa using hx
      subst hx
      have hk2 : k + 1 ≤ q.length := by
        have := congrArg List.length hqk
        rw [List.length_drop, List.length_cons] at this; omega
      k_steps
      refine' ksw_endN (⟨k + 1, _⟩ : AaS) (by k_asm) (fun q hq => nomatch hq) trivial ?hk ?hr ?hp ?hm
      case hm => dsimp only; omega
      case hk => intro p hp; simp only [List.mem_cons, List.not_mem_nil, or_false] at hp; rcases hp with rfl | rfl <;> rfl
      case hr =>
        intro z hz hst
        have z1 := hz _ (.head _)
        have z2 := hz _ (.tail _ (.head _))
        dsimp only at z1 z2
        simp only [List.contains_cons, List.contains_nil, Bool.or_eq_false_iff, beq_eq_false_iff_ne, ne_eq] at hst
        simp [kstB, z1, z2, hst]
      case hp => exact hk2
end part_T5
theorem atom_at_cc (w : World) (h : Heap) (d r q : List UInt8) (c : UInt8) (t : Tok) (i : Int) (n : Nat) (tn : Tok) (hdz : d.length < 2 ^ 16) (hdr : d.drop n = c :: (q ++ r)) (hi : i = (n : Int)) (hw : (c :: q).all atomU = true) (hr : notHd atomU r = true) :
    Con w (Mine.hd.heap_1 w.params) 97 [.bytes ⟨d⟩ t, .int i tn] 5 h [] (fun v news' _ => ∃ a n0 t1 t2, v = .ref a ∧ news' = [(a, tup2 (.bytes ⟨c :: q⟩ t1) (.int ((n + (c :: q).length : Nat) : Int) t2) n0)]) False :=
  atom_at_c w h d r (c :: q) t i n tn hdz hdr hi hw hr
example : True := by
  k_with "call ref" => (k_here; (with_reducible show wpAny _ _ (call (Value.ref 97) _) _ _ _); k_dflt (walk_at "zz u0"; (focus exact (atom_at_cc _ _ _ _ _ _ _ _ _ _ (by assumption) (by assumption) (by first | exact rfl | omega) (by assumption) (by assumption))); walk_at "zz u2"; intro _ _ _ _ hp' _ _ N'; (obtain ⟨_, _, _, _, rfl, rfl⟩ := hp') <;> ((try simp only [List.append_nil] at N'); revert N'; intro _; walk_at "zz end")))
  trivial
example : True := by
  k_with "call ref" => (k_here; (with_reducible show wpAny _ _ (call (Value.ref 111) _) _ _ _); k_dflt (walk_at "zz u0"; (focus exact (past_white_c _ _ _ _ _ _ _ _ _ (by assumption) (by assumption) (by assumption) (by first | exact rfl | omega) (by assumption) (by assumption))); walk_at "zz u2"; intro _ _ _ _ hp' _ _ N'; (obtain ⟨⟨_, rfl⟩, rfl⟩ := hp') <;> ((try simp only [List.append_nil] at N'); revert N'; intro _; walk_at "zz end")))
  trivial
section part_T6
abbrev SIGNS : Array UInt8 := #[60, 62, 64, 44, 59, 58, 46, 92]
theorem find_sign (c : UInt8) (h : ¬ c ∈ [(60 : UInt8), 62, 64, 44, 59, 58, 46, 92]) : (Builtin.Bytes.find? SIGNS #[c] 0 SIGNS.size).isSome = false := by
  simp only [List.mem_cons, List.not_mem_nil, or_false, not_or] at h
  obtain ⟨h1, h2, h3, h4, h5, h6, h7, h8⟩ := h
  have e : Builtin.Bytes.find? SIGNS #[c] 0 SIGNS.size = ([0, 1, 2, 3, 4, 5, 6, 7] : List Nat).find? fun i => SIGNS.extract i (i + 1) == #[c] := rfl
  rw [e]
  have x0 : (SIGNS.extract 0 (0 + 1) == #[c]) = false := by show (#[60] == #[c]) = false; simpa using Ne.symm h1
  have x1 : (SIGNS.extract 1 (1 + 1) == #[c]) = false := by show (#[62] == #[c]) = false; simpa using Ne.symm h2
  have x2 : (SIGNS.extract 2 (2 + 1) == #[c]) = false := by show (#[64] == #[c]) = false; simpa using Ne.symm h3
  have x3 : (SIGNS.extract 3 (3 + 1) == #[c]) = false := by show (#[44] == #[c]) = false; simpa using Ne.symm h4
  have x4 : (SIGNS.extract 4 (4 + 1) == #[c]) = false := by show (#[59] == #[c]) = false; simpa using Ne.symm h5
  have x5 : (SIGNS.extract 5 (5 + 1) == #[c]) = false := by show (#[58] == #[c]) = false; simpa using Ne.symm h6
  have x6 : (SIGNS.extract 6 (6 + 1) == #[c]) = false := by show (#[46] == #[c]) = false; simpa using Ne.symm h7
  have x7 : (SIGNS.extract 7 (7 + 1) == #[c]) = false := by show (#[92] == #[c]) = false; simpa using Ne.symm h8
  simp only [List.find?_cons, x0, x1, x2, x3, x4, x5, x6, x7, List.find?_nil, Option.isSome_none]
theorem news_hd2 {h₀ h : Heap} {L : Addr} {x y : Addr × Obj} {r : Led} (N : News h₀ L h (x :: y :: r)) : News h₀ L h [x, y] := fun q hq => by
  simp only [List.mem_cons, List.not_mem_nil, or_false] at hq
  rcases hq with rfl | rfl
  · exact N _ (.head _)
  · exact N _ (.tail _ (.head _))
theorem drop_over {α : Type} {d q r : List α} {x : α} {n : Nat} (h : d.drop n = q ++ x :: r) : d.drop (n + q.length + 1) = r := by
  have : d.drop (n + q.length) = x :: r := by rw [← List.drop_drop, h, List.drop_left]
  exact drop_step this
inductive OneTok : List UInt8 → Tk → List UInt8 → Prop
  | quoted (q r : List UInt8) : q.all (fun x => x != 34 && !([] : List UInt8).contains x) = true → OneTok (34 :: (q ++ 34 :: r)) ⟨.quoted, q⟩ r
  | literal (q r : List UInt8) : q.all (fun x => x != 93 && !([91] : List UInt8).contains x) = true → OneTok (91 :: (q ++ 93 :: r)) ⟨.literal, q⟩ r
  | comment (q r : List UInt8) : q.all (fun x => x != 40 && x != 41) = true → OneTok (40 :: (q ++ 41 :: r)) ⟨.comment, q⟩ r
  | sign (c : UInt8) (r : List UInt8) : c ∈ [(60 : UInt8), 62, 64, 44, 59, 58, 46] → OneTok (c :: r) ⟨.sign, [c]⟩ r
  | atom (c : UInt8) (q r : List UInt8) : (c :: q).all atomU = true → notHd atomU r = true → OneTok (c :: (q ++ r)) ⟨.atom, c :: q⟩ r
theorem leave_2 {h₀ g : Heap} {L L' : Addr} {m m' : Str → Option Value} {news rest : Led} {q1 q2 : Addr × Obj} {Q E : Value → Shared → Prop} {post : Value → Led → Heap → Prop} {s : Shared} {v : Value} {h' : Heap} {tk' : Nat}
    (hg : ∀ b o, s.heap.get? b = some o → b ∉ news.map (·.1) → g.get? b = some o)
    (ret : ∀ v news' h' tk', Fr h₀ L h' m → News h₀ L h' news' → Keeps L news s.heap h' → (∀ q ∈ news', q.1 ∈ news.map (·.1) ∨ s.heap.get? q.1 = none) → post v news' h' → Q v { s with heap := h', toks := tk' })
    (F' : Fr g L' h' m') (N' : News g L' h' (q1 :: q2 :: rest)) (hp : Hold (post v [q1, q2] h')) :
    LeaveK h₀ L m g (fun r s' => match r with | .ok (.ret v) => Q v s' | .ok _ => False | .error e => E e s') v { s with heap := h', toks := tk' } := leave_rd hg ret F' N' hp
theorem token_at_c (w : World) (h : Heap) (d inp r : List UInt8) (tk0 : Tk) (t : Tok) (i : Int) (n : Nat) (tn : Tok) (hdz : d.length < 2 ^ 16) (hok : d.all okB = true) (hdr : d.drop n = inp) (hi : i = (n : Int)) (ht : OneTok inp tk0 r) :
    Con w (Mine.hd.heap_1 w.params) 104 [.bytes ⟨d⟩ t, .int i tn] 7 h [] (fun v news' _ => ∃ a b n0 n1 j t1 t2 t3 t5, d.drop j = r ∧ v = .ref a ∧ news' = [(a, tup2 (.ref b) (.int (j : Int) t5) n0), (b, tokO tk0.k.str t1 tk0.w t2 (n : Int) t3 n1)]) False := by
  subst hi
  intro prog p loose mean mg mb dp un gd cn cs a ccd cl outer A₀ base h₀ L m s Q E hh B F X N T hkf hd hu ret exc
  subst hh
  refine wpAny_call ?_
  refine' enterG (binds := [(("data" : Str), .bytes ⟨d⟩ t), (("at" : Str), .int (n : Int) tn)]) ?k1 ?k2 ?k3 ?k4 ?k5 ?kA ?kF ?kK ?k6 ?k7 ?k8 ?k9 ?kB ?_ ?c2 ?c3 ?c4 ?c5
  case kA => exact rfl
  case kF => exact rfl
  case kK => assumption
  case k1 => k_asm
  case k2 => k_asm
  case k3 => k_asm
  case k4 => k_asm
  case k5 => k_asm
  case k6 => k_is
  case k7 => k_is
  case k8 => ktr_room
  case k9 => first | exact BindsTo.of_eq rfl | exact binds_K (by k_in) rfl (by k_is) rfl rfl rfl
  case c5 => decide
  case kB => exact locs rfl
  case c2 => exact rfl
  case c3 => exact rfl
  case c4 => exact rfl
  k_whole
  intro g L' h' hg FG F' N' B' X' T'
  try dsimp only
  try k_fold
  have hdr0 := hdr
  cases ht with
  | quoted q r hq =>
    have hdr1 : d.drop (n + 1) = q ++ 34 :: r := drop_step hdr
    have h1 : (([34] : List UInt8) == [34]) = true := by decide
    k_steps
    rename News g _ _ _ => gN
    rename News h₀ _ _ _ => kN
    exact ret _ _ _ _ (by assumption) (news_hd2 kN) (Keeps.of hg (by assumption)) (Fresh.of hg (news_hd2 gN)) ⟨_, _, _, _, _, _, _, _, _, drop_over hdr1, rfl, rfl⟩
  | literal q r hq =>
    have hdr1 : d.drop (n + 1) = q ++ 93 :: r := drop_step hdr
    have h1 : (([91] : List UInt8) == [34]) = false := by decide
    have h2 : (([91] : List UInt8) == [91]) = true := by decide
    k_steps
    rename News g _ _ _ => gN
    rename News h₀ _ _ _ => kN
    exact ret _ _ _ _ (by assumption) (news_hd2 kN) (Keeps.of hg (by assumption)) (Fresh.of hg (news_hd2 gN)) ⟨_, _, _, _, _, _, _, _, _, drop_over hdr1, rfl, rfl⟩
  | comment q r hq =>
    have hdr1 : d.drop (n + 1) = q ++ 41 :: r := drop_step hdr
    have h1 : (([40] : List UInt8) == [34]) = false := by decide
    have h2 : (([40] : List UInt8) == [91]) = false := by decide
    have h3 : (([40] : List UInt8) == [40]) = true := by decide
    k_steps
    rename News g _ _ _ => gN
    rename News h₀ _ _ _ => kN
    exact ret _ _ _ _ (by assumption) (news_hd2 kN) (Keeps.of hg (by assumption)) (Fresh.of hg (news_hd2 gN)) ⟨_, _, _, _, _, _, _, _, _, drop_over hdr1, rfl, rfl⟩
  | sign c r hc =>
    have h1 : ([c] == [34]) = false := by simp only [List.mem_cons, List.not_mem_nil, or_false] at hc; rcases hc with rfl | rfl | rfl | rfl | rfl | rfl | rfl <;> decide
    have h2 : ([c] == [91]) = false := by simp only [List.mem_cons, List.not_mem_nil, or_false] at hc; rcases hc with rfl | rfl | rfl | rfl | rfl | rfl | rfl <;> decide
    have h3 : ([c] == [40]) = false := by simp only [List.mem_cons, List.not_mem_nil, or_false] at hc; rcases hc with rfl | rfl | rfl | rfl | rfl | rfl | rfl <;> decide
    have h4 : (Builtin.Bytes.find? SIGNS #[c] 0 SIGNS.size).isSome = true := by simp only [List.mem_cons, List.not_mem_nil, or_false] at hc; rcases hc with rfl | rfl | rfl | rfl | rfl | rfl | rfl <;> decide
    k_steps
    rename News g _ _ _ => gN
    rename News h₀ _ _ _ => kN
    exact ret _ _ _ _ (by assumption) (news_hd2 kN) (Keeps.of hg (by assumption)) (Fresh.of hg (news_hd2 gN)) ⟨_, _, _, _, _, _, _, _, _, drop_step hdr0, rfl, rfl⟩
  | atom c q r hq hr =>
    have hdr1 : d.drop n = (c :: q) ++ r := hdr
    have hca : atomU c = true := List.all_eq_true.mp hq c (.head _)
    have hnot : ∀ x : UInt8, atomU x = false → c ≠ x := fun x hx e => by rw [e, hx] at hca; cases hca
    have h1 : ([c] == [34]) = false := by simpa using hnot 34 (by decide +kernel)
    have h2 : ([c] == [91]) = false := by simpa using hnot 91 (by decide +kernel)
    have h3 : ([c] == [40]) = false := by simpa using hnot 40 (by decide +kernel)
    have h4 : (Builtin.Bytes.find? SIGNS #[c] 0 SIGNS.size).isSome = false := find_sign c (by
      intro hm
      simp only [List.mem_cons, List.not_mem_nil, or_false] at hm
      rcases hm with rfl | rfl | rfl | rfl | rfl | rfl | rfl | rfl <;> exact absurd hca (by decide +kernel))
    k_steps
    rename News g _ _ _ => gN
    rename News h₀ _ _ _ => kN
    exact ret _ _ _ _ (by assumption) (news_hd2 kN) (Keeps.of hg (by assumption)) (Fresh.of hg (news_hd2 gN)) ⟨_, _, _, _, _, _, _, _, _, (by rw [← List.drop_drop, hdr1]; exact List.drop_left (l₁ := c :: q)), rfl, rfl⟩
end part_T6

example : True := by
  k_with "call ref" => (k_here; (with_reducible show wpAny _ _ (call (Value.ref 104) _) _ _ _); k_dflt (walk_at "zz u0"; (focus exact (token_at_c _ _ _ _ _ _ _ _ _ _ (by assumption) (by assumption) (by assumption) (by first | exact rfl | omega) (by assumption))); walk_at "zz u2"; intro _ _ _ _ hp' _ _ N'; (obtain ⟨_, _, _, _, _, _, _, _, _, _, rfl, rfl⟩ := hp') <;> ((try simp only [List.append_nil] at N'); revert N'; intro _; walk_at "zz end")))
  trivial
section part_T7
example : True := by
  k_with "LeaveK" => (k_here; k_dflt (apply leave_con; (case hg => assumption); (case ret => assumption); (case F' => k_asm); (case N' => k_asm); (case' hp => skip)))
  trivial
inductive LexT : List UInt8 → List Tk → Prop
  | nil : LexT [] []
  | cons {inp q inp' : List UInt8} {t : Tk} {ts : List Tk} : OneTok inp t (q ++ inp') → q.all (· == 32) = true → notHd (· == 32) inp' = true → LexT inp' ts → LexT inp (t :: ts)
def Lex (d : List UInt8) (ts : List Tk) : Prop := ∃ q inp, d = q ++ inp ∧ q.all (· == 32) = true ∧ notHd (· == 32) inp = true ∧ LexT inp ts
def TokLed (tups : Led) (v : Value) (t : Tk) : Prop := ∃ a t1 t2 i t3 n, v = .ref a ∧ (0 : Int) ≤ i ∧ (a, tokO t.k.str t1 t.w t2 i t3 n) ∈ tups
theorem TokLed.mono {l1 l2 : Led} {v : Value} {t : Tk} (h : ∀ q ∈ l1, q ∈ l2) (H : TokLed l1 v t) : TokLed l2 v t :=
  let ⟨a, t1, t2, i, t3, n, e, hi, ho⟩ := H; ⟨a, t1, t2, i, t3, n, e, hi, h _ ho⟩
def AllTup (tups : Led) : Prop := ∀ q ∈ tups, q.2.cls = .type "tuple"
theorem AllTup.cons {q : Addr × Obj} {r : Led} (h : q.2.cls = .type "tuple") (H : AllTup r) : AllTup (q :: r) := fun x hx => by
  rcases List.mem_cons.mp hx with rfl | hx
  · exact h
  · exact H x hx
theorem OneTok.lt {inp r : List UInt8} {t : Tk} (H : OneTok inp t r) : r.length < inp.length := by
  cases H <;> simp only [List.length_cons, List.length_append] <;> omega
theorem news_swap {h₀ h : Heap} {L : Addr} {x y : Addr × Obj} {r : Led} (N : News h₀ L h (x :: y :: r)) : News h₀ L h (y :: x :: r) := fun q hq => N q (by
  simp only [List.mem_cons] at hq ⊢
  rcases hq with h | h | h
  · exact .inr (.inl h)
  · exact .inl h
  · exact .inr (.inr h))
structure TsS where
  n : Nat
  tk : Tok
  inp : List UInt8
  rem : List Tk
  ys : List Value
  ep : Nat
  tups : Led
  acc : List Tk
theorem tokens_of_c (w : World) (h : Heap) (d : List UInt8) (toks : List Tk) (t : Tok) (hdz : d.length < 2 ^ 16) (hok : d.all okB = true) (hlex : Lex d toks) :
    Con w (Mine.hd.heap_1 w.params) 118 [.bytes ⟨d⟩ t] 8 h [] (fun v news' _ => ∃ fl ys ep tups, v = .ref fl ∧ news' = (fl, lo ys ep) :: tups ∧ All2 (TokLed tups) ys toks ∧ OffL fl tups ∧ AllTup tups) False := by
  intro prog p loose mean mg mb dp un gd cn cs a ccd cl outer A₀ base h₀ L m s Q E hh B F X N T hkf hd hu ret exc
  subst hh
  refine wpAny_call ?_
  refine' enterG (binds := [(("octets" : Str), .bytes ⟨d⟩ t)]) ?k1 ?k2 ?k3 ?k4 ?k5 ?kA ?kF ?kK ?k6 ?k7 ?k8 ?k9 ?kB ?_ ?c2 ?c3 ?c4 ?c5
  case kA => exact rfl
  case kF => exact rfl
  case kK => assumption
  case k1 => k_asm
  case k2 => k_asm
  case k3 => k_asm
  case k4 => k_asm
  case k5 => k_asm
  case k6 => k_is
  case k7 => k_is
  case k8 => ktr_room
  case k9 => first | exact BindsTo.of_eq rfl | exact binds_K (by k_in) rfl (by k_is) rfl rfl rfl
  case c5 => decide
  case kB => exact locs rfl
  case c2 => exact rfl
  case c3 => exact rfl
  case c4 => exact rfl
  k_whole
  intro g L' h' hg FG F' N' B' X' T'
  try dsimp only
  try k_fold
  obtain ⟨q0, inp0, hd0, hq0, hn0, hl0⟩ := hlex
  have hdr0 : d.drop 0 = q0 ++ inp0 := hd0
  k_steps
  rename_i fl h5 l1 h6 tk8 h7 tk9 pt1 fr1 h8 F1 N1
  obtain ⟨tk0, ht0⟩ := at_tok (i := ((0 + q0.length : Nat) : Int)) F1 ⟨_, rfl⟩
  refine Stop.mk ?_
  refine ksw_while (σ := TsS) (fun x => (fl, lo x.ys x.ep) :: x.tups) (fun x => [("octets", .bytes ⟨d⟩ t), ("found", .ref fl), ("at", .int (x.n : Int) x.tk)]) (fun _ => True) ["token"]
    (fun x => d.drop x.n = x.inp ∧ LexT x.inp x.rem ∧ toks = x.acc ++ x.rem ∧ All2 (TokLed x.tups) x.ys x.acc ∧ x.ys.length + x.inp.length ≤ d.length ∧ OffL fl x.tups ∧ AllTup x.tups) (fun x => x.inp.length) ⟨0 + q0.length, tk0, inp0, toks, [], 0, [], []⟩ F1 N1 trivial ?hk ?hp ?turn
  case hk => intro p hp; simp only [List.mem_cons, List.not_mem_nil, or_false] at hp; rcases hp with rfl | rfl | rfl <;> first | rfl | exact ht0
  case hp => exact ⟨by rw [Nat.zero_add, hd0]; exact List.drop_left, hl0, rfl, trivial, by rw [hd0]; simp, .nil, fun _ h => nomatch h⟩
  case turn =>
    rintro ⟨n, tk2, inp, rem, ys, ep2, tups, acc⟩ u h2 tk3 - ⟨hcur, hl1, ha1, hA1, hz1, hL1, hU1⟩ F2 N2
    clear hdr0
    dsimp only at hcur hl1 ha1 hA1 hz1 hL1 hU1 F2 N2 ⊢
    have hyz : ys.length < 2 ^ 20 := by omega
    cases hl1 with
    | nil =>
      have hge : ¬ (n < d.length) := by
        have := congrArg List.length hcur
        rw [List.length_drop, List.length_nil] at this; omega
      rw [List.append_nil] at ha1
      subst ha1
      k_steps
      exact Hold.mk ⟨_, _, _, _, rfl, rfl, hA1, hL1, hU1⟩
    | @cons _ q inp' t0 ts' h1 hq hn hl2 =>
      have hlt : n < d.length := by
        have := congrArg List.length hcur
        have h3 := h1.lt
        rw [List.length_drop] at this; omega
      have h1l := h1.lt
      rw [List.length_append] at h1l
      k_steps
      rename News g _ _ _ => gN
      rename List.drop _ d = q ++ inp' => hd9
      refine' ksw_endN (⟨_ + q.length, _, inp', ts', ys ++ [_], ep2 + 1, _ :: tups, acc ++ [t0]⟩ : TsS) (by k_asm) (news_swap (news_tl1 gN)) trivial ?hk ?hr ?hp ?hm
      case hm => dsimp only; omega
      case hk => intro p hp; simp only [List.mem_cons, List.not_mem_nil, or_false] at hp; rcases hp with rfl | rfl | rfl <;> rfl
      case hr =>
        intro z hz hst
        have z1 := hz _ (.head _)
        have z2 := hz _ (.tail _ (.head _))
        have z3 := hz _ (.tail _ (.tail _ (.head _)))
        dsimp only at z1 z2 z3
        simp only [List.contains_cons, List.contains_nil, Bool.or_eq_false_iff, beq_eq_false_iff_ne, ne_eq] at hst
        simp [kstB, z1, z2, z3, hst]
      case hp =>
        refine ⟨by rw [← List.drop_drop, hd9]; exact List.drop_left, hl2, by rw [ha1, List.append_assoc]; rfl, All2.snoc ⟨_, _, _, _, _, _, rfl, Int.natCast_nonneg _, .head _⟩ (hA1.mono fun _ _ z => z.mono fun q hq => .tail _ hq), ?_, .cls rfl hL1, hU1.cons rfl⟩
        simp only [List.length_append, List.length_cons, List.length_nil]
        omega
end part_T7
def LedTL (all : Led) (l : Addr) (ts : List Tk) : Prop := ∃ ys ep, (l, lo ys ep) ∈ all ∧ (ts.length < 2 ^ 16 ∧ (wcat ts).length < 2 ^ 16) ∧ All2 (TokLed all) ys ts
theorem LedTL.mono {a b : Led} {l : Addr} {ts : List Tk} (h : ∀ q ∈ a, q ∈ b) (H : LedTL a l ts) : LedTL b l ts :=
  let ⟨ys, ep, h1, h2, h3⟩ := H; ⟨ys, ep, h _ h1, h2, h3.mono fun _ _ z => z.mono h⟩
theorem LedTL.cons {a : Led} {q : Addr × Obj} {l : Addr} {ts : List Tk} (H : LedTL a l ts) : LedTL (q :: a) l ts := H.mono fun _ h => .tail _ h
theorem LedTL.appR {a b : Led} {l : Addr} {ts : List Tk} (H : LedTL b l ts) : LedTL (a ++ b) l ts := H.mono fun _ h => List.mem_append_right _ h
theorem LedTL.tl {all : Led} {l : Addr} {ts : List Tk} {h₀ h : Heap} {L : Addr} (H : LedTL all l ts) (N : News h₀ L h all) : TL h l ts := by
  obtain ⟨ys, ep, h1, h2, h3⟩ := H
  have hl := h3.length
  refine ⟨ys.toArray, ep, (N _ h1).1, ⟨?_, h2.2⟩, h3.mono fun v t z => ?_⟩
  · have := h2.1; show ys.length < _; omega
  · obtain ⟨a, t1, t2, i, t3, n, e, hi, ho⟩ := z
    exact ⟨a, t1, t2, i, t3, n, e, hi, (N _ ho).1⟩
theorem AllTup.off {c : RdC} {tups : Led} (H : AllTup tups) : Off c tups := fun q hq => .inr (by
  have := H q hq
  unfold okCls; rw [this]; rfl)
theorem All2.selG {α : Type} {R : Value → Tk → Prop} : ∀ {vs : List Value} {ts : List Tk}, All2 R vs ts → All2 R (selBy ts vs) (noCom ts)
  | [], [], _ => trivial
  | v :: vs, t :: ts, q => by
    unfold noCom
    rw [List.filter_cons, selBy]
    cases hk : t.k == .comment with
    | true => simp; exact All2.selG (α := α) q.2
    | false => simp; exact ⟨q.1, All2.selG (α := α) q.2⟩
  | [], _ :: _, q => q.elim
  | _ :: _, [], q => q.elim
theorem noCom_len (ts : List Tk) : (noCom ts).length ≤ ts.length := List.length_filter_le _ _
theorem noCom_wcat : ∀ (ts : List Tk), (wcat (noCom ts)).length ≤ (wcat ts).length
  | [] => Nat.le_refl _
  | t :: ts => by
    have ih := noCom_wcat ts
    unfold noCom at ih ⊢
    rw [List.filter_cons]
    split
    · rw [wcat_cons, wcat_cons, List.length_append, List.length_append]; omega
    · rw [wcat_cons, List.length_append]; omega
section
variable {prog : Program} {w : World} {p : Program} {loose : List Str} {mean : ExcName → Option Value} {mg mb : Str → Option Value}
    {dp un : Nat} {gd : Option (List Code)} {cn : Str} {cs : Scope} {a : Addr} {ccd : Value} {cl : List (Str × Addr)} {outer : List Env} {A₀ : Around} {base h₀ : Heap} {L : Addr} {m : Str → Option Value} {s : Shared} {Q E : Value → Shared → Prop} {all : Led} {c : RdC} {pos : Nat} {tk : Tok} {rest : Led} {ts : List Tk}
theorem rd_useL {f : Addr} {args : List Value} {need : Nat} {post : Value → Led → Heap → Prop} {rz : Prop} {K : Frag}
    (B : Below A₀ base outer h₀) (F : Fr h₀ L s.heap m) (X : K.In h₀) (N : News h₀ L s.heap ((c.r, instObj 262 c.d) :: (c.d, rdDict w.params c pos tk) :: rest)) (T : Top p loose mean mg mb h₀)
    (hts : LedTL rest c.l ts) (C : TL s.heap c.l ts → (∀ b o, h₀.get? b = some o → s.heap.get? b = some o) → Con w K f args need s.heap (rdL w.params c pos tk) post rz)
    (hk : cs.kind = .function) (hd : dp + need < recursionLimit) (hu : un + 8 * need < cLine) (ha : Off c rest)
    (k : ∀ v news' h' tk', post v news' h' → (∀ q ∈ news', q.1 ∈ (rdL w.params c pos tk).map (·.1) ∨ s.heap.get? q.1 = none) → Fr h₀ L h' m → News h₀ L h' (news' ++ rest) → Q v { s with heap := h', toks := tk' })
    (e : ∀ e t vs G h' tk', rz → Fr h₀ L G m → RaisedS base G (envX cn cs L a ccd cl :: outer) e (.ref 52) t vs [] h' → G.UpToSlots h' → E (.ref e) { s with heap := h', toks := tk' }) :
    wpAny (model prog w) (ktrTop dp un gd cn cs L a ccd cl outer) (call (.ref f) args) Q E s :=
  Con.use rest (C (hts.tl (h₀ := h₀) (L := L) fun q hq => N q (.tail _ (.tail _ hq))) F.keep) B F X N T hk hd hu rd_sub (rd_rest (P := w.params) (pos := pos) (tk := tk) (ha.apart N rd_sub (fun q hq => .tail _ (.tail _ hq)))) k e
theorem use_wcL {l : Addr} {ts : List Tk} (B : Below A₀ base outer h₀) (F : Fr h₀ L s.heap m) (X : (Mine.hd.heap_1 w.params).In h₀) (N : News h₀ L s.heap all) (T : Top p loose mean mg mb h₀)
    (hk : cs.kind = .function) (hd : dp + 2 < recursionLimit) (hu : un + 8 * 2 < cLine) (hts : LedTL all l ts)
    (k : ∀ lw ys ep h' tk', LedTL ((lw, lo ys ep) :: all) lw (noCom ts) → Fr h₀ L h' m → News h₀ L h' ((lw, lo ys ep) :: all) → Q (.ref lw) { s with heap := h', toks := tk' }) :
    wpAny (model prog w) (ktrTop dp un gd cn cs L a ccd cl outer) (call (.ref 123) [.ref l]) Q E s :=
  Con.use all (without_comments_c w s.heap l ts (hts.tl N)) B F X N T hk hd hu (fun _ h => nomatch h) (fun q hq => ⟨hq, fun h => nomatch h⟩) (fun v news' h' tk' hp fr F' N' => by
    obtain ⟨lw, ys, ep, rfl, rfl, hs⟩ := hp
    refine k lw ys ep h' tk' ?_ F' N'
    obtain ⟨ys0, ep0, h1, h2, h3⟩ := hts
    obtain ⟨its, ep1, e1, e2, rfl⟩ := hs
    have := (N _ h1).1
    dsimp only at this
    rw [e1] at this
    cases this
    have l1 := noCom_len ts
    have l2 := noCom_wcat ts
    exact ⟨_, ep, .head _, ⟨by omega, by omega⟩, (h3.selG (α := Unit)).mono fun _ _ z => z.mono fun _ h => .tail _ h⟩) fun _ _ _ _ _ _ hz => hz.elim
end
example : True := by
  k_with "zz off" => (repeat (first | exact Off.nil | assumption | exact Off.of (by assumption) | exact AllTup.off (by assumption) | refine Off.cls rfl ?_ | refine Off.app (by assumption) ?_))
  k_with "zz end" => ((try dsimp only [List.isEmpty, List.cons_append, List.nil_append] at *); (try k_sweep))
  k_with "zz h5" => (case B | F | X | N | T => k_asm)
  k_with "zz rd" => ((first | (apply rd_use; walk_at "zz h5") | (apply rd_use1; walk_at "zz h5") | (apply rd_use2; walk_at "zz h5")); (case hts => k_asm); (case' C => skip))
  k_with "zz rd2" => (walk_at "zz u2"; (case ha => walk_at "zz off"); (try (case e => exact no_raise)); (case' k => skip))
  k_with "zz u2" => ((case hk => exact rfl); (case hd => ktr_room); (case hu => ktr_units); (case' k => skip))
  k_with "zz sb" => ((try (exact absurd ((by assumption : standsB _ _ = true).symm.trans (by assumption : standsB _ _ = false)) (by decide))); (try (exact absurd ((by assumption : standsB _ _ = false).symm.trans (by assumption : standsB _ _ = true)) (by decide))))
  trivial
example : True := by
  k_with "call ref" => (k_here; (with_reducible show wpAny _ _ (call (Value.ref 118) _) _ _ _); k_dflt (walk_at "zz u0"; (focus exact (tokens_of_c _ _ _ _ _ (by assumption) (by assumption) (by assumption))); walk_at "zz u2"; intro _ _ _ _ hp' _ _ N'; (obtain ⟨_, _, _, _, rfl, rfl, _, _, _⟩ := hp') <;> ((try simp only [List.append_nil] at N'); revert N'; intro _; walk_at "zz end")))
  trivial
section part_E1
example : True := by
  k_with "zz rdL" => (apply rd_useL; walk_at "zz h5"; (case hts => first | assumption | exact LedTL.cons (LedTL.appR (by assumption)) | exact LedTL.cons (by assumption)); (case' C => skip))
  trivial
example : True := by
  k_with "call ref" => (k_here; (with_reducible show wpAny _ _ (call (Value.ref 210) _) _ _ _); k_dflt (walk_at "zz rdL"; (focus exact (fun q kp => is_done_c _ _ _ _ _ _ _ q (by k_asm))); walk_at "zz rd2"; (refine kEq ?_); intro _ _ _ _ _; walk_at "zz end"))
  trivial
example : True := by
  k_with "call ref" => (k_here; (with_reducible show wpAny _ _ (call (Value.ref 245) _) _ _ _); k_dflt (walk_at "zz rdL"; (focus exact (fun q kp => fault_c _ _ _ _ _ _ _ _ _ q (by k_asm))); walk_at "zz rd2"; intro _ _ _ _ hp' _ _ _; (obtain ⟨_, _, _, _, rfl, rfl⟩ := hp') <;> (walk_at "zz end")))
  trivial
example : True := by
  k_with "call ref" => (k_here; (with_reducible show wpAny _ _ (call (Value.ref 308) _) _ _ _); k_dflt (walk_at "zz rdL"; (focus exact (fun q kp => (by assumption : ListC _ _ _ _ _) _ _ _ _ _ _ _ _ q (by k_asm) (by assumption) (by assumption))); walk_at "zz rd2"; intro _ _ _ _ hp' _ _ _; (obtain ⟨_, _, _, _, _, _, _, _, _, rfl, rfl, _, _, _, _⟩ := hp') <;> (walk_at "zz end")))
  trivial
example : True := by
  k_with "call ref" => (k_here; (with_reducible show wpAny _ _ (call (Value.ref 123) _) _ _ _); k_dflt (apply use_wcL; (case B => k_asm); (case F => k_asm); (case X => k_asm); (case N => k_asm); (case T => k_asm); (case hk => exact rfl); (case hd => ktr_room); (case hu => ktr_units); (case hts => exact ⟨_, _, .head _, by assumption, All2.mono (fun _ _ z => TokLed.mono (fun _ h => .tail _ h) z) (by assumption)⟩); (case' k => skip); intro _ _ _ _ _ _ _ _; (try k_sweep)))
  trivial
theorem leave_ra {h₀ g : Heap} {L L' : Addr} {m m' : Str → Option Value} {news mbs rest : Led} {y r1 r2 : Addr × Obj} {Q E : Value → Shared → Prop} {post : Value → Led → Heap → Prop} {s : Shared} {v : Value} {h' : Heap} {tk' : Nat}
    (hg : ∀ b o, s.heap.get? b = some o → b ∉ news.map (·.1) → g.get? b = some o)
    (ret : ∀ v news' h' tk', Fr h₀ L h' m → News h₀ L h' news' → Keeps L news s.heap h' → (∀ q ∈ news', q.1 ∈ news.map (·.1) ∨ s.heap.get? q.1 = none) → post v news' h' → Q v { s with heap := h', toks := tk' })
    (F' : Fr g L' h' m') (N' : News g L' h' (r1 :: r2 :: y :: (mbs ++ rest))) (hp : Hold (post v (y :: mbs) h')) :
    LeaveK h₀ L m g (fun r s' => match r with | .ok (.ret v) => Q v s' | .ok _ => False | .error e => E e s') v { s with heap := h', toks := tk' } :=
  leave_con hg ret F' (fun q hq => N' q (by
    simp only [List.mem_cons, List.mem_append] at hq ⊢
    rcases hq with h | h
    · exact .inr (.inr (.inl h))
    · exact .inr (.inr (.inr (.inl h))))) hp
example : True := by
  k_with "LeaveK" => (k_here; k_dflt (apply leave_ra; (case hg => assumption); (case ret => assumption); (case F' => k_asm); (case N' => k_asm); (case' hp => skip)))
  trivial
theorem reader_made {P : Params} {h₀ h : Heap} {L x dx lw : Addr} {n : Int} {t1 t2 t3 tn tk : Tok} {rest : Led}
    (N : News h₀ L h ((x, instObj 262 dx) :: (dx, dictOf [⟨PyData.keyHash P "tokens", .str "tokens" t1, .ref lw⟩, ⟨PyData.keyHash P "at", .str "at" t2, .int 0 tk⟩, ⟨PyData.keyHash P "length", .str "length" t3, .int n tn⟩] 3) :: rest)) :
    ∃ c : RdC, c.r = x ∧ c.d = dx ∧ c.l = lw ∧ c.n = n ∧ News h₀ L h ((c.r, instObj 262 c.d) :: (c.d, rdDict P c 0 tk) :: rest) := ⟨⟨x, dx, lw, n, t1, t2, t3, tn⟩, rfl, rfl, rfl, rfl, N⟩
def addrOut : Option (List Pl × List Tk) → Option (List Pl)
  | some (xs, []) => some xs
  | _ => none
theorem read_addresses_c (w : World) (h : Heap) (d : List UInt8) (toks : List Tk) (t : Tok) (n : Nat) (out : Option (List Pl × List Tk)) (hdz : d.length < 2 ^ 16) (hok : d.all okB = true) (hlex : Lex d toks) (htz : toks.length < 2 ^ 16 ∧ (wcat toks).length < 2 ^ 16) (hn : n < 2 ^ 16) (hR : ListR PlaceF n (noCom toks) out) :
    Con w (Mine.hd.heap_1 w.params) 315 [.bytes ⟨d⟩ t] 20 h [] (fun v news' _ => ∃ xs fl ys ep mbs, addrOut out = some xs ∧ v = .ref fl ∧ news' = (fl, lo ys ep) :: mbs ∧ All2 (PlV w.params mbs) ys xs) (addrOut out = none) := by
  intro prog p loose mean mg mb dp un gd cn cs a ccd cl outer A₀ base h₀ L m s Q E hh B F X N T hkf hd hu ret exc
  subst hh
  have hLC : ListC w false 17 (PlV w.params) PlaceF := read_list_f w
  refine wpAny_call ?_
  refine' enterG (binds := [(("octets" : Str), .bytes ⟨d⟩ t)]) ?k1 ?k2 ?k3 ?k4 ?k5 ?kA ?kF ?kK ?k6 ?k7 ?k8 ?k9 ?kB ?_ ?c2 ?c3 ?c4 ?c5
  case kA => exact rfl
  case kF => exact rfl
  case kK => assumption
  case k1 => k_asm
  case k2 => k_asm
  case k3 => k_asm
  case k4 => k_asm
  case k5 => k_asm
  case k6 => k_is
  case k7 => k_is
  case k8 => ktr_room
  case k9 => first | exact BindsTo.of_eq rfl | exact binds_K (by k_in) rfl (by k_is) rfl rfl rfl
  case c5 => decide
  case kB => exact locs rfl
  case c2 => exact rfl
  case c3 => exact rfl
  case c4 => exact rfl
  k_whole
  intro g L' h' hg FG F' N' B' X' T'
  try dsimp only
  try k_fold
  have hs0 : (noCom toks).drop 0 = noCom toks := rfl
  k_steps
  rename News g L' _ _ => N9
  obtain ⟨c, rfl, rfl, rfl, hcn, N8⟩ := reader_made N9
  clear N9
  have hnil : ∀ (xs : List Pl) (r : List Tk), out = some (xs, r) → r.isEmpty = true → addrOut out = some xs := fun xs r e h => by
    cases r with
    | nil => rw [e]; rfl
    | cons => cases h
  have hcons : ∀ (xs : List Pl) (r : List Tk), out = some (xs, r) → r.isEmpty = false → addrOut out = none := fun xs r e h => by
    cases r with
    | nil => cases h
    | cons => rw [e]; rfl
  k_steps
  · rename out = some _ => ho
    rename All2 (PlV _ _) _ _ => ha
    exact Hold.mk ⟨_, _, _, _, _, hnil _ _ ho (by assumption), rfl, rfl, ha⟩
  · rename out = some _ => ho
    exact Hold.mk (hcons _ _ ho (by assumption))
  · rename out = none => ho
    exact Hold.mk (by rw [ho]; rfl)
end part_E1

example : True := by
  k_with "call ref" => (k_here; (with_reducible show wpAny _ _ (call (Value.ref 315) _) _ _ _); k_dflt (walk_at "zz uR"; (focus exact (read_addresses_c _ _ _ _ _ _ _ (by assumption) (by assumption) (by assumption) (by assumption) (by assumption) (by assumption))); walk_at "zz u2"; intro _ _ _ _ hp' _ _ N'; (obtain ⟨_, _, _, _, _, _, rfl, rfl, _⟩ := hp') <;> ((try simp only [List.append_nil] at N'); revert N'; intro _; walk_at "zz end")))
  trivial
section part_E2
def MbH (P : Params) (h : Heap) (v : Value) (mb : Mb) : Prop := ∃ x dx t1 t2 t3 u1 u2 u3, v = .ref x ∧ h.get? x = some (instObj 154 dx) ∧ h.get? dx = some (mbDict P mb t1 t2 t3 u1 u2 u3)
theorem MbH.up {P : Params} {h g : Heap} {v : Value} {mb : Mb} (k : ∀ b o, h.get? b = some o → g.get? b = some o) (H : MbH P h v mb) : MbH P g v mb :=
  let ⟨x, dx, t1, t2, t3, u1, u2, u3, e, h1, h2⟩ := H; ⟨x, dx, t1, t2, t3, u1, u2, u3, e, k _ _ h1, k _ _ h2⟩
def PlH (P : Params) (h : Heap) (v : Value) : Pl → Prop
  | .mb m => MbH P h v m
  | .gp name ms => ∃ x dx fl ys ep t1 t2 u1, v = .ref x ∧ h.get? x = some (instObj 180 dx) ∧ h.get? dx = some (grDict P name fl t1 t2 u1) ∧ h.get? fl = some (lo ys ep) ∧ All2 (MbH P h) ys ms
theorem PlH.up {P : Params} {h g : Heap} {v : Value} {p : Pl} (k : ∀ b o, h.get? b = some o → g.get? b = some o) (H : PlH P h v p) : PlH P g v p := by
  cases p with
  | mb m => exact MbH.up k H
  | gp name ms =>
    obtain ⟨x, dx, fl, ys, ep, t1, t2, u1, e, h1, h2, h3, h4⟩ := H
    exact ⟨x, dx, fl, ys, ep, t1, t2, u1, e, k _ _ h1, k _ _ h2, k _ _ h3, h4.mono fun _ _ z => z.up k⟩
theorem MbV.heap {P : Params} {led : Led} {h₀ h : Heap} {L : Addr} {v : Value} {mb : Mb} (N : News h₀ L h led) (H : MbV P led v mb) : MbH P h v mb :=
  let ⟨x, dx, t1, t2, t3, u1, u2, u3, e, h1, h2⟩ := H; ⟨x, dx, t1, t2, t3, u1, u2, u3, e, (N _ h1).1, (N _ h2).1⟩
theorem PlV.heap {P : Params} {led : Led} {h₀ h : Heap} {L : Addr} {v : Value} {p : Pl} (N : News h₀ L h led) (H : PlV P led v p) : PlH P h v p := by
  cases p with
  | mb m => exact MbV.heap N H
  | gp name ms =>
    obtain ⟨x, dx, fl, ys, ep, t1, t2, u1, e, h1, h2, h3, h4⟩ := H
    exact ⟨x, dx, fl, ys, ep, t1, t2, u1, e, (N _ h1).1, (N _ h2).1, (N _ h3).1, h4.mono fun _ _ z => z.heap N⟩
/-- the ledger makes v read so -/
def RdL (led : Led) (v : Value) (d : PyData) : Prop := ∀ h : Heap, (∀ q ∈ led, h.get? q.1 = some q.2) → ∃ as, Reads h v d as
theorem RdL.mono {l1 l2 : Led} {v : Value} {d : PyData} (h : ∀ q ∈ l1, q ∈ l2) (H : RdL l1 v d) : RdL l2 v d := fun g k => H g fun q hq => k q (h q hq)
theorem rdAll {h : Heap} : ∀ {ys : List Value} {ds : List PyData}, All2 (fun v d => ∃ as, Reads h v d as) ys ds → ∃ as, ReadsAll h ys ds as
  | [], [], _ => ⟨_, .nil⟩
  | _ :: _, _ :: _, q => by
    obtain ⟨as, h1⟩ := q.1
    obtain ⟨bs, h2⟩ := rdAll q.2
    exact ⟨_, .cons h1 h2⟩
  | [], _ :: _, q => q.elim
  | _ :: _, [], q => q.elim
theorem RdL.tuple {led : Led} {t : Addr} {ys : List Value} {n : Nat} {ds : List PyData} (hm : (t, ({ cls := .type "tuple", data := .seq ys.toArray n } : Obj)) ∈ led) (H : All2 (RdL led) ys ds) : RdL led (.ref t) (.tuple ds) := fun g k => by
  obtain ⟨as, h1⟩ := rdAll (h := g) (H.mono fun v d z => z g k)
  exact ⟨_, reads_tuple_at (k _ hm) rfl rfl h1⟩
theorem RdL.list {led : Led} {t : Addr} {ys : List Value} {n : Nat} {ds : List PyData} (hm : (t, lo ys n) ∈ led) (H : All2 (RdL led) ys ds) : RdL led (.ref t) (.list ds) := fun g k => by
  obtain ⟨as, h1⟩ := rdAll (h := g) (H.mono fun v d z => z g k)
  exact ⟨_, reads_list_at (k _ hm) rfl rfl h1⟩
theorem RdL.str {led : Led} {x : Str} {t : Tok} : RdL led (.str x t) (.str x) := fun _ _ => ⟨_, .str x t⟩
def mbData (mb : Mb) : PyData := .tuple [.str "mailbox", .str mb.name, .str mb.loc, .str mb.dom]
def plData : Pl → PyData
  | .mb m => mbData m
  | .gp name ms => .tuple [.str "group", .str name, .tuple (ms.map mbData)]
theorem inst_base {h₀ h : Heap} {L x C dx : Addr} {od : Obj} {sl : Array (Option Value)} {m : Str → Option Value} (F : Fr h₀ L h m) (h1 : h₀.get? x = some (⟨.ref C, some dx, .plain, sl⟩ : Obj)) (h2 : h₀.get? dx = some od) :
    InstAt h x ⟨.ref C, some dx, .plain, sl⟩ C (some od) := ⟨F.keep _ _ h1, rfl, rfl, F.keep _ _ h2⟩
local macro_rules | `(tactic| k_inst) => `(tactic| (refine' inst_base ?F ?h1 ?h2; (case F => k_asm); (case h1 | h2 => assumption)))
theorem comp_end0 {h₀ h' hp : Heap} {L I C D : Addr} {m : Str → Option Value} {s₁ : Shared} {oI oC oD : Obj} {S : Led → Prop} {rest : Value → Led → Prop} {y : Value} {tk : Nat} {n' nw : Led}
    (F' : Fr h₀ L h' m) (N' : News h₀ L h' (n' ++ (I, oI) :: (C, oC) :: (D, oD) :: nw)) (N1 : News h₀ L hp ((I, oI) :: (C, oC) :: (D, oD) :: nw)) (fr : ∀ q ∈ n', hp.get? q.1 = none) (off : LCg.Off3 I C D nw) (hS : S (n' ++ nw)) (r : rest y (n' ++ nw)) :
    LCg.CompEnd h₀ L m s₁ I oI C oC D oD S rest y { s₁ with heap := h', toks := tk } := by
  refine LCg.CompEnd.intro F' N' (n' ++ nw) (fun p hp => ?_) (LCg.Off3.of fun p hp => ?_) hS r
  · simp only [List.mem_cons, List.mem_append] at hp ⊢
    rcases hp with h | h | h | h | h
    · exact .inr (.inl h)
    · exact .inr (.inr (.inl h))
    · exact .inr (.inr (.inr (.inl h)))
    · exact .inl h
    · exact .inr (.inr (.inr (.inr h)))
  · rcases List.mem_append.mp hp with hp | hp
    · have z := fr p hp
      refine ⟨fun e => ?_, fun e => ?_, fun e => ?_⟩
      · rw [e, (N1 _ (.head _)).1] at z; cases z
      · rw [e, (N1 _ (.tail _ (.head _))).1] at z; cases z
      · rw [e, (N1 _ (.tail _ (.tail _ (.head _)))).1] at z; cases z
    · exact off.mem p hp
theorem told_m_c (w : World) (h : Heap) (v : Value) (mb : Mb) (hv : MbH w.params h v mb) :
    Con w (Mine.hd.heap_1 w.params) 151 [v] 2 h [] (fun v' news' _ => ∃ t, v' = .ref t ∧ RdL news' v' (mbData mb)) False := by
  obtain ⟨x, dx, t1, t2, t3, u1, u2, u3, rfl, hx, hdx⟩ := hv
  intro prog p loose mean mg mb dp un gd cn cs a ccd cl outer A₀ base h₀ L m s Q E hh B F X N T hkf hd hu ret exc
  subst hh
  refine wpAny_call ?_
  refine' enterG (binds := [(("self" : Str), .ref x)]) ?k1 ?k2 ?k3 ?k4 ?k5 ?kA ?kF ?kK ?k6 ?k7 ?k8 ?k9 ?kB ?_ ?c2 ?c3 ?c4 ?c5
  case kA => exact rfl
  case kF => exact rfl
  case kK => assumption
  case k1 => k_asm
  case k2 => k_asm
  case k3 => k_asm
  case k4 => k_asm
  case k5 => k_asm
  case k6 => k_is
  case k7 => k_is
  case k8 => ktr_room
  case k9 => first | exact BindsTo.of_eq rfl | exact binds_K (by k_in) rfl (by k_is) rfl rfl rfl
  case c5 => decide
  case kB => exact locs rfl
  case c2 => exact rfl
  case c3 => exact rfl
  case c4 => exact rfl
  k_whole
  intro g L' h' hg FG F' N' B' X' T'
  try dsimp only
  try k_fold
  have gx := hg _ _ hx (fun h => nomatch h)
  have gdx := hg _ _ hdx (fun h => nomatch h)
  k_steps
  rename News g _ _ _ => gN
  rename News h₀ _ _ _ => kN
  exact ret _ _ _ _ (by assumption) (news_hd1 kN) (Keeps.of hg (by assumption)) (Fresh.of hg (news_hd1 gN)) ⟨_, rfl, RdL.tuple (.head _) ⟨.str, .str, .str, .str, trivial⟩⟩
example : True := by
  k_with "call ref" => (k_here; (with_reducible show wpAny _ _ (call (Value.ref 151) _) _ _ _); k_dflt (walk_at "zz u0"; (focus exact (told_m_c _ _ _ _ (MbH.up (Fr.keep (by k_asm)) (by assumption)))); walk_at "zz u2"; intro _ _ _ _ hp' _ _ N'; (obtain ⟨_, rfl, _⟩ := hp') <;> ((try simp only [List.append_nil] at N'); revert N'; intro _; walk_at "zz end")))
  trivial
theorem told_g_c (w : World) (h : Heap) (v : Value) (name : Str) (ms : List Mb) (hv : PlH w.params h v (.gp name ms)) (hz : ms.length < 2 ^ 14) :
    Con w (Mine.hd.heap_1 w.params) 177 [v] 4 h [] (fun v' news' _ => ∃ t, v' = .ref t ∧ RdL news' v' (plData (.gp name ms))) False := by
  obtain ⟨x, dx, fl, ys, ep, t1, t2, u1, rfl, hx, hdx, hfl, hA⟩ := hv
  intro prog p loose mean mg mb dp un gd cn cs a ccd cl outer A₀ base h₀ L m s Q E hh B F X N T hkf hd hu ret exc
  subst hh
  refine wpAny_call ?_
  refine' enterG (binds := [(("self" : Str), .ref x)]) ?k1 ?k2 ?k3 ?k4 ?k5 ?kA ?kF ?kK ?k6 ?k7 ?k8 ?k9 ?kB ?_ ?c2 ?c3 ?c4 ?c5
  case kA => exact rfl
  case kF => exact rfl
  case kK => assumption
  case k1 => k_asm
  case k2 => k_asm
  case k3 => k_asm
  case k4 => k_asm
  case k5 => k_asm
  case k6 => k_is
  case k7 => k_is
  case k8 => ktr_room
  case k9 => first | exact BindsTo.of_eq rfl | exact binds_K (by k_in) rfl (by k_is) rfl rfl rfl
  case c5 => decide
  case kB => exact locs rfl
  case c2 => exact rfl
  case c3 => exact rfl
  case c4 => exact rfl
  k_whole
  intro g L' h' hg FG F' N' B' X' T'
  try dsimp only
  try k_fold
  have up : ∀ b o, s.heap.get? b = some o → g.get? b = some o := fun b o e => hg b o e (fun h => nomatch h)
  have gx := up _ _ hx
  have gdx := up _ _ hdx
  have gfl : g.IsList fl ys.toArray := ⟨_, up _ _ hfl, rfl, _, rfl⟩
  have gA : All2 (MbH w.params g) ys ms := hA.mono fun _ _ z => z.up up
  k_steps
  refine Stop.mk ?_
  k_dflt (refine LCg.ListComp_U (F₀ := by k_asm) (by rfl) (by decide) (by rfl) (by decide) (by rfl) ?_)
  walk1
  walk1
  walk1
  have hlen := gA.length
  refine LCg.CompSrc.base (news := []) rfl (by k_asm) (by k_asm) gfl (by rw [sizeLine_eq]; show ys.length ≤ _; omega) fun g' => ?_
  refine rest_inv (n := ys.length) (fun i zs nw => Hold (All2 (RdL nw) zs ((ms.take i).map mbData))) ?step ?fin ys.length 0 [] [] (Nat.zero_add _) (Hold.mk trivial)
  case step =>
    rintro i zs nw v I oI C oC D m₂ h tk E' hi hJ hv hC hx F1 N1 off ne
    have hd0 : ms.drop i = ms[i] :: ms.drop (i + 1) := List.drop_eq_getElem_cons (by omega)
    obtain ⟨v', hv', hm⟩ := gA.get hd0
    have : v' = v := by
      have hv2 : ys[i]? = some v := by simpa using hv
      rw [hv2] at hv'; exact (Option.some.inj hv').symm
    subst this
    generalize hmi : ms[i] = m0 at hm
    have hm0 := hm
    obtain ⟨x0, dx0, t10, t20, t30, u10, u20, u30, rfl, hx0, hdx0⟩ := hm0
    have htk : (ms.take (i + 1)).map mbData = (ms.take i).map mbData ++ [mbData m0] := by
      rw [List.take_add_one, List.map_append]
      have : ms[i]? = some m0 := by rw [← hmi]; exact List.getElem?_eq_getElem (by omega)
      rw [this]; rfl
    have hN1 : Hold (News g L' h ((I, oI) :: (C, oC) :: (D, LCg.lst zs) :: nw)) := N1
    k_steps
    rename RdL _ _ _ => tr9
    rename News g L' _ _ => N9
    rename ∀ q ∈ _, Heap.get? _ _ = none => fr9
    refine comp_end0 (by assumption) N9 hN1 fr9 off (.inl gfl) ?_
    refine Hold.mk ?_
    rw [htk]
    exact All2.snoc (tr9.mono fun q hq => List.mem_append_left _ hq) ((show All2 (RdL nw) zs _ from hJ).mono fun _ _ z => z.mono fun q hq => List.mem_append_right _ hq)
  case fin =>
    rintro zs nw hJ
    intro D h' tk F1 N1 o1
    try dsimp only
    have hzl := All2.length (show All2 (RdL nw) zs _ from hJ)
    k_steps
    refine kde_tupleOf (by k_asm) N1 (items := zs.toArray) ⟨_, (N1 _ (.head _)).1, rfl, _, rfl⟩ (by rw [List.size_toArray, hzl, List.length_map, List.length_take]; omega) rfl fun T h2 F2 N2 l2 => ?_
    k_steps
    rename News g _ _ _ => gN
    rename News h₀ _ _ _ => kN
    have hJ' : All2 (RdL nw) zs (ms.map mbData) := by
      have := (show All2 (RdL nw) zs _ from hJ)
      rwa [hlen, List.take_length] at this
    exact ret _ _ _ _ (by assumption) kN (Keeps.of hg (by assumption)) (Fresh.of hg gN) ⟨_, rfl, RdL.tuple (.head _) ⟨.str, .str, RdL.tuple (.tail _ (.head _)) (hJ'.mono fun _ _ z => z.mono fun q hq => .tail _ (.tail _ (.tail _ hq))), trivial⟩⟩
end part_E2
def LeaveT (h₀ : Heap) (L : Addr) (m : Str → Option Value) (g : Heap) (R : Result → Shared → Prop) (v : Value) (s' : Shared) : Prop :=
  ∃ g' L' m' news', KtsTurn [L] g g' ∧ Fr g' L' s'.heap m' ∧ News g' L' s'.heap news' ∧ (Fr h₀ L s'.heap m → News h₀ L s'.heap news' → R (.ok (.ret v)) s')
theorem turn_back {h₀ g g' h' : Heap} {L L' : Addr} {m m' : Str → Option Value} {news' : Led} (FG : Fr h₀ L g m) (T : KtsTurn [L] g g') (F' : Fr g' L' h' m') (N' : News g' L' h' news') : Fr h₀ L h' m ∧ News h₀ L h' news' := by
  obtain ⟨oL, es, ep, hL, hLd, hLk⟩ := FG.ns
  obtain ⟨sl, hs⟩ := T.frame L oL hL (.head _)
  have hL0 : h₀.get? L = none := kts_self FG
  have up : ∀ b o, h₀.get? b = some o → g'.get? b = some o := fun b o e => T.other b o (FG.keep b o e) (fun hm => by
    rw [List.mem_singleton.mp hm, hL0] at e; cases e)
  refine ⟨⟨⟨_, es, ep, F'.keep _ _ hs, hLd, hLk⟩, fun b o e => F'.keep _ _ (up b o e), FG.above⟩, fun q hq => ⟨(N' q hq).1, fun e => ?_, ?_⟩⟩
  · have := (N' q hq).2.2
    rw [e, hs] at this; cases this
  · cases e : h₀.get? q.1 with
    | none => rfl
    | some o => have := up _ _ e; rw [(N' q hq).2.2] at this; cases this
theorem enterT {prog : Program} {w : World} {A₀ A : Around} {s : Shared} {base h₀ : Heap} {L : Addr} {m mg mb : Str → Option Value} {news : List (Addr × Obj)} {K : Frag} {p : Program} {loose : List Str} {mean : ExcName → Option Value}
    {env : Env} {R : Result → Shared → Prop} {name qual : Str} {params : Arguments} {body : List Stmt} {scope : Scope} {dV kV doc pm cdv ct oc : Value} {an od : Option Addr} {osl : Array (Option Value)} {f : Addr} {args : Args} {binds : List (Str × Value)}
    (B : Below A₀ base [] h₀) (F : Fr h₀ L s.heap m) (X₀ : K.In h₀) (N : News h₀ L s.heap news) (T : Top p loose mean mg mb h₀) (hA : A.frames = some [env]) (hf : env.frame = some L) (hke : env.scope.kind = .function)
    (ho : K.lookup f = some ⟨oc, od, .func (fnOf name qual params body scope dV kV doc pm an cdv ct), osl⟩) (hcd : codeIn K cdv qual = true) (hroom : A.depth < recursionLimit)
    (hbind : BindsTo s (fnOf name qual params body scope dV kV doc pm an cdv ct) args binds) (hloc : ∀ y ∈ binds, scope.names.lookup y.1 = some .local)
    (h : ∀ g L' h₁, (∀ b o, s.heap.get? b = some o → b ∉ news.map (·.1) → g.get? b = some o) → Fr h₀ L g m → Fr g L' h₁ (fun y => binds.reverse.lookup y) → News g L' h₁ news → Below A base [env] g → K.In g → Top p loose mean mg mb g → KtsDicts ([env].filterMap (·.frame)) g →
      wpAny (model prog w) (A.deeper (envOf qual scope L' f cdv)) (execs body (envOf qual scope L' f cdv))
        (fun fl s' => LeaveT h₀ L m g R (match fl with | .ret v => v | _ => .none) s')
        (fun e s' => wpAny (model prog w) (A.deeper (envOf qual scope L' f cdv)) (leaving (envOf qual scope L' f cdv) e) (fun _ s'' => R (.error e) s'') (fun e' s'' => R (.error e') s'') s')
        { s with heap := h₁, toks := s.toks + binds.length })
    (hco : scope.isCoroutine = false) (hgen : scope.isGenerator = false) (hk : scope.kind = .function)
    (hcell : ∀ x ∈ scope.names, x.2 ≠ .cell) : codeAny (model prog w) A (.call (.ref f) args) R s := by
  obtain ⟨FG, BG, st, lv⟩ := groundX (R := R) B F N hA hf hke
  have X := X₀.keeps F.keep
  refine codeAny_call_def (fd := fnOf name qual params body scope dV kV doc pm an cdv ct) (body := body) (binds := binds) hroom (X _ _ ho) rfl (T.nolimit.keeps F.keep) (codeRec_of X hcd) rfl hbind hcell hloc (fun h₁ hns hk₁ => ?_) hco hgen hk
  refine wpAny_mono (h _ s.heap.objs.size h₁ (fun b o e hn => hideAll_get _ e hn) FG ⟨hns, fun b o e => hk₁ b o (of_hideAll _ e), Nat.le_of_eq (hideAll_size _ _)⟩
    (fun q hq => ⟨hk₁ _ _ (N q hq).1, Nat.ne_of_lt (Heap.lt_size (N q hq).1), hideAll_none _ (List.mem_map_of_mem hq)⟩) BG (X₀.keeps st) (T.keeps st) (fun b hb => ?_)) (fun fl s' hl => ?_) fun _ _ y => y
  · obtain ⟨oL, es, ep, hL, hLd, _⟩ := FG.ns
    have : b = L := by
      obtain ⟨e, he, hb⟩ := List.mem_filterMap.mp hb
      rw [List.mem_singleton.mp he, hf] at hb
      exact (Option.some.inj hb).symm
    subst this
    exact ⟨oL, es, ep, hL, hLd⟩
  · obtain ⟨g', L', m', news', T', F', N', k⟩ := hl
    obtain ⟨a, b⟩ := turn_back FG T' F' N'
    exact k a b
section
variable {prog : Program} {w : World} {p : Program} {loose : List Str} {mean : ExcName → Option Value} {mg mb : Str → Option Value}
    {dp un : Nat} {gd : Option (List Code)} {cn : Str} {cs : Scope} {a : Addr} {ccd : Value} {cl : List (Str × Addr)} {outer : List Env} {A₀ : Around} {base h₀ : Heap} {L : Addr} {m : Str → Option Value} {s : Shared} {Q E : Value → Shared → Prop} {all : Led} {K : Frag}
theorem useR {f : Addr} {args : List Value} {need : Nat} {post : Value → Led → Heap → Prop} {rz : Prop} (C : Con w K f args need s.heap [] post rz) (B : Below A₀ base outer h₀) (F : Fr h₀ L s.heap m) (X : K.In h₀) (N : News h₀ L s.heap all) (T : Top p loose mean mg mb h₀)
    (hk : cs.kind = .function) (hd : dp + need < recursionLimit) (hu : un + 8 * need < cLine)
    (k : ∀ v news' h' tk', post v news' h' → (∀ q ∈ news', s.heap.get? q.1 = none) → Fr h₀ L h' m → News h₀ L h' (news' ++ all) → Q v { s with heap := h', toks := tk' })
    (e : ∀ e t vs G h' tk', rz → Fr h₀ L G m → RaisedS base G (envX cn cs L a ccd cl :: outer) e (.ref 52) t vs [] h' → G.UpToSlots h' → E (.ref e) { s with heap := h', toks := tk' }) :
    wpAny (model prog w) (ktrTop dp un gd cn cs L a ccd cl outer) (call (.ref f) args) Q E s :=
  Con.use all C B F X N T hk hd hu (fun _ h => nomatch h) (fun q hq => ⟨hq, fun h => nomatch h⟩) (fun v news' h' tk' hp fr F' N' => k v news' h' tk' hp (fun q hq => (fr q hq).elim (fun h => nomatch h) id) F' N') e
end
example : True := by
  k_with "call ref" => (k_here; (with_reducible show wpAny _ _ (call (Value.ref 151) _) _ _ _); k_dflt (walk_at "zz u0"; (focus exact (told_m_c _ _ _ _ (by first | exact MbH.up (Fr.keep (by k_asm)) (by assumption) | assumption))); walk_at "zz u2"; intro _ _ _ _ hp' _ _ N'; (obtain ⟨_, rfl, _⟩ := hp') <;> ((try simp only [List.append_nil] at N'); revert N'; intro _; walk_at "zz end")))
  trivial
example : True := by
  k_with "call ref" => (k_here; (with_reducible show wpAny _ _ (call (Value.ref 177) _) _ _ _); k_dflt (walk_at "zz u0"; (focus exact (told_g_c _ _ _ _ _ (by first | exact PlH.up (Fr.keep (by k_asm)) (by assumption) | assumption) (by assumption))); walk_at "zz u2"; intro _ _ _ _ hp' _ _ N'; (obtain ⟨_, rfl, _⟩ := hp') <;> ((try simp only [List.append_nil] at N'); revert N'; intro _; walk_at "zz end")))
  trivial
example : True := by
  k_with "zz uR" => (apply useR; walk_at "zz h5"; (case' C => skip))
  trivial
section part_E3
def heardPost (out : Option (List Pl)) (v : Value) (news' : Led) : Prop := match out with
  | none => v = .none
  | some xs => ∃ a, v = .ref a ∧ RdL news' v (.list (xs.map plData))
local macro_rules | `(tactic| k_inst) => `(tactic| exact ⟨by assumption, rfl, rfl, by assumption⟩)
example : True := by
  k_with "CompSrc" => (k_here; refine' Stop.out ?_)
  trivial
theorem news_turn {h₀ h h' g g' : Heap} {L L' : Addr} {m' : Str → Option Value} {all : Led} (N0 : News h₀ L h all) (hg : ∀ b o, h.get? b = some o → b ∉ ([] : Led).map (·.1) → g.get? b = some o) (T : KtsTurn [L] g g') (F' : Fr g' L' h' m') : News h₀ L h' all := fun q hq =>
  ⟨F'.keep _ _ (T.other _ _ (hg _ _ (N0 q hq).1 (fun h => nomatch h)) (fun hm => (N0 q hq).2.1 (List.mem_singleton.mp hm))), (N0 q hq).2⟩
def HeardOk (out : Option (List Pl × List Tk)) : Prop := ∀ xs, addrOut out = some xs → xs.length < 2 ^ 14 ∧ ∀ name ms, Pl.gp name ms ∈ xs → ms.length < 2 ^ 14
theorem law_heard_c (w : World) (d : List UInt8) (toks : List Tk) (t : Tok) (n : Nat) (out : Option (List Pl × List Tk)) (hdz : d.length < 2 ^ 16) (hok : d.all okB = true) (hlex : Lex d toks) (htz : toks.length < 2 ^ 16 ∧ (wcat toks).length < 2 ^ 16) (hn : n < 2 ^ 16) (hR : ListR PlaceF n (noCom toks) out) (hH : HeardOk out) :
    ∀ (prog : Program) (p : Program) (loose : List Str) (mean : ExcName → Option Value) (mg mb : Str → Option Value)
    (dp un : Nat) (gd : Option (List Code)) (cn : Str) (cs : Scope) (a : Addr) (ccd : Value) (cl : List (Str × Addr)) (A₀ : Around) (base h₀ : Heap) (L : Addr) (m : Str → Option Value) (s : Shared) (Q E : Value → Shared → Prop) (all : Led),
    Below A₀ base [] h₀ → (Mine.hd.heap_1 w.params).In base → Top p loose mean mg mb base → Fr h₀ L s.heap m → (Mine.hd.heap_1 w.params).In h₀ → News h₀ L s.heap all → Top p loose mean mg mb h₀ → cs.kind = .function → dp + 24 < recursionLimit → un + 8 * 24 < cLine →
    (∀ v news' h' tk', Fr h₀ L h' m → News h₀ L h' (news' ++ all) → heardPost (addrOut out) v news' → Q v { s with heap := h', toks := tk' }) →
    wpAny (model prog w) (ktrTop dp un gd cn cs L a ccd cl []) (call (.ref 333) [.bytes ⟨d⟩ t]) Q E s := by
  intro prog p loose mean mg mb dp un gd cn cs a ccd cl A₀ base h₀ L m s Q E all B XB TB F X N0 T hkf hd hu ret
  have N : News h₀ L s.heap [] := fun _ h => nomatch h
  refine wpAny_call ?_
  refine' enterT (binds := [(("octets" : Str), .bytes ⟨d⟩ t)]) ?k1 ?k2 ?k3 ?k4 ?k5 ?kA ?kF ?kK ?k6 ?k7 ?k8 ?k9 ?kB ?_ ?c2 ?c3 ?c4 ?c5
  case kA => exact rfl
  case kF => exact rfl
  case kK => assumption
  case k1 => k_asm
  case k2 => k_asm
  case k3 => exact X
  case k4 => exact N
  case k5 => exact T
  case k6 => k_is
  case k7 => k_is
  case k8 => ktr_room
  case k9 => first | exact BindsTo.of_eq rfl | exact binds_K (by k_in) rfl (by k_is) rfl rfl rfl
  case c5 => decide
  case kB => exact locs rfl
  case c2 => exact rfl
  case c3 => exact rfl
  case c4 => exact rfl
  k_whole
  intro g L' h' hg FG F' N' B' X' T' D'
  try dsimp only
  try k_fold
  k_steps
  refine Stop.mk ?_
  k_dflt (refine LCg.ListComp_U (F₀ := by k_asm) (by rfl) (by decide) (by rfl) (by decide) (by rfl) ?_)
  k_steps
  · rename All2 (PlV _ _) _ _ => hA
    rename addrOut out = some _ => hout
    rename News g L' _ _ => N9
    rename_i hp9 tk9 Fp9 xs af ys ae am fr9
    have hlen := hA.length
    obtain ⟨hz1, hz2⟩ := hH _ hout
    refine Stop.mk ?_
    refine LCg.CompSrc.ledger (its := ys.toArray) rfl (by k_asm) N9 (.head _) (by rw [sizeLine_eq]; show ys.length ≤ _; omega) fun g' => ?_
    refine rest_inv (n := ys.length) (fun i zs nw => Hold (∃ ex, nw = ex ++ (af, lo ys ae) :: am ∧ All2 (RdL nw) zs ((xs.take i).map plData))) ?step ?fin ys.length 0 [] _ (Nat.zero_add _) (Hold.mk ⟨[], rfl, trivial⟩)
    case step =>
      rintro i zs nw v I oI C oC D m₂ h tk E' hi hJ hv hC hx F1 N1 off ne
      obtain ⟨ex, hnw, hJ⟩ := (show ∃ ex, nw = ex ++ (af, lo ys ae) :: am ∧ _ from hJ)
      have hd0 : xs.drop i = xs[i] :: xs.drop (i + 1) := List.drop_eq_getElem_cons (by omega)
      obtain ⟨v', hv', hm⟩ := hA.get hd0
      have : v' = v := by
        have hv2 : ys[i]? = some v := by simpa using hv
        rw [hv2] at hv'; exact (Option.some.inj hv').symm
      subst this
      have htk : (xs.take (i + 1)).map plData = (xs.take i).map plData ++ [plData xs[i]] := by
        rw [List.take_add_one, List.map_append]
        rw [List.getElem?_eq_getElem (by omega : i < xs.length)]; rfl
      have hmem : xs[i] ∈ xs := List.getElem_mem _
      generalize xs[i] = x9 at hm htk hmem
      have hin : ∀ q ∈ am, q ∈ (I, oI) :: (C, oC) :: (D, LCg.lst zs) :: nw := fun q hq => .tail _ (.tail _ (.tail _ (by rw [hnw]; exact List.mem_append_right _ (.tail _ hq))))
      have hPl : PlH w.params h v' x9 := PlV.heap N1 (PlV.mono _ _ _ _ hin hm)
      have hsrc : ∀ n', LCg.SrcAt g af ys.toArray (n' ++ nw) := fun n' => .inr ⟨_, List.mem_append_right _ (by rw [hnw]; exact List.mem_append_right _ (.head _)), rfl, _, rfl⟩
      have hN1 : Hold (News g L' h ((I, oI) :: (C, oC) :: (D, LCg.lst zs) :: nw)) := N1
      have hdone : ∀ n' y, RdL n' y (plData x9) → Hold (∃ ex, n' ++ nw = ex ++ (af, lo ys ae) :: am ∧ All2 (RdL (n' ++ nw)) (zs ++ [y]) ((xs.take (i + 1)).map plData)) := fun n' y hr =>
        Hold.mk ⟨n' ++ ex, by rw [hnw, List.append_assoc], by
          rw [htk]
          exact All2.snoc (hr.mono fun q hq => List.mem_append_left _ hq) (hJ.mono fun _ _ z => z.mono fun q hq => List.mem_append_right _ hq)⟩
      cases x9 with
      | mb m0 =>
        have hMb : MbH w.params h v' m0 := hPl
        obtain ⟨x0, dx0, t10, t20, t30, u10, u20, u30, rfl, hx0, hdx0⟩ := id hMb
        k_steps
        rename RdL _ _ _ => tr9
        rename News g L' _ _ => N8
        rename ∀ q ∈ _, Heap.get? _ _ = none => fr8
        exact comp_end0 (by assumption) N8 hN1 fr8 off (hsrc _) (hdone _ _ tr9)
      | gp nm ms =>
        have hzm := hz2 _ _ hmem
        obtain ⟨x0, dx0, fl0, ys0, ep0, t10, t20, u10, rfl, hx0, hdx0, _⟩ := id hPl
        k_steps
        rename RdL _ _ _ => tr9
        rename News g L' _ _ => N8
        rename ∀ q ∈ _, Heap.get? _ _ = none => fr8
        exact comp_end0 (by assumption) N8 hN1 fr8 off (hsrc _) (hdone _ _ tr9)
    case fin =>
      rintro zs nw hJ
      obtain ⟨ex, hnw, hJ⟩ := (show ∃ ex, nw = ex ++ (af, lo ys ae) :: am ∧ _ from hJ)
      intro D h' tk F1 N1 o1
      try dsimp only
      k_steps
      refine ⟨g, L', _, (D, LCg.lst zs) :: nw, KtsTurn.refl, F1, N1, fun kF kN => ?_⟩
      refine ret (.ref D) ((D, LCg.lst zs) :: nw) _ _ kF (fun q hq => (List.mem_append.mp hq).elim (kN q) (news_turn N0 hg KtsTurn.refl F1 q)) ?_
      rw [hlen, List.take_length] at hJ
      rw [hout]
      exact ⟨D, rfl, RdL.list (.head _) (hJ.mono fun _ _ z => z.mono fun q hq => .tail _ hq)⟩
  · dsimp only
    rename addrOut out = none => hout
    rename KtsTurn _ _ _ => T9
    rename Fr _ L' _ _ => F9
    refine ⟨_, L', _, [], T9, F9, (fun _ h => nomatch h), fun kF kN => ?_⟩
    refine ret .none [] _ _ kF (news_turn N0 hg T9 F9) ?_
    rw [hout]; rfl
end part_E3
section part_P1
theorem OneTok.nsp {inp r : List UInt8} {t : Tk} (H : OneTok inp t r) : notHd (· == 32) inp = true := by
  cases H with
  | quoted | literal | comment => rfl
  | sign c r hc =>
    show (!(c == 32)) = true
    rcases hc with _ | _ <;> first | rfl | skip
    revert c; decide
  | atom c q r hq _ =>
    have h1 : atomU c = true := by
      rw [List.all_cons, Bool.and_eq_true] at hq; exact hq.1
    show (!(c == 32)) = true
    cases hc : c == 32 with
    | false => rfl
    | true =>
      have e : c = 32 := by simpa using hc
      subst e
      exact absurd h1 (by decide +kernel)
theorem Lex.nil : Lex [] [] := ⟨[], [], rfl, rfl, rfl, .nil⟩
theorem Lex.tok {inp r : List UInt8} {ts : List Tk} {t : Tk} (H : OneTok inp t r) (K : Lex r ts) : Lex inp (t :: ts) := by
  obtain ⟨q, inp', rfl, hq, hn, hL⟩ := K
  exact ⟨[], inp, rfl, rfl, H.nsp, .cons H hq hn hL⟩
theorem Lex.sp {r : List UInt8} {ts : List Tk} (K : Lex r ts) : Lex (32 :: r) ts := by
  obtain ⟨q, inp', rfl, hq, hn, hL⟩ := K
  exact ⟨32 :: q, inp', rfl, by rw [List.all_cons, hq]; rfl, hn, hL⟩
theorem Lex.sg {r : List UInt8} {ts : List Tk} (c : UInt8) (h : c ∈ [(60 : UInt8), 62, 64, 44, 59, 58, 46]) (K : Lex r ts) : Lex (c :: r) (⟨.sign, [c]⟩ :: ts) := Lex.tok (.sign c r h) K
theorem Lex.atm {r : List UInt8} {ts : List Tk} (c : UInt8) (q : List UInt8) (h : (c :: q).all atomU = true) (hn : notHd atomU r = true) (K : Lex r ts) : Lex (c :: (q ++ r)) (⟨.atom, c :: q⟩ :: ts) := Lex.tok (.atom c q r h hn) K
theorem Lex.quo {r : List UInt8} {ts : List Tk} (q : List UInt8) (h : q.all (fun x => x != 34 && !([] : List UInt8).contains x) = true) (K : Lex r ts) : Lex (34 :: (q ++ 34 :: r)) (⟨.quoted, q⟩ :: ts) := Lex.tok (.quoted q r h) K
theorem Lex.lit {r : List UInt8} {ts : List Tk} (q : List UInt8) (h : q.all (fun x => x != 93 && !([91] : List UInt8).contains x) = true) (K : Lex r ts) : Lex (91 :: (q ++ 93 :: r)) (⟨.literal, q⟩ :: ts) := Lex.tok (.literal q r h) K
theorem Lex.com {r : List UInt8} {ts : List Tk} (q : List UInt8) (h : q.all (fun x => x != 40 && x != 41) = true) (K : Lex r ts) : Lex (40 :: (q ++ 41 :: r)) (⟨.comment, q⟩ :: ts) := Lex.tok (.comment q r h) K
theorem nh {c : UInt8} {r : List UInt8} (h : (!atomU c) = true) : notHd atomU (c :: r) = true := h
def piece : Nat → List UInt8
  | 0 => [64, 97]
  | 1 => [64, 98, 46, 99, 45, 49]
  | 2 => [64, 91, 49, 48, 46, 48, 46, 48, 46, 49, 93]
  | 3 => [44]
  | 4 => [32, 44, 44, 32]
  | 5 => [64, 32, 100, 32, 46, 32, 101, 32]
  | 6 => [120]
  | _ => [40, 64, 110, 111, 41]
def pT : Nat → List Tk
  | 0 => [⟨.sign, [64]⟩, ⟨.atom, [97]⟩]
  | 1 => [⟨.sign, [64]⟩, ⟨.atom, [98]⟩, ⟨.sign, [46]⟩, ⟨.atom, [99, 45, 49]⟩]
  | 2 => [⟨.sign, [64]⟩, ⟨.literal, [49, 48, 46, 48, 46, 48, 46, 49]⟩]
  | 3 => [⟨.sign, [44]⟩]
  | 4 => [⟨.sign, [44]⟩, ⟨.sign, [44]⟩]
  | 5 => [⟨.sign, [64]⟩, ⟨.atom, [100]⟩, ⟨.sign, [46]⟩, ⟨.atom, [101]⟩]
  | 6 => [⟨.atom, [120]⟩]
  | _ => [⟨.comment, [64, 110, 111]⟩]
def nT : Nat → List Tk
  | 0 => [⟨.sign, [64]⟩, ⟨.atom, [97]⟩]
  | 1 => [⟨.sign, [64]⟩, ⟨.atom, [98]⟩, ⟨.sign, [46]⟩, ⟨.atom, [99, 45, 49]⟩]
  | 2 => [⟨.sign, [64]⟩, ⟨.literal, [49, 48, 46, 48, 46, 48, 46, 49]⟩]
  | 3 => [⟨.sign, [44]⟩]
  | 4 => [⟨.sign, [44]⟩, ⟨.sign, [44]⟩]
  | 5 => [⟨.sign, [64]⟩, ⟨.atom, [100]⟩, ⟨.sign, [46]⟩, ⟨.atom, [101]⟩]
  | 6 => [⟨.atom, [120]⟩]
  | _ => []
theorem lexP : ∀ (i : Nat) {rest : List UInt8} {toks : List Tk}, notHd atomU rest = true → Lex rest toks → Lex (piece i ++ rest) (pT i ++ toks)
  | 0, rest, toks, hn, K => Lex.sg 64 (by decide) <| Lex.atm 97 [] (by decide +kernel) hn <| K
  | 1, rest, toks, hn, K => Lex.sg 64 (by decide) <| Lex.atm 98 [] (by decide +kernel) (nh (by decide +kernel)) <| Lex.sg 46 (by decide) <| Lex.atm 99 [45, 49] (by decide +kernel) hn <| K
  | 2, rest, toks, hn, K => Lex.sg 64 (by decide) <| Lex.lit [49, 48, 46, 48, 46, 48, 46, 49] (by decide) <| K
  | 3, rest, toks, hn, K => Lex.sg 44 (by decide) <| K
  | 4, rest, toks, hn, K => Lex.sp <| Lex.sg 44 (by decide) <| Lex.sg 44 (by decide) <| Lex.sp <| K
  | 5, rest, toks, hn, K => Lex.sg 64 (by decide) <| Lex.sp <| Lex.atm 100 [] (by decide +kernel) (nh (by decide +kernel)) <| Lex.sp <| Lex.sg 46 (by decide) <| Lex.sp <| Lex.atm 101 [] (by decide +kernel) (nh (by decide +kernel)) <| Lex.sp <| K
  | 6, rest, toks, hn, K => Lex.atm 120 [] (by decide +kernel) hn <| K
  | _ + 7, rest, toks, hn, K => Lex.com [64, 110, 111] (by decide) <| K
def preB : List UInt8 := [102, 105, 114, 115, 116, 64, 119, 44, 32, 65, 110, 110, 32, 76, 101, 101, 32, 60]
abbrev preT : List Tk := [⟨.atom, [102, 105, 114, 115, 116]⟩, ⟨.sign, [64]⟩, ⟨.atom, [119]⟩, ⟨.sign, [44]⟩, ⟨.atom, [65, 110, 110]⟩, ⟨.atom, [76, 101, 101]⟩, ⟨.sign, [60]⟩]
theorem pre_lex {rest : List UInt8} {toks : List Tk} (K : Lex rest toks) : Lex (preB ++ rest) (preT ++ toks) := Lex.atm 102 [105, 114, 115, 116] (by decide +kernel) (nh (by decide +kernel)) <| Lex.sg 64 (by decide) <| Lex.atm 119 [] (by decide +kernel) (nh (by decide +kernel)) <| Lex.sg 44 (by decide) <| Lex.sp <| Lex.atm 65 [110, 110] (by decide +kernel) (nh (by decide +kernel)) <| Lex.sp <| Lex.atm 76 [101, 101] (by decide +kernel) (nh (by decide +kernel)) <| Lex.sp <| Lex.sg 60 (by decide) <| K
def preIB : List UInt8 := [102, 105, 114, 115, 116, 64, 119, 44, 32, 65, 110, 110, 32, 76, 101, 101, 32, 60, 99, 46, 34, 100, 32, 101, 34, 64, 102, 46, 103, 62, 44, 32, 71, 58, 32, 60]
abbrev preIT : List Tk := [⟨.atom, [102, 105, 114, 115, 116]⟩, ⟨.sign, [64]⟩, ⟨.atom, [119]⟩, ⟨.sign, [44]⟩, ⟨.atom, [65, 110, 110]⟩, ⟨.atom, [76, 101, 101]⟩, ⟨.sign, [60]⟩, ⟨.atom, [99]⟩, ⟨.sign, [46]⟩, ⟨.quoted, [100, 32, 101]⟩, ⟨.sign, [64]⟩, ⟨.atom, [102]⟩, ⟨.sign, [46]⟩, ⟨.atom, [103]⟩, ⟨.sign, [62]⟩, ⟨.sign, [44]⟩, ⟨.atom, [71]⟩, ⟨.sign, [58]⟩, ⟨.sign, [60]⟩]
theorem preI_lex {rest : List UInt8} {toks : List Tk} (K : Lex rest toks) : Lex (preIB ++ rest) (preIT ++ toks) := Lex.atm 102 [105, 114, 115, 116] (by decide +kernel) (nh (by decide +kernel)) <| Lex.sg 64 (by decide) <| Lex.atm 119 [] (by decide +kernel) (nh (by decide +kernel)) <| Lex.sg 44 (by decide) <| Lex.sp <| Lex.atm 65 [110, 110] (by decide +kernel) (nh (by decide +kernel)) <| Lex.sp <| Lex.atm 76 [101, 101] (by decide +kernel) (nh (by decide +kernel)) <| Lex.sp <| Lex.sg 60 (by decide) <| Lex.atm 99 [] (by decide +kernel) (nh (by decide +kernel)) <| Lex.sg 46 (by decide) <| Lex.quo [100, 32, 101] (by decide) <| Lex.sg 64 (by decide) <| Lex.atm 102 [] (by decide +kernel) (nh (by decide +kernel)) <| Lex.sg 46 (by decide) <| Lex.atm 103 [] (by decide +kernel) (nh (by decide +kernel)) <| Lex.sg 62 (by decide) <| Lex.sg 44 (by decide) <| Lex.sp <| Lex.atm 71 [] (by decide +kernel) (nh (by decide +kernel)) <| Lex.sg 58 (by decide) <| Lex.sp <| Lex.sg 60 (by decide) <| K
def sufPB : List UInt8 := [99, 46, 34, 100, 32, 101, 34, 64, 102, 46, 103, 62, 44, 32, 71, 58, 32, 60, 104, 64, 105, 62, 59]
abbrev sufPT : List Tk := [⟨.atom, [99]⟩, ⟨.sign, [46]⟩, ⟨.quoted, [100, 32, 101]⟩, ⟨.sign, [64]⟩, ⟨.atom, [102]⟩, ⟨.sign, [46]⟩, ⟨.atom, [103]⟩, ⟨.sign, [62]⟩, ⟨.sign, [44]⟩, ⟨.atom, [71]⟩, ⟨.sign, [58]⟩, ⟨.sign, [60]⟩, ⟨.atom, [104]⟩, ⟨.sign, [64]⟩, ⟨.atom, [105]⟩, ⟨.sign, [62]⟩, ⟨.sign, [59]⟩]
theorem sufP_lex : Lex sufPB sufPT := Lex.atm 99 [] (by decide +kernel) (nh (by decide +kernel)) <| Lex.sg 46 (by decide) <| Lex.quo [100, 32, 101] (by decide) <| Lex.sg 64 (by decide) <| Lex.atm 102 [] (by decide +kernel) (nh (by decide +kernel)) <| Lex.sg 46 (by decide) <| Lex.atm 103 [] (by decide +kernel) (nh (by decide +kernel)) <| Lex.sg 62 (by decide) <| Lex.sg 44 (by decide) <| Lex.sp <| Lex.atm 71 [] (by decide +kernel) (nh (by decide +kernel)) <| Lex.sg 58 (by decide) <| Lex.sp <| Lex.sg 60 (by decide) <| Lex.atm 104 [] (by decide +kernel) (nh (by decide +kernel)) <| Lex.sg 64 (by decide) <| Lex.atm 105 [] (by decide +kernel) (nh (by decide +kernel)) <| Lex.sg 62 (by decide) <| Lex.sg 59 (by decide) <| Lex.nil
def sufWB : List UInt8 := [58, 99, 46, 34, 100, 32, 101, 34, 64, 102, 46, 103, 62, 44, 32, 71, 58, 32, 60, 104, 64, 105, 62, 59]
abbrev sufWT : List Tk := [⟨.sign, [58]⟩, ⟨.atom, [99]⟩, ⟨.sign, [46]⟩, ⟨.quoted, [100, 32, 101]⟩, ⟨.sign, [64]⟩, ⟨.atom, [102]⟩, ⟨.sign, [46]⟩, ⟨.atom, [103]⟩, ⟨.sign, [62]⟩, ⟨.sign, [44]⟩, ⟨.atom, [71]⟩, ⟨.sign, [58]⟩, ⟨.sign, [60]⟩, ⟨.atom, [104]⟩, ⟨.sign, [64]⟩, ⟨.atom, [105]⟩, ⟨.sign, [62]⟩, ⟨.sign, [59]⟩]
theorem sufW_lex : Lex sufWB sufWT := Lex.sg 58 (by decide) <| Lex.atm 99 [] (by decide +kernel) (nh (by decide +kernel)) <| Lex.sg 46 (by decide) <| Lex.quo [100, 32, 101] (by decide) <| Lex.sg 64 (by decide) <| Lex.atm 102 [] (by decide +kernel) (nh (by decide +kernel)) <| Lex.sg 46 (by decide) <| Lex.atm 103 [] (by decide +kernel) (nh (by decide +kernel)) <| Lex.sg 62 (by decide) <| Lex.sg 44 (by decide) <| Lex.sp <| Lex.atm 71 [] (by decide +kernel) (nh (by decide +kernel)) <| Lex.sg 58 (by decide) <| Lex.sp <| Lex.sg 60 (by decide) <| Lex.atm 104 [] (by decide +kernel) (nh (by decide +kernel)) <| Lex.sg 64 (by decide) <| Lex.atm 105 [] (by decide +kernel) (nh (by decide +kernel)) <| Lex.sg 62 (by decide) <| Lex.sg 59 (by decide) <| Lex.nil
def sufOB : List UInt8 := [32, 99, 46, 34, 100, 32, 101, 34, 64, 102, 46, 103, 62, 44, 32, 71, 58, 32, 60, 104, 64, 105, 62, 59]
abbrev sufOT : List Tk := [⟨.atom, [99]⟩, ⟨.sign, [46]⟩, ⟨.quoted, [100, 32, 101]⟩, ⟨.sign, [64]⟩, ⟨.atom, [102]⟩, ⟨.sign, [46]⟩, ⟨.atom, [103]⟩, ⟨.sign, [62]⟩, ⟨.sign, [44]⟩, ⟨.atom, [71]⟩, ⟨.sign, [58]⟩, ⟨.sign, [60]⟩, ⟨.atom, [104]⟩, ⟨.sign, [64]⟩, ⟨.atom, [105]⟩, ⟨.sign, [62]⟩, ⟨.sign, [59]⟩]
theorem sufO_lex : Lex sufOB sufOT := Lex.sp <| Lex.atm 99 [] (by decide +kernel) (nh (by decide +kernel)) <| Lex.sg 46 (by decide) <| Lex.quo [100, 32, 101] (by decide) <| Lex.sg 64 (by decide) <| Lex.atm 102 [] (by decide +kernel) (nh (by decide +kernel)) <| Lex.sg 46 (by decide) <| Lex.atm 103 [] (by decide +kernel) (nh (by decide +kernel)) <| Lex.sg 62 (by decide) <| Lex.sg 44 (by decide) <| Lex.sp <| Lex.atm 71 [] (by decide +kernel) (nh (by decide +kernel)) <| Lex.sg 58 (by decide) <| Lex.sp <| Lex.sg 60 (by decide) <| Lex.atm 104 [] (by decide +kernel) (nh (by decide +kernel)) <| Lex.sg 64 (by decide) <| Lex.atm 105 [] (by decide +kernel) (nh (by decide +kernel)) <| Lex.sg 62 (by decide) <| Lex.sg 59 (by decide) <| Lex.nil
def sufIB : List UInt8 := [58, 104, 64, 105, 62, 59]
abbrev sufIT : List Tk := [⟨.sign, [58]⟩, ⟨.atom, [104]⟩, ⟨.sign, [64]⟩, ⟨.atom, [105]⟩, ⟨.sign, [62]⟩, ⟨.sign, [59]⟩]
theorem sufI_lex : Lex sufIB sufIT := Lex.sg 58 (by decide) <| Lex.atm 104 [] (by decide +kernel) (nh (by decide +kernel)) <| Lex.sg 64 (by decide) <| Lex.atm 105 [] (by decide +kernel) (nh (by decide +kernel)) <| Lex.sg 62 (by decide) <| Lex.sg 59 (by decide) <| Lex.nil
def sufRB : List UInt8 := [58, 32, 99, 64, 100]
abbrev sufRT : List Tk := [⟨.sign, [58]⟩, ⟨.atom, [99]⟩, ⟨.sign, [64]⟩, ⟨.atom, [100]⟩]
theorem sufR_lex : Lex sufRB sufRT := Lex.sg 58 (by decide) <| Lex.sp <| Lex.atm 99 [] (by decide +kernel) (nh (by decide +kernel)) <| Lex.sg 64 (by decide) <| Lex.atm 100 [] (by decide +kernel) rfl <| Lex.nil
def rtA : List Nat → List Tk
  | [] => []
  | i :: r => pT i ++ rtA r
def rtN : List Nat → List Tk
  | [] => []
  | i :: r => nT i ++ rtN r
theorem nT_eq : ∀ i, noCom (pT i) = nT i
  | 0 => rfl
  | 1 => rfl
  | 2 => rfl
  | 3 => rfl
  | 4 => rfl
  | 5 => rfl
  | 6 => rfl
  | _ + 7 => rfl
theorem noCom_append (a b : List Tk) : noCom (a ++ b) = noCom a ++ noCom b := List.filter_append a b
theorem rtN_eq : ∀ is, noCom (rtA is) = rtN is
  | [] => rfl
  | i :: r => by rw [rtA, noCom_append, nT_eq, rtN_eq r]; rfl
abbrev routeB (is : List Nat) : List UInt8 := BJ.catB [32] (is.map piece)
theorem lexR : ∀ (is : List Nat) {rest : List UInt8} {toks : List Tk}, notHd atomU rest = true → Lex rest toks → Lex (routeB is ++ rest) (rtA is ++ toks)
  | [], _, _, _, K => K
  | [i], _, _, hn, K => by
    have := lexP i hn K
    show Lex (piece i ++ _) ((pT i ++ []) ++ _)
    rwa [List.append_nil]
  | i :: j :: r, rest, toks, hn, K => by
    have := lexP i (rest := 32 :: (routeB (j :: r) ++ rest)) (nh (by decide +kernel)) (Lex.sp (lexR (j :: r) hn K))
    show Lex ((piece i ++ [32] ++ routeB (j :: r)) ++ rest) ((pT i ++ rtA (j :: r)) ++ toks)
    rwa [List.append_assoc, List.append_assoc, List.append_assoc]
theorem pT_len : ∀ i, (pT i).length ≤ 4 ∧ (wcat (pT i)).length ≤ 10 ∧ (piece i).length ≤ 11 ∧ (piece i).all okB = true
  | 0 => by decide
  | 1 => by decide
  | 2 => by decide
  | 3 => by decide
  | 4 => by decide
  | 5 => by decide
  | 6 => by decide
  | _ + 7 => ⟨by show [_].length ≤ 4; decide, by show (wcat [_]).length ≤ 10; decide, by show [_, _, _, _, _].length ≤ 11; decide, by show List.all [_, _, _, _, _] okB = true; decide⟩
theorem rtA_len : ∀ is, (rtA is).length ≤ 4 * is.length ∧ (wcat (rtA is)).length ≤ 10 * is.length
  | [] => by decide
  | i :: r => by
    have := pT_len i
    have := rtA_len r
    rw [rtA, wcat_append, List.length_append, List.length_append, List.length_cons]; omega
theorem route_len : ∀ is, (routeB is).length ≤ 12 * is.length ∧ (routeB is).all okB = true
  | [] => by decide
  | [i] => by
    have := pT_len i
    exact ⟨by show (piece i).length ≤ 12; omega, this.2.2.2⟩
  | i :: j :: r => by
    have h := pT_len i
    have ih := route_len (j :: r)
    constructor
    · show (piece i ++ [32] ++ routeB (j :: r)).length ≤ _
      rw [List.length_append, List.length_append, List.length_cons]
      simp only [List.length_cons, List.length_nil] at ih ⊢
      omega
    · show (piece i ++ [32] ++ routeB (j :: r)).all okB = true
      rw [List.all_append, List.all_append, h.2.2.2, ih.2]; rfl
theorem rtN_hd (b : List UInt8) (h1 : (([64] : List UInt8) == b) = false) (h2 : (([44] : List UInt8) == b) = false) {tl : List Tk} (h : standsB tl b = false) : ∀ is, standsB (rtN is ++ tl) b = false
  | [] => h
  | 0 :: _ => h1
  | 1 :: _ => h1
  | 2 :: _ => h1
  | 3 :: _ => h2
  | 4 :: _ => h2
  | 5 :: _ => h1
  | 6 :: _ => rfl
  | (_ + 7) :: r => rtN_hd b h1 h2 h r
def kW : Nat → Bool
  | 6 => true
  | _ => false
def kR : Nat → Bool
  | 0 | 1 | 2 | 3 | 4 | 5 => true
  | _ => false
def isW : List Nat → Bool
  | [] => false
  | i :: r => kW i || isW r
def isR : List Nat → Bool
  | [] => false
  | i :: r => kR i || isR r
theorem dom1 {a : List UInt8} {s : List Tk} (h : standsB s [46] = false) : domP (⟨.atom, a⟩ :: s) = some (Txt.join "." [textOf a], s) := by
  rw [domP_not rfl, atomsA_cons]
  show (if standsB s [46] = true then atomsA [a] s.tail else some ([a], s)).map _ = _
  rw [if_neg (by rw [h]; decide)]; rfl
theorem dom2 {a b : List UInt8} {s : List Tk} (h : standsB s [46] = false) : domP (⟨.atom, a⟩ :: ⟨.sign, [46]⟩ :: ⟨.atom, b⟩ :: s) = some (Txt.join "." [textOf a, textOf b], s) := by
  rw [domP_not rfl]
  show (atomsA [a] (⟨.atom, b⟩ :: s)).map _ = _
  rw [atomsA_cons]
  show (if standsB s [46] = true then atomsA [a, b] s.tail else some ([a, b], s)).map _ = _
  rw [if_neg (by rw [h]; decide)]; rfl
theorem routeL {tl : List Tk} {o : Option (List Tk)} (h46 : standsB tl [46] = false) (H : RouteL tl o) : ∀ is, RouteL (rtN is ++ tl) (bif isW is then none else o)
  | [] => H
  | i :: r => by
    have ih := routeL h46 H r
    have hd := rtN_hd [46] rfl rfl h46 r
    show RouteL ((nT i ++ rtN r) ++ tl) (bif kW i || isW r then none else o)
    rw [List.append_assoc]
    generalize rtN r ++ tl = s at ih hd ⊢
    match i with
    | 0 => exact .dom rfl rfl rfl (dom1 hd) ih
    | 1 => exact .dom rfl rfl rfl (dom2 hd) ih
    | 2 => exact .dom rfl rfl rfl (domP_lit rfl) ih
    | 3 => exact .comma rfl rfl ih
    | 4 => exact .comma rfl rfl (.comma rfl rfl ih)
    | 5 => exact .dom rfl rfl rfl (dom2 hd) ih
    | 6 => exact .bad rfl rfl rfl
    | _ + 7 => exact ih
def mt (name : Str) (s1 : List Tk) : Option (Mb × List Tk) := mailTail true name (s1.takeWhile isWord) (s1.dropWhile isWord)
theorem mail_no {name : Str} {ws s r : List Tk} {x : Str} (h : domP s.tail = some (x, r)) (h62 : standsB r [62] = false) : mailTail true name ws s = none := by
  unfold mailTail
  rw [h]
  simp [h62]
abbrev xT : Tk := ⟨.atom, [120]⟩
theorem mtX {name : Str} {tl : List Tk} (h46 : standsB tl [46] = false) (h62 : standsB tl [62] = false) (h0 : mt name (xT :: tl) = none) : ∀ is, mt name (xT :: (rtN is ++ tl)) = none
  | [] => h0
  | i :: r => by
    have ih := mtX h46 h62 h0 r
    have hd := rtN_hd [46] rfl rfl h46 r
    have hd2 := rtN_hd [62] rfl rfl h62 r
    show mt name (xT :: ((nT i ++ rtN r) ++ tl)) = none
    rw [List.append_assoc]
    generalize rtN r ++ tl = s at ih hd hd2 ⊢
    match i with
    | 0 => exact mail_no (s := ⟨.sign, [64]⟩ :: ⟨.atom, [97]⟩ :: s) (dom1 hd) hd2
    | 1 => exact mail_no (s := ⟨.sign, [64]⟩ :: ⟨.atom, [98]⟩ :: ⟨.sign, [46]⟩ :: ⟨.atom, [99, 45, 49]⟩ :: s) (dom2 hd) hd2
    | 2 => exact mail_no (s := ⟨.sign, [64]⟩ :: ⟨.literal, [49, 48, 46, 48, 46, 48, 46, 49]⟩ :: s) (domP_lit rfl) hd2
    | 3 => rfl
    | 4 => rfl
    | 5 => exact mail_no (s := ⟨.sign, [64]⟩ :: ⟨.atom, [100]⟩ :: ⟨.sign, [46]⟩ :: ⟨.atom, [101]⟩ :: s) (dom2 hd) hd2
    | 6 => rfl
    | _ + 7 => exact ih
theorem route_mail {name : Str} {tl : List Tk} {o : Option (List Tk)} (h46 : standsB tl [46] = false) (h62 : standsB tl [62] = false) (h64 : standsB tl [64] = false) (h44 : standsB tl [44] = false) (h0 : mt name (xT :: tl) = none) (H : RouteL tl o) :
    ∀ is, ∃ o1, RouteP (rtN is ++ tl) o1 ∧ o1.bind (mt name) = bif isW is then none else (bif isR is then o.bind (mt name) else mt name tl)
  | [] => ⟨some tl, ⟨fun _ _ => rfl, fun h => (h.elim (fun h => nomatch h64.symm.trans h) fun h => nomatch h44.symm.trans h)⟩, rfl⟩
  | 6 :: r => ⟨some (rtN (6 :: r) ++ tl), ⟨fun _ _ => rfl, fun h => (h.elim (fun h => nomatch h) fun h => nomatch h)⟩, mtX h46 h62 h0 r⟩
  | (_ + 7) :: r => route_mail h46 h62 h64 h44 h0 H r
  | 0 :: r => ⟨_, ⟨fun h => (nomatch h), fun _ => routeL h46 H (0 :: r)⟩, by show Option.bind (bif isW r then none else o) _ = bif isW r then none else _; cases isW r <;> rfl⟩
  | 1 :: r => ⟨_, ⟨fun h => (nomatch h), fun _ => routeL h46 H (1 :: r)⟩, by show Option.bind (bif isW r then none else o) _ = bif isW r then none else _; cases isW r <;> rfl⟩
  | 2 :: r => ⟨_, ⟨fun h => (nomatch h), fun _ => routeL h46 H (2 :: r)⟩, by show Option.bind (bif isW r then none else o) _ = bif isW r then none else _; cases isW r <;> rfl⟩
  | 3 :: r => ⟨_, ⟨fun _ h => (nomatch h), fun _ => routeL h46 H (3 :: r)⟩, by show Option.bind (bif isW r then none else o) _ = bif isW r then none else _; cases isW r <;> rfl⟩
  | 4 :: r => ⟨_, ⟨fun _ h => (nomatch h), fun _ => routeL h46 H (4 :: r)⟩, by show Option.bind (bif isW r then none else o) _ = bif isW r then none else _; cases isW r <;> rfl⟩
  | 5 :: r => ⟨_, ⟨fun h => (nomatch h), fun _ => routeL h46 H (5 :: r)⟩, by show Option.bind (bif isW r then none else o) _ = bif isW r then none else _; cases isW r <;> rfl⟩
section
variable {α : Type} {R : List Tk → Option (α × List Tk) → Prop} {n : Nat} {s s1 : List Tk} {x : α} {o : Option (List α × List Tk)}
theorem ListR.item (h1 : (s.isEmpty || standsB s [59]) = false) (h2 : standsB s [44] = false) (hR : R s (some (x, s1))) (h3 : (s1.isEmpty || standsB s1 [44] || standsB s1 [59]) = true) (H : ListR R n s1 o) : ListR R (n + 1) s (o.map fun z => (x :: z.1, z.2)) := by
  unfold ListR
  rw [if_neg (by rw [h1]; decide), if_neg (by rw [h2]; decide)]
  refine ⟨_, hR, ?_⟩
  dsimp only
  rw [if_pos h3]
  exact ⟨o, H, rfl⟩
theorem ListR.bad (h1 : (s.isEmpty || standsB s [59]) = false) (h2 : standsB s [44] = false) (hR : R s none) : ListR R (n + 1) s none := by
  unfold ListR
  rw [if_neg (by rw [h1]; decide), if_neg (by rw [h2]; decide)]
  exact ⟨_, hR, rfl⟩
theorem ListR.comma (h1 : (s.isEmpty || standsB s [59]) = false) (h2 : standsB s [44] = true) (H : ListR R n s.tail o) : ListR R (n + 1) s o := by
  unfold ListR
  rw [if_neg (by rw [h1]; decide), if_pos h2]
  exact H
theorem ListR.fin (h1 : (s.isEmpty || standsB s [59]) = true) : ListR R n s (some ([], s)) := by
  cases n with
  | zero => exact ⟨h1, rfl⟩
  | succ n => unfold ListR; rw [if_pos h1]
end
abbrev mb1 : Mb := ⟨"", "first", "w"⟩
abbrev mb2 : Mb := ⟨"Ann Lee", "c.d e", "f.g"⟩
abbrev mb3 : Mb := ⟨"", "h", "i"⟩
abbrev plain : List Pl := [.mb mb1, .mb mb2, .gp "G" [mb3]]
abbrev gT : List Tk := [⟨.sign, [44]⟩, ⟨.atom, [71]⟩, ⟨.sign, [58]⟩, ⟨.sign, [60]⟩, ⟨.atom, [104]⟩, ⟨.sign, [64]⟩, ⟨.atom, [105]⟩, ⟨.sign, [62]⟩, ⟨.sign, [59]⟩]
theorem place1 (r : List Tk) : PlaceF (⟨.atom, [102, 105, 114, 115, 116]⟩ :: ⟨.sign, [64]⟩ :: ⟨.atom, [119]⟩ :: ⟨.sign, [44]⟩ :: r) (some (.mb mb1, ⟨.sign, [44]⟩ :: r)) :=
  ⟨rfl, by show (BJ.catB [32] [_]).length < _; decide, none, none, 0, fun h => (nomatch h), fun h => (nomatch h), rfl⟩
abbrev annT (s : List Tk) : List Tk := ⟨.atom, [65, 110, 110]⟩ :: ⟨.atom, [76, 101, 101]⟩ :: ⟨.sign, [60]⟩ :: s
theorem place2 {s : List Tk} {o1 : Option (List Tk)} (h : RouteP s o1) : PlaceF (annT s) ((o1.bind (mt "Ann Lee")).map fun z => (.mb z.1, z.2)) :=
  ⟨rfl, by show (BJ.catB [32] [_, _]).length < _; decide, o1, none, 0, fun _ => h, fun h => (nomatch h), rfl⟩
theorem placeT {s : List Tk} {o1 : Option (List Tk)} (h : RouteP s o1) : PlaceT (⟨.sign, [60]⟩ :: s) (o1.bind (mt "")) :=
  ⟨rfl, by show (BJ.catB [32] []).length < _; decide, o1, fun _ => h, rfl⟩
theorem place3 {s : List Tk} {n : Nat} {o2 : Option (List Mb × List Tk)} (hn : n < 2 ^ 16) (h : ListR PlaceT n s o2) :
    PlaceF (⟨.atom, [71]⟩ :: ⟨.sign, [58]⟩ :: s) (o2.bind fun z => if standsB z.2 [59] then some (Pl.gp "G" z.1, z.2.tail) else none) :=
  ⟨rfl, by show (BJ.catB [32] [_]).length < _; decide, none, o2, n, fun h => (nomatch h), fun _ _ => ⟨hn, h⟩, rfl⟩
theorem listG : ListR PlaceF 2 gT (some ([Pl.gp "G" [mb3]], [])) :=
  ListR.comma rfl rfl (ListR.item (o := some ([], [])) rfl rfl (x := Pl.gp "G" [mb3]) (s1 := []) (place3 (o2 := some ([mb3], [⟨.sign, [59]⟩])) (n := 1) (by decide)
    (ListR.item (o := some ([], [⟨.sign, [59]⟩])) (s1 := [⟨.sign, [59]⟩]) (x := mb3) rfl rfl (placeT (o1 := some [⟨.atom, [104]⟩, ⟨.sign, [64]⟩, ⟨.atom, [105]⟩, ⟨.sign, [62]⟩, ⟨.sign, [59]⟩]) ⟨fun _ _ => rfl, fun h => (h.elim (fun h => nomatch h) fun h => nomatch h)⟩) rfl (ListR.fin rfl))) rfl (ListR.fin rfl))
/-- the whole list of the first kind -/
theorem listW {s : List Tk} {o1 : Option (List Tk)} {b : Bool} (h : RouteP s o1) (e : o1.bind (mt "Ann Lee") = bif b then some (mb2, gT) else none) :
    ListR PlaceF 5 (preT ++ s) (bif b then some (plain, []) else none) := by
  have h2 := place2 h
  rw [e] at h2
  cases b with
  | true => exact ListR.item (o := some ([Pl.mb mb2, Pl.gp "G" [mb3]], [])) rfl rfl (place1 _) rfl (ListR.comma rfl rfl (ListR.item (o := some ([Pl.gp "G" [mb3]], [])) (s1 := gT) rfl rfl h2 rfl listG))
  | false => exact ListR.item (o := none) rfl rfl (place1 _) rfl (ListR.comma rfl rfl (ListR.bad rfl rfl h2))
theorem listI {s : List Tk} {o1 : Option (List Tk)} {b : Bool} (h : RouteP s o1) (e : o1.bind (mt "") = bif b then some (mb3, [⟨.sign, [59]⟩]) else none) :
    ListR PlaceF 5 (preIT ++ s) (bif b then some (plain, []) else none) := by
  have h2 := placeT h
  rw [e] at h2
  have h1 : ∀ r, RouteP (⟨.atom, [99]⟩ :: r) (some (⟨.atom, [99]⟩ :: r)) := fun r => ⟨fun _ _ => rfl, fun h => (h.elim (fun h => nomatch h) fun h => nomatch h)⟩
  have hA : ListR PlaceT 1 (⟨.sign, [60]⟩ :: s) (bif b then some ([mb3], [⟨.sign, [59]⟩]) else none) := by
    cases b with
    | true => exact ListR.item (o := some ([], [⟨.sign, [59]⟩])) rfl rfl h2 rfl (ListR.fin rfl)
    | false => exact ListR.bad rfl rfl h2
  have hP := place3 (by decide) hA
  have hC : PlaceF (annT (⟨.atom, [99]⟩ :: ⟨.sign, [46]⟩ :: ⟨.quoted, [100, 32, 101]⟩ :: ⟨.sign, [64]⟩ :: ⟨.atom, [102]⟩ :: ⟨.sign, [46]⟩ :: ⟨.atom, [103]⟩ :: ⟨.sign, [62]⟩ :: ⟨.sign, [44]⟩ :: ⟨.atom, [71]⟩ :: ⟨.sign, [58]⟩ :: ⟨.sign, [60]⟩ :: s))
    (some (Pl.mb mb2, ⟨.sign, [44]⟩ :: ⟨.atom, [71]⟩ :: ⟨.sign, [58]⟩ :: ⟨.sign, [60]⟩ :: s)) := by
    have e : ∀ r, mt "Ann Lee" (⟨.atom, [99]⟩ :: ⟨.sign, [46]⟩ :: ⟨.quoted, [100, 32, 101]⟩ :: ⟨.sign, [64]⟩ :: ⟨.atom, [102]⟩ :: ⟨.sign, [46]⟩ :: ⟨.atom, [103]⟩ :: ⟨.sign, [62]⟩ :: r) = some (mb2, r) := fun r => by
      have d := dom2 (a := [102]) (b := [103]) (s := ⟨.sign, [62]⟩ :: r) rfl
      have e1 : ((⟨.atom, [99]⟩ :: ⟨.sign, [46]⟩ :: ⟨.quoted, [100, 32, 101]⟩ :: ⟨.sign, [64]⟩ :: ⟨.atom, [102]⟩ :: ⟨.sign, [46]⟩ :: ⟨.atom, [103]⟩ :: ⟨.sign, [62]⟩ :: r : List Tk).takeWhile isWord) = [⟨.atom, [99]⟩, ⟨.sign, [46]⟩, ⟨.quoted, [100, 32, 101]⟩] := rfl
      have e2 : ((⟨.atom, [99]⟩ :: ⟨.sign, [46]⟩ :: ⟨.quoted, [100, 32, 101]⟩ :: ⟨.sign, [64]⟩ :: ⟨.atom, [102]⟩ :: ⟨.sign, [46]⟩ :: ⟨.atom, [103]⟩ :: ⟨.sign, [62]⟩ :: r : List Tk).dropWhile isWord) = ⟨.sign, [64]⟩ :: ⟨.atom, [102]⟩ :: ⟨.sign, [46]⟩ :: ⟨.atom, [103]⟩ :: ⟨.sign, [62]⟩ :: r := rfl
      unfold mt mailTail
      rw [e1, e2, if_pos (by decide), if_pos (c := standsB _ [64] = true) rfl]
      simp only [List.tail_cons]
      rw [d]
      dsimp only
      rw [if_pos trivial, if_pos (c := standsB _ [62] = true) rfl]
      show some ((⟨"Ann Lee", textOf [99, 46, 100, 32, 101], Txt.join "." [textOf [102], textOf [103]]⟩ : Mb), r) = _
      rw [show (⟨"Ann Lee", textOf [99, 46, 100, 32, 101], Txt.join "." [textOf [102], textOf [103]]⟩ : Mb) = mb2 by decide +kernel]
    have h := place2 (h1 (⟨.sign, [46]⟩ :: ⟨.quoted, [100, 32, 101]⟩ :: ⟨.sign, [64]⟩ :: ⟨.atom, [102]⟩ :: ⟨.sign, [46]⟩ :: ⟨.atom, [103]⟩ :: ⟨.sign, [62]⟩ :: ⟨.sign, [44]⟩ :: ⟨.atom, [71]⟩ :: ⟨.sign, [58]⟩ :: ⟨.sign, [60]⟩ :: s))
    rw [Option.bind_some, e] at h
    exact h
  have k : ∀ {o : Option (List Pl × List Tk)}, ListR PlaceF 1 (⟨.atom, [71]⟩ :: ⟨.sign, [58]⟩ :: ⟨.sign, [60]⟩ :: s) o → ListR PlaceF 5 (preIT ++ s) ((o.map fun z => (Pl.mb mb2 :: z.1, z.2)).map fun z => (Pl.mb mb1 :: z.1, z.2)) := fun H =>
    ListR.item rfl rfl (place1 _) rfl (ListR.comma rfl rfl (ListR.item (x := Pl.mb mb2) (s1 := ⟨.sign, [44]⟩ :: ⟨.atom, [71]⟩ :: ⟨.sign, [58]⟩ :: ⟨.sign, [60]⟩ :: s) rfl rfl hC rfl (ListR.comma rfl rfl H)))
  cases b with
  | true => exact k (o := some ([Pl.gp "G" [mb3]], [])) (ListR.item (o := some ([], [])) rfl rfl hP rfl (ListR.fin rfl))
  | false => exact k (o := none) (ListR.bad rfl rfl hP)
def Heard (d : List UInt8) (o : Option (List Pl)) : Prop := d.length < 2 ^ 16 ∧ d.all okB = true ∧ ∃ toks n out, Lex d toks ∧ (toks.length < 2 ^ 16 ∧ (wcat toks).length < 2 ^ 16) ∧ n < 2 ^ 16 ∧ ListR PlaceF n (noCom toks) out ∧ HeardOk out ∧ addrOut out = o
theorem heard_of {is : List Nat} {pB sB : List UInt8} {pX sX : List Tk} {b : Bool} (hl : is.length ≤ 5) (hp : pB.length < 100 ∧ pB.all okB = true ∧ pX.length < 100 ∧ (wcat pX).length < 100 ∧ noCom pX = pX) (hs : sB.length < 100 ∧ sB.all okB = true ∧ sX.length < 100 ∧ (wcat sX).length < 100 ∧ noCom sX = sX)
    (hPL : ∀ {rest : List UInt8} {toks : List Tk}, Lex rest toks → Lex (pB ++ rest) (pX ++ toks)) (hSL : Lex (routeB is ++ sB) (rtA is ++ sX)) (H : ListR PlaceF 5 (pX ++ (rtN is ++ sX)) (bif b then some (plain, []) else none)) : Heard (pB ++ (routeB is ++ sB)) (bif b then some plain else none) := by
  obtain ⟨p1, p2, p3, p4, p5⟩ := hp
  obtain ⟨s1, s2, s3, s4, s5⟩ := hs
  have h1 := rtA_len is
  have h2 := route_len is
  refine ⟨?_, ?_, pX ++ (rtA is ++ sX), 5, (bif b then some (plain, []) else none), hPL hSL, ⟨?_, ?_⟩, by decide, ?_, ?_, ?_⟩
  · rw [List.length_append, List.length_append]; omega
  · rw [List.all_append, List.all_append, p2, h2.2, s2]; rfl
  · rw [List.length_append, List.length_append]; omega
  · rw [wcat_append, wcat_append, List.length_append, List.length_append]; omega
  · rw [noCom_append, noCom_append, p5, s5, rtN_eq]; exact H
  · intro xs e
    cases b with
    | false => cases e
    | true =>
      cases e
      refine ⟨by decide, fun name ms h => ?_⟩
      simp only [plain, List.mem_cons, List.not_mem_nil, or_false, reduceCtorEq, false_or, Pl.gp.injEq] at h
      rw [h.2]; decide
  · cases b <;> rfl
theorem heard_whole (is : List Nat) (hl : is.length ≤ 5) : Heard (preB ++ (routeB is ++ sufWB)) (bif isR is && !isW is then some plain else none) := by
  obtain ⟨o1, h, e⟩ := route_mail (name := "Ann Lee") (tl := sufWT) (o := some sufPT) rfl rfl rfl rfl rfl (.colon rfl) is
  refine heard_of hl (by decide) (by decide) pre_lex (lexR is (nh (by decide +kernel)) sufW_lex) (listW h (e.trans ?_))
  cases isW is <;> cases isR is <;> rfl
theorem heard_open (is : List Nat) (hl : is.length ≤ 5) : Heard (preB ++ (routeB is ++ sufOB)) (bif isR is || isW is then none else some plain) := by
  obtain ⟨o1, h, e⟩ := route_mail (name := "Ann Lee") (tl := sufOT) (o := none) rfl rfl rfl rfl rfl (.bad rfl rfl rfl) is
  have := heard_of (b := !(isR is || isW is)) hl (by decide) (by decide) pre_lex (lexR is (nh (by decide +kernel)) sufO_lex) (listW h (e.trans (by cases isW is <;> cases isR is <;> rfl)))
  revert this
  cases isW is <;> cases isR is <;> exact id
theorem heard_inner (is : List Nat) (hl : is.length ≤ 5) : Heard (preIB ++ (routeB is ++ sufIB)) (bif isR is && !isW is then some plain else none) := by
  obtain ⟨o1, h, e⟩ := route_mail (name := "") (tl := sufIT) (o := some sufIT.tail) rfl rfl rfl rfl rfl (.colon rfl) is
  refine heard_of hl (by decide) (by decide) preI_lex (lexR is (nh (by decide +kernel)) sufI_lex) (listI h (e.trans ?_))
  cases isW is <;> cases isR is <;> rfl
theorem heard_plain : Heard (preB ++ sufPB) (some plain) :=
  heard_of (is := []) (b := true) (sX := sufPT) (by decide) (by decide) (by decide) pre_lex sufP_lex (listW (o1 := some sufPT) (b := true) ⟨fun _ _ => rfl, fun h => (h.elim (fun h => nomatch h) fun h => nomatch h)⟩ rfl)
theorem routeP_R {tl : List Tk} {o : Option (List Tk)} (h46 : standsB tl [46] = false) (H : RouteL tl o) : ∀ is, isR is = true → isW is = false → RouteP (rtN is ++ tl) o
  | [], h, _ => nomatch h
  | 6 :: r, _, h => nomatch h
  | (_ + 7) :: r, h, h' => routeP_R h46 H r h h'
  | 0 :: r, _, h => ⟨fun h => (nomatch h), fun _ => by have := routeL h46 H (0 :: r); rwa [show isW (0 :: r) = false from h] at this⟩
  | 1 :: r, _, h => ⟨fun h => (nomatch h), fun _ => by have := routeL h46 H (1 :: r); rwa [show isW (1 :: r) = false from h] at this⟩
  | 2 :: r, _, h => ⟨fun h => (nomatch h), fun _ => by have := routeL h46 H (2 :: r); rwa [show isW (2 :: r) = false from h] at this⟩
  | 3 :: r, _, h => ⟨fun _ h => (nomatch h), fun _ => by have := routeL h46 H (3 :: r); rwa [show isW (3 :: r) = false from h] at this⟩
  | 4 :: r, _, h => ⟨fun _ h => (nomatch h), fun _ => by have := routeL h46 H (4 :: r); rwa [show isW (4 :: r) = false from h] at this⟩
  | 5 :: r, _, h => ⟨fun h => (nomatch h), fun _ => by have := routeL h46 H (5 :: r); rwa [show isW (5 :: r) = false from h] at this⟩
theorem reader_law (is : List Nat) (hl : is.length ≤ 5) (hR : isR is = true) (hW : isW is = false) :
    (routeB is ++ sufRB).length < 2 ^ 16 ∧ (routeB is ++ sufRB).all okB = true ∧ ∃ toks, Lex (routeB is ++ sufRB) toks ∧ (toks.length < 2 ^ 16 ∧ (wcat toks).length < 2 ^ 16) ∧ RouteP (noCom toks) (some sufRT.tail) := by
  have h1 := rtA_len is
  have h2 := route_len is
  have s1 : sufRB.length < 100 := by decide
  have s3 : sufRT.length < 100 := by decide
  have s4 : (wcat sufRT).length < 100 := by decide
  refine ⟨?_, ?_, rtA is ++ sufRT, lexR is (nh (by decide +kernel)) sufR_lex, ⟨?_, ?_⟩, ?_⟩
  · rw [List.length_append]; omega
  · rw [List.all_append, h2.2]; decide
  · rw [List.length_append]; omega
  · rw [wcat_append, List.length_append]; omega
  · rw [noCom_append, rtN_eq]
    exact routeP_R rfl (.colon rfl) is hR hW
end part_P1
section part_M1
namespace BC
open SeqAt
theorem eqAt_bytes {A : Around} {s : Shared} (b : Array UInt8) (t : Tok) (c : Array UInt8) (u : Tok) : EqAt A s (.bytes b t) (.bytes c u) (b.toList == c.toList) := fun prog w E Q h => by
  unfold eqBool
  refine wpAny_holding ?_
  refine wpAny_ite_split (fun hab => ?_) (fun _ => ?_)
  · have e : b = c := by have := eq_of_beq hab; injection this
    subst e
    exact wpAny_bind (wpAny_rule (wpAny_pure (by simpa using h)))
  · exact wpAny_bind (show wpAny (model prog w) A (richCompare .Eq (.bytes b t) (.bytes c u)) _ E s from eq_bytes (wpAny_truthy_bool h))
def isB (x : List UInt8) : Value → Bool
  | .bytes b _ => b.toList == x
  | _ => false
section
variable {prog : Program} {w : World} {A : Around} {E : Value → Shared → Prop} {s : Shared} {h₀ : Heap} {L : Addr} {m : PySem.Str → Option Value} {news : Led} {Q : Value → Shared → Prop}
theorem in_list {D : Addr} {ep : Nat} {l : List (List UInt8 × Tok)} {x : List UInt8} {u : Tok} (N : News h₀ L s.heap news) (hD : (D, ({ cls := .type "list", data := .seq ((l.map fun p => Value.bytes ⟨p.1⟩ p.2).toArray) ep } : Obj)) ∈ news)
    (h : Q (.bool (l.any fun p => p.1 == x)) s) : wpAny (model prog w) A (compareOp .In (.bytes ⟨x⟩ u) (.ref D)) Q E s := by
  refine in_listAt (isB x) ⟨_, (N _ hD).1, rfl, _, rfl⟩ (fun y hy => ?_) ?_
  · obtain ⟨p, _, rfl⟩ := List.mem_map.mp (List.mem_toArray.mp hy)
    exact eqAt_bytes _ _ _ _
  · rw [List.any_toArray, List.any_map]
    exact h
theorem notin_two {D : Addr} {n : Nat} {x y z : List UInt8} {t u v : Tok} (N : News h₀ L s.heap news) (hD : (D, ({ cls := .type "tuple", data := .seq #[.bytes ⟨y⟩ t, .bytes ⟨z⟩ u] n } : Obj)) ∈ news)
    (h : Q (.bool (!(y == x || z == x))) s) : wpAny (model prog w) A (compareOp .NotIn (.bytes ⟨x⟩ v) (.ref D)) Q E s := by
  refine notIn_tupleAt (isB x) ⟨_, (N _ hD).1, rfl, _, rfl⟩ (fun y' hy => ?_) ?_
  · simp only [List.mem_toArray, List.mem_cons, List.not_mem_nil, or_false] at hy
    rcases hy with rfl | rfl <;> exact eqAt_bytes _ _ _ _
  · rw [List.any_toArray]
    simp only [List.any_cons, List.any_nil, Bool.or_false]
    exact h
theorem ne_nil {D D' : Addr} {n n' : Nat} {ys : List Value} (N : News h₀ L s.heap news) (hD : (D, ({ cls := .type "list", data := .seq ys.toArray n } : Obj)) ∈ news) (hD' : (D', ({ cls := .type "list", data := .seq #[] n' } : Obj)) ∈ news) (hu : A.units < cLine)
    (h : Q (.bool (!ys.isEmpty)) s) : wpAny (model prog w) A (compareOp .NotEq (.ref D) (.ref D')) Q E s := by
  cases ys with
  | nil =>
    refine RcNeAt.lists (e := fun _ => true) ⟨_, (N _ hD).1, rfl, _, rfl⟩ ⟨_, (N _ hD').1, rfl, _, rfl⟩ rfl hu (fun j h1 _ => absurd h1 (Nat.not_lt_zero _)) prog w E Q ?_
    exact h
  | cons y ys => exact RcNeAt.lists_lengths ⟨_, (N _ hD).1, rfl, _, rfl⟩ ⟨_, (N _ hD').1, rfl, _, rfl⟩ rfl hu prog w E Q h
theorem add_b {b c : List UInt8} {t u : Tok} (hsz : b.length + c.length < 2 ^ 17) (h : ∀ t' k, Q (.bytes ⟨b ++ c⟩ t') { s with toks := k }) : wpAny (model prog w) A (binaryOp .Add (.bytes ⟨b⟩ t) (.bytes ⟨c⟩ u)) Q E s := by
  refine KBy.add_bytes (by show b.length + c.length ≤ _; omega) fun t' k => ?_
  have e : ((⟨b⟩ : Array UInt8) ++ ⟨c⟩) = ⟨b ++ c⟩ := by simp
  rw [e]
  exact h t' k
end
end BC
end part_M1

section part_M2
abbrev plD : PyData := .list (plain.map plData)
theorem plD_self : (!PyData.eqv plD plD) = false ∧ PyData.eqv plD plD = true := by decide +kernel
theorem plD_shaped : SeqAt.shaped plD = true := by decide +kernel
section
variable {prog : Program} {w : World} {p : Program} {loose : List Str} {mean : ExcName → Option Value} {mg mb : Str → Option Value}
    {dp un : Nat} {gd : Option (List Code)} {cn : Str} {cs : Scope} {a : Addr} {ccd : Value} {cl : List (Str × Addr)} {outer : List Env} {A₀ : Around} {base h₀ : Heap} {L : Addr} {m : Str → Option Value} {s : Shared} {Q E : Value → Shared → Prop} {all : Led}
theorem use_heardS {d : List UInt8} {t : Tok} {xs : List Pl} (H : Heard d (some xs)) (B : Below A₀ h₀ [] h₀) (F : Fr h₀ L s.heap m) (X : (Mine.hd.heap_1 w.params).In h₀) (N : News h₀ L s.heap all) (T : Top p loose mean mg mb h₀)
    (hk : cs.kind = .function) (hd : dp + 24 < recursionLimit) (hu : un + 8 * 24 < cLine)
    (k : ∀ x n' h' tk', RdL n' (.ref x) (.list (xs.map plData)) → Fr h₀ L h' m → News h₀ L h' (n' ++ all) → Q (.ref x) { s with heap := h', toks := tk' }) :
    wpAny (model prog w) (ktrTop dp un gd cn cs L a ccd cl []) (call (.ref 333) [.bytes ⟨d⟩ t]) Q E s := by
  obtain ⟨h1, h2, toks, n, out, h3, h4, h5, h6, h7, h8⟩ := H
  refine law_heard_c w d toks t n out h1 h2 h3 h4 h5 h6 h7 prog p loose mean mg mb dp un gd cn cs a ccd cl A₀ h₀ h₀ L m s Q E all B X T F X N T hk hd hu fun v n' h' tk' F' N' hp => ?_
  rw [h8] at hp
  obtain ⟨x, rfl, hr⟩ := hp
  exact k x n' h' tk' hr F' N'
theorem use_heardN {d : List UInt8} {t : Tok} (H : Heard d none) (B : Below A₀ h₀ [] h₀) (F : Fr h₀ L s.heap m) (X : (Mine.hd.heap_1 w.params).In h₀) (N : News h₀ L s.heap all) (T : Top p loose mean mg mb h₀)
    (hk : cs.kind = .function) (hd : dp + 24 < recursionLimit) (hu : un + 8 * 24 < cLine)
    (k : ∀ h' tk', Fr h₀ L h' m → News h₀ L h' all → Q .none { s with heap := h', toks := tk' }) :
    wpAny (model prog w) (ktrTop dp un gd cn cs L a ccd cl []) (call (.ref 333) [.bytes ⟨d⟩ t]) Q E s := by
  obtain ⟨h1, h2, toks, n, out, h3, h4, h5, h6, h7, h8⟩ := H
  refine law_heard_c w d toks t n out h1 h2 h3 h4 h5 h6 h7 prog p loose mean mg mb dp un gd cn cs a ccd cl A₀ h₀ h₀ L m s Q E all B X T F X N T hk hd hu fun v n' h' tk' F' N' hp => ?_
  rw [h8] at hp
  cases hp
  exact k h' tk' F' fun q hq => N' q (List.mem_append_right _ hq)
theorem RdL.at {n' : Led} {v : Value} {d : PyData} (hr : RdL n' v d) (N : News h₀ L s.heap all) (hm : ∀ q ∈ n', q ∈ all) : ∃ as, Reads s.heap v d as := hr s.heap fun q hq => (N q (hm q hq)).1
theorem len_rd {A : Around} {n' : Led} {x : Addr} {ds : List PyData} (hr : RdL n' (.ref x) (.list ds)) (N : News h₀ L s.heap all) (hm : ∀ q ∈ n', q ∈ all) (hz : ds.length < 2 ^ 16) (h : ∀ t', Q (.int (ds.length : Int) t') { s with toks := s.toks + 1 + 1 }) :
    wpAny (model prog w) A (call (.builtin "len") [.ref x]) Q E s := by
  obtain ⟨as, h1⟩ := hr.at N hm
  cases h1 with
  | list e1 e2 e3 e4 =>
    rename_i vs n as
    have hl : vs.size = ds.length := by simpa using ReadsAll.lenAny e4
    refine len_list ⟨_, e1, e2, _, e3⟩ (by omega) ?_
    rw [hl]
    exact h _
theorem len_rdK {A : Around} {n' : Led} {x : Addr} {ds : List PyData} {k : Int} (hr : RdL n' (.ref x) (.list ds)) (N : News h₀ L s.heap all) (hm : ∀ q ∈ n', q ∈ all) (hz : ds.length < 2 ^ 16) (hk : (ds.length : Int) = k) (h : ∀ t', Q (.int k t') { s with toks := s.toks + 1 + 1 }) :
    wpAny (model prog w) A (call (.builtin "len") [.ref x]) Q E s := len_rd hr N hm hz (hk ▸ h)
theorem ne_rd {A : Around} {n1 n2 : Led} {x y : Value} {d e : PyData} {b : Bool} (hx : RdL n1 x d) (hy : RdL n2 y e) (N : News h₀ L s.heap all) (h1 : ∀ q ∈ n1, q ∈ all) (h2 : ∀ q ∈ n2, q ∈ all) (s1 : SeqAt.shaped d = true) (s2 : SeqAt.shaped e = true) (hu : A.units + 64 < cLine)
    (hb : (!PyData.eqv d e) = b) (h : Q (.bool b) s) : wpAny (model prog w) A (compareOp .NotEq x y) Q E s := by
  obtain ⟨as, r1⟩ := hx.at N h1
  obtain ⟨bs, r2⟩ := hy.at N h2
  exact ne_dataH r1 r2 s1 s2 hu (hb ▸ h)
theorem eq_rd {A : Around} {n1 n2 : Led} {x y : Value} {d e : PyData} {b : Bool} (hx : RdL n1 x d) (hy : RdL n2 y e) (N : News h₀ L s.heap all) (h1 : ∀ q ∈ n1, q ∈ all) (h2 : ∀ q ∈ n2, q ∈ all) (s1 : SeqAt.shaped d = true) (s2 : SeqAt.shaped e = true) (hu : A.units + 64 < cLine)
    (hb : PyData.eqv d e = b) (h : Q (.bool b) s) : wpAny (model prog w) A (compareOp .Eq x y) Q E s := by
  obtain ⟨as, r1⟩ := hx.at N h1
  obtain ⟨bs, r2⟩ := hy.at N h2
  exact eq_dataH r1 r2 s1 s2 hu (hb ▸ h)
theorem ne_none {A : Around} (h : Q (.bool false) s) : wpAny (model prog w) A (compareOp .NotEq .none .none) Q E s := SeqAt.RcNeAt.none_none prog w E Q h
theorem eq_none {A : Around} (h : Q (.bool true) s) : wpAny (model prog w) A (compareOp .Eq .none .none) Q E s := SeqAt.RcAt.none_none prog w E Q h
theorem use_tokens {d : List UInt8} {toks : List Tk} {t : Tok} (hdz : d.length < 2 ^ 16) (hok : d.all okB = true) (hlex : Lex d toks) (hz : toks.length < 2 ^ 16 ∧ (wcat toks).length < 2 ^ 16) (B : Below A₀ base outer h₀) (F : Fr h₀ L s.heap m) (X : (Mine.hd.heap_1 w.params).In h₀) (N : News h₀ L s.heap all) (T : Top p loose mean mg mb h₀)
    (hk : cs.kind = .function) (hd : dp + 8 < recursionLimit) (hu : un + 8 * 8 < cLine)
    (k : ∀ l n' h' tk', LedTL (n' ++ all) l toks → Fr h₀ L h' m → News h₀ L h' (n' ++ all) → Q (.ref l) { s with heap := h', toks := tk' }) :
    wpAny (model prog w) (ktrTop dp un gd cn cs L a ccd cl outer) (call (.ref 118) [.bytes ⟨d⟩ t]) Q E s :=
  use0 (tokens_of_c w s.heap d toks t hdz hok hlex) B F X N T hk hd hu fun v n' h' tk' hp fr F' N' => by
    obtain ⟨fl, ys, ep, tups, rfl, rfl, h1, h2, h3⟩ := hp
    refine k fl _ h' tk' ⟨ys, ep, .head _, hz, h1.mono fun _ _ z => z.mono fun q hq => .tail _ (List.mem_append_left _ hq)⟩ F' N'
theorem use_pass {c : RdC} {pos : Nat} {tk : Tok} {ts sfx r : List Tk} {rest : Led} (hts : LedTL rest c.l ts) (hs : ts.drop pos = sfx) (hr : RouteP sfx (some r)) (ha : Off c rest) (B : Below A₀ base outer h₀) (F : Fr h₀ L s.heap m) (X : (Mine.hd.heap_1 w.params).In h₀) (N : News h₀ L s.heap ((c.r, instObj 262 c.d) :: (c.d, rdDict w.params c pos tk) :: rest)) (T : Top p loose mean mg mb h₀)
    (hk : cs.kind = .function) (hd : dp + 8 < recursionLimit) (hu : un + 8 * 8 < cLine)
    (k : ∀ pos' tk1 h' tk', ts.drop pos' = r → Fr h₀ L h' m → News h₀ L h' ((c.r, instObj 262 c.d) :: (c.d, rdDict w.params c pos' tk1) :: rest) → Q .none { s with heap := h', toks := tk' }) :
    wpAny (model prog w) (ktrTop dp un gd cn cs L a ccd cl outer) (call (.ref 287) [.ref c.r]) Q E s :=
  rd_useL B F X N T hts (fun q _ => pass_route_c w _ c pos tk ts sfx (some r) q hs hr) hk hd hu ha (fun v n' h' tk' hp fr F' N' => by
    obtain ⟨r', pos', tk1, e, rfl, rfl, hdr⟩ := hp
    cases e
    exact k pos' tk1 h' tk' hdr F' N') fun _ _ _ _ _ _ hz => nomatch hz
theorem use_takeL {c : RdC} {pos : Nat} {tk : Tok} {ts r : List Tk} {t : Tk} {rest : Led} (hts : LedTL rest c.l ts) (hs : ts.drop pos = t :: r) (ha : Off c rest) (B : Below A₀ base outer h₀) (F : Fr h₀ L s.heap m) (X : (Mine.hd.heap_1 w.params).In h₀) (N : News h₀ L s.heap ((c.r, instObj 262 c.d) :: (c.d, rdDict w.params c pos tk) :: rest)) (T : Top p loose mean mg mb h₀)
    (hk : cs.kind = .function) (hd : dp + 1 < recursionLimit) (hu : un + 8 * 1 < cLine)
    (k : ∀ ta t1 t2 i t3 n tk1 h' tk', (ta, tokO t.k.str t1 t.w t2 i t3 n) ∈ rest → ts.drop (pos + 1) = r → Fr h₀ L h' m → News h₀ L h' ((c.r, instObj 262 c.d) :: (c.d, rdDict w.params c (pos + 1) tk1) :: rest) → Q (.ref ta) { s with heap := h', toks := tk' }) :
    wpAny (model prog w) (ktrTop dp un gd cn cs L a ccd cl outer) (call (.ref 231) [.ref c.r]) Q E s :=
  rd_useL B F X N T hts (fun q _ => take_c w _ c pos tk ts t r q hs) hk hd hu ha (fun v n' h' tk' hp fr F' N' => by
    obtain ⟨⟨its, ep', h1, h2⟩, hdr, tk1, rfl⟩ := hp
    obtain ⟨ys, ep, hm, hz, hA⟩ := hts
    have e := (N _ (.tail _ (.tail _ hm))).1
    dsimp only at e
    rw [h1] at e
    cases e
    obtain ⟨v', hv', ta, t1, t2, i, t3, n, rfl, hi, ho⟩ := hA.get hs
    have : v = .ref ta := by
      have h3 : ys[pos]? = some v := by simpa using h2
      rw [hv'] at h3; exact (Option.some.inj h3).symm
    subst this
    exact k ta t1 t2 i t3 n tk1 h' tk' ho hdr F' N') fun _ _ _ _ _ _ hz => hz.elim
theorem use_standsL {c : RdC} {pos : Nat} {tk tb : Tok} {ts sfx : List Tk} {b : Array UInt8} {x : Bool} {rest : Led} (hts : LedTL rest c.l ts) (hs : ts.drop pos = sfx) (hx : standsB sfx b.toList = x) (ha : Off c rest) (B : Below A₀ base outer h₀) (F : Fr h₀ L s.heap m) (X : (Mine.hd.heap_1 w.params).In h₀) (N : News h₀ L s.heap ((c.r, instObj 262 c.d) :: (c.d, rdDict w.params c pos tk) :: rest)) (T : Top p loose mean mg mb h₀)
    (hk : cs.kind = .function) (hd : dp + 3 < recursionLimit) (hu : un + 8 * 3 < cLine)
    (k : ∀ h' tk', Fr h₀ L h' m → News h₀ L h' ((c.r, instObj 262 c.d) :: (c.d, rdDict w.params c pos tk) :: rest) → Q (.bool x) { s with heap := h', toks := tk' }) :
    wpAny (model prog w) (ktrTop dp un gd cn cs L a ccd cl outer) (call (.ref 224) [.ref c.r, .bytes b tb]) Q E s :=
  rd_useL B F X N T hts (fun q _ => stands_c w _ c pos tk ts sfx b tb q hs) hk hd hu ha (fun v n' h' tk' hp fr F' N' => by
    obtain ⟨rfl, rfl⟩ := hp
    rw [hx]
    exact k h' tk' F' N') fun _ _ _ _ _ _ hz => hz.elim
theorem tokL_part {value slice : PySem.Expr} {u : Tok} {k : Int} {j : Nat} {x : Value} {t : Tk} {A : Around} {ta : Addr} {t1 t2 t3 : Tok} {i : Int} {n : Nat} (N : News h₀ L s.heap all) (ht : (ta, tokO t.k.str t1 t.w t2 i t3 n) ∈ all)
    (hlo : -(2 ^ 63) ≤ k) (hhi : k < 2 ^ 63) (hj : seqIndex? k 3 = some j) (hx : [Value.str t.k.str t1, .bytes ⟨t.w⟩ t2, .int i t3][j]? = some x) (h : Q x s)
    (hsb : subscripted slice false (.ref ta) (.int k u) = operate [.ref ta, .int k u] (getItem (.ref ta) (.int k u)) := by with_unfolding_all rfl) :
    wpAny (model prog w) A (subscriptTail value slice (.ref ta) (.int k u)) Q E s :=
  item_tupleT (l := [Value.str t.k.str t1, .bytes ⟨t.w⟩ t2, .int i t3]) ⟨_, (N _ ht).1, rfl, _, rfl⟩ hlo hhi hj hx h hsb
theorem reader_new {P : Params} {x dx lw : Addr} {n : Int} {t1 t2 t3 tn tk : Tok} {h : Heap}
    (N : News h₀ L h ((x, instObj 262 dx) :: (dx, dictOf [⟨PyData.keyHash P "tokens", .str "tokens" t1, .ref lw⟩, ⟨PyData.keyHash P "at", .str "at" t2, .int 0 tk⟩, ⟨PyData.keyHash P "length", .str "length" t3, .int n tn⟩] 3) :: all)) (l1 : ∀ q ∈ all, @LT.lt Nat _ q.1 dx) (l2 : @LT.lt Nat _ dx x) :
    ∃ c : RdC, c.r = x ∧ c.l = lw ∧ Off c all ∧ News h₀ L h ((c.r, instObj 262 c.d) :: (c.d, rdDict P c 0 tk) :: all) := ⟨⟨x, dx, lw, n, t1, t2, t3, tn⟩, rfl, rfl, fun q hq => .inl ⟨Nat.ne_of_lt (Nat.lt_trans (l1 q hq) l2), Nat.ne_of_lt (l1 q hq)⟩, N⟩
end
end part_M2
section
variable {prog : Program} {w : World} {p : Program} {loose : List Str} {mean : ExcName → Option Value} {mg mb : Str → Option Value}
    {dp un : Nat} {gd : Option (List Code)} {cn : Str} {cs : Scope} {a : Addr} {ccd : Value} {cl : List (Str × Addr)} {outer : List Env} {A₀ : Around} {base h₀ : Heap} {L : Addr} {m : Str → Option Value} {s : Shared} {Q E : Value → Shared → Prop} {all : Led}
theorem PoolIn.addr {k : Nat} {n : Led} {pa ca : Addr} (H : PoolIn k n pa ca) : ∀ q ∈ n, q.1 = pa ∨ q.1 = ca := by
  obtain ⟨gr, st, pl, t1, t2, t3, ep, ys, ns, ep2, rfl, _⟩ := H
  intro q hq
  simp only [List.mem_cons, List.not_mem_nil, or_false] at hq
  rcases hq with rfl | rfl
  · exact .inl rfl
  · exact .inr rfl
theorem use_draw {pa ca : Addr} {k : Nat} {n rest : Led} {most : Int} {tm : Tok} (B : Below A₀ base outer h₀) (F : Fr h₀ L s.heap m) (X : (Mine.hd.heap_1 w.params).In h₀) (N : News h₀ L s.heap all) (T : Top p loose mean mg mb h₀)
    (hk : cs.kind = .function) (hd : dp + 3 < recursionLimit) (hu : un + 8 * 3 < cLine) (hP : PoolIn k n pa ca) (hk9 : k < 1000) (hm : 0 < most ∧ most ≤ 8) (hs : ∀ q ∈ n, q ∈ all) (hr : ∀ q ∈ rest, q ∈ all ∧ q.1 ≠ pa ∧ q.1 ≠ ca)
    (kk : ∀ d t n' h' tk', 0 ≤ d → d < most → PoolIn (k + 1) n' pa ca → Fr h₀ L h' m → News h₀ L h' (n' ++ rest) → Q (.int d t) { s with heap := h', toks := tk' }) :
    wpAny (model prog w) (ktrTop dp un gd cn cs L a ccd cl outer) (call (.ref 327) [.ref pa, .int most tm]) Q E s :=
  Con.use rest (law_draw_c w s.heap pa ca k n most tm hP hk9 hm) B F X N T hk hd hu hs (fun q hq => ⟨(hr q hq).1, fun hm => by
    obtain ⟨x, hx, e⟩ := List.mem_map.mp hm
    rcases hP.addr x hx with z | z
    · exact (hr q hq).2.1 (e.symm.trans z)
    · exact (hr q hq).2.2 (e.symm.trans z)⟩) (fun v news' h' tk' hp fr F' N' => by
    obtain ⟨⟨d, t, rfl, h1, h2⟩, hP'⟩ := hp
    exact kk d t news' h' tk' h1 h2 hP' F' N') fun _ _ _ _ _ _ hz => hz.elim
theorem use_draw1 {pa ca : Addr} {k : Nat} {n rest : Led} {most : Int} {tm : Tok} (hP : PoolIn k n pa ca) (hk9 : k < 1000) (hm : 0 < most ∧ most ≤ 8) (hr : ∀ q ∈ rest, (@Ne Nat q.1 pa) ∧ (@Ne Nat q.1 ca)) (B : Below A₀ base outer h₀) (F : Fr h₀ L s.heap m) (X : (Mine.hd.heap_1 w.params).In h₀) (N : News h₀ L s.heap (n ++ rest)) (T : Top p loose mean mg mb h₀)
    (hk : cs.kind = .function) (hd : dp + 3 < recursionLimit) (hu : un + 8 * 3 < cLine)
    (kk : ∀ d t n' h' tk', 0 ≤ d → d < most → PoolIn (k + 1) n' pa ca → Fr h₀ L h' m → News h₀ L h' (n' ++ rest) → Q (.int d t) { s with heap := h', toks := tk' }) :
    wpAny (model prog w) (ktrTop dp un gd cn cs L a ccd cl outer) (call (.ref 327) [.ref pa, .int most tm]) Q E s :=
  use_draw B F X N T hk hd hu hP hk9 hm (fun q hq => List.mem_append_left _ hq) (fun q hq => ⟨List.mem_append_right _ hq, (hr q hq).1, (hr q hq).2⟩) kk
theorem use_draw4 {pa ca : Addr} {k : Nat} {n : Led} {q1 q2 q3 q4 : Addr × Obj} {most : Int} {tm : Tok} (hP : PoolIn k n pa ca) (N : News h₀ L s.heap (q1 :: q2 :: q3 :: (n ++ [q4]))) (ha : (pa ≠ q1.1 ∧ pa ≠ q2.1 ∧ pa ≠ q3.1) ∧ (ca ≠ q1.1 ∧ ca ≠ q2.1 ∧ ca ≠ q3.1) ∧ q4.1 ≠ pa ∧ q4.1 ≠ ca)
    (B : Below A₀ base outer h₀) (F : Fr h₀ L s.heap m) (X : (Mine.hd.heap_1 w.params).In h₀) (T : Top p loose mean mg mb h₀)
    (hk : cs.kind = .function) (hd : dp + 3 < recursionLimit) (hu : un + 8 * 3 < cLine) (hk9 : k < 1000) (hm : 0 < most ∧ most ≤ 8)
    (kk : ∀ d t n' h' tk', 0 ≤ d → d < most → PoolIn (k + 1) n' pa ca → Fr h₀ L h' m → News h₀ L h' (n' ++ [q1, q2, q3, q4]) → Q (.int d t) { s with heap := h', toks := tk' }) :
    wpAny (model prog w) (ktrTop dp un gd cn cs L a ccd cl outer) (call (.ref 327) [.ref pa, .int most tm]) Q E s := by
  obtain ⟨⟨a1, a2, a3⟩, ⟨b1, b2, b3⟩, c1, c2⟩ := ha
  refine use_draw B F X N T hk hd hu hP hk9 hm (fun q hq => .tail _ (.tail _ (.tail _ (List.mem_append_left _ hq)))) (fun q hq => ?_) kk
  simp only [List.mem_cons, List.not_mem_nil, or_false] at hq
  rcases hq with rfl | rfl | rfl | rfl
  · exact ⟨.head _, Ne.symm a1, Ne.symm b1⟩
  · exact ⟨.tail _ (.head _), Ne.symm a2, Ne.symm b2⟩
  · exact ⟨.tail _ (.tail _ (.head _)), Ne.symm a3, Ne.symm b3⟩
  · exact ⟨.tail _ (.tail _ (.tail _ (List.mem_append_right _ (.head _)))), c1, c2⟩
end
section part_L2
example : True := by
  k_with "CompSrc" => (k_here; refine' Stop.out ?_)
  trivial
example : True := by
  k_with "call ref" => (k_here; (with_reducible show wpAny _ _ (call (Value.ref 320) _) _ _ _); refine' Stop.out ?_)
  trivial
theorem pool_off {h₀ h : Heap} {L x : Addr} {o : Obj} {k : Nat} {n : Led} {pa ca : Addr} (N : News h₀ L h [(x, o)]) (H : PoolIn k n pa ca) (fr : ∀ q ∈ n, h.get? q.1 = none) : (@Ne Nat x pa) ∧ (@Ne Nat x ca) := by
  obtain ⟨gr, st, pl, t1, t2, t3, ep, ys, ns, ep2, rfl, _⟩ := H
  have hx := (N _ (.head _)).1
  refine ⟨fun e => ?_, fun e => ?_⟩
  · have := fr _ (.head _)
    rw [show (x : Addr) = pa from e, this] at hx; cases hx
  · have := fr _ (.tail _ (.head _))
    rw [show (x : Addr) = ca from e, this] at hx; cases hx
theorem item_pieces {prog : Program} {w : World} {A : Around} {E : Value → Shared → Prop} {s : Shared} {h₀ : Heap} {L : Addr} {m : Str → Option Value} {Q : Value → Shared → Prop} {value slice : PySem.Expr} {d : Int} {u : Tok} (F : Fr h₀ L s.heap m) (X : (Mine.hd.heap_1 w.params).In h₀) (h0 : 0 ≤ d) (h1 : d < 8)
    (h : ∀ t, Q (.bytes ⟨piece d.toNat⟩ t) s) (hsb : subscripted slice false (.ref 328) (.int d u) = operate [.ref 328, .int d u] (getItem (.ref 328) (.int d u)) := by with_unfolding_all rfl) :
    wpAny (model prog w) A (subscriptTail value slice (.ref 328) (.int d u)) Q E s := by
  have X1 := X.keeps F.keep
  have h328 := in_of (a := 328) X1 (by k_dflt k_is)
  have : d = 0 ∨ d = 1 ∨ d = 2 ∨ d = 3 ∨ d = 4 ∨ d = 5 ∨ d = 6 ∨ d = 7 := by omega
  rcases this with rfl | rfl | rfl | rfl | rfl | rfl | rfl | rfl <;> exact item_tupleT ⟨_, h328, rfl, _, rfl⟩ (by decide) (by decide) rfl rfl (h _) hsb
theorem comp_endP {h₀ h' : Heap} {L I C D x pa ca : Addr} {m : Str → Option Value} {s₁ : Shared} {oI oC oD o : Obj} {S : Led → Prop} {rest : Value → Led → Prop} {y : Value} {tk k : Nat} {n' : Led} (hP : PoolIn k n' pa ca)
    (F' : Fr h₀ L h' m) (N' : News h₀ L h' (n' ++ [(I, oI), (C, oC), (D, oD), (x, o)])) (hpa : pa ≠ I ∧ pa ≠ C ∧ pa ≠ D) (hca : ca ≠ I ∧ ca ≠ C ∧ ca ≠ D) (hx : x ≠ I ∧ x ≠ C ∧ x ≠ D) (hS : S (n' ++ [(x, o)])) (r : rest y (n' ++ [(x, o)])) :
    LCg.CompEnd h₀ L m s₁ I oI C oC D oD S rest y { s₁ with heap := h', toks := tk } := by
  refine LCg.CompEnd.intro F' N' (n' ++ [(x, o)]) (fun p hp => ?_) (LCg.Off3.of fun p hp => ?_) hS r
  · simp only [List.mem_cons, List.mem_append, List.not_mem_nil, or_false] at hp ⊢
    rcases hp with h | h | h | h | h
    · exact .inr (.inl h)
    · exact .inr (.inr (.inl h))
    · exact .inr (.inr (.inr (.inl h)))
    · exact .inl h
    · exact .inr (.inr (.inr (.inr h)))
  · rcases List.mem_append.mp hp with hp | hp
    · rcases hP.addr p hp with e | e <;> rw [e]
      · exact hpa
      · exact hca
    · rw [List.mem_singleton.mp hp]; exact hx
theorem law_base {h h1 : Heap} {L : Addr} {m : Str → Option Value} (_F : Fr h L h1 m) {x : Heap} (K : Below callerA x [] x) (e : x = h) : Below callerA h [] h := e ▸ K
example : True := by
  k_with "call ref" => (k_here; (with_reducible show wpAny _ _ (call (Value.ref 327) _) _ _ _); refine' Stop.out ?_)
  trivial
example : True := by
  k_with "subscriptTail" => (k_here; (with_reducible show wpAny _ _ (subscriptTail _ _ (Value.ref 328) (Value.int _ _)) _ _ _); refine' Stop.out ?_)
  trivial
theorem piece_w : ∀ i, i < 8 → (piece i == [120]) = kW i := by decide
theorem piece_r : ∀ i, i < 8 → (!([120] == piece i || [40, 64, 110, 111, 41] == piece i)) = kR i := by decide
theorem any_w : ∀ (l : List (List UInt8 × Tok)) (is : List Nat), l.map (·.1) = is.map piece → (∀ j ∈ is, j < 8) → (l.any fun p => p.1 == [120]) = isW is
  | [], [], _, _ => rfl
  | p :: l, i :: is, h, h8 => by
    rw [List.map_cons, List.map_cons, List.cons.injEq] at h
    rw [List.any_cons, h.1, any_w l is h.2 fun j hj => h8 j (.tail _ hj), piece_w i (h8 i (.head _))]
    rfl
  | [], _ :: _, h, _ => nomatch h
  | _ :: _, [], h, _ => nomatch h
theorem any_r : ∀ (l : List (List UInt8 × Tok)) (is : List Nat), l.map (·.1) = is.map piece → (∀ j ∈ is, j < 8) → (l.any fun p => !([120] == p.1 || [40, 64, 110, 111, 41] == p.1)) = isR is
  | [], [], _, _ => rfl
  | p :: l, i :: is, h, h8 => by
    rw [List.map_cons, List.map_cons, List.cons.injEq] at h
    rw [List.any_cons, h.1, any_r l is h.2 fun j hj => h8 j (.tail _ hj), piece_r i (h8 i (.head _))]
    rfl
  | [], _ :: _, h, _ => nomatch h
  | _ :: _, [], h, _ => nomatch h
theorem in_listX {prog : Program} {w : World} {A : Around} {E : Value → Shared → Prop} {s : Shared} {h₀ : Heap} {L : Addr} {news : Led} {Q : Value → Shared → Prop} {D : Addr} {ep : Nat} {l : List (List UInt8 × Tok)} {x : List UInt8} {u : Tok} {b : Bool} (N : News h₀ L s.heap news) (hD : (D, lo (BJ.bvals l) ep) ∈ news)
    (hx : (l.any fun p => p.1 == x) = b) (h : Q (.bool b) s) : wpAny (model prog w) A (compareOp .In (.bytes ⟨x⟩ u) (.ref D)) Q E s := BC.in_list N hD (hx ▸ h)
example : True := by
  k_with "compareOp In" => (k_here; (with_reducible show wpAny _ _ (compareOp CmpOp.In (Value.bytes _ _) (Value.ref _)) _ _ _); k_dflt (apply in_listX; (case N => k_asm); (case hD => exact .head _); (case hx => assumption); (case' h => skip)))
  trivial
theorem notin_twoX {prog : Program} {w : World} {A : Around} {E : Value → Shared → Prop} {s : Shared} {h₀ : Heap} {L : Addr} {news : Led} {Q : Value → Shared → Prop} {D : Addr} {n : Nat} {x y z : List UInt8} {t u v : Tok} {b : Bool} (N : News h₀ L s.heap news) (hD : (D, ({ cls := .type "tuple", data := .seq #[.bytes ⟨y⟩ t, .bytes ⟨z⟩ u] n } : Obj)) ∈ news)
    (hx : (!(y == x || z == x)) = b) (h : Q (.bool b) s) : wpAny (model prog w) A (compareOp .NotIn (.bytes ⟨x⟩ v) (.ref D)) Q E s := BC.notin_two N hD (hx ▸ h)
example : True := by
  k_with "compareOp NotIn" => (k_here; (with_reducible show wpAny _ _ (compareOp CmpOp.NotIn (Value.bytes _ _) (Value.ref _)) _ _ _); k_dflt (apply notin_twoX; (case N => k_asm); (case hD => exact .head _); (case hx => assumption); (case' h => skip)))
  trivial
theorem comp_endT {h₀ h' : Heap} {L I C D : Addr} {m : Str → Option Value} {s₁ : Shared} {oI oC oD : Obj} {S : Led → Prop} {rest : Value → Led → Prop} {y : Value} {tk : Nat} {nw : Led} {q : Addr × Obj} (F' : Fr h₀ L h' m)
    (N' : News h₀ L h' (q :: (I, oI) :: (C, oC) :: (D, oD) :: nw)) (off : LCg.Off3 I C D nw) (hS : S nw) (r : rest y nw) : LCg.CompEnd h₀ L m s₁ I oI C oC D oD S rest y { s₁ with heap := h', toks := tk } :=
  LCg.CompEnd.intro F' N' nw (fun _ hp => .tail _ hp) off hS r
theorem ne_nilX {prog : Program} {w : World} {A : Around} {E : Value → Shared → Prop} {s : Shared} {h₀ : Heap} {L : Addr} {news : Led} {Q : Value → Shared → Prop} {D D' : Addr} {n n' : Nat} {ys : List Value} {b : Bool} (N : News h₀ L s.heap news) (hD : (D, ({ cls := .type "list", data := .seq ys.toArray n } : Obj)) ∈ news) (hD' : (D', ({ cls := .type "list", data := .seq #[] n' } : Obj)) ∈ news) (hu : A.units < cLine)
    (hb : (!ys.isEmpty) = b) (h : Q (.bool b) s) : wpAny (model prog w) A (compareOp .NotEq (.ref D) (.ref D')) Q E s := BC.ne_nil N hD hD' hu (hb ▸ h)
example : True := by
  k_with "compareOp NotEq ref ref" => (k_here; (with_reducible show wpAny _ _ (compareOp CmpOp.NotEq (Value.ref _) (Value.ref _)) _ _ _); k_dflt (apply ne_nilX; (case N => k_asm); (case hD => exact .tail _ (.head _)); (case hD' => exact .head _); (case hu => first | ktr_units | ktr_room); (case hb => assumption); (case' h => skip)))
  trivial
theorem take_any {α : Type} {l : List α} {i : Nat} {p : α} (f : α → Bool) (hp : l[i]? = some p) : (l.take (i + 1)).any f = ((l.take i).any f || f p) := by
  rw [List.take_add_one, hp, List.any_append]
  simp
section
variable {is : List Nat} (hl : is.length ≤ 5)
include hl
theorem hw_some (hR : isR is = true) (hW : isW is = false) : Heard ((preB ++ routeB is) ++ sufWB) (some plain) := by
  have := heard_whole is hl
  rw [hR, hW, ← List.append_assoc] at this
  exact this
theorem hw_none (h : isR is = false ∨ isW is = true) : Heard ((preB ++ routeB is) ++ sufWB) none := by
  have := heard_whole is hl
  rw [← List.append_assoc] at this
  rcases h with h | h <;> rw [h] at this
  · exact this
  · rw [show (isR is && !true) = false by cases isR is <;> rfl] at this; exact this
theorem ho_some (hR : isR is = false) (hW : isW is = false) : Heard ((preB ++ routeB is) ++ sufOB) (some plain) := by
  have := heard_open is hl
  rw [hR, hW, ← List.append_assoc] at this
  exact this
theorem ho_none (h : isR is = true ∨ isW is = true) : Heard ((preB ++ routeB is) ++ sufOB) none := by
  have := heard_open is hl
  rw [← List.append_assoc] at this
  rcases h with h | h <;> rw [h] at this
  · exact this
  · rw [Bool.or_true] at this; exact this
theorem hi_some (hR : isR is = true) (hW : isW is = false) : Heard ((preIB ++ routeB is) ++ sufIB) (some plain) := by
  have := heard_inner is hl
  rw [hR, hW, ← List.append_assoc] at this
  exact this
theorem hi_none (h : isR is = false ∨ isW is = true) : Heard ((preIB ++ routeB is) ++ sufIB) none := by
  have := heard_inner is hl
  rw [← List.append_assoc] at this
  rcases h with h | h <;> rw [h] at this
  · exact this
  · rw [show (isR is && !true) = false by cases isR is <;> rfl] at this; exact this
end
example : True := by
  k_with "call ref" => (k_here; (with_reducible show wpAny _ _ (call (Value.ref 333) _) _ _ _); k_dflt (first | (apply use_heardS; (case H => assumption); (case B => k_asm); (case F => k_asm); (case X => k_asm); (case N => k_asm); (case T => k_asm); (case hk => exact rfl); (case hd => ktr_room); (case hu => ktr_units); (case' k => skip); intro _ _ _ _ _ _ _; (try k_sweep)) | (apply use_heardN; (case H => assumption); (case B => k_asm); (case F => k_asm); (case X => k_asm); (case N => k_asm); (case T => k_asm); (case hk => exact rfl); (case hd => ktr_room); (case hu => ktr_units); (case' k => skip); intro _ _ _ _; (try k_sweep))))
  trivial
example : True := by
  k_with "call builtin:len" => (k_here; (with_reducible show wpAny _ _ (call (Value.builtin "len") [Value.ref _]) _ _ _); k_dflt (apply len_rdK (k := 3); (case hr => assumption); (case N => k_asm); (case hm => (intro _ hq; simp only [List.mem_append, List.mem_cons, hq, true_or, or_true])); (case hz => decide); (case hk => exact rfl); (case' h => skip)); intro _)
  trivial
example : True := by
  k_with "binaryOp Add bytes bytes" => (k_here; k_dflt (apply BC.add_b; (case hsz => (simp only [List.length_append, List.length_cons, List.length_nil]; omega)); (case' h => skip)); intro _ _)
  trivial
example : True := by
  k_with "compareOp NotEq ref ref" => (k_here; (with_reducible show wpAny _ _ (compareOp CmpOp.NotEq (Value.ref _) (Value.ref _)) _ _ _); k_dflt (apply ne_rd; (case hx => assumption); (case hy => assumption); (case N => k_asm); (case h1 => (intro q hq; simp only [List.mem_append, List.mem_cons, hq, true_or, or_true])); (case h2 => (intro q hq; simp only [List.mem_append, List.mem_cons, hq, true_or, or_true])); (case s1 => exact plD_shaped); (case s2 => exact plD_shaped); (case hu => first | ktr_units | ktr_room); (case hb => exact plD_self.1); (case' h => skip)))
  trivial
example : True := by
  k_with "compareOp Eq ref ref" => (k_here; (with_reducible show wpAny _ _ (compareOp CmpOp.Eq (Value.ref _) (Value.ref _)) _ _ _); k_dflt (apply eq_rd; (case hx => assumption); (case hy => assumption); (case N => k_asm); (case h1 => (intro q hq; simp only [List.mem_append, List.mem_cons, hq, true_or, or_true])); (case h2 => (intro q hq; simp only [List.mem_append, List.mem_cons, hq, true_or, or_true])); (case s1 => exact plD_shaped); (case s2 => exact plD_shaped); (case hu => first | ktr_units | ktr_room); (case hb => exact plD_self.2); (case' h => skip)))
  trivial
example : True := by
  k_with "compareOp NotEq none none" => (k_here; with_reducible (apply ne_none; (case' h => skip)))
  trivial
example : True := by
  k_with "compareOp Eq none none" => (k_here; with_reducible (apply eq_none; (case' h => skip)))
  trivial
example : True := by
  k_with "call ref" => (k_here; (with_reducible show wpAny _ _ (call (Value.ref 118) _) _ _ _); refine' Stop.out ?_)
  trivial
example : True := by
  k_with "call ref" => (k_here; (with_reducible show wpAny _ _ (call (Value.ref 123) _) _ _ _); refine' Stop.out ?_)
  trivial
example : True := by
  k_with "call ref" => (k_here; (with_reducible show wpAny _ _ (call (Value.ref 287) _) _ _ _); refine' Stop.out ?_)
  trivial
example : True := by
  k_with "call ref" => (k_here; (with_reducible show wpAny _ _ (call (Value.ref 231) _) _ _ _); refine' Stop.out ?_)
  trivial
example : True := by
  k_with "call ref" => (k_here; (with_reducible show wpAny _ _ (call (Value.ref 224) _) _ _ _); refine' Stop.out ?_)
  trivial
example : True := by
  k_with "call ref" => (k_here; (with_reducible show wpAny _ _ (call (Value.ref 262) _) _ _ _); k_dflt (apply call_cls; (case F => k_asm); (case X₀ => k_asm); (case N => k_asm); (case hm => k_is); (case hi => k_is); (case hf => k_is); (case' h => skip); k_whole; intro _ _ _ _ _ zl1 zl2; (have zl3 := Hold.mk zl1); (have zl4 := Hold.mk zl2); (try k_lt zl1); (try k_lt2 zl2); (try k_sweep); (apply code_def; (case hA => exact rfl); (case hf => exact rfl); (case hke => first | exact rfl | assumption); (case B => k_asm); (case F => k_asm); (case X₀ => k_asm); (case N => k_asm); (case T => k_asm); (case ho => k_is); (case hcd => k_is); (case hroom => ktr_room); (case hbind => first | exact BindsTo.of_eq rfl | exact binds_K (by k_in) rfl (by k_is) rfl rfl rfl); (case hcell => decide); (case hloc => exact locs rfl); (case hco => exact rfl); (case hgen => exact rfl); (case hk => exact rfl); (case' h => skip); k_whole; intro _ _ _ _ _ _ _ _ _; (try dsimp only); (try k_fold))))
  trivial
example : True := by
  k_with "subscriptTail" => (k_here; (with_reducible show wpAny _ _ (subscriptTail _ _ (Value.ref _) (Value.int _ _)) _ _ _); k_dflt (apply tokL_part; (case N => k_asm); (case ht => exact .tail _ (.tail _ (by assumption))); (case hlo => decide); (case hhi => decide); (case hj => exact rfl); (case hx => exact rfl); (case hsb => with_unfolding_all rfl); (case' h => skip)))
  trivial
example : True := by
  k_with "subscriptTail" => (k_here; (with_reducible show wpAny _ _ (subscriptTail _ _ (Value.ref 328) (Value.int _ _)) _ _ _); refine' Stop.out ?_)
  trivial
example : True := by
  k_with "compareOp NotEq bytes bytes" => (k_here; k_dflt (apply BC.ne_b (x := false); (case hx => exact rfl); (case' h => skip)))
  trivial
local macro_rules | `(tactic| k_qdec) => `(tactic| decide +kernel)
theorem law_all : PySem.Challenge.rw_or0054_01.Holds := by
  refine hd ?_
  k_go0
  all_goals try k_fold
  rename Below callerA _ _ _ => K9
  rename Fr _ _ _ _ => F9
  rename Heap.IsList _ _ _ => I9
  rename Frag.In _ _ => X9
  rename Top _ _ _ _ _ _ => T9
  rename IntsAre _ _ => A9
  rename ¬ _ < _ => Z9
  have B9 := law_base F9 K9 rfl
  clear K9
  k_steps
  refine Stop.mk ?_
  refine use0 (law_box_c _ _ _ _ _ (Heap.IsList.at I9 fun o e => Fr.keep (by k_asm) _ _ e) A9 Z9) B9 (by k_asm) X9 (by k_asm) T9 rfl (by ktr_room) (by ktr_units) fun v n' h' tk' hp fr F1 N1 => ?_
  obtain ⟨pa, ca, rfl, hP⟩ := hp
  rename News _ _ _ [_] => N0
  have hcell := pool_off N0 hP fr
  obtain ⟨gr, st, pl, t1, t2, t3, ep, ys, ns, ep2, rfl, hP2⟩ := id hP
  have hlt : @LT.lt Nat _ ca pa := hP2.2.2.2.1
  simp only [List.cons_append, List.nil_append] at N1
  walk1
  walk1
  walk1
  k_dflt (refine' LCg.Assign_ListComp_U ?zz1 ?zy1 ?zy2 ?zz2 ?zz3 ?zz4 ?zz5 ?zz6 ?zy3 ?zy4 ?zz7 ?zz8)
  case zz8 => intro _; rfl
  case zz1 => k_asm
  case zy1 => rfl
  case zy2 => rfl
  case zz2 => rfl
  case zz3 => decide
  case zz4 => rfl
  case zz5 => decide
  case zz6 => rfl
  case zy3 => rfl
  case zy4 => rfl
  k_steps
  refine Stop.mk ?_
  rename News _ _ _ _ => NX
  rename _ = Data.cell _ => hcd9
  refine use_draw1 hP (by decide) (by decide) (rest := [_]) ?hr B9 (by k_asm) X9 NX T9 rfl (by ktr_room) (by ktr_units) fun d0 t0 n1 h1 tk1 hd0 hd1 hP1 F2 N2 => ?_
  case hr => intro q hq; rw [List.mem_singleton.mp hq]; exact hcell
  k_steps
  refine Stop.mk ?_
  rename IsRange _ _ _ _ _ _ _ _ => hR9
  rename News _ _ _ _ => NY
  obtain ⟨n5, rfl⟩ : ∃ n5 : Nat, d0 = n5 := Int.eq_ofNat_of_zero_le hd0
  refine LCg.CompSrc.range (n := n5) rfl (by k_asm) NY hR9 (small_one (by decide) (by decide) (by omega) (by omega)) (by rw [rangeSize_nat]; first | rfl | (congr 1; omega)) (by rw [sizeLine_eq]; omega) fun g' => ?_
  refine rest_inv (n := n5) (fun i ys nw => Hold (∃ n' l is, nw = n' ++ [_] ∧ PoolIn (i + 1) n' pa ca ∧ ys = BJ.bvals l ∧ l.map (·.1) = is.map piece ∧ (∀ j ∈ is, j < 8) ∧ is.length = i)) ?step ?fin n5 0 [] _ (Nat.zero_add _) (Hold.mk ⟨n1, [], [], rfl, hP1, rfl, rfl, (fun _ h => nomatch h), rfl⟩)
  case step =>
    rintro i ys nw v I oI C oC D m₂ h tk E' hi hJ ⟨tv, hv⟩ hC hx F3 N3 off ne
    obtain ⟨n', l, is, rfl, hPi, rfl, hl, his, hln⟩ := hJ
    have hPi0 := hPi
    obtain ⟨gr, st, pl, t1, t2, t3, ep, ys, ns, ep2, rfl, hP2⟩ := hPi
    have hpa := off.mem _ (.head _)
    have hca := off.mem _ (.tail _ (.head _))
    have hxc := off.mem _ (.tail _ (.tail _ (.head _)))
    simp only [List.cons_append, List.nil_append] at N3
    k_steps
    refine Stop.mk ?_
    rename News _ _ _ _ => NS
    refine use_draw4 hPi0 NS ⟨hpa, hca, hcell⟩ B9 (by k_asm) X9 T9 rfl (by ktr_room) (by ktr_units) (by omega) (by decide) fun d1 t9 n2 h2 tk2 hd2 hd3 hP3 F4 N4 => ?_
    walk1
    refine Stop.mk ?_
    refine item_pieces (by k_asm) X9 hd2 hd3 (fun tp => ?_)
    try k_unfold
    try dsimp only
    refine comp_endP hP3 F4 N4 hpa hca hxc ?hS (Hold.mk ⟨n2, l ++ [(piece d1.toNat, tp)], is ++ [d1.toNat], rfl, hP3, ?_, ?_, ?_, ?_⟩)
    case hS => trivial
    · rw [BJ.bvals_snoc]
    · rw [List.map_append, List.map_append, hl]; rfl
    · intro j hj
      rcases List.mem_append.mp hj with hj | hj
      · exact his j hj
      · rw [List.mem_singleton.mp hj]; omega
    · rw [List.length_append, hln]; rfl
  case fin =>
    rintro ys nw hJ
    obtain ⟨n', l, is, rfl, hP3, rfl, hl, his, hln⟩ := hJ
    have hl5 : is.length ≤ 5 := by omega
    have hrz := (route_len is).1
    have hz : (BJ.catB [32] (is.map piece)).length < 2 ^ 16 := by show (routeB is).length < _; omega
    have hlz : l.length < 2 ^ 10 := by have := congrArg List.length hl; rw [List.length_map, List.length_map] at this; omega
    have hw := any_w l is hl his
    have hv := any_r l is hl his
    obtain ⟨bw, hW⟩ : ∃ b, isW is = b := ⟨_, rfl⟩
    obtain ⟨br, hR⟩ : ∃ b, isR is = b := ⟨_, rfl⟩
    rw [hW] at hw
    rw [hR] at hv
    intro D h' tk F5 N5 o5
    have N6 := news_hd1 N5
    clear N5
    try dsimp only
    k_steps
    refine Stop.mk ?_
    k_dflt (refine LCt.ListComp_T (F₀ := by k_asm) (by rfl) (by decide) (by rfl) (by decide) (by rfl) ?_)
    walk1
    rename News _ _ _ _ => N7
    refine LCt.CompSrcT.ledger (its := (BJ.bvals l).toArray) rfl (by k_asm) N7 (.head _) (by rw [sizeLine_eq]; simp only [BJ.bvals, List.size_toArray, List.length_map]; omega) fun g' => ?_
    refine rest_invT (n := (BJ.bvals l).toArray.size) (fun i ys nw => Hold (nw = [(D, LCg.lst (BJ.bvals l))] ∧ ys.isEmpty = !((l.take i).any fun p => !([120] == p.1 || [40, 64, 110, 111, 41] == p.1)))) ?step2 ?fin2 (BJ.bvals l).toArray.size 0 [] _ (Nat.zero_add _) (Hold.mk ⟨rfl, rfl⟩)
    case step2 =>
      rintro i ys nw v I oI C oC D2 m₂ h tk E' hi hJ hv9 hC hx F1 N1 off ne
      obtain ⟨rfl, hys⟩ := hJ
      obtain ⟨⟨pw, pt⟩, hp⟩ : ∃ p, l[i]? = some p := ⟨_, List.getElem?_eq_getElem (by simpa [BJ.bvals] using hi)⟩
      have : v = .bytes ⟨pw⟩ pt := by
        have h1 : (BJ.bvals l)[i]? = some v := by simpa using hv9
        rw [BJ.bvals, List.getElem?_map, hp] at h1
        exact (Option.some.inj h1).symm
      subst this
      cases hb : !([120] == pw || [40, 64, 110, 111, 41] == pw)
      all_goals k_steps
      all_goals rename News _ _ _ _ => N8
      all_goals refine comp_endT (by k_asm) N8 off (.inr ⟨_, .head _, rfl, _, rfl⟩) (Hold.mk ⟨rfl, ?_⟩)
      · rw [take_any _ hp, hys]
        show (!_) = !(_ || (!([120] == pw || [40, 64, 110, 111, 41] == pw)))
        rw [hb, Bool.or_false]
      · rw [take_any _ hp]
        show _ = !(_ || (!([120] == pw || [40, 64, 110, 111, 41] == pw)))
        rw [hb, Bool.or_true]
        cases ys <;> rfl
    case fin2 =>
      rintro ys nw hJ
      obtain ⟨rfl, hys⟩ := hJ
      have hys2 : (!ys.isEmpty) = br := by
        rw [hys, List.take_of_length_le (by simp [BJ.bvals]), hv, Bool.not_not]
      intro D2 h' tk F1 N1 o1
      try dsimp only
      have hPl := heard_plain
      have hrz2 : (BJ.catB [32] (is.map piece)).length < 200 := by show (routeB is).length < _; omega
      clear hys hw hv hz hlz o1 o5
      cases bw <;> cases br
      · have hWh := hw_none hl5 (.inl hR)
        have hOp := ho_some hl5 hR hW
        have hIn := hi_none hl5 (.inl hR)
        k_steps
      · have hWh := hw_some hl5 hR hW
        have hOp := ho_none hl5 (.inl hR)
        have hIn := hi_some hl5 hR hW
        k_steps
        refine Stop.mk ?_
        obtain ⟨r1, r2, toks, r3, r4, r5⟩ := reader_law is hl5 hR hW
        rename News _ _ _ _ => N8
        refine use_tokens r1 r2 r3 r4 B9 (by k_asm) X9 N8 T9 rfl (by ktr_room) (by ktr_units) fun tl n6 h6 tk6 hLT F6 N6 => ?_
        clear N8
        k_steps
        refine Stop.mk ?_
        refine use_wcL B9 (by k_asm) X9 N6 T9 rfl (by ktr_room) (by ktr_units) hLT fun lw wys wep h7 tk7 hLT2 F7 N7 => ?_
        clear N6
        have hz5 : (BJ.catB [32] (is.map piece)).length < 2 ^ 16 := by omega
        k_steps
        refine Stop.mk ?_
        rename News _ _ _ _ => N8
        obtain ⟨c, rfl, rfl, hoff, N12⟩ := reader_new N8 (by assumption) (by assumption)
        clear N8
        refine use_pass (pos := 0) hLT2 rfl r5 hoff B9 (by k_asm) X9 N12 T9 rfl (by ktr_room) (by ktr_units) fun pos1 tk1 h8 tk8 hdr F8 N13 => ?_
        clear N12
        k_steps
        refine Stop.mk ?_
        rename News _ _ _ _ => N14
        refine use_takeL (t := ⟨.atom, [99]⟩) (r := [⟨.sign, [64]⟩, ⟨.atom, [100]⟩]) hLT2 hdr hoff B9 (by k_asm) X9 N14 T9 rfl (by ktr_room) (by ktr_units) fun ta ta1 ta2 tai ta3 tan tk3 h10 tk10 hta hdr2 F10 N15 => ?_
        clear N14
        k_steps
        refine Stop.mk ?_
        rename News _ _ _ _ => N16
        refine use_standsL (x := true) hLT2 hdr2 rfl hoff B9 (by k_asm) X9 N16 T9 rfl (by ktr_room) (by ktr_units) fun h11 tk11 F11 N17 => ?_
        clear N16
        k_steps
      · have hWh := hw_none hl5 (.inr hW)
        have hOp := ho_none hl5 (.inr hW)
        have hIn := hi_none hl5 (.inr hW)
        k_steps
      · have hWh := hw_none hl5 (.inr hW)
        have hOp := ho_none hl5 (.inr hW)
        have hIn := hi_none hl5 (.inr hW)
        k_steps
end part_L2
end Mine
theorem PySem.Challenge.cw_or0054_01_holds : PySem.Challenge.rw_or0054_01.Holds := by
  exact Mine.law_all
